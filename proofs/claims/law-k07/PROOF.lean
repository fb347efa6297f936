import PyProof.Rows.All
import Wide.All
import OpenK.AllK
import Wide.FinOn
import HandS.ForMost
import HandS.ForExc
import HandS.Zip
import HandS.Conv
import HandS.Rev
import KE.DataEq
import KE.DataCmp
import KE.DataIsa
import KE.SortData
import KE.DataMinMax
import KE.DataAny
import HandS.TupAny
import HandS.IsInst
import HandS.EndBits
import KE.DataFind
import PyProof.SeqIndex
import HandS.Dict
import PyProof.ReprRoads
import HandS.TupMul
import HandS.Iter
import HandS.Defaults
import HandS.MakeKwOnly
import PyProof.FitsInt
import PyProof.StrLawsRepr
import PySem.Challenge.RW_fieldtold_k07_least_covers_listed
set_option Elab.async false
set_option linter.all false
set_option maxRecDepth 100000
/-! Ft1: trees, slots, steps. -/
namespace Ft
open PySem L2 PySem.Spec PyProof.Rows

abbrev D := PyData
abbrev Sg := L2.St
def kD : Key → D
  | .inl i => .int i
  | .inr s => .str s

mutual
/-- v stands for the tree in the frozen heap F -/
def Rep (K : PySem.W.Frag) (F : Hp) : D → V → Prop
  | .none, v => v = .non
  | .bool b, v => v = .bl b
  | .int i, v => v = .int i
  | .str s, v => v = .str s
  | .list ds, v => ∃ a vs, v = .ref a ∧ Rd F a (.lst vs) ∧ Reps K F ds vs
  | .tuple ds, v => ∃ a vs, v = .ref a ∧ F a = some (.tup vs) ∧ Reps K F ds vs
  | .dict kvs, v => ∃ a vs, v = .ref a ∧ ((∃ es : List (Key × V), Rd F a (.dK es) ∧ kvs.map (·.1) = es.map (fun e => kD e.1) ∧ vs = es.map (·.2)) ∨
      (∃ es : List (List Key × V), Rd F a (.dT es) ∧ kvs.map (·.1) = es.map (fun e => PyData.tuple (e.1.map kD)) ∧ vs = es.map (·.2))) ∧ RepP K F kvs vs
def Reps (K : PySem.W.Frag) (F : Hp) : List D → List V → Prop
  | [], vs => vs = []
  | d :: ds, vs => ∃ v r, vs = v :: r ∧ Rep K F d v ∧ Reps K F ds r
def RepP (K : PySem.W.Frag) (F : Hp) : List (D × D) → List V → Prop
  | [], vs => vs = []
  | (_, d) :: ds, vs => ∃ v r, vs = v :: r ∧ Rep K F d v ∧ RepP K F ds r
end

theorem rdSame {F F' : Hp} {a : Addr} {u : HO} (e : Same F F') (h : Rd F a u) : Rd F' a u := h.imp (e _ _) fun ⟨o, z⟩ => ⟨o, e _ _ z⟩
theorem sameT {K : PySem.W.Frag} {F F' : Hp} {a : Addr} {xs : List V} (e : Same F F') (h : SqT K F a xs) : SqT K F' a xs := by
  rcases h with (h | ⟨o, h⟩) | h
  · exact .inl (.inl (e _ _ h))
  · exact .inl (.inr ⟨o, e _ _ h⟩)
  · exact .inr h
/-- what is read, and not locked -/
def Nf (u : HO) : Prop := ∀ o w, u ≠ .frz o w
/-- all that was read can be read -/
def Rds (F F' : Hp) : Prop := (∀ b u, Nf u → Rd F b u → Rd F' b u) ∧ ∀ b vs, F b = some (.tup vs) → F' b = some (.tup vs)
theorem Same.rds {F F' : Hp} (e : Same F F') : Rds F F' := ⟨fun _ _ _ h => rdSame e h, fun _ _ h => e _ _ h⟩
theorem nf_lst {l : List V} : Nf (.lst l) := fun _ _ h => by cases h
theorem nf_tup {l : List V} : Nf (.tup l) := fun _ _ h => by cases h
theorem nf_dK {l : List (Key × V)} : Nf (.dK l) := fun _ _ h => by cases h
theorem nf_dT {l : List (List Key × V)} : Nf (.dT l) := fun _ _ h => by cases h
mutual
theorem Rep.monoR {K : PySem.W.Frag} {F F' : Hp} (e : Rds F F') : ∀ (d : D) (v : V), Rep K F d v → Rep K F' d v
  | .none, v, h => by simpa only [Rep] using h
  | .bool b, v, h => by simpa only [Rep] using h
  | .int i, v, h => by simpa only [Rep] using h
  | .str s, v, h => by simpa only [Rep] using h
  | .list ds, v, h => by
    simp only [Rep] at h ⊢
    obtain ⟨a, vs, rfl, q, r⟩ := h
    exact ⟨a, vs, rfl, e.1 _ _ nf_lst q, Reps.monoR e ds vs r⟩
  | .tuple ds, v, h => by
    simp only [Rep] at h ⊢
    obtain ⟨a, vs, rfl, q, r⟩ := h
    exact ⟨a, vs, rfl, e.2 _ _ q, Reps.monoR e ds vs r⟩
  | .dict kvs, v, h => by
    simp only [Rep] at h ⊢
    obtain ⟨a, vs, rfl, q, r⟩ := h
    refine ⟨a, vs, rfl, ?_, RepP.monoR e kvs vs r⟩
    rcases q with ⟨es, q1, q2, q3⟩ | ⟨es, q1, q2, q3⟩
    · exact .inl ⟨es, e.1 _ _ nf_dK q1, q2, q3⟩
    · exact .inr ⟨es, e.1 _ _ nf_dT q1, q2, q3⟩
theorem Reps.monoR {K : PySem.W.Frag} {F F' : Hp} (e : Rds F F') : ∀ (ds : List D) (vs : List V), Reps K F ds vs → Reps K F' ds vs
  | [], vs, h => by simpa only [Reps] using h
  | d :: ds, vs, h => by
    simp only [Reps] at h ⊢
    obtain ⟨v, r, rfl, h1, h2⟩ := h
    exact ⟨v, r, rfl, Rep.monoR e d v h1, Reps.monoR e ds r h2⟩
theorem RepP.monoR {K : PySem.W.Frag} {F F' : Hp} (e : Rds F F') : ∀ (ds : List (D × D)) (vs : List V), RepP K F ds vs → RepP K F' ds vs
  | [], vs, h => by simpa only [RepP] using h
  | (k, d) :: ds, vs, h => by
    simp only [RepP] at h ⊢
    obtain ⟨v, r, rfl, h1, h2⟩ := h
    exact ⟨v, r, rfl, Rep.monoR e d v h1, RepP.monoR e ds r h2⟩
end
theorem Rep.mono {K : PySem.W.Frag} {F F' : Hp} (e : Same F F') (d : D) (v : V) (h : Rep K F d v) : Rep K F' d v := h.monoR (Same.rds e)
theorem Reps.mono {K : PySem.W.Frag} {F F' : Hp} (e : Same F F') (ds : List D) (vs : List V) (h : Reps K F ds vs) : Reps K F' ds vs := h.monoR (Same.rds e)
theorem RepP.mono {K : PySem.W.Frag} {F F' : Hp} (e : Same F F') (ds : List (D × D)) (vs : List V) (h : RepP K F ds vs) : RepP K F' ds vs := h.monoR (Same.rds e)
section
variable {K : PySem.W.Frag} {F F' H : Hp}
theorem reps_nil {vs : List V} : Reps K F [] vs ↔ vs = [] := by simp only [Reps]
theorem reps_cons {d : D} {ds : List D} {vs : List V} : Reps K F (d :: ds) vs ↔ ∃ v r, vs = v :: r ∧ Rep K F d v ∧ Reps K F ds r := by simp only [Reps]
theorem Reps.length : ∀ {ds : List D} {vs : List V}, Reps K F ds vs → ds.length = vs.length
  | [], vs, h => by rw [reps_nil.mp h]; rfl
  | d :: ds, vs, h => by
    obtain ⟨v, r, rfl, _, h2⟩ := reps_cons.mp h
    rw [List.length_cons, List.length_cons, Reps.length h2]
theorem Reps.nil : Reps K F [] [] := reps_nil.mpr rfl
theorem Reps.cons {d : D} {ds : List D} {v : V} {vs : List V} (h : Rep K F d v) (t : Reps K F ds vs) : Reps K F (d :: ds) (v :: vs) := reps_cons.mpr ⟨v, vs, rfl, h, t⟩
theorem Reps.append : ∀ {ds es : List D} {vs ws : List V}, Reps K F ds vs → Reps K F es ws → Reps K F (ds ++ es) (vs ++ ws)
  | [], _, vs, _, h, t => by rw [reps_nil.mp h]; exact t
  | d :: ds, _, vs, _, h, t => by
    obtain ⟨v, r, rfl, h1, h2⟩ := reps_cons.mp h
    exact .cons h1 (Reps.append h2 t)
theorem Reps.get : ∀ {ds : List D} {vs : List V} {i : Nat} {d : D}, Reps K F ds vs → ds[i]? = some d → ∃ v, vs[i]? = some v ∧ Rep K F d v
  | [], _, _, _, _, e => by simp at e
  | d :: ds, vs, 0, x, h, e => by
    obtain ⟨v, r, rfl, h1, h2⟩ := reps_cons.mp h
    simp at e; subst e
    exact ⟨v, rfl, h1⟩
  | d :: ds, vs, i + 1, x, h, e => by
    obtain ⟨v, r, rfl, h1, h2⟩ := reps_cons.mp h
    simpa using Reps.get (i := i) h2 (by simpa using e)
theorem Reps.getV {ds : List D} {vs : List V} {i : Nat} {v : V} (h : Reps K F ds vs) (e : vs[i]? = some v) : ∃ d, ds[i]? = some d ∧ Rep K F d v := by
  obtain ⟨hi, _⟩ := List.getElem?_eq_some_iff.mp e
  have hd : i < ds.length := by rw [h.length]; exact hi
  obtain ⟨v', e', r⟩ := h.get (List.getElem?_eq_getElem hd)
  rw [e] at e'; cases e'
  exact ⟨_, List.getElem?_eq_getElem hd, r⟩
theorem Reps.take : ∀ {ds : List D} {vs : List V} (n : Nat), Reps K F ds vs → Reps K F (ds.take n) (vs.take n)
  | _, _, 0, _ => .nil
  | [], vs, n + 1, h => by rw [reps_nil.mp h]; exact .nil
  | d :: ds, vs, n + 1, h => by
    obtain ⟨v, r, rfl, h1, h2⟩ := reps_cons.mp h
    exact .cons h1 (Reps.take n h2)
theorem Reps.drop : ∀ {ds : List D} {vs : List V} (n : Nat), Reps K F ds vs → Reps K F (ds.drop n) (vs.drop n)
  | _, _, 0, h => h
  | [], vs, n + 1, h => by rw [reps_nil.mp h]; exact .nil
  | d :: ds, vs, n + 1, h => by
    obtain ⟨v, r, rfl, h1, h2⟩ := reps_cons.mp h
    exact Reps.drop n h2
theorem Reps.set : ∀ {ds : List D} {vs : List V} {d : D} {v : V} (n : Nat), Reps K F ds vs → Rep K F d v → Reps K F (ds.set n d) (vs.set n v)
  | [], vs, _, _, _, h, _ => by rw [reps_nil.mp h]; exact .nil
  | d :: ds, vs, _, _, 0, h, q => by
    obtain ⟨v, r, rfl, h1, h2⟩ := reps_cons.mp h
    exact .cons q h2
  | d :: ds, vs, _, _, n + 1, h, q => by
    obtain ⟨v, r, rfl, h1, h2⟩ := reps_cons.mp h
    exact .cons h1 (Reps.set n h2 q)
theorem Reps.eraseIdx : ∀ {ds : List D} {vs : List V} (n : Nat), Reps K F ds vs → Reps K F (ds.eraseIdx n) (vs.eraseIdx n)
  | [], vs, _, h => by rw [reps_nil.mp h]; exact .nil
  | d :: ds, vs, 0, h => by
    obtain ⟨v, r, rfl, h1, h2⟩ := reps_cons.mp h
    exact h2
  | d :: ds, vs, n + 1, h => by
    obtain ⟨v, r, rfl, h1, h2⟩ := reps_cons.mp h
    exact .cons h1 (Reps.eraseIdx n h2)
theorem Reps.reverse : ∀ {ds : List D} {vs : List V}, Reps K F ds vs → Reps K F ds.reverse vs.reverse
  | [], vs, h => by rw [reps_nil.mp h]; exact .nil
  | d :: ds, vs, h => by
    obtain ⟨v, r, rfl, h1, h2⟩ := reps_cons.mp h
    rw [List.reverse_cons, List.reverse_cons]
    exact (Reps.reverse h2).append (.cons h1 .nil)
theorem Reps.ints : ∀ {ns : List Int} {vs : List V}, Reps K F (ns.map PyData.int) vs → vs = ns.map V.int
  | [], vs, h => reps_nil.mp h
  | n :: ns, vs, h => by
    obtain ⟨v, r, rfl, h1, h2⟩ := reps_cons.mp h
    simp only [Rep] at h1
    rw [h1, Reps.ints h2]; rfl
theorem Reps.of_ints : ∀ (ns : List Int), Reps K F (ns.map PyData.int) (ns.map V.int)
  | [] => .nil
  | n :: ns => .cons (by simp only [Rep]) (Reps.of_ints ns)
theorem Reps.bools : ∀ {ns : List Bool} {vs : List V}, Reps K F (ns.map PyData.bool) vs → vs = ns.map V.bl
  | [], vs, h => reps_nil.mp h
  | n :: ns, vs, h => by
    obtain ⟨v, r, rfl, h1, h2⟩ := reps_cons.mp h
    simp only [Rep] at h1
    rw [h1, Reps.bools h2]; rfl
end

/-! ### slots -/
inductive Mo where
  | lst (l : List D)
  | dK (l : List (D × D))
  | dT (l : List (D × D))
def Mo.toD : Mo → D
  | .lst l => .list l
  | .dK l => .dict l
  | .dT l => .dict l
inductive LV where
  | un
  | val (d : D)
  | own (m : Mo) (mine : Bool)
abbrev Rho := List LV

/-- at a stands an object that is not frozen, of these trees -/
def OwnAt (K : PySem.W.Frag) (F H : Hp) (a : Addr) : Mo → Prop
  | .lst l => F a = none ∧ ∃ vs, H a = some (.lst vs) ∧ Reps K F l vs
  | .dK l => F a = none ∧ ∃ es : List (Key × V), H a = some (.dK es) ∧ l.map (·.1) = es.map (fun e => kD e.1) ∧ RepP K F l (es.map (·.2))
  | .dT l => F a = none ∧ ∃ es : List (List Key × V), H a = some (.dT es) ∧ l.map (·.1) = es.map (fun e => PyData.tuple (e.1.map kD)) ∧ RepP K F l (es.map (·.2))
theorem OwnAt.free {K : PySem.W.Frag} {F H : Hp} {a : Addr} {m : Mo} (h : OwnAt K F H a m) : F a = none := by
  cases m <;> exact h.1
theorem OwnAt.there {K : PySem.W.Frag} {F H : Hp} {a : Addr} {m : Mo} (h : OwnAt K F H a m) : ∃ o, H a = some o := by
  cases m <;> (obtain ⟨_, vs, e, _⟩ := h; exact ⟨_, e⟩)
theorem OwnAt.move {K : PySem.W.Frag} {F H F' H' : Hp} {a : Addr} {m : Mo} (h : OwnAt K F H a m) (e : Same F F') (f : F' a = none) (k : ∀ o, H a = some o → H' a = some o) : OwnAt K F' H' a m := by
  cases m with
  | lst l => obtain ⟨_, vs, q, r⟩ := h; exact ⟨f, vs, k _ q, Reps.mono e _ _ r⟩
  | dK l => obtain ⟨_, es, q, z, r⟩ := h; exact ⟨f, es, k _ q, z, RepP.mono e _ _ r⟩
  | dT l => obtain ⟨_, es, q, z, r⟩ := h; exact ⟨f, es, k _ q, z, RepP.mono e _ _ r⟩
/-- frozen, it is a tree -/
theorem OwnAt.rep {K : PySem.W.Frag} {F H F' : Hp} {a : Addr} {m : Mo} (h : OwnAt K F H a m) (e : Same F F') (k : F' a = H a) : Rep K F' m.toD (.ref a) := by
  cases m with
  | lst l => obtain ⟨_, vs, q, r⟩ := h; simp only [Mo.toD, Rep]; exact ⟨a, vs, rfl, .inl (by rw [k]; exact q), Reps.mono e _ _ r⟩
  | dK l => obtain ⟨_, es, q, z, r⟩ := h; simp only [Mo.toD, Rep]; exact ⟨a, _, rfl, .inl ⟨es, .inl (by rw [k]; exact q), z, rfl⟩, RepP.mono e _ _ r⟩
  | dT l => obtain ⟨_, es, q, z, r⟩ := h; simp only [Mo.toD, Rep]; exact ⟨a, _, rfl, .inr ⟨es, .inl (by rw [k]; exact q), z, rfl⟩, RepP.mono e _ _ r⟩

def Own (ρ : Rho) (σ : Sg) (a : Addr) : Prop := ∃ (i : Nat) (m : Mo) (b : Bool), ρ[i]? = some (.own m b) ∧ σ[i]? = some (some (.ref a))

/-- the slots stand for the trees -/
structure SR (K : PySem.W.Frag) (ρ : Rho) (σ : Sg) (F H : Hp) : Prop where
  sub : Same F H
  len : σ.length = ρ.length
  val : ∀ (i : Nat) d, ρ[i]? = some (.val d) → ∃ v, σ[i]? = some (some v) ∧ Rep K F d v
  own : ∀ (i : Nat) m b, ρ[i]? = some (.own m b) → ∃ a, σ[i]? = some (some (.ref a)) ∧ OwnAt K F H a m
  inj : ∀ (i j : Nat) m b m' b' a, ρ[i]? = some (.own m b) → ρ[j]? = some (.own m' b') → σ[i]? = some (some (.ref a)) → σ[j]? = some (some (.ref a)) → i = j
/-- from a state to a later one of the same frame -/
structure Go (K : PySem.W.Frag) (ρ : Rho) (σ : Sg) (F H : Hp) (ρ' : Rho) (σ' : Sg) (F' H' : Hp) : Prop where
  sub : Same F F'
  keep : ∀ a o, H a = some o → ¬ Own ρ σ a → H' a = some o ∧ (F a = none → F' a = none) ∧ ¬ Own ρ' σ' a
  sr : SR K ρ' σ' F' H'
  there : ∀ a o, H a = some o → ∃ o', H' a = some o'
  io : ∀ (j : Nat) m, ρ[j]? = some (.own m false) → ∃ m', ρ'[j]? = some (.own m' false) ∧ σ'[j]? = σ[j]?
section
variable {K : PySem.W.Frag} {ρ ρ' ρ₂ : Rho} {σ σ' σ₂ : Sg} {F H F' H' F₂ H₂ : Hp} {a : Addr}
theorem Own.there (s : SR K ρ σ F H) (h : Own ρ σ a) : ∃ o, H a = some o := by
  obtain ⟨i, m, b, e1, e2⟩ := h
  obtain ⟨a', e3, q⟩ := s.own i m b e1
  rw [e2] at e3; cases e3
  exact q.there
theorem Own.free (s : SR K ρ σ F H) (h : Own ρ σ a) : F a = none := by
  obtain ⟨i, m, b, e1, e2⟩ := h
  obtain ⟨a', e3, q⟩ := s.own i m b e1
  rw [e2] at e3; cases e3
  exact q.free
theorem Go.refl (s : SR K ρ σ F H) : Go K ρ σ F H ρ σ F H := ⟨Same.refl _, fun a o e n => ⟨e, id, n⟩, s, fun a o e => ⟨o, e⟩, fun j m e => ⟨m, e, rfl⟩⟩
theorem Go.trans (g : Go K ρ σ F H ρ' σ' F' H') (g2 : Go K ρ' σ' F' H' ρ₂ σ₂ F₂ H₂) : Go K ρ σ F H ρ₂ σ₂ F₂ H₂ where
  sub := g.sub.trans g2.sub
  keep := fun a o e n => by
    obtain ⟨h1, h2, h3⟩ := g.keep a o e n
    obtain ⟨k1, k2, k3⟩ := g2.keep a o h1 h3
    exact ⟨k1, fun z => k2 (h2 z), k3⟩
  sr := g2.sr
  there := fun a o e => by
    obtain ⟨o1, e1⟩ := g.there a o e
    exact g2.there a o1 e1
  io := fun j m e => by
    obtain ⟨m1, e1, s1⟩ := g.io j m e
    obtain ⟨m2, e2, s2⟩ := g2.io j m1 e1
    exact ⟨m2, e2, s2.trans s1⟩
/-- new objects alone -/
structure Fr (F H F' H' : Hp) : Prop where
  sub : Same F F'
  all : Same H H'
  fr : Same F' H'
  new : ∀ a o, H a = some o → F a = none → F' a = none
theorem Fr.refl (h : Same F H) : Fr F H F H := ⟨Same.refl _, Same.refl _, h, fun _ _ _ e => e⟩
theorem Fr.trans (a : Fr F H F' H') (b : Fr F' H' F₂ H₂) : Fr F H F₂ H₂ := ⟨a.sub.trans b.sub, a.all.trans b.all, b.fr, fun x o e n => b.new x o (a.all _ _ e) (a.new x o e n)⟩
theorem upd_same' {H : Hp} {a : Addr} {o : HO} (n : H a = none) : Same H (upd H a o) := fun b u e => by
  rw [upd_ne (ne_of_none e n)]; exact e
theorem sub_none (s : Same F H) (n : H a = none) : F a = none := s.free n
/-- a new frozen object -/
theorem Fr.new1 {o : HO} (s : Same F H) (n : H a = none) : Fr F H (upd F a o) (upd H a o) := by
  refine ⟨upd_same' (sub_none s n), upd_same' n, fun b u e => ?_, fun b u e z => ?_⟩
  · by_cases hb : b = a
    · subst hb; rw [upd_same] at e ⊢; exact e
    · rw [upd_ne hb] at e ⊢; exact s _ _ e
  · rw [upd_ne (ne_of_none e n)]; exact z
/-- a new object that is not frozen -/
theorem Fr.own1 {o : HO} (s : Same F H) (n : H a = none) : Fr F H F (upd H a o) := ⟨Same.refl _, upd_same' n, fun b u e => upd_same' n _ _ (s _ _ e), fun _ _ _ z => z⟩
theorem SR.fr (s : SR K ρ σ F H) (f : Fr F H F' H') : SR K ρ σ F' H' where
  sub := f.fr
  len := s.len
  val := fun i d e => by
    obtain ⟨v, h1, h2⟩ := s.val i d e
    exact ⟨v, h1, h2.mono f.sub⟩
  own := fun i m b e => by
    obtain ⟨a, h1, h2⟩ := s.own i m b e
    obtain ⟨o, ho⟩ := h2.there
    exact ⟨a, h1, h2.move f.sub (f.new a o ho h2.free) fun o e => f.all _ _ e⟩
  inj := s.inj
theorem Fr.go (f : Fr F H F' H') (s : SR K ρ σ F H) : Go K ρ σ F H ρ σ F' H' := ⟨f.sub, fun a o e n => ⟨f.all _ _ e, fun z => f.new a o e z, n⟩, s.fr f, fun a o e => ⟨o, f.all _ _ e⟩, fun j m e => ⟨m, e, rfl⟩⟩
end

section
variable {K : PySem.W.Frag} {ρ ρ' : Rho} {σ σ' : Sg} {F H F' H' : Hp} {a : Addr}
/-- an object that no slot owns is frozen -/
theorem SR.freeze {o : HO} (s : SR K ρ σ F H) (n : F a = none) (h : H a = some o) (no : ¬ Own ρ σ a) : SR K ρ σ (upd F a o) H where
  sub := fun b u e => by
    by_cases hb : b = a
    · subst hb; rw [upd_same] at e; cases e; exact h
    · rw [upd_ne hb] at e; exact s.sub _ _ e
  len := s.len
  val := fun i d e => by
    obtain ⟨v, h1, h2⟩ := s.val i d e
    exact ⟨v, h1, h2.mono (upd_same' n)⟩
  own := fun i m b e => by
    obtain ⟨c, h1, h2⟩ := s.own i m b e
    have hc : c ≠ a := fun z => no ⟨i, m, b, e, z ▸ h1⟩
    exact ⟨c, h1, h2.move (upd_same' n) (by rw [upd_ne hc]; exact h2.free) fun o e => e⟩
  inj := s.inj
theorem Go.freeze {o : HO} (g : Go K ρ σ F H ρ' σ' F' H') (n0 : H a = none) (n : F' a = none) (h : H' a = some o) (no : ¬ Own ρ' σ' a) : Go K ρ σ F H ρ' σ' (upd F' a o) H' where
  sub := g.sub.trans (upd_same' n)
  keep := fun b u e hn => by
    obtain ⟨h1, h2, h3⟩ := g.keep b u e hn
    exact ⟨h1, fun z => by rw [upd_ne (ne_of_none e n0)]; exact h2 z, h3⟩
  sr := g.sr.freeze n h no
  there := g.there
  io := g.io
/-- a slot of mine is frozen -/
theorem SR.mov {i : Nat} {m : Mo} (s : SR K ρ σ F H) (e : ρ[i]? = some (.own m true)) : ∃ a F', σ[i]? = some (some (.ref a)) ∧ Rep K F' m.toD (.ref a) ∧ Go K ρ σ F H (ρ.set i (.val m.toD)) σ F' H := by
  obtain ⟨a, h1, h2⟩ := s.own i m true e
  obtain ⟨o, ho⟩ := h2.there
  have hi : i < ρ.length := (List.getElem?_eq_some_iff.mp e).1
  have get : ∀ j x, (ρ.set i (.val m.toD))[j]? = some x → (j = i ∧ x = .val m.toD) ∨ (j ≠ i ∧ ρ[j]? = some x) := fun j x z => by
    by_cases hj : i = j
    · subst hj; rw [List.getElem?_set_self hi] at z; cases z; exact .inl ⟨rfl, rfl⟩
    · rw [List.getElem?_set_ne hj] at z; exact .inr ⟨fun q => hj q.symm, z⟩
  have sub : ∀ b, Own (ρ.set i (.val m.toD)) σ b → Own ρ σ b ∧ b ≠ a := fun b ⟨j, m', k, e1, e2⟩ => by
    rcases get j _ e1 with ⟨_, z⟩ | ⟨hj, z⟩
    · cases z
    · exact ⟨⟨j, m', k, z, e2⟩, fun q => hj (s.inj j i m' k m true a z e (q ▸ e2) h1)⟩
  have hr : Rep K (upd F a o) m.toD (.ref a) := h2.rep (upd_same' h2.free) (by rw [upd_same, ho])
  refine ⟨a, upd F a o, h1, hr, ⟨upd_same' h2.free, fun b u eb hn => ⟨eb, fun z => ?_, fun q => hn (sub b q).1⟩, ⟨fun b u q => ?_, by rw [List.length_set]; exact s.len, fun j d z => ?_, fun j m' k z => ?_, fun j1 j2 m1 k1 m2 k2 c z1 z2 q1 q2 => ?_⟩, fun b u z => ⟨u, z⟩, fun j m' z => ?_⟩⟩
  · have : b ≠ a := fun q => hn ⟨i, m, true, e, q ▸ h1⟩
    rw [upd_ne this]; exact z
  · by_cases hb : b = a
    · subst hb; rw [upd_same] at q; cases q; exact ho
    · rw [upd_ne hb] at q; exact s.sub _ _ q
  · rcases get j _ z with ⟨hj, y⟩ | ⟨hj, y⟩
    · cases y; exact ⟨_, hj ▸ h1, hr⟩
    · obtain ⟨v, q1, q2⟩ := s.val j d y
      exact ⟨v, q1, q2.mono (upd_same' h2.free)⟩
  · rcases get j _ z with ⟨hj, y⟩ | ⟨hj, y⟩
    · cases y
    · obtain ⟨c, q1, q2⟩ := s.own j m' k y
      have hc : c ≠ a := fun q => hj (s.inj j i m' k m true a y e (q ▸ q1) h1)
      exact ⟨c, q1, q2.move (upd_same' h2.free) (by rw [upd_ne hc]; exact q2.free) fun o e => e⟩
  · rcases get j1 _ z1 with ⟨hj1, y1⟩ | ⟨hj1, y1⟩
    · cases y1
    · rcases get j2 _ z2 with ⟨hj2, y2⟩ | ⟨hj2, y2⟩
      · cases y2
      · exact s.inj j1 j2 _ _ _ _ c y1 y2 q1 q2
  · have hj : i ≠ j := fun q => by subst q; rw [e] at z; cases z
    exact ⟨m', by rw [List.getElem?_set_ne hj]; exact z, rfl⟩
end

/-! ### objects of mine -/
/-- new since the state, or one of its own objects -/
def Mine (ρ : Rho) (σ : Sg) (H : Hp) (a : Addr) : Prop := H a = none ∨ ∃ (i : Nat) (m : Mo), ρ[i]? = some (.own m true) ∧ σ[i]? = some (some (.ref a))
theorem Go.mine {K : PySem.W.Frag} {ρ ρ' : Rho} {σ σ' : Sg} {F H F' H' : Hp} {a : Addr} (g : Go K ρ σ F H ρ' σ' F' H') (h : Mine ρ' σ' H' a) : Mine ρ σ H a := by
  cases e : H a with
  | none => exact .inl e
  | some o =>
    rcases h with h | ⟨i, m, h1, h2⟩
    · obtain ⟨o', e'⟩ := g.there a o e
      rw [h] at e'; cases e'
    · by_cases ow : Own ρ σ a
      · obtain ⟨j, m', b, e1, e2⟩ := ow
        cases b with
        | true => exact .inr ⟨j, m', e1, e2⟩
        | false =>
          obtain ⟨m2, q1, q2⟩ := g.io j m' e1
          rw [e2] at q2
          have := g.sr.inj i j _ _ _ _ a h1 q1 h2 q2
          subst this
          rw [h1] at q1; cases q1
      · exact absurd ⟨i, m, true, h1, h2⟩ (g.keep a o e ow).2.2

/-! ### results -/
structure Xn where
  cls : Nat
  pay : List D
inductive RE (α : Type) where
  | ok (a : α) (ρ : Rho)
  | ex (x : Xn) (ρ : Rho)
  | no
inductive RS where
  | next (ρ : Rho)
  | ret (d : D) (ρ : Rho)
  | new (m : Mo) (ρ : Rho)
  | brk (ρ : Rho)
  | cnt (ρ : Rho)
  | ex (x : Xn) (ρ : Rho)
  | no
inductive RC where
  | ok (d : D) (outs : List Mo)
  | new (m : Mo) (outs : List Mo)
  | ex (x : Xn) (outs : List Mo)
  | no
@[simp] def RE.bind {α β : Type} : RE α → (α → Rho → RE β) → RE β
  | .ok a ρ, f => f a ρ
  | .ex x ρ, _ => .ex x ρ
  | .no, _ => .no
abbrev Dn := Rho → RE D
abbrev Tn := Rho → RE Bool
abbrev Sn := Rho → RS
/-- how exceptions are told: an exception of mine, its class, its own dict, the heap -/
abbrev XR := Xn → Value → Option Addr → Hp → Prop
/-- the readings -/
structure Wt where
  xr : XR
  E : XK
section
variable (K : PySem.W.Frag) (W : Wt)
/-- what is wanted behind a result that was found from here -/
def Af {α β : Type} (R : Sg → Hp → α → β → Prop) (ρ : Rho) (σ : Sg) (F H : Hp) (Q : β → Hp → Prop) : RE α → Prop
  | .ok a ρ' => ∀ v F' H', Go K ρ σ F H ρ' σ F' H' → R σ F' a v → Q v H'
  | .ex x ρ' => ∀ c dx F' H', Go K ρ σ F H ρ' σ F' H' → W.xr x c dx H' → W.E c dx H'
  | .no => False
def tG {α β : Type} (R : Sg → Hp → α → β → Prop) (d : Rho → RE α) : Sg → Hp → (β → Hp → Prop) → Prop := fun σ H Q => ∃ ρ F, SR K ρ σ F H ∧ Af K W R ρ σ F H Q (d ρ)
abbrev RD : Sg → Hp → D → V → Prop := fun _ F d v => Rep K F d v
abbrev RB : Sg → Hp → Bool → Bool → Prop := fun _ _ a b => b = a
def tE (d : Dn) : TE := tG K W (RD K) d
def tT (d : Tn) : TT := tG K W RB d
def AfS (ρ : Rho) (σ : Sg) (F H : Hp) (D : Ends) : RS → Prop
  | .next ρ' => ∀ σ' F' H', Go K ρ σ F H ρ' σ' F' H' → D.nx σ' H'
  | .ret a ρ' => ∀ v σ' F' H', Go K ρ σ F H ρ' σ' F' H' → Rep K F' a v → D.rt v H'
  | .new m ρ' => ∀ a σ' F' H', Go K ρ σ F H ρ' σ' F' H' → OwnAt K F' H' a m → ¬ Own ρ' σ' a → Mine ρ σ H a → D.rt (.ref a) H'
  | .brk ρ' => ∀ σ' F' H', Go K ρ σ F H ρ' σ' F' H' → D.bk σ' H'
  | .cnt ρ' => ∀ σ' F' H', Go K ρ σ F H ρ' σ' F' H' → D.ct σ' H'
  | .ex x ρ' => ∀ c dx σ' F' H', Go K ρ σ F H ρ' σ' F' H' → W.xr x c dx H' → W.E c dx H'
  | .no => False
def tS (d : Sn) : TS := fun D σ H => ∃ ρ F, SR K ρ σ F H ∧ AfS K W ρ σ F H D (d ρ)
end
section
variable {K : PySem.W.Frag} {W : Wt} {α β γ δ : Type} {R : Sg → Hp → α → β → Prop} {R2 : Sg → Hp → γ → δ → Prop} {ρ ρ' : Rho} {σ σ' : Sg} {F H F' H' : Hp} {Q : β → Hp → Prop} {Q2 : δ → Hp → Prop}
theorem Af.at (g : Go K ρ σ F H ρ' σ F' H') : ∀ {r : RE α}, Af K W R ρ σ F H Q r → Af K W R ρ' σ F' H' Q r
  | .ok a _, q => fun v F2 H2 g2 r => q v F2 H2 (g.trans g2) r
  | .ex x _, q => fun c dx F2 H2 g2 z => q c dx F2 H2 (g.trans g2) z
  | .no, q => q
theorem AfS.at {D : Ends} (g : Go K ρ σ F H ρ' σ' F' H') : ∀ {r : RS}, AfS K W ρ σ F H D r → AfS K W ρ' σ' F' H' D r
  | .next _, q => fun s2 F2 H2 g2 => q s2 F2 H2 (g.trans g2)
  | .ret _ _, q => fun v s2 F2 H2 g2 r => q v s2 F2 H2 (g.trans g2) r
  | .new _ _, q => fun a s2 F2 H2 g2 o n m => q a s2 F2 H2 (g.trans g2) o n (g.mine m)
  | .brk _, q => fun s2 F2 H2 g2 => q s2 F2 H2 (g.trans g2)
  | .cnt _, q => fun s2 F2 H2 g2 => q s2 F2 H2 (g.trans g2)
  | .ex x _, q => fun c dx s2 F2 H2 g2 z => q c dx s2 F2 H2 (g.trans g2) z
  | .no, q => q
/-- one after the other -/
theorem Af.bind {d : Rho → RE α} {f : α → Rho → RE γ} (s : SR K ρ σ F H) (q : Af K W R2 ρ σ F H Q2 ((d ρ).bind f)) {P : β → Hp → Prop}
    (k : ∀ a v ρ1 F1 H1, Go K ρ σ F H ρ1 σ F1 H1 → R σ F1 a v → Af K W R2 ρ1 σ F1 H1 Q2 (f a ρ1) → P v H1) : tG K W R d σ H P := by
  refine ⟨ρ, F, s, ?_⟩
  cases hd : d ρ with
  | no => simp only [hd, RE.bind] at q; exact q
  | ex x ρ' => simp only [hd, RE.bind] at q; exact q
  | ok a ρ1 =>
    simp only [hd, RE.bind] at q
    exact fun v F1 H1 g r => k a v ρ1 F1 H1 g r (q.at g)
theorem tG.of {d : Rho → RE α} (s : SR K ρ σ F H) (q : Af K W R ρ σ F H Q (d ρ)) : tG K W R d σ H Q := ⟨ρ, F, s, q⟩
theorem Af.okk {a : α} {v : β} (s : SR K ρ σ F H) (q : Af K W R ρ σ F H Q (.ok a ρ)) (r : R σ F a v) : Q v H := q v F H (Go.refl s) r
theorem Af.okf {a : α} {v : β} (s : SR K ρ σ F H) (q : Af K W R ρ σ F H Q (.ok a ρ)) (f : Fr F H F' H') (r : R σ F' a v) : Q v H' := q v F' H' (f.go s) r
end
/-- a new object that nobody owns yet -/
def AfF (K : PySem.W.Frag) (W : Wt) (ρ : Rho) (σ : Sg) (F H : Hp) (Q : VK) : RE Mo → Prop
  | .ok m ρ' => ∀ a F' H', Go K ρ σ F H ρ' σ F' H' → OwnAt K F' H' a m → H a = none → ¬ Own ρ' σ a → Q (.ref a) H'
  | .ex x ρ' => ∀ c dx F' H', Go K ρ σ F H ρ' σ F' H' → W.xr x c dx H' → W.E c dx H'
  | .no => False
abbrev Fn := Rho → RE Mo
def tF (K : PySem.W.Frag) (W : Wt) (d : Fn) : TE := fun σ H Q => ∃ ρ F, SR K ρ σ F H ∧ AfF K W ρ σ F H Q (d ρ)
section
variable {K : PySem.W.Frag} {W : Wt} {α β : Type} {R : Sg → Hp → α → β → Prop} {ρ ρ' : Rho} {σ : Sg} {F H F' H' : Hp} {Q : VK}
theorem AfF.at (g : Go K ρ σ F H ρ' σ F' H') : ∀ {r : RE Mo}, AfF K W ρ σ F H Q r → AfF K W ρ' σ F' H' Q r
  | .ok m _, q => fun a F2 H2 g2 r n no => q a F2 H2 (g.trans g2) r (by
      cases e : H a with
      | none => rfl
      | some o =>
        obtain ⟨o', z⟩ := g.there a o e
        rw [n] at z; cases z) no
  | .ex x _, q => fun c dx F2 H2 g2 z => q c dx F2 H2 (g.trans g2) z
  | .no, q => q
theorem AfF.bind {d : Rho → RE α} {f : α → Rho → RE Mo} (s : SR K ρ σ F H) (q : AfF K W ρ σ F H Q ((d ρ).bind f)) {P : β → Hp → Prop}
    (k : ∀ a v ρ1 F1 H1, Go K ρ σ F H ρ1 σ F1 H1 → R σ F1 a v → AfF K W ρ1 σ F1 H1 Q (f a ρ1) → P v H1) : tG K W R d σ H P := by
  refine ⟨ρ, F, s, ?_⟩
  cases hd : d ρ with
  | no => simp only [hd, RE.bind] at q; exact q
  | ex x ρ' => simp only [hd, RE.bind] at q; exact q
  | ok a ρ1 =>
    simp only [hd, RE.bind] at q
    exact fun v F1 H1 g r => k a v ρ1 F1 H1 g r (q.at g)
/-- a list that is new here -/
theorem AfF.new {a : Addr} {l : List D} {vs : List V} (s : SR K ρ σ F H) (q : AfF K W ρ σ F H Q (.ok (.lst l) ρ)) (n : H a = none) (r : Reps K F l vs) : Q (.ref a) (upd H a (.lst vs)) :=
  q a F _ ((Fr.own1 s.sub n).go s) ⟨sub_none s.sub n, vs, upd_same, r⟩ n fun h => by
    obtain ⟨o, e⟩ := h.there s
    rw [n] at e; cases e
def dFz (d : Fn) : Dn := fun ρ => (d ρ).bind fun m ρ' => .ok m.toD ρ'
theorem fz_imp {d : Fn} {H : Hp} {Q : VK} (q : tE K W (dFz d) σ H Q) : tF K W d σ H Q := by
  obtain ⟨ρ, F, s, q⟩ := q
  refine ⟨ρ, F, s, ?_⟩
  unfold dFz at q
  cases hd : d ρ with
  | no => rw [hd] at q; exact q
  | ex x ρ' => rw [hd] at q; exact q
  | ok m ρ1 =>
    rw [hd] at q
    intro a F' H' g o n no
    obtain ⟨u, hu⟩ := o.there
    exact q _ _ _ (g.freeze n o.free hu no) (o.rep (upd_same' o.free) (by rw [upd_same, hu]))
end
/-- weaker readings -/
theorem PE.imp {X : Cx} {e : Expr} {t t' : TE} (h : PE X e t) (i : ∀ σ H Q, t' σ H Q → t σ H Q) : PE X e t' := ⟨fun pins s σ H Q I q => h.run pins s σ H Q I (i σ H Q q)⟩
theorem PT.imp {X : Cx} {e : Expr} {t t' : TT} (h : PT X e t) (i : ∀ σ H Q, t' σ H Q → t σ H Q) : PT X e t' := ⟨fun pins s σ H Q I q => h.run pins s σ H Q I (i σ H Q q)⟩
theorem PA.imp {X : Cx} {e : List Expr} {t t' : TA} (h : PA X e t) (i : ∀ σ H Q, t' σ H Q → t σ H Q) : PA X e t' := ⟨fun pos pins s σ H Q I q => h.run pos pins s σ H Q I (i σ H Q q)⟩
theorem PS.imp {X : Cx} {e : Stmt} {t t' : TS} (h : PS X e t) (i : ∀ D σ H, t' D σ H → t D σ H) : PS X e t' := ⟨fun pins s σ H D I q => h.run pins s σ H D I (i D σ H q)⟩
theorem PSs.imp {X : Cx} {e : List Stmt} {t t' : TS} (h : PSs X e t) (i : ∀ D σ H, t' D σ H → t D σ H) : PSs X e t' := ⟨fun pins s σ H D I q => h.run pins s σ H D I (i D σ H q)⟩
end Ft
/-! Ft2: expressions. -/
namespace Ft
open PySem L2 PySem.Spec PyProof.Rows

inductive Hd where
  | v (d : D)
  | s (i : Nat)
abbrev An := Rho → RE Hd
abbrev Ans := Rho → RE (List Hd)
def RepH (K : PySem.W.Frag) (σ : Sg) (F : Hp) : Hd → V → Prop
  | .v d, x => Rep K F d x
  | .s i, x => σ[i]? = some (some x)
inductive RepHs (K : PySem.W.Frag) (σ : Sg) (F : Hp) : List Hd → List V → Prop where
  | nil : RepHs K σ F [] []
  | cons {h : Hd} {v : V} {hs : List Hd} {vs : List V} : RepH K σ F h v → RepHs K σ F hs vs → RepHs K σ F (h :: hs) (v :: vs)
def look (ρ : Rho) : Hd → Option D
  | .v d => some d
  | .s i => match ρ[i]? with
    | some (.own m _) => some m.toD
    | _ => none
def looks (ρ : Rho) : List Hd → Option (List D)
  | [] => some []
  | h :: hs => match look ρ h with
    | some d => match looks ρ hs with
      | some ds => some (d :: ds)
      | none => none
    | none => none
/-- a tree that may be read now: frozen, or an own object -/
def RepB (K : PySem.W.Frag) (F H : Hp) (d : D) (v : V) : Prop := Rep K F d v ∨ ∃ a m, v = .ref a ∧ d = m.toD ∧ OwnAt K F H a m
inductive RepBs (K : PySem.W.Frag) (F H : Hp) : List D → List V → Prop where
  | nil : RepBs K F H [] []
  | cons {d : D} {v : V} {ds : List D} {vs : List V} : RepB K F H d v → RepBs K F H ds vs → RepBs K F H (d :: ds) (v :: vs)
section
variable {K : PySem.W.Frag} {ρ ρ' : Rho} {σ σ' : Sg} {F H F' H' : Hp}
theorem RepH.mono (e : Same F F') : ∀ {h : Hd} {v : V}, RepH K σ F h v → RepH K σ F' h v
  | .v d, v, h => Rep.mono e d v h
  | .s i, v, h => h
theorem RepHs.mono (e : Same F F') : ∀ {h : List Hd} {v : List V}, RepHs K σ F h v → RepHs K σ F' h v
  | _, _, .nil => .nil
  | _, _, .cons a t => .cons (a.mono e) (RepHs.mono e t)
theorem look_rep (s : SR K ρ σ F H) : ∀ {h : Hd} {v : V} {d : D}, RepH K σ F h v → look ρ h = some d → RepB K F H d v
  | .v d, v, d', h, e => by cases e; exact .inl h
  | .s i, v, d', h, e => by
    simp only [look] at e
    split at e
    · rename_i m b hm
      cases e
      obtain ⟨a, h1, h2⟩ := s.own i m b hm
      have : σ[i]? = some (some v) := h
      rw [h1] at this; cases this
      exact .inr ⟨a, m, rfl, rfl, h2⟩
    · cases e
theorem looks_rep (s : SR K ρ σ F H) : ∀ {h : List Hd} {v : List V} {d : List D}, RepHs K σ F h v → looks ρ h = some d → RepBs K F H d v
  | [], _, d', .nil, e => by cases e; exact .nil
  | h :: hs, _, d', .cons a t, e => by
    simp only [looks] at e
    split at e
    · rename_i d hd
      split at e
      · rename_i ds hds
        cases e
        exact .cons (look_rep s a hd) (looks_rep s t hds)
      · cases e
    · cases e
/-- read where it stands -/
theorem RepB.here (s : Same F H) {d : D} {v : V} (h : RepB K F H d v) : Rep K H d v := by
  rcases h with h | ⟨a, m, rfl, rfl, h⟩
  · exact h.mono s
  · exact h.rep s rfl
theorem RepB.fr {d : D} {v : V} (h : RepB K F H d v) (f : Fr F H F' H') : RepB K F' H' d v := by
  rcases h with h | ⟨a, m, rfl, rfl, h⟩
  · exact .inl (h.mono f.sub)
  · obtain ⟨o, ho⟩ := h.there
    exact .inr ⟨a, m, rfl, rfl, h.move f.sub (f.new a o ho h.free) fun o e => f.all _ _ e⟩
theorem RepBs.one {d : D} {vs : List V} (h : RepBs K F H [d] vs) : ∃ v, vs = [v] ∧ RepB K F H d v := by
  cases h with | cons a t => cases t; exact ⟨_, rfl, a⟩
theorem RepBs.two {d e : D} {vs : List V} (h : RepBs K F H [d, e] vs) : ∃ v w, vs = [v, w] ∧ RepB K F H d v ∧ RepB K F H e w := by
  cases h with | cons a t => cases t with | cons b u => cases u; exact ⟨_, _, rfl, a, b⟩
theorem RepBs.three {d e f : D} {vs : List V} (h : RepBs K F H [d, e, f] vs) : ∃ v w x, vs = [v, w, x] ∧ RepB K F H d v ∧ RepB K F H e w ∧ RepB K F H f x := by
  cases h with | cons a t => cases t with | cons b u => cases u with | cons c z => cases z; exact ⟨_, _, _, rfl, a, b, c⟩
/-- the items of a list that may be read: trees of the frozen heap -/
theorem RepB.list (s : Same F H) {ds : List D} {v : V} (h : RepB K F H (.list ds) v) : ∃ a vs, v = .ref a ∧ Rd H a (.lst vs) ∧ Reps K F ds vs := by
  rcases h with h | ⟨a, m, rfl, e, h⟩
  · simp only [Rep] at h
    obtain ⟨a, vs, rfl, q, r⟩ := h
    exact ⟨a, vs, rfl, rdSame s q, r⟩
  · cases m with
    | lst l =>
      simp only [Mo.toD, PyData.list.injEq] at e; subst e
      obtain ⟨_, vs, q, r⟩ := h
      exact ⟨a, vs, rfl, .inl q, r⟩
    | dK l => simp [Mo.toD] at e
    | dT l => simp [Mo.toD] at e
theorem RepB.tuple (s : Same F H) {ds : List D} {v : V} (h : RepB K F H (.tuple ds) v) : ∃ a vs, v = .ref a ∧ SqT K H a vs ∧ Reps K F ds vs := by
  rcases h with h | ⟨a, m, rfl, e, h⟩
  · simp only [Rep] at h
    obtain ⟨a, vs, rfl, q, r⟩ := h
    exact ⟨a, vs, rfl, SqT.of (s _ _ q), r⟩
  · cases m <;> simp [Mo.toD] at e
theorem RepB.int {i : Int} {v : V} (h : RepB K F H (.int i) v) : v = .int i := by
  rcases h with h | ⟨a, m, rfl, e, h⟩
  · simpa only [Rep] using h
  · cases m <;> simp [Mo.toD] at e
theorem RepB.bool {i : Bool} {v : V} (h : RepB K F H (.bool i) v) : v = .bl i := by
  rcases h with h | ⟨a, m, rfl, e, h⟩
  · simpa only [Rep] using h
  · cases m <;> simp [Mo.toD] at e
theorem RepB.str {i : Str} {v : V} (h : RepB K F H (.str i) v) : v = .str i := by
  rcases h with h | ⟨a, m, rfl, e, h⟩
  · simpa only [Rep] using h
  · cases m <;> simp [Mo.toD] at e
theorem RepB.none {v : V} (h : RepB K F H .none v) : v = .non := by
  rcases h with h | ⟨a, m, rfl, e, h⟩
  · simpa only [Rep] using h
  · cases m <;> simp [Mo.toD] at e
theorem rep_int {i : Int} : Rep K F (.int i) (.int i) := by simp only [Rep]
theorem rep_bool {i : Bool} : Rep K F (.bool i) (.bl i) := by simp only [Rep]
theorem rep_str {i : Str} : Rep K F (.str i) (.str i) := by simp only [Rep]
theorem rep_none : Rep K F .none .non := by simp only [Rep]
theorem rep_list {a : Addr} {ds : List D} {vs : List V} (h : F a = some (.lst vs)) (r : Reps K F ds vs) : Rep K F (.list ds) (.ref a) := by
  simp only [Rep]; exact ⟨a, vs, rfl, .inl h, r⟩
theorem rep_tuple {a : Addr} {ds : List D} {vs : List V} (h : F a = some (.tup vs)) (r : Reps K F ds vs) : Rep K F (.tuple ds) (.ref a) := by
  simp only [Rep]; exact ⟨a, vs, rfl, h, r⟩
/-- a new frozen tuple, list -/
theorem new_tuple {a : Addr} {ds : List D} {vs : List V} (s : Same F H) (n : H a = none) (r : Reps K F ds vs) : Fr F H (upd F a (.tup vs)) (upd H a (.tup vs)) ∧ Rep K (upd F a (.tup vs)) (.tuple ds) (.ref a) :=
  ⟨Fr.new1 s n, rep_tuple upd_same (Reps.mono (upd_same' (sub_none s n)) _ _ r)⟩
theorem new_list {a : Addr} {ds : List D} {vs : List V} (s : Same F H) (n : H a = none) (r : Reps K F ds vs) : Fr F H (upd F a (.lst vs)) (upd H a (.lst vs)) ∧ Rep K (upd F a (.lst vs)) (.list ds) (.ref a) :=
  ⟨Fr.new1 s n, rep_list upd_same (Reps.mono (upd_same' (sub_none s n)) _ _ r)⟩
end

/-! ### readings of arguments -/
section
variable (K : PySem.W.Frag) (W : Wt)
abbrev RH : Sg → Hp → Hd → V → Prop := fun σ F d v => RepH K σ F d v
abbrev RHs : Sg → Hp → List Hd → List V → Prop := fun σ F d v => RepHs K σ F d v
def tA (d : An) : TE := tG K W (RH K) d
def tAs (d : Ans) : TA := tG K W (RHs K) d
end
def aE (d : Dn) : An := fun ρ => (d ρ).bind fun a ρ' => .ok (.v a) ρ'
def aR (i : Nat) : An := fun ρ => match ρ[i]? with
  | some (.own _ _) => .ok (.s i) ρ
  | _ => .no
def aNil : Ans := fun ρ => .ok [] ρ
def aCons (a : An) (t : Ans) : Ans := fun ρ => (a ρ).bind fun h ρ1 => (t ρ1).bind fun hs ρ2 => .ok (h :: hs) ρ2

section
variable {X : Cx} {W : Wt} {e e2 : Expr} {es : List Expr} {d d2 : Dn} {a b : An} {as : Ans} {pos : Pos}
theorem da_e (h : PE X e (tE X.K W d)) : PE X e (tA X.K W (aE d)) := PE.imp h fun σ H Q ⟨ρ, F, s, q⟩ =>
  Af.bind s q fun a v ρ1 F1 H1 g r z => z.okk g.sr r
theorem da_r (i : Nat) {x : Str} (hN : X.N[i]? = some x := by rfl) (hv : Vis X.env.scope x := by first | exact Or.inl rfl | exact Or.inr (Or.inl rfl) | exact Or.inr (Or.inr rfl)) (hd : (x == ("__debug__" : Str)) = false := by decide)
    (hcd : (x == ("__classdict__" : Str)) = false := by decide) : PE X (.Name x pos) (tA X.K W (aR i)) := PE.imp (pe_var hN hv hd hcd) fun σ H Q ⟨ρ, F, s, q⟩ => by
  cases hr : ρ[i]? with
  | none => simp only [aR, hr] at q; exact q.elim
  | some l =>
    cases l with
    | un => simp only [aR, hr] at q; exact q.elim
    | val d => simp only [aR, hr] at q; exact q.elim
    | own m b =>
      simp only [aR, hr] at q
      obtain ⟨a, h1, h2⟩ := s.own i m b hr
      exact ⟨_, h1, q.okk s h1⟩
theorem das_nil : PA X [] (tAs X.K W aNil) := PA.imp pa_nil fun σ H Q ⟨ρ, F, s, q⟩ => Af.okk s q .nil
theorem das_cons (h : PE X e (tA X.K W a)) (t : PA X es (tAs X.K W as)) (hs : starEach (e :: es) X.env = (false, eval e X.env) :: starEach es X.env := by rfl) : PA X (e :: es) (tAs X.K W (aCons a as)) :=
  PA.imp (pa_cons h t hs) fun σ H Q ⟨ρ, F, s, q⟩ => Af.bind s q fun h v ρ1 F1 H1 g1 r1 z1 =>
    Af.bind g1.sr z1 fun hs vs ρ2 F2 H2 g2 r2 z2 => z2.okk g2.sr (.cons (r1.mono g2.sub) r2)
end

/-! ### operators by trees -/
def P1 (K : PySem.W.Frag) (r : V → Hp → VK → Prop) (p : D → Option D) : Prop :=
  ∀ F H x d e Q, Same F H → RepB K F H d x → p d = some e → (∀ v F' H', Fr F H F' H' → Rep K F' e v → Q v H') → r x H Q
def P2 (K : PySem.W.Frag) (r : R2) (p : D → D → Option D) : Prop :=
  ∀ F H x y d d2 e Q, Same F H → RepB K F H d x → RepB K F H d2 y → p d d2 = some e → (∀ v F' H', Fr F H F' H' → Rep K F' e v → Q v H') → r x y H Q
def PN (K : PySem.W.Frag) (r : List V → Hp → VK → Prop) (p : List D → Option D) : Prop :=
  ∀ F H xs ds e Q, Same F H → RepBs K F H ds xs → p ds = some e → (∀ v F' H', Fr F H F' H' → Rep K F' e v → Q v H') → r xs H Q
/-- the answer by one option -/
def ans {α : Type} (o : Option α) (ρ : Rho) : RE α := match o with
  | some d => .ok d ρ
  | none => .no
def dOp1 (p : D → Option D) (a : An) : Dn := fun ρ => (a ρ).bind fun h ρ1 => ans ((look ρ1 h).bind p) ρ1
def dOp2 (p : D → D → Option D) (a b : An) : Dn := fun ρ => (a ρ).bind fun h ρ1 => (b ρ1).bind fun k ρ2 => ans ((look ρ2 h).bind fun d => (look ρ2 k).bind fun e => p d e) ρ2
def dOpN (p : List D → Option D) (a : Ans) : Dn := fun ρ => (a ρ).bind fun h ρ1 => ans ((looks ρ1 h).bind p) ρ1
theorem ans_some {K : PySem.W.Frag} {W : Wt} {α β : Type} {R : Sg → Hp → α → β → Prop} {ρ ρ' : Rho} {σ : Sg} {F H : Hp} {Q : β → Hp → Prop} {o : Option α} (q : Af K W R ρ σ F H Q (ans o ρ')) : ∃ z, o = some z ∧ Af K W R ρ σ F H Q (.ok z ρ') := by
  cases o with
  | none => exact q.elim
  | some z => exact ⟨z, rfl, q⟩
section
variable {X : Cx} {W : Wt} {e e2 : Expr} {es : List Expr} {d d2 : Dn} {a b : An} {as : Ans} {pos : Pos}
/-- from the readings of two parts and a rule by values to the reading of the whole -/
theorem op2_imp {r : R2} {p : D → D → Option D} (hp : P2 X.K r p) {σ : Sg} {H : Hp} {Q : VK} (q : tE X.K W (dOp2 p a b) σ H Q) : tOp r (tA X.K W a) (tA X.K W b) σ H Q := by
  obtain ⟨ρ, F, s, q⟩ := q
  refine Af.bind s q fun h v ρ1 F1 H1 g1 r1 z1 => Af.bind g1.sr z1 fun k w ρ2 F2 H2 g2 r2 z2 => ?_
  obtain ⟨z, e, q⟩ := ans_some z2
  obtain ⟨x, hx, e⟩ := Option.bind_eq_some_iff.mp e
  obtain ⟨y, hy, e⟩ := Option.bind_eq_some_iff.mp e
  exact hp F2 H2 v w x y z Q g2.sr.sub (look_rep g2.sr (r1.mono g2.sub) hx) (look_rep g2.sr r2 hy) e fun u F' H' f ru => q.okf g2.sr f ru
theorem op1_imp {r : V → Hp → VK → Prop} {p : D → Option D} (hp : P1 X.K r p) {σ : Sg} {H : Hp} {Q : VK} (q : tE X.K W (dOp1 p a) σ H Q) : tUn r (tA X.K W a) σ H Q := by
  obtain ⟨ρ, F, s, q⟩ := q
  refine Af.bind s q fun h v ρ1 F1 H1 g1 r1 z1 => ?_
  obtain ⟨z, e, q⟩ := ans_some z1
  obtain ⟨x, hx, e⟩ := Option.bind_eq_some_iff.mp e
  exact hp F1 H1 v x z Q g1.sr.sub (look_rep g1.sr r1 hx) e fun u F' H' f ru => q.okf g1.sr f ru
theorem opN_imp {r : List V → Hp → VK → Prop} {p : List D → Option D} (hp : PN X.K r p) {σ : Sg} {H : Hp} {Q : VK} (q : tE X.K W (dOpN p as) σ H Q) : tCB r (tAs X.K W as) σ H Q := by
  obtain ⟨ρ, F, s, q⟩ := q
  refine Af.bind s q fun h v ρ1 F1 H1 g1 r1 z1 => ?_
  obtain ⟨z, e, q⟩ := ans_some z1
  obtain ⟨x, hx, e⟩ := Option.bind_eq_some_iff.mp e
  exact hp F1 H1 v x z Q g1.sr.sub (looks_rep g1.sr r1 hx) e fun u F' H' f ru => q.okf g1.sr f ru

theorem de_op {op : Operator} {r : R2} {p : D → D → Option D} (ho : OpR X (binaryOp op) r) (hp : P2 X.K r p) (ha : PE X e (tA X.K W a)) (hb : PE X e2 (tA X.K W b)) : PE X (.BinOp e op e2 pos) (tE X.K W (dOp2 p a b)) :=
  PE.imp (pe_op ho ha hb) fun _ _ _ q => op2_imp hp q
theorem de_cmp {op : CmpOp} {r : R2} {p : D → D → Option D} (ho : OpR X (compareOp op) r) (hp : P2 X.K r p) (ha : PE X e (tA X.K W a)) (hb : PE X e2 (tA X.K W b)) (hm : behindInMarks op e2 = false) : PE X (.Compare e [op] [e2] pos) (tE X.K W (dOp2 p a b)) :=
  PE.imp (pe_cmpR ho ha hb hm) fun _ _ _ q => op2_imp hp q
theorem de_un {op : UnaryOp} {r : V → Hp → VK → Prop} {p : D → Option D} (ho : UnR X (unaryOp op) r) (hp : P1 X.K r p) (ha : PE X e (tA X.K W a)) : PE X (.UnaryOp op e pos) (tE X.K W (dOp1 p a)) :=
  PE.imp (pe_un ho ha) fun _ _ _ q => op1_imp hp q
theorem de_ix {r : R2} {p : D → D → Option D} (ho : IxR X r) (hp : P2 X.K r p) (ha : PE X e (tA X.K W a)) (hb : PE X e2 (tA X.K W b)) (hs : PlainIx e2) : PE X (.Subscript e e2 pos) (tE X.K W (dOp2 p a b)) :=
  PE.imp (pe_ix ho ha hb hs) fun _ _ _ q => op2_imp hp q
end
/-! ### tests -/
def dTv (d : Dn) : Tn := fun ρ => (d ρ).bind fun x ρ' => match x with
  | .bool b => .ok b ρ'
  | _ => .no
def tnNot (t : Tn) : Tn := fun ρ => (t ρ).bind fun b ρ' => .ok (!b) ρ'
def tnAnd (t u : Tn) : Tn := fun ρ => (t ρ).bind fun b ρ' => if b = true then u ρ' else .ok false ρ'
def tnOr (t u : Tn) : Tn := fun ρ => (t ρ).bind fun b ρ' => if b = true then .ok true ρ' else u ρ'
/-- as values -/
def dAnd (d : Dn) (u : Dn) : Dn := fun ρ => (dTv d ρ).bind fun b ρ' => if b = true then u ρ' else .ok (.bool false) ρ'
def dOr (d : Dn) (u : Dn) : Dn := fun ρ => (dTv d ρ).bind fun b ρ' => if b = true then .ok (.bool true) ρ' else u ρ'
def dNot (d : Dn) : Dn := fun ρ => (dTv d ρ).bind fun b ρ' => .ok (.bool (!b)) ρ'
def dIf (t : Tn) (d u : Dn) : Dn := fun ρ => (t ρ).bind fun b ρ' => if b = true then d ρ' else u ρ'
section
variable {X : Cx} {W : Wt} {e e2 e3 : Expr} {es rest : List Expr} {d d2 : Dn} {a b : An} {as : Ans} {pos : Pos} {t u : Tn}
/-- a value that is a truth value -/
theorem tv_bind {γ δ : Type} {R2 : Sg → Hp → γ → δ → Prop} {Q2 : δ → Hp → Prop} {ρ : Rho} {σ : Sg} {F H : Hp} {f : Bool → Rho → RE γ} {t : TE} (i : ∀ σ H Q, tE X.K W d σ H Q → t σ H Q) (s : SR X.K ρ σ F H) (q : Af X.K W R2 ρ σ F H Q2 ((dTv d ρ).bind f)) {P : Bool → Hp → Prop}
    (k : ∀ b ρ1 F1 H1, Go X.K ρ σ F H ρ1 σ F1 H1 → Af X.K W R2 ρ1 σ F1 H1 Q2 (f b ρ1) → P b H1) : t σ H fun x H1 => ∃ c, x = .bl c ∧ P c H1 := by
  have q' : Af X.K W R2 ρ σ F H Q2 ((d ρ).bind fun x ρ' => (match x with | .bool b => RE.ok b ρ' | _ => .no : RE Bool).bind f) := by
    unfold dTv at q
    cases hd : d ρ with
    | no => rw [hd] at q; exact q
    | ex x ρ' => rw [hd] at q; exact q
    | ok x ρ1 => rw [hd] at q; exact q
  refine i _ _ _ (Af.bind s q' fun x v ρ1 F1 H1 g r z => ?_)
  cases x with
  | bool b => exact ⟨b, by simpa only [Rep] using r, k b ρ1 F1 H1 g z⟩
  | none => exact z.elim
  | int _ => exact z.elim
  | str _ => exact z.elim
  | list _ => exact z.elim
  | tuple _ => exact z.elim
  | dict _ => exact z.elim
theorem RE.bind_ok {α : Type} (r : RE α) : (r.bind fun a ρ => .ok a ρ) = r := by cases r <;> rfl
theorem tv_imp {t : TE} (i : ∀ σ H Q, tE X.K W d σ H Q → t σ H Q) {σ : Sg} {H : Hp} {Q : Bool → Hp → Prop} (q : tT X.K W (dTv d) σ H Q) : t σ H fun x H1 => ∃ c, x = .bl c ∧ Q c H1 := by
  obtain ⟨ρ, F, s, q⟩ := q
  exact tv_bind (f := fun b ρ => .ok b ρ) i s (by rw [RE.bind_ok]; exact q) fun b ρ1 F1 H1 g z => z.okk g.sr rfl
theorem dt_cmp {op : CmpOp} {r : R2} {p : D → D → Option D} (ho : OpR X (compareOp op) r) (hp : P2 X.K r p) (ha : PE X e (tA X.K W a)) (hb : PE X e2 (tA X.K W b)) (hm : behindInMarks op e2 = false) : PT X (.Compare e [op] [e2] pos) (tT X.K W (dTv (dOp2 p a b))) :=
  PT.imp (pt_cmpR ho ha hb hm) fun _ _ _ q => tv_imp (fun _ _ _ z => op2_imp hp z) q
/-- an expression that is a call, a name, an item -/
theorem dt_val (h : PE X e (tE X.K W d)) (he : ∀ whole, isTrue e X.env whole = (do let v ← whole; standAt e.pos; holding [v] (truthy v)) := by intro _; rfl) : PT X e (tT X.K W (dTv d)) :=
  PT.imp (pt_val h he) fun _ _ _ q => tv_imp (fun _ _ _ z => z) q
theorem dt_not (h : PT X e (tT X.K W t)) : PT X (.UnaryOp .Not e pos) (tT X.K W (tnNot t)) := PT.imp (pt_not h) fun σ H Q ⟨ρ, F, s, q⟩ =>
  Af.bind s q fun b c ρ1 F1 H1 g r z => z.okk g.sr (by rw [r])
theorem and_imp {σ : Sg} {H : Hp} {Q : Bool → Hp → Prop} (q : tT X.K W (tnAnd t u) σ H Q) : tAnd (tT X.K W t) (tT X.K W u) σ H Q := by
  obtain ⟨ρ, F, s, q⟩ := q
  refine Af.bind s q fun b c ρ1 F1 H1 g r z => ?_
  subst r
  cases c with
  | false => rw [if_neg Bool.false_ne_true] at z ⊢; exact z.okk g.sr rfl
  | true => rw [if_pos rfl] at z ⊢; exact tG.of g.sr z
theorem or_imp {σ : Sg} {H : Hp} {Q : Bool → Hp → Prop} (q : tT X.K W (tnOr t u) σ H Q) : tOr (tT X.K W t) (tT X.K W u) σ H Q := by
  obtain ⟨ρ, F, s, q⟩ := q
  refine Af.bind s q fun b c ρ1 F1 H1 g r z => ?_
  subst r
  cases c with
  | true => rw [if_pos rfl] at z ⊢; exact z.okk g.sr rfl
  | false => rw [if_neg Bool.false_ne_true] at z ⊢; exact tG.of g.sr z
theorem dw_and1 (h : PT X e (tT X.K W t)) : PW X (.BoolOp .And [e] pos) (tT X.K W t) := pw_and1 h
theorem dw_or1 (h : PT X e (tT X.K W t)) : PW X (.BoolOp .Or [e] pos) (tT X.K W t) := pw_or1 h
theorem dw_and (h : PT X e (tT X.K W t)) (h2 : PW X (.BoolOp .And (e2 :: rest) pos) (tT X.K W u)) : PW X (.BoolOp .And (e :: e2 :: rest) pos) (tT X.K W (tnAnd t u)) :=
  ⟨fun wh pins s σ H Q I q => (pw_and h h2).run wh pins s σ H Q I (and_imp q)⟩
theorem dw_or (h : PT X e (tT X.K W t)) (h2 : PW X (.BoolOp .Or (e2 :: rest) pos) (tT X.K W u)) : PW X (.BoolOp .Or (e :: e2 :: rest) pos) (tT X.K W (tnOr t u)) :=
  ⟨fun wh pins s σ H Q I q => (pw_or h h2).run wh pins s σ H Q I (or_imp q)⟩
theorem dt_w (h : PW X e (tT X.K W t)) : PT X e (tT X.K W t) := h.pt
theorem de_one {op} (h : PE X e (tE X.K W d)) : PE X (.BoolOp op [e] pos) (tE X.K W d) := pe_one h
theorem de_and (h : PE X e (tE X.K W d)) (h2 : PE X (.BoolOp .And (e2 :: rest) pos) (tE X.K W d2)) : PE X (.BoolOp .And (e :: e2 :: rest) pos) (tE X.K W (dAnd d d2)) :=
  PE.imp (pe_and h h2) fun σ H Q ⟨ρ, F, s, q⟩ => by
    refine tv_bind (fun _ _ _ z => z) s q fun b ρ1 F1 H1 g z => ?_
    cases b with
    | false => rw [if_neg Bool.false_ne_true] at z ⊢; exact z.okk g.sr rep_bool
    | true => rw [if_pos rfl] at z ⊢; exact tG.of g.sr z
theorem de_or (h : PE X e (tE X.K W d)) (h2 : PE X (.BoolOp .Or (e2 :: rest) pos) (tE X.K W d2)) : PE X (.BoolOp .Or (e :: e2 :: rest) pos) (tE X.K W (dOr d d2)) :=
  PE.imp (pe_or h h2) fun σ H Q ⟨ρ, F, s, q⟩ => by
    refine tv_bind (fun _ _ _ z => z) s q fun b ρ1 F1 H1 g z => ?_
    cases b with
    | true => rw [if_pos rfl] at z ⊢; exact z.okk g.sr rep_bool
    | false => rw [if_neg Bool.false_ne_true] at z ⊢; exact tG.of g.sr z
theorem de_not (h : PE X e (tE X.K W d)) : PE X (.UnaryOp .Not e pos) (tE X.K W (dNot d)) :=
  PE.imp (pe_not h) fun σ H Q ⟨ρ, F, s, q⟩ => tv_bind (fun _ _ _ z => z) s q fun b ρ1 F1 H1 g z => z.okk g.sr rep_bool
theorem de_if (hc : PT X e (tT X.K W t)) (ha : PE X e2 (tE X.K W d)) (hb : PE X e3 (tE X.K W d2)) : PE X (.IfExp e e2 e3 pos) (tE X.K W (dIf t d d2)) :=
  PE.imp (pe_ifExp hc ha hb) fun σ H Q ⟨ρ, F, s, q⟩ => by
    refine Af.bind s q fun b c ρ1 F1 H1 g r z => ?_
    subst r
    cases c with
    | true => rw [if_pos rfl] at z ⊢; exact tG.of g.sr z
    | false => rw [if_neg Bool.false_ne_true] at z ⊢; exact tG.of g.sr z
end
/-! ### names, constants, tuples, lists -/
def dVar (i : Nat) : Dn := fun ρ => match ρ[i]? with
  | some (.val d) => .ok d ρ
  | _ => .no
def dC (d : D) : Dn := fun ρ => .ok d ρ
/-- an own object of mine is frozen -/
def dMov (i : Nat) : Dn := fun ρ => match ρ[i]? with
  | some (.own m true) => .ok m.toD (ρ.set i (.val m.toD))
  | _ => .no
theorem de_fz {X : Cx} {W : Wt} {e : Expr} {d : Fn} (h : PE X e (tF X.K W d)) : PE X e (tE X.K W (dFz d)) := PE.imp h fun _ _ _ q => fz_imp q
/-- values of a display -/
abbrev Vn := Rho → RE (List D)
abbrev RV (K : PySem.W.Frag) : Sg → Hp → List D → List V → Prop := fun _ F d v => Reps K F d v
def tV (K : PySem.W.Frag) (W : Wt) (d : Vn) : TA := tG K W (RV K) d
def vNil : Vn := fun ρ => .ok [] ρ
def vCons (a : Dn) (t : Vn) : Vn := fun ρ => (a ρ).bind fun h ρ1 => (t ρ1).bind fun hs ρ2 => .ok (h :: hs) ρ2
def dTup (a : Vn) : Dn := fun ρ => (a ρ).bind fun l ρ1 => ans (if l.length ≤ sizeLine then some (.tuple l) else none) ρ1
def fLst (a : Vn) : Fn := fun ρ => (a ρ).bind fun l ρ1 => ans (if l.length ≤ sizeLine then some (.lst l) else none) ρ1
section
variable {X : Cx} {W : Wt} {e e2 e3 : Expr} {es rest : List Expr} {d d2 : Dn} {pos : Pos} {v : Vn}
theorem de_var (i : Nat) {x : Str} (hN : X.N[i]? = some x := by rfl) (hv : Vis X.env.scope x := by first | exact Or.inl rfl | exact Or.inr (Or.inl rfl) | exact Or.inr (Or.inr rfl)) (hd : (x == ("__debug__" : Str)) = false := by decide)
    (hcd : (x == ("__classdict__" : Str)) = false := by decide) : PE X (.Name x pos) (tE X.K W (dVar i)) := PE.imp (pe_var hN hv hd hcd) fun σ H Q ⟨ρ, F, s, q⟩ => by
  cases hr : ρ[i]? with
  | none => simp only [dVar, hr] at q; exact q.elim
  | some l =>
    cases l with
    | un => simp only [dVar, hr] at q; exact q.elim
    | own m b => simp only [dVar, hr] at q; exact q.elim
    | val d =>
      simp only [dVar, hr] at q
      obtain ⟨a, h1, h2⟩ := s.val i d hr
      exact ⟨_, h1, q.okk s h2⟩
theorem de_mov (i : Nat) {x : Str} (hN : X.N[i]? = some x := by rfl) (hv : Vis X.env.scope x := by first | exact Or.inl rfl | exact Or.inr (Or.inl rfl) | exact Or.inr (Or.inr rfl)) (hd : (x == ("__debug__" : Str)) = false := by decide)
    (hcd : (x == ("__classdict__" : Str)) = false := by decide) : PE X (.Name x pos) (tE X.K W (dMov i)) := PE.imp (pe_var hN hv hd hcd) fun σ H Q ⟨ρ, F, s, q⟩ => by
  cases hr : ρ[i]? with
  | none => simp only [dMov, hr] at q; exact q.elim
  | some l =>
    cases l with
    | un => simp only [dMov, hr] at q; exact q.elim
    | val d => simp only [dMov, hr] at q; exact q.elim
    | own m b =>
      cases b with
      | false => simp only [dMov, hr] at q; exact q.elim
      | true =>
        simp only [dMov, hr] at q
        obtain ⟨a, F', h1, h2, g⟩ := s.mov hr
        exact ⟨_, h1, q _ _ _ g h2⟩
theorem de_c {p : D} {x : V} (h : PE X e (tC x)) (r : Rep X.K (fun _ => none) p x) : PE X e (tE X.K W (dC p)) := PE.imp h fun σ H Q ⟨ρ, F, s, q⟩ => q.okk s (Rep.mono (fun _ _ z => by cases z) _ _ r)
theorem de_int {i k} : PE X (.Constant (.int i) k pos) (tE X.K W (dC (.int i))) := de_c pe_int rep_int
theorem de_bl {i k} : PE X (.Constant (.bool i) k pos) (tE X.K W (dC (.bool i))) := de_c pe_bl rep_bool
theorem de_str {i k} : PE X (.Constant (.str i) k pos) (tE X.K W (dC (.str i))) := de_c pe_str rep_str
theorem de_non {k} : PE X (.Constant .none k pos) (tE X.K W (dC .none)) := de_c pe_non rep_none
theorem dvs_nil : PA X [] (tV X.K W vNil) := PA.imp pa_nil fun σ H Q ⟨ρ, F, s, q⟩ => Af.okk s q .nil
theorem dvs_cons (h : PE X e (tE X.K W d)) (t : PA X es (tV X.K W v)) (hs : starEach (e :: es) X.env = (false, eval e X.env) :: starEach es X.env := by rfl) : PA X (e :: es) (tV X.K W (vCons d v)) :=
  PA.imp (pa_cons h t hs) fun σ H Q ⟨ρ, F, s, q⟩ => Af.bind s q fun h v ρ1 F1 H1 g1 r1 z1 =>
    Af.bind g1.sr z1 fun hs vs ρ2 F2 H2 g2 r2 z2 => z2.okk g2.sr (.cons (Rep.mono g2.sub _ _ r1) r2)
theorem de_tup {x1} (h : PA X es (tV X.K W v)) : PE X (.Tuple es x1 pos) (tE X.K W (dTup v)) :=
  PE.imp (pe_tup h) fun σ H Q ⟨ρ, F, s, q⟩ => Af.bind s q fun l vs ρ1 F1 H1 g1 r1 z1 => by
    obtain ⟨z, e, q⟩ := ans_some z1
    by_cases hl : l.length ≤ sizeLine
    · rw [if_pos hl] at e; cases e
      refine ⟨by rw [← r1.length]; exact hl, fun p hp => ?_⟩
      obtain ⟨f, r⟩ := new_tuple g1.sr.sub hp r1
      exact q.okf g1.sr f r
    · rw [if_neg hl] at e; cases e
theorem df_lst (h : PA X es (tV X.K W v)) : PE X (.List es pos) (tF X.K W (fLst v)) :=
  PE.imp (pe_lst h) fun σ H Q ⟨ρ, F, s, q⟩ => AfF.bind s q fun l vs ρ1 F1 H1 g1 r1 z1 => by
    by_cases hl : l.length ≤ sizeLine
    · rw [if_pos hl] at z1
      exact ⟨by rw [← r1.length]; exact hl, fun p hp => AfF.new g1.sr z1 hp r1⟩
    · rw [if_neg hl] at z1; exact z1.elim
end
end Ft
/-! Ft3: statements. -/
namespace Ft
open PySem L2 PySem.Spec PyProof.Rows

def notIo (ρ : Rho) (i : Nat) : Bool := match ρ[i]? with
  | some (.own _ false) => false
  | some _ => true
  | none => false
section
variable {K : PySem.W.Frag} {ρ ρ' ρ0 : Rho} {σ σ' σ0 : Sg} {F H F' H' F0 H0 : Hp} {a : Addr}
theorem notIo_lt {i : Nat} (h : notIo ρ i = true) : i < ρ.length := by
  unfold notIo at h
  cases e : ρ[i]? with
  | none => rw [e] at h; cases h
  | some x => exact (List.getElem?_eq_some_iff.mp e).1
theorem notIo_ne {i : Nat} (h : notIo ρ i = true) (m : Mo) : ρ[i]? ≠ some (.own m false) := fun e => by
  unfold notIo at h
  rw [e] at h; cases h
theorem get_set {ρ : List α} {i j : Nat} {y x : α} (hi : i < ρ.length) (z : (ρ.set i y)[j]? = some x) : (j = i ∧ x = y) ∨ (j ≠ i ∧ ρ[j]? = some x) := by
  by_cases hj : i = j
  · subst hj; rw [List.getElem?_set_self hi] at z; exact .inl ⟨rfl, (Option.some.inj z).symm⟩
  · rw [List.getElem?_set_ne hj] at z; exact .inr ⟨fun q => hj q.symm, z⟩
/-- a slot gets a value -/
theorem SR.setV {i : Nat} {d : D} {v : V} (s : SR K ρ σ F H) (h : notIo ρ i = true) (r : Rep K F d v) : Go K ρ σ F H (ρ.set i (.val d)) (σ.set i (some v)) F H := by
  have hi := notIo_lt h
  have hs : i < σ.length := by rw [s.len]; exact hi
  have sub : ∀ b, Own (ρ.set i (.val d)) (σ.set i (some v)) b → Own ρ σ b := fun b ⟨j, m', k, e1, e2⟩ => by
    rcases get_set hi e1 with ⟨hj, z⟩ | ⟨hj, z⟩
    · cases z
    · rw [List.getElem?_set_ne (Ne.symm hj)] at e2
      exact ⟨j, m', k, z, e2⟩
  refine ⟨Same.refl _, fun b u e n => ⟨e, id, fun q => n (sub b q)⟩, ⟨s.sub, by rw [List.length_set, List.length_set]; exact s.len, fun j d' z => ?_, fun j m' k z => ?_, fun j1 j2 m1 k1 m2 k2 c z1 z2 q1 q2 => ?_⟩, fun b u z => ⟨u, z⟩, fun j m' z => ?_⟩
  · rcases get_set hi z with ⟨hj, y⟩ | ⟨hj, y⟩
    · cases y; subst hj; exact ⟨v, by rw [List.getElem?_set_self hs], r⟩
    · rw [List.getElem?_set_ne (Ne.symm hj)]; exact s.val j d' y
  · rcases get_set hi z with ⟨hj, y⟩ | ⟨hj, y⟩
    · cases y
    · rw [List.getElem?_set_ne (Ne.symm hj)]; exact s.own j m' k y
  · rcases get_set hi z1 with ⟨hj1, y1⟩ | ⟨hj1, y1⟩
    · cases y1
    · rcases get_set hi z2 with ⟨hj2, y2⟩ | ⟨hj2, y2⟩
      · cases y2
      · rw [List.getElem?_set_ne (Ne.symm hj1)] at q1
        rw [List.getElem?_set_ne (Ne.symm hj2)] at q2
        exact s.inj j1 j2 _ _ _ _ c y1 y2 q1 q2
  · have hj : i ≠ j := fun q => by subst q; exact notIo_ne h m' z
    exact ⟨m', by rw [List.getElem?_set_ne hj]; exact z, by rw [List.getElem?_set_ne hj]⟩
/-- a slot gets a new object -/
theorem Go.setO {i : Nat} {m : Mo} (g : Go K ρ0 σ0 F0 H0 ρ σ F H) (h : notIo ρ i = true) (o : OwnAt K F H a m) (n0 : H0 a = none) (no : ¬ Own ρ σ a) : Go K ρ0 σ0 F0 H0 (ρ.set i (.own m true)) (σ.set i (some (.ref a))) F H := by
  have hi := notIo_lt h
  have s := g.sr
  have hs : i < σ.length := by rw [s.len]; exact hi
  have sub : ∀ b, Own (ρ.set i (.own m true)) (σ.set i (some (.ref a))) b → Own ρ σ b ∨ b = a := fun b ⟨j, m', k, e1, e2⟩ => by
    rcases get_set hi e1 with ⟨hj, z⟩ | ⟨hj, z⟩
    · subst hj; rw [List.getElem?_set_self hs] at e2; cases e2; exact .inr rfl
    · rw [List.getElem?_set_ne (Ne.symm hj)] at e2
      exact .inl ⟨j, m', k, z, e2⟩
  refine ⟨g.sub, fun b u e n => ?_, ⟨s.sub, by rw [List.length_set, List.length_set]; exact s.len, fun j d' z => ?_, fun j m' k z => ?_, fun j1 j2 m1 k1 m2 k2 c z1 z2 q1 q2 => ?_⟩, g.there, fun j m' z => ?_⟩
  · obtain ⟨h1, h2, h3⟩ := g.keep b u e n
    exact ⟨h1, h2, fun q => (sub b q).elim h3 fun z => by subst z; rw [n0] at e; cases e⟩
  · rcases get_set hi z with ⟨hj, y⟩ | ⟨hj, y⟩
    · cases y
    · rw [List.getElem?_set_ne (Ne.symm hj)]; exact s.val j d' y
  · rcases get_set hi z with ⟨hj, y⟩ | ⟨hj, y⟩
    · cases y; subst hj; exact ⟨a, by rw [List.getElem?_set_self hs], o⟩
    · rw [List.getElem?_set_ne (Ne.symm hj)]; exact s.own j m' k y
  · rcases get_set hi z1 with ⟨hj1, y1⟩ | ⟨hj1, y1⟩
    · rcases get_set hi z2 with ⟨hj2, y2⟩ | ⟨hj2, y2⟩
      · rw [hj1, hj2]
      · subst hj1
        rw [List.getElem?_set_self hs] at q1
        rw [List.getElem?_set_ne (Ne.symm hj2)] at q2
        cases q1
        exact absurd ⟨j2, _, _, y2, q2⟩ no
    · rcases get_set hi z2 with ⟨hj2, y2⟩ | ⟨hj2, y2⟩
      · subst hj2
        rw [List.getElem?_set_self hs] at q2
        rw [List.getElem?_set_ne (Ne.symm hj1)] at q1
        cases q2
        exact absurd ⟨j1, _, _, y1, q1⟩ no
      · rw [List.getElem?_set_ne (Ne.symm hj1)] at q1
        rw [List.getElem?_set_ne (Ne.symm hj2)] at q2
        exact s.inj j1 j2 _ _ _ _ c y1 y2 q1 q2
  · obtain ⟨m2, e1, e2⟩ := g.io j m' z
    have hj : i ≠ j := fun q => by subst q; exact notIo_ne h m2 e1
    exact ⟨m2, by rw [List.getElem?_set_ne hj]; exact e1, by rw [List.getElem?_set_ne hj]; exact e2⟩
/-- the object of a slot is changed -/
theorem SR.change {i : Nat} {m m' : Mo} {k : Bool} {o' : HO} (s : SR K ρ σ F H) (e : ρ[i]? = some (.own m k)) (ha : σ[i]? = some (some (.ref a))) (n : OwnAt K F (upd H a o') a m') : Go K ρ σ F H (ρ.set i (.own m' k)) σ F (upd H a o') := by
  have hi : i < ρ.length := (List.getElem?_eq_some_iff.mp e).1
  have own : Own ρ σ a := ⟨i, m, k, e, ha⟩
  have sub : ∀ b, Own (ρ.set i (.own m' k)) σ b → Own ρ σ b := fun b ⟨j, m2, k2, e1, e2⟩ => by
    rcases get_set hi e1 with ⟨hj, z⟩ | ⟨hj, z⟩
    · subst hj; exact ⟨j, m, k, e, e2⟩
    · exact ⟨j, m2, k2, z, e2⟩
  refine ⟨Same.refl _, fun b u eb hn => ⟨by rw [upd_ne (show b ≠ a from fun z => hn (by rw [z]; exact own))]; exact eb, id, fun q => hn (sub b q)⟩, ⟨fun b u q => ?_, by rw [List.length_set]; exact s.len, fun j d z => ?_, fun j m2 k2 z => ?_, fun j1 j2 m1 k1 m2 k2 c z1 z2 q1 q2 => ?_⟩, fun b u z => ?_, fun j m2 z => ?_⟩
  · have : b ≠ a := fun z => by rw [z, n.free] at q; cases q
    rw [upd_ne this]; exact s.sub _ _ q
  · rcases get_set hi z with ⟨hj, y⟩ | ⟨hj, y⟩
    · cases y
    · exact s.val j d y
  · rcases get_set hi z with ⟨hj, y⟩ | ⟨hj, y⟩
    · cases y; subst hj; exact ⟨a, ha, n⟩
    · obtain ⟨c, q1, q2⟩ := s.own j m2 k2 y
      have hc : c ≠ a := fun q => hj (s.inj j i _ _ _ _ a y e (q ▸ q1) ha)
      exact ⟨c, q1, q2.move (Same.refl _) q2.free fun o eo => by rw [upd_ne hc]; exact eo⟩
  · rcases get_set hi z1 with ⟨hj1, y1⟩ | ⟨hj1, y1⟩
    · rcases get_set hi z2 with ⟨hj2, y2⟩ | ⟨hj2, y2⟩
      · rw [hj1, hj2]
      · subst hj1; exact s.inj j1 j2 _ _ _ _ c e y2 q1 q2
    · rcases get_set hi z2 with ⟨hj2, y2⟩ | ⟨hj2, y2⟩
      · subst hj2; exact s.inj j1 j2 _ _ _ _ c y1 e q1 q2
      · exact s.inj j1 j2 _ _ _ _ c y1 y2 q1 q2
  · by_cases hb : b = a
    · subst hb; exact ⟨_, upd_same⟩
    · exact ⟨u, by rw [upd_ne hb]; exact z⟩
  · by_cases hj : i = j
    · subst hj; rw [e] at z; cases z; exact ⟨m', by rw [List.getElem?_set_self hi], rfl⟩
    · exact ⟨m2, by rw [List.getElem?_set_ne hj]; exact z, rfl⟩
end

/-- an own object's slot is forgotten -/
theorem Go.drop {K : PySem.W.Frag} {ρ : Rho} {σ : Sg} {F H : Hp} {i : Nat} {m : Mo} (s : SR K ρ σ F H) (e : ρ[i]? = some (.own m true)) : Go K ρ σ F H (ρ.set i .un) σ F H := by
  have hi : i < ρ.length := (List.getElem?_eq_some_iff.mp e).1
  have sub : ∀ a, Own (ρ.set i .un) σ a → Own ρ σ a := fun a ⟨j, m', b, e1, e2⟩ => by
    rcases get_set hi e1 with ⟨hj, y⟩ | ⟨hj, y⟩
    · cases y
    · exact ⟨j, m', b, y, e2⟩
  refine ⟨Same.refl _, fun a o ea n => ⟨ea, id, fun z => n (sub a z)⟩, ⟨s.sub, by rw [List.length_set]; exact s.len, fun j d z => ?_, fun j m' k z => ?_, fun j1 j2 m1 k1 m2 k2 c z1 z2 q1 q2 => ?_⟩, fun a o ea => ⟨o, ea⟩, fun j m' z => ?_⟩
  · rcases get_set hi z with ⟨hj, y⟩ | ⟨hj, y⟩
    · cases y
    · exact s.val j d y
  · rcases get_set hi z with ⟨hj, y⟩ | ⟨hj, y⟩
    · cases y
    · exact s.own j m' k y
  · rcases get_set hi z1 with ⟨hj1, y1⟩ | ⟨hj1, y1⟩
    · cases y1
    · rcases get_set hi z2 with ⟨hj2, y2⟩ | ⟨hj2, y2⟩
      · cases y2
      · exact s.inj j1 j2 _ _ _ _ c y1 y2 q1 q2
  · by_cases hj : i = j
    · subst hj; rw [e] at z; cases z
    · exact ⟨m', by rw [List.getElem?_set_ne hj]; exact z, rfl⟩

def RE.st {α : Type} : RE α → (α → Rho → RS) → RS
  | .ok a ρ, f => f a ρ
  | .ex x ρ, _ => .ex x ρ
  | .no, _ => .no
def sSkip : Sn := fun ρ => .next ρ
def sSeq (a b : Sn) : Sn := fun ρ => match a ρ with
  | .next ρ' => b ρ'
  | r => r
def sIf (t : Tn) (a b : Sn) : Sn := fun ρ => (t ρ).st fun c ρ' => if c = true then a ρ' else b ρ'
def sSet (i : Nat) (d : Dn) : Sn := fun ρ => (d ρ).st fun x ρ' => if notIo ρ' i = true then .next (ρ'.set i (.val x)) else .no
def sNew (i : Nat) (d : Fn) : Sn := fun ρ => (d ρ).st fun m ρ' => if notIo ρ' i = true then .next (ρ'.set i (.own m true)) else .no
def sRet (d : Dn) : Sn := fun ρ => (d ρ).st fun x ρ' => .ret x ρ'
/-- a new object is handed out, an own one -/
def sRetF (d : Fn) : Sn := fun ρ => (d ρ).st fun m ρ' => .new m ρ'
def sRetM (i : Nat) : Sn := fun ρ => match ρ[i]? with
  | some (.own m true) => .new m (ρ.set i .un)
  | some (.val d) => .ret d ρ
  | _ => .no
def sRetN : Sn := fun ρ => .ret .none ρ
def sExpr (d : Dn) : Sn := fun ρ => (d ρ).st fun _ ρ' => .next ρ'
section
variable {K : PySem.W.Frag} {W : Wt} {α β : Type} {R : Sg → Hp → α → β → Prop} {ρ ρ' : Rho} {σ : Sg} {F H F' H' : Hp} {E : Ends}
theorem AfS.bind {d : Rho → RE α} {f : α → Rho → RS} (s : SR K ρ σ F H) (q : AfS K W ρ σ F H E ((d ρ).st f)) {P : β → Hp → Prop}
    (k : ∀ a v ρ1 F1 H1, Go K ρ σ F H ρ1 σ F1 H1 → R σ F1 a v → AfS K W ρ1 σ F1 H1 E (f a ρ1) → P v H1) : tG K W R d σ H P := by
  refine ⟨ρ, F, s, ?_⟩
  cases hd : d ρ with
  | no => simp only [hd, RE.st] at q; exact q
  | ex x ρ' => simp only [hd, RE.st] at q; exact fun c dx F' H' g z => q c dx σ F' H' g z
  | ok a ρ1 =>
    simp only [hd, RE.st] at q
    exact fun v F1 H1 g r => k a v ρ1 F1 H1 g r (q.at g)
theorem AfS.bindF {d : Fn} {f : Mo → Rho → RS} (s : SR K ρ σ F H) (q : AfS K W ρ σ F H E ((d ρ).st f)) {P : VK}
    (k : ∀ m a ρ1 F1 H1, Go K ρ σ F H ρ1 σ F1 H1 → OwnAt K F1 H1 a m → H a = none → ¬ Own ρ1 σ a → AfS K W ρ σ F H E (f m ρ1) → P (.ref a) H1) : tF K W d σ H P := by
  refine ⟨ρ, F, s, ?_⟩
  cases hd : d ρ with
  | no => simp only [hd, RE.st] at q; exact q
  | ex x ρ' => simp only [hd, RE.st] at q; exact fun c dx F' H' g z => q c dx σ F' H' g z
  | ok m ρ1 =>
    simp only [hd, RE.st] at q
    exact fun a F1 H1 g o n no => k m a ρ1 F1 H1 g o n no q
end
section
variable {X : Cx} {W : Wt} {e e2 e3 : Expr} {es rest : List Expr} {st st2 : Stmt} {sts sts2 : List Stmt} {d d2 : Dn} {fd : Fn} {pos pos' : Pos} {v : Vn} {t : Tn} {a b : Sn}
theorem dss_nil : PSs X [] (tS X.K W sSkip) := PSs.imp pss_nil fun D σ H ⟨ρ, F, s, q⟩ => q σ F H (Go.refl s)
theorem dss_cons (h : PS X st (tS X.K W a)) (h2 : PSs X sts (tS X.K W b)) : PSs X (st :: sts) (tS X.K W (sSeq a b)) := PSs.imp (pss_cons h h2) fun D σ H ⟨ρ, F, s, q⟩ => by
  refine ⟨ρ, F, s, ?_⟩
  simp only [sSeq] at q
  cases ha : a ρ with
  | next ρ1 => rw [ha] at q; exact fun σ' F' H' g => ⟨ρ1, F', g.sr, AfS.at g q⟩
  | ret x ρ1 => rw [ha] at q; exact q
  | new x ρ1 => rw [ha] at q; exact q
  | brk ρ1 => rw [ha] at q; exact q
  | cnt ρ1 => rw [ha] at q; exact q
  | ex x ρ1 => rw [ha] at q; exact q
  | no => rw [ha] at q; exact q
theorem dss_one (h : PS X st (tS X.K W a)) : PSs X [st] (tS X.K W a) := pss_one h
theorem ds_pass : PS X (.Pass pos) (tS X.K W sSkip) := PS.imp ps_pass fun D σ H ⟨ρ, F, s, q⟩ => q σ F H (Go.refl s)
theorem ds_break : PS X (.Break pos) (tS X.K W fun ρ => .brk ρ) := PS.imp ps_break fun D σ H ⟨ρ, F, s, q⟩ => q σ F H (Go.refl s)
theorem ds_continue : PS X (.Continue pos) (tS X.K W fun ρ => .cnt ρ) := PS.imp ps_continue fun D σ H ⟨ρ, F, s, q⟩ => q σ F H (Go.refl s)
theorem ds_if (hc : PT X e (tT X.K W t)) (ha : PSs X sts (tS X.K W a)) (hb : PSs X sts2 (tS X.K W b)) : PS X (.If e sts sts2 pos) (tS X.K W (sIf t a b)) := PS.imp (ps_if hc ha hb) fun D σ H ⟨ρ, F, s, q⟩ => by
  refine AfS.bind s q fun c v ρ1 F1 H1 g r z => ?_
  subst r
  cases v with
  | true => rw [if_pos rfl] at z ⊢; exact ⟨ρ1, F1, g.sr, z⟩
  | false => rw [if_neg Bool.false_ne_true] at z ⊢; exact ⟨ρ1, F1, g.sr, z⟩
theorem ds_ret (h : PE X e (tE X.K W d)) : PS X (.Return (some e) pos) (tS X.K W (sRet d)) := PS.imp (ps_ret h) fun D σ H ⟨ρ, F, s, q⟩ =>
  AfS.bind s q fun c v ρ1 F1 H1 g r z => z v σ F1 H1 (Go.refl g.sr) r
theorem ds_retF {fd : Fn} (h : PE X e (tF X.K W fd)) : PS X (.Return (some e) pos) (tS X.K W (sRetF fd)) := PS.imp (ps_ret h) fun D σ H ⟨ρ, F, s, q⟩ =>
  AfS.bindF s q fun m a ρ1 F1 H1 g o n no z => z a σ F1 H1 g o no (.inl n)
theorem ds_retM (i : Nat) {x : Str} (hN : X.N[i]? = some x := by rfl) (hv : Vis X.env.scope x := by first | exact Or.inl rfl | exact Or.inr (Or.inl rfl) | exact Or.inr (Or.inr rfl)) (hd : (x == ("__debug__" : Str)) = false := by decide)
    (hcd : (x == ("__classdict__" : Str)) = false := by decide) : PS X (.Return (some (.Name x pos')) pos) (tS X.K W (sRetM i)) := PS.imp (ps_ret (pe_var hN hv hd hcd)) fun D σ H ⟨ρ, F, s, q⟩ => by
  cases hr : ρ[i]? with
  | none => simp only [sRetM, hr] at q; exact q.elim
  | some l =>
    cases l with
    | un => simp only [sRetM, hr] at q; exact q.elim
    | val d =>
      simp only [sRetM, hr] at q
      obtain ⟨v, h1, h2⟩ := s.val i d hr
      exact ⟨v, h1, q v σ F H (Go.refl s) h2⟩
    | own m b =>
      cases b with
      | false => simp only [sRetM, hr] at q; exact q.elim
      | true =>
        simp only [sRetM, hr] at q
        obtain ⟨a, h1, h2⟩ := s.own i m true hr
        have no : ¬ Own (ρ.set i .un) σ a := fun ⟨j, m', b', e1, e2⟩ => by
          have hi : i < ρ.length := (List.getElem?_eq_some_iff.mp hr).1
          rcases get_set hi e1 with ⟨hj, y⟩ | ⟨hj, y⟩
          · cases y
          · exact hj (s.inj j i _ _ _ _ a y hr e2 h1)
        exact ⟨_, h1, q a σ F H (Go.drop s hr) h2 no (.inr ⟨i, m, hr, h1⟩)⟩
theorem ds_retN : PS X (.Return none pos) (tS X.K W sRetN) := PS.imp ps_retN fun D σ H ⟨ρ, F, s, q⟩ => q _ σ F H (Go.refl s) rep_none
theorem ds_expr (h : PE X e (tE X.K W d)) (hs : swapsWith e none pos.line X.env = pure false := by rfl) : PS X (.Expr e pos) (tS X.K W (sExpr d)) := PS.imp (ps_expr h hs) fun D σ H ⟨ρ, F, s, q⟩ =>
  AfS.bind s q fun c v ρ1 F1 H1 g r z => z σ F1 H1 (Go.refl g.sr)
theorem ds_set (i : Nat) {x : Str} (hN : X.N.Nodup) (h : PE X e (tE X.K W d)) (hi : X.N[i]? = some x := by rfl) (hx : Loc X.env.scope x := by first | exact Or.inl rfl | exact Or.inr rfl) (hs : swapsWith e (some (.Name x pos')) pos.line X.env = pure false := by rfl)
    (hf : X.fn x = true ∨ X.env.scope.names.lookup x = some .local := by first | exact .inl rfl | exact .inr rfl | assumption) : PS X (.Assign [.Name x pos'] e pos) (tS X.K W (sSet i d)) :=
  PS.imp (ps_set hN hi hx h hs hf) fun D σ H ⟨ρ, F, s, q⟩ => AfS.bind s q fun c v ρ1 F1 H1 g r z => by
    by_cases hn : notIo ρ1 i = true
    · rw [if_pos hn] at z; exact z _ _ _ (g.sr.setV hn r)
    · rw [if_neg hn] at z; exact z.elim
theorem ds_new (i : Nat) {x : Str} (hN : X.N.Nodup) (h : PE X e (tF X.K W fd)) (hi : X.N[i]? = some x := by rfl) (hx : Loc X.env.scope x := by first | exact Or.inl rfl | exact Or.inr rfl) (hs : swapsWith e (some (.Name x pos')) pos.line X.env = pure false := by rfl)
    (hf : X.fn x = true ∨ X.env.scope.names.lookup x = some .local := by first | exact .inl rfl | exact .inr rfl | assumption) : PS X (.Assign [.Name x pos'] e pos) (tS X.K W (sNew i fd)) :=
  PS.imp (ps_set hN hi hx h hs hf) fun D σ H ⟨ρ, F, s, q⟩ => AfS.bindF s q fun m a ρ1 F1 H1 g o n no z => by
    by_cases hn : notIo ρ1 i = true
    · rw [if_pos hn] at z; exact z _ _ _ (g.setO hn o n no)
    · rw [if_neg hn] at z; exact z.elim
end

/-! ### targets -/
abbrev Bd := D → Rho → Option Rho
/-- other slots than these are as they were -/
def Kp (ts : List Nat) (σ σ' : Sg) : Prop := σ'.length = σ.length ∧ ∀ j : Nat, j ∉ ts → σ'[j]? = σ[j]?
def TgR (K : PySem.W.Frag) (g : TG) (bd : Bd) (ts : List Nat) : Prop := ∀ ρ σ F H v d ρ' (Q : Sg → Hp → Prop), SR K ρ σ F H → Rep K F d v → bd d ρ = some ρ' → (∀ σ', Go K ρ σ F H ρ' σ' F H → Kp ts σ σ' → Q σ' H) → g v σ H Q
def bN (i : Nat) : Bd := fun d ρ => if notIo ρ i = true then some (ρ.set i (.val d)) else none
def bindAll : List Nat → List D → Rho → Option Rho
  | [], [], ρ => some ρ
  | i :: is, d :: ds, ρ => if notIo ρ i = true then bindAll is ds (ρ.set i (.val d)) else none
  | _, _, _ => none
def bT (is : List Nat) : Bd := fun d ρ => match d with
  | .tuple ds => bindAll is ds ρ
  | _ => none
structure Tg (X : Cx) (tg : Expr) (bd : Bd) (ts : List Nat) : Prop where
  ex : ∃ g, PG X tg g ∧ TgR X.K g bd ts
structure Tgs (X : Cx) (ts : List Expr) (is : List Nat) : Prop where
  ex : ∃ g, PGs X ts g ∧ ∀ ρ σ F H vs ds ρ' (Q : Sg → Hp → Prop), SR X.K ρ σ F H → Reps X.K F ds vs → bindAll is ds ρ = some ρ' → (∀ σ', Go X.K ρ σ F H ρ' σ' F H → Kp is σ σ' → Q σ' H) → g vs σ H Q
section
variable {X : Cx} {pos : Pos} {e : Expr} {es : List Expr} {is : List Nat}
theorem tg_n (i : Nat) {x : Str} (hN : X.N.Nodup) (hi : X.N[i]? = some x := by rfl) (hx : Loc X.env.scope x := by first | exact Or.inl rfl | exact Or.inr rfl)
    (hf : X.fn x = true ∨ X.env.scope.names.lookup x = some .local := by first | exact .inl rfl | exact .inr rfl | assumption) : Tg X (.Name x pos) (bN i) [i] :=
  ⟨gName i, pg_name hN hi hx hf, fun ρ σ F H v d ρ' Q s r h k => by
    unfold bN at h
    by_cases hn : notIo ρ i = true
    · rw [if_pos hn] at h; cases h; exact k _ (s.setV hn r) ⟨List.length_set, fun j hj => List.getElem?_set_ne (by simpa using fun z : i = j => hj (by simp [z]))⟩
    · rw [if_neg hn] at h; cases h⟩
theorem tgs_nil : Tgs X [] [] := ⟨gNil, pgs_nil, fun ρ σ F H vs ds ρ' Q s r h k => by
  cases ds with
  | nil => cases h; exact ⟨reps_nil.mp r, k _ (Go.refl s) ⟨rfl, fun j hj => rfl⟩⟩
  | cons d ds => cases h⟩
theorem tgs_cons (i : Nat) {x : Str} (hN : X.N.Nodup) (t : Tgs X es is) (hi : X.N[i]? = some x := by rfl) (hx : Loc X.env.scope x := by first | exact Or.inl rfl | exact Or.inr rfl)
    (hf : X.fn x = true ∨ X.env.scope.names.lookup x = some .local := by first | exact .inl rfl | exact .inr rfl | assumption)
    (hs : (assignEach (.Name x pos :: es) X.env).map (·.2) = assign (.Name x pos) X.env :: (assignEach es X.env).map (·.2) := by rfl) : Tgs X (.Name x pos :: es) (i :: is) := by
  obtain ⟨g, hg, hr⟩ := t.ex
  refine ⟨gCons (gName i) g, pgs_cons (pg_name hN hi hx hf) hg hs, fun ρ σ F H vs ds ρ' Q s r h k => ?_⟩
  cases ds with
  | nil => cases h
  | cons d ds =>
    obtain ⟨v, w, rfl, r1, r2⟩ := reps_cons.mp r
    unfold bindAll at h
    by_cases hn : notIo ρ i = true
    · rw [if_pos hn] at h
      have g1 := s.setV hn r1
      exact ⟨v, w, rfl, hr _ _ _ _ _ _ _ _ g1.sr r2 h fun σ' g2 kp => k σ' (g1.trans g2) ⟨by rw [kp.1, List.length_set], fun j hj => by
        rw [kp.2 j (fun z => hj (List.mem_cons_of_mem _ z)), List.getElem?_set_ne (fun z : i = j => hj (by simp [z]))]⟩⟩
    · rw [if_neg hn] at h; cases h
theorem tg_t {k : Nat} {n : Nat} (hc : X.calm = true) (t : Tgs X es is) (hn : (assignEach es X.env).length = n := by rfl) (hst : (assignEach es X.env).findIdx? (·.1) = none := by rfl) (hl : is.length = n := by rfl) : Tg X (.Tuple es k pos) (bT is) is := by
  obtain ⟨g, hg, hr⟩ := t.ex
  refine ⟨_, pg_tup hc hg hn hst, fun ρ σ F H v d ρ' Q s r h k => ?_⟩
  cases d with
  | tuple ds =>
    simp only [Rep] at r
    obtain ⟨a, vs, rfl, q, r⟩ := r
    have len : ∀ (is : List Nat) (ds : List D) (ρ : Rho), bindAll is ds ρ = some ρ' → is.length = ds.length := fun is => by
      induction is with
      | nil => intro ds ρ h; cases ds with
        | nil => rfl
        | cons d ds => cases h
      | cons i is ih => intro ds ρ h; cases ds with
        | nil => cases h
        | cons d ds =>
          unfold bindAll at h
          by_cases hn : notIo ρ i = true
          · rw [if_pos hn] at h; rw [List.length_cons, List.length_cons, ih ds _ h]
          · rw [if_neg hn] at h; cases h
    exact ⟨a, vs, rfl, SqT.of (s.sub _ _ q), by rw [← r.length, ← len is ds ρ h, hl], hr _ _ _ _ _ _ _ _ s r h k⟩
  | none => cases h
  | bool _ => cases h
  | int _ => cases h
  | str _ => cases h
  | list _ => cases h
  | dict _ => cases h
end
def sAsg (bd : Bd) (d : Dn) : Sn := fun ρ => (d ρ).st fun x ρ' => match bd x ρ' with
  | some ρ2 => .next ρ2
  | none => .no
theorem ds_asg {X : Cx} {W : Wt} {tg e : Expr} {d : Dn} {bd : Bd} {ts : List Nat} {pos : Pos} (h : PE X e (tE X.K W d)) (t : Tg X tg bd ts) (hs : swapsWithSole [tg] e pos.line X.env = pure false := by rfl) (hw : swappedStores [tg] e X.env = pure none := by rfl)
    (h1 : (assignEach [tg] X.env).map (·.2) = [assign tg X.env] := by rfl) : PS X (.Assign [tg] e pos) (tS X.K W (sAsg bd d)) := by
  obtain ⟨g, hg, hr⟩ := t.ex
  refine PS.imp (ps_asg h hg hs hw h1) fun D σ H ⟨ρ, F, s, q⟩ => AfS.bind s q fun c v ρ1 F1 H1 g r z => ?_
  cases hb : bd c ρ1 with
  | none => rw [hb] at z; exact z.elim
  | some ρ2 => rw [hb] at z; exact hr _ _ _ _ _ _ _ _ g.sr r hb fun σ' g2 _ => z _ _ _ g2

/-! ### loops -/
/-- it walks the trees l in every later state -/
structure Walk (K : PySem.W.Frag) (J : It) (l : List D) (F0 : Hp) : Prop where
  go : ∀ (i : Nat) F H, Same F0 F → Same F H → i < l.length → J.go i H ∧ ∀ x H', J.yld i H x H' → ∃ F' d, Fr F H F' H' ∧ l[i]? = some d ∧ Rep K F' d x
  stop : ∀ (i : Nat) F H, Same F0 F → Same F H → l.length ≤ i → J.stop i H
abbrev In := Rho → RE (List D)
abbrev RI (K : PySem.W.Frag) : Sg → Hp → List D → It → Prop := fun _ F l J => Walk K J l F
def tI (K : PySem.W.Frag) (W : Wt) (d : In) : TI := tG K W (RI K) d
def forV (bd : Bd) (body : Sn) : List D → Rho → RS
  | [], ρ => .next ρ
  | d :: l, ρ => match bd d ρ with
    | none => .no
    | some ρ1 => match body ρ1 with
      | .next ρ2 => forV bd body l ρ2
      | .cnt ρ2 => forV bd body l ρ2
      | .brk ρ2 => .next ρ2
      | .ret x ρ2 => .ret x ρ2
      | .new x ρ2 => .new x ρ2
      | .ex x ρ2 => .ex x ρ2
      | .no => .no
def sFor (src : In) (bd : Bd) (body : Sn) : Sn := fun ρ => (src ρ).st fun l ρ' => forV bd body l ρ'
theorem ds_for {X : Cx} {W : Wt} {tg iter : Expr} {body : List Stmt} {src : In} {bd : Bd} {ts : List Nat} {b : Sn} {pos : Pos} (hp : PassesOwn (model X.prog X.w) X.A X.env X.xe) (hc : X.calm = true) (hi : PI X tg iter (tI X.K W src)) (t : Tg X tg bd ts) (hb : PSs X body (tS X.K W b))
    (hs : ∀ x, foldedSetIterable iter X.env x = pure x := by intro _; rfl) : PS X (.For tg iter body [] pos) (tS X.K W (sFor src bd b)) := by
  obtain ⟨g, hg, hr⟩ := t.ex
  refine PS.imp (ps_for hp hc hi hg hb hs) fun D σ H ⟨ρ, F, s, q⟩ => AfS.bind s q fun l J ρ1 F1 H1 g1 wk z => ?_
  refine ⟨fun i m σ' H' => ∃ ρi Fi, SR X.K ρi σ' Fi H' ∧ Same F1 Fi ∧ i ≤ l.length ∧ m = l.length - i ∧ AfS X.K W ρi σ' Fi H' D (forV bd b (l.drop i) ρi),
    ⟨l.length, ρ1, F1, g1.sr, Same.refl _, Nat.zero_le _, rfl, z⟩, ?_⟩
  rintro i m σ2 H2 ⟨ρ2, F2, s2, sm, hi, rfl, q2⟩
  by_cases hl : i < l.length
  · obtain ⟨go, yd⟩ := wk.go i F2 H2 sm s2.sub hl
    refine .inr ⟨go, fun σ' H' => ∃ ρi Fi, SR X.K ρi σ' Fi H' ∧ Same F1 Fi ∧ AfS X.K W ρi σ' Fi H' D (forV bd b (l.drop (i + 1)) ρi), fun σ' H' ⟨ρi, Fi, a1, a2, a3⟩ => ⟨l.length - (i + 1), by omega, ρi, Fi, a1, a2, hl, rfl, a3⟩, fun x H3 y => ?_⟩
    obtain ⟨F3, d, f, hd, r⟩ := yd x H3 y
    have s3 := s2.fr f
    have q3 : AfS X.K W ρ2 σ2 F3 H3 D (forV bd b (l.drop i) ρ2) := AfS.at (f.go s2) q2
    have hd' : l.drop i = d :: l.drop (i + 1) := by
      obtain ⟨h1, h2⟩ := List.getElem?_eq_some_iff.mp hd
      rw [← h2]; exact List.drop_eq_getElem_cons h1
    rw [hd'] at q3
    unfold forV at q3
    cases hb : bd d ρ2 with
    | none => rw [hb] at q3; exact q3.elim
    | some ρ4 =>
      rw [hb] at q3
      refine hr _ _ _ _ _ _ _ _ s3 r hb fun σ4 g4 _ => ⟨ρ4, F3, g4.sr, ?_⟩
      have q4 := AfS.at g4 q3
      cases hbd : b ρ4 with
      | next ρ5 => simp only [hbd] at q4; exact fun σ' F' H' g5 => ⟨ρ5, F', g5.sr, (sm.trans f.sub).trans g5.sub, AfS.at g5 q4⟩
      | cnt ρ5 => simp only [hbd] at q4; exact fun σ' F' H' g5 => ⟨ρ5, F', g5.sr, (sm.trans f.sub).trans g5.sub, AfS.at g5 q4⟩
      | brk ρ5 => simp only [hbd] at q4; exact q4
      | ret x ρ5 => simp only [hbd] at q4; exact q4
      | new x ρ5 => simp only [hbd] at q4; exact q4
      | ex x ρ5 => simp only [hbd] at q4; exact q4
      | no => simp only [hbd] at q4; exact q4
  · refine .inl ⟨wk.stop i F2 H2 sm s2.sub (by omega), ?_⟩
    rw [List.drop_eq_nil_of_le (by omega)] at q2
    exact q2 _ _ _ (Go.refl s2)

def whileF (c : Tn) (b : Sn) : Nat → Rho → RS
  | 0, _ => .no
  | n + 1, ρ => (c ρ).st fun k ρ1 => if k = true then (match b ρ1 with
      | .next ρ2 => whileF c b n ρ2
      | .cnt ρ2 => whileF c b n ρ2
      | .brk ρ2 => .next ρ2
      | .ret x ρ2 => .ret x ρ2
      | .new x ρ2 => .new x ρ2
      | .ex x ρ2 => .ex x ρ2
      | .no => .no) else .next ρ1
/-- turns that are tried: more than any loop here takes -/
def WF : Nat := 1000000000000
def sWhile (c : Tn) (b : Sn) : Sn := fun ρ => whileF c b WF ρ
theorem ds_while {X : Cx} {W : Wt} {e : Expr} {body : List Stmt} {c : Tn} {b : Sn} {pos : Pos} (hp : PassesOwn (model X.prog X.w) X.A X.env X.xe) (hc : PT X e (tT X.K W c)) (hb : PSs X body (tS X.K W b)) : PS X (.While e body [] pos) (tS X.K W (sWhile c b)) := by
  refine PS.imp (ps_while hp hc hb) fun D σ H ⟨ρ, F, s, q⟩ => ?_
  refine ⟨fun m σ' H' => ∃ ρi Fi, SR X.K ρi σ' Fi H' ∧ AfS X.K W ρi σ' Fi H' D (whileF c b m ρi), ⟨WF, ρ, F, s, q⟩, ?_⟩
  rintro m σ2 H2 ⟨ρ2, F2, s2, q2⟩
  cases m with
  | zero => exact q2.elim
  | succ m =>
    unfold whileF at q2
    refine AfS.bind s2 q2 fun k v ρ3 F3 H3 g3 r z => ?_
    subst r
    cases v with
    | false => rw [if_neg Bool.false_ne_true] at z ⊢; exact z _ _ _ (Go.refl g3.sr)
    | true =>
      rw [if_pos rfl] at z ⊢
      refine ⟨fun σ' H' => ∃ ρi Fi, SR X.K ρi σ' Fi H' ∧ AfS X.K W ρi σ' Fi H' D (whileF c b m ρi), fun σ' H' ⟨ρi, Fi, a1, a2⟩ => ⟨m, Nat.lt_succ_self _, ρi, Fi, a1, a2⟩, ρ3, F3, g3.sr, ?_⟩
      cases hbd : b ρ3 with
      | next ρ5 => rw [hbd] at z; exact fun σ' F' H' g5 => ⟨ρ5, F', g5.sr, AfS.at g5 z⟩
      | cnt ρ5 => rw [hbd] at z; exact fun σ' F' H' g5 => ⟨ρ5, F', g5.sr, AfS.at g5 z⟩
      | brk ρ5 => rw [hbd] at z; exact z
      | ret x ρ5 => rw [hbd] at z; exact z
      | new x ρ5 => rw [hbd] at z; exact z
      | ex x ρ5 => rw [hbd] at z; exact z
      | no => rw [hbd] at z; exact z
end Ft
/-! Ft4: calls and defs. -/
namespace Ft
open PySem L2 PySem.Spec PyProof.Rows

def mkIns (ρ : Rho) : List Hd → Option (List LV)
  | [] => some []
  | .v d :: r => match mkIns ρ r with
    | some l => some (.val d :: l)
    | none => none
  | .s i :: r => match ρ[i]? with
    | some (.own m _) => match mkIns ρ r with
      | some l => some (.own m false :: l)
      | none => none
    | _ => none
def setOuts : List LV → List Mo → Option (List LV)
  | [], [] => some []
  | [], _ :: _ => none
  | .own _ b :: r, m :: ms => match setOuts r ms with
    | some l => some (.own m b :: l)
    | none => none
  | .own _ _ :: _, [] => none
  | .val d :: r, ms => match setOuts r ms with
    | some l => some (.val d :: l)
    | none => none
  | .un :: _, _ => none
def putBack : List Hd → List LV → Rho → Option Rho
  | [], [], ρ => some ρ
  | .v _ :: r, _ :: q, ρ => putBack r q ρ
  | .s i :: r, .own m _ :: q, ρ => match ρ[i]? with
    | some (.own _ k) => putBack r q (ρ.set i (.own m k))
    | _ => none
  | _, _, _ => none
def noS (i : Nat) : List Hd → Bool
  | [] => true
  | .v _ :: r => noS i r
  | .s j :: r => i != j && noS i r
def apartB : List Hd → Bool
  | [] => true
  | .v _ :: r => apartB r
  | .s i :: r => noS i r && apartB r
abbrev Cn := List LV → RC
def dCall (g : Cn) (a : Ans) : Dn := fun ρ => (a ρ).bind fun hs ρ1 => match (if apartB hs = true then mkIns ρ1 hs else none) with
  | none => .no
  | some ins => match g ins with
    | .no => .no
    | .ok d outs => match (setOuts ins outs).bind fun l => putBack hs l ρ1 with
      | some ρ2 => .ok d ρ2
      | none => .no
    | .new m outs => match (setOuts ins outs).bind fun l => putBack hs l ρ1 with
      | some ρ2 => .ok m.toD ρ2
      | none => .no
    | .ex x outs => match (setOuts ins outs).bind fun l => putBack hs l ρ1 with
      | some ρ2 => .ex x ρ2
      | none => .no
/-- the same where the def hands out a new object -/
def fCall (g : Cn) (a : Ans) : Fn := fun ρ => (a ρ).bind fun hs ρ1 => match (if apartB hs = true then mkIns ρ1 hs else none) with
  | none => .no
  | some ins => match g ins with
    | .no => .no
    | .ok _ _ => .no
    | .new m outs => match (setOuts ins outs).bind fun l => putBack hs l ρ1 with
      | some ρ2 => .ok m ρ2
      | none => .no
    | .ex x outs => match (setOuts ins outs).bind fun l => putBack hs l ρ1 with
      | some ρ2 => .ex x ρ2
      | none => .no
section
variable {K : PySem.W.Frag} {W : Wt} {ρ ρ' : Rho} {σ : Sg} {F H F' H' : Hp} {Q : VK}
/-- what is wanted behind a call -/
def AfC (K : PySem.W.Frag) (W : Wt) (ins : List LV) (σ : Sg) (F H : Hp) (Q : VK) : RC → Prop
  | .ok d outs => ∃ l, setOuts ins outs = some l ∧ ∀ v F' H', Go K ins σ F H l σ F' H' → Rep K F' d v → Q v H'
  | .new m outs => ∃ l, setOuts ins outs = some l ∧ ∀ a F' H', Go K ins σ F H l σ F' H' → OwnAt K F' H' a m → ¬ Own l σ a → H a = none → Q (.ref a) H'
  | .ex x outs => ∃ l, setOuts ins outs = some l ∧ ∀ c dx F' H', Go K ins σ F H l σ F' H' → W.xr x c dx H' → W.E c dx H'
  | .no => False
def SpOf (K : PySem.W.Frag) (xr : XR) (n : Nat) (g : Cn) : Sp := fun vs H Q E => vs.length = n ∧ ∃ F ins, SR K ins (vs.map some) F H ∧ AfC K ⟨xr, E⟩ ins (vs.map some) F H Q (g ins)
theorem noS_at {i : Nat} : ∀ {hs : List Hd} {p : Nat} {j : Nat}, noS i hs = true → hs[p]? = some (.s j) → i ≠ j
  | [], _, _, _, e => by simp at e
  | .v _ :: r, 0, _, _, e => by simp at e
  | .v _ :: r, p + 1, j, h, e => noS_at (hs := r) (p := p) h (by simpa using e)
  | .s k :: r, 0, j, h, e => by
    simp at e; subst e
    simp [noS] at h; exact h.1
  | .s k :: r, p + 1, j, h, e => by
    simp [noS] at h; exact noS_at (hs := r) (p := p) h.2 (by simpa using e)
theorem apart_at : ∀ {hs : List Hd} {p q : Nat} {i : Nat}, apartB hs = true → hs[p]? = some (.s i) → hs[q]? = some (.s i) → p = q
  | [], _, _, _, _, e, _ => by simp at e
  | .v _ :: r, 0, _, _, _, e, _ => by simp at e
  | .v _ :: r, _ + 1, 0, _, _, _, e => by simp at e
  | .v _ :: r, p + 1, q + 1, i, h, e1, e2 => congrArg (· + 1) (apart_at (hs := r) (p := p) (q := q) (i := i) h (by simpa using e1) (by simpa using e2))
  | .s k :: r, 0, 0, _, _, _, _ => rfl
  | .s k :: r, 0, q + 1, i, h, e1, e2 => by
    simp at e1; subst e1
    simp [apartB] at h
    exact absurd rfl (noS_at (hs := r) (p := q) h.1 (by simpa using e2))
  | .s k :: r, p + 1, 0, i, h, e1, e2 => by
    simp at e2; subst e2
    simp [apartB] at h
    exact absurd rfl (noS_at (hs := r) (p := p) h.1 (by simpa using e1))
  | .s k :: r, p + 1, q + 1, i, h, e1, e2 => by
    simp [apartB] at h
    exact congrArg (· + 1) (apart_at (hs := r) (p := p) (q := q) (i := i) h.2 (by simpa using e1) (by simpa using e2))
/-- the argument at a place -/
theorem mkIns_at : ∀ {hs : List Hd} {l : List LV} {p : Nat} {x : LV}, mkIns ρ hs = some l → l[p]? = some x →
    (∃ d, hs[p]? = some (.v d) ∧ x = .val d) ∨ (∃ i m b, hs[p]? = some (.s i) ∧ ρ[i]? = some (.own m b) ∧ x = .own m false)
  | [], l, p, x, h, e => by simp only [mkIns] at h; cases h; simp at e
  | .v d :: r, l, p, x, h, e => by
    simp only [mkIns] at h
    cases hr : mkIns ρ r with
    | none => rw [hr] at h; cases h
    | some l' =>
      rw [hr] at h; cases h
      cases p with
      | zero => simp at e; exact .inl ⟨d, rfl, e.symm⟩
      | succ p => simpa using mkIns_at hr (p := p) (by simpa using e)
  | .s i :: r, l, p, x, h, e => by
    simp only [mkIns] at h
    cases hi : ρ[i]? with
    | none => rw [hi] at h; cases h
    | some y =>
      cases y with
      | un => rw [hi] at h; cases h
      | val d => rw [hi] at h; cases h
      | own m b =>
        rw [hi] at h
        simp only at h
        cases hr : mkIns ρ r with
        | none => rw [hr] at h; cases h
        | some l' =>
          rw [hr] at h; cases h
          cases p with
          | zero => simp at e; exact .inr ⟨i, m, b, rfl, hi, e.symm⟩
          | succ p => simpa using mkIns_at hr (p := p) (by simpa using e)
theorem mkIns_len : ∀ {hs : List Hd} {l : List LV}, mkIns ρ hs = some l → l.length = hs.length
  | [], l, h => by simp only [mkIns] at h; cases h; rfl
  | .v d :: r, l, h => by
    simp only [mkIns] at h
    cases hr : mkIns ρ r with
    | none => rw [hr] at h; cases h
    | some l' => rw [hr] at h; cases h; simp [mkIns_len hr]
  | .s i :: r, l, h => by
    simp only [mkIns] at h
    cases hi : ρ[i]? with
    | none => rw [hi] at h; cases h
    | some y =>
      cases y with
      | un => rw [hi] at h; cases h
      | val d => rw [hi] at h; cases h
      | own m b =>
        rw [hi] at h
        simp only at h
        cases hr : mkIns ρ r with
        | none => rw [hr] at h; cases h
        | some l' => rw [hr] at h; cases h; simp [mkIns_len hr]
theorem RepHs.at : ∀ {hs : List Hd} {vs : List V} {p : Nat} {h : Hd}, RepHs K σ F hs vs → hs[p]? = some h → ∃ v, vs[p]? = some v ∧ RepH K σ F h v
  | [], _, _, _, .nil, e => by simp at e
  | _ :: _, _, 0, _, .cons a t, e => by simp at e; subst e; exact ⟨_, rfl, a⟩
  | _ :: _, _, p + 1, _, .cons a t, e => by simpa using RepHs.at t (p := p) (by simpa using e)
theorem RepHs.len : ∀ {hs : List Hd} {vs : List V}, RepHs K σ F hs vs → hs.length = vs.length
  | [], _, .nil => rfl
  | _ :: _, _, .cons a t => by simp [RepHs.len t]
/-- the parameters stand for the arguments -/
theorem SR.ins {hs : List Hd} {vs : List V} {l : List LV} (s : SR K ρ σ F H) (r : RepHs K σ F hs vs) (m : mkIns ρ hs = some l) (ap : apartB hs = true) : SR K l (vs.map some) F H ∧ ∀ a, Own l (vs.map some) a → Own ρ σ a := by
  have vat : ∀ {p : Nat} {v : V}, vs[p]? = some v → (vs.map some)[p]? = some (some v) := fun {p v} e => by rw [List.getElem?_map, e]; rfl
  have own : ∀ {p : Nat} {mo : Mo} {b : Bool}, l[p]? = some (.own mo b) → ∃ i k a, hs[p]? = some (.s i) ∧ ρ[i]? = some (.own mo k) ∧ b = false ∧ vs[p]? = some (.ref a) ∧ σ[i]? = some (some (.ref a)) ∧ OwnAt K F H a mo := fun {p mo b} e => by
    rcases mkIns_at m e with ⟨d, h1, h2⟩ | ⟨i, m', k, h1, h2, h3⟩
    · cases h2
    · cases h3
      obtain ⟨v, hv, rv⟩ := r.at h1
      obtain ⟨a, q1, q2⟩ := s.own i _ k h2
      have rv : σ[i]? = some (some v) := rv
      rw [q1] at rv; cases rv
      exact ⟨i, k, a, h1, h2, rfl, hv, q1, q2⟩
  refine ⟨⟨s.sub, by rw [List.length_map, mkIns_len m, r.len], fun p d e => ?_, fun p mo b e => ?_, fun p q m1 b1 m2 b2 a e1 e2 q1 q2 => ?_⟩, fun a ⟨p, mo, b, e1, e2⟩ => ?_⟩
  · rcases mkIns_at m e with ⟨d', h1, h2⟩ | ⟨i, m', k, h1, h2, h3⟩
    · cases h2
      obtain ⟨v, hv, rv⟩ := r.at h1
      exact ⟨v, vat hv, rv⟩
    · cases h3
  · obtain ⟨i, k, a, h1, h2, h3, h4, h5, h6⟩ := own e
    exact ⟨a, vat h4, h6⟩
  · obtain ⟨i, k, c, h1, h2, h3, h4, h5, h6⟩ := own e1
    obtain ⟨i', k', c', h1', h2', h3', h4', h5', h6'⟩ := own e2
    rw [vat h4] at q1; cases q1
    rw [vat h4'] at q2; cases q2
    have := s.inj i i' _ _ _ _ _ h2 h2' h5 h5'
    subst this
    exact apart_at ap h1 h1'
  · obtain ⟨i, k, c, h1, h2, h3, h4, h5, h6⟩ := own e1
    rw [vat h4] at e2; cases e2
    exact ⟨i, _, _, h2, h5⟩
theorem setOuts_at : ∀ {l l' : List LV} {ms : List Mo} {p : Nat}, setOuts l ms = some l' → (∀ d, l[p]? = some (.val d) → l'[p]? = some (.val d)) ∧ (∀ m b, l[p]? = some (.own m b) → ∃ m', l'[p]? = some (.own m' b)) ∧ (∀ m b, l'[p]? = some (.own m b) → ∃ m', l[p]? = some (.own m' b)) ∧ (∀ d, l'[p]? = some (.val d) → l[p]? = some (.val d)) ∧ l'.length = l.length
  | [], l', [], p, h => by simp only [setOuts] at h; cases h; simp
  | [], l', _ :: _, p, h => by simp only [setOuts] at h; cases h
  | .un :: r, l', ms, p, h => by simp only [setOuts] at h; cases h
  | .own _ _ :: r, l', [], p, h => by simp only [setOuts] at h; cases h
  | .own m0 b0 :: r, l', m :: ms, p, h => by
    simp only [setOuts] at h
    cases hr : setOuts r ms with
    | none => rw [hr] at h; cases h
    | some q =>
      rw [hr] at h; cases h
      cases p with
      | zero => simpa using (setOuts_at (p := 0) hr).2.2.2.2
      | succ p => simpa using setOuts_at (p := p) hr
  | .val d0 :: r, l', ms, p, h => by
    simp only [setOuts] at h
    cases hr : setOuts r ms with
    | none => rw [hr] at h; cases h
    | some q =>
      rw [hr] at h; cases h
      cases p with
      | zero => simpa using (setOuts_at (p := 0) hr).2.2.2.2
      | succ p => simpa using setOuts_at (p := p) hr
theorem putBack_at : ∀ {hs : List Hd} {l : List LV} {ρ ρ2 : Rho} {j : Nat}, putBack hs l ρ = some ρ2 → apartB hs = true →
    ((∀ p : Nat, hs[p]? ≠ some (.s j)) → ρ2[j]? = ρ[j]?) ∧ (∀ p : Nat, hs[p]? = some (.s j) → ∃ m m' k b, ρ[j]? = some (.own m k) ∧ l[p]? = some (.own m' b) ∧ ρ2[j]? = some (.own m' k)) ∧ ρ2.length = ρ.length
  | [], [], ρ, ρ2, j, h, _ => by simp only [putBack] at h; cases h; simp
  | [], _ :: _, ρ, ρ2, j, h, _ => by simp only [putBack] at h; cases h
  | .v d :: r, [], ρ, ρ2, j, h, _ => by simp only [putBack] at h; cases h
  | .s i :: r, [], ρ, ρ2, j, h, _ => by simp only [putBack] at h; cases h
  | .s i :: r, .un :: q, ρ, ρ2, j, h, _ => by simp only [putBack] at h; cases h
  | .s i :: r, .val d :: q, ρ, ρ2, j, h, _ => by simp only [putBack] at h; cases h
  | .v d :: r, x :: q, ρ, ρ2, j, h, ap => by
    simp only [putBack] at h
    obtain ⟨h1, h2, h3⟩ := putBack_at (j := j) h (by simpa [apartB] using ap)
    refine ⟨fun n => h1 fun p => by simpa using n (p + 1), fun p e => ?_, h3⟩
    cases p with
    | zero => simp at e
    | succ p => simpa using h2 p (by simpa using e)
  | .s i :: r, .own m b :: q, ρ, ρ2, j, h, ap => by
    simp only [putBack] at h
    simp only [apartB, Bool.and_eq_true] at ap
    cases hi : ρ[i]? with
    | none => rw [hi] at h; cases h
    | some y =>
      cases y with
      | un => rw [hi] at h; cases h
      | val d => rw [hi] at h; cases h
      | own m0 k =>
        rw [hi] at h
        simp only at h
        have hl : i < ρ.length := (List.getElem?_eq_some_iff.mp hi).1
        obtain ⟨h1, h2, h3⟩ := putBack_at (j := j) h ap.2
        refine ⟨fun n => ?_, fun p e => ?_, by rw [h3, List.length_set]⟩
        · have hj : i ≠ j := fun z => n 0 (by rw [z]; rfl)
          rw [h1 fun p => by simpa using n (p + 1), List.getElem?_set_ne hj]
        · cases p with
          | zero =>
            have hj : i = j := by simpa using e
            subst hj
            refine ⟨m0, m, k, b, hi, rfl, ?_⟩
            rw [h1 fun p z => noS_at ap.1 z rfl, List.getElem?_set_self hl]
          | succ p =>
            have e' : r[p]? = some (.s j) := by simpa using e
            have hj : i ≠ j := noS_at ap.1 e'
            obtain ⟨a1, a2, a3, a4, q1, q2, q3⟩ := h2 p e'
            rw [List.getElem?_set_ne hj] at q1
            exact ⟨a1, a2, a3, a4, q1, by simpa using q2, q3⟩
/-- back from a call -/
theorem Go.back {hs : List Hd} {vs : List V} {l l2 : List LV} {ρ2 : Rho} {outs : List Mo} (s : SR K ρ σ F H) (r : RepHs K σ F hs vs) (m : mkIns ρ hs = some l) (ap : apartB hs = true) (so : setOuts l outs = some l2)
    (g : Go K l (vs.map some) F H l2 (vs.map some) F' H') (pb : putBack hs l2 ρ = some ρ2) : Go K ρ σ F H ρ2 σ F' H' ∧ ∀ a, Own ρ2 σ a → Own ρ σ a := by
  obtain ⟨si, ow⟩ := s.ins r m ap
  have vat : ∀ {p : Nat} {v : V}, vs[p]? = some v → (vs.map some)[p]? = some (some v) := fun {p v} e => by rw [List.getElem?_map, e]; rfl
  -- a slot that is passed, one that isn't
  have cs : ∀ j, (∃ p : Nat, hs[p]? = some (.s j)) ∨ (∀ p : Nat, hs[p]? ≠ some (.s j)) := fun j => (Classical.em _).imp id fun n p e => n ⟨p, e⟩
  have inn : ∀ {j p : Nat}, hs[p]? = some (.s j) → ∃ m0 m1 k a, ρ[j]? = some (.own m0 k) ∧ ρ2[j]? = some (.own m1 k) ∧ σ[j]? = some (some (.ref a)) ∧ OwnAt K F' H' a m1 := fun {j p} e => by
    obtain ⟨m0, m1, k, b, q1, q2, q3⟩ := (putBack_at (j := j) pb ap).2.1 p e
    obtain ⟨a, h1, h2⟩ := s.own j m0 k q1
    obtain ⟨v, hv, rv⟩ := r.at e
    have rv : σ[j]? = some (some v) := rv
    rw [h1] at rv; cases rv
    obtain ⟨a', h3, h4⟩ := g.sr.own p m1 b q2
    rw [vat hv] at h3; cases h3
    exact ⟨m0, m1, k, a, q1, q3, h1, h4⟩
  have out : ∀ {j : Nat} {m0 : Mo} {k : Bool} {a : Addr}, (∀ p : Nat, hs[p]? ≠ some (.s j)) → ρ[j]? = some (.own m0 k) → σ[j]? = some (some (.ref a)) → ¬ Own l (vs.map some) a := fun {j m0 k a} n e ha ⟨p, mo, b, e1, e2⟩ => by
    rcases mkIns_at m e1 with ⟨d, h1, h2⟩ | ⟨i, m', k', h1, h2, h3⟩
    · cases h2
    · obtain ⟨v, hv, rv⟩ := r.at h1
      have rv : σ[i]? = some (some v) := rv
      rw [vat hv] at e2; cases e2
      have := s.inj j i _ _ _ _ a e h2 ha rv
      subst this
      exact n p h1
  have own2 : ∀ a, Own ρ2 σ a → Own ρ σ a := fun a ⟨j, mo, b, e1, e2⟩ => by
    rcases cs j with ⟨p, hp⟩ | n
    · obtain ⟨m0, m1, k, a', q1, q2, q3, q4⟩ := inn hp
      exact ⟨j, m0, k, q1, e2⟩
    · rw [(putBack_at (j := j) pb ap).1 n] at e1
      exact ⟨j, mo, b, e1, e2⟩
  refine ⟨⟨g.sub, fun a o e n => ?_, ⟨g.sr.sub, by rw [(putBack_at (j := 0) pb ap).2.2]; exact s.len, fun j d e => ?_, fun j mo b e => ?_, fun j1 j2 m1 k1 m2 k2 c z1 z2 q1 q2 => ?_⟩, g.there, fun j mo e => ?_⟩, own2⟩
  · obtain ⟨h1, h2, _⟩ := g.keep a o e fun z => n (ow a z)
    exact ⟨h1, h2, fun z => n (own2 a z)⟩
  · rcases cs j with ⟨p, hp⟩ | n
    · obtain ⟨m0, m1, k, a', q1, q2, q3, q4⟩ := inn hp
      rw [q2] at e; cases e
    · rw [(putBack_at (j := j) pb ap).1 n] at e
      obtain ⟨v, h1, h2⟩ := s.val j d e
      exact ⟨v, h1, h2.mono g.sub⟩
  · rcases cs j with ⟨p, hp⟩ | n
    · obtain ⟨m0, m1, k, a', q1, q2, q3, q4⟩ := inn hp
      rw [q2] at e; cases e
      exact ⟨a', q3, q4⟩
    · rw [(putBack_at (j := j) pb ap).1 n] at e
      obtain ⟨a, h1, h2⟩ := s.own j mo b e
      obtain ⟨o, ho⟩ := h2.there
      obtain ⟨k1, k2, _⟩ := g.keep a o ho (out n e h1)
      exact ⟨a, h1, h2.move g.sub (k2 h2.free) fun o' eo => by rw [ho] at eo; cases eo; exact k1⟩
  · have own1 : ∀ {j : Nat} {mo : Mo} {b : Bool}, ρ2[j]? = some (.own mo b) → ∃ m', ρ[j]? = some (.own m' b) := fun {j mo b} e => by
      rcases cs j with ⟨p, hp⟩ | n
      · obtain ⟨m0, m1, k, a', q1, q2, q3, q4⟩ := inn hp
        rw [q2] at e; cases e
        exact ⟨m0, q1⟩
      · rw [(putBack_at (j := j) pb ap).1 n] at e
        exact ⟨mo, e⟩
    obtain ⟨m1', e1⟩ := own1 z1
    obtain ⟨m2', e2⟩ := own1 z2
    exact s.inj j1 j2 _ _ _ _ c e1 e2 q1 q2
  · rcases cs j with ⟨p, hp⟩ | n
    · obtain ⟨m0, m1, k, a', q1, q2, q3, q4⟩ := inn hp
      rw [q1] at e; cases e
      exact ⟨m1, q2, rfl⟩
    · exact ⟨mo, by rw [(putBack_at (j := j) pb ap).1 n]; exact e, rfl⟩
/-- the reading of a call -/
theorem call_imp {g : Cn} {a : Ans} {n : Nat} (hn : ∀ ρ hs ρ1, a ρ = .ok hs ρ1 → hs.length = n) {dvs : List V} {q : tE K W (dCall g a) σ H Q} : tAs K W a σ H fun vs H1 => SpOf K W.xr n g vs H1 Q W.E := by
  obtain ⟨ρ, F, s, q⟩ := q
  refine ⟨ρ, F, s, ?_⟩
  unfold dCall at q
  cases ha : a ρ with
  | no => rw [ha] at q; exact q
  | ex x ρ1 => rw [ha] at q; exact q
  | ok hs ρ1 =>
    rw [ha] at q
    simp only [RE.bind] at q
    intro vs F1 H1 g1 r1
    refine ⟨by rw [← r1.len]; exact hn _ _ _ ha, F1, ?_⟩
    by_cases ap : apartB hs = true
    · rw [if_pos ap] at q
      cases hi : mkIns ρ1 hs with
      | none => rw [hi] at q; exact q.elim
      | some ins =>
        rw [hi] at q
        refine ⟨ins, (g1.sr.ins r1 hi ap).1, ?_⟩
        cases hg : g ins with
        | no => simp only [hg] at q; exact q.elim
        | ok d outs =>
          simp only [hg] at q
          cases hso : setOuts ins outs with
          | none => simp only [hso, Option.bind_none] at q; exact q.elim
          | some l2 =>
            simp only [hso, Option.bind_some] at q
            cases hpb : putBack hs l2 ρ1 with
            | none => simp only [hpb] at q; exact q.elim
            | some ρ2 =>
              simp only [hpb] at q
              exact ⟨l2, hso, fun v F' H' g2 r2 => q v F' H' (g1.trans (Go.back g1.sr r1 hi ap hso g2 hpb).1) r2⟩
        | new m outs =>
          simp only [hg] at q
          cases hso : setOuts ins outs with
          | none => simp only [hso, Option.bind_none] at q; exact q.elim
          | some l2 =>
            simp only [hso, Option.bind_some] at q
            cases hpb : putBack hs l2 ρ1 with
            | none => simp only [hpb] at q; exact q.elim
            | some ρ2 =>
              simp only [hpb] at q
              refine ⟨l2, hso, fun a F' H' g2 o no n => ?_⟩
              obtain ⟨gb, ob⟩ := Go.back g1.sr r1 hi ap hso g2 hpb
              obtain ⟨u, hu⟩ := o.there
              have n0 : ¬ Own ρ2 σ a := fun z => by
                obtain ⟨u', e'⟩ := (ob a z).there g1.sr
                rw [n] at e'; cases e'
              exact q _ _ _ (g1.trans (gb.freeze n o.free hu n0)) (o.rep (upd_same' o.free) (by rw [upd_same, hu]))
        | ex x outs =>
          simp only [hg] at q
          cases hso : setOuts ins outs with
          | none => simp only [hso, Option.bind_none] at q; exact q.elim
          | some l2 =>
            simp only [hso, Option.bind_some] at q
            cases hpb : putBack hs l2 ρ1 with
            | none => simp only [hpb] at q; exact q.elim
            | some ρ2 =>
              simp only [hpb] at q
              exact ⟨l2, hso, fun c dx F' H' g2 r2 => q c dx F' H' (g1.trans (Go.back g1.sr r1 hi ap hso g2 hpb).1) r2⟩
    · rw [if_neg ap] at q; exact q.elim
end
theorem fcall_imp {K : PySem.W.Frag} {W : Wt} {σ : Sg} {H : Hp} {Q : VK} {g : Cn} {a : Ans} {n : Nat} (hn : ∀ ρ hs ρ1, a ρ = .ok hs ρ1 → hs.length = n) {q : tF K W (fCall g a) σ H Q} : tAs K W a σ H fun vs H1 => SpOf K W.xr n g vs H1 Q W.E := by
  obtain ⟨ρ, F, s, q⟩ := q
  refine ⟨ρ, F, s, ?_⟩
  unfold fCall at q
  cases ha : a ρ with
  | no => rw [ha] at q; exact q
  | ex x ρ1 => rw [ha] at q; exact q
  | ok hs ρ1 =>
    rw [ha] at q
    simp only [RE.bind] at q
    intro vs F1 H1 g1 r1
    refine ⟨by rw [← r1.len]; exact hn _ _ _ ha, F1, ?_⟩
    by_cases ap : apartB hs = true
    · rw [if_pos ap] at q
      cases hi : mkIns ρ1 hs with
      | none => rw [hi] at q; exact q.elim
      | some ins =>
        rw [hi] at q
        refine ⟨ins, (g1.sr.ins r1 hi ap).1, ?_⟩
        cases hg : g ins with
        | no => simp only [hg] at q; exact q.elim
        | ok d outs => simp only [hg] at q; exact q.elim
        | new m outs =>
          simp only [hg] at q
          cases hso : setOuts ins outs with
          | none => simp only [hso, Option.bind_none] at q; exact q.elim
          | some l2 =>
            simp only [hso, Option.bind_some] at q
            cases hpb : putBack hs l2 ρ1 with
            | none => simp only [hpb] at q; exact q.elim
            | some ρ2 =>
              simp only [hpb] at q
              refine ⟨l2, hso, fun a F' H' g2 o no n => ?_⟩
              obtain ⟨gb, ob⟩ := Go.back g1.sr r1 hi ap hso g2 hpb
              have n0 : H a = none := by
                cases e : H a with
                | none => rfl
                | some u =>
                  obtain ⟨u', e'⟩ := g1.there a u e
                  rw [n] at e'; cases e'
              exact q a F' H' (g1.trans gb) o n0 fun z => by
                obtain ⟨u', e'⟩ := (ob a z).there g1.sr
                rw [n] at e'; cases e'
        | ex x outs =>
          simp only [hg] at q
          cases hso : setOuts ins outs with
          | none => simp only [hso, Option.bind_none] at q; exact q.elim
          | some l2 =>
            simp only [hso, Option.bind_some] at q
            cases hpb : putBack hs l2 ρ1 with
            | none => simp only [hpb] at q; exact q.elim
            | some ρ2 =>
              simp only [hpb] at q
              exact ⟨l2, hso, fun c dx F' H' g2 r2 => q c dx F' H' (g1.trans (Go.back g1.sr r1 hi ap hso g2 hpb).1) r2⟩
    · rw [if_neg ap] at q; exact q.elim
/-- the number of arguments -/
def aLen (a : Ans) (n : Nat) : Prop := ∀ ρ hs ρ1, a ρ = .ok hs ρ1 → hs.length = n
theorem aLen_nil : aLen aNil 0 := fun ρ hs ρ1 h => by cases h; rfl
theorem aLen_cons {a : An} {t : Ans} {n : Nat} (h : aLen t n) : aLen (aCons a t) (n + 1) := fun ρ hs ρ1 e => by
  unfold aCons at e
  cases ha : a ρ with
  | no => rw [ha] at e; cases e
  | ex x ρ1 => rw [ha] at e; cases e
  | ok h1 ρ2 =>
    rw [ha] at e
    simp only [RE.bind] at e
    cases ht : t ρ2 with
    | no => rw [ht] at e; cases e
    | ex x ρ1 => rw [ht] at e; cases e
    | ok hs2 ρ3 =>
      rw [ht] at e
      simp only [RE.bind] at e
      cases e
      rw [List.length_cons, h _ _ _ ht]
section
variable {X : Cx} {W : Wt} {CX : CXT} {k : Nat} {f : Addr} {fd : FuncData} {ps : List Str} {x : Str} {p pos : Pos} {e : Expr} {es : List Expr} {a : Ans} {g : Cn} {n : Nat}
theorem de_call (Fk : FnOk X.prog X.w X.K X.mg X.base CX k f fd ps (SpOf X.K W.xr n g)) (hr : Room k X.A) (hm : X.mg x = some (.ref f)) (hk : PySem.W.keepIn X.K (.ref f) = true) (hb : Binds X.K fd ps []) (hx : Passes CX X W.E)
    (ha : PA X (e :: es) (tAs X.K W a)) (hn : aLen a n) (hg : Gl X x := by rfl) (hdb : (x == ("__debug__" : Str)) = false := by decide) (he : starEach (e :: es) X.env = (false, eval e X.env) :: starEach es X.env := by rfl) (hpl : (backTo pos (starEach es X.env)).any (·.1) = false := by rfl) :
    PE X (.Call (.Name x p) (e :: es) [] pos) (tE X.K W (dCall g a)) :=
  PE.imp (pe_call (dvs := []) (ds := []) Fk hr hg hm hk hb .nil hx ha hdb he hpl) fun σ H Q q => by
    show tAs X.K W a σ H fun vs H1 => SpOf X.K W.xr n g (vs ++ []) H1 Q W.E
    simp only [List.append_nil]
    exact call_imp (dvs := []) hn (q := q)
theorem df_call (Fk : FnOk X.prog X.w X.K X.mg X.base CX k f fd ps (SpOf X.K W.xr n g)) (hr : Room k X.A) (hm : X.mg x = some (.ref f)) (hk : PySem.W.keepIn X.K (.ref f) = true) (hb : Binds X.K fd ps []) (hx : Passes CX X W.E)
    (ha : PA X (e :: es) (tAs X.K W a)) (hn : aLen a n) (hg : Gl X x := by rfl) (hdb : (x == ("__debug__" : Str)) = false := by decide) (he : starEach (e :: es) X.env = (false, eval e X.env) :: starEach es X.env := by rfl) (hpl : (backTo pos (starEach es X.env)).any (·.1) = false := by rfl) :
    PE X (.Call (.Name x p) (e :: es) [] pos) (tF X.K W (fCall g a)) :=
  PE.imp (pe_call (dvs := []) (ds := []) Fk hr hg hm hk hb .nil hx ha hdb he hpl) fun σ H Q q => by
    show tAs X.K W a σ H fun vs H1 => SpOf X.K W.xr n g (vs ++ []) H1 Q W.E
    simp only [List.append_nil]
    exact fcall_imp hn (q := q)
theorem df_call0 (Fk : FnOk X.prog X.w X.K X.mg X.base CX k f fd ps (SpOf X.K W.xr 0 g)) (hr : Room k X.A) (hm : X.mg x = some (.ref f)) (hk : PySem.W.keepIn X.K (.ref f) = true) (hb : Binds X.K fd ps []) (hx : Passes CX X W.E)
    (hg : Gl X x := by rfl) (hdb : (x == ("__debug__" : Str)) = false := by decide) : PE X (.Call (.Name x p) [] [] pos) (tF X.K W (fCall g aNil)) :=
  PE.imp (pe_call0 (dvs := []) (ds := []) Fk hr hg hm hk hb .nil hx hdb) fun σ H Q q => by
    obtain ⟨ρ, F, s, z⟩ := fcall_imp aLen_nil (q := q)
    exact z [] F H (Go.refl s) .nil
theorem de_call0 (Fk : FnOk X.prog X.w X.K X.mg X.base CX k f fd ps (SpOf X.K W.xr 0 g)) (hr : Room k X.A) (hm : X.mg x = some (.ref f)) (hk : PySem.W.keepIn X.K (.ref f) = true) (hb : Binds X.K fd ps []) (hx : Passes CX X W.E)
    (hg : Gl X x := by rfl) (hdb : (x == ("__debug__" : Str)) = false := by decide) : PE X (.Call (.Name x p) [] [] pos) (tE X.K W (dCall g aNil)) :=
  PE.imp (pe_call0 (dvs := []) (ds := []) Fk hr hg hm hk hb .nil hx hdb) fun σ H Q q => by
    obtain ⟨ρ, F, s, z⟩ := call_imp (dvs := []) aLen_nil (q := q)
    exact z [] F H (Go.refl s) .nil
end
/-! ### defs -/
def outsOf : List LV → Rho → Option (List Mo)
  | [], _ => some []
  | .val _ :: r, _ :: q => outsOf r q
  | .own _ _ :: r, .own m _ :: q => match outsOf r q with
    | some l => some (m :: l)
    | none => none
  | _, _ => none
/-- a def: n parameters, N slots -/
def app (N : Nat) (body : Sn) : Cn := fun ins => match body (ins ++ List.replicate (N - ins.length) .un) with
  | .ret d ρ => match outsOf ins ρ with
    | some l => .ok d l
    | none => .no
  | .new m ρ => match outsOf ins ρ with
    | some l => .new m l
    | none => .no
  | .next ρ => match outsOf ins ρ with
    | some l => .ok .none l
    | none => .no
  | .ex x ρ => match outsOf ins ρ with
    | some l => .ex x l
    | none => .no
  | _ => .no
section
variable {K : PySem.W.Frag} {W : Wt} {ρ ρ' : Rho} {σ : Sg} {F H F' H' : Hp} {Q : VK}
theorem outs_at : ∀ {ins : List LV} {ρ : Rho} {l : List Mo}, outsOf ins ρ = some l → (∀ (j : Nat) m b, ins[j]? = some (.own m b) → b = false) → ∃ l2, setOuts ins l = some l2 ∧ ∀ (j : Nat) m b, l2[j]? = some (.own m b) → ∃ b', ρ[j]? = some (.own m b')
  | [], ρ, l, h, _ => by simp only [outsOf] at h; cases h; exact ⟨[], rfl, fun j m b e => by simp at e⟩
  | .un :: r, [], l, h, _ => by simp only [outsOf] at h; cases h
  | .un :: r, _ :: _, l, h, _ => by simp only [outsOf] at h; cases h
  | .val d :: r, [], l, h, _ => by simp only [outsOf] at h; cases h
  | .own m b :: r, [], l, h, _ => by simp only [outsOf] at h; cases h
  | .own m b :: r, .un :: q, l, h, _ => by simp only [outsOf] at h; cases h
  | .own m b :: r, .val d :: q, l, h, _ => by simp only [outsOf] at h; cases h
  | .val d :: r, x :: q, l, h, hf => by
    simp only [outsOf] at h
    obtain ⟨l2, h1, h2⟩ := outs_at h fun j m b e => hf (j + 1) m b (by simpa using e)
    refine ⟨.val d :: l2, by simp only [setOuts, h1], fun j m b e => ?_⟩
    cases j with
    | zero => simp at e
    | succ j => simpa using h2 j m b (by simpa using e)
  | .own m b :: r, .own m' b' :: q, l, h, hf => by
    simp only [outsOf] at h
    cases hr : outsOf r q with
    | none => rw [hr] at h; cases h
    | some l1 =>
      rw [hr] at h; cases h
      obtain ⟨l2, h1, h2⟩ := outs_at hr fun j m b e => hf (j + 1) m b (by simpa using e)
      refine ⟨.own m' b :: l2, by simp only [setOuts, h1], fun j m2 b2 e => ?_⟩
      cases j with
      | zero => simp at e; exact ⟨b', by simp [e.1]⟩
      | succ j => simpa using h2 j m2 b2 (by simpa using e)
/-- the parameters are the slots at the entry -/
theorem SR.start {ins : List LV} {vs : List V} {N : Nat} {names : List Str} (s : SR K ins (vs.map some) F H) (hN : names.length = N) (hl : ins.length ≤ N) : SR K (ins ++ List.replicate (N - ins.length) .un) (L2.start names vs) F H := by
  have e0 : vs.length = ins.length := by have := s.len; rw [List.length_map] at this; exact this
  have lt : ∀ {j : Nat} {x : LV}, (ins ++ List.replicate (N - ins.length) LV.un)[j]? = some x → x ≠ .un → j < ins.length ∧ ins[j]? = some x := fun {j x} e nx => by
    by_cases hj : j < ins.length
    · rw [List.getElem?_append_left hj] at e; exact ⟨hj, e⟩
    · rw [List.getElem?_append_right (by omega), List.getElem?_replicate] at e
      split at e
      · cases e; exact absurd rfl nx
      · cases e
  have sl : ∀ {j : Nat} {v : Option V}, j < ins.length → ((vs.map some)[j]? = some v ↔ (L2.start names vs)[j]? = some v) := fun {j v} hj => by
    unfold L2.start
    rw [List.getElem?_append_left (by rw [List.length_map]; omega)]
  refine ⟨s.sub, ?_, fun j d e => ?_, fun j m b e => ?_, fun j1 j2 m1 k1 m2 k2 c z1 z2 q1 q2 => ?_⟩
  · unfold L2.start
    rw [List.length_append, List.length_map, List.length_replicate, List.length_append, List.length_replicate]; omega
  · obtain ⟨hj, e⟩ := lt e (by intro z; cases z)
    obtain ⟨v, h1, h2⟩ := s.val j d e
    exact ⟨v, (sl hj).mp h1, h2⟩
  · obtain ⟨hj, e⟩ := lt e (by intro z; cases z)
    obtain ⟨v, h1, h2⟩ := s.own j m b e
    exact ⟨v, (sl hj).mp h1, h2⟩
  · obtain ⟨hj1, e1⟩ := lt z1 (by intro z; cases z)
    obtain ⟨hj2, e2⟩ := lt z2 (by intro z; cases z)
    exact s.inj j1 j2 _ _ _ _ c e1 e2 ((sl hj1).mpr q1) ((sl hj2).mpr q2)
/-- leaving a def -/
theorem Go.leave {ins : List LV} {vs : List V} {N : Nat} {names : List Str} {l : List Mo} {σ' : Sg} (s : SR K ins (vs.map some) F H) (hl : ins.length ≤ N) (hf : ∀ (j : Nat) m b, ins[j]? = some (.own m b) → b = false) (ho : outsOf ins ρ' = some l)
    (g : Go K (ins ++ List.replicate (N - ins.length) .un) (L2.start names vs) F H ρ' σ' F' H') : ∃ l2, setOuts ins l = some l2 ∧ Go K ins (vs.map some) F H l2 (vs.map some) F' H' := by
  obtain ⟨l2, h1, h2⟩ := outs_at ho hf
  have e0 : vs.length = ins.length := by have := s.len; rw [List.length_map] at this; exact this
  have lt : ∀ {j : Nat} {x : LV}, (ins ++ List.replicate (N - ins.length) LV.un)[j]? = some x → x ≠ .un → j < ins.length ∧ ins[j]? = some x := fun {j x} e nx => by
    by_cases hj : j < ins.length
    · rw [List.getElem?_append_left hj] at e; exact ⟨hj, e⟩
    · rw [List.getElem?_append_right (by omega), List.getElem?_replicate] at e
      split at e
      · cases e; exact absurd rfl nx
      · cases e
  have up : ∀ {j : Nat} {x : LV}, ins[j]? = some x → (ins ++ List.replicate (N - ins.length) LV.un)[j]? = some x := fun {j x} e => by
    rw [List.getElem?_append_left (List.getElem?_eq_some_iff.mp e).1]; exact e
  have sl : ∀ {j : Nat} {v : Option V}, j < ins.length → ((vs.map some)[j]? = some v ↔ (L2.start names vs)[j]? = some v) := fun {j v} hj => by
    unfold L2.start
    rw [List.getElem?_append_left (by rw [List.length_map]; omega)]
  have own0 : ∀ a, Own (ins ++ List.replicate (N - ins.length) .un) (L2.start names vs) a → Own ins (vs.map some) a := fun a ⟨j, m, b, e1, e2⟩ => by
    obtain ⟨hj, e1⟩ := lt e1 (by intro z; cases z)
    exact ⟨j, m, b, e1, (sl hj).mpr e2⟩
  have own2 : ∀ a, Own l2 (vs.map some) a → Own ins (vs.map some) a := fun a ⟨j, m, b, e1, e2⟩ => by
    obtain ⟨m', e⟩ := (setOuts_at (p := j) h1).2.2.1 m b e1
    exact ⟨j, m', b, e, e2⟩
  refine ⟨l2, h1, g.sub, fun a o e n => ?_, ⟨g.sr.sub, by rw [(setOuts_at (p := 0) h1).2.2.2.2]; exact s.len, fun j d e => ?_, fun j m b e => ?_, fun j1 j2 m1 k1 m2 k2 c z1 z2 q1 q2 => ?_⟩, g.there, fun j m e => ?_⟩
  · obtain ⟨k1, k2, _⟩ := g.keep a o e fun z => n (own0 a z)
    exact ⟨k1, k2, fun z => n (own2 a z)⟩
  · obtain ⟨v, q1, q2⟩ := s.val j d ((setOuts_at (p := j) h1).2.2.2.1 d e)
    exact ⟨v, q1, q2.mono g.sub⟩
  · obtain ⟨m', e'⟩ := (setOuts_at (p := j) h1).2.2.1 m b e
    have hb := hf j m' b e'
    subst hb
    obtain ⟨a, q1, q2⟩ := s.own j m' false e'
    obtain ⟨m2, r1, r2⟩ := g.io j m' (up e')
    obtain ⟨b', r3⟩ := h2 j m false e
    rw [r1] at r3; cases r3
    obtain ⟨a', r4, r5⟩ := g.sr.own j m false r1
    have hj : j < ins.length := (List.getElem?_eq_some_iff.mp e').1
    rw [r2, (sl hj).mp q1] at r4; cases r4
    exact ⟨a, q1, r5⟩
  · obtain ⟨m1', e1⟩ := (setOuts_at (p := j1) h1).2.2.1 _ _ z1
    obtain ⟨m2', e2⟩ := (setOuts_at (p := j2) h1).2.2.1 _ _ z2
    exact s.inj j1 j2 _ _ _ _ c e1 e2 q1 q2
  · obtain ⟨m', e'⟩ := (setOuts_at (p := j) h1).2.1 m false e
    exact ⟨m', e', rfl⟩
end
/-- only trees and objects for the caller are handed in -/
def insOk : List LV → Bool
  | [] => true
  | .val _ :: r => insOk r
  | .own _ b :: r => !b && insOk r
  | .un :: _ => false
theorem insOk_at : ∀ {l : List LV} {j : Nat} {m : Mo} {b : Bool}, insOk l = true → l[j]? = some (.own m b) → b = false
  | [], _, _, _, _, e => by simp at e
  | .val _ :: r, 0, _, _, _, e => by simp at e
  | .val _ :: r, j + 1, m, b, h, e => insOk_at (l := r) (j := j) h (by simpa using e)
  | .own _ _ :: r, 0, m, b, h, e => by simp [insOk] at h e; rw [← e.2]; exact h.1
  | .own _ _ :: r, j + 1, m, b, h, e => insOk_at (l := r) (j := j) (by simp [insOk] at h; exact h.2) (by simpa using e)
def fn (n N : Nat) (body : Sn) : Cn := fun ins => if ins.length = n ∧ insOk ins = true then app N body ins else .no
/-- a def's body keeps what the Lean function says -/
theorem body_ok {K : PySem.W.Frag} {xr : XR} {n N : Nat} {names : List Str} {body : Sn} {vs : List V} {H : Hp} {Q : VK} {E : XK} (hN : names.length = N) (hn : n ≤ N) (h : SpOf K xr n (fn n N body) vs H Q E) :
    tS K ⟨xr, E⟩ body { nx := fun _ H' => Q .non H', rt := Q } (L2.start names vs) H := by
  obtain ⟨hv, F, ins, s, q⟩ := h
  unfold fn at q
  by_cases c : ins.length = n ∧ insOk ins = true
  · rw [if_pos c] at q
    have hl : ins.length ≤ N := by omega
    have hf : ∀ (j : Nat) m b, ins[j]? = some (.own m b) → b = false := fun j m b e => insOk_at c.2 e
    refine ⟨_, F, s.start hN hl, ?_⟩
    unfold app at q
    cases hb : body (ins ++ List.replicate (N - ins.length) LV.un) with
    | next ρ =>
      rw [hb] at q
      simp only at q
      cases ho : outsOf ins ρ with
      | none => rw [ho] at q; exact q.elim
      | some l =>
        rw [ho] at q
        obtain ⟨l1, e1, q⟩ := q
        intro σ' F' H' g
        obtain ⟨l2, e2, g2⟩ := Go.leave s hl hf ho g
        rw [e2] at e1; cases e1
        exact q _ F' H' g2 rep_none
    | ret d ρ =>
      rw [hb] at q
      simp only at q
      cases ho : outsOf ins ρ with
      | none => rw [ho] at q; exact q.elim
      | some l =>
        rw [ho] at q
        obtain ⟨l1, e1, q⟩ := q
        intro v σ' F' H' g r
        obtain ⟨l2, e2, g2⟩ := Go.leave s hl hf ho g
        rw [e2] at e1; cases e1
        exact q _ F' H' g2 r
    | new m ρ =>
      rw [hb] at q
      simp only at q
      cases ho : outsOf ins ρ with
      | none => rw [ho] at q; exact q.elim
      | some l =>
        rw [ho] at q
        obtain ⟨l1, e1, q⟩ := q
        intro a σ' F' H' g o no mi
        obtain ⟨l2, e2, g2⟩ := Go.leave s hl hf ho g
        rw [e2] at e1; cases e1
        have hn : H a = none := by
          rcases mi with z | ⟨i, m', z1, z2⟩
          · exact z
          · by_cases hj : i < ins.length
            · rw [List.getElem?_append_left hj] at z1
              cases hf _ _ _ z1
            · rw [List.getElem?_append_right (by omega), List.getElem?_replicate] at z1
              split at z1 <;> cases z1
        refine q a F' H' g2 o (fun ⟨j, m', b, y1, y2⟩ => ?_) hn
        obtain ⟨m2, y3⟩ := (setOuts_at (p := j) e2).2.2.1 m' b y1
        obtain ⟨u, eu⟩ := Own.there s ⟨j, m2, b, y3, y2⟩
        rw [hn] at eu; cases eu
    | ex x ρ =>
      rw [hb] at q
      simp only at q
      cases ho : outsOf ins ρ with
      | none => rw [ho] at q; exact q.elim
      | some l =>
        rw [ho] at q
        obtain ⟨l1, e1, q⟩ := q
        intro c dx σ' F' H' g r
        obtain ⟨l2, e2, g2⟩ := Go.leave s hl hf ho g
        rw [e2] at e1; cases e1
        exact q _ _ F' H' g2 r
    | brk ρ => rw [hb] at q; exact q.elim
    | cnt ρ => rw [hb] at q; exact q.elim
    | no => rw [hb] at q; exact q.elim
  · rw [if_neg c] at q; exact q.elim
section
variable {P : Program} {w : World} {K : PySem.W.Frag} {mg : Str → Option Value} {base : Heap}
theorem def_ok {xr : XR} {x qual : Str} {st : Stmt} {f : Addr} {fd : FuncData} {N ps : List Str} {k n m : Nat} {body : Sn} (Fx : Fun K x qual st f fd) (S : FnScope N ps (defScope st)) (hp : ps.length = n) (hN : N.length = m) (hnm : n ≤ m)
    (hbody : ∀ (cdv : Value) (A : Around) (outer : List Env) (s : Shared) (H : Hp) (E : XK), Room k (A.deeper (envOfC qual (defScope st) s.heap.objs.size f cdv)) →
      PSs (cxOf (L2.CX P w) P w K mg base N qual (defScope st) f cdv A outer s H E) (defBody st) (tS K ⟨xr, E⟩ body)) : FnOk P w K mg base (L2.CX P w) (k + 1) f fd ps (SpOf K xr n (fn n m body)) :=
  Fx.okX S (fun vs H Q E h => h.1.trans hp.symm) fun cdv A outer s H vs Q E hr h => ⟨_, hbody cdv A outer s H E hr, body_ok hN hnm h⟩
end
end Ft
/-! Ft5: what is walked; comprehensions. -/
namespace Ft
open PySem L2 PySem.Spec PyProof.Rows

/-! ### sources -/
def items : D → Option (List D)
  | .list l => some l
  | .tuple l => some l
  | .str x => some (x.cps.toList.map fun c => PyData.str ⟨#[c]⟩)
  | _ => none
def iSeq (d : Dn) : In := fun ρ => (d ρ).bind fun x ρ' => ans (items x) ρ'
section
variable {K : PySem.W.Frag} {F H : Hp}
theorem walk_list {a : Addr} {l : List D} {vs : List V} (q : SqL K F a vs) (r : Reps K F l vs) : Walk K (Itl K a) l F where
  go := fun i F1 H1 s1 s2 hi => by
    obtain ⟨v, hv, rv⟩ := r.get (List.getElem?_eq_getElem hi)
    have q1 : SqL K H1 a vs := (s1.trans s2).seq q
    refine ⟨⟨vs, v, q1, hv⟩, fun x H' ⟨e, y⟩ => ?_⟩
    subst e
    have e2 := y vs q1
    rw [hv] at e2; cases e2
    exact ⟨F1, l[i], Fr.refl s2, List.getElem?_eq_getElem hi, rv.mono s1⟩
  stop := fun i F1 H1 s1 s2 hi => ⟨vs, (s1.trans s2).seq q, by rw [← r.length]; exact hi⟩
theorem walk_tuple {a : Addr} {l : List D} {vs : List V} (q : SqT K F a vs) (r : Reps K F l vs) : Walk K (Itt K a) l F where
  go := fun i F1 H1 s1 s2 hi => by
    obtain ⟨v, hv, rv⟩ := r.get (List.getElem?_eq_getElem hi)
    have q1 : SqT K H1 a vs := sameT (s1.trans s2) q
    refine ⟨⟨vs, v, q1, hv⟩, fun x H' ⟨e, y⟩ => ?_⟩
    subst e
    have e2 := y vs q1
    rw [hv] at e2; cases e2
    exact ⟨F1, l[i], Fr.refl s2, List.getElem?_eq_getElem hi, rv.mono s1⟩
  stop := fun i F1 H1 s1 s2 hi => ⟨vs, sameT (s1.trans s2) q, by rw [← r.length]; exact hi⟩
theorem walk_str {x : Str} : Walk K (Its x) (x.cps.toList.map fun c => PyData.str ⟨#[c]⟩) F where
  go := fun i F1 H1 s1 s2 hi => by
    rw [List.length_map, Array.length_toList] at hi
    refine ⟨hi, fun v H' ⟨e, c, hc, hv⟩ => ?_⟩
    subst e hv
    refine ⟨F1, .str ⟨#[c]⟩, Fr.refl s2, ?_, rep_str⟩
    rw [List.getElem?_map, Array.getElem?_toList, hc]; rfl
  stop := fun i F1 H1 s1 s2 hi => by rw [List.length_map, Array.length_toList] at hi; exact hi
theorem walk_range {lo : Int} {n : Nat} : Walk K (Itr lo n) ((List.range n).map fun (i : Nat) => PyData.int (lo + i)) F where
  go := fun i F1 H1 s1 s2 hi => by
    rw [List.length_map, List.length_range] at hi
    refine ⟨hi, fun v H' ⟨e, hv⟩ => ?_⟩
    subst e hv
    refine ⟨F1, .int (lo + i), Fr.refl s2, ?_, rep_int⟩
    rw [List.getElem?_map, List.getElem?_range hi]; rfl
  stop := fun i F1 H1 s1 s2 hi => by rw [List.length_map, List.length_range] at hi; exact hi
end
section
variable {X : Cx} {W : Wt} {tg e e2 e3 : Expr} {d d2 : Dn} {pos p : Pos} {v : Vn}
theorem PI.imp {wi wi' : TI} (h : PI X tg e wi) (i : ∀ σ H R, wi' σ H R → wi σ H R) : PI X tg e wi' := ⟨fun pins s σ H R I q => h.run pins s σ H R I (i σ H R q)⟩
theorem di_seq (h : PE X e (tE X.K W d)) : PI X tg e (tI X.K W (iSeq d)) := by
  refine ⟨fun pins s σ H R I ⟨ρ, F, sr, q⟩ => ?_⟩
  unfold iSeq at q
  cases hd : d ρ with
  | no => rw [hd] at q; exact q.elim
  | ex x ρ1 =>
    rw [hd] at q
    exact (pi_list h).run pins s σ H R I ⟨ρ, F, sr, by rw [hd]; exact q⟩
  | ok x ρ1 =>
    rw [hd] at q
    have q : Af X.K W (RI X.K) ρ σ F H R (ans (items x) ρ1) := q
    obtain ⟨l, el, q⟩ := ans_some q
    cases x with
    | list l' =>
      cases el
      refine (pi_list h).run pins s σ H R I ⟨ρ, F, sr, ?_⟩
      rw [hd]
      intro v F' H' g r
      obtain ⟨a, vs, e1, e2, e3⟩ := by simpa only [Rep] using r
      exact ⟨a, e1, ⟨vs, .inl (rdSame g.sr.sub e2)⟩, q _ _ _ g (walk_list (.inl e2) e3)⟩
    | tuple l' =>
      cases el
      refine (pi_tup h).run pins s σ H R I ⟨ρ, F, sr, ?_⟩
      rw [hd]
      intro v F' H' g r
      obtain ⟨a, vs, e1, e2, e3⟩ := by simpa only [Rep] using r
      exact ⟨a, e1, ⟨vs, SqT.of (g.sr.sub _ _ e2)⟩, q _ _ _ g (walk_tuple (SqT.of e2) e3)⟩
    | str z =>
      cases el
      refine (pi_str h).run pins s σ H R I ⟨ρ, F, sr, ?_⟩
      rw [hd]
      intro v F' H' g r
      exact ⟨z, by simpa only [Rep] using r, q _ _ _ g walk_str⟩
    | none => cases el
    | bool _ => cases el
    | int _ => cases el
    | dict _ => cases el
def rangeL (a b : Int) : List D := (List.range (b - a).toNat).map fun (i : Nat) => PyData.int (a + i)
def rng1 : List D → Option (List D)
  | [.int j] => if -(2 ^ 62) ≤ j ∧ j < 2 ^ 62 then some (rangeL 0 j) else none
  | _ => none
def rng2 : List D → Option (List D)
  | [.int i, .int j] => if -(2 ^ 62) ≤ i ∧ i < 2 ^ 62 ∧ -(2 ^ 62) ≤ j ∧ j < 2 ^ 62 then some (rangeL i j) else none
  | _ => none
def iOn (f : List D → Option (List D)) (a : Ans) : In := fun ρ => (a ρ).bind fun hs ρ1 => ans ((looks ρ1 hs).bind f) ρ1
variable {a : Ans}
theorem di_range1 (hm : X.mg "range" = none) (ha : PA X [e] (tAs X.K W a)) (hg : Gl X "range" := by rfl) (hs : starEach [e] X.env = [(false, eval e X.env)] := by rfl) : PI X tg (.Call (.Name "range" p) [e] [] pos) (tI X.K W (iOn rng1 a)) :=
  PI.imp (pi_range1 hg hm ha hs) fun σ H R ⟨ρ, F, s, q⟩ => Af.bind s q fun hs vs ρ1 F1 H1 g r z => by
    obtain ⟨l, el, q⟩ := ans_some z
    obtain ⟨ds, hd, el⟩ := Option.bind_eq_some_iff.mp el
    have rb := looks_rep g.sr r hd
    unfold rng1 at el
    split at el
    · rename_i j
      by_cases hj : -(2 ^ 62) ≤ j ∧ j < 2 ^ 62
      · rw [if_pos hj] at el; cases el
        obtain ⟨v, rfl, rv⟩ := rb.one
        refine ⟨j, by rw [rv.int], hj.1, hj.2, q _ _ _ (Go.refl g.sr) ?_⟩
        have := walk_range (K := X.K) (F := F1) (lo := 0) (n := j.toNat)
        unfold rangeL
        simpa using this
      · rw [if_neg hj] at el; cases el
    · cases el
theorem di_range2 (hm : X.mg "range" = none) (ha : PA X [e, e2] (tAs X.K W a)) (hg : Gl X "range" := by rfl) (hs : starEach [e, e2] X.env = [(false, eval e X.env), (false, eval e2 X.env)] := by rfl) (hs2 : starEach [e2] X.env = [(false, eval e2 X.env)] := by rfl) : PI X tg (.Call (.Name "range" p) [e, e2] [] pos) (tI X.K W (iOn rng2 a)) :=
  PI.imp (pi_range2 hg hm ha hs hs2) fun σ H R ⟨ρ, F, s, q⟩ => Af.bind s q fun hs vs ρ1 F1 H1 g r z => by
    obtain ⟨l, el, q⟩ := ans_some z
    obtain ⟨ds, hd, el⟩ := Option.bind_eq_some_iff.mp el
    have rb := looks_rep g.sr r hd
    unfold rng2 at el
    split at el
    · rename_i i j
      by_cases hj : -(2 ^ 62) ≤ i ∧ i < 2 ^ 62 ∧ -(2 ^ 62) ≤ j ∧ j < 2 ^ 62
      · rw [if_pos hj] at el; cases el
        obtain ⟨v, w, rfl, rv, rw_⟩ := rb.two
        exact ⟨i, j, by rw [rv.int, rw_.int], hj, q _ _ _ (Go.refl g.sr) walk_range⟩
      · rw [if_neg hj] at el; cases el
    · cases el
end

/-! ### comprehensions -/
def wipeR (ρ : Rho) : List Nat → Rho
  | [] => ρ
  | v :: vs => (wipeR ρ vs).set v .un
def restore (ρ ρ2 : Rho) : List Nat → Rho
  | [] => ρ2
  | v :: vs => match ρ[v]? with
    | some x => (restore ρ ρ2 vs).set v x
    | none => restore ρ ρ2 vs
theorem wipeR_len (ρ : Rho) : ∀ vs, (wipeR ρ vs).length = ρ.length
  | [] => rfl
  | v :: vs => by unfold wipeR; rw [List.length_set, wipeR_len ρ vs]
theorem restore_len (ρ ρ2 : Rho) : ∀ vs, (restore ρ ρ2 vs).length = ρ2.length
  | [] => rfl
  | v :: vs => by
    unfold restore
    cases ρ[v]? with
    | none => exact restore_len ρ ρ2 vs
    | some x => rw [List.length_set, restore_len ρ ρ2 vs]
theorem wipeR_in {ρ : Rho} {j : Nat} : ∀ {vs : List Nat}, j ∈ vs → ∀ x, (wipeR ρ vs)[j]? = some x → x = .un
  | v :: vs, h, x, e => by
    unfold wipeR at e
    by_cases hj : v = j
    · subst hj
      have hl : v < (wipeR ρ vs).length := by
        have := (List.getElem?_eq_some_iff.mp e).1
        rwa [List.length_set] at this
      rw [List.getElem?_set_self hl] at e; cases e; rfl
    · rw [List.getElem?_set_ne hj] at e
      exact wipeR_in ((List.mem_cons.mp h).resolve_left fun z => hj z.symm) x e
theorem wipeR_out {ρ : Rho} {j : Nat} : ∀ {vs : List Nat}, j ∉ vs → (wipeR ρ vs)[j]? = ρ[j]?
  | [], _ => rfl
  | v :: vs, h => by
    unfold wipeR
    rw [List.getElem?_set_ne fun z => h (by simp [z]), wipeR_out fun z => h (List.mem_cons_of_mem _ z)]
theorem wipe_get {σ : Sg} {j : Nat} : ∀ {vs : List Nat}, j ∉ vs → (wipe σ vs)[j]? = σ[j]?
  | [], _ => rfl
  | v :: vs, h => by
    unfold wipe
    rw [List.getElem?_set_ne fun z => h (by simp [z]), wipe_get fun z => h (List.mem_cons_of_mem _ z)]
theorem wipe_in {σ : Sg} {j : Nat} (hl : j < σ.length) : ∀ {vs : List Nat}, j ∈ vs → (wipe σ vs)[j]? = some none
  | v :: vs, h => by
    unfold wipe
    by_cases hj : v = j
    · subst hj; rw [List.getElem?_set_self (by rw [wipe_length]; exact hl)]
    · rw [List.getElem?_set_ne hj]
      exact wipe_in hl ((List.mem_cons.mp h).resolve_left fun z => hj z.symm)
theorem restore_out {ρ ρ2 : Rho} {j : Nat} : ∀ {vs : List Nat}, j ∉ vs → (restore ρ ρ2 vs)[j]? = ρ2[j]?
  | [], _ => rfl
  | v :: vs, h => by
    unfold restore
    cases ρ[v]? with
    | none => exact restore_out fun z => h (List.mem_cons_of_mem _ z)
    | some x => simp only; rw [List.getElem?_set_ne fun z => h (by simp [z]), restore_out fun z => h (List.mem_cons_of_mem _ z)]
theorem restore_in {ρ ρ2 : Rho} {j : Nat} (hl : ρ2.length = ρ.length) : ∀ {vs : List Nat}, j ∈ vs → (restore ρ ρ2 vs)[j]? = ρ[j]?
  | v :: vs, h => by
    unfold restore
    by_cases hj : v = j
    · subst hj
      cases e : ρ[v]? with
      | none =>
        simp only
        rw [List.getElem?_eq_none_iff] at e ⊢
        rw [restore_len, hl]; exact e
      | some x =>
        simp only
        rw [List.getElem?_set_self (by rw [restore_len, hl]; exact (List.getElem?_eq_some_iff.mp e).1)]
    · have ih := restore_in hl ((List.mem_cons.mp h).resolve_left fun z => hj z.symm)
      cases e : ρ[v]? with
      | none => exact ih
      | some x => simp only; rw [List.getElem?_set_ne hj]; exact ih
section
variable {K : PySem.W.Frag} {W : Wt} {ρ ρ' : Rho} {σ σ' : Sg} {F H F' H' : Hp} {vs ts : List Nat} {a : Addr}
theorem wipe_keep (k : Kp ts (wipe σ vs) σ') (sub : ∀ i ∈ ts, i ∈ vs) : wipe σ' vs = wipe σ vs := by
  have hl : σ'.length = σ.length := by rw [k.1, wipe_length]
  apply List.ext_getElem?
  intro j
  by_cases hj : j ∈ vs
  · by_cases h : j < σ.length
    · rw [wipe_in (by omega) hj, wipe_in h hj]
    · rw [List.getElem?_eq_none (by rw [wipe_length]; omega), List.getElem?_eq_none (by rw [wipe_length]; omega)]
  · rw [wipe_get hj, wipe_get hj, k.2 j fun z => hj (sub j z), wipe_get hj]
theorem own_wipe (h : Own (wipeR ρ vs) (wipe σ vs) a) : Own ρ σ a := by
  obtain ⟨j, m, b, e1, e2⟩ := h
  by_cases hj : j ∈ vs
  · have := wipeR_in hj _ e1; cases this
  · rw [wipeR_out hj] at e1
    rw [wipe_get hj] at e2
    exact ⟨j, m, b, e1, e2⟩
theorem SR.wipe (s : SR K ρ σ F H) : SR K (wipeR ρ vs) (L2.wipe σ vs) F H where
  sub := s.sub
  len := by rw [wipe_length, wipeR_len, s.len]
  val := fun j d e => by
    by_cases hj : j ∈ vs
    · have := wipeR_in hj _ e; cases this
    · rw [wipeR_out hj] at e; rw [wipe_get hj]; exact s.val j d e
  own := fun j m b e => by
    by_cases hj : j ∈ vs
    · have := wipeR_in hj _ e; cases this
    · rw [wipeR_out hj] at e; rw [wipe_get hj]; exact s.own j m b e
  inj := fun j1 j2 m1 b1 m2 b2 c z1 z2 q1 q2 => by
    by_cases h1 : j1 ∈ vs
    · have := wipeR_in h1 _ z1; cases this
    · by_cases h2 : j2 ∈ vs
      · have := wipeR_in h2 _ z2; cases this
      · rw [wipeR_out h1] at z1; rw [wipeR_out h2] at z2; rw [wipe_get h1] at q1; rw [wipe_get h2] at q2
        exact s.inj j1 j2 _ _ _ _ c z1 z2 q1 q2
/-- within a block: the block's own names forgotten at a turn's end -/
theorem Go.wiped {ρ0 : Rho} {F0 H0 : Hp} {σ2 : Sg} (g : Go K ρ0 (L2.wipe σ vs) F0 H0 ρ' σ2 F' H') (e : L2.wipe σ2 vs = L2.wipe σ vs) (h0 : ∀ j ∈ vs, ∀ m, ρ0[j]? ≠ some (.own m false)) : Go K ρ0 (L2.wipe σ vs) F0 H0 (wipeR ρ' vs) (L2.wipe σ vs) F' H' where
  sub := g.sub
  keep := fun b o eb n => by
    obtain ⟨h1, h2, h3⟩ := g.keep b o eb n
    exact ⟨h1, h2, fun z => h3 (own_wipe (vs := vs) (by rw [e]; exact z))⟩
  sr := by rw [← e]; exact g.sr.wipe
  there := g.there
  io := fun j m em => by
    have hj : j ∉ vs := fun z => h0 j z m em
    obtain ⟨m', h1, h2⟩ := g.io j m em
    exact ⟨m', by rw [wipeR_out hj]; exact h1, rfl⟩
/-- out of a block -/
theorem Go.unwipe {ρ1 : Rho} {F1 H1 : Hp} (s : SR K ρ1 σ F1 H1) (g : Go K (wipeR ρ1 vs) (L2.wipe σ vs) F1 H1 ρ' (L2.wipe σ vs) F' H') : Go K ρ1 σ F1 H1 (restore ρ1 ρ' vs) σ F' H' ∧ (∀ b, Own (restore ρ1 ρ' vs) σ b → Own ρ' (L2.wipe σ vs) b ∨ Own ρ1 σ b) := by
  have hl : ρ'.length = ρ1.length := by rw [← g.sr.len, wipe_length, s.len]
  -- an own slot of the result: one of the block's, or one that was put aside
  have inn : ∀ {j m b}, (restore ρ1 ρ' vs)[j]? = some (.own m b) → (j ∉ vs ∧ ρ'[j]? = some (.own m b)) ∨ (j ∈ vs ∧ ρ1[j]? = some (.own m b)) := fun {j m b} e => by
    by_cases hj : j ∈ vs
    · rw [restore_in hl hj] at e; exact .inr ⟨hj, e⟩
    · rw [restore_out hj] at e; exact .inl ⟨hj, e⟩
  have aside : ∀ {j m b a}, j ∈ vs → ρ1[j]? = some (.own m b) → σ[j]? = some (some (.ref a)) → ¬ Own (wipeR ρ1 vs) (L2.wipe σ vs) a := fun {j m b a} hj e ha ⟨i, m', b', e1, e2⟩ => by
    by_cases hi : i ∈ vs
    · have := wipeR_in hi _ e1; cases this
    · rw [wipeR_out hi] at e1; rw [wipe_get hi] at e2
      exact hi (s.inj j i _ _ _ _ a e e1 ha e2 ▸ hj)
  have own2 : ∀ b, Own (restore ρ1 ρ' vs) σ b → Own ρ' (L2.wipe σ vs) b ∨ Own ρ1 σ b := fun b ⟨j, m, k, e1, e2⟩ => by
    rcases inn e1 with ⟨hj, q⟩ | ⟨hj, q⟩
    · exact .inl ⟨j, m, k, q, by rw [wipe_get hj]; exact e2⟩
    · exact .inr ⟨j, m, k, q, e2⟩
  refine ⟨⟨g.sub, fun b o eb n => ?_, ⟨g.sr.sub, by rw [restore_len, hl]; exact s.len, fun j d e => ?_, fun j m b e => ?_, fun j1 j2 m1 k1 m2 k2 c z1 z2 q1 q2 => ?_⟩, g.there, fun j m e => ?_⟩, own2⟩
  · obtain ⟨h1, h2, h3⟩ := g.keep b o eb fun z => n (own_wipe z)
    exact ⟨h1, h2, fun z => (own2 b z).elim h3 n⟩
  · by_cases hj : j ∈ vs
    · rw [restore_in hl hj] at e
      obtain ⟨v, h1, h2⟩ := s.val j d e
      exact ⟨v, h1, h2.mono g.sub⟩
    · rw [restore_out hj] at e
      obtain ⟨v, h1, h2⟩ := g.sr.val j d e
      rw [wipe_get hj] at h1
      exact ⟨v, h1, h2⟩
  · rcases inn e with ⟨hj, q⟩ | ⟨hj, q⟩
    · obtain ⟨c, h1, h2⟩ := g.sr.own j m b q
      rw [wipe_get hj] at h1
      exact ⟨c, h1, h2⟩
    · obtain ⟨c, h1, h2⟩ := s.own j m b q
      obtain ⟨o, ho⟩ := h2.there
      obtain ⟨k1, k2, _⟩ := g.keep c o ho (aside hj q h1)
      exact ⟨c, h1, h2.move g.sub (k2 h2.free) fun o' eo => by rw [ho] at eo; cases eo; exact k1⟩
  · rcases inn z1 with ⟨h1, y1⟩ | ⟨h1, y1⟩ <;> rcases inn z2 with ⟨h2, y2⟩ | ⟨h2, y2⟩
    · exact g.sr.inj j1 j2 _ _ _ _ c y1 y2 (by rw [wipe_get h1]; exact q1) (by rw [wipe_get h2]; exact q2)
    · obtain ⟨c', h3, h4⟩ := s.own j2 _ _ y2
      rw [q2] at h3; cases h3
      obtain ⟨o, ho⟩ := h4.there
      exact absurd ⟨j1, _, _, y1, by rw [wipe_get h1]; exact q1⟩ (g.keep c o ho (aside h2 y2 q2)).2.2
    · obtain ⟨c', h3, h4⟩ := s.own j1 _ _ y1
      rw [q1] at h3; cases h3
      obtain ⟨o, ho⟩ := h4.there
      exact absurd ⟨j2, _, _, y2, by rw [wipe_get h2]; exact q2⟩ (g.keep c o ho (aside h1 y1 q1)).2.2
    · exact s.inj j1 j2 _ _ _ _ c y1 y2 q1 q2
  · by_cases hj : j ∈ vs
    · exact ⟨m, by rw [restore_in hl hj]; exact e, rfl⟩
    · obtain ⟨m', h1, h2⟩ := g.io j m (by rw [wipeR_out hj]; exact e)
      exact ⟨m', by rw [restore_out hj]; exact h1, rfl⟩
/-- an object that is new since the start is changed -/
theorem Go.grow {ρ0 : Rho} {σ0 : Sg} {F0 H0 : Hp} {o : HO} (g : Go K ρ0 σ0 F0 H0 ρ σ F H) (n0 : H0 a = none) (n : F a = none) (no : ¬ Own ρ σ a) : Go K ρ0 σ0 F0 H0 ρ σ F (upd H a o) where
  sub := g.sub
  keep := fun b u e hn => by
    obtain ⟨h1, h2, h3⟩ := g.keep b u e hn
    exact ⟨by rw [upd_ne (ne_of_none e n0)]; exact h1, h2, h3⟩
  sr := ⟨fun b u e => by rw [upd_ne (ne_of_none e n)]; exact g.sr.sub _ _ e, g.sr.len, g.sr.val, fun j m b e => by
    obtain ⟨c, h1, h2⟩ := g.sr.own j m b e
    have hc : c ≠ a := fun z => no ⟨j, m, b, e, z ▸ h1⟩
    exact ⟨c, h1, h2.move (Same.refl _) h2.free fun o eo => by rw [upd_ne hc]; exact eo⟩, g.sr.inj⟩
  there := fun b u e => by
    obtain ⟨u', e'⟩ := g.there b u e
    by_cases hb : b = a
    · subst hb; exact ⟨_, upd_same⟩
    · exact ⟨u', by rw [upd_ne hb]; exact e'⟩
  io := g.io
end
/-- an object that no slot owns stays -/
theorem OwnAt.go {K : PySem.W.Frag} {ρ ρ' : Rho} {σ σ' : Sg} {F H F' H' : Hp} {a : Addr} {m : Mo} (g : Go K ρ σ F H ρ' σ' F' H') (o : OwnAt K F H a m) (n : ¬ Own ρ σ a) : OwnAt K F' H' a m ∧ ¬ Own ρ' σ' a := by
  obtain ⟨u, hu⟩ := o.there
  obtain ⟨h1, h2, h3⟩ := g.keep a u hu n
  exact ⟨o.move g.sub (h2 o.free) fun o' eo => by rw [hu] at eo; cases eo; exact h1, h3⟩
def compL (bd : Bd) (ifs : Tn) (elt : Dn) (vs : List Nat) : List D → List D → Rho → RE (List D)
  | [], acc, ρ => .ok acc ρ
  | d :: l, acc, ρ => match bd d ρ with
    | none => .no
    | some ρ1 => match ifs ρ1 with
      | .ok false ρ2 => compL bd ifs elt vs l acc (wipeR ρ2 vs)
      | .ok true ρ2 => match elt ρ2 with
        | .ok x ρ3 => if acc.length < sizeLine then compL bd ifs elt vs l (acc ++ [x]) (wipeR ρ3 vs) else .no
        | _ => .no
      | _ => .no
def fComp (src : In) (bd : Bd) (ifs : Tn) (elt : Dn) (vs : List Nat) : Fn := fun ρ => (src ρ).bind fun l ρ1 => match compL bd ifs elt vs l [] (wipeR ρ1 vs) with
  | .ok r ρ2 => .ok (.lst r) (restore ρ1 ρ2 vs)
  | _ => .no
def tnYes : Tn := fun ρ => .ok true ρ
section
variable {X : Cx} {W : Wt} {tg e e2 e3 : Expr} {d d2 : Dn} {pos p : Pos} {v : Vn} {es : List Expr} {t : Tn}
theorem dts_nil : PTs X [] (tT X.K W tnYes) := ⟨fun pins s σ H Q I ⟨ρ, F, sr, q⟩ => pts_nil.run pins s σ H Q I (q.okk sr rfl)⟩
theorem dts_one (h : PT X e (tT X.K W t)) : PTs X [e] (tT X.K W t) := pts_one h
theorem comp_tail {bd : Bd} {ts vs : List Nat} {ifs : Tn} {elt : Dn} {g : TG} {σ : Sg} {H1 : Hp} {Q : VK} {J : It} {l : List D} {ρ1 : Rho} {F1 : Hp} (hr : TgR X.K g bd ts) (sub : ∀ i ∈ ts, i ∈ vs) (s1 : SR X.K ρ1 σ F1 H1) (wk : Walk X.K J l F1)
    (q1 : AfF X.K W ρ1 σ F1 H1 Q (match compL bd ifs elt vs l [] (wipeR ρ1 vs) with | .ok r ρ2 => .ok (.lst r) (restore ρ1 ρ2 vs) | _ => .no)) :
    tLc (fun _ H R => R J H) g (tT X.K ⟨W.xr, E0⟩ ifs) (tE X.K ⟨W.xr, E0⟩ elt) vs σ H1 Q := by
  intro D hD
  have h0 : ∀ j ∈ vs, ∀ m, (wipeR ρ1 vs)[j]? ≠ some (.own m false) := fun j hj m e => by have := wipeR_in hj _ e; cases this
  have noD : ¬ Own ρ1 σ D := fun z => by
    obtain ⟨o, eo⟩ := z.there s1
    rw [hD] at eo; cases eo
  have FD : F1 D = none := sub_none s1.sub hD
  refine ⟨fun i m H' => ∃ ρb Fb acc, Go X.K (wipeR ρ1 vs) (wipe σ vs) F1 H1 ρb (wipe σ vs) Fb H' ∧ OwnAt X.K Fb H' D (.lst acc) ∧ ¬ Own ρb (wipe σ vs) D ∧ i ≤ l.length ∧ m = l.length - i ∧
      AfF X.K W ρ1 σ F1 H1 Q (match compL bd ifs elt vs (l.drop i) acc ρb with | .ok r ρ2 => .ok (.lst r) (restore ρ1 ρ2 vs) | _ => .no),
    ⟨l.length, wipeR ρ1 vs, F1, [], (Go.refl s1.wipe).grow hD FD fun z => noD (own_wipe z), ⟨FD, [], upd_same, .nil⟩, fun z => noD (own_wipe z), Nat.zero_le _, rfl, q1⟩, ?_⟩
  rintro i m H2 ⟨ρb, Fb, acc, gb, ob, nb, hi, rfl, q2⟩
  by_cases hl : i < l.length
  · obtain ⟨go, yd⟩ := wk.go i Fb H2 gb.sub gb.sr.sub hl
    refine .inr ⟨go, fun H' => ∃ ρb Fb acc, Go X.K (wipeR ρ1 vs) (wipe σ vs) F1 H1 ρb (wipe σ vs) Fb H' ∧ OwnAt X.K Fb H' D (.lst acc) ∧ ¬ Own ρb (wipe σ vs) D ∧
      AfF X.K W ρ1 σ F1 H1 Q (match compL bd ifs elt vs (l.drop (i + 1)) acc ρb with | .ok r ρ2 => .ok (.lst r) (restore ρ1 ρ2 vs) | _ => .no), fun H' ⟨a1, a2, a3, a4, a5, a6, a7⟩ => ⟨l.length - (i + 1), by omega, a1, a2, a3, a4, a5, a6, hl, rfl, a7⟩, fun x H3 y => ?_⟩
    obtain ⟨F3, dd, f, hd, r⟩ := yd x H3 y
    have g3 := gb.trans (f.go gb.sr)
    have hd' : l.drop i = dd :: l.drop (i + 1) := by
      obtain ⟨h1, h2⟩ := List.getElem?_eq_some_iff.mp hd
      rw [← h2]; exact List.drop_eq_getElem_cons h1
    rw [hd'] at q2
    unfold compL at q2
    cases hb : bd dd ρb with
    | none => rw [hb] at q2; exact q2.elim
    | some ρ4 =>
      simp only [hb] at q2
      refine hr _ _ _ _ _ _ _ _ g3.sr r hb fun σ4 g4 kp => ?_
      have we := wipe_keep kp sub
      obtain ⟨o3, n3⟩ := OwnAt.go ((f.go gb.sr).trans g4) ob nb
      have g5 := g3.trans g4
      refine ⟨we, ρ4, F3, g4.sr, ?_⟩
      cases hif : ifs ρ4 with
      | no => simp only [hif] at q2; exact q2.elim
      | ex x ρ5 => simp only [hif] at q2; exact q2.elim
      | ok b ρ5 =>
        intro b' F5 H5 g6 eb
        subst eb
        obtain ⟨o5, n5⟩ := OwnAt.go g6 o3 n3
        cases b' with
        | false =>
          simp only [hif] at q2
          rw [if_neg Bool.false_ne_true]
          exact ⟨wipeR ρ5 vs, F5, acc, (g5.trans g6).wiped we h0, o5, fun z => n5 (own_wipe (vs := vs) (by rw [we]; exact z)), q2⟩
        | true =>
          simp only [hif] at q2
          rw [if_pos rfl]
          refine ⟨ρ5, F5, g6.sr, ?_⟩
          cases hel : elt ρ5 with
          | no => simp only [hel] at q2; exact q2.elim
          | ex x ρ6 => simp only [hel] at q2; exact q2.elim
          | ok x ρ6 =>
            intro yv F6 H6 g7 ry
            obtain ⟨o6, n6⟩ := OwnAt.go g7 o5 n5
            obtain ⟨fD, ac, eD, rD⟩ := o6
            simp only [hel] at q2
            by_cases hz : acc.length < sizeLine
            · rw [if_pos hz] at q2
              refine ⟨ac, eD, by rw [← rD.length]; exact hz, wipeR ρ6 vs, F6, acc ++ [x], ?_, ⟨fD, _, upd_same, rD.append (.cons ry .nil)⟩, fun z => n6 (own_wipe (vs := vs) (by rw [we]; exact z)), q2⟩
              exact (((g5.trans g6).trans g7).wiped we h0).grow hD fD fun z => n6 (own_wipe (vs := vs) (by rw [we]; exact z))
            · rw [if_neg hz] at q2; exact q2.elim
  · refine .inl ⟨wk.stop i Fb H2 gb.sub gb.sr.sub (by omega), ?_⟩
    rw [List.drop_eq_nil_of_le (by omega)] at q2
    obtain ⟨g2, o2⟩ := Go.unwipe s1 gb
    exact q2 D Fb H2 g2 ob hD fun z => (o2 D z).elim nb noD
theorem comp_imp {src : In} {bd : Bd} {ts vs : List Nat} {ifs : Tn} {elt : Dn} {g : TG} {σ : Sg} {H : Hp} {Q : VK} (hr : TgR X.K g bd ts) (sub : ∀ i ∈ ts, i ∈ vs) (q : tF X.K W (fComp src bd ifs elt vs) σ H Q) :
    tLc (tI X.K W src) g (tT X.K ⟨W.xr, E0⟩ ifs) (tE X.K ⟨W.xr, E0⟩ elt) vs σ H Q := by
  obtain ⟨ρ, F, s, q⟩ := q
  exact AfF.bind s q fun l J ρ1 F1 H1 g1 wk q1 => comp_tail hr sub g1.sr wk q1
theorem df_comp {elt iter : Expr} {ifs : List Expr} {scope : Scope} {src : In} {bd : Bd} {ts vs : List Nat} {tn : Tn} {de : Dn} (own : List (Str × Nat)) (hv : vs = own.map (·.2)) (hc : X.calm = true) (hN : X.N.Nodup) (hi : PI X tg iter (tI X.K W src)) (ok : BlkOk X.N X.env.scope scope own)
    (hg : ∃ g, (∀ (s : Shared) (H : Hp) (C : Addr) (cl : List (Str × Addr)) (fp : List Addr), PG (X.blk s H scope (compEnvC scope cl C X.env) fp) tg g) ∧ TgR X.K g bd ts) (sub : ∀ i ∈ ts, i ∈ vs)
    (ht : ∀ (s : Shared) (H : Hp) (C : Addr) (cl : List (Str × Addr)) (fp : List Addr), PTs (X.blk s H scope (compEnvC scope cl C X.env) fp) ifs (tT X.K ⟨W.xr, E0⟩ tn))
    (he : ∀ (s : Shared) (H : Hp) (C : Addr) (cl : List (Str × Addr)) (fp : List Addr), PE (X.blk s H scope (compEnvC scope cl C X.env) fp) elt (tE X.K ⟨W.xr, E0⟩ de))
    (hs : ∀ x, foldedSetIterable iter X.env x = pure x := by intro _; rfl) :
    PE X (.ListComp elt [⟨tg, iter, ifs, 0⟩] scope pos) (tF X.K W (fComp src bd tn de vs)) := by
  obtain ⟨g, hg, hr⟩ := hg
  subst hv
  exact PE.imp (pe_lc hc hN hi ok hg ht he hs) fun _ _ _ q => comp_imp hr sub q
end
end Ft
/-! Ft6: built-in operators by trees. -/
namespace Ft
open PySem L2 PySem.Spec PyProof.Rows
open PySem.W (alike dataLt)

section
variable {X : Cx} {pins : List (Addr × Obj)} {σ : Sg} {H : Hp} {s : Shared}
theorem key_reads {h : Heap} {k : Key} {u : Value} (e : keyIs k u = true) : Reads h u (kD k) [] := by
  rcases keyIs_shape e with ⟨i, t, rfl, rfl⟩ | ⟨x, t, rfl, rfl⟩
  · exact .int i t
  · exact .str x t
theorem dk_keys {P : Program} {w : World} {h : Heap} : ∀ {es : List (Key × V)} {ws : List (Key × Value)} {en : List DictEntry}, KV es ws → Pairs (mixKind P w) en ws → (∃ as, ReadsAll h (en.map (·.key)) (es.map fun e => kD e.1) as) ∧ Vals (es.map (·.2)) (en.map (·.val))
  | [], _, _, .nil, .nil => ⟨⟨_, .nil⟩, .nil⟩
  | e :: es, _, _, .cons r t, .cons p1 p2 p3 => by
    obtain ⟨⟨as, ih⟩, ih2⟩ := dk_keys t p3
    refine ⟨⟨_, .cons (key_reads (by rw [r.1]; exact p1)) ih⟩, .cons ?_ ih2⟩
    show RelV e.2 _
    simp only [p2]; exact r.2
theorem keys_reads {h : Heap} : ∀ {ks : List Key} {us : List Value}, Vals (ks.map kV) us → ∃ as, ReadsAll h us (ks.map kD) as
  | [], _, .nil => ⟨_, .nil⟩
  | k :: ks, _, .cons r t => by
    obtain ⟨as, ih⟩ := keys_reads t
    cases k with
    | inl i => obtain ⟨tk, rfl⟩ := r; exact ⟨_, .cons (.int i tk) ih⟩
    | inr x => obtain ⟨tk, rfl⟩ := r; exact ⟨_, .cons (.str x tk) ih⟩
theorem dt_keys {P : Program} {w : World} {h : Heap} (ok : HOk P w H h) : ∀ {es : List (List Key × V)} {xs : List (List Key × Addr × Value)}, KT H es xs →
    (∃ as, ReadsAll h ((xs.map (entryOfKey (tupleKind (mixKind P w)))).map (·.key)) (es.map fun e => PyData.tuple (e.1.map kD)) as) ∧ Vals (es.map (·.2)) ((xs.map (entryOfKey (tupleKind (mixKind P w)))).map (·.val))
  | [], _, .nil => ⟨⟨_, .nil⟩, .nil⟩
  | e :: es, _, .cons r t => by
    obtain ⟨⟨as, ih⟩, ih2⟩ := dt_keys ok t
    obtain ⟨_, its, rv, o, e1, e2, n, e3⟩ := (show ObjOk P w H h _ (.tup (e.1.map kV)) from ok _ _ r.2.1)
    obtain ⟨bs, hb⟩ := keys_reads (h := h) rv
    exact ⟨⟨_, .cons (.tuple e1 e2 e3 (by simpa using hb)) ih⟩, .cons r.2.2 ih2⟩
mutual
/-- the library's reading of a tree -/
theorem Rep.reads (I : Inv X pins σ H s) : ∀ (d : D) (v : V) (u : Value), Rep X.K H d v → RelV v u → ∃ as, Reads s.heap u d as
  | .none, v, u, h, r => by
    simp only [Rep] at h; subst h; cases r
    exact ⟨_, .none⟩
  | .bool b, v, u, h, r => by
    simp only [Rep] at h; subst h; cases r
    exact ⟨_, .bool b⟩
  | .int i, v, u, h, r => by
    simp only [Rep] at h; subst h
    obtain ⟨t, rfl⟩ := r
    exact ⟨_, .int i t⟩
  | .str x, v, u, h, r => by
    simp only [Rep] at h; subst h
    obtain ⟨t, rfl⟩ := r
    exact ⟨_, .str x t⟩
  | .list ds, v, u, h, r => by
    simp only [Rep] at h
    obtain ⟨a, vs, rfl, q, q2⟩ := h
    cases r
    obtain ⟨its, rv, ⟨o, n, e1, e2, e3, e4⟩, _⟩ := I.list (.inl q)
    obtain ⟨as, z⟩ := Reps.reads I ds vs its q2 rv
    exact ⟨_, .list e1 e2 e4 (by simpa using z)⟩
  | .tuple ds, v, u, h, r => by
    simp only [Rep] at h
    obtain ⟨a, vs, rfl, q, q2⟩ := h
    cases r
    obtain ⟨its, rv, ⟨o, e1, e2, n, e3⟩, _⟩ := I.tuple (SqT.of q)
    obtain ⟨as, z⟩ := Reps.reads I ds vs its q2 rv
    exact ⟨_, .tuple e1 e2 e3 (by simpa using z)⟩
  | .dict kvs, v, u, h, r => by
    simp only [Rep] at h
    obtain ⟨a, vs, rfl, q, q2⟩ := h
    cases r
    rcases q with ⟨es, e1, e2, rfl⟩ | ⟨es, e1, e2, rfl⟩
    · obtain ⟨_, _, ws, kv, o, en, ep, h1, h2, h3, _, h4, _⟩ := dk_rd I.hok e1
      obtain ⟨⟨as, ha⟩, hv⟩ := dk_keys (h := s.heap) kv h4
      rw [← e2] at ha
      obtain ⟨bs, hb⟩ := RepP.reads I kvs _ _ q2 hv
      exact ⟨_, .dict h1 h2.1 h3 ha hb⟩
    · obtain ⟨_, _, ws, kv, o, en, ep, h1, h2, h3, h4, h5⟩ := dt_rd I.hok e1
      obtain ⟨⟨as, ha⟩, hv⟩ := dt_keys I.hok kv
      rw [← e2, ← h4] at ha
      rw [← h4] at hv
      obtain ⟨bs, hb⟩ := RepP.reads I kvs _ _ q2 hv
      exact ⟨_, .dict h1 h2.1 h3 ha hb⟩
theorem Reps.reads (I : Inv X pins σ H s) : ∀ (ds : List D) (vs : List V) (us : List Value), Reps X.K H ds vs → Vals vs us → ∃ as, ReadsAll s.heap us ds as
  | [], vs, us, h, r => by
    rw [reps_nil.mp h] at r; cases r
    exact ⟨_, .nil⟩
  | d :: ds, vs, us, h, r => by
    obtain ⟨v, w, rfl, h1, h2⟩ := reps_cons.mp h
    cases r with
    | cons r1 r2 =>
      obtain ⟨as, z1⟩ := Rep.reads I d v _ h1 r1
      obtain ⟨bs, z2⟩ := Reps.reads I ds w _ h2 r2
      exact ⟨_, .cons z1 z2⟩
theorem RepP.reads (I : Inv X pins σ H s) : ∀ (ds : List (D × D)) (vs : List V) (us : List Value), RepP X.K H ds vs → Vals vs us → ∃ as, ReadsAll s.heap us (ds.map (·.2)) as
  | [], vs, us, h, r => by
    simp only [RepP] at h
    subst h; cases r
    exact ⟨_, .nil⟩
  | (k, d) :: ds, vs, us, h, r => by
    simp only [RepP] at h
    obtain ⟨v, w, rfl, h1, h2⟩ := h
    cases r with
    | cons r1 r2 =>
      obtain ⟨as, z1⟩ := Rep.reads I d v _ h1 r1
      obtain ⟨bs, z2⟩ := RepP.reads I ds w _ h2 r2
      exact ⟨_, .cons z1 z2⟩
end
end

/-! ### truth values from trees -/
/-- the trees are read where they stand; the answer is a truth value -/
def rB (K : PySem.W.Frag) (p : D → D → Option Bool) : R2 := fun x y H Q => ∃ d e b, Rep K H d x ∧ Rep K H e y ∧ p d e = some b ∧ Q (.bl b) H
def toB (p : D → D → Option Bool) : D → D → Option D := fun d e => (p d e).map PyData.bool
theorem p2_B {K : PySem.W.Frag} {p : D → D → Option Bool} : P2 K (rB K p) (toB p) := fun F H x y d e z Q s h1 h2 hz q => by
  obtain ⟨b, hb, rfl⟩ := Option.map_eq_some_iff.mp hz
  exact ⟨d, e, b, h1.here s, h2.here s, hb, q _ F H (Fr.refl s) rep_bool⟩
section
variable {X : Cx}
/-- an operator whose answer the library tells of the trees -/
theorem opB_of {f : Value → Value → Sem Value} {p : D → D → Option Bool}
    (rule : ∀ (s : Shared) (u v : Value) (d e : D) (as bs : List Addr) (b : Bool) (Q : Value → Shared → Prop), Reads s.heap u d as → Reads s.heap v e bs → p d e = some b → Q (.bool b) s → wpAny (model X.prog X.w) X.A (f u v) Q X.xe s) : OpR X f (rB X.K p) := by
  intro pins s σ H x y v u Q I rx ry h
  obtain ⟨d, e, b, hd, he, hb, q⟩ := h
  obtain ⟨as, r1⟩ := Rep.reads I d x v hd rx
  obtain ⟨bs, r2⟩ := Rep.reads I e y u he ry
  exact rule s v u d e as bs b _ r1 r2 hb ⟨.bl b, H, I, rfl, q⟩
/-- not None -/
def some' : D → Bool
  | .none => false
  | _ => true
theorem some'_ne {d : D} (h : some' d = true) : d ≠ .none := fun e => by subst e; cases h
def flat2 (d e : D) : Bool := d.plain && e.plain && decide (min d.depth e.depth ≤ 60)
def cmp2 (d e : D) : Bool := alike d e && some' d && decide (min d.depth e.depth ≤ 60)
def eqB : D → D → Option Bool
  | .int i, .int j => some (decide (i = j))
  | .str i, .str j => some (decide (i = j))
  | d, e => if flat2 d e = true then some (PyData.eqv d e) else none
def neB : D → D → Option Bool
  | .int i, .int j => some (!decide (i = j))
  | .str i, .str j => some (!decide (i = j))
  | d, e => if flat2 d e = true then some (!PyData.eqv d e) else none
def ltB : D → D → Option Bool
  | .int i, .int j => some (decide (i < j))
  | d, e => if cmp2 d e = true then some (dataLt d e) else none
def gtB : D → D → Option Bool
  | .int i, .int j => some (decide (j < i))
  | d, e => if cmp2 d e = true then some (dataLt e d) else none
def leB : D → D → Option Bool
  | .int i, .int j => some (decide (i ≤ j))
  | d, e => if cmp2 d e = true then some (!dataLt e d) else none
def geB : D → D → Option Bool
  | .int i, .int j => some (decide (j ≤ i))
  | d, e => if cmp2 d e = true then some (!dataLt d e) else none
theorem not_decide_lt {i j : Int} : (!decide (j < i)) = decide (i ≤ j) := by
  by_cases h : j < i
  · simp [h]
  · simp only [h, decide_false, Bool.not_false]; exact (decide_eq_true (by omega)).symm
theorem eqB_all {d e : D} {b : Bool} (h : eqB d e = some b) : flat2 d e = true ∧ b = PyData.eqv d e := by
  unfold eqB at h
  split at h
  · cases h; exact ⟨rfl, by simp [PyData.eqv, Bool.beq_eq_decide_eq]⟩
  · cases h; exact ⟨rfl, by simp [PyData.eqv, Bool.beq_eq_decide_eq]⟩
  · split at h
    · rename_i h1; cases h; exact ⟨h1, rfl⟩
    · cases h
theorem neB_all {d e : D} {b : Bool} (h : neB d e = some b) : flat2 d e = true ∧ b = !PyData.eqv d e := by
  unfold neB at h
  split at h
  · cases h; exact ⟨rfl, by simp [PyData.eqv, Bool.beq_eq_decide_eq]⟩
  · cases h; exact ⟨rfl, by simp [PyData.eqv, Bool.beq_eq_decide_eq]⟩
  · split at h
    · rename_i h1; cases h; exact ⟨h1, rfl⟩
    · cases h
theorem cmp2_int {i j : Int} : cmp2 (.int i) (.int j) = true := by simp [cmp2, alike, some', PyData.depth]
theorem ltB_all {d e : D} {b : Bool} (h : ltB d e = some b) : cmp2 d e = true ∧ b = dataLt d e := by
  unfold ltB at h
  split at h
  · cases h; exact ⟨cmp2_int, by rw [PySem.W.dataLt_int]⟩
  · split at h
    · rename_i h1; cases h; exact ⟨h1, rfl⟩
    · cases h
theorem gtB_all {d e : D} {b : Bool} (h : gtB d e = some b) : cmp2 d e = true ∧ b = dataLt e d := by
  unfold gtB at h
  split at h
  · cases h; exact ⟨cmp2_int, by rw [PySem.W.dataLt_int]⟩
  · split at h
    · rename_i h1; cases h; exact ⟨h1, rfl⟩
    · cases h
theorem leB_all {d e : D} {b : Bool} (h : leB d e = some b) : cmp2 d e = true ∧ b = !dataLt e d := by
  unfold leB at h
  split at h
  · cases h; exact ⟨cmp2_int, by rw [PySem.W.dataLt_int, not_decide_lt]⟩
  · split at h
    · rename_i h1; cases h; exact ⟨h1, rfl⟩
    · cases h
theorem geB_all {d e : D} {b : Bool} (h : geB d e = some b) : cmp2 d e = true ∧ b = !dataLt d e := by
  unfold geB at h
  split at h
  · cases h; exact ⟨cmp2_int, by rw [PySem.W.dataLt_int, not_decide_lt]⟩
  · split at h
    · rename_i h1; cases h; exact ⟨h1, rfl⟩
    · cases h
theorem flat2_at {d e : D} (h : flat2 d e = true) : d.plain = true ∧ e.plain = true ∧ min d.depth e.depth ≤ 60 := by
  simp only [flat2, Bool.and_eq_true, decide_eq_true_eq] at h
  exact ⟨h.1.1, h.1.2, h.2⟩
theorem cmp2_at {d e : D} (h : cmp2 d e = true) : alike d e = true ∧ d ≠ .none ∧ min d.depth e.depth ≤ 60 := by
  simp only [cmp2, Bool.and_eq_true, decide_eq_true_eq] at h
  exact ⟨h.1.1, some'_ne h.1.2, h.2⟩
variable (hu : X.A.units + 64 < cLine)
include hu
theorem op_eqB : OpR X (compareOp .Eq) (rB X.K eqB) := opB_of fun s u v d e as bs b Q r1 r2 h q => by
  obtain ⟨c, rfl⟩ := eqB_all h
  obtain ⟨c1, c2, c3⟩ := flat2_at c
  exact SeqAt.eq_plain r1 r2 c1 c2 (by omega) q
theorem op_neB : OpR X (compareOp .NotEq) (rB X.K neB) := opB_of fun s u v d e as bs b Q r1 r2 h q => by
  obtain ⟨c, rfl⟩ := neB_all h
  obtain ⟨c1, c2, c3⟩ := flat2_at c
  exact SeqAt.ne_plain r1 r2 c1 c2 (by omega) q
theorem op_ltB : OpR X (compareOp .Lt) (rB X.K ltB) := opB_of fun s u v d e as bs b Q r1 r2 h q => by
  obtain ⟨c, rfl⟩ := ltB_all h
  obtain ⟨c1, c2, c3⟩ := cmp2_at c
  exact PySem.W.lt_data r1 r2 c1 c2 (by omega) q
theorem op_gtB : OpR X (compareOp .Gt) (rB X.K gtB) := opB_of fun s u v d e as bs b Q r1 r2 h q => by
  obtain ⟨c, rfl⟩ := gtB_all h
  obtain ⟨c1, c2, c3⟩ := cmp2_at c
  exact PySem.W.gt_data r1 r2 c1 c2 (by omega) q
theorem op_leB : OpR X (compareOp .LtE) (rB X.K leB) := opB_of fun s u v d e as bs b Q r1 r2 h q => by
  obtain ⟨c, rfl⟩ := leB_all h
  obtain ⟨c1, c2, c3⟩ := cmp2_at c
  exact PySem.W.le_data r1 r2 c1 c2 (by omega) q
theorem op_geB : OpR X (compareOp .GtE) (rB X.K geB) := opB_of fun s u v d e as bs b Q r1 r2 h q => by
  obtain ⟨c, rfl⟩ := geB_all h
  obtain ⟨c1, c2, c3⟩ := cmp2_at c
  exact PySem.W.ge_data r1 r2 c1 c2 (by omega) q
/-- in a list, a tuple -/
def inB (d e : D) : Option Bool := match e with
  | .list l => if PyData.plainAll l && d.plain && decide (min (PyData.depthAll l) d.depth ≤ 60) then some (l.any fun y => PyData.eqv y d) else none
  | .tuple l => if PyData.plainAll l && d.plain && decide (min (PyData.depthAll l) d.depth ≤ 60) then some (l.any fun y => PyData.eqv y d) else none
  | _ => none
def notInB (d e : D) : Option Bool := (inB d e).map fun b => !b
omit hu in
theorem inB_all {d e : D} {b : Bool} (h : inB d e = some b) : ∃ l, (e = .list l ∨ e = .tuple l) ∧ PyData.plainAll l = true ∧ d.plain = true ∧ min (PyData.depthAll l) d.depth ≤ 60 ∧ b = l.any fun y => PyData.eqv y d := by
  unfold inB at h
  split at h
  · rename_i l
    split at h
    · rename_i c
      simp only [Bool.and_eq_true, decide_eq_true_eq] at c
      cases h; exact ⟨l, .inl rfl, c.1.1, c.1.2, c.2, rfl⟩
    · cases h
  · rename_i l
    split at h
    · rename_i c
      simp only [Bool.and_eq_true, decide_eq_true_eq] at c
      cases h; exact ⟨l, .inr rfl, c.1.1, c.1.2, c.2, rfl⟩
    · cases h
  · cases h
theorem op_inB : OpR X (compareOp .In) (rB X.K inB) := opB_of fun s u v d e as bs b Q r1 r2 h q => by
  obtain ⟨l, c, c1, c2, c3, rfl⟩ := inB_all h
  rcases c with rfl | rfl
  · exact SeqAt.in_list_data r2 r1 c1 c2 (by omega) q
  · exact SeqAt.in_tuple_data r2 r1 c1 c2 (by omega) q
theorem op_notInB : OpR X (compareOp .NotIn) (rB X.K notInB) := opB_of fun s u v d e as bs b Q r1 r2 h q => by
  unfold notInB at h
  obtain ⟨b', h1, rfl⟩ := Option.map_eq_some_iff.mp h
  obtain ⟨l, c, c1, c2, c3, rfl⟩ := inB_all h1
  rcases c with rfl | rfl
  · exact SeqAt.notIn_list_data r2 r1 c1 c2 (by omega) q
  · exact SeqAt.notIn_tuple_data r2 r1 c1 c2 (by omega) q
end
/-- is None -/
def isNone : D → Bool
  | .none => true
  | _ => false
theorem rep_isNone {K : PySem.W.Frag} {H : Hp} : ∀ {d : D} {x : V}, Rep K H d x → decide (x = .non) = isNone d
  | .none, x, h => by simp only [Rep] at h; subst h; rfl
  | .bool _, x, h => by simp only [Rep] at h; subst h; rfl
  | .int _, x, h => by simp only [Rep] at h; subst h; rfl
  | .str _, x, h => by simp only [Rep] at h; subst h; rfl
  | .list _, x, h => by simp only [Rep] at h; obtain ⟨a, _, rfl, _⟩ := h; rfl
  | .tuple _, x, h => by simp only [Rep] at h; obtain ⟨a, _, rfl, _⟩ := h; rfl
  | .dict _, x, h => by simp only [Rep] at h; obtain ⟨a, _, rfl, _⟩ := h; rfl
def isB (d e : D) : Option D := match e with
  | .none => some (.bool (isNone d))
  | _ => none
def isNotB (d e : D) : Option D := match e with
  | .none => some (.bool (!isNone d))
  | _ => none
theorem p2_is {K : PySem.W.Frag} : P2 K (fun x y H Q => y = .non ∧ Q (.bl (decide (x = .non))) H) isB := fun F H x y d e z Q s h1 h2 hz q => by
  unfold isB at hz
  split at hz
  · cases hz
    exact ⟨h2.none, by rw [rep_isNone (h1.here s)]; exact q _ F H (Fr.refl s) rep_bool⟩
  · cases hz
theorem p2_isNot {K : PySem.W.Frag} : P2 K (fun x y H Q => y = .non ∧ Q (.bl (!decide (x = .non))) H) isNotB := fun F H x y d e z Q s h1 h2 hz q => by
  unfold isNotB at hz
  split at hz
  · cases hz
    exact ⟨h2.none, by rw [rep_isNone (h1.here s)]; exact q _ F H (Fr.refl s) rep_bool⟩
  · cases hz
/-! ### arithmetic -/
def mulB : D → D → Option D
  | .int i, .int j => if (decide (-(2 ^ 64) < i) && decide (i < 2 ^ 64)) || (decide (-(2 ^ 64) < j) && decide (j < 2 ^ 64)) then some (.int (i * j)) else none
  | _, _ => none
def subB : D → D → Option D
  | .int i, .int j => some (.int (i - j))
  | _, _ => none
def fdivB : D → D → Option D
  | .int i, .int j => if decide (j ≠ 0) && decide (j.natAbs < 1073741824) then some (.int (i.fdiv j)) else none
  | _, _ => none
def modB : D → D → Option D
  | .int i, .int j => if decide (j ≠ 0) then some (.int (i.fmod j)) else none
  | _, _ => none
def powB : D → D → Option D
  | .int i, .int j => if decide (0 ≤ j) && decide (j ≤ 1000000) && decide (i.natAbs < 2 ^ 64) then some (.int (i ^ j.toNat)) else none
  | _, _ => none
def negB : D → Option D
  | .int i => some (.int (-i))
  | _ => none
section
variable {K : PySem.W.Frag}
theorem p2_I {C : Int → Int → Prop} {g : Int → Int → Int} {p : D → D → Option D} (h : ∀ d e z, p d e = some z → ∃ i j, d = .int i ∧ e = .int j ∧ C i j ∧ z = .int (g i j)) : P2 K (rI C fun i j => .int (g i j)) p := fun F H x y d e z Q s h1 h2 hz q => by
  obtain ⟨i, j, rfl, rfl, c, rfl⟩ := h d e z hz
  exact ⟨i, j, h1.int, h2.int, c, q _ F H (Fr.refl s) rep_int⟩
theorem p2_mul : P2 K (rI CMul fun i j => .int (i * j)) mulB := p2_I fun d e z h => by
  unfold mulB at h
  split at h
  · split at h
    · rename_i c
      simp only [Bool.or_eq_true, Bool.and_eq_true, decide_eq_true_eq] at c
      cases h; exact ⟨_, _, rfl, rfl, c, rfl⟩
    · cases h
  · cases h
theorem p2_fdiv : P2 K (rI CDivN fun i j => .int (i.fdiv j)) fdivB := p2_I fun d e z h => by
  unfold fdivB at h
  split at h
  · split at h
    · rename_i c
      simp only [Bool.and_eq_true, decide_eq_true_eq] at c
      cases h; exact ⟨_, _, rfl, rfl, c, rfl⟩
    · cases h
  · cases h
theorem p2_mod : P2 K (rI (fun _ j => j ≠ 0) fun i j => .int (i.fmod j)) modB := p2_I fun d e z h => by
  unfold modB at h
  split at h
  · split at h
    · rename_i c
      cases h; exact ⟨_, _, rfl, rfl, of_decide_eq_true c, rfl⟩
    · cases h
  · cases h
theorem p2_pow : P2 K (rI CPow fun i j => .int (i ^ j.toNat)) powB := p2_I fun d e z h => by
  unfold powB at h
  split at h
  · split at h
    · rename_i c
      simp only [Bool.and_eq_true, decide_eq_true_eq] at c
      cases h; exact ⟨_, _, rfl, rfl, ⟨c.1.1, c.1.2, c.2⟩, rfl⟩
    · cases h
  · cases h
theorem p2_sub : P2 K (rI0 fun i j => .int (i - j)) subB := fun F H x y d e z Q s h1 h2 hz q => by
  unfold subB at hz
  split at hz
  · cases hz
    exact ⟨_, _, h1.int, h2.int, q _ F H (Fr.refl s) rep_int⟩
  · cases hz
theorem p1_neg : P1 K (rU fun i => .int (-i)) negB := fun F H x d z Q s h1 hz q => by
  unfold negB at hz
  split at hz
  · cases hz
    exact ⟨_, h1.int, q _ F H (Fr.refl s) rep_int⟩
  · cases hz
end
/-! ### + -/
def addB : D → D → Option D
  | .int i, .int j => some (.int (i + j))
  | .str i, .str j => if i.length + j.length ≤ sizeLine then some (.str (i ++ j)) else none
  | .tuple i, .tuple j => if i.length + j.length ≤ sizeLine then some (.tuple (i ++ j)) else none
  | .list i, .list j => if i.length + j.length ≤ sizeLine then some (.list (i ++ j)) else none
  | _, _ => none
section
variable {X : Cx}
/-- two lists that are read -/
def rCatL : R2 := fun x y H Q => ∃ a b xs ys, x = .ref a ∧ y = .ref b ∧ Rd H a (.lst xs) ∧ Rd H b (.lst ys) ∧ xs.length + ys.length ≤ sizeLine ∧ ∀ p, H p = none → Q (.ref p) (upd H p (.lst (xs ++ ys)))
theorem Inv.rdL {pins : List (Addr × Obj)} {σ : Sg} {H : Hp} {s : Shared} {a : Addr} {xs : List V} (I : Inv X pins σ H s) (h : Rd H a (.lst xs)) : ∃ (its : List Value) (n : Nat), Vals xs its ∧ s.heap.get? a = some { cls := .type "list", data := .seq its.toArray n } := by
  obtain ⟨_, its, n, r, e⟩ := h.ok I.hok
  exact ⟨its, n, r, e⟩
theorem op_catL : OpR X (binaryOp .Add) rCatL := by
  intro pins s σ H x y v u Q I rx ry h
  obtain ⟨a, b, xs, ys, rfl, rfl, ha, hb, hz, q⟩ := h
  cases rx
  cases ry
  obtain ⟨its, n, r, e⟩ := Inv.rdL I ha
  obtain ⟨its2, n2, r2, e2⟩ := Inv.rdL I hb
  have l1 := r.length
  have l2 := r2.length
  refine PySem.P.add_list e e2 ?_ (by rw [List.size_toArray, List.size_toArray]; omega)
  have ea : its.toArray ++ its2.toArray = (its ++ its2).toArray := by simp
  rw [ea]
  exact ⟨.ref _, _, I.lnew (t' := s.toks) (r.append r2) (by rw [List.length_append]; omega), rfl, q _ I.fresh⟩
def rAdd (K : PySem.W.Frag) : R2 := fun x y H Q => rI0 (fun i j => .int (i + j)) x y H Q ∨ (∃ i j, x = .str i ∧ y = .str j ∧ i.length + j.length ≤ sizeLine ∧ Q (.str (i ++ j)) H) ∨ rCatA K x y H Q ∨ rCatL x y H Q
theorem op_addB : OpR X (binaryOp .Add) (rAdd X.K) := op_add.or (op_add_str.or (op_catA.or op_catL))
theorem p2_add {K : PySem.W.Frag} : P2 K (rAdd K) addB := fun F H x y d e z Q s h1 h2 hz q => by
  unfold addB at hz
  split at hz
  · cases hz
    exact .inl ⟨_, _, h1.int, h2.int, q _ F H (Fr.refl s) rep_int⟩
  · rename_i i j
    by_cases c : i.length + j.length ≤ sizeLine
    · rw [if_pos c] at hz; cases hz
      exact .inr (.inl ⟨i, j, h1.str, h2.str, c, q _ F H (Fr.refl s) rep_str⟩)
    · rw [if_neg c] at hz; cases hz
  · rename_i i j
    by_cases c : i.length + j.length ≤ sizeLine
    · rw [if_pos c] at hz; cases hz
      obtain ⟨a, vs, rfl, q1, r1⟩ := h1.tuple s
      obtain ⟨b, ws, rfl, q2, r2⟩ := h2.tuple s
      have l1 := r1.length
      have l2 := r2.length
      refine .inr (.inr (.inl ⟨a, b, vs, ws, rfl, rfl, q1, q2, by omega, fun e => ?_, fun _ e => ?_, fun _ _ p hp => ?_⟩))
      · subst e
        rw [List.length_nil] at l1
        have : i = [] := List.eq_nil_of_length_eq_zero l1
        subst this
        rcases h2 with h2 | ⟨a', m, e', e2, _⟩
        · exact q _ F H (Fr.refl s) h2
        · cases m <;> simp [Mo.toD] at e2
      · subst e
        rw [List.length_nil] at l2
        have : j = [] := List.eq_nil_of_length_eq_zero l2
        subst this
        rw [List.append_nil] at q
        rcases h1 with h1 | ⟨a', m, e', e2, _⟩
        · exact q _ F H (Fr.refl s) h1
        · cases m <;> simp [Mo.toD] at e2
      · obtain ⟨f, r⟩ := new_tuple s hp (r1.append r2)
        exact q _ _ _ f r
    · rw [if_neg c] at hz; cases hz
  · rename_i i j
    by_cases c : i.length + j.length ≤ sizeLine
    · rw [if_pos c] at hz; cases hz
      obtain ⟨a, vs, rfl, q1, r1⟩ := h1.list s
      obtain ⟨b, ws, rfl, q2, r2⟩ := h2.list s
      have l1 := r1.length
      have l2 := r2.length
      refine .inr (.inr (.inr ⟨a, b, vs, ws, rfl, rfl, q1, q2, by omega, fun p hp => ?_⟩))
      obtain ⟨f, r⟩ := new_list s hp (r1.append r2)
      exact q _ _ _ f r
    · rw [if_neg c] at hz; cases hz
  · cases hz
end
/-! ### items -/
def ixB : D → D → Option D
  | .list l, .int i => atI l i
  | .tuple l, .int i => atI l i
  | .str x, .int i => if x.length ≤ sizeLine then (atI x.cps.toList i).map fun c => .str ⟨#[c]⟩ else none
  | _, _ => none
theorem Reps.atI {K : PySem.W.Frag} {F : Hp} {l : List D} {vs : List V} {i : Int} {d : D} (r : Reps K F l vs) (h : L2.atI l i = some d) : ∃ v, L2.atI vs i = some v ∧ Rep K F d v := by
  unfold L2.atI at h ⊢
  obtain ⟨j, hj, hd⟩ := Option.bind_eq_some_iff.mp h
  obtain ⟨v, hv, rv⟩ := r.get hd
  exact ⟨v, by rw [← r.length, hj]; exact hv, rv⟩
theorem p2_ix {K : PySem.W.Frag} : P2 K (rIx K) ixB := fun F H x y d e z Q s h1 h2 hz q => by
  unfold ixB at hz
  split at hz
  · obtain ⟨a, vs, rfl, q1, r1⟩ := h1.list s
    obtain ⟨v, hv, rv⟩ := r1.atI hz
    exact .inl ⟨a, vs, _, v, rfl, h2.int, .inl q1, hv, q _ F H (Fr.refl s) rv⟩
  · obtain ⟨a, vs, rfl, q1, r1⟩ := h1.tuple s
    obtain ⟨v, hv, rv⟩ := r1.atI hz
    exact .inr (.inl ⟨a, vs, _, v, rfl, h2.int, q1, hv, q _ F H (Fr.refl s) rv⟩)
  · rename_i w i
    by_cases c : w.length ≤ sizeLine
    · rw [if_pos c] at hz
      obtain ⟨k, hk, rfl⟩ := Option.map_eq_some_iff.mp hz
      exact .inr (.inr ⟨w, i, k, h1.str, h2.int, c, hk, q _ F H (Fr.refl s) rep_str⟩)
    · rw [if_neg c] at hz; cases hz
  · cases hz
/-! ### built-in functions -/
section
variable {X : Cx} {W : Wt} {e e2 : Expr} {es : List Expr} {as : Ans} {a : An} {pos p p2 : Pos} {x : Str} {id T : String} {r : List V → Hp → VK → Prop} {pr : List D → Option D}
/-- a built-in function by its name -/
theorem de_B (hc : CallR X (.builtin id) r) (hp : PN X.K r pr) (hm : X.mg x = none) (hv : bootBuiltins x = some (.builtin id)) (ha : PA X (e :: es) (tAs X.K W as)) (hg : Gl X x := by rfl) (hn : x ≠ "__name__" := by decide) (hdb : (x == ("__debug__" : Str)) = false := by decide)
    (he : starEach (e :: es) X.env = (false, eval e X.env) :: starEach es X.env := by rfl) (hpl : (backTo pos (starEach es X.env)).any (·.1) = false := by rfl) : PE X (.Call (.Name x p) (e :: es) [] pos) (tE X.K W (dOpN pr as)) :=
  PE.imp (pe_callB hc hg hm hv ha hn hdb he hpl) fun _ _ _ q => opN_imp hp q
/-- a built-in class by its name -/
theorem de_T (hc : CallR X (.type T) r) (hp : PN X.K r pr) (hm : X.mg x = none) (hv : bootBuiltins x = some (.type T)) (ha : PA X (e :: es) (tAs X.K W as)) (hg : Gl X x := by rfl) (hn : x ≠ "__name__" := by decide) (hdb : (x == ("__debug__" : Str)) = false := by decide)
    (he : starEach (e :: es) X.env = (false, eval e X.env) :: starEach es X.env := by rfl) (hpl : (backTo pos (starEach es X.env)).any (·.1) = false := by rfl) : PE X (.Call (.Name x p) (e :: es) [] pos) (tE X.K W (dOpN pr as)) :=
  PE.imp (pe_callTy hc hg hm hv ha hn hdb he hpl) fun _ _ _ q => opN_imp hp q
end
/-- one that reads one tree and gives a flat value -/
def r1D (K : PySem.W.Frag) (f : D → Option V) : List V → Hp → VK → Prop := fun xs H Q => ∃ x d v, xs = [x] ∧ Rep K H d x ∧ f d = some v ∧ Q v H
section
variable {X : Cx}
theorem callR1_of {g : Value} {f : D → Option V} (rule : ∀ (s : Shared) (u : Value) (d : D) (as : List Addr) (v : V) (Q : Value → Shared → Prop), Reads s.heap u d as → f d = some v → (∀ u tk, RelV v u → Q u { s with toks := tk }) → wpAny (model X.prog X.w) X.A (call g [u]) Q X.xe s) : CallR X g (r1D X.K f) := by
  intro pins s σ H xs us Q I r h
  obtain ⟨x, d, v, rfl, hd, hv, q⟩ := h
  obtain ⟨u, rfl, ru⟩ := vals1 r
  obtain ⟨as, z⟩ := Rep.reads I d x u hd ru
  exact rule s u d as v _ z hv fun u tk ru => ⟨v, H, I.tok tk, ru, q⟩
end
def lenD : D → Option Nat
  | .list l => some l.length
  | .tuple l => some l.length
  | .str x => if x.length ≤ sizeLine then some x.length else none
  | _ => none
def lenB : List D → Option D
  | [d] => (lenD d).map fun (n : Nat) => PyData.int (n : Int)
  | _ => none
theorem pn_len {K : PySem.W.Frag} : PN K (fun xs H Q => ∃ x, ∃ n : Nat, xs = [x] ∧ LenV K x H n ∧ Q (.int n) H) lenB := fun F H xs ds z Q s h hz q => by
  unfold lenB at hz
  split at hz
  · rename_i d
    obtain ⟨n, hn, rfl⟩ := Option.map_eq_some_iff.mp hz
    obtain ⟨v, rfl, rv⟩ := h.one
    refine ⟨v, n, rfl, ?_, q _ F H (Fr.refl s) rep_int⟩
    unfold lenD at hn
    split at hn
    · cases hn
      obtain ⟨a, vs, rfl, q1, r1⟩ := rv.list s
      exact .inl ⟨vs, .inl q1, r1.length⟩
    · cases hn
      obtain ⟨a, vs, rfl, q1, r1⟩ := rv.tuple s
      exact .inr ⟨vs, q1, r1.length⟩
    · rename_i w
      by_cases c : w.length ≤ sizeLine
      · rw [if_pos c] at hn; cases hn
        rw [rv.str]; exact ⟨c, rfl⟩
      · rw [if_neg c] at hn; cases hn
    · cases hn
  · cases hz
end Ft
/-! Ft7: more built-ins by trees. -/
namespace Ft
open PySem L2 PySem.Spec PyProof.Rows
open PySem.W (alike dataLt)

/-! ### isinstance -/
def rIsD (K : PySem.W.Frag) (f : D → Bool) (T : String) : List V → Hp → VK → Prop := fun xs H Q => ∃ x d, xs = [x, .ty T] ∧ Rep K H d x ∧ Q (.bl (f d)) H
def isiB (f : D → Bool) : D → Option D := fun d => some (.bool (f d))
section
variable {X : Cx} {W : Wt} {e e2 : Expr} {es : List Expr} {as : Ans} {a : An} {pos p p2 p3 : Pos} {x : Str} {id T : String} {f : D → Bool}
theorem call_isD (rule : ∀ (s : Shared) (u : Value) (d : D) (as : List Addr) (Q : Value → Shared → Prop), Reads s.heap u d as → (∀ tk, s.toks ≤ tk → Q (.bool (f d)) { s with toks := tk }) → wpAny (model X.prog X.w) X.A (call (.builtin "isinstance") [u, .type T]) Q X.xe s) :
    CallR X (.builtin "isinstance") (rIsD X.K f T) := by
  intro pins s σ H xs us Q I r h
  obtain ⟨x, d, rfl, hd, q⟩ := h
  obtain ⟨u, u2, rfl, r1, r2⟩ := vals2 r
  cases (show u2 = Value.type T from r2)
  obtain ⟨bs, z⟩ := Rep.reads I d x u hd r1
  exact rule s u d bs _ z fun tk _ => ⟨.bl (f d), H, I.tok tk, rfl, q⟩
theorem isi_int : CallR X (.builtin "isinstance") (rIsD X.K PyData.isInt "int") := call_isD fun s u d bs Q z h => PySem.W.isinstance_int_data z h
theorem isi_bool : CallR X (.builtin "isinstance") (rIsD X.K PyData.isBool "bool") := call_isD fun s u d bs Q z h => PySem.W.isinstance_bool_data z h
theorem isi_str : CallR X (.builtin "isinstance") (rIsD X.K PyData.isStr "str") := call_isD fun s u d bs Q z h => PySem.W.isinstance_str_data z h
theorem isi_tuple : CallR X (.builtin "isinstance") (rIsD X.K PyData.isTuple "tuple") := call_isD fun s u d bs Q z h => PySem.W.isinstance_tuple_data z h
theorem isi_list : CallR X (.builtin "isinstance") (rIsD X.K PyData.isList "list") := call_isD fun s u d bs Q z h => PySem.W.isinstance_list_data z h
theorem isi_dict : CallR X (.builtin "isinstance") (rIsD X.K PyData.isDict "dict") := call_isD fun s u d bs Q z h => PySem.W.isinstance_dict_data z h
theorem de_isi (hc : CallR X (.builtin "isinstance") (rIsD X.K f T)) (hm : X.mg "isinstance" = none) (hm2 : X.mg x = none) (hv2 : bootBuiltins x = some (.type T)) (ha : PE X e (tA X.K W a)) (hg : Gl X "isinstance" := by rfl) (hg2 : Gl X x := by rfl) (hn : x ≠ "__name__" := by decide) (hdb : (x == ("__debug__" : Str)) = false := by decide)
    (hv : bootBuiltins "isinstance" = some (.builtin "isinstance") := by decide +kernel)
    (he : starEach (e :: [.Name x p2]) X.env = (false, eval e X.env) :: starEach [.Name x p2] X.env := by rfl) (he2 : starEach [.Name x p2] X.env = (false, eval (.Name x p2) X.env) :: starEach [] X.env := by rfl) (hpl : (backTo pos (starEach [.Name x p2] X.env)).any (·.1) = false := by rfl) :
    PE X (.Call (.Name "isinstance" p) [e, .Name x p2] [] pos) (tE X.K W (dOp1 (isiB f) a)) :=
  PE.imp (pe_callB hc hg hm hv (pa_cons ha (pa_cons (pe_bltn (v := .ty T) hg2 hm2 hv2 rfl hn hdb) pa_nil he2) he) (by decide) (by decide) he hpl) fun σ H Q ⟨ρ, F, s, q⟩ =>
    Af.bind s q fun h v ρ1 F1 H1 g r z => by
      obtain ⟨w, ew, q⟩ := ans_some z
      obtain ⟨d, hd, ew⟩ := Option.bind_eq_some_iff.mp ew
      cases ew
      exact ⟨v, d, rfl, (look_rep g.sr r hd).here g.sr.sub, q.okk g.sr rep_bool⟩
end
/-! ### int, bool, tuple, list -/
def intB : List D → Option D
  | [.int i] => some (.int i)
  | [.bool b] => some (.int (if b then 1 else 0))
  | _ => none
def tupB : List D → Option D
  | [.tuple l] => some (.tuple l)
  | [.list l] => some (.tuple l)
  | _ => none
section
variable {K : PySem.W.Frag}
theorem pn_int : PN K (fun xs H Q => (∃ i, xs = [.int i] ∧ Q (.int i) H) ∨ ∃ k, xs = [.bl k] ∧ Q (.int (if k then 1 else 0)) H) intB := fun F H xs ds z Q s h hz q => by
  unfold intB at hz
  split at hz
  · cases hz
    obtain ⟨v, rfl, rv⟩ := h.one
    exact .inl ⟨_, by rw [rv.int], q _ F H (Fr.refl s) rep_int⟩
  · cases hz
    obtain ⟨v, rfl, rv⟩ := h.one
    exact .inr ⟨_, by rw [rv.bool], q _ F H (Fr.refl s) rep_int⟩
  · cases hz
theorem pn_tuple : PN K (fun xs H Q => ∃ p ys, xs = [.ref p] ∧ ((SqL K H p ys ∧ ∀ l, H l = none → Q (.ref l) (upd H l (.tup ys))) ∨ (SqT K H p ys ∧ Q (.ref p) H))) tupB := fun F H xs ds z Q s h hz q => by
  unfold tupB at hz
  split at hz
  · cases hz
    obtain ⟨v, rfl, rv⟩ := h.one
    obtain ⟨a, vs, rfl, q1, r1⟩ := rv.tuple s
    rcases rv with rv | ⟨a', m, e', e2, _⟩
    · exact ⟨a, vs, rfl, .inr ⟨q1, q _ F H (Fr.refl s) rv⟩⟩
    · cases m <;> simp [Mo.toD] at e2
  · cases hz
    obtain ⟨v, rfl, rv⟩ := h.one
    obtain ⟨a, vs, rfl, q1, r1⟩ := rv.list s
    refine ⟨a, vs, rfl, .inl ⟨.inl q1, fun l hl => ?_⟩⟩
    obtain ⟨f, r⟩ := new_tuple s hl r1
    exact q _ _ _ f r
  · cases hz
end
/-! ### new lists -/
/-- a rule by values whose answer is a new list -/
def PF (K : PySem.W.Frag) (r : List V → Hp → VK → Prop) (p : List D → Option (List D)) : Prop :=
  ∀ F H xs ds l Q, Same F H → RepBs K F H ds xs → p ds = some l → (∀ a vs, H a = none → Reps K F l vs → Q (.ref a) (upd H a (.lst vs))) → r xs H Q
def fOpN (p : List D → Option (List D)) (a : Ans) : Fn := fun ρ => (a ρ).bind fun h ρ1 => ans (((looks ρ1 h).bind p).map Mo.lst) ρ1
def lstB : List D → Option (List D)
  | [.tuple l] => some l
  | [.list l] => some l
  | _ => none
section
variable {X : Cx} {W : Wt} {e e2 : Expr} {es : List Expr} {as : Ans} {a : An} {pos p p2 p3 : Pos} {x : Str} {id T : String} {r : List V → Hp → VK → Prop} {pr : List D → Option (List D)}
theorem ansF_some {K : PySem.W.Frag} {W : Wt} {ρ ρ' : Rho} {σ : Sg} {F H : Hp} {Q : VK} {o : Option Mo} (q : AfF K W ρ σ F H Q (ans o ρ')) : ∃ z, o = some z ∧ AfF K W ρ σ F H Q (.ok z ρ') := by
  cases o with
  | none => exact q.elim
  | some z => exact ⟨z, rfl, q⟩
theorem fN_imp (hp : PF X.K r pr) {σ : Sg} {H : Hp} {Q : VK} (q : tF X.K W (fOpN pr as) σ H Q) : tCB r (tAs X.K W as) σ H Q := by
  obtain ⟨ρ, F, s, q⟩ := q
  refine AfF.bind s q fun h v ρ1 F1 H1 g1 r1 z1 => ?_
  obtain ⟨z, e, q⟩ := ansF_some z1
  obtain ⟨l, e1, rfl⟩ := Option.map_eq_some_iff.mp e
  obtain ⟨x, hx, e2⟩ := Option.bind_eq_some_iff.mp e1
  exact hp F1 H1 v x l Q g1.sr.sub (looks_rep g1.sr r1 hx) e2 fun b vs n rv => AfF.new g1.sr q n rv
theorem df_B (hc : CallR X (.builtin id) r) (hp : PF X.K r pr) (hm : X.mg x = none) (hv : bootBuiltins x = some (.builtin id)) (ha : PA X (e :: es) (tAs X.K W as)) (hg : Gl X x := by rfl) (hn : x ≠ "__name__" := by decide) (hdb : (x == ("__debug__" : Str)) = false := by decide)
    (he : starEach (e :: es) X.env = (false, eval e X.env) :: starEach es X.env := by rfl) (hpl : (backTo pos (starEach es X.env)).any (·.1) = false := by rfl) : PE X (.Call (.Name x p) (e :: es) [] pos) (tF X.K W (fOpN pr as)) :=
  PE.imp (pe_callB hc hg hm hv ha hn hdb he hpl) fun _ _ _ q => fN_imp hp q
theorem df_T (hc : CallR X (.type T) r) (hp : PF X.K r pr) (hm : X.mg x = none) (hv : bootBuiltins x = some (.type T)) (ha : PA X (e :: es) (tAs X.K W as)) (hg : Gl X x := by rfl) (hn : x ≠ "__name__" := by decide) (hdb : (x == ("__debug__" : Str)) = false := by decide)
    (he : starEach (e :: es) X.env = (false, eval e X.env) :: starEach es X.env := by rfl) (hpl : (backTo pos (starEach es X.env)).any (·.1) = false := by rfl) : PE X (.Call (.Name x p) (e :: es) [] pos) (tF X.K W (fOpN pr as)) :=
  PE.imp (pe_callTy hc hg hm hv ha hn hdb he hpl) fun _ _ _ q => fN_imp hp q
theorem pf_list {K : PySem.W.Frag} : PF K (fun xs H Q => ∃ p ys, xs = [.ref p] ∧ (SqL K H p ys ∨ SqT K H p ys) ∧ ∀ l, H l = none → Q (.ref l) (upd H l (.lst ys))) lstB := fun F H xs ds z Q s h hz q => by
  unfold lstB at hz
  split at hz
  · cases hz
    obtain ⟨v, rfl, rv⟩ := h.one
    obtain ⟨a, vs, rfl, q1, r1⟩ := rv.tuple s
    exact ⟨a, vs, rfl, .inr q1, fun l hl => q l vs hl r1⟩
  · cases hz
    obtain ⟨v, rfl, rv⟩ := h.one
    obtain ⟨a, vs, rfl, q1, r1⟩ := rv.list s
    exact ⟨a, vs, rfl, .inl (.inl q1), fun l hl => q l vs hl r1⟩
  · cases hz
end
/-! ### slices -/
abbrev On := Rho → RE (Option Int)
abbrev RO : Sg → Hp → Option Int → Option Int → Prop := fun _ _ a b => b = a
def tOo (K : PySem.W.Frag) (W : Wt) (d : On) : TO := tG K W RO d
def oNone : On := fun ρ => .ok none ρ
def oSome (d : Dn) : On := fun ρ => (d ρ).bind fun x ρ' => match x with
  | .int i => .ok (some i) ρ'
  | _ => .no
def cutD (l : List D) (lo hi : Option Int) : List D := (l.drop (HT.sIx l.length 0 lo)).take (HT.sIx l.length l.length hi - HT.sIx l.length 0 lo)
theorem cutD_whole {l : List D} {lo hi : Option Int} (h1 : HT.sIx l.length 0 lo = 0) (h2 : HT.sIx l.length l.length hi = l.length) : cutD l lo hi = l := by
  unfold cutD
  rw [h1, h2, List.drop_zero, Nat.sub_zero, List.take_length]
theorem Reps.cut {K : PySem.W.Frag} {F : Hp} {l : List D} {vs : List V} (r : Reps K F l vs) (lo hi : Option Int) : Reps K F (cutD l lo hi) (cutV vs lo hi) := by
  unfold cutD cutV
  rw [r.length]
  exact (r.drop _).take _
/-- a slice of a tuple -/
def slB (d : D) (lo hi : Option Int) : Option D := match d with
  | .tuple l => some (.tuple (cutD l lo hi))
  | .list l => some (.list (cutD l lo hi))
  | .str x => if x.length ≤ sizeLine then some (.str (cutS x lo hi)) else none
  | _ => none
def dSl (a : An) (lo hi : On) : Dn := fun ρ => (a ρ).bind fun h ρ1 => (lo ρ1).bind fun i ρ2 => (hi ρ2).bind fun j ρ3 => ans ((look ρ3 h).bind fun d => slB d i j) ρ3
def fSl (a : An) (lo hi : On) : Fn := fun ρ => (a ρ).bind fun h ρ1 => (lo ρ1).bind fun i ρ2 => (hi ρ2).bind fun j ρ3 => ans ((look ρ3 h).bind fun d => match d with | .list l => some (Mo.lst (cutD l i j)) | _ => none) ρ3
section
variable {X : Cx} {W : Wt} {e e2 e3 : Expr} {d : Dn} {a : An} {pos p p2 p3 : Pos} {lo hi : On} {l u : Option Expr}
theorem do_none : PO X none (tOo X.K W oNone) := ⟨fun pins s σ H Q I ⟨ρ, F, sr, q⟩ => po_none.run pins s σ H Q I (Af.okk sr q rfl)⟩
theorem do_some (h : PE X e (tE X.K W d)) : PO X (some e) (tOo X.K W (oSome d)) := ⟨fun pins s σ H Q I ⟨ρ, F, sr, q⟩ => (po_some h).run pins s σ H Q I (Af.bind sr q fun x v ρ1 F1 H1 g r z => by
  cases x with
  | int i => exact ⟨i, by simpa only [Rep] using r, z.okk g.sr rfl⟩
  | none => exact z.elim
  | bool _ => exact z.elim
  | str _ => exact z.elim
  | list _ => exact z.elim
  | tuple _ => exact z.elim
  | dict _ => exact z.elim)⟩
theorem de_sl (ha : PE X e (tA X.K W a)) (hl : PO X l (tOo X.K W lo)) (hh : PO X u (tOo X.K W hi)) : PE X (.Subscript e (.Slice l u none p2) pos) (tE X.K W (dSl a lo hi)) :=
  PE.imp (pe_slice (sl_tupA.or (sl_list.or sl_str)) ha hl hh) fun σ H Q ⟨ρ, F, s, q⟩ => Af.bind s q fun h v ρ1 F1 H1 g1 r1 z1 => Af.bind g1.sr z1 fun i i' ρ2 F2 H2 g2 r2 z2 => Af.bind g2.sr z2 fun j j' ρ3 F3 H3 g3 r3 z3 => by
    subst r2 r3
    obtain ⟨w, ew, q⟩ := ans_some z3
    obtain ⟨d, hd, ew⟩ := Option.bind_eq_some_iff.mp ew
    have rb := look_rep g3.sr ((r1.mono g2.sub).mono g3.sub) hd
    unfold slB at ew
    split at ew
    · cases ew
      obtain ⟨b, vs, rfl, q1, rr⟩ := rb.tuple g3.sr.sub
      rcases rb with rb | ⟨_, m, _, em, _⟩
      · refine .inl ⟨b, vs, rfl, q1, fun w => ?_, fun _ p hp => ?_⟩
        · rw [← rr.length] at w
          rw [cutD_whole w.1 w.2] at q
          exact q.okk g3.sr rb
        · obtain ⟨f, r⟩ := new_tuple g3.sr.sub hp (rr.cut i' j')
          exact q.okf g3.sr f r
      · cases m <;> simp [Mo.toD] at em
    · cases ew
      obtain ⟨b, vs, rfl, q1, rr⟩ := rb.list g3.sr.sub
      refine .inr (.inl ⟨b, vs, rfl, .inl q1, fun p hp => ?_⟩)
      obtain ⟨f, r⟩ := new_list g3.sr.sub hp (rr.cut i' j')
      exact q.okf g3.sr f r
    · rename_i z
      by_cases c : z.length ≤ sizeLine
      · rw [if_pos c] at ew; cases ew
        exact .inr (.inr ⟨z, rb.str, c, q.okk g3.sr rep_str⟩)
      · rw [if_neg c] at ew; cases ew
    · cases ew
theorem df_sl (ha : PE X e (tA X.K W a)) (hl : PO X l (tOo X.K W lo)) (hh : PO X u (tOo X.K W hi)) : PE X (.Subscript e (.Slice l u none p2) pos) (tF X.K W (fSl a lo hi)) :=
  PE.imp (pe_slice sl_list ha hl hh) fun σ H Q ⟨ρ, F, s, q⟩ => AfF.bind s q fun h v ρ1 F1 H1 g1 r1 z1 => AfF.bind g1.sr z1 fun i i' ρ2 F2 H2 g2 r2 z2 => AfF.bind g2.sr z2 fun j j' ρ3 F3 H3 g3 r3 z3 => by
    subst r2 r3
    obtain ⟨w, ew, q⟩ := ansF_some z3
    obtain ⟨d, hd, ew⟩ := Option.bind_eq_some_iff.mp ew
    have rb := look_rep g3.sr ((r1.mono g2.sub).mono g3.sub) hd
    split at ew
    · cases ew
      obtain ⟨b, vs, rfl, q1, rr⟩ := rb.list g3.sr.sub
      exact ⟨b, vs, rfl, .inl q1, fun p hp => AfF.new g3.sr q hp (rr.cut i' j')⟩
    · cases ew
end
end Ft
/-! Ft8: own lists changed; folds of lists. -/
namespace Ft
open PySem L2 PySem.Spec PyProof.Rows

def st' {α : Type} (o : Option α) (f : α → RS) : RS := match o with
  | some a => f a
  | none => .no
/-- the own list of a slot -/
def ownL (ρ : Rho) (i : Nat) : Option (List D × Bool) := match ρ[i]? with
  | some (.own (.lst l) b) => some (l, b)
  | _ => none
theorem ownL_at {ρ : Rho} {i : Nat} {l : List D} {b : Bool} (h : ownL ρ i = some (l, b)) : ρ[i]? = some (.own (.lst l) b) := by
  unfold ownL at h
  split at h
  · rename_i l' b' e
    cases h; exact e
  · cases h
/-- x[k] = e for a list of this frame -/
def sSetIx (i : Nat) (k e : Dn) : Sn := fun ρ => (e ρ).st fun x ρ1 => st' (ownL ρ1 i) fun _ => (k ρ1).st fun y ρ2 => st' (ownL ρ2 i) fun (l, b) => match y with
  | .int z => st' (ixN l.length z) fun j => .next (ρ2.set i (.own (.lst (l.set j x)) b))
  | _ => .no
/-- x.append(e) -/
def sApp (i : Nat) (e : Dn) : Sn := fun ρ => st' (ownL ρ i) fun _ => (e ρ).st fun x ρ1 => st' (ownL ρ1 i) fun (l, b) => if l.length < sizeLine then .next (ρ1.set i (.own (.lst (l ++ [x])) b)) else .no
/-- x.extend(e) -/
def sExt (i : Nat) (e : Dn) : Sn := fun ρ => st' (ownL ρ i) fun _ => (e ρ).st fun x ρ1 => st' (ownL ρ1 i) fun (l, b) => match x with
  | .list m => if l.length + m.length ≤ sizeLine then .next (ρ1.set i (.own (.lst (l ++ m)) b)) else .no
  | _ => .no
section
variable {K : PySem.W.Frag} {W : Wt} {ρ ρ' : Rho} {σ : Sg} {F H F' H' : Hp} {E : Ends}
theorem st'_some {α : Type} {o : Option α} {f : α → RS} (q : AfS K W ρ σ F H E (st' o f)) : ∃ a, o = some a ∧ AfS K W ρ σ F H E (f a) := by
  cases o with
  | none => exact q.elim
  | some a => exact ⟨a, rfl, q⟩
/-- the list of a slot is rewritten -/
theorem lst_write {i : Nat} {l m : List D} {b : Bool} (s : SR K ρ σ F H) (h : ownL ρ i = some (l, b)) : ∃ a vs, σ[i]? = some (some (.ref a)) ∧ H a = some (.lst vs) ∧ Reps K F l vs ∧ ∀ ws, Reps K F m ws → Go K ρ σ F H (ρ.set i (.own (.lst m) b)) σ F (upd H a (.lst ws)) := by
  have e := ownL_at h
  obtain ⟨a, h1, h2, vs, h3, h4⟩ := s.own i _ b e
  exact ⟨a, vs, h1, h3, h4, fun ws r => s.change e h1 ⟨h2, ws, upd_same, r⟩⟩
end
section
variable {X : Cx} {W : Wt} {e e2 : Expr} {d d2 : Dn} {pos p p2 p3 p4 : Pos} {x : Str}
theorem ds_setix (i : Nat) (he : PE X e (tE X.K W d)) (hk : PE X e2 (tE X.K W d2)) (hN : X.N[i]? = some x := by rfl) (hv : Vis X.env.scope x := by first | exact Or.inl rfl | exact Or.inr (Or.inl rfl) | exact Or.inr (Or.inr rfl)) (hd : (x == ("__debug__" : Str)) = false := by decide)
    (hcd : (x == ("__classdict__" : Str)) = false := by decide) (hs : swapsWithSole [.Subscript (.Name x p) e2 p2] e pos.line X.env = pure false := by rfl) (hw : swappedStores [.Subscript (.Name x p) e2 p2] e X.env = pure none := by rfl)
    (h1 : (assignEach [.Subscript (.Name x p) e2 p2] X.env).map (·.2) = [assign (.Subscript (.Name x p) e2 p2) X.env] := by rfl)
    (ha : ∀ v, assign (.Subscript (.Name x p) e2 p2) X.env v = (do
      let ov ← holding [v] (eval (.Name x p) X.env)
      let iv ← holding [v, ov] (eval e2 X.env)
      standAt p2
      holding [v, ov, iv] (setItem ov iv v)
      release [v, ov, iv] []) := by intro _; rfl) : PS X (.Assign [.Subscript (.Name x p) e2 p2] e pos) (tS X.K W (sSetIx i d2 d)) :=
  PS.imp (ps_asg he (pg_sub (pe_var hN hv hd hcd) hk set_list ha) hs hw h1) fun D σ H ⟨ρ, F, s, q⟩ => AfS.bind s q fun z v ρ1 F1 H1 g1 r1 q1 => by
    obtain ⟨⟨l0, b0⟩, ho0, q2⟩ := st'_some q1
    obtain ⟨a0, vs0, e0, _⟩ := lst_write (m := []) g1.sr ho0
    refine ⟨_, e0, AfS.bind g1.sr q2 fun y w ρ3 F3 H3 g3 r3 q3 => ?_⟩
    obtain ⟨⟨l, b⟩, ho, q4⟩ := st'_some q3
    cases y with
    | int k =>
      obtain ⟨j, hj, q5⟩ := st'_some q4
      obtain ⟨a, vs, e1, e2, e3, wr⟩ := lst_write (m := l.set j z) g3.sr ho
      rw [e0] at e1; cases e1
      exact ⟨_, vs, k, j, rfl, by simpa only [Rep] using r3, e2, by rw [← e3.length]; exact hj, q5 _ _ _ (wr _ (e3.set j (Rep.mono g3.sub _ _ r1)))⟩
    | none => exact q4.elim
    | bool _ => exact q4.elim
    | str _ => exact q4.elim
    | list _ => exact q4.elim
    | tuple _ => exact q4.elim
    | dict _ => exact q4.elim
theorem ds_app (i : Nat) (hc : PE X (.Call (.Attribute (.Name x p) "append" p2) [e] [] p3) (tBM X.K "list" rAppend (tVar i) (tCons (tE X.K W d) tNil)))
    (hs : swapsWith (.Call (.Attribute (.Name x p) "append" p2) [e] [] p3) none pos.line X.env = pure false := by rfl) : PS X (.Expr (.Call (.Attribute (.Name x p) "append" p2) [e] [] p3) pos) (tS X.K W (sApp i d)) :=
  PS.imp (ps_expr hc hs) fun D σ H ⟨ρ, F, s, q⟩ => by
    obtain ⟨⟨l0, b0⟩, ho0, q2⟩ := st'_some q
    obtain ⟨a0, vs0, e0, h0, _⟩ := lst_write (m := []) s ho0
    refine ⟨_, e0, Or.inl ⟨rfl, _, Or.inl (Or.inl h0)⟩, AfS.bind s q2 fun y w ρ3 F3 H3 g3 r3 q3 => ?_⟩
    obtain ⟨⟨l, b⟩, ho, q4⟩ := st'_some q3
    obtain ⟨a, vs, e1, e2, e3, wr⟩ := lst_write (m := l ++ [y]) g3.sr ho
    rw [e0] at e1; cases e1
    by_cases c : l.length < sizeLine
    · simp only [if_pos c] at q4
      exact ⟨_, vs, w, rfl, rfl, e2, by rw [← e3.length]; exact c, q4 _ _ _ (wr _ (e3.append (.cons r3 .nil)))⟩
    · simp only [if_neg c] at q4; exact q4.elim
/-- extend by a list that is read -/
def rExtB : V → List V → Hp → VK → Prop := fun x vs H Q => ∃ l b xs zs, x = .ref l ∧ vs = [.ref b] ∧ H l = some (.lst xs) ∧ Rd H b (.lst zs) ∧ l ≠ b ∧ xs.length + zs.length ≤ sizeLine ∧ Q .non (upd H l (.lst (xs ++ zs)))
theorem mt_extB : MtR X "list.extend" rExtB := by
  intro pins s σ H x vs v us Q I rx rv h
  obtain ⟨l, b, xs, zs, rfl, rfl, hH, hB, nlb, hz, q⟩ := h
  cases rx
  obtain ⟨u, rfl, ru⟩ := rv.one
  cases ru
  obtain ⟨i1, n, r, e⟩ := Inv.rdL I (.inl hH)
  obtain ⟨i2, n2, r2, e2⟩ := Inv.rdL I hB
  have l1 := r.length
  have l2 := r2.length
  have hy : ¬ (!i1.toArray.isEmpty && Builtin.List.listTooLong (i1.toArray.size + i2.toArray.size)) = true := by
    rw [notLongL (by rw [List.size_toArray, List.size_toArray]; omega), Bool.and_false]; decide
  refine call_meets F.slot_list_extend ⟨_, e, rfl⟩ F.entry_list_extend (F.args_list_extend_2 _ _) (AutoSeq1.list_extend_list_list_0 l i1.toArray n b i2.toArray n2 hy (by rw [List.size_toArray]; omega) (by rw [List.size_toArray, List.size_toArray]; omega)) ⟨e, e2, ?_⟩
  exact ⟨.non, _, I.lset (its' := i1 ++ i2) hH e (by simp) (r.append r2) (by rw [List.length_append]; omega), rfl, q⟩
theorem ds_ext (i : Nat) (hc : PE X (.Call (.Attribute (.Name x p) "extend" p2) [e] [] p3) (tBM X.K "list" rExtB (tVar i) (tCons (tE X.K W d) tNil)))
    (hs : swapsWith (.Call (.Attribute (.Name x p) "extend" p2) [e] [] p3) none pos.line X.env = pure false := by rfl) : PS X (.Expr (.Call (.Attribute (.Name x p) "extend" p2) [e] [] p3) pos) (tS X.K W (sExt i d)) :=
  PS.imp (ps_expr hc hs) fun D σ H ⟨ρ, F, s, q⟩ => by
    obtain ⟨⟨l0, b0⟩, ho0, q2⟩ := st'_some q
    obtain ⟨a0, vs0, e0, h0, _⟩ := lst_write (m := []) s ho0
    refine ⟨_, e0, Or.inl ⟨rfl, _, Or.inl (Or.inl h0)⟩, AfS.bind s q2 fun y w ρ3 F3 H3 g3 r3 q3 => ?_⟩
    obtain ⟨⟨l, b⟩, ho, q4⟩ := st'_some q3
    cases y with
    | list m =>
      obtain ⟨a, vs, e1, e2, e3, wr⟩ := lst_write (m := l ++ m) g3.sr ho
      have ow := (g3.sr.own i _ _ (ownL_at ho))
      rw [e0] at e1; cases e1
      by_cases c : l.length + m.length ≤ sizeLine
      · simp only [if_pos c] at q4
        obtain ⟨b2, ws, rfl, q5, r5⟩ := by simpa only [Rep] using r3
        have q6 := rdSame g3.sr.sub q5
        have ne : a0 ≠ b2 := by
          obtain ⟨a', z1, z2⟩ := ow
          rw [e0] at z1; cases z1
          rintro rfl
          rcases q5 with z | ⟨o, z⟩
          · rw [z2.1] at z; cases z
          · rw [z2.1] at z; cases z
        exact ⟨_, b2, vs, ws, rfl, rfl, e2, q6, ne, by rw [← e3.length, ← r5.length]; exact c, q4 _ _ _ (wr _ (e3.append r5))⟩
      · simp only [if_neg c] at q4; exact q4.elim
    | none => exact q4.elim
    | bool _ => exact q4.elim
    | str _ => exact q4.elim
    | int _ => exact q4.elim
    | tuple _ => exact q4.elim
    | dict _ => exact q4.elim
end
/-! ### all, any, sum, min, max -/
def boolsOf : List D → Option (List Bool)
  | [] => some []
  | .bool b :: r => match boolsOf r with
    | some l => some (b :: l)
    | none => none
  | _ => none
def intsOf : List D → Option (List Int)
  | [] => some []
  | .int b :: r => match intsOf r with
    | some l => some (b :: l)
    | none => none
  | _ => none
theorem boolsOf_map : ∀ {l : List D} {bs : List Bool}, boolsOf l = some bs → l = bs.map PyData.bool
  | [], _, h => by simp only [boolsOf] at h; cases h; rfl
  | d :: r, bs, h => by
    unfold boolsOf at h
    split at h
    · rename_i e; cases e
    · rename_i b r' e
      cases e
      split at h
      · rename_i l hl
        cases h
        rw [boolsOf_map hl]; rfl
      · cases h
    · cases h
theorem intsOf_map : ∀ {l : List D} {bs : List Int}, intsOf l = some bs → l = bs.map PyData.int
  | [], _, h => by simp only [intsOf] at h; cases h; rfl
  | d :: r, bs, h => by
    unfold intsOf at h
    split at h
    · rename_i e; cases e
    · rename_i b r' e
      cases e
      split at h
      · rename_i l hl
        cases h
        rw [intsOf_map hl]; rfl
      · cases h
    · cases h
@[simp] theorem boolsOf_of : ∀ bs : List Bool, boolsOf (bs.map PyData.bool) = some bs
  | [] => rfl
  | b :: bs => by simp only [List.map_cons, boolsOf, boolsOf_of bs]
@[simp] theorem intsOf_of : ∀ bs : List Int, intsOf (bs.map PyData.int) = some bs
  | [] => rfl
  | b :: bs => by simp only [List.map_cons, intsOf, intsOf_of bs]
def allB : List D → Option D
  | [.list l] => (boolsOf l).map fun bs => .bool (bs.all id)
  | _ => none
def anyB : List D → Option D
  | [.list l] => (boolsOf l).map fun bs => .bool (bs.any id)
  | _ => none
def sumB : List D → Option D
  | [.list l] => (intsOf l).map fun bs => .int bs.sum
  | _ => none
section
variable {K : PySem.W.Frag}
theorem pn_all : PN K (rAll K) allB := fun F H xs ds z Q s h hz q => by
  unfold allB at hz
  split at hz
  · obtain ⟨bs, hb, rfl⟩ := Option.map_eq_some_iff.mp hz
    obtain ⟨v, rfl, rv⟩ := h.one
    obtain ⟨a, vs, rfl, q1, r1⟩ := rv.list s
    rw [boolsOf_map hb] at r1
    exact ⟨a, bs, rfl, .inl (by rw [← r1.bools]; exact q1), q _ F H (Fr.refl s) rep_bool⟩
  · cases hz
theorem pn_any : PN K (rAny K) anyB := fun F H xs ds z Q s h hz q => by
  unfold anyB at hz
  split at hz
  · obtain ⟨bs, hb, rfl⟩ := Option.map_eq_some_iff.mp hz
    obtain ⟨v, rfl, rv⟩ := h.one
    obtain ⟨a, vs, rfl, q1, r1⟩ := rv.list s
    rw [boolsOf_map hb] at r1
    exact ⟨a, bs, rfl, .inl (by rw [← r1.bools]; exact q1), q _ F H (Fr.refl s) rep_bool⟩
  · cases hz
theorem pn_sum : PN K (rSum K) sumB := fun F H xs ds z Q s h hz q => by
  unfold sumB at hz
  split at hz
  · obtain ⟨bs, hb, rfl⟩ := Option.map_eq_some_iff.mp hz
    obtain ⟨v, rfl, rv⟩ := h.one
    obtain ⟨a, vs, rfl, q1, r1⟩ := rv.list s
    rw [intsOf_map hb] at r1
    exact ⟨a, bs, rfl, .inl (by rw [← r1.ints]; exact q1), q _ F H (Fr.refl s) rep_int⟩
  · cases hz
end
/-! ### chains of comparisons -/
def dChain (p p' : D → D → Option D) (a b c : An) : Dn := fun ρ => (a ρ).bind fun h ρ1 => (b ρ1).bind fun k ρ2 =>
  (ans ((look ρ2 h).bind fun d => (look ρ2 k).bind fun e => p d e) ρ2).bind fun z ρ2 => match z with
  | .bool true => (c ρ2).bind fun m ρ3 => ans ((look ρ3 k).bind fun d => (look ρ3 m).bind fun e => p' d e) ρ3
  | .bool false => .ok (.bool false) ρ2
  | _ => .no
theorem p2_bool_Fr {K : PySem.W.Frag} {p : D → D → Option Bool} {F H : Hp} {x y : V} {d e : D} {b : Bool} {Q : VK} (s : Same F H) (h1 : RepB K F H d x) (h2 : RepB K F H e y) (hb : p d e = some b) (q : Q (.bl b) H) : rB K p x y H Q := ⟨d, e, b, h1.here s, h2.here s, hb, q⟩
section
variable {X : Cx} {W : Wt} {e e2 e3 : Expr} {a b c : An} {pos : Pos}
theorem chain_imp {p p' : D → D → Option Bool} {σ : Sg} {H : Hp} {Q : VK} (q : tE X.K W (dChain (toB p) (toB p') a b c) σ H Q) : tChain (rB X.K p) (rB X.K p') (tA X.K W a) (tA X.K W b) (tA X.K W c) σ H Q := by
  obtain ⟨ρ, F, s, q⟩ := q
  refine Af.bind s q fun h v ρ1 F1 H1 g1 r1 z1 => Af.bind g1.sr z1 fun k w ρ2 F2 H2 g2 r2 z2 => ?_
  cases ho : ((look ρ2 h).bind fun d => (look ρ2 k).bind fun e => toB p d e) with
  | none => rw [ho] at z2; exact z2.elim
  | some z =>
    rw [ho] at z2
    obtain ⟨x, hx, e1⟩ := Option.bind_eq_some_iff.mp ho
    obtain ⟨y, hy, e2⟩ := Option.bind_eq_some_iff.mp e1
    obtain ⟨b1, hb, rfl⟩ := Option.map_eq_some_iff.mp e2
    have rx := look_rep g2.sr (r1.mono g2.sub) hx
    have ry := look_rep g2.sr r2 hy
    refine p2_bool_Fr g2.sr.sub rx ry hb ⟨b1, rfl, ?_⟩
    cases b1 with
    | false => rw [if_neg Bool.false_ne_true]; exact z2.okk g2.sr rep_bool
    | true =>
      rw [if_pos rfl]
      have z2 : Af X.K W (RD X.K) ρ2 σ F2 H2 Q ((c ρ2).bind fun m ρ3 => ans ((look ρ3 k).bind fun d => (look ρ3 m).bind fun e => toB p' d e) ρ3) := z2
      refine Af.bind g2.sr z2 fun m u ρ3 F3 H3 g3 r3 z3 => ?_
      obtain ⟨z, e, q⟩ := ans_some z3
      obtain ⟨x', hx', e⟩ := Option.bind_eq_some_iff.mp e
      obtain ⟨y', hy', e⟩ := Option.bind_eq_some_iff.mp e
      obtain ⟨b2, hb2, rfl⟩ := Option.map_eq_some_iff.mp e
      exact p2_bool_Fr g3.sr.sub (look_rep g3.sr (r2.mono g3.sub) hx') (look_rep g3.sr r3 hy') hb2 (q.okk g3.sr rep_bool)
theorem de_chain {op op' : CmpOp} {p p' : D → D → Option Bool} (ho : OpR X (compareOp op) (rB X.K p)) (ho' : OpR X (compareOp op') (rB X.K p')) (ha : PE X e (tA X.K W a)) (hb : PE X e2 (tA X.K W b)) (hc : PE X e3 (tA X.K W c))
    (hm : lastMarks [op, op'] [e2, e3] = false := by with_unfolding_all rfl) : PE X (.Compare e [op, op'] [e2, e3] pos) (tE X.K W (dChain (toB p) (toB p') a b c)) := PE.imp (pe_chain ho ho' ha hb hc hm) fun _ _ _ q => chain_imp q
theorem dt_chain {op op' : CmpOp} {p p' : D → D → Option Bool} (ho : OpR X (compareOp op) (rB X.K p)) (ho' : OpR X (compareOp op') (rB X.K p')) (ha : PE X e (tA X.K W a)) (hb : PE X e2 (tA X.K W b)) (hc : PE X e3 (tA X.K W c))
    (hm : lastMarks [op, op'] [e2, e3] = false := by with_unfolding_all rfl) : PT X (.Compare e [op, op'] [e2, e3] pos) (tT X.K W (dTv (dChain (toB p) (toB p') a b c))) := PT.imp (pt_chain ho ho' ha hb hc hm) fun _ _ _ q => tv_imp (fun _ _ _ z => chain_imp z) q
end
/-! ### a comprehension to a name -/
section
variable {X : Cx} {W : Wt} {tg e : Expr} {d : Dn} {pos : Pos}
theorem setLc_imp {i : Nat} {te : TE} {d : Fn} (h : ∀ σ H Q, tF X.K W d σ H Q → te σ H Q) {D : Ends} {σ : Sg} {H : Hp} (q : tS X.K W (sSet i (dFz d)) D σ H) : tAsg te (gName i) D σ H := by
  obtain ⟨ρ, F, s, q⟩ := q
  exact h _ _ _ (fz_imp (AfS.bind s q fun c v ρ1 F1 H1 g r z => by
    by_cases hn : notIo ρ1 i = true
    · rw [if_pos hn] at z; exact z _ _ _ (g.sr.setV hn r)
    · rw [if_neg hn] at z; exact z.elim))
theorem newLc_imp {i : Nat} {te : TE} {d : Fn} (h : ∀ σ H Q, tF X.K W d σ H Q → te σ H Q) {D : Ends} {σ : Sg} {H : Hp} (q : tS X.K W (sNew i d) D σ H) : tAsg te (gName i) D σ H := by
  obtain ⟨ρ, F, s, q⟩ := q
  exact h _ _ _ (AfS.bindF s q fun m a ρ1 F1 H1 g o n no z => by
    by_cases hn : notIo ρ1 i = true
    · rw [if_pos hn] at z; exact z _ _ _ (g.setO hn o n no)
    · rw [if_neg hn] at z; exact z.elim)
theorem ds_setLc (i : Nat) {y : Str} {py : Pos} {elt iter : Expr} {ifs : List Expr} {scope : Scope} {spos : Pos} {src : In} {bd : Bd} {ts vs : List Nat} {tn : Tn} {de : Dn} (own : List (Str × Nat)) (hv : vs = own.map (·.2)) (hc : X.calm = true) (hN : X.N.Nodup) (hi : PI X tg iter (tI X.K W src)) (ok : BlkOk X.N X.env.scope scope own)
    (hg : ∃ g, (∀ (s : Shared) (H : Hp) (C : Addr) (cl : List (Str × Addr)) (fp : List Addr), PG (X.blk s H scope (compEnvC scope cl C X.env) fp) tg g) ∧ TgR X.K g bd ts) (sub : ∀ i ∈ ts, i ∈ vs)
    (ht : ∀ (s : Shared) (H : Hp) (C : Addr) (cl : List (Str × Addr)) (fp : List Addr), PTs (X.blk s H scope (compEnvC scope cl C X.env) fp) ifs (tT X.K ⟨W.xr, E0⟩ tn))
    (he : ∀ (s : Shared) (H : Hp) (C : Addr) (cl : List (Str × Addr)) (fp : List Addr), PE (X.blk s H scope (compEnvC scope cl C X.env) fp) elt (tE X.K ⟨W.xr, E0⟩ de))
    (hsw : swapsWith (.ListComp elt [⟨tg, iter, ifs, 0⟩] scope pos) (some (.Name y py)) spos.line X.env = pure true) (hy : X.N[i]? = some y := by rfl) (hyl : X.env.scope.names.lookup y = some .local := by rfl)
    (hs : ∀ x, foldedSetIterable iter X.env x = pure x := by intro _; rfl) :
    PS X (.Assign [.Name y py] (.ListComp elt [⟨tg, iter, ifs, 0⟩] scope pos) spos) (tS X.K W (sSet i (dFz (fComp src bd tn de vs)))) := by
  obtain ⟨g, hg, hr⟩ := hg
  subst hv
  exact PS.imp (ps_setLc hc hN hy hyl hsw hi ok hg ht he hs) fun _ _ _ q => setLc_imp (fun _ _ _ z => comp_imp hr sub z) q
theorem ds_newLc (i : Nat) {y : Str} {py : Pos} {elt iter : Expr} {ifs : List Expr} {scope : Scope} {spos : Pos} {src : In} {bd : Bd} {ts vs : List Nat} {tn : Tn} {de : Dn} (own : List (Str × Nat)) (hv : vs = own.map (·.2)) (hc : X.calm = true) (hN : X.N.Nodup) (hi : PI X tg iter (tI X.K W src)) (ok : BlkOk X.N X.env.scope scope own)
    (hg : ∃ g, (∀ (s : Shared) (H : Hp) (C : Addr) (cl : List (Str × Addr)) (fp : List Addr), PG (X.blk s H scope (compEnvC scope cl C X.env) fp) tg g) ∧ TgR X.K g bd ts) (sub : ∀ i ∈ ts, i ∈ vs)
    (ht : ∀ (s : Shared) (H : Hp) (C : Addr) (cl : List (Str × Addr)) (fp : List Addr), PTs (X.blk s H scope (compEnvC scope cl C X.env) fp) ifs (tT X.K ⟨W.xr, E0⟩ tn))
    (he : ∀ (s : Shared) (H : Hp) (C : Addr) (cl : List (Str × Addr)) (fp : List Addr), PE (X.blk s H scope (compEnvC scope cl C X.env) fp) elt (tE X.K ⟨W.xr, E0⟩ de))
    (hsw : swapsWith (.ListComp elt [⟨tg, iter, ifs, 0⟩] scope pos) (some (.Name y py)) spos.line X.env = pure true) (hy : X.N[i]? = some y := by rfl) (hyl : X.env.scope.names.lookup y = some .local := by rfl)
    (hs : ∀ x, foldedSetIterable iter X.env x = pure x := by intro _; rfl) :
    PS X (.Assign [.Name y py] (.ListComp elt [⟨tg, iter, ifs, 0⟩] scope pos) spos) (tS X.K W (sNew i (fComp src bd tn de vs))) := by
  obtain ⟨g, hg, hr⟩ := hg
  subst hv
  exact PS.imp (ps_setLc hc hN hy hyl hsw hi ok hg ht he hs) fun _ _ _ q => newLc_imp (fun _ _ _ z => comp_imp hr sub z) q
end
/-! ### targets of a block -/
def gAll : List Nat → TGs
  | [] => gNil
  | i :: is => gCons (gName i) (gAll is)
theorem tgr_n {K : PySem.W.Frag} (i : Nat) : TgR K (gName i) (bN i) [i] := fun ρ σ F H v d ρ' Q s r h k => by
  unfold bN at h
  by_cases hn : notIo ρ i = true
  · rw [if_pos hn] at h; cases h
    exact k _ (s.setV hn r) ⟨List.length_set, fun j hj => List.getElem?_set_ne (by simpa using fun z : i = j => hj (by simp [z]))⟩
  · rw [if_neg hn] at h; cases h
theorem gAll_ok {K : PySem.W.Frag} : ∀ (is : List Nat) ρ σ F H vs ds ρ' (Q : Sg → Hp → Prop), SR K ρ σ F H → Reps K F ds vs → bindAll is ds ρ = some ρ' → (∀ σ', Go K ρ σ F H ρ' σ' F H → Kp is σ σ' → Q σ' H) → gAll is vs σ H Q
  | [], ρ, σ, F, H, vs, ds, ρ', Q, s, r, h, k => by
    cases ds with
    | nil => cases h; exact ⟨reps_nil.mp r, k _ (Go.refl s) ⟨rfl, fun j hj => rfl⟩⟩
    | cons d ds => cases h
  | i :: is, ρ, σ, F, H, vs, ds, ρ', Q, s, r, h, k => by
    cases ds with
    | nil => cases h
    | cons d ds =>
      obtain ⟨v, w, rfl, r1, r2⟩ := reps_cons.mp r
      unfold bindAll at h
      by_cases hn : notIo ρ i = true
      · rw [if_pos hn] at h
        have g1 := s.setV hn r1
        exact ⟨v, w, rfl, gAll_ok is _ _ _ _ _ _ _ _ g1.sr r2 h fun σ' g2 kp => k σ' (g1.trans g2) ⟨by rw [kp.1, List.length_set], fun j hj => by
          rw [kp.2 j (fun z => hj (List.mem_cons_of_mem _ z)), List.getElem?_set_ne (fun z : i = j => hj (by simp [z]))]⟩⟩
      · rw [if_neg hn] at h; cases h
theorem bindAll_len : ∀ (is : List Nat) (ds : List D) (ρ ρ' : Rho), bindAll is ds ρ = some ρ' → is.length = ds.length
  | [], [], _, _, _ => rfl
  | [], _ :: _, _, _, h => by cases h
  | _ :: _, [], _, _, h => by cases h
  | i :: is, d :: ds, ρ, ρ', h => by
    unfold bindAll at h
    by_cases hn : notIo ρ i = true
    · rw [if_pos hn] at h; rw [List.length_cons, List.length_cons, bindAll_len is ds _ _ h]
    · rw [if_neg hn] at h; cases h
theorem tgr_t {K : PySem.W.Frag} {n : Nat} (is : List Nat) (hl : is.length = n) : TgR K (gTup K n (gAll is)) (bT is) is := fun ρ σ F H v d ρ' Q s r h k => by
  cases d with
  | tuple ds =>
    simp only [Rep] at r
    obtain ⟨a, vs, rfl, q, r⟩ := r
    exact ⟨a, vs, rfl, SqT.of (s.sub _ _ q), by rw [← r.length, ← bindAll_len is ds ρ _ h, hl], gAll_ok is _ _ _ _ _ _ _ _ s r h k⟩
  | none => cases h
  | bool _ => cases h
  | int _ => cases h
  | str _ => cases h
  | list _ => cases h
  | dict _ => cases h
end Ft
/-! Ft9: names of either kind; defs by name. -/
namespace Ft
open PySem L2 PySem.Spec PyProof.Rows
/-- a name: its tree; an own object of mine is frozen -/
def dV (i : Nat) : Dn := fun ρ => match ρ[i]? with
  | some (.val d) => .ok d ρ
  | some (.own m true) => .ok m.toD (ρ.set i (.val m.toD))
  | _ => .no
/-- a name as an operand: its tree, or the own object -/
def aV (i : Nat) : An := fun ρ => match ρ[i]? with
  | some (.val d) => .ok (.v d) ρ
  | some (.own _ _) => .ok (.s i) ρ
  | _ => .no
section
variable {X : Cx} {W : Wt} {pos : Pos}
theorem de_v (i : Nat) {x : Str} (hN : X.N[i]? = some x := by rfl) (hv : Vis X.env.scope x := by first | exact Or.inl rfl | exact Or.inr (Or.inl rfl) | exact Or.inr (Or.inr rfl)) (hd : (x == ("__debug__" : Str)) = false := by decide)
    (hcd : (x == ("__classdict__" : Str)) = false := by decide) : PE X (.Name x pos) (tE X.K W (dV i)) := PE.imp (pe_var hN hv hd hcd) fun σ H Q ⟨ρ, F, s, q⟩ => by
  cases hr : ρ[i]? with
  | none => simp only [dV, hr] at q; exact q.elim
  | some l =>
    cases l with
    | un => simp only [dV, hr] at q; exact q.elim
    | val d =>
      simp only [dV, hr] at q
      obtain ⟨a, h1, h2⟩ := s.val i d hr
      exact ⟨_, h1, q.okk s h2⟩
    | own m b =>
      cases b with
      | false => simp only [dV, hr] at q; exact q.elim
      | true =>
        simp only [dV, hr] at q
        obtain ⟨a, F', h1, h2, g⟩ := s.mov hr
        exact ⟨_, h1, q _ _ _ g h2⟩
theorem da_v (i : Nat) {x : Str} (hN : X.N[i]? = some x := by rfl) (hv : Vis X.env.scope x := by first | exact Or.inl rfl | exact Or.inr (Or.inl rfl) | exact Or.inr (Or.inr rfl)) (hd : (x == ("__debug__" : Str)) = false := by decide)
    (hcd : (x == ("__classdict__" : Str)) = false := by decide) : PE X (.Name x pos) (tA X.K W (aV i)) := PE.imp (pe_var hN hv hd hcd) fun σ H Q ⟨ρ, F, s, q⟩ => by
  cases hr : ρ[i]? with
  | none => simp only [aV, hr] at q; exact q.elim
  | some l =>
    cases l with
    | un => simp only [aV, hr] at q; exact q.elim
    | val d =>
      simp only [aV, hr] at q
      obtain ⟨a, h1, h2⟩ := s.val i d hr
      exact ⟨_, h1, q.okk s h2⟩
    | own m b =>
      simp only [aV, hr] at q
      obtain ⟨a, h1, h2⟩ := s.own i m b hr
      exact ⟨_, h1, q.okk s h1⟩
end
/-- a def of the top: where it stands -/
structure Df (K : PySem.W.Frag) (mg : Str → Option Value) (x : Str) (st : Stmt) : Prop where
  ex : ∃ (f : Addr) (fd : FuncData), Fun K x x st f fd ∧ mg x = some (.ref f) ∧ PySem.W.keepIn K (.ref f) = true
/-- a def by its name, with what it computes -/
structure Cl (P : Program) (w : World) (K : PySem.W.Frag) (mg : Str → Option Value) (base : Heap) (k : Nat) (x : Str) (n : Nat) (xr : XR) (g : Cn) : Prop where
  ex : ∃ (f : Addr) (fd : FuncData) (ps : List Str), FnOk P w K mg base (L2.CX P w) k f fd ps (SpOf K xr n g) ∧ mg x = some (.ref f) ∧ PySem.W.keepIn K (.ref f) = true ∧ Binds K fd ps []
section
variable {P : Program} {w : World} {K : PySem.W.Frag} {mg : Str → Option Value} {base : Heap}
theorem cl_of {xr : XR} {x : Str} {st : Stmt} {N ps : List Str} {k n m : Nat} {body : Sn} (d : Df K mg x st) (S : FnScope N ps (defScope st)) (hp : ps.length = n) (hN : N.length = m) (hnm : n ≤ m)
    (hb : ∀ (f : Addr) (fd : FuncData), Fun K x x st f fd → Binds K fd ps [])
    (hbody : ∀ (f : Addr) (cdv : Value) (A : Around) (outer : List Env) (s : Shared) (H : Hp) (E : XK), Room k (A.deeper (envOfC x (defScope st) s.heap.objs.size f cdv)) →
      PSs (cxOf (L2.CX P w) P w K mg base N x (defScope st) f cdv A outer s H E) (defBody st) (tS K ⟨xr, E⟩ body)) : Cl P w K mg base (k + 1) x n xr (fn n m body) := by
  obtain ⟨f, fd, F, h1, h2⟩ := d.ex
  exact ⟨f, fd, ps, def_ok F S hp hN hnm (hbody f), h1, h2, hb f fd F⟩
end
section
variable {X : Cx} {W : Wt} {k : Nat} {x : Str} {p pos : Pos} {e : Expr} {es : List Expr} {a : Ans} {g : Cn} {n : Nat}
theorem de_cl (c : Cl X.prog X.w X.K X.mg X.base k x n W.xr g) (hr : Room k X.A) (hx : Passes (L2.CX X.prog X.w) X W.E)
    (ha : PA X (e :: es) (tAs X.K W a)) (hn : aLen a n) (hg : Gl X x := by rfl) (hdb : (x == ("__debug__" : Str)) = false := by decide) (he : starEach (e :: es) X.env = (false, eval e X.env) :: starEach es X.env := by rfl) (hpl : (backTo pos (starEach es X.env)).any (·.1) = false := by rfl) :
    PE X (.Call (.Name x p) (e :: es) [] pos) (tE X.K W (dCall g a)) := by
  obtain ⟨f, fd, ps, h1, h2, h3, h4⟩ := c.ex
  exact de_call h1 hr h2 h3 h4 hx ha hn hg hdb he hpl
theorem df_cl (c : Cl X.prog X.w X.K X.mg X.base k x n W.xr g) (hr : Room k X.A) (hx : Passes (L2.CX X.prog X.w) X W.E)
    (ha : PA X (e :: es) (tAs X.K W a)) (hn : aLen a n) (hg : Gl X x := by rfl) (hdb : (x == ("__debug__" : Str)) = false := by decide) (he : starEach (e :: es) X.env = (false, eval e X.env) :: starEach es X.env := by rfl) (hpl : (backTo pos (starEach es X.env)).any (·.1) = false := by rfl) :
    PE X (.Call (.Name x p) (e :: es) [] pos) (tF X.K W (fCall g a)) := by
  obtain ⟨f, fd, ps, h1, h2, h3, h4⟩ := c.ex
  exact df_call h1 hr h2 h3 h4 hx ha hn hg hdb he hpl
theorem df_cl0 (c : Cl X.prog X.w X.K X.mg X.base k x 0 W.xr g) (hr : Room k X.A) (hx : Passes (L2.CX X.prog X.w) X W.E)
    (hg : Gl X x := by rfl) (hdb : (x == ("__debug__" : Str)) = false := by decide) : PE X (.Call (.Name x p) [] [] pos) (tF X.K W (fCall g aNil)) := by
  obtain ⟨f, fd, ps, h1, h2, h3, h4⟩ := c.ex
  exact df_call0 h1 hr h2 h3 h4 hx hg hdb
theorem de_cl0 (c : Cl X.prog X.w X.K X.mg X.base k x 0 W.xr g) (hr : Room k X.A) (hx : Passes (L2.CX X.prog X.w) X W.E)
    (hg : Gl X x := by rfl) (hdb : (x == ("__debug__" : Str)) = false := by decide) : PE X (.Call (.Name x p) [] [] pos) (tE X.K W (dCall g aNil)) := by
  obtain ⟨f, fd, ps, h1, h2, h3, h4⟩ := c.ex
  exact de_call0 h1 hr h2 h3 h4 hx hg hdb
end
section
variable {P : Program} {w : World} {K : PySem.W.Frag} {mg : Str → Option Value} {base : Heap} {N : List Str} {x : Str} {sc : Scope} {f : Addr} {cdv : Value} {A : Around} {outer : List Env} {s : Shared} {H : Hp} {E : XK}
theorem px : Passes (L2.CX P w) (cxOf (L2.CX P w) P w K mg base N x sc f cdv A outer s H E) E := passes_call (takes_of rfl rfl rfl rfl) (fun _ _ _ _ h => h)
theorem po : PassesOwn (model P w) (cxOf (L2.CX P w) P w K mg base N x sc f cdv A outer s H E).A (cxOf (L2.CX P w) P w K mg base N x sc f cdv A outer s H E).env (cxOf (L2.CX P w) P w K mg base N x sc f cdv A outer s H E).xe := passes_of rfl
/-- nothing is promised of a call that is deeper than it was told -/
theorem cl_no {xr : XR} {st : Stmt} {N ps : List Str} {k n : Nat} (d : Df K mg x st) (S : FnScope N ps (defScope st)) (hp : ps.length = n) (hb : ∀ (f : Addr) (fd : FuncData), Fun K x x st f fd → Binds K fd ps []) : Cl P w K mg base (k + 1) x n xr (fun _ => .no) := by
  obtain ⟨f, fd, F, h1, h2⟩ := d.ex
  exact ⟨f, fd, ps, F.okX S (fun vs H Q E h => h.1.trans hp.symm) fun cdv A outer s H vs Q E hr h => by obtain ⟨_, F', ins, _, z⟩ := h; exact z.elim, h1, h2, hb f fd F⟩
theorem df_mk {st : Stmt} {h : Heap} {oc : Value} {od an : Option Addr} {osl : Array (Option Value)} {kV doc pm cdv ct : Value} (X : K.In h) (G : h.Ns mainGlobals mg) (a : PySem.W.nsIn K mainGlobals x = some (some (.ref f)))
    (l : K.lookup f = some ⟨oc, od, .func (PySem.W.fnOf x x (defArgs st) (defBody st) (defScope st) .none kV doc pm an cdv ct), osl⟩) (c : PySem.W.codeIn K cdv x = true) (k : PySem.W.keepIn K (.ref f) = true) : Df K mg x st :=
  ⟨f, _, fun_mk l c k, PySem.W.mg_of X G a, k⟩
end
/-- what a law promises: True of each list of at most 63 ints -/
def spLaw (K : PySem.W.Frag) : Sp := fun vs H Q _ => ∃ (a : Addr) (ns : List Int), vs = [.ref a] ∧ SqL K H a (ns.map V.int) ∧ ns.length ≤ 63 ∧ ∀ H', Q (.bl true) H'
end Ft
/-! Ft10: the end of a law. -/
namespace Ft
open PySem L2 PySem.Spec PyProof.Rows
/-- no list among the objects that the top has written -/
def noL (K : PySem.W.Frag) : Bool := K.all fun p => match p.2.cls with
  | .type "list" => false
  | _ => true
theorem noL_at {K : PySem.W.Frag} (h : noL K = true) {a : Addr} {o : Obj} (e : K.lookup a = some o) : o.cls ≠ .type "list" := fun z => by
  have m : (a, o) ∈ K := PySem.W.mem_of_lookupK e
  have := List.all_eq_true.mp h _ m
  simp only [z] at this
  cases this
/-- the plain law -/
def LawP (g : Cn) : Prop := ∀ ns : List Int, ns.length ≤ 63 → (∀ z ∈ ns, Builtin.Int.intBits z ≤ 1048576) → g [.val (.list (ns.map PyData.int))] = .ok (.bool true) []
theorem sp_law {K : PySem.W.Frag} {xr : XR} {g : Cn} (h : LawP g) (nl : noL K = true) {H : Hp} {a : Addr} {ns : List Int} (hl : ns.length ≤ 63) (hb : ∀ z ∈ ns, Builtin.Int.intBits z ≤ 1048576) (hS : SqL K H a (ns.map V.int)) :
    SpOf K xr 1 g [.ref a] H (fun v _ => v = .bl true) fun _ _ _ => False := by
  have hR : Rd H a (.lst (ns.map V.int)) := by
    rcases hS with z | ⟨o, its, n, e, c, _⟩
    · exact z
    · exact absurd c (noL_at nl e)
  refine ⟨rfl, H, [.val (.list (ns.map PyData.int))], ⟨Same.refl _, rfl, fun i d e => ?_, fun i m b e => ?_, fun i j m1 b1 m2 b2 c e => ?_⟩, ?_⟩
  · match i, e with
    | 0, e => cases e; exact ⟨.ref a, rfl, by simp only [Rep]; exact ⟨a, _, rfl, hR, Reps.of_ints ns⟩⟩
    | i + 1, e => simp at e
  · match i, e with
    | 0, e => cases e
    | i + 1, e => simp at e
  · match i, e with
    | 0, e => cases e
    | i + 1, e => simp at e
  · rw [h ns hl hb]
    exact ⟨_, rfl, fun v F' H' _ r => by simpa only [Rep] using r⟩
/-- the law's own def: its promise, by its place and what it binds -/
theorem law_fn {P : Program} {w : World} {K : PySem.W.Frag} {mg : Str → Option Value} {fa : Addr} {xr : XR} {st : Stmt} {k : Nat} {g : Cn} (d : Df K mg "law" st) (hfa : mg "law" = some (.ref fa))
    (hb : ∀ (kV doc pm : Value) (an : Option Addr) (cdv ct : Value) (us : List Value), us.length = 1 → bindArgs (PySem.W.fnOf "law" "law" (defArgs st) (defBody st) (defScope st) .none kV doc pm an cdv ct) ⟨us, []⟩ = pure ((["script"] : List Str).zip us))
    (F : ∀ base : Heap, K.In base → base.Ns mainGlobals mg → ∀ (f : Addr) (fd : FuncData), Fun K "law" "law" st f fd → FnOk P w K mg base (L2.CX P w) k f fd ["script"] (SpOf K xr 1 g)) :
    ∃ fd : FuncData, (∀ (s : Shared) (v : Value), BindsTo s fd ⟨[v], []⟩ [("script", v)]) ∧ ∀ base : Heap, K.In base → base.Ns mainGlobals mg → FnOk P w K mg base (L2.CX P w) k fa fd ["script"] (SpOf K xr 1 g) := by
  obtain ⟨f, fd, Fx, h1, h2⟩ := d.ex
  cases hfa.symm.trans h1
  refine ⟨fd, fun s v => ?_, fun base h3 h4 => F base h3 h4 _ fd Fx⟩
  obtain ⟨oc, od, kV, doc, pm, an, cdv, ct, osl, rfl, lk, hcd⟩ := Fx.ex
  exact .of_eq (hb kV doc pm an cdv ct [v] rfl)
theorem walk_law {l : PySem.W.OpenLaw} {q : Program} {loose : List Str} {XP : (Str → Option Value) → Heap → Prop} {YP : World → Heap → Prop} {d : DefRec} {K : Params → PySem.W.Frag} {k : Nat} {g : Cn} {xr : XR} (hn : l.most = some 63) (hdf : d.params.defaults = []) (hr : Room k callerA)
    (hY : ∀ (w : World) (h : Heap), YP w h → (K w.params).In h) (nl : ∀ w : World, noL (K w.params) = true) (pl : LawP g)
    (F : ∀ (w : World) (mg : Str → Option Value) (fa : Addr) (h : Heap), (K w.params).In h → h.Ns mainGlobals mg → mg d.name = some (.ref fa) →
      ∃ fd : FuncData, (∀ (s : Shared) (u : Value), BindsTo s fd ⟨[u], []⟩ [("script", u)]) ∧ ∀ base : Heap, (K w.params).In base → base.Ns mainGlobals mg → FnOk l.prog w (K w.params) mg base (L2.CX l.prog w) k fa fd ["script"] (SpOf (K w.params) xr 1 g)) :
    PySem.W.WalkO q loose XP YP l.row.toRowW d [] (fun f vs => PySem.call f vs) :=
  L2.walk_ofB (n := 63) (k := k) (x := "script") (CX := fun w => L2.CX l.prog w) (sp := fun w => SpOf (K w.params) xr 1 g) hn (by decide) hdf hr hY F (fun w H a ns h1 h2 _ h4 => sp_law pl (nl w) h1 h2 h4) fun w H s e s' h => by
    obtain ⟨_, _, _, _, _, _, _, _, _, _, _, _, z⟩ := h
    exact z
end Ft
/-! Ft11: the combinators step by step (for simp only). -/
namespace Ft
open PySem L2
section
variable {α β : Type} {ρ ρ1 ρ' : Rho} {i j : Nat} {d e : Dn} {a b c : An} {as : Ans} {v : Vn} {t u : Tn} {s s2 : Sn} {x y z : D} {m : Mo} {l : List D}
theorem bind_ext {r : RE α} {f g : α → Rho → RE β} (h : ∀ a ρ, f a ρ = g a ρ) : r.bind f = r.bind g := by
  cases r with
  | ok a ρ => exact h a ρ
  | ex x ρ => rfl
  | no => rfl
theorem st_ext {r : RE α} {f g : α → Rho → RS} (h : ∀ a ρ, f a ρ = g a ρ) : r.st f = r.st g := by
  cases r with
  | ok a ρ => exact h a ρ
  | ex x ρ => rfl
  | no => rfl
theorem st'_ext {o : Option α} {f g : α → RS} (h : ∀ a, f a = g a) : st' o f = st' o g := by
  cases o with
  | none => rfl
  | some a => exact h a
theorem ev_bind {a : α} {f : α → Rho → RE β} : RE.bind (.ok a ρ) f = f a ρ := rfl
theorem ev_st {a : α} {f : α → Rho → RS} : RE.st (.ok a ρ) f = f a ρ := rfl
-- names
def lvV : Option LV → Nat → Rho → RE D
  | some (.val d), _, ρ => .ok d ρ
  | some (.own m true), i, ρ => .ok m.toD (ρ.set i (.val m.toD))
  | _, _, _ => .no
theorem ev_dV : dV i ρ = lvV (ρ[i]?) i ρ := by unfold dV lvV; cases ρ[i]? with | none => rfl | some l => cases l with | un => rfl | val _ => rfl | own _ b => cases b <;> rfl
theorem ev_lvV1 : lvV (some (.val x)) i ρ = .ok x ρ := rfl
theorem ev_lvV2 : lvV (some (.own m true)) i ρ = .ok m.toD (ρ.set i (.val m.toD)) := rfl
theorem ev_toD : Mo.toD (.lst l) = .list l := rfl
def lvA : Option LV → Nat → Rho → RE Hd
  | some (.val d), _, ρ => .ok (.v d) ρ
  | some (.own _ _), i, ρ => .ok (.s i) ρ
  | _, _, _ => .no
theorem ev_aV : aV i ρ = lvA (ρ[i]?) i ρ := by unfold aV lvA; cases ρ[i]? with | none => rfl | some l => cases l <;> rfl
theorem ev_lvA1 : lvA (some (.val x)) i ρ = .ok (.v x) ρ := rfl
theorem ev_lvA2 {k : Bool} : lvA (some (.own m k)) i ρ = .ok (.s i) ρ := rfl
def lvR : Option LV → Nat → Rho → RE Hd
  | some (.own _ _), i, ρ => .ok (.s i) ρ
  | _, _, _ => .no
theorem ev_aR : aR i ρ = lvR (ρ[i]?) i ρ := by unfold aR lvR; cases ρ[i]? with | none => rfl | some l => cases l <;> rfl
theorem ev_lvR {k : Bool} : lvR (some (.own m k)) i ρ = .ok (.s i) ρ := rfl
theorem ev_dC : dC x ρ = .ok x ρ := rfl
def mkV (x : D) (ρ : Rho) : RE Hd := .ok (.v x) ρ
theorem ev_aE : aE d ρ = (d ρ).bind mkV := rfl
theorem ev_mkV : mkV x ρ = .ok (.v x) ρ := rfl
theorem ev_aNil : aNil ρ = .ok [] ρ := rfl
def consK2 (h : Hd) (hs : List Hd) (ρ : Rho) : RE (List Hd) := .ok (h :: hs) ρ
def consK (t : Ans) (h : Hd) (ρ : Rho) : RE (List Hd) := (t ρ).bind (consK2 h)
theorem ev_aCons : aCons a as ρ = (a ρ).bind (consK as) := rfl
theorem ev_consK {h : Hd} : consK as h ρ = (as ρ).bind (consK2 h) := rfl
theorem ev_consK2 {h : Hd} {hs : List Hd} : consK2 h hs ρ = .ok (h :: hs) ρ := rfl
theorem ev_vNil : vNil ρ = .ok [] ρ := rfl
def vconsK2 (h : D) (hs : List D) (ρ : Rho) : RE (List D) := .ok (h :: hs) ρ
def vconsK (t : Vn) (h : D) (ρ : Rho) : RE (List D) := (t ρ).bind (vconsK2 h)
theorem ev_vCons : vCons d v ρ = (d ρ).bind (vconsK v) := rfl
theorem ev_vconsK {h : D} : vconsK v h ρ = (v ρ).bind (vconsK2 h) := rfl
theorem ev_vconsK2 {h : D} {hs : List D} : vconsK2 h hs ρ = .ok (h :: hs) ρ := rfl
-- what stands there
def lookK : Option LV → Option D
  | some (.own m _) => some m.toD
  | _ => none
theorem ev_look1 : look ρ (.v x) = some x := rfl
theorem ev_look2 : look ρ (.s i) = lookK (ρ[i]?) := by
  show (match ρ[i]? with | some (.own m _) => some m.toD | _ => none) = _
  unfold lookK
  cases ρ[i]? with
  | none => rfl
  | some l => cases l <;> rfl
theorem ev_lookK {k : Bool} : lookK (some (.own m k)) = some m.toD := rfl
def looksK : Option D → Option (List D) → Option (List D)
  | some d, some ds => some (d :: ds)
  | _, _ => none
theorem ev_looks0 : looks ρ [] = some [] := rfl
theorem ev_looks1 {h : Hd} {hs : List Hd} : looks ρ (h :: hs) = looksK (look ρ h) (looks ρ hs) := by
  show (match look ρ h with | some d => _ | none => none) = _
  unfold looksK
  cases look ρ h with
  | none => rfl
  | some d => cases looks ρ hs <;> rfl
theorem ev_looksK {ds : List D} : looksK (some x) (some ds) = some (x :: ds) := rfl
theorem ev_ob {a : α} {f : α → Option β} : Option.bind (some a) f = f a := rfl
theorem ev_om {a : α} {f : α → β} : Option.map f (some a) = some (f a) := rfl
theorem ev_ans {a : α} : ans (some a) ρ = .ok a ρ := rfl
-- operators
def op1K (p : D → Option D) (h : Hd) (ρ : Rho) : RE D := ans ((look ρ h).bind p) ρ
theorem ev_dOp1 {p : D → Option D} : dOp1 p a ρ = (a ρ).bind (op1K p) := rfl
theorem ev_op1K {p : D → Option D} {h : Hd} : op1K p h ρ = ans ((look ρ h).bind p) ρ := rfl
def ap2 (p : D → D → Option D) : Option D → Option D → Option D
  | some d, some e => p d e
  | _, _ => none
def op2L (p : D → D → Option D) (h k : Hd) (ρ : Rho) : RE D := ans (ap2 p (look ρ h) (look ρ k)) ρ
def op2K (p : D → D → Option D) (b : An) (h : Hd) (ρ : Rho) : RE D := (b ρ).bind (op2L p h)
theorem ev_dOp2 {p : D → D → Option D} : dOp2 p a b ρ = (a ρ).bind (op2K p b) := by
  unfold dOp2 op2K
  first | refine bind_ext fun h ρ1 => ?_ | refine st_ext fun h ρ1 => ?_
  first | refine bind_ext fun k ρ2 => ?_ | refine st_ext fun k ρ2 => ?_
  unfold op2L ap2
  cases look ρ2 h with
  | none => rfl
  | some d => cases look ρ2 k <;> rfl
theorem ev_op2K {p : D → D → Option D} {h : Hd} : op2K p b h ρ = (b ρ).bind (op2L p h) := rfl
theorem ev_op2L {p : D → D → Option D} {h k : Hd} : op2L p h k ρ = ans (ap2 p (look ρ h) (look ρ k)) ρ := rfl
theorem ev_ap2 {p : D → D → Option D} : ap2 p (some x) (some y) = p x y := rfl
def opNK (p : List D → Option D) (hs : List Hd) (ρ : Rho) : RE D := ans ((looks ρ hs).bind p) ρ
theorem ev_dOpN {p : List D → Option D} : dOpN p as ρ = (as ρ).bind (opNK p) := rfl
theorem ev_opNK {p : List D → Option D} {hs : List Hd} : opNK p hs ρ = ans ((looks ρ hs).bind p) ρ := rfl
def fopNK (p : List D → Option (List D)) (hs : List Hd) (ρ : Rho) : RE Mo := ans (((looks ρ hs).bind p).map Mo.lst) ρ
theorem ev_fOpN {p : List D → Option (List D)} : fOpN p as ρ = (as ρ).bind (fopNK p) := rfl
theorem ev_fopNK {p : List D → Option (List D)} {hs : List Hd} : fopNK p hs ρ = ans (((looks ρ hs).bind p).map Mo.lst) ρ := rfl
-- numbers
theorem ev_add {i j : Int} : addB (.int i) (.int j) = some (.int (i + j)) := rfl
theorem ev_sub {i j : Int} : subB (.int i) (.int j) = some (.int (i - j)) := rfl
theorem ev_neg {i : Int} : negB (.int i) = some (.int (-i)) := rfl
def Small (i : Int) : Prop := -18446744073709551616 < i ∧ i < 18446744073709551616
theorem ev_small {i : Int} : Small i ↔ (-18446744073709551616 < i ∧ i < 18446744073709551616) := ⟨fun h => h, fun h => h⟩
theorem ev_mul1 {i j : Int} (h : Small i) : mulB (.int i) (.int j) = some (.int (i * j)) := if_pos (by unfold Small at h; simp [h.1, h.2])
theorem ev_mul2 {i j : Int} (h : Small j) : mulB (.int i) (.int j) = some (.int (i * j)) := if_pos (by unfold Small at h; simp [h.1, h.2])
theorem ev_fdiv {i j : Int} (h : 0 < j) (h2 : j < 1073741824) : fdivB (.int i) (.int j) = some (.int (i / j)) := by
  show (if (decide (j ≠ 0) && decide (j.natAbs < 1073741824)) = true then some (PyData.int (i.fdiv j)) else none) = _
  rw [if_pos (by simp; omega), Int.fdiv_eq_ediv_of_nonneg _ (by omega)]
theorem ev_mod {i j : Int} (h : 0 < j) : modB (.int i) (.int j) = some (.int (i % j)) := by
  show (if decide (j ≠ 0) = true then some (PyData.int (i.fmod j)) else none) = _
  rw [if_pos (by simp; omega), Int.fmod_eq_emod_of_nonneg _ (by omega)]
theorem ev_eq {i j : Int} : toB eqB (.int i) (.int j) = some (.bool (decide (i = j))) := rfl
theorem ev_ne {i j : Int} : toB neB (.int i) (.int j) = some (.bool (!decide (i = j))) := rfl
theorem ev_lt {i j : Int} : toB ltB (.int i) (.int j) = some (.bool (decide (i < j))) := rfl
theorem ev_gt {i j : Int} : toB gtB (.int i) (.int j) = some (.bool (decide (j < i))) := rfl
theorem ev_le {i j : Int} : toB leB (.int i) (.int j) = some (.bool (decide (i ≤ j))) := rfl
theorem ev_ge {i j : Int} : toB geB (.int i) (.int j) = some (.bool (decide (j ≤ i))) := rfl
theorem ev_eqb {i j : Bool} : toB eqB (.bool i) (.bool j) = some (.bool (i == j)) := by cases i <;> cases j <;> rfl
theorem ev_neb {i j : Bool} : toB neB (.bool i) (.bool j) = some (.bool (i != j)) := by cases i <;> cases j <;> rfl
theorem ev_isB : isB x .none = some (.bool (isNone x)) := rfl
theorem ev_isNotB : isNotB x .none = some (.bool (!isNone x)) := rfl
theorem ev_isi {f : D → Bool} : isiB f x = some (.bool (f x)) := rfl
theorem ev_len1 : lenB [.list l] = some (.int (l.length : Int)) := rfl
theorem ev_len2 : lenB [.tuple l] = some (.int (l.length : Int)) := rfl
theorem ev_int1 {i : Int} : intB [.int i] = some (.int i) := rfl
theorem ev_tup1 : tupB [.list l] = some (.tuple l) := rfl
theorem ev_tup2 : tupB [.tuple l] = some (.tuple l) := rfl
theorem ev_lst1 : lstB [.list l] = some l := rfl
theorem ev_lst2 : lstB [.tuple l] = some l := rfl
theorem ev_ix1 {i : Int} : ixB (.list l) (.int i) = atI l i := rfl
theorem ev_ix2 {i : Int} : ixB (.tuple l) (.int i) = atI l i := rfl
theorem atI_nat {l : List α} {n : Nat} : atI l (n : Int) = l[n]? := by
  unfold atI ixN
  by_cases h : n < l.length
  · simp [h]
  · simp [h]
theorem ev_at0 {a : α} {l : List α} : atI (a :: l) 0 = some a := atI_nat (n := 0)
theorem ev_at1 {a b : α} {l : List α} : atI (a :: b :: l) 1 = some b := atI_nat (n := 1)
theorem ev_at2 {a b c : α} {l : List α} : atI (a :: b :: c :: l) 2 = some c := atI_nat (n := 2)
theorem ev_at3 {a b c d : α} {l : List α} : atI (a :: b :: c :: d :: l) 3 = some d := atI_nat (n := 3)
theorem ev_at4 {a b c d e : α} {l : List α} : atI (a :: b :: c :: d :: e :: l) 4 = some e := atI_nat (n := 4)
theorem ev_at5 {a b c d e f : α} {l : List α} : atI (a :: b :: c :: d :: e :: f :: l) 5 = some f := atI_nat (n := 5)
theorem atI_last {l : List α} (h : l ≠ []) : atI l (-1) = some (l.getLast h) := by
  unfold atI ixN
  have : 0 < l.length := List.length_pos_iff.mpr h
  rw [if_neg (by omega), if_pos (by omega)]
  have e : ((-1 : Int) + (l.length : Int)).toNat = l.length - 1 := by omega
  simp only [Option.bind_some, e]
  rw [List.getLast_eq_getElem, List.getElem?_eq_getElem (by omega)]
theorem atI_get {l : List α} {i : Int} {a : α} (h0 : 0 ≤ i) (h : l[i.toNat]? = some a) : atI l i = some a := by
  have := atI_nat (l := l) (n := i.toNat)
  rw [show ((i.toNat : Nat) : Int) = i by omega] at this
  rw [this, h]
-- tests
def tvK : D → Rho → RE Bool
  | .bool b, ρ => .ok b ρ
  | _, _ => .no
theorem ev_dTv : dTv d ρ = (d ρ).bind tvK := by unfold dTv; refine bind_ext fun x ρ1 => ?_; cases x <;> rfl
theorem ev_tvK {b : Bool} : tvK (.bool b) ρ = .ok b ρ := rfl
def notK (b : Bool) (ρ : Rho) : RE Bool := .ok (!b) ρ
theorem ev_tnNot : tnNot t ρ = (t ρ).bind notK := rfl
theorem ev_notK {b : Bool} : notK b ρ = .ok (!b) ρ := rfl
def andK (u : Tn) (b : Bool) (ρ : Rho) : RE Bool := if b = true then u ρ else .ok false ρ
theorem ev_tnAnd : tnAnd t u ρ = (t ρ).bind (andK u) := rfl
theorem ev_andT : andK u true ρ = u ρ := rfl
theorem ev_andF : andK u false ρ = .ok false ρ := rfl
def orK (u : Tn) (b : Bool) (ρ : Rho) : RE Bool := if b = true then .ok true ρ else u ρ
theorem ev_tnOr : tnOr t u ρ = (t ρ).bind (orK u) := rfl
theorem ev_orT : orK u true ρ = .ok true ρ := rfl
theorem ev_orF : orK u false ρ = u ρ := rfl
theorem ev_tnYes : tnYes ρ = .ok true ρ := rfl
def dandK (u : Dn) (b : Bool) (ρ : Rho) : RE D := if b = true then u ρ else .ok (.bool false) ρ
theorem ev_dAnd : dAnd d e ρ = (dTv d ρ).bind (dandK e) := rfl
theorem ev_dandT : dandK d true ρ = d ρ := rfl
theorem ev_dandF : dandK d false ρ = .ok (.bool false) ρ := rfl
def dorK (u : Dn) (b : Bool) (ρ : Rho) : RE D := if b = true then .ok (.bool true) ρ else u ρ
theorem ev_dOr : dOr d e ρ = (dTv d ρ).bind (dorK e) := rfl
theorem ev_dorT : dorK d true ρ = .ok (.bool true) ρ := rfl
theorem ev_dorF : dorK d false ρ = d ρ := rfl
def dnotK (b : Bool) (ρ : Rho) : RE D := .ok (.bool (!b)) ρ
theorem ev_dNot : dNot d ρ = (dTv d ρ).bind dnotK := rfl
theorem ev_dnotK {b : Bool} : dnotK b ρ = .ok (.bool (!b)) ρ := rfl
def difK (d e : Dn) (b : Bool) (ρ : Rho) : RE D := if b = true then d ρ else e ρ
theorem ev_dIf : dIf t d e ρ = (t ρ).bind (difK d e) := rfl
theorem ev_difT : difK d e true ρ = d ρ := rfl
theorem ev_difF : difK d e false ρ = e ρ := rfl
-- displays
def tupK (l : List D) (ρ : Rho) : RE D := ans (if l.length ≤ sizeLine then some (.tuple l) else none) ρ
theorem ev_dTup : dTup v ρ = (v ρ).bind tupK := rfl
theorem ev_tupK (h : l.length ≤ 1000) : tupK l ρ = .ok (.tuple l) ρ := by unfold tupK; rw [if_pos (Nat.le_trans h (by decide))]; rfl
def lstK (l : List D) (ρ : Rho) : RE Mo := ans (if l.length ≤ sizeLine then some (.lst l) else none) ρ
theorem ev_fLst : fLst v ρ = (v ρ).bind lstK := rfl
theorem ev_lstK (h : l.length ≤ 1000) : lstK l ρ = .ok (.lst l) ρ := by unfold lstK; rw [if_pos (Nat.le_trans h (by decide))]; rfl
def fzK (m : Mo) (ρ : Rho) : RE D := .ok m.toD ρ
theorem ev_dFz {f : Fn} : dFz f ρ = (f ρ).bind fzK := rfl
theorem ev_fzK : fzK m ρ = .ok m.toD ρ := rfl
-- slices
theorem ev_oNone : oNone ρ = .ok none ρ := rfl
def osK : D → Rho → RE (Option Int)
  | .int i, ρ => .ok (some i) ρ
  | _, _ => .no
theorem ev_oSome : oSome d ρ = (d ρ).bind fun x ρ' => match x with | .int i => .ok (some i) ρ' | _ => .no := rfl
def slK2 (h : Hd) (i : Option Int) (j : Option Int) (ρ : Rho) : RE D := ans ((look ρ h).bind fun d => slB d i j) ρ
def slK1 (hi : On) (h : Hd) (i : Option Int) (ρ : Rho) : RE D := (hi ρ).bind (slK2 h i)
def slK0 (lo hi : On) (h : Hd) (ρ : Rho) : RE D := (lo ρ).bind (slK1 hi h)
theorem ev_dSl {lo hi : On} : dSl a lo hi ρ = (a ρ).bind (slK0 lo hi) := rfl
theorem ev_slK0 {lo hi : On} {h : Hd} : slK0 lo hi h ρ = (lo ρ).bind (slK1 hi h) := rfl
theorem ev_slK1 {hi : On} {h : Hd} {k : Option Int} : slK1 hi h k ρ = (hi ρ).bind (slK2 h k) := rfl
theorem ev_slK2 {h : Hd} {k k2 : Option Int} : slK2 h k k2 ρ = ans ((look ρ h).bind fun d => slB d k k2) ρ := rfl
-- statements
def seqR : RS → Sn → RS
  | .next ρ, b => b ρ
  | r, _ => r
theorem ev_sSeq : sSeq s s2 ρ = seqR (s ρ) s2 := by unfold sSeq seqR; cases s ρ <;> rfl
theorem ev_seqN : seqR (.next ρ) s = s ρ := rfl
theorem ev_seqR : seqR (.ret x ρ) s = .ret x ρ := rfl
theorem ev_seqB : seqR (.brk ρ) s = .brk ρ := rfl
theorem ev_seqC : seqR (.cnt ρ) s = .cnt ρ := rfl
theorem ev_sSkip : sSkip ρ = .next ρ := rfl
def sifK (a b : Sn) (c : Bool) (ρ : Rho) : RS := if c = true then a ρ else b ρ
theorem ev_sIf : sIf t s s2 ρ = (t ρ).st (sifK s s2) := rfl
theorem ev_sifT : sifK s s2 true ρ = s ρ := rfl
theorem ev_sifF : sifK s s2 false ρ = s2 ρ := rfl
def nioK : Option LV → Bool
  | some (.val _) => true
  | some .un => true
  | some (.own _ true) => true
  | _ => false
theorem ev_notIo : notIo ρ i = nioK (ρ[i]?) := by unfold notIo nioK; cases ρ[i]? with | none => rfl | some l => cases l with | un => rfl | val _ => rfl | own _ b => cases b <;> rfl
theorem ev_nio1 : nioK (some (.val x)) = true := rfl
theorem ev_nio2 : nioK (some .un) = true := rfl
theorem ev_nio3 : nioK (some (.own m true)) = true := rfl
def putK2 (b : Bool) (i : Nat) (v : LV) (ρ : Rho) : RS := if b = true then .next (ρ.set i v) else .no
theorem ev_putK : putK2 true i (.val x) ρ = .next (ρ.set i (.val x)) := rfl
theorem ev_putO : putK2 true i (.own m true) ρ = .next (ρ.set i (.own m true)) := rfl
def setK (i : Nat) (x : D) (ρ : Rho) : RS := putK2 (notIo ρ i) i (.val x) ρ
theorem ev_sSet : sSet i d ρ = (d ρ).st (setK i) := rfl
theorem ev_setK : setK i x ρ = putK2 (notIo ρ i) i (.val x) ρ := rfl
def newK (i : Nat) (m : Mo) (ρ : Rho) : RS := putK2 (notIo ρ i) i (.own m true) ρ
theorem ev_sNew {f : Fn} : sNew i f ρ = (f ρ).st (newK i) := rfl
theorem ev_newK : newK i m ρ = putK2 (notIo ρ i) i (.own m true) ρ := rfl
def retK (x : D) (ρ : Rho) : RS := .ret x ρ
theorem ev_sRet : sRet d ρ = (d ρ).st retK := rfl
theorem ev_retK : retK x ρ = .ret x ρ := rfl
theorem ev_sRetN : sRetN ρ = .ret .none ρ := rfl
def retFK (m : Mo) (ρ : Rho) : RS := .new m ρ
theorem ev_sRetF {f : Fn} : sRetF f ρ = (f ρ).st retFK := rfl
theorem ev_retFK : retFK m ρ = .new m ρ := rfl
def exprK (_ : D) (ρ : Rho) : RS := .next ρ
theorem ev_sExpr : sExpr d ρ = (d ρ).st exprK := rfl
theorem ev_exprK : exprK x ρ = .next ρ := rfl
def forK (bd : Bd) (body : Sn) (l : List D) (ρ : Rho) : RS := forV bd body l ρ
theorem ev_sFor {src : In} {bd : Bd} : sFor src bd s ρ = (src ρ).st (forK bd s) := rfl
theorem ev_forK {bd : Bd} : forK bd s l ρ = forV bd s l ρ := rfl
theorem ev_for0 {bd : Bd} : forV bd s [] ρ = .next ρ := rfl
def iseqK (x : D) (ρ : Rho) : RE (List D) := ans (items x) ρ
theorem ev_iSeq : iSeq d ρ = (d ρ).bind iseqK := rfl
theorem ev_iseqK : iseqK x ρ = ans (items x) ρ := rfl
theorem ev_items1 : items (.list l) = some l := rfl
theorem ev_items2 : items (.tuple l) = some l := rfl
def ionK (f : List D → Option (List D)) (hs : List Hd) (ρ : Rho) : RE (List D) := ans ((looks ρ hs).bind f) ρ
theorem ev_iOn {f : List D → Option (List D)} : iOn f as ρ = (as ρ).bind (ionK f) := rfl
theorem ev_ionK {f : List D → Option (List D)} {hs : List Hd} : ionK f hs ρ = ans ((looks ρ hs).bind f) ρ := rfl
theorem ev_rng1 {j : Int} (h : j < 4611686018427387904) (h2 : -4611686018427387904 ≤ j) : rng1 [.int j] = some (rangeL 0 j) := if_pos ⟨h2, h⟩
theorem ev_rng2 {i j : Int} (h : j < 4611686018427387904) (h2 : -4611686018427387904 ≤ j) (h3 : i < 4611686018427387904) (h4 : -4611686018427387904 ≤ i) : rng2 [.int i, .int j] = some (rangeL i j) := if_pos ⟨h4, h3, h2, h⟩
theorem ev_bN : bN i x ρ = if notIo ρ i = true then some (ρ.set i (.val x)) else none := rfl
-- lists of this frame
def stxK {α : Type} (o : Option α) (f : α → RS) : RS := st' o f
def ownK : Option LV → Option (List D × Bool)
  | some (.own (.lst l) b) => some (l, b)
  | _ => none
theorem ev_ownL : ownL ρ i = ownK (ρ[i]?) := by
  unfold ownL ownK
  cases ρ[i]? with
  | none => rfl
  | some l => cases l with
    | un => rfl
    | val _ => rfl
    | own m b => cases m <;> rfl
theorem ev_ownK {k : Bool} : ownK (some (.own (.lst l) k)) = some (l, k) := rfl
theorem ev_st' {a : α} {f : α → RS} : st' (some a) f = f a := rfl
def sixK3 (i : Nat) (x y : D) (ρ : Rho) : Option (List D × Bool) → RS
  | some (l, b) => match y with
    | .int z => st' (ixN l.length z) fun j => .next (ρ.set i (.own (.lst (l.set j x)) b))
    | _ => .no
  | none => .no
def sixK2 (i : Nat) (x y : D) (ρ : Rho) : RS := sixK3 i x y ρ (ownL ρ i)
def sixK1 (i : Nat) (k : Dn) (x : D) (ρ : Rho) : RS := st' (ownL ρ i) fun _ => (k ρ).st (sixK2 i x)
theorem ev_sSetIx : sSetIx i d e ρ = (e ρ).st (sixK1 i d) := by
  unfold sSetIx sixK1
  first | refine bind_ext fun x ρ1 => ?_ | refine st_ext fun x ρ1 => ?_
  refine st'_ext fun _ => ?_
  first | refine bind_ext fun y ρ2 => ?_ | refine st_ext fun y ρ2 => ?_
  unfold sixK2 sixK3
  cases ownL ρ2 i with
  | none => rfl
  | some p => rfl
theorem ev_sixK1 : sixK1 i d x ρ = st' (ownL ρ i) fun _ => (d ρ).st (sixK2 i x) := rfl
theorem ev_sixK2 : sixK2 i x y ρ = sixK3 i x y ρ (ownL ρ i) := rfl
theorem ev_sixK3 {k : Bool} {z : Int} : sixK3 i x (.int z) ρ (some (l, k)) = st' (ixN l.length z) fun j => .next (ρ.set i (.own (.lst (l.set j x)) k)) := rfl
theorem ev_ixN50 : ixN 5 0 = some 0 := rfl
theorem ev_ixN51 : ixN 5 1 = some 1 := rfl
theorem ev_ixN52 : ixN 5 2 = some 2 := rfl
theorem ev_ixN53 : ixN 5 3 = some 3 := rfl
theorem ev_ixN54 : ixN 5 4 = some 4 := rfl
theorem ixN_nat {n m : Nat} (h : m < n) : ixN n (m : Int) = some m := by unfold ixN; simp [h]
def appK2 (i : Nat) (x : D) (ρ : Rho) : Option (List D × Bool) → RS
  | some (l, b) => if l.length < sizeLine then .next (ρ.set i (.own (.lst (l ++ [x])) b)) else .no
  | none => .no
def appK1 (i : Nat) (x : D) (ρ : Rho) : RS := appK2 i x ρ (ownL ρ i)
theorem ev_sApp : sApp i d ρ = st' (ownL ρ i) fun _ => (d ρ).st (appK1 i) := by
  unfold sApp
  refine st'_ext fun _ => ?_
  first | refine bind_ext fun x ρ1 => ?_ | refine st_ext fun x ρ1 => ?_
  unfold appK1 appK2
  cases ownL ρ1 i with
  | none => rfl
  | some p => rfl
theorem ev_appK1 : appK1 i x ρ = appK2 i x ρ (ownL ρ i) := rfl
theorem ev_appK2 {k : Bool} (h : l.length < 16000000) : appK2 i x ρ (some (l, k)) = .next (ρ.set i (.own (.lst (l ++ [x])) k)) := if_pos (Nat.lt_trans h (by decide))
-- several names
def asgR : Option Rho → RS
  | some ρ => .next ρ
  | none => .no
def asgK (bd : Bd) (x : D) (ρ : Rho) : RS := asgR (bd x ρ)
theorem ev_sAsg {bd : Bd} : sAsg bd d ρ = (d ρ).st (asgK bd) := by
  unfold sAsg
  first | refine bind_ext fun x ρ1 => ?_ | refine st_ext fun x ρ1 => ?_
  unfold asgK asgR
  cases bd x ρ1 <;> rfl
theorem ev_asgK {bd : Bd} : asgK bd x ρ = asgR (bd x ρ) := rfl
theorem ev_asgR : asgR (some ρ) = .next ρ := rfl
theorem ev_bT {is : List Nat} {ds : List D} : bT is (.tuple ds) ρ = bindAll is ds ρ := rfl
theorem ev_ba0 : bindAll [] [] ρ = some ρ := rfl
def baK (is : List Nat) (ds : List D) (i : Nat) (x : D) (ρ : Rho) : Bool → Option Rho
  | true => bindAll is ds (ρ.set i (.val x))
  | false => none
theorem ev_ba1 {is : List Nat} {ds : List D} : bindAll (i :: is) (x :: ds) ρ = baK is ds i x ρ (notIo ρ i) := by
  show (if notIo ρ i = true then bindAll is ds (ρ.set i (.val x)) else none) = _
  cases notIo ρ i <;> rfl
theorem ev_baK {is : List Nat} {ds : List D} : baK is ds i x ρ true = bindAll is ds (ρ.set i (.val x)) := rfl
-- chains
def chK4 (p : D → D → Option D) (k m : Hd) (ρ : Rho) : RE D := ans (ap2 p (look ρ k) (look ρ m)) ρ
def chK3 (p : D → D → Option D) (c : An) (k : Hd) : D → Rho → RE D
  | .bool true, ρ => (c ρ).bind (chK4 p k)
  | .bool false, ρ => .ok (.bool false) ρ
  | _, _ => .no
def chK2 (p p' : D → D → Option D) (c : An) (h k : Hd) (ρ : Rho) : RE D := (ans (ap2 p (look ρ h) (look ρ k)) ρ).bind (chK3 p' c k)
def chK1 (p p' : D → D → Option D) (b c : An) (h : Hd) (ρ : Rho) : RE D := (b ρ).bind (chK2 p p' c h)
theorem ap2_eq {p : D → D → Option D} {o o' : Option D} : (o.bind fun d => o'.bind fun e => p d e) = ap2 p o o' := by
  cases o with
  | none => rfl
  | some d => cases o' <;> rfl
theorem ev_dChain {p p' : D → D → Option D} : dChain p p' a b c ρ = (a ρ).bind (chK1 p p' b c) := by
  unfold dChain
  first | refine bind_ext fun h ρ1 => ?_ | refine st_ext fun h ρ1 => ?_
  unfold chK1
  first | refine bind_ext fun k ρ2 => ?_ | refine st_ext fun k ρ2 => ?_
  unfold chK2
  rw [ap2_eq]
  first | refine bind_ext fun z ρ3 => ?_ | refine st_ext fun z ρ3 => ?_
  unfold chK3
  cases z with
  | bool z =>
    cases z with
    | false => rfl
    | true =>
      simp only
      first | refine bind_ext fun m ρ4 => ?_ | refine st_ext fun m ρ4 => ?_
      unfold chK4
      rw [ap2_eq]
  | none => rfl
  | int _ => rfl
  | str _ => rfl
  | list _ => rfl
  | tuple _ => rfl
  | dict _ => rfl
theorem ev_chK1 {p p' : D → D → Option D} {h : Hd} : chK1 p p' b c h ρ = (b ρ).bind (chK2 p p' c h) := rfl
theorem ev_chK2 {p p' : D → D → Option D} {h k : Hd} : chK2 p p' c h k ρ = (ans (ap2 p (look ρ h) (look ρ k)) ρ).bind (chK3 p' c k) := rfl
theorem ev_chT {p : D → D → Option D} {k : Hd} : chK3 p c k (.bool true) ρ = (c ρ).bind (chK4 p k) := rfl
theorem ev_chF {p : D → D → Option D} {k : Hd} : chK3 p c k (.bool false) ρ = .ok (.bool false) ρ := rfl
theorem ev_chK4 {p : D → D → Option D} {k m : Hd} : chK4 p k m ρ = ans (ap2 p (look ρ k) (look ρ m)) ρ := rfl
-- extend, return of an own name, slices that are new
def extK2 (i : Nat) (x : D) (ρ : Rho) : Option (List D × Bool) → RS
  | some (l, b) => match x with
    | .list m => if l.length + m.length ≤ sizeLine then .next (ρ.set i (.own (.lst (l ++ m)) b)) else .no
    | _ => .no
  | none => .no
def extK1 (i : Nat) (x : D) (ρ : Rho) : RS := extK2 i x ρ (ownL ρ i)
theorem ev_sExt : sExt i d ρ = st' (ownL ρ i) fun _ => (d ρ).st (extK1 i) := by
  unfold sExt
  refine st'_ext fun _ => ?_
  first | refine bind_ext fun x ρ1 => ?_ | refine st_ext fun x ρ1 => ?_
  unfold extK1 extK2
  cases ownL ρ1 i with
  | none => rfl
  | some p => rfl
theorem ev_extK1 : extK1 i x ρ = extK2 i x ρ (ownL ρ i) := rfl
theorem ev_extK2 {k : Bool} {m : List D} (h : l.length + m.length ≤ 16000000) : extK2 i (.list m) ρ (some (l, k)) = .next (ρ.set i (.own (.lst (l ++ m)) k)) := if_pos (Nat.le_trans h (by decide))
def retMK (i : Nat) (ρ : Rho) : Option LV → RS
  | some (.own m true) => .new m (ρ.set i .un)
  | some (.val d) => .ret d ρ
  | _ => .no
theorem ev_sRetM : sRetM i ρ = retMK i ρ (ρ[i]?) := by
  unfold sRetM retMK
  cases ρ[i]? with
  | none => rfl
  | some l => cases l with
    | un => rfl
    | val _ => rfl
    | own _ b => cases b <;> rfl
theorem ev_retM1 : retMK i ρ (some (.own m true)) = .new m (ρ.set i .un) := rfl
theorem ev_retM2 : retMK i ρ (some (.val x)) = .ret x ρ := rfl
-- calls
def callR : RC → List LV → List Hd → Rho → RE D
  | .ok d outs, ins, hs, ρ => match (setOuts ins outs).bind fun l => putBack hs l ρ with
    | some ρ2 => .ok d ρ2
    | none => .no
  | .new m outs, ins, hs, ρ => match (setOuts ins outs).bind fun l => putBack hs l ρ with
    | some ρ2 => .ok m.toD ρ2
    | none => .no
  | .ex x outs, ins, hs, ρ => match (setOuts ins outs).bind fun l => putBack hs l ρ with
    | some ρ2 => .ex x ρ2
    | none => .no
  | .no, _, _, _ => .no
def callI (g : Cn) (hs : List Hd) (ρ : Rho) : Option (List LV) → RE D
  | some ins => callR (g ins) ins hs ρ
  | none => .no
def callK (g : Cn) (hs : List Hd) (ρ : Rho) : RE D := callI g hs ρ (if apartB hs = true then mkIns ρ hs else none)
theorem ev_dCall {g : Cn} : dCall g as ρ = (as ρ).bind (callK g) := by
  unfold dCall
  first | refine bind_ext fun hs ρ1 => ?_ | refine st_ext fun hs ρ1 => ?_
  unfold callK
  cases (if apartB hs = true then mkIns ρ1 hs else none) with
  | none => rfl
  | some ins =>
    show (match g ins with | .no => RE.no | .ok d outs => _ | .new m outs => _ | .ex x outs => _) = callR (g ins) ins hs ρ1
    cases g ins <;> rfl
theorem ev_callK {g : Cn} {hs : List Hd} : callK g hs ρ = callI g hs ρ (if apartB hs = true then mkIns ρ hs else none) := rfl
theorem ev_callI {g : Cn} {hs : List Hd} {ins : List LV} : callI g hs ρ (some ins) = callR (g ins) ins hs ρ := rfl
theorem ev_callR {hs : List Hd} {ins l2 : List LV} {outs : List Mo} {ρ2 : Rho} (h : setOuts ins outs = some l2) (h2 : putBack hs l2 ρ = some ρ2) : callR (.ok x outs) ins hs ρ = .ok x ρ2 := by
  show (match (setOuts ins outs).bind fun l => putBack hs l ρ with | some ρ2 => RE.ok x ρ2 | none => .no) = _
  rw [h]; show (match putBack hs l2 ρ with | some ρ2 => RE.ok x ρ2 | none => .no) = _
  rw [h2]
def backR (x : D) : Option Rho → RE D
  | some ρ => .ok x ρ
  | none => .no
theorem ev_callOk {hs : List Hd} {ins : List LV} {outs : List Mo} : callR (.ok x outs) ins hs ρ = backR x ((setOuts ins outs).bind fun l => putBack hs l ρ) := by
  show (match (setOuts ins outs).bind fun l => putBack hs l ρ with | some ρ2 => RE.ok x ρ2 | none => .no) = _
  cases (setOuts ins outs).bind fun l => putBack hs l ρ <;> rfl
theorem ev_callNew {hs : List Hd} {ins : List LV} {outs : List Mo} : callR (.new m outs) ins hs ρ = backR m.toD ((setOuts ins outs).bind fun l => putBack hs l ρ) := by
  show (match (setOuts ins outs).bind fun l => putBack hs l ρ with | some ρ2 => RE.ok m.toD ρ2 | none => .no) = _
  cases (setOuts ins outs).bind fun l => putBack hs l ρ <;> rfl
theorem ev_backR : backR x (some ρ) = .ok x ρ := rfl
def fcallR : RC → List LV → List Hd → Rho → RE Mo
  | .new m outs, ins, hs, ρ => match (setOuts ins outs).bind fun l => putBack hs l ρ with
    | some ρ2 => .ok m ρ2
    | none => .no
  | .ex x outs, ins, hs, ρ => match (setOuts ins outs).bind fun l => putBack hs l ρ with
    | some ρ2 => .ex x ρ2
    | none => .no
  | _, _, _, _ => .no
def fcallI (g : Cn) (hs : List Hd) (ρ : Rho) : Option (List LV) → RE Mo
  | some ins => fcallR (g ins) ins hs ρ
  | none => .no
def fcallK (g : Cn) (hs : List Hd) (ρ : Rho) : RE Mo := fcallI g hs ρ (if apartB hs = true then mkIns ρ hs else none)
theorem ev_fCall {g : Cn} : fCall g as ρ = (as ρ).bind (fcallK g) := by
  unfold fCall
  first | refine bind_ext fun hs ρ1 => ?_ | refine st_ext fun hs ρ1 => ?_
  unfold fcallK
  cases (if apartB hs = true then mkIns ρ1 hs else none) with
  | none => rfl
  | some ins =>
    show (match g ins with | .no => RE.no | .ok d outs => _ | .new m outs => _ | .ex x outs => _) = fcallR (g ins) ins hs ρ1
    cases g ins <;> rfl
theorem ev_fcallK {g : Cn} {hs : List Hd} : fcallK g hs ρ = fcallI g hs ρ (if apartB hs = true then mkIns ρ hs else none) := rfl
theorem ev_fcallI {g : Cn} {hs : List Hd} {ins : List LV} : fcallI g hs ρ (some ins) = fcallR (g ins) ins hs ρ := rfl
def fbackR (m : Mo) : Option Rho → RE Mo
  | some ρ => .ok m ρ
  | none => .no
theorem ev_fcallNew {hs : List Hd} {ins : List LV} {outs : List Mo} : fcallR (.new m outs) ins hs ρ = fbackR m ((setOuts ins outs).bind fun l => putBack hs l ρ) := by
  show (match (setOuts ins outs).bind fun l => putBack hs l ρ with | some ρ2 => RE.ok m ρ2 | none => .no) = _
  cases (setOuts ins outs).bind fun l => putBack hs l ρ <;> rfl
theorem ev_fbackR : fbackR m (some ρ) = .ok m ρ := rfl
theorem ev_apart0 : apartB [] = true := rfl
theorem ev_apart1 {hs : List Hd} : apartB (.v x :: hs) = apartB hs := rfl
theorem ev_apart2 {hs : List Hd} : apartB (.s i :: hs) = (noS i hs && apartB hs) := rfl
theorem ev_noS0 : noS i [] = true := rfl
theorem ev_noS1 {hs : List Hd} : noS i (.v x :: hs) = noS i hs := rfl
theorem ev_noS2 {hs : List Hd} : noS i (.s j :: hs) = (i != j && noS i hs) := rfl
def consO (x : LV) : Option (List LV) → Option (List LV)
  | some l => some (x :: l)
  | none => none
theorem ev_consO {l : List LV} {x : LV} : consO x (some l) = some (x :: l) := rfl
def insK : Option LV → Option (List LV) → Option (List LV)
  | some (.own m _), o => consO (.own m false) o
  | _, _ => none
theorem ev_insK {k : Bool} {o : Option (List LV)} : insK (some (.own m k)) o = consO (.own m false) o := rfl
theorem ev_mkIns0 : mkIns ρ [] = some [] := rfl
theorem ev_mkIns1 {hs : List Hd} : mkIns ρ (.v x :: hs) = consO (.val x) (mkIns ρ hs) := by
  show (match mkIns ρ hs with | some l => some (LV.val x :: l) | none => none) = _
  cases mkIns ρ hs <;> rfl
theorem ev_mkIns2 {hs : List Hd} : mkIns ρ (.s i :: hs) = insK (ρ[i]?) (mkIns ρ hs) := by
  show (match ρ[i]? with | some (.own m _) => (match mkIns ρ hs with | some l => some (LV.own m false :: l) | none => none) | _ => none) = _
  cases ρ[i]? with
  | none => rfl
  | some q => cases q with
    | un => rfl
    | val _ => rfl
    | own m b => show _ = consO _ _; cases mkIns ρ hs <;> rfl
theorem ev_so0 : setOuts [] [] = some [] := rfl
theorem ev_so1 {r : List LV} {ms : List Mo} : setOuts (.val x :: r) ms = consO (.val x) (setOuts r ms) := by
  have : setOuts (.val x :: r) ms = (match setOuts r ms with | some l => some (LV.val x :: l) | none => none) := by cases ms <;> rfl
  rw [this]; cases setOuts r ms <;> rfl
theorem ev_so2 {r : List LV} {m' : Mo} {ms : List Mo} {k : Bool} : setOuts (.own m' k :: r) (m :: ms) = consO (.own m k) (setOuts r ms) := by
  have : setOuts (.own m' k :: r) (m :: ms) = (match setOuts r ms with | some l => some (LV.own m k :: l) | none => none) := rfl
  rw [this]; cases setOuts r ms <;> rfl
theorem ev_pb0 : putBack [] [] ρ = some ρ := rfl
theorem ev_pb1 {hs : List Hd} {w : LV} {q : List LV} : putBack (.v x :: hs) (w :: q) ρ = putBack hs q ρ := by cases w <;> rfl
def pbK (m : Mo) (i : Nat) (hs : List Hd) (q : List LV) (ρ : Rho) : Option LV → Option Rho
  | some (.own _ k) => putBack hs q (ρ.set i (.own m k))
  | _ => none
theorem ev_pb2 {hs : List Hd} {k : Bool} {q : List LV} : putBack (.s i :: hs) (.own m k :: q) ρ = pbK m i hs q ρ (ρ[i]?) := by
  show (match ρ[i]? with | some (.own _ k) => putBack hs q (ρ.set i (.own m k)) | _ => none) = _
  cases ρ[i]? with
  | none => rfl
  | some q => cases q <;> rfl
theorem ev_pbK {hs : List Hd} {k : Bool} {q : List LV} {m' : Mo} : pbK m i hs q ρ (some (.own m' k)) = putBack hs q (ρ.set i (.own m k)) := rfl
-- defs
def outK (f : List Mo → RC) : Option (List Mo) → RC
  | some l => f l
  | none => .no
theorem ev_outK {f : List Mo → RC} {l : List Mo} : outK f (some l) = f l := rfl
def appR (ins : List LV) : RS → RC
  | .ret d ρ => outK (.ok d) (outsOf ins ρ)
  | .new m ρ => outK (.new m) (outsOf ins ρ)
  | .next ρ => outK (.ok .none) (outsOf ins ρ)
  | .ex x ρ => outK (.ex x) (outsOf ins ρ)
  | _ => .no
def unL : Nat → List LV
  | 0 => []
  | n + 1 => .un :: unL n
theorem unL_eq : ∀ n, List.replicate n LV.un = unL n
  | 0 => rfl
  | n + 1 => by unfold unL; rw [List.replicate_succ, unL_eq n]
theorem ev_unL0 : unL 0 = [] := rfl
theorem ev_unLs {n : Nat} : unL (n + 1) = .un :: unL n := rfl
def fnA (n N : Nat) (s : Sn) (ins : List LV) : Bool → RC
  | true => appR ins (s (ins ++ unL (N - n)))
  | false => .no
theorem fn_at {n N : Nat} {ins : List LV} (h : ins.length = n) : fn n N s ins = fnA n N s ins (insOk ins) := by
  unfold fn
  cases hi : insOk ins with
  | false => rw [if_neg (by simp)]; rfl
  | true =>
    rw [if_pos ⟨h, rfl⟩]
    unfold app fnA
    simp only
    have e : ins ++ List.replicate (N - ins.length) LV.un = ins ++ unL (N - n) := by rw [unL_eq, h]
    generalize ins ++ List.replicate (N - ins.length) LV.un = u at e ⊢
    subst e
    generalize s (ins ++ unL (N - n)) = w
    cases w with
    | ret d ρ => show (match outsOf ins ρ with | some l => RC.ok d l | none => .no) = outK (.ok d) (outsOf ins ρ); cases outsOf ins ρ <;> rfl
    | new d ρ => show (match outsOf ins ρ with | some l => RC.new d l | none => .no) = outK (.new d) (outsOf ins ρ); cases outsOf ins ρ <;> rfl
    | next ρ => show (match outsOf ins ρ with | some l => RC.ok .none l | none => .no) = outK (.ok .none) (outsOf ins ρ); cases outsOf ins ρ <;> rfl
    | ex x ρ => show (match outsOf ins ρ with | some l => RC.ex x l | none => .no) = outK (.ex x) (outsOf ins ρ); cases outsOf ins ρ <;> rfl
    | brk ρ => rfl
    | cnt ρ => rfl
    | no => rfl
theorem ev_fn0 {N : Nat} : fn 0 N s [] = fnA 0 N s [] (insOk []) := fn_at rfl
theorem ev_fnA0 {N : Nat} : fnA 0 N s [] true = appR [] (s (unL (N - 0))) := rfl
theorem ev_fn1 {N : Nat} {a0 : LV} : fn 1 N s [a0] = fnA 1 N s [a0] (insOk [a0]) := fn_at rfl
theorem ev_fnA1 {N : Nat} {a0 : LV} : fnA 1 N s [a0] true = appR [a0] (s (a0 :: unL (N - 1))) := rfl
theorem ev_fn2 {N : Nat} {a0 a1 : LV} : fn 2 N s [a0, a1] = fnA 2 N s [a0, a1] (insOk [a0, a1]) := fn_at rfl
theorem ev_fnA2 {N : Nat} {a0 a1 : LV} : fnA 2 N s [a0, a1] true = appR [a0, a1] (s (a0 :: a1 :: unL (N - 2))) := rfl
theorem ev_fn3 {N : Nat} {a0 a1 a2 : LV} : fn 3 N s [a0, a1, a2] = fnA 3 N s [a0, a1, a2] (insOk [a0, a1, a2]) := fn_at rfl
theorem ev_fnA3 {N : Nat} {a0 a1 a2 : LV} : fnA 3 N s [a0, a1, a2] true = appR [a0, a1, a2] (s (a0 :: a1 :: a2 :: unL (N - 3))) := rfl
theorem ev_fn4 {N : Nat} {a0 a1 a2 a3 : LV} : fn 4 N s [a0, a1, a2, a3] = fnA 4 N s [a0, a1, a2, a3] (insOk [a0, a1, a2, a3]) := fn_at rfl
theorem ev_fnA4 {N : Nat} {a0 a1 a2 a3 : LV} : fnA 4 N s [a0, a1, a2, a3] true = appR [a0, a1, a2, a3] (s (a0 :: a1 :: a2 :: a3 :: unL (N - 4))) := rfl
theorem ev_fn5 {N : Nat} {a0 a1 a2 a3 a4 : LV} : fn 5 N s [a0, a1, a2, a3, a4] = fnA 5 N s [a0, a1, a2, a3, a4] (insOk [a0, a1, a2, a3, a4]) := fn_at rfl
theorem ev_fnA5 {N : Nat} {a0 a1 a2 a3 a4 : LV} : fnA 5 N s [a0, a1, a2, a3, a4] true = appR [a0, a1, a2, a3, a4] (s (a0 :: a1 :: a2 :: a3 :: a4 :: unL (N - 5))) := rfl
theorem ev_fn6 {N : Nat} {a0 a1 a2 a3 a4 a5 : LV} : fn 6 N s [a0, a1, a2, a3, a4, a5] = fnA 6 N s [a0, a1, a2, a3, a4, a5] (insOk [a0, a1, a2, a3, a4, a5]) := fn_at rfl
theorem ev_fnA6 {N : Nat} {a0 a1 a2 a3 a4 a5 : LV} : fnA 6 N s [a0, a1, a2, a3, a4, a5] true = appR [a0, a1, a2, a3, a4, a5] (s (a0 :: a1 :: a2 :: a3 :: a4 :: a5 :: unL (N - 6))) := rfl
theorem ev_fn7 {N : Nat} {a0 a1 a2 a3 a4 a5 a6 : LV} : fn 7 N s [a0, a1, a2, a3, a4, a5, a6] = fnA 7 N s [a0, a1, a2, a3, a4, a5, a6] (insOk [a0, a1, a2, a3, a4, a5, a6]) := fn_at rfl
theorem ev_fnA7 {N : Nat} {a0 a1 a2 a3 a4 a5 a6 : LV} : fnA 7 N s [a0, a1, a2, a3, a4, a5, a6] true = appR [a0, a1, a2, a3, a4, a5, a6] (s (a0 :: a1 :: a2 :: a3 :: a4 :: a5 :: a6 :: unL (N - 7))) := rfl
theorem ev_fn8 {N : Nat} {a0 a1 a2 a3 a4 a5 a6 a7 : LV} : fn 8 N s [a0, a1, a2, a3, a4, a5, a6, a7] = fnA 8 N s [a0, a1, a2, a3, a4, a5, a6, a7] (insOk [a0, a1, a2, a3, a4, a5, a6, a7]) := fn_at rfl
theorem ev_fnA8 {N : Nat} {a0 a1 a2 a3 a4 a5 a6 a7 : LV} : fnA 8 N s [a0, a1, a2, a3, a4, a5, a6, a7] true = appR [a0, a1, a2, a3, a4, a5, a6, a7] (s (a0 :: a1 :: a2 :: a3 :: a4 :: a5 :: a6 :: a7 :: unL (N - 8))) := rfl
theorem ev_appR {ins : List LV} : appR ins (.ret x ρ) = outK (.ok x) (outsOf ins ρ) := rfl
theorem ev_appNew {ins : List LV} : appR ins (.new m ρ) = outK (.new m) (outsOf ins ρ) := rfl
theorem ev_appN {ins : List LV} : appR ins (.next ρ) = outK (.ok .none) (outsOf ins ρ) := rfl
theorem ev_io0 : insOk [] = true := rfl
theorem ev_io1 {r : List LV} : insOk (.val x :: r) = insOk r := rfl
theorem ev_io2 {r : List LV} : insOk (.own m false :: r) = insOk r := rfl
theorem ev_oo0 : outsOf [] ρ = some [] := by cases ρ <;> rfl
theorem ev_oo1 {r : List LV} {w : LV} {q : Rho} : outsOf (.val x :: r) (w :: q) = outsOf r q := by cases w <;> rfl
def consM (m : Mo) : Option (List Mo) → Option (List Mo)
  | some l => some (m :: l)
  | none => none
theorem ev_consM {l : List Mo} : consM m (some l) = some (m :: l) := rfl
theorem ev_oo2 {r : List LV} {m' : Mo} {k k2 : Bool} {q : Rho} : outsOf (.own m' k :: r) (.own m k2 :: q) = consM m (outsOf r q) := by
  show (match outsOf r q with | some l => some (m :: l) | none => none) = _
  cases outsOf r q <;> rfl
theorem ev_g0 {x : LV} {l : List LV} : (x :: l)[0]? = some x := rfl
theorem ev_gs {x : LV} {l : List LV} {n : Nat} : (x :: l)[n + 1]? = l[n]? := rfl
theorem ev_s0 {α : Type} {x y : α} {l : List α} : (x :: l).set 0 y = y :: l := rfl
theorem ev_ss {α : Type} {x y : α} {l : List α} {n : Nat} : (x :: l).set (n + 1) y = x :: l.set n y := rfl
theorem ev_isInt_none : PyData.isInt (.none) = false := rfl
theorem ev_isInt_bool {b : Bool} : PyData.isInt (.bool b) = true := rfl
theorem ev_isInt_int {i : Int} : PyData.isInt (.int i) = true := rfl
theorem ev_isInt_str {c : Str} : PyData.isInt (.str c) = false := rfl
theorem ev_isInt_list {l : List D} : PyData.isInt (.list l) = false := rfl
theorem ev_isInt_tuple {l : List D} : PyData.isInt (.tuple l) = false := rfl
theorem ev_isInt_dict {k : List (D × D)} : PyData.isInt (.dict k) = false := rfl
theorem ev_isBool_none : PyData.isBool (.none) = false := rfl
theorem ev_isBool_bool {b : Bool} : PyData.isBool (.bool b) = true := rfl
theorem ev_isBool_int {i : Int} : PyData.isBool (.int i) = false := rfl
theorem ev_isBool_str {c : Str} : PyData.isBool (.str c) = false := rfl
theorem ev_isBool_list {l : List D} : PyData.isBool (.list l) = false := rfl
theorem ev_isBool_tuple {l : List D} : PyData.isBool (.tuple l) = false := rfl
theorem ev_isBool_dict {k : List (D × D)} : PyData.isBool (.dict k) = false := rfl
theorem ev_isStr_none : PyData.isStr (.none) = false := rfl
theorem ev_isStr_bool {b : Bool} : PyData.isStr (.bool b) = false := rfl
theorem ev_isStr_int {i : Int} : PyData.isStr (.int i) = false := rfl
theorem ev_isStr_str {c : Str} : PyData.isStr (.str c) = true := rfl
theorem ev_isStr_list {l : List D} : PyData.isStr (.list l) = false := rfl
theorem ev_isStr_tuple {l : List D} : PyData.isStr (.tuple l) = false := rfl
theorem ev_isStr_dict {k : List (D × D)} : PyData.isStr (.dict k) = false := rfl
theorem ev_isTuple_none : PyData.isTuple (.none) = false := rfl
theorem ev_isTuple_bool {b : Bool} : PyData.isTuple (.bool b) = false := rfl
theorem ev_isTuple_int {i : Int} : PyData.isTuple (.int i) = false := rfl
theorem ev_isTuple_str {c : Str} : PyData.isTuple (.str c) = false := rfl
theorem ev_isTuple_list {l : List D} : PyData.isTuple (.list l) = false := rfl
theorem ev_isTuple_tuple {l : List D} : PyData.isTuple (.tuple l) = true := rfl
theorem ev_isTuple_dict {k : List (D × D)} : PyData.isTuple (.dict k) = false := rfl
theorem ev_isList_none : PyData.isList (.none) = false := rfl
theorem ev_isList_bool {b : Bool} : PyData.isList (.bool b) = false := rfl
theorem ev_isList_int {i : Int} : PyData.isList (.int i) = false := rfl
theorem ev_isList_str {c : Str} : PyData.isList (.str c) = false := rfl
theorem ev_isList_list {l : List D} : PyData.isList (.list l) = true := rfl
theorem ev_isList_tuple {l : List D} : PyData.isList (.tuple l) = false := rfl
theorem ev_isList_dict {k : List (D × D)} : PyData.isList (.dict k) = false := rfl
theorem ev_isDict_none : PyData.isDict (.none) = false := rfl
theorem ev_isDict_bool {b : Bool} : PyData.isDict (.bool b) = false := rfl
theorem ev_isDict_int {i : Int} : PyData.isDict (.int i) = false := rfl
theorem ev_isDict_str {c : Str} : PyData.isDict (.str c) = false := rfl
theorem ev_isDict_list {l : List D} : PyData.isDict (.list l) = false := rfl
theorem ev_isDict_tuple {l : List D} : PyData.isDict (.tuple l) = false := rfl
theorem ev_isDict_dict {k : List (D × D)} : PyData.isDict (.dict k) = true := rfl
theorem ev_isNone_none : isNone (.none) = true := rfl
theorem ev_isNone_bool {b : Bool} : isNone (.bool b) = false := rfl
theorem ev_isNone_int {i : Int} : isNone (.int i) = false := rfl
theorem ev_isNone_str {c : Str} : isNone (.str c) = false := rfl
theorem ev_isNone_list {l : List D} : isNone (.list l) = false := rfl
theorem ev_isNone_tuple {l : List D} : isNone (.tuple l) = false := rfl
theorem ev_isNone_dict {k : List (D × D)} : isNone (.dict k) = false := rfl
theorem ev_eqs {i j : Str} : toB eqB (.str i) (.str j) = some (.bool (decide (i = j))) := rfl
theorem ev_nes {i j : Str} : toB neB (.str i) (.str j) = some (.bool (!decide (i = j))) := rfl
theorem ev_beq {b : Bool} : (b == b) = true := by cases b <;> rfl
theorem ev_bne {b : Bool} : (b != b) = false := by cases b <;> rfl
-- comprehensions
def compR (ρ : Rho) (vs : List Nat) : RE (List D) → RE Mo
  | .ok r ρ2 => .ok (.lst r) (restore ρ ρ2 vs)
  | _ => .no
def compK (bd : Bd) (ifs : Tn) (elt : Dn) (vs : List Nat) (l : List D) (ρ : Rho) : RE Mo := compR ρ vs (compL bd ifs elt vs l [] (wipeR ρ vs))
theorem ev_fComp {src : In} {bd : Bd} {vs : List Nat} : fComp src bd t d vs ρ = (src ρ).bind (compK bd t d vs) := rfl
theorem ev_compK {bd : Bd} {vs : List Nat} : compK bd t d vs l ρ = compR ρ vs (compL bd t d vs l [] (wipeR ρ vs)) := rfl
theorem ev_compR {vs : List Nat} : compR ρ vs (.ok l ρ1) = .ok (.lst l) (restore ρ ρ1 vs) := rfl
theorem ev_wipe0 : wipeR ρ [] = ρ := rfl
theorem ev_wipe1 {vs : List Nat} : wipeR ρ (i :: vs) = (wipeR ρ vs).set i .un := rfl
def restK : Option LV → Nat → Rho → Rho
  | some x, v, ρ => ρ.set v x
  | none, _, ρ => ρ
theorem ev_rest0 : restore ρ ρ1 [] = ρ1 := rfl
theorem ev_rest1 {vs : List Nat} : restore ρ ρ1 (i :: vs) = restK (ρ[i]?) i (restore ρ ρ1 vs) := by
  unfold restK
  show (match ρ[i]? with | some x => (restore ρ ρ1 vs).set i x | none => restore ρ ρ1 vs) = _
  cases ρ[i]? <;> rfl
theorem ev_restK {w : LV} : restK (some w) i ρ = ρ.set i w := rfl
theorem ev_cast {n : Nat} : ((no_index (OfNat.ofNat n) : Nat) : Int) = (OfNat.ofNat n : Int) := rfl
theorem ev_decT {h : Decidable True} : @decide True h = true := by cases h with | isTrue _ => rfl | isFalse z => exact absurd trivial z
theorem ev_decF {h : Decidable False} : @decide False h = false := by cases h with | isFalse _ => rfl | isTrue z => exact z.elim
theorem ev_nt : (!true) = false := rfl
theorem ev_nf : (!false) = true := rfl
theorem ev_aT {b : Bool} : (true && b) = b := by cases b <;> rfl
theorem ev_aF {b : Bool} : (false && b) = false := rfl
theorem ev_if1 {α : Type} {x y : α} : (if true = true then x else y) = x := rfl
end
end Ft
/-! Ft12: rules for loops and comprehensions. -/
namespace Ft
open PySem L2
/-- a loop by its invariant -/
def Turn (N : Rho → Prop) (P : RS → Prop) : RS → Prop
  | .next ρ => N ρ
  | .cnt ρ => N ρ
  | .brk ρ => P (.next ρ)
  | .ret x ρ => P (.ret x ρ)
  | .new m ρ => P (.new m ρ)
  | .ex x ρ => P (.ex x ρ)
  | .no => False
theorem for_rule {bd : Bd} {s : Sn} {P : RS → Prop} : ∀ (l : List D) (I : Nat → Rho → Prop) (ρ : Rho), I 0 ρ → (∀ i d ρ, l[i]? = some d → I i ρ → ∃ ρ1, bd d ρ = some ρ1 ∧ Turn (I (i + 1)) P (s ρ1)) → (∀ ρ, I l.length ρ → P (.next ρ)) → P (forV bd s l ρ)
  | [], I, ρ, h0, _, hd => hd ρ h0
  | d :: l, I, ρ, h0, hs, hd => by
    obtain ⟨ρ1, e1, t⟩ := hs 0 d ρ rfl h0
    unfold forV
    rw [e1]
    simp only
    have ih := fun ρ' (h : I 1 ρ') => for_rule (P := P) (bd := bd) (s := s) l (fun i => I (i + 1)) ρ' h (fun i d ρ e hi => hs (i + 1) d ρ (by simpa using e) hi) (fun ρ hi => hd ρ (by simpa using hi))
    revert t
    cases s ρ1 with
    | next ρ2 => exact fun t => ih ρ2 t
    | cnt ρ2 => exact fun t => ih ρ2 t
    | brk ρ2 => exact fun t => t
    | ret x ρ2 => exact fun t => t
    | new x ρ2 => exact fun t => t
    | ex x ρ2 => exact fun t => t
    | no => exact fun t => t.elim
/-- while: an invariant with a number that falls -/
theorem while_rule {c : Tn} {s : Sn} {P : RS → Prop} (I : Nat → Rho → Prop) (hs : ∀ m ρ, I m ρ → ∃ b ρ1, c ρ = .ok b ρ1 ∧ (b = false → P (.next ρ1)) ∧ (b = true → Turn (fun ρ2 => ∃ m', m' < m ∧ I m' ρ2) P (s ρ1))) : ∀ (n m : Nat) (ρ : Rho), m < n → I m ρ → P (whileF c s n ρ)
  | 0, m, ρ, hm, _ => absurd hm (Nat.not_lt_zero _)
  | n + 1, m, ρ, hm, hI => by
    obtain ⟨b, ρ1, e, h1, h2⟩ := hs m ρ hI
    unfold whileF
    rw [e]
    show P (if b = true then _ else _)
    cases b with
    | false => rw [if_neg Bool.false_ne_true]; exact h1 rfl
    | true =>
      rw [if_pos rfl]
      have t := h2 rfl
      have ih := fun ρ' (h : ∃ m', m' < m ∧ I m' ρ') => let ⟨m', h3, h4⟩ := h; while_rule (P := P) (c := c) (s := s) I hs n m' ρ' (by omega) h4
      revert t
      cases s ρ1 with
      | next ρ2 => exact fun t => ih ρ2 t
      | cnt ρ2 => exact fun t => ih ρ2 t
      | brk ρ2 => exact fun t => t
      | ret x ρ2 => exact fun t => t
      | new x ρ2 => exact fun t => t
      | ex x ρ2 => exact fun t => t
      | no => exact fun t => t.elim
theorem rangeL_len {a b : Int} : (rangeL a b).length = (b - a).toNat := by unfold rangeL; simp
theorem rangeL_at {a b : Int} {i : Nat} {d : D} (h : (rangeL a b)[i]? = some d) : d = .int (a + i) ∧ (i : Int) < b - a := by
  unfold rangeL at h
  simp only [List.getElem?_map, Option.map_eq_some_iff] at h
  obtain ⟨j, hj, rfl⟩ := h
  obtain ⟨h1, h2⟩ := List.getElem?_eq_some_iff.mp hj
  simp only [List.length_range] at h1
  simp only [List.getElem_range] at h2
  subst h2
  exact ⟨rfl, by omega⟩
/-! ### comprehensions -/
section
variable {bd : Bd} {ifs : Tn} {elt : Dn} {vs : List Nat}
/-- one that leaves the state as it was -/
theorem comp_pure {p : D → Bool} {f : D → D} : ∀ (l acc : List D) (ρ : Rho), acc.length + l.length ≤ 16777216 →
    (∀ d ∈ l, ∃ ρ1 ρ2, bd d ρ = some ρ1 ∧ ifs ρ1 = .ok (p d) ρ2 ∧ (p d = false → wipeR ρ2 vs = ρ) ∧ (p d = true → ∃ ρ3, elt ρ2 = .ok (f d) ρ3 ∧ wipeR ρ3 vs = ρ)) → compL bd ifs elt vs l acc ρ = .ok (acc ++ (l.filter p).map f) ρ
  | [], acc, ρ, _, _ => by simp [compL]
  | d :: l, acc, ρ, hz, h => by
    obtain ⟨ρ1, ρ2, e1, e2, h1, h2⟩ := h d (List.mem_cons_self ..)
    rw [List.length_cons] at hz
    unfold compL
    simp only [e1, e2]
    cases hp : p d with
    | false =>
      simp only
      rw [h1 hp, comp_pure l acc ρ (by omega) fun d hd => h d (List.mem_cons_of_mem _ hd)]
      simp [hp]
    | true =>
      obtain ⟨ρ3, e3, e4⟩ := h2 hp
      simp only [e3]
      rw [if_pos (show acc.length < PySem.sizeLine by unfold PySem.sizeLine; omega), e4, comp_pure l (acc ++ [f d]) ρ (by rw [List.length_append]; simp; omega) fun d hd => h d (List.mem_cons_of_mem _ hd)]
      simp [hp]
/-- one that keeps nothing -/
theorem comp_none : ∀ (l acc : List D) (ρ : Rho), (∀ d ∈ l, ∃ ρ1 ρ2, bd d ρ = some ρ1 ∧ ifs ρ1 = .ok false ρ2 ∧ wipeR ρ2 vs = ρ) → compL bd ifs elt vs l acc ρ = .ok acc ρ
  | [], acc, ρ, _ => by simp [compL]
  | d :: l, acc, ρ, h => by
    obtain ⟨ρ1, ρ2, e1, e2, h1⟩ := h d (List.mem_cons_self ..)
    unfold compL
    simp only [e1, e2]
    rw [h1]
    exact comp_none l acc ρ fun d hd => h d (List.mem_cons_of_mem _ hd)
/-- one by an invariant of the turn, the list so far, the state -/
theorem comp_rule : ∀ (l : List D) (I : Nat → List D → Rho → Prop) (acc : List D) (ρ : Rho), acc.length + l.length ≤ 16777216 → I 0 acc ρ →
    (∀ i d acc ρ, l[i]? = some d → I i acc ρ → ∃ ρ1 b ρ2, bd d ρ = some ρ1 ∧ ifs ρ1 = .ok b ρ2 ∧ (b = false → I (i + 1) acc (wipeR ρ2 vs)) ∧ (b = true → ∃ x ρ3, elt ρ2 = .ok x ρ3 ∧ I (i + 1) (acc ++ [x]) (wipeR ρ3 vs))) →
    ∃ r ρ', compL bd ifs elt vs l acc ρ = .ok r ρ' ∧ I l.length r ρ'
  | [], I, acc, ρ, _, h0, _ => ⟨acc, ρ, rfl, h0⟩
  | d :: l, I, acc, ρ, hz, h0, hs => by
    obtain ⟨ρ1, b, ρ2, e1, e2, h1, h2⟩ := hs 0 d acc ρ rfl h0
    rw [List.length_cons] at hz
    have ih := fun acc' ρ' (hz' : acc'.length + l.length ≤ 16777216) (h : I 1 acc' ρ') => comp_rule l (fun i => I (i + 1)) acc' ρ' hz' h fun i d acc ρ e hi => hs (i + 1) d acc ρ (by simpa using e) hi
    unfold compL
    simp only [e1, e2]
    cases b with
    | false => exact ih acc _ (by omega) (h1 rfl)
    | true =>
      obtain ⟨x, ρ3, e3, h3⟩ := h2 rfl
      simp only [e3]
      rw [if_pos (show acc.length < PySem.sizeLine by unfold PySem.sizeLine; omega)]
      exact ih _ _ (by rw [List.length_append]; simp; omega) h3
end
end Ft
/-! Ft13: sorted, list(range), max and min, index and count, += , constants of the top. -/
namespace Ft
open PySem L2 PySem.Spec PyProof.Rows
open PySem.W (alike alikeAll dataLt dataLe AllAlike Sortable EachIs)
/-! ### sorted, where the items are tuples and some of them are empty -/
section
open PySem.W PySem.SeqAt
variable {prog : Program} {w : World} {A : Around} {s : Shared} {E : Value → Shared → Prop}
def isTup : D → Bool
  | .tuple _ => true
  | _ => false
def isTup0 : D → Bool
  | .tuple [] => true
  | _ => false
theorem tup_lt {Q : Value → Shared → Prop} {l b : Addr} {items items2 : Array Value} {e r : Nat → Bool} (hl : s.heap.IsTuple l items) (hb : s.heap.IsTuple b items2)
    (he : ∀ j (h1 : j < items.size) (h2 : j < items2.size), EqAt A.in1 s items[j] items2[j] (e j)) (hr : ∀ j (h1 : j < items.size) (h2 : j < items2.size), e j = false → RcLt A.in1 s items[j] items2[j] (r j))
    (h : Q (.bool (firstLt e r (decide (items.size < items2.size)) (List.range (min items.size items2.size)))) s) : wpAny (model prog w) A (call (.builtin "tuple.__lt__") [.ref l, .ref b]) Q E s := by
  obtain ⟨⟨cls, dd, data, sl⟩, ho, hc, n, hd⟩ := id hl
  obtain ⟨⟨cls2, dd2, data2, sl2⟩, ho2, hc2, n2, hd2⟩ := id hb
  simp only at hc hd hc2 hd2
  subst hc hd hc2 hd2
  exact call_meets F.slot_tuple_lt ⟨_, ho, rfl⟩ F.entry_tuple_lt (F.args_tuple_lt_2 _ _) (tuple_ltAt l b items items2 n n2 dd dd2 sl sl2 e r) ⟨ho, ho2, he, hr, h⟩
theorem tup_oneLt {xs ys : List D} {a b : Value} {as bs : List Addr} {Q : Bool → Shared → Prop} (ra : Reads s.heap a (.tuple xs) as) (rb : Reads s.heap b (.tuple ys) bs) (hal : alikeAll xs ys = true)
    (hu : A.units + min (PyData.tuple xs).depth (PyData.tuple ys).depth < cLine) (hq : Q (dataLt (.tuple xs) (.tuple ys)) s) : wpAny (model prog w) A (oneLt' true a b) Q E s := by
  cases ra with
  | @tuple l o vs n _ as₁ h1 h2 h3 h4 =>
    cases rb with
    | @tuple l' o' vs' n' _ bs₁ k1 k2 k3 k4 =>
      have n1 : vs.size = xs.length := by simpa using ReadsAll.length _ _ _ h4
      have n2 : vs'.size = ys.length := by simpa using ReadsAll.length _ _ _ k4
      rw [dataLt_tuple, ← firstLt_toks xs ys hal, ← n1, ← n2] at hq
      rw [oneLt'_eq]
      simp only [if_true]
      refine wpAny_bind (wpAny_cRoomFor (room_here hu) ?_)
      refine wpAny_bind (wpAny_callSpecialIfBound?_slot (T := "tuple") ⟨_, h1, h2⟩ F.slot_tuple_lt (tup_lt (e := pairEq xs ys) (r := fun j => dataLt (xs.getD j .none) (ys.getD j .none)) ⟨_, h1, h2, _, h3⟩ ⟨_, k1, k2, _, k3⟩ (fun j j1 j2 => ?_) (fun j j1 j2 hj => ?_) ?_))
      · have := eqAt_alikeAll xs ys A.in1 s vs.toList vs'.toList _ _ h4 k4 hal (room_in hu) j (by simpa using j1) (by simpa using j2)
        simpa using this
      · have := rcLt_alikeAll xs ys A.in1 s vs.toList vs'.toList _ _ h4 k4 hal (room_in hu) j (by simpa using j1) (by simpa using j2) hj
        simpa using this
      · exact wpAny_truthy_bool hq
theorem firsts_at : ∀ (vs : List Value) (ds : List D) {Q : List (Option Value) → Shared → Prop}, EachIs (fun v d => ∃ as, Reads s.heap v d as) vs ds → (∀ d ∈ ds, isTup d = true) →
    (∀ fs : List (Option Value), fs.length = ds.length → (∀ (i : Nat) (d : D), ds[i]? = some d → ∃ f : Option Value, fs[i]? = some f ∧ f.isSome = !isTup0 d) → Q fs s) → wpAny (model prog w) A (vs.mapM firstOfTuple') Q E s
  | _, _, Q, .nil, _, h => by
    rw [List.mapM_nil]
    exact wpAny_pure (h [] rfl fun i d hd => by simp at hd)
  | v :: vs, d :: ds, Q, .cons ⟨as, r⟩ t, ht, h => by
    have h0 := ht d (.head _)
    match d, h0, r, h with
    | .tuple xs, _, r, h =>
      cases r with
      | @tuple a o its n _ _ ho hc hd hr =>
        have hlen : its.size = xs.length := by simpa using ReadsAll.length _ _ _ hr
        rw [List.mapM_cons]
        refine wpAny_bind ?_
        rw [kas_first_eq]
        refine wpAny_bind (Looks.here (show Looks (model prog w) s.heap (typeOf (.ref a)) o.cls from (Looks.ld ho).andThen .now) ?_)
        rw [hc, if_neg (by first | decide | simp)]
        refine wpAny_bind (listItems_at ho hd (wpAny_pure ?_))
        refine wpAny_bind (firsts_at vs ds t (fun d hd => ht d (.tail _ hd)) fun fs hl hf => wpAny_pure (h _ (by simp [hl]) fun i d hd => ?_))
        cases i with
        | zero =>
          simp at hd
          subst hd
          refine ⟨its[0]?, rfl, ?_⟩
          match xs, hlen with
          | [], hlen => simp at hlen; simp [isTup0, hlen]
          | x :: xs, hlen => simp [isTup0, hlen]
        | succ i => exact hf i d (by simpa using hd)
theorem types_at : ∀ (vs : List Value) (ds : List D) {Q : List Value → Shared → Prop}, EachIs (fun v d => ∃ as, Reads s.heap v d as) vs ds → (∀ d ∈ ds, isTup d = true) →
    Q (vs.map fun _ => Value.type "tuple") s → wpAny (model prog w) A (vs.mapM typeOf) Q E s := fun vs ds Q e ht h => by
  refine kas_mapM _ (fun v hv Q' hq => ?_) h
  obtain ⟨d, hd, as, r⟩ := e.left v hv
  have h0 := ht d hd
  match d, h0, r with
  | .tuple xs, _, r =>
    have : Looks (model prog w) s.heap (typeOf v) (dataType (.tuple xs)) := looks_reads r
    exact this.here hq
theorem kind_at {vs : List Value} {ds : List D} {Q : SortKind → Shared → Prop} (e : EachIs (fun v d => ∃ as, Reads s.heap v d as) vs ds) (ht : ∀ d ∈ ds, isTup d = true) (h0 : ∃ d ∈ ds, isTup0 d = true)
    (h : Q (if (ds[0]?.map isTup0) = some true then oneType' else general') s) : wpAny (model prog w) A (keyKind' vs.toArray) Q E s := by
  rw [keyKind'_eq, List.mapM_toArray, map_eq_pure_bind]
  refine wpAny_bind (wpAny_bind (firsts_at vs ds e ht fun fs hl hf => wpAny_pure ?_))
  have hall : ¬ (fs.toArray.all fun x => x.isSome) = true := by
    obtain ⟨d, hd, hd0⟩ := h0
    obtain ⟨i, hi, rfl⟩ := List.mem_iff_getElem.mp hd
    obtain ⟨f, hf1, hf2⟩ := hf i _ (List.getElem?_eq_getElem hi)
    intro hc
    simp only [List.all_toArray, List.all_eq_true] at hc
    have := hc f (List.mem_of_getElem? hf1)
    rw [hf2, hd0] at this
    cases this
  rw [if_neg hall]
  match ds, h, hf, h0 with
  | [], _, _, ⟨d, hd, _⟩ => simp at hd
  | d :: ds, h, hf, _ =>
    obtain ⟨f, hf1, hf2⟩ := hf 0 d rfl
    have e0 : fs.toArray[0]? = some f := by simpa using hf1
    rw [e0]
    show wpAny _ _ (if ((some f).bind id).isSome = true then _ else _) _ _ _
    by_cases hc : isTup0 d = true
    · rw [hc] at hf2
      rw [if_neg (by show ¬ f.isSome = true; rw [hf2]; decide)]
      have : Q oneType' s := by simpa [hc] using h
      rw [oneTypeOnly'_eq, List.mapM_toArray, map_eq_pure_bind]
      refine wpAny_bind (wpAny_bind (wpAny_bind (types_at vs _ e ht (wpAny_pure ?_))))
      cases e with
      | @cons v _ vs _ r t =>
        have hall : ((List.map (fun _ => Value.type "tuple") (v :: vs)).toArray.all fun x => x == Value.type "tuple") = true := by
          simp only [List.all_toArray, List.all_map, List.all_eq_true]
          intro _ _
          rfl
        have h0 : (List.map (fun _ => Value.type "tuple") (v :: vs)).toArray[0]? = some (Value.type "tuple") := by simp
        rw [h0]
        simp only [hall, if_true]
        exact wpAny_pure (wpAny_pure this)
    · have hf3 : f.isSome = true := by rw [hf2]; simp [hc]
      rw [if_pos (by show f.isSome = true; exact hf3)]
      have hne : (((d :: ds)[0]?).map isTup0) ≠ some true := by simp [hc]
      rw [if_neg hne] at h
      exact wpAny_pure h
theorem keyLt'_general (x y : Value) : keyLt' general' x y = oneLt' false x y := rfl
theorem SortsAt.tups {vs : List Value} {ds : List D} (e : EachIs (fun v d => ∃ as, Reads s.heap v d as) vs ds) (hal : AllAlike ds) (ht : ∀ d ∈ ds, isTup d = true) (h0 : ∃ d ∈ ds, isTup0 d = true) (hu : ∀ d, d ∈ ds → A.units + d.depth < cLine) : SortsAt prog w A s (dataKind s.heap ds) vs := by
  have room : ∀ {d d' : D}, d ∈ ds → A.units + min d.depth d'.depth < cLine := fun {d d'} hd => Nat.lt_of_le_of_lt (Nat.add_le_add_left (Nat.min_le_left _ _) _) (hu d hd)
  refine ⟨fun v hv => ?_, (if (ds[0]?.map isTup0) = some true then oneType' else general'), ?_, fun h2 E Q hq => kind_at e ht h0 hq⟩
  · obtain ⟨d, hd, as, r⟩ := e.left v hv
    exact ⟨_, dataKind_some hal hd r⟩
  · intro E x y a b Q ha hb hq
    obtain ⟨d, as, hd, ra, rfl⟩ := dataKind_inv ha
    obtain ⟨d', as', hd', rb, rfl⟩ := dataKind_inv hb
    have hdd := hal d hd d' hd'
    have hroom := room (d' := d') hd
    have h1 := ht d hd
    have h2 := ht d' hd'
    match d, d', h1, h2, ra, rb, hdd, hroom, hq with
    | .tuple xs, .tuple ys, _, _, ra, rb, hdd, hroom, hq =>
      have hal2 : alikeAll xs ys = true := by simpa [alike] using hdd
      split
      · rw [keyLt'_oneType]
        exact tup_oneLt ra rb hal2 hroom hq
      · rw [keyLt'_general]
        exact oneLt_alike (fun hf => Bool.noConfusion hf) ra rb hdd (fun x => nomatch x) hroom hq
theorem sorted_tups {β : Type} {enc : β → D} {R : Value → β → Prop} {vs : List Value} {bs : List β} {l : Addr} {Q : Value → Shared → Prop} (hl : s.heap.IsList l vs.toArray) (e : EachIs R vs bs) (er : EachIs (fun v b => ∃ as, Reads s.heap v (enc b) as) vs bs) (hal : AllAlike (bs.map enc))
    (ht : ∀ d ∈ bs.map enc, isTup d = true) (h0 : ∃ d ∈ bs.map enc, isTup0 d = true) (hL : bs.length ≤ sizeLine)
    (hu : ∀ b, b ∈ bs → A.units + 2 + (enc b).depth < cLine) (h : ∀ out, out.length = bs.length → EachIs R out (bs.mergeSort (dataLe false enc)) → Q (.ref (s.heap.objs.size + 1)) { s with heap := sortedAll s.heap vs (List.toArray out) }) :
    wpAny (model prog w) A (call (.builtin "sorted") [.ref l]) Q E s := by
  have er' : EachIs (fun v b => ∃ as, Reads (sortingHeap (copyHeap s.heap vs) (s.heap.objs.size + 1) vs) v (enc b) as) vs bs := er.mono fun _ _ ⟨as, r⟩ => ⟨as, PyProof.Rows.Reads.keeps (fun _ _ => sorting_copy_old) r⟩
  exact sorted_vals hl (SortsAt.tups (s := { s with heap := sortingHeap (copyHeap s.heap vs) (s.heap.objs.size + 1) vs }) (each_map (R := fun v d => ∃ as, Reads (sortingHeap (copyHeap s.heap vs) (s.heap.objs.size + 1) vs) v d as) enc er') hal ht h0 (bound_map hu)) (by rw [e.length]; exact hL)
    (h _ (by rw [sortVals_length false rfl]; exact e.length) (sortVals_data false e er' hal))
theorem sorted_both {β : Type} {enc : β → D} {R : Value → β → Prop} {vs : List Value} {bs : List β} {l : Addr} {Q : Value → Shared → Prop} (hl : s.heap.IsList l vs.toArray) (e : EachIs R vs bs) (er : EachIs (fun v b => ∃ as, Reads s.heap v (enc b) as) vs bs) (hal : AllAlike (bs.map enc))
    (hk : Sortable (bs.map enc) ∨ ((∀ d ∈ bs.map enc, isTup d = true) ∧ ∃ d ∈ bs.map enc, isTup0 d = true)) (hL : bs.length ≤ sizeLine)
    (hu : ∀ b, b ∈ bs → A.units + 2 + (enc b).depth < cLine) (h : ∀ out, out.length = bs.length → EachIs R out (bs.mergeSort (dataLe false enc)) → Q (.ref (s.heap.objs.size + 1)) { s with heap := sortedAll s.heap vs (List.toArray out) }) :
    wpAny (model prog w) A (call (.builtin "sorted") [.ref l]) Q E s := by
  rcases hk with hk | ⟨ht, h0⟩
  · exact sorted_data hl e er hal hk hL hu h
  · exact sorted_tups hl e er hal ht h0 hL hu h
end
/-! ### sorted -/
def dLe : D → D → Bool := dataLe false id
def isTup1 : D → Bool
  | .tuple (_ :: _) => true
  | _ => false
def notTup : D → Bool
  | .tuple _ => false
  | .none => false
  | _ => true
def sortOk (l : List D) : Bool := (l.all fun d => l.all fun e => alike d e) && (l.all isTup1 || (l.all notTup || (l.all isTup && l.any isTup0))) && (l.all fun d => decide (d.depth ≤ 60)) && decide (l.length ≤ 16777216)
def sortB : List D → Option (List D)
  | [.list l] => if sortOk l = true then some (l.mergeSort dLe) else none
  | _ => none
theorem sortOk_at {l : List D} (h : sortOk l = true) : AllAlike (l.map id) ∧ (Sortable (l.map id) ∨ ((∀ d ∈ l.map id, isTup d = true) ∧ ∃ d ∈ l.map id, isTup0 d = true)) ∧ (∀ d ∈ l, d.depth ≤ 60) ∧ l.length ≤ 16777216 := by
  unfold sortOk at h
  simp only [Bool.and_eq_true, List.all_eq_true, List.any_eq_true, Bool.or_eq_true, decide_eq_true_eq] at h
  obtain ⟨⟨⟨h1, h2⟩, h3⟩, h4⟩ := h
  rw [List.map_id]
  refine ⟨fun d hd e he => h1 d hd e he, ?_, h3, h4⟩
  rcases h2 with h2 | h2 | h2
  · left
    left
    intro d hd
    have := h2 d hd
    match d, this with
    | .tuple (x :: r), _ => exact ⟨x, r, rfl⟩
  · left
    right
    intro d hd
    have := h2 d hd
    constructor
    · rintro rfl; cases this
    · rintro xs rfl; cases this
  · right
    obtain ⟨h2, x, hx, hx0⟩ := h2
    exact ⟨h2, x, hx, hx0⟩
section
variable {X : Cx} {pins : List (Addr × Obj)} {σ : Sg} {H F : Hp} {s : Shared}
theorem each_rep : ∀ {ds : List D} {vs : List V} {us : List Value}, Reps X.K F ds vs → Vals vs us → EachIs (fun u d => ∃ v, RelV v u ∧ Rep X.K F d v) us ds
  | [], _, _, r, w => by
    rw [reps_nil] at r; subst r; cases w; exact .nil
  | d :: ds, _, _, r, w => by
    obtain ⟨v, vs, rfl, h1, h2⟩ := reps_cons.mp r
    cases w with
    | cons w1 w2 => exact .cons ⟨v, w1, h1⟩ (each_rep h2 w2)
theorem rep_each : ∀ {ds : List D} {us : List Value}, EachIs (fun u d => ∃ v, RelV v u ∧ Rep X.K F d v) us ds → ∃ vs, Reps X.K F ds vs ∧ Vals vs us
  | [], _, .nil => ⟨[], .nil, .nil⟩
  | d :: ds, _, .cons ⟨v, h1, h2⟩ t => by
    obtain ⟨vs, h3, h4⟩ := rep_each t
    exact ⟨v :: vs, .cons h2 h3, .cons h1 h4⟩
end
section
variable {X : Cx}
def rSortD (K : PySem.W.Frag) : List V → Hp → VK → Prop := fun vs H Q => ∃ F a ds ws, vs = [V.ref a] ∧ Same F H ∧ SqL K H a ws ∧ Reps K F ds ws ∧ sortOk ds = true ∧ ∀ ws' p, Reps K F (ds.mergeSort dLe) ws' → H p = none → Q (.ref p) (upd H p (.lst ws'))
theorem cr_sortD (hu : X.A.units + 64 < cLine) : CallR X (.builtin "sorted") (rSortD X.K) := by
  intro pins s σ H vs us Q I r h
  obtain ⟨F, a, ds, ws, rfl, sm, hs, hr, ok, q⟩ := h
  obtain ⟨its, rv, hl, hz⟩ := I.list hs
  rw [Vals.ref1 r]
  obtain ⟨o1, o2, o3, o4⟩ := sortOk_at ok
  have e1 := each_rep (X := X) hr rv
  have e2 : EachIs (fun u d => ∃ as, Reads s.heap u (id d) as) its ds := e1.mono fun u d ⟨v, h1, h2⟩ => Rep.reads I d v u (Rep.mono sm _ _ h2) h1
  refine sorted_both (β := D) (enc := id) (R := fun u d => ∃ v, RelV v u ∧ Rep X.K F d v) hl.isList e1 e2 o1 o2 (Nat.le_trans o4 (by decide)) (fun b hb => by have := o3 b hb; show _ + (id b).depth < _; simp only [id]; omega) fun out hlen ho => ?_
  obtain ⟨ws', h1, h2⟩ := rep_each (X := X) ho
  obtain ⟨ep, he'⟩ := PyProof.Rows.sortedAll_at s.heap its out.toArray
  have hlen' : ws'.length ≤ sizeLine := by
    rw [← h1.length, List.length_mergeSort]
    exact Nat.le_trans o4 (by decide)
  exact ⟨.ref _, upd H (s.heap.objs.size + 1) (.lst ws'), I.laid (t' := s.toks) (fun _ _ => PyProof.Rows.sortedAll_old) (Nat.le_succ _) ⟨hlen', out, ep, h2, he'⟩, rfl, q ws' _ h1 (I.hok.fresh (Nat.le_succ _))⟩
theorem pf_sort {K : PySem.W.Frag} : PF K (rSortD K) sortB := fun F H xs ds z Q s h hz q => by
  unfold sortB at hz
  split at hz
  · rename_i l
    split at hz
    · rename_i c
      cases hz
      obtain ⟨v, rfl, rv⟩ := h.one
      obtain ⟨a, vs, rfl, q1, r1⟩ := rv.list s
      exact ⟨F, a, l, vs, rfl, s, .inl q1, r1, c, fun ws' p r hp => q p ws' hp r⟩
    · cases hz
  · cases hz
end
/-! ### list(range(..)), tuple(range(..)) -/
def rng1L (ds : List D) : Option (List D) := (rng1 ds).bind fun l => if l.length ≤ 16777216 then some l else none
def rng2L (ds : List D) : Option (List D) := (rng2 ds).bind fun l => if l.length ≤ 16777216 then some l else none
theorem reps_rg {K : PySem.W.Frag} {F : Hp} {a b : Int} : Reps K F (rangeL a b) (rgV a b) := by
  unfold rangeL rgV
  have : ∀ l : List Nat, Reps K F (l.map fun (i : Nat) => PyData.int (a + i)) (l.map fun i => V.int (a + (i : Nat))) := fun l => by
    induction l with
    | nil => exact .nil
    | cons x l ih => exact .cons rep_int ih
  exact this _
section
variable {X : Cx} {W : Wt} {e e2 : Expr} {a b : An} {pos p p2 pos2 : Pos}
theorem rng1L_at {ds l : List D} (h : rng1L ds = some l) : ∃ j : Int, ds = [.int j] ∧ -(2 ^ 62) ≤ j ∧ j < 2 ^ 62 ∧ l = rangeL 0 j ∧ (j - 0).toNat ≤ 2 ^ 24 := by
  unfold rng1L at h
  obtain ⟨m, h1, h2⟩ := Option.bind_eq_some_iff.mp h
  split at h2
  · cases h2
    rename_i hz
    unfold rng1 at h1
    split at h1
    · split at h1
      · rename_i j c
        cases h1
        refine ⟨j, rfl, c.1, c.2, rfl, ?_⟩
        unfold rangeL at hz
        rw [List.length_map, List.length_range] at hz
        exact hz
      · cases h1
    · cases h1
  · cases h2
theorem rng2L_at {ds l : List D} (h : rng2L ds = some l) : ∃ i j : Int, ds = [.int i, .int j] ∧ RgOk i j ∧ l = rangeL i j := by
  unfold rng2L at h
  obtain ⟨m, h1, h2⟩ := Option.bind_eq_some_iff.mp h
  split at h2
  · cases h2
    rename_i hz
    unfold rng2 at h1
    split at h1
    · split at h1
      · rename_i i j c
        cases h1
        refine ⟨i, j, rfl, ⟨c.1, c.2.1, c.2.2.1, c.2.2.2, ?_⟩, rfl⟩
        unfold rangeL at hz
        rw [List.length_map, List.length_range] at hz
        exact hz
      · cases h1
    · cases h1
  · cases h2
theorem df_listRg1 (hc : X.calm = true) (hm : X.mg "list" = none) (hm2 : X.mg "range" = none) (ha : PE X e (tA X.K W a)) (hg : Gl X "list" := by rfl) (hg2 : Gl X "range" := by rfl) (na : starEach [e] X.env = (false, eval e X.env) :: starEach [] X.env := by rfl)
    (nb : starEach [.Call (.Name "range" p2) [e] [] pos2] X.env = (false, eval (.Call (.Name "range" p2) [e] [] pos2) X.env) :: starEach [] X.env := by rfl) :
    PE X (.Call (.Name "list" p) [.Call (.Name "range" p2) [e] [] pos2] [] pos) (tF X.K W (fOpN rng1L (aCons a aNil))) :=
  PE.imp (pe_listRg hc hg hm (prg_1 hg2 hm2 ha na) nb) fun σ H Q ⟨ρ, F, s, q⟩ => by
    have e1 : fOpN rng1L (aCons a aNil) ρ = (a ρ).bind fun h ρ1 => ans (((looks ρ1 [h]).bind rng1L).map Mo.lst) ρ1 := by
      unfold fOpN aCons aNil
      cases a ρ <;> rfl
    rw [e1] at q
    refine AfF.bind s q fun h v ρ1 F1 H1 g r q1 => ?_
    obtain ⟨m, e, q⟩ := ansF_some q1
    obtain ⟨l, e1, rfl⟩ := Option.map_eq_some_iff.mp e
    obtain ⟨ds, hd, e2⟩ := Option.bind_eq_some_iff.mp e1
    have rb := looks_rep g.sr (.cons r .nil) hd
    obtain ⟨j, rfl, h1, h2, rfl, h3⟩ := rng1L_at e2
    obtain ⟨w, ew, rw_⟩ := rb.one
    cases ew
    exact ⟨j, rw_.int, ⟨by decide, by decide, h1, h2, h3⟩, fun p hp => AfF.new g.sr q hp reps_rg⟩
theorem df_listRg2 (hc : X.calm = true) (hm : X.mg "list" = none) (hm2 : X.mg "range" = none) (ha : PE X e (tA X.K W a)) (hb : PE X e2 (tA X.K W b)) (hg : Gl X "list" := by rfl) (hg2 : Gl X "range" := by rfl) (na : starEach [e, e2] X.env = (false, eval e X.env) :: starEach [e2] X.env := by rfl)
    (na2 : starEach [e2] X.env = (false, eval e2 X.env) :: starEach [] X.env := by rfl) (hp : (backTo pos2 (starEach [e2] X.env)).any (·.1) = false := by rfl)
    (nb : starEach [.Call (.Name "range" p2) [e, e2] [] pos2] X.env = (false, eval (.Call (.Name "range" p2) [e, e2] [] pos2) X.env) :: starEach [] X.env := by rfl) :
    PE X (.Call (.Name "list" p) [.Call (.Name "range" p2) [e, e2] [] pos2] [] pos) (tF X.K W (fOpN rng2L (aCons a (aCons b aNil)))) :=
  PE.imp (pe_listRg hc hg hm (prg_2 hg2 hm2 ha hb na na2 hp) nb) fun σ H Q ⟨ρ, F, s, q⟩ => by
    have e1 : fOpN rng2L (aCons a (aCons b aNil)) ρ = (a ρ).bind fun h ρ1 => (b ρ1).bind fun k ρ2 => ans (((looks ρ2 [h, k]).bind rng2L).map Mo.lst) ρ2 := by
      unfold fOpN aCons aNil
      cases a ρ with
      | no => rfl
      | ex x ρ1 => rfl
      | ok h ρ1 => simp only [RE.bind]; cases b ρ1 <;> rfl
    rw [e1] at q
    refine AfF.bind s q fun h v ρ1 F1 H1 g r q1 => AfF.bind g.sr q1 fun k w ρ2 F2 H2 g2 r2 q2 => ?_
    obtain ⟨m, e, q⟩ := ansF_some q2
    obtain ⟨l, e1, rfl⟩ := Option.map_eq_some_iff.mp e
    obtain ⟨ds, hd, e2⟩ := Option.bind_eq_some_iff.mp e1
    have rb := looks_rep g2.sr (.cons (r.mono g2.sub) (.cons r2 .nil)) hd
    obtain ⟨i, j, rfl, h1, rfl⟩ := rng2L_at e2
    obtain ⟨u, u2, eu, ru, ru2⟩ := rb.two
    cases eu
    exact ⟨i, j, ru.int, ru2.int, h1, fun p hp => AfF.new g2.sr q hp reps_rg⟩
end
/-! ### max, min -/
def max2B : List D → Option D
  | [.int i, .int j] => some (.int (if j > i then j else i))
  | _ => none
def min2B : List D → Option D
  | [.int i, .int j] => some (.int (if j < i then j else i))
  | _ => none
def maxI : List Int → Int
  | [] => 0
  | [x] => x
  | x :: xs => let m := maxI xs; if x < m then m else x
def minI : List Int → Int
  | [] => 0
  | [x] => x
  | x :: xs => let m := minI xs; if m < x then m else x
theorem maxI_is : ∀ {l : List Int}, l ≠ [] → maxI l ∈ l ∧ ∀ y ∈ l, y ≤ maxI l
  | [], h => absurd rfl h
  | [x], _ => ⟨List.mem_singleton.mpr rfl, fun y hy => by rw [List.mem_singleton.mp hy]; exact Int.le_refl _⟩
  | x :: y :: l, _ => by
    obtain ⟨h1, h2⟩ := maxI_is (l := y :: l) (List.cons_ne_nil _ _)
    show (if x < maxI (y :: l) then maxI (y :: l) else x) ∈ _ ∧ ∀ z ∈ _, z ≤ (if x < maxI (y :: l) then maxI (y :: l) else x)
    split
    · exact ⟨List.mem_cons_of_mem _ h1, fun z hz => by rcases List.mem_cons.mp hz with rfl | hz; omega; exact h2 z hz⟩
    · exact ⟨List.mem_cons_self .., fun z hz => by rcases List.mem_cons.mp hz with rfl | hz; omega; have := h2 z hz; omega⟩
theorem minI_is : ∀ {l : List Int}, l ≠ [] → minI l ∈ l ∧ ∀ y ∈ l, minI l ≤ y
  | [], h => absurd rfl h
  | [x], _ => ⟨List.mem_singleton.mpr rfl, fun y hy => by rw [List.mem_singleton.mp hy]; exact Int.le_refl _⟩
  | x :: y :: l, _ => by
    obtain ⟨h1, h2⟩ := minI_is (l := y :: l) (List.cons_ne_nil _ _)
    show (if minI (y :: l) < x then minI (y :: l) else x) ∈ _ ∧ ∀ z ∈ _, (if minI (y :: l) < x then minI (y :: l) else x) ≤ z
    split
    · exact ⟨List.mem_cons_of_mem _ h1, fun z hz => by rcases List.mem_cons.mp hz with rfl | hz; omega; exact h2 z hz⟩
    · exact ⟨List.mem_cons_self .., fun z hz => by rcases List.mem_cons.mp hz with rfl | hz; omega; have := h2 z hz; omega⟩
def maxLB : List D → Option D
  | [.list l] => match intsOf l with
    | some (x :: xs) => some (.int (maxI (x :: xs)))
    | _ => none
  | _ => none
def minLB : List D → Option D
  | [.list l] => match intsOf l with
    | some (x :: xs) => some (.int (minI (x :: xs)))
    | _ => none
  | _ => none
section
variable {K : PySem.W.Frag}
theorem pn_max2 : PN K (fun xs H Q => ∃ i j, xs = [.int i, .int j] ∧ Q (.int (if j > i then j else i)) H) max2B := fun F H xs ds z Q s h hz q => by
  unfold max2B at hz
  split at hz
  · cases hz
    obtain ⟨v, w, rfl, h1, h2⟩ := h.two
    exact ⟨_, _, by rw [h1.int, h2.int], q _ F H (Fr.refl s) rep_int⟩
  · cases hz
theorem pn_min2 : PN K (fun xs H Q => ∃ i j, xs = [.int i, .int j] ∧ Q (.int (if j < i then j else i)) H) min2B := fun F H xs ds z Q s h hz q => by
  unfold min2B at hz
  split at hz
  · cases hz
    obtain ⟨v, w, rfl, h1, h2⟩ := h.two
    exact ⟨_, _, by rw [h1.int, h2.int], q _ F H (Fr.refl s) rep_int⟩
  · cases hz
theorem pn_maxL : PN K (rMax K) maxLB := fun F H xs ds z Q s h hz q => by
  unfold maxLB at hz
  split at hz
  · split at hz
    · rename_i l x xs hl
      cases hz
      obtain ⟨v, rfl, rv⟩ := h.one
      obtain ⟨a, vs, rfl, q1, r1⟩ := rv.list s
      rw [intsOf_map hl] at r1
      refine ⟨a, x :: xs, rfl, .inl (by rw [← r1.ints]; exact q1), by simp, fun m hm hy => ?_⟩
      obtain ⟨h1, h2⟩ := maxI_is (l := x :: xs) (List.cons_ne_nil _ _)
      have : m = maxI (x :: xs) := Int.le_antisymm (h2 m hm) (hy _ h1)
      rw [this]
      exact q _ F H (Fr.refl s) rep_int
    · cases hz
  · cases hz
theorem pn_minL : PN K (rMin K) minLB := fun F H xs ds z Q s h hz q => by
  unfold minLB at hz
  split at hz
  · split at hz
    · rename_i l x xs hl
      cases hz
      obtain ⟨v, rfl, rv⟩ := h.one
      obtain ⟨a, vs, rfl, q1, r1⟩ := rv.list s
      rw [intsOf_map hl] at r1
      refine ⟨a, x :: xs, rfl, .inl (by rw [← r1.ints]; exact q1), by simp, fun m hm hy => ?_⟩
      obtain ⟨h1, h2⟩ := minI_is (l := x :: xs) (List.cons_ne_nil _ _)
      have : m = minI (x :: xs) := Int.le_antisymm (hy _ h1) (h2 m hm)
      rw [this]
      exact q _ F H (Fr.refl s) rep_int
    · cases hz
  · cases hz
end
/-! ### methods of lists that are read -/
def dMl (p : List D → List D → Option D) (a : An) (as : Ans) : Dn := fun ρ => (a ρ).bind fun h ρ1 => match look ρ1 h with
  | some (.list _) => (as ρ1).bind fun hs ρ2 => ans ((look ρ2 h).bind fun d => (looks ρ2 hs).bind fun ds => match d with
    | .list l => p l ds
    | _ => none) ρ2
  | _ => .no
/-- a rule of a list's method by trees -/
def PM (K : PySem.W.Frag) (r : V → List V → Hp → VK → Prop) (p : List D → List D → Option D) : Prop :=
  ∀ F H x xs l ds e Q, Same F H → RepB K F H (.list l) x → RepBs K F H ds xs → p l ds = some e → (∀ v F' H', Fr F H F' H' → Rep K F' e v → Q v H') → r x xs H Q
theorem ty_list {K : PySem.W.Frag} {F H : Hp} {l : List D} {v : V} (s : Same F H) (h : RepB K F H (.list l) v) : tyV K "list" v H := by
  obtain ⟨a, vs, rfl, q, _⟩ := h.list s
  exact .inl ⟨rfl, vs, .inl q⟩
theorem ml_imp {K : PySem.W.Frag} {W : Wt} {r : V → List V → Hp → VK → Prop} {p : List D → List D → Option D} {a : An} {as : Ans} (hp : PM K r p) {σ : Sg} {H : Hp} {Q : VK} (q : tE K W (dMl p a as) σ H Q) : tBM K "list" r (tA K W a) (tAs K W as) σ H Q := by
  obtain ⟨ρ, F, s, q⟩ := q
  refine Af.bind s q fun h v ρ1 F1 H1 g1 r1 z1 => ?_
  cases hl : look ρ1 h with
  | none => rw [hl] at z1; exact z1.elim
  | some d =>
    rw [hl] at z1
    cases d with
    | list l =>
      refine ⟨ty_list g1.sr.sub (look_rep g1.sr r1 hl), Af.bind g1.sr z1 fun hs vs ρ2 F2 H2 g2 r2 z2 => ?_⟩
      obtain ⟨z, e, q⟩ := ans_some z2
      obtain ⟨d, hd, e⟩ := Option.bind_eq_some_iff.mp e
      obtain ⟨ds, hds, e⟩ := Option.bind_eq_some_iff.mp e
      cases d with
      | list l2 => exact hp F2 H2 v vs l2 ds z Q g2.sr.sub (look_rep g2.sr (r1.mono g2.sub) hd) (looks_rep g2.sr r2 hds) e fun u F' H' f ru => q.okf g2.sr f ru
      | none => cases e
      | bool _ => cases e
      | int _ => cases e
      | str _ => cases e
      | tuple _ => cases e
      | dict _ => cases e
    | none => exact z1.elim
    | bool _ => exact z1.elim
    | int _ => exact z1.elim
    | str _ => exact z1.elim
    | tuple _ => exact z1.elim
    | dict _ => exact z1.elim
def rFindD (K : PySem.W.Frag) (ok : List D → D → Option Int) : V → List V → Hp → VK → Prop := fun x xs H Q => ∃ a ws ds y d k, x = .ref a ∧ xs = [y] ∧ SqL K H a ws ∧ Reps K H ds ws ∧ Rep K H d y ∧ ok ds d = some k ∧ Q (.int k) H
def findOk (l : List D) (d : D) : Bool := PyData.plainAll l && d.plain && decide (min (PyData.depthAll l) d.depth ≤ 60) && decide (l.length ≤ 16777216)
def idxD (l : List D) (d : D) : Option Int := if findOk l d = true then (SeqAt.dataPlace l d).map fun (j : Nat) => (j : Int) else none
def cntD (l : List D) (d : D) : Option Int := if findOk l d = true then some ((l.countP fun y => PyData.eqv y d : Nat) : Int) else none
def findB (ok : List D → D → Option Int) (l : List D) : List D → Option D
  | [d] => (ok l d).map PyData.int
  | _ => none
theorem findOk_at {l : List D} {d : D} (h : findOk l d = true) : PyData.plainAll l = true ∧ d.plain = true ∧ min (PyData.depthAll l) d.depth ≤ 60 ∧ l.length ≤ 16777216 := by
  unfold findOk at h
  simp only [Bool.and_eq_true, decide_eq_true_eq] at h
  exact ⟨h.1.1.1, h.1.1.2, h.1.2, h.2⟩
theorem RepBs.here {K : PySem.W.Frag} {F H : Hp} (s : Same F H) {l : List D} {vs : List V} (h : Reps K F l vs) : Reps K H l vs := Reps.mono s _ _ h
theorem pm_find {K : PySem.W.Frag} {ok : List D → D → Option Int} : PM K (rFindD K ok) (findB ok) := fun F H x xs l ds e Q s h1 h2 hz q => by
  unfold findB at hz
  split at hz
  · rename_i d
    obtain ⟨k, hk, rfl⟩ := Option.map_eq_some_iff.mp hz
    obtain ⟨a, ws, rfl, q1, r1⟩ := h1.list s
    obtain ⟨y, rfl, ry⟩ := h2.one
    exact ⟨a, ws, l, y, d, k, rfl, rfl, .inl q1, Reps.mono s _ _ r1, ry.here s, hk, q _ F H (Fr.refl s) rep_int⟩
  · cases hz
section
variable {X : Cx}
theorem mt_idxD (hu : X.A.units + 64 < cLine) : MtR X "list.index" (rFindD X.K idxD) := by
  intro pins s σ H x xs v us Q I rx rxs h
  obtain ⟨a, ws, ds, y, d, k, rfl, rfl, hs, hr, hy, hk, q⟩ := h
  cases rx
  obtain ⟨uy, rfl, ry⟩ := vals1 rxs
  obtain ⟨bs, r1⟩ := Rep.reads I d y uy hy ry
  obtain ⟨its, rv, hl, hz⟩ := I.list hs
  obtain ⟨as, r2⟩ := Reps.reads I ds ws its hr rv
  unfold idxD at hk
  split at hk
  · rename_i ok
    obtain ⟨o1, o2, o3, o4⟩ := findOk_at ok
    obtain ⟨j, hj, rfl⟩ := Option.map_eq_some_iff.mp hk
    have r2' : ReadsAll s.heap its.toArray.toList ds as := by simpa using r2
    obtain ⟨hj1, hit, hno⟩ := SeqAt.hit_at r2' o1 hj
    have hlen := SeqAt.len_at r2'
    obtain ⟨⟨cls, dd, data, sl⟩, ho, hc, n, hd'⟩ := id hl.isList
    simp only at hc hd'
    subst hc hd'
    refine PySem.call_meets PySem.F.slot_list_index ⟨_, ho, rfl⟩ PySem.F.entry_list_index (PySem.F.args_list_index_2 _ _)
      (SeqAt.list_index2_found a its.toArray n dd sl uy (fun m => if hm : m < its.toArray.size then PyData.eqv (SeqAt.readOf s.heap its.toArray[m]) d else false) j hj1 (Nat.zero_le _) (by omega) ?_ ?_) ⟨ho, fun m hm => ?_, ?_⟩
    · simp only [hj1, dif_pos]; exact hit
    · intro m hm _ hlt; simp only [hm, dif_pos]; exact hno m hm hlt
    · simp only [hm, dif_pos]
      exact SeqAt.items_plain r2' r1 o1 o2 (by omega) _ (Array.getElem_mem hm)
    · exact ⟨.int j, H, I.tok _, ⟨_, rfl⟩, q⟩
  · cases hk
theorem mt_cntD (hu : X.A.units + 64 < cLine) : MtR X "list.count" (rFindD X.K cntD) := by
  intro pins s σ H x xs v us Q I rx rxs h
  obtain ⟨a, ws, ds, y, d, k, rfl, rfl, hs, hr, hy, hk, q⟩ := h
  cases rx
  obtain ⟨uy, rfl, ry⟩ := vals1 rxs
  obtain ⟨bs, r1⟩ := Rep.reads I d y uy hy ry
  obtain ⟨its, rv, hl, hz⟩ := I.list hs
  obtain ⟨as, r2⟩ := Reps.reads I ds ws its hr rv
  unfold cntD at hk
  split at hk
  · rename_i ok
    obtain ⟨o1, o2, o3, o4⟩ := findOk_at ok
    cases hk
    refine SeqAt.count_list_data (vs := its.toArray) hl.isList (by simpa using r2) r1 o1 o2 (by omega) ?_
    exact ⟨.int _, H, I.tok _, ⟨_, rfl⟩, q⟩
  · cases hk
end
/-! ### += of numbers -/
def sAug (i : Nat) (p : D → D → Option D) (e : Dn) : Sn := fun ρ => match ρ[i]? with
  | some (.val d) => (e ρ).st fun x ρ1 => match p d x with
    | some z => if notIo ρ1 i = true then .next (ρ1.set i (.val z)) else .no
    | none => .no
  | _ => .no
theorem ds_aug {X : Cx} {W : Wt} (i : Nat) {x : Str} {e : Expr} {d : Dn} {op : Operator} {f : Int → Int → Int} {p : D → D → Option D} {pos pos' : Pos} (hN : X.N.Nodup) (ho : PIp X op (ipI f)) (hp : ∀ a b z, p a b = some z → ∃ i j, a = .int i ∧ b = .int j ∧ z = .int (f i j)) (h : PE X e (tE X.K W d)) (hi : X.N[i]? = some x := by rfl) (hx : Loc X.env.scope x := by first | exact Or.inl rfl | exact Or.inr rfl)
    (hf : X.fn x = true ∨ X.env.scope.names.lookup x = some .local := by first | exact .inl rfl | exact .inr rfl | assumption) : PS X (.AugAssign (.Name x pos') op e pos) (tS X.K W (sAug i p d)) :=
  PS.imp (ps_aug hN hi hx h ho hf) fun D σ H ⟨ρ, F, s, q⟩ => by
    cases hr : ρ[i]? with
    | none => simp only [sAug, hr] at q; exact q.elim
    | some l =>
      cases l with
      | un => simp only [sAug, hr] at q; exact q.elim
      | own m b => simp only [sAug, hr] at q; exact q.elim
      | val d0 =>
        simp only [sAug, hr] at q
        obtain ⟨v, h1, h2⟩ := s.val i d0 hr
        refine ⟨v, h1, AfS.bind s q fun y w ρ1 F1 H1 g r z => ?_⟩
        cases hz : p d0 y with
        | none => simp only [hz] at z; exact z.elim
        | some t =>
          simp only [hz] at z
          obtain ⟨i', j', rfl, rfl, rfl⟩ := hp d0 y t hz
          by_cases hn : notIo ρ1 i = true
          · rw [if_pos hn] at z
            refine ⟨i', j', by simpa only [Rep] using h2, by simpa only [Rep] using r, z _ _ _ (g.sr.setV hn rep_int)⟩
          · rw [if_neg hn] at z; exact z.elim
def addI : D → D → Option D
  | .int i, .int j => some (.int (i + j))
  | _, _ => none
theorem addI_at (a b z : D) (h : addI a b = some z) : ∃ i j, a = .int i ∧ b = .int j ∧ z = .int (i + j) := by
  unfold addI at h
  split at h
  · cases h; exact ⟨_, _, rfl, rfl, rfl⟩
  · cases h
theorem subI_at (a b z : D) (h : subB a b = some z) : ∃ i j, a = .int i ∧ b = .int j ∧ z = .int (i - j) := by
  unfold subB at h
  split at h
  · cases h; exact ⟨_, _, rfl, rfl, rfl⟩
  · cases h
/-! ### new lists by operators -/
def PF2 (K : PySem.W.Frag) (r : R2) (p : D → D → Option (List D)) : Prop :=
  ∀ F H x y d d2 l Q, Same F H → RepB K F H d x → RepB K F H d2 y → p d d2 = some l → (∀ b vs, H b = none → Reps K F l vs → Q (.ref b) (upd H b (.lst vs))) → r x y H Q
def fOp2 (p : D → D → Option (List D)) (a b : An) : Fn := fun ρ => (a ρ).bind fun h ρ1 => (b ρ1).bind fun k ρ2 => ans (((look ρ2 h).bind fun d => (look ρ2 k).bind fun e => p d e).map Mo.lst) ρ2
def catB : D → D → Option (List D)
  | .list i, .list j => if i.length + j.length ≤ sizeLine then some (i ++ j) else none
  | _, _ => none
def repB : D → D → Option (List D)
  | .list l, .int k => if decide (0 ≤ k) && decide (k < 2 ^ 62) && decide (l.length * k.toNat ≤ sizeLine) then some (List.replicate k.toNat l).flatten else none
  | _, _ => none
def rRepL : R2 := fun x y H Q => ∃ l k xs, x = .ref l ∧ y = .int k ∧ Rd H l (.lst xs) ∧ 0 ≤ k ∧ k < 2 ^ 62 ∧ xs.length * k.toNat ≤ sizeLine ∧ ∀ p, H p = none → Q (.ref p) (upd H p (.lst (List.replicate k.toNat xs).flatten))
section
variable {X : Cx} {W : Wt} {e e2 : Expr} {a b : An} {pos : Pos}
theorem f2_imp {r : R2} {p : D → D → Option (List D)} (hp : PF2 X.K r p) {σ : Sg} {H : Hp} {Q : VK} (q : tF X.K W (fOp2 p a b) σ H Q) : tOp r (tA X.K W a) (tA X.K W b) σ H Q := by
  obtain ⟨ρ, F, s, q⟩ := q
  refine AfF.bind s q fun h v ρ1 F1 H1 g1 r1 z1 => AfF.bind g1.sr z1 fun k w ρ2 F2 H2 g2 r2 z2 => ?_
  obtain ⟨m, e0, q⟩ := ansF_some z2
  obtain ⟨l, e1, rfl⟩ := Option.map_eq_some_iff.mp e0
  obtain ⟨x, hx, e2⟩ := Option.bind_eq_some_iff.mp e1
  obtain ⟨y, hy, e3⟩ := Option.bind_eq_some_iff.mp e2
  exact hp F2 H2 v w x y l Q g2.sr.sub (look_rep g2.sr (r1.mono g2.sub) hx) (look_rep g2.sr r2 hy) e3 fun c vs n rv => AfF.new g2.sr q n rv
theorem df_op {op : Operator} {r : R2} {p : D → D → Option (List D)} (ho : OpR X (binaryOp op) r) (hp : PF2 X.K r p) (ha : PE X e (tA X.K W a)) (hb : PE X e2 (tA X.K W b)) : PE X (.BinOp e op e2 pos) (tF X.K W (fOp2 p a b)) :=
  PE.imp (pe_op ho ha hb) fun _ _ _ q => f2_imp hp q
theorem pf_cat {K : PySem.W.Frag} : PF2 K rCatL catB := fun F H x y d e z Q s h1 h2 hz q => by
  unfold catB at hz
  split at hz
  · split at hz
    · rename_i i j c
      cases hz
      obtain ⟨a, vs, rfl, q1, r1⟩ := h1.list s
      obtain ⟨b, ws, rfl, q2, r2⟩ := h2.list s
      have l1 := r1.length
      have l2 := r2.length
      exact ⟨a, b, vs, ws, rfl, rfl, q1, q2, by omega, fun p hp => q p _ hp (r1.append r2)⟩
    · cases hz
  · cases hz
theorem reps_rep {K : PySem.W.Frag} {F : Hp} {l : List D} {vs : List V} (h : Reps K F l vs) : ∀ n : Nat, Reps K F (List.replicate n l).flatten (List.replicate n vs).flatten
  | 0 => .nil
  | n + 1 => by
    rw [List.replicate_succ, List.replicate_succ, List.flatten_cons, List.flatten_cons]
    exact h.append (reps_rep h n)
theorem pf_rep {K : PySem.W.Frag} : PF2 K rRepL repB := fun F H x y d e z Q s h1 h2 hz q => by
  unfold repB at hz
  split at hz
  · split at hz
    · rename_i l k c
      cases hz
      simp only [Bool.and_eq_true, decide_eq_true_eq] at c
      obtain ⟨a, vs, rfl, q1, r1⟩ := h1.list s
      have l1 := r1.length
      exact ⟨a, k, vs, rfl, h2.int, q1, c.1.1, c.1.2, by rw [← l1]; exact c.2, fun p hp => q p _ hp (reps_rep r1 _)⟩
    · cases hz
  · cases hz
theorem op_repL : OpR X (binaryOp .Mult) rRepL := by
  intro pins s σ H x y v u Q I rx ry h
  obtain ⟨l, k, xs, rfl, rfl, hR, k0, k1, hz, q⟩ := h
  cases rx
  obtain ⟨tk, rfl⟩ := ry
  obtain ⟨us, cap, rv, eo⟩ := Inv.rdL I hR
  have hl := rv.length
  have z0 : us.toArray.size * k.toNat ≤ sizeLine := by rw [List.size_toArray, ← hl]; exact hz
  have zc : ¬ us.toArray.size * k.toNat > (2 ^ 63 - 1) / 8 := by
    have : sizeLine ≤ (2 ^ 63 - 1) / 8 := by decide
    omega
  have zf : ¬ (!Builtin.List.listFitsIndex k) = true := by rw [fitsIndex_both (by omega) (by omega)]; exact Bool.false_ne_true
  have zl : ¬ Builtin.List.listTooLong (us.toArray.size * k.toNat) = true := by rw [notLongL z0]; exact Bool.false_ne_true
  have en : List.foldl (fun c1 c2 => c1 ++ c2) #[] (List.replicate (if us.toArray.isEmpty = true then 0 else k.toNat) us.toArray) = (List.replicate k.toNat us).flatten.toArray := by
    have g0 : ∀ m : Nat, List.foldl (fun c1 c2 => c1 ++ c2) #[] (List.replicate m us.toArray) = (List.replicate m us).flatten.toArray := fun m => by
      have w0 := foldl_rep us m []
      rwa [List.nil_append] at w0
    rw [g0]
    cases us with
    | nil => simp
    | cons c us => rw [if_neg (by simp)]
  refine wpAny_binaryOp_repeat_ref (U := "int") (T := "list") (by decide) ⟨_, eo, rfl⟩ (fun s' => typeIs_int s' k tk) noFill_list_mul F.fills_int_mul F.slot_int_rmul repeat_list F.slot_int_index.lookup
    (call_meets F.slot_int_rmul (typeIs_int s k tk) F.entry_int_rmul (F.args_int_rmul_2 _ _) (int___rmul___int_list k tk l us.toArray cap)
      ⟨eo, rfl, ⟨_, eo, rfl⟩, call_meets F.slot_list_mul ⟨_, eo, rfl⟩ F.entry_list_mul (F.args_list_mul_2 _ _) (AutoListH.list___mul___list_int_3 l us.toArray cap k tk zf zc zl) ⟨eo, ?_⟩⟩)
  rw [en]
  exact ⟨.ref _, _, I.lnew (t' := s.toks) (rv.rep k.toNat) (by rw [PyProof.Rows.lm_len_rep_flat, Nat.mul_comm]; exact hz), rfl, q _ I.fresh⟩
end
/-! ### what is not reached -/
def sNo : Sn := fun _ => .no
def dNo : Dn := fun _ => .no
theorem ds_no {X : Cx} {W : Wt} {st : Stmt} : PS X st (tS X.K W sNo) := ⟨fun _ _ _ _ _ _ ⟨_, _, _, q⟩ => q.elim⟩
theorem de_no {X : Cx} {W : Wt} {e : Expr} : PE X e (tE X.K W dNo) := ⟨fun _ _ _ _ _ _ ⟨_, _, _, q⟩ => q.elim⟩
/-! ### tuple(range(..)) -/
def rng1T (ds : List D) : Option D := (rng1L ds).map PyData.tuple
def rng2T (ds : List D) : Option D := (rng2L ds).map PyData.tuple
section
variable {X : Cx} {W : Wt} {e e2 : Expr} {a b : An} {pos p p2 pos2 : Pos}
theorem de_tupRg1 (hc : X.calm = true) (hm : X.mg "tuple" = none) (hm2 : X.mg "range" = none) (ha : PE X e (tA X.K W a)) (hg : Gl X "tuple" := by rfl) (hg2 : Gl X "range" := by rfl) (na : starEach [e] X.env = (false, eval e X.env) :: starEach [] X.env := by rfl)
    (nb : starEach [.Call (.Name "range" p2) [e] [] pos2] X.env = (false, eval (.Call (.Name "range" p2) [e] [] pos2) X.env) :: starEach [] X.env := by rfl) :
    PE X (.Call (.Name "tuple" p) [.Call (.Name "range" p2) [e] [] pos2] [] pos) (tE X.K W (dOpN rng1T (aCons a aNil))) :=
  PE.imp (pe_tupRg hc hg hm (prg_1 hg2 hm2 ha na) nb) fun σ H Q ⟨ρ, F, s, q⟩ => by
    have e1 : dOpN rng1T (aCons a aNil) ρ = (a ρ).bind fun h ρ1 => ans ((looks ρ1 [h]).bind rng1T) ρ1 := by
      unfold dOpN aCons aNil
      cases a ρ <;> rfl
    rw [e1] at q
    refine Af.bind s q fun h v ρ1 F1 H1 g r q1 => ?_
    obtain ⟨z, e, q⟩ := ans_some q1
    obtain ⟨ds, hd, e2⟩ := Option.bind_eq_some_iff.mp e
    obtain ⟨l, e3, rfl⟩ := Option.map_eq_some_iff.mp e2
    have rb := looks_rep g.sr (.cons r .nil) hd
    obtain ⟨j, rfl, h1, h2, rfl, h3⟩ := rng1L_at e3
    obtain ⟨w, ew, rw_⟩ := rb.one
    cases ew
    refine ⟨j, rw_.int, ⟨by decide, by decide, h1, h2, h3⟩, fun p hp => ?_⟩
    obtain ⟨f, ru⟩ := new_tuple (K := X.K) g.sr.sub hp reps_rg
    exact q.okf g.sr f ru
end
/-! ### the top's constants -/
structure GC (mg : Str → Option Value) (x : Str) (d : D) : Prop where
  ex : ∃ u, mg x = some u ∧ ((∃ i t, d = .int i ∧ u = .int i t) ∨ ∃ c t, d = .str c ∧ u = .str c t)
theorem de_glob {X : Cx} {W : Wt} {x : Str} {d : D} {pos : Pos} (c : GC X.mg x d) (hg : Gl X x := by rfl) (hd : (x == ("__debug__" : Str)) = false := by decide) : PE X (.Name x pos) (tE X.K W (dC d)) := by
  obtain ⟨u, h1, h2⟩ := c.ex
  rcases h2 with ⟨i, t, rfl, rfl⟩ | ⟨i, t, rfl, rfl⟩
  · exact de_c (pe_glob (v := .int i) hg h1 ⟨t, rfl⟩ hd) rep_int
  · exact de_c (pe_glob (v := .str i) hg h1 ⟨t, rfl⟩ hd) rep_str
end Ft
/-! Ft14: steps of Ft13's combinators. -/
namespace Ft
open PySem L2
open PySem.W (alike alikeAll dataLt dataLe)
section
variable {ρ : Rho} {i : Nat} {d e : Dn} {a : An} {as : Ans} {x y z : D} {l ds : List D}
def mlK3 (p : List D → List D → Option D) : Option D → Option (List D) → Option D
  | some (.list l), some ds => p l ds
  | _, _ => none
def mlK2 (p : List D → List D → Option D) (h : Hd) (hs : List Hd) (ρ : Rho) : RE D := ans (mlK3 p (look ρ h) (looks ρ hs)) ρ
def mlK1 (p : List D → List D → Option D) (as : Ans) (h : Hd) (ρ : Rho) : Option D → RE D
  | some (.list _) => (as ρ).bind (mlK2 p h)
  | _ => .no
def mlK (p : List D → List D → Option D) (as : Ans) (h : Hd) (ρ : Rho) : RE D := mlK1 p as h ρ (look ρ h)
theorem ev_dMl {p : List D → List D → Option D} : dMl p a as ρ = (a ρ).bind (mlK p as) := by
  unfold dMl
  refine bind_ext fun h ρ1 => ?_
  unfold mlK
  cases look ρ1 h with
  | none => rfl
  | some d =>
    cases d with
    | list l =>
      show (as ρ1).bind _ = (as ρ1).bind _
      refine bind_ext fun hs ρ2 => ?_
      unfold mlK2 mlK3
      cases look ρ2 h with
      | none => rfl
      | some d =>
        cases looks ρ2 hs with
        | none => cases d <;> rfl
        | some ds => cases d <;> rfl
    | none => rfl
    | bool _ => rfl
    | int _ => rfl
    | str _ => rfl
    | tuple _ => rfl
    | dict _ => rfl
theorem ev_mlK {p : List D → List D → Option D} {h : Hd} : mlK p as h ρ = mlK1 p as h ρ (look ρ h) := rfl
theorem ev_mlK1 {p : List D → List D → Option D} {h : Hd} : mlK1 p as h ρ (some (.list l)) = (as ρ).bind (mlK2 p h) := rfl
theorem ev_mlK2 {p : List D → List D → Option D} {h : Hd} {hs : List Hd} : mlK2 p h hs ρ = ans (mlK3 p (look ρ h) (looks ρ hs)) ρ := rfl
theorem ev_mlK3 {p : List D → List D → Option D} : mlK3 p (some (.list l)) (some ds) = p l ds := rfl
def augK3 (i : Nat) (ρ : Rho) : Option D → RS
  | some z => putK2 (notIo ρ i) i (.val z) ρ
  | none => .no
def augK2 (i : Nat) (p : D → D → Option D) (d : D) (x : D) (ρ : Rho) : RS := augK3 i ρ (p d x)
def augK (i : Nat) (p : D → D → Option D) (e : Dn) (ρ : Rho) : Option LV → RS
  | some (.val d) => (e ρ).st (augK2 i p d)
  | _ => .no
theorem ev_sAug {p : D → D → Option D} : sAug i p e ρ = augK i p e ρ (ρ[i]?) := by
  unfold sAug augK
  cases ρ[i]? with
  | none => rfl
  | some w =>
    cases w with
    | un => rfl
    | own _ _ => rfl
    | val d =>
      show (e ρ).st _ = (e ρ).st _
      refine st_ext fun x ρ1 => ?_
      unfold augK2 augK3
      cases p d x <;> rfl
theorem ev_augK {p : D → D → Option D} : augK i p e ρ (some (.val x)) = (e ρ).st (augK2 i p x) := rfl
theorem ev_augK2 {p : D → D → Option D} : augK2 i p x y ρ = augK3 i ρ (p x y) := rfl
theorem ev_augK3 : augK3 i ρ (some z) = putK2 (notIo ρ i) i (.val z) ρ := rfl
theorem ev_addI {i j : Int} : addI (.int i) (.int j) = some (.int (i + j)) := rfl
theorem ev_rng1T {o : List D} : rng1T o = (rng1L o).map PyData.tuple := rfl
def apF (p : D → D → Option (List D)) : Option D → Option D → Option (List D)
  | some d, some e => p d e
  | _, _ => none
def fop2L (p : D → D → Option (List D)) (h k : Hd) (ρ : Rho) : RE Mo := ans ((apF p (look ρ h) (look ρ k)).map Mo.lst) ρ
def fop2K (p : D → D → Option (List D)) (b : An) (h : Hd) (ρ : Rho) : RE Mo := (b ρ).bind (fop2L p h)
theorem ev_fOp2 {p : D → D → Option (List D)} {b : An} : fOp2 p a b ρ = (a ρ).bind (fop2K p b) := by
  unfold fOp2
  refine bind_ext fun h ρ1 => ?_
  unfold fop2K
  refine bind_ext fun k ρ2 => ?_
  unfold fop2L apF
  cases look ρ2 h with
  | none => rfl
  | some d => cases look ρ2 k <;> rfl
theorem ev_fop2K {p : D → D → Option (List D)} {b : An} {h : Hd} : fop2K p b h ρ = (b ρ).bind (fop2L p h) := rfl
theorem ev_fop2L {p : D → D → Option (List D)} {h k : Hd} : fop2L p h k ρ = ans ((apF p (look ρ h) (look ρ k)).map Mo.lst) ρ := rfl
theorem ev_apF {p : D → D → Option (List D)} : apF p (some x) (some y) = p x y := rfl
theorem ev_cat {l m : List D} (h : l.length + m.length ≤ 16000000) : catB (.list l) (.list m) = some (l ++ m) := if_pos (Nat.le_trans h (by decide))
theorem rep_flat {v : D} : ∀ n : Nat, (List.replicate n [v]).flatten = List.replicate n v
  | 0 => rfl
  | n + 1 => by rw [List.replicate_succ, List.flatten_cons, rep_flat n, List.replicate_succ]; rfl
theorem rep_ok {v : D} {n : Nat} (h : n ≤ 16000000) : repB (.list [v]) (.int n) = some (List.replicate n v) := by
  have e1 : (n : Int).toNat = n := Int.toNat_natCast n
  have c : (decide ((0 : Int) ≤ n) && decide ((n : Int) < 2 ^ 62) && decide ([v].length * (n : Int).toNat ≤ sizeLine)) = true := by
    have a1 : decide ((0 : Int) ≤ n) = true := decide_eq_true (by omega)
    have a2 : decide ((n : Int) < 2 ^ 62) = true := decide_eq_true (by omega)
    have a3 : decide ([v].length * (n : Int).toNat ≤ sizeLine) = true := decide_eq_true (by rw [e1, List.length_singleton, Nat.one_mul]; exact Nat.le_trans h (by unfold sizeLine; omega))
    rw [a1, a2, a3]; rfl
  unfold repB
  simp only
  rw [c, e1, rep_flat]
  rfl
theorem ev_max2 {i j : Int} : max2B [.int i, .int j] = some (.int (if j > i then j else i)) := rfl
theorem ev_min2 {i j : Int} : min2B [.int i, .int j] = some (.int (if j < i then j else i)) := rfl
theorem ev_find {ok : List D → D → Option Int} : findB ok l [x] = (ok l x).map PyData.int := rfl
end
/-! ### sorted integers -/
def srt (l : List Int) : List Int := l.mergeSort fun a b => decide (a ≤ b)
theorem dLe_int {i j : Int} : dLe (.int i) (.int j) = decide (i ≤ j) := by
  have := congrFun (congrFun (PySem.W.dataLe_int (β := Int) id) i) j
  exact this
theorem srt_perm (l : List Int) : (srt l).Perm l := List.mergeSort_perm _ _
theorem srt_sorted (l : List Int) : (srt l).Pairwise (· ≤ ·) := by
  have := List.pairwise_mergeSort (le := fun a b : Int => decide (a ≤ b)) (fun a b c => by simp; omega) (fun a b => by simp; omega) l
  exact this.imp fun h => by simpa using h
theorem map_mergeSort {l : List Int} : (l.map PyData.int).mergeSort dLe = (srt l).map PyData.int := by
  unfold srt
  rw [List.map_mergeSort]
  intro a _ b _
  exact dLe_int.symm
theorem alike_ii : ∀ {l : List Int}, ((l.map PyData.int).all fun d => (l.map PyData.int).all fun e => alike d e) = true := by
  intro l
  simp only [List.all_eq_true, List.mem_map]
  rintro _ ⟨a, _, rfl⟩ _ ⟨b, _, rfl⟩
  simp [PySem.W.alike]
theorem sort_ints {l : List Int} (h : l.length ≤ 16777216) : sortB [.list (l.map PyData.int)] = some ((srt l).map PyData.int) := by
  show (if sortOk (l.map PyData.int) = true then some ((l.map PyData.int).mergeSort dLe) else none) = _
  rw [if_pos, map_mergeSort]
  unfold sortOk
  simp only [Bool.and_eq_true, alike_ii, true_and, Bool.or_eq_true, decide_eq_true_eq, List.length_map]
  refine ⟨⟨.inr (.inl ?_), ?_⟩, h⟩
  · simp only [List.all_eq_true, List.mem_map]
    rintro _ ⟨a, _, rfl⟩
    rfl
  · simp only [List.all_eq_true, List.mem_map, decide_eq_true_eq]
    rintro _ ⟨a, _, rfl⟩
    simp [PyData.depth]
theorem rng1L_ok {j : Int} (h : j ≤ 16777216) (h2 : -1000000 ≤ j) : rng1L [.int j] = some (rangeL 0 j) := by
  unfold rng1L
  rw [ev_rng1 (by omega) (by omega)]
  show (if (rangeL 0 j).length ≤ 16777216 then some (rangeL 0 j) else none) = _
  rw [if_pos (by rw [rangeL_len]; omega)]
end Ft
/-! Ft16: dict displays that are never changed. -/
namespace Ft
open PySem L2 PySem.Spec PyProof.Rows
def vL : List Dn → Vn
  | [] => vNil
  | d :: ds => vCons d (vL ds)
/-- a display with constant keys: a tree -/
def dDict (ks : List Key) (ds : List Dn) : Dn := fun ρ => (vL ds ρ).bind fun l ρ1 => ans (if decide ks.Nodup && decide (ks.length = l.length) && decide (ks.length ≤ 15) then some (.dict ((ks.map kD).zip l)) else none) ρ1
def trs (K : PySem.W.Frag) (W : Wt) : List Key → List Dn → List (TE × TE)
  | k :: ks, d :: ds => (tC (kV k), tE K W d) :: trs K W ks ds
  | _, _ => []
theorem mergeK_nodup : ∀ (kvs acc : List (Key × V)), ((acc ++ kvs).map (·.1)).Nodup → mergeK acc kvs = acc ++ kvs
  | [], acc, _ => by simp [mergeK]
  | (k, v) :: kvs, acc, h => by
    have hk : valV acc k = none := by
      cases e : valV acc k with
      | none => rfl
      | some w =>
        have : k ∈ acc.map (·.1) := by
          have h2 : (acc.any fun kv => decide (kv.1 = k)) = true := by rw [valV_any, e]; rfl
          obtain ⟨p, hp, hq⟩ := List.any_eq_true.mp h2
          exact List.mem_map.mpr ⟨p, hp, by simpa using hq⟩
        rw [List.map_append, List.map_cons] at h
        have := (List.nodup_append.mp h).2.2 _ this _ (List.mem_cons_self ..)
        exact absurd rfl this
    show mergeK (putK acc k v) kvs = _
    rw [putK_new v hk, mergeK_nodup kvs (acc ++ [(k, v)]) (by simpa using h)]
    simp
section
variable {K : PySem.W.Frag} {W : Wt}
theorem pairs_imp : ∀ (ks : List Key) (ds : List Dn), ks.length = ds.length → ∀ {ρ : Rho} {σ : Sg} {F H : Hp} {R : List (V × V) → Hp → Prop}, SR K ρ σ F H → Af K W (RV K) ρ σ F H (fun vs H3 => R ((ks.map kV).zip vs) H3) (vL ds ρ) → tPairs (trs K W ks ds) σ H R
  | [], [], _, ρ, σ, F, H, R, s, q => by
    exact q [] F H (Go.refl s) .nil
  | k :: ks, d :: ds, hl, ρ, σ, F, H, R, s, q => by
    refine Af.bind (R2 := RV K) (Q2 := fun vs H3 => R (((k :: ks).map kV).zip vs) H3) s q fun x v ρ1 F1 H1 g r z => ?_
    refine pairs_imp ks ds (by simpa using hl) g.sr ?_
    cases hv : vL ds ρ1 with
    | no => rw [hv] at z; exact z
    | ex x ρ2 => rw [hv] at z; exact z
    | ok l ρ2 =>
      rw [hv] at z
      exact fun vs F2 H2 g2 r2 => z (v :: vs) F2 H2 g2 (.cons (Rep.mono g2.sub _ _ r) r2)
  | [], _ :: _, hl, _, _, _, _, _, _, _ => by cases hl
  | _ :: _, [], hl, _, _, _, _, _, _, _ => by cases hl
theorem repP_zip : ∀ {ks : List D} {ds : List D} {vs : List V} {F : Hp}, ks.length = ds.length → Reps K F ds vs → RepP K F (ks.zip ds) vs
  | [], [], vs, F, _, h => by
    rw [reps_nil] at h
    subst h
    simp [RepP]
  | k :: ks, d :: ds, vs, F, hl, h => by
    obtain ⟨v, r, rfl, h1, h2⟩ := reps_cons.mp h
    simp only [List.zip_cons_cons, RepP]
    exact ⟨v, r, rfl, h1, repP_zip (by simpa using hl) h2⟩
  | [], _ :: _, _, _, hl, _ => by cases hl
  | _ :: _, [], _, _, hl, _ => by cases hl
end
section
variable {X : Cx} {W : Wt} {pos : Pos}
theorem zip_kV : ∀ (ks : List Key) (vs : List V), (ks.map kV).zip vs = (ks.zip vs).map fun kv => (kV kv.1, kv.2)
  | [], _ => by simp
  | _ :: _, [] => by simp
  | k :: ks, v :: vs => by simp [zip_kV ks vs]
theorem disp_imp {ks : List Key} {ds : List Dn} (hl : ks.length = ds.length) {σ : Sg} {H : Hp} {Q : VK} (q : tE X.K W (dDict ks ds) σ H Q) : tDisp (trs X.K W ks ds) σ H Q := by
  obtain ⟨ρ, F, s, q⟩ := q
  intro p hp
  have f : Fr F H F (upd H p (.dK [])) := Fr.own1 s.sub hp
  have s1 := s.fr f
  refine pairs_imp ks ds hl s1 ?_
  unfold dDict at q
  cases hv : vL ds ρ with
  | no => rw [hv] at q; exact q
  | ex x ρ1 => rw [hv] at q; exact fun c dx F' H' g z => q c dx F' H' ((f.go s).trans g) z
  | ok l ρ1 =>
    rw [hv] at q
    intro vs F3 H3 g r
    obtain ⟨z, e, q⟩ := ans_some q
    split at e
    · rename_i c
      cases e
      simp only [Bool.and_eq_true, decide_eq_true_eq] at c
      obtain ⟨⟨c1, c2⟩, c3⟩ := c
      have lv := r.length
      have np : ¬ Own ρ σ p := fun z => by
        obtain ⟨o, e⟩ := z.there s
        rw [hp] at e; cases e
      obtain ⟨k1, k2, k3⟩ := g.keep p _ upd_same np
      have k2 := k2 (sub_none s.sub hp)
      have hz : (ks.zip vs).length = ks.length := by rw [List.length_zip]; omega
      have hm : mergeK [] (ks.zip vs) = ks.zip vs := by
        have := mergeK_nodup (ks.zip vs) [] (by
          rw [List.nil_append, List.map_fst_zip (by omega)]; exact c1)
        rwa [List.nil_append] at this
      refine ⟨k1, ks.zip vs, zip_kV ks vs, by omega, ?_⟩
      rw [hm]
      have g2 := ((f.go s).trans g).grow (o := .dK (ks.zip vs)) hp k2 k3
      have g3 := g2.freeze hp k2 upd_same k3
      refine q _ _ _ g3 ?_
      have sm : Same F3 (upd F3 p (.dK (ks.zip vs))) := upd_same' k2
      show Rep X.K (upd F3 p (.dK (ks.zip vs))) (.dict ((ks.map kD).zip l)) (.ref p)
      simp only [Rep]
      refine ⟨p, vs, rfl, .inl ⟨ks.zip vs, .inl upd_same, ?_, ?_⟩, repP_zip (by rw [List.length_map]; exact c2) (Reps.mono sm _ _ r)⟩
      · have e2 : (ks.zip vs).map (fun e => kD e.1) = ((ks.zip vs).map (·.1)).map kD := by rw [List.map_map]; rfl
        rw [List.map_fst_zip (by rw [List.length_map]; omega), e2, List.map_fst_zip (by omega)]
      · rw [List.map_snd_zip (by omega)]
    · cases e
theorem de_dict {keys : List (Option Expr)} {values : List Expr} {ks : List Key} {ds : List Dn} (h : PPs X pos keys values (trs X.K W ks ds)) (hl : ks.length = ds.length) (hall : keys.all (·.isSome) = true) (hkv : keys.length = values.length) (h0 : keys ≠ []) (h15 : keys.length ≤ 15) : PE X (.Dict keys values pos) (tE X.K W (dDict ks ds)) :=
  PE.imp (pe_disp h hall hkv h0 h15) fun _ _ _ q => disp_imp hl q
theorem de_dict0 : PE X (.Dict [] [] pos) (tE X.K W (dDict [] [])) := PE.imp pe_dnewK fun σ H Q ⟨ρ, F, s, q⟩ => by
  intro p hp
  have q : Af X.K W (RD X.K) ρ σ F H Q (.ok (.dict []) ρ) := q
  have f := Fr.new1 (o := .dK []) s.sub hp
  refine q.okf s f ?_
  show Rep X.K (upd F p (.dK [])) (.dict []) (.ref p)
  simp only [Rep]
  exact ⟨p, [], rfl, .inl ⟨[], .inl upd_same, rfl, rfl⟩, by simp [RepP]⟩
theorem pps_nilD : PPs X pos [] [] (trs X.K W [] []) := pps_nil
theorem pps_str {x : Str} {v : Expr} {p2 : Pos} {ks : List (Option Expr)} {vs : List Expr} {kl : List Key} {d : Dn} {ds : List Dn} {n : Nat} (hv : PE X v (tE X.K W d)) (hr : PPs X pos ks vs (trs X.K W kl ds)) : PPs X pos (some (.Constant (.str x) n p2) :: ks) (v :: vs) (trs X.K W (.inr x :: kl) (d :: ds)) := pps_cons pe_str hv hr
theorem pps_int {x : Int} {v : Expr} {p2 : Pos} {ks : List (Option Expr)} {vs : List Expr} {kl : List Key} {d : Dn} {ds : List Dn} {n : Nat} (hv : PE X v (tE X.K W d)) (hr : PPs X pos ks vs (trs X.K W kl ds)) : PPs X pos (some (.Constant (.int x) n p2) :: ks) (v :: vs) (trs X.K W (.inl x :: kl) (d :: ds)) := pps_cons pe_int hv hr
end
/-! ### steps -/
def dictK (ks : List Key) (l : List D) (ρ : Rho) : RE D := ans (if decide ks.Nodup && decide (ks.length = l.length) && decide (ks.length ≤ 15) then some (.dict ((ks.map kD).zip l)) else none) ρ
theorem ev_dDict {ks : List Key} {ds : List Dn} {ρ : Rho} : dDict ks ds ρ = (vL ds ρ).bind (dictK ks) := rfl
theorem ev_dictK0 {ρ : Rho} : dictK [] [] ρ = .ok (.dict []) ρ := rfl
theorem ev_dictK1 {k : Key} {x : D} {ρ : Rho} : dictK [k] [x] ρ = .ok (.dict [(kD k, x)]) ρ := by
  unfold dictK
  rw [if_pos (by simp)]
  rfl
theorem ev_vL0 {ρ : Rho} : vL [] ρ = vNil ρ := rfl
theorem ev_vL1 {d : Dn} {ds : List Dn} {ρ : Rho} : vL (d :: ds) ρ = vCons d (vL ds) ρ := rfl
end Ft
/-! Ft17: the law's own def where nothing is being shown (for repr). -/
namespace Ft
open PySem L2 PySem.Spec PyProof.Rows
/-- the promise of a def, where no repr is under way -/
structure FnG (P : Program) (w : World) (K : PySem.W.Frag) (mg : Str → Option Value) (base : Heap) (CX : CXT) (k : Nat) (f : Addr) (fd : FuncData) (ps : List Str) (sp : Sp) : Prop where
  go : ∀ (A : Around) (outer : List Env) (s : Shared) (H : Hp) (as : Args) (us : List Value) (vs : List V) (Q : VK) (E : XK), A.guards = some [] → Room k A → Env0 P w K mg base A outer s H → BindsTo s fd as (ps.zip us) → Vals vs us → sp vs H Q E →
    codeAny (model P w) A (.call (.ref f) as) (CR CX outer P w H s Q E) s
theorem fnG {CX : CXT} {P : Program} {w : World} {K : PySem.W.Frag} {mg : Str → Option Value} {base : Heap} {k : Nat} {f : Addr} {x qual : Str} {st : Stmt} {fd : FuncData} {N ps : List Str} {sp : Sp} (Fx : Fun K x qual st f fd) (S : FnScope N ps (defScope st))
    (len : ∀ vs H Q E, sp vs H Q E → vs.length = ps.length)
    (hb : ∀ (cdv : Value) (A : Around) (outer : List Env) (s : Shared) (H : Hp) (vs : List V) (Q : VK) (E : XK), A.guards = some [] → Room k (A.deeper (envOfC qual (defScope st) s.heap.objs.size f cdv)) → sp vs H Q E →
      ∃ t, PSs (cxOf CX P w K mg base N qual (defScope st) f cdv A outer s H E) (defBody st) t ∧ t { nx := fun _ H' => Q .non H', rt := Q } (L2.start N vs) H) : FnG P w K mg base CX (k + 1) f fd ps sp := by
  obtain ⟨oc, od, kV, doc, pm, an, cdv, ct, osl, rfl, lk, hcd⟩ := Fx.ex
  constructor
  intro A outer s H as us vs Q E hg hr e0 bd rv hsp
  have nl := len _ _ _ _ hsp
  have kin := e0.mod.kin.keeps fun b o e => (e0.bs b o e).1
  have lim := e0.mod.nolimit.keeps fun b o e => (e0.bs b o e).1
  refine codeAny_call_function hr.depth (kin _ _ lk) rfl S.co S.gen rfl (PySem.W.codeRec_of kin hcd) (bd _ _ _ _ ?_)
  refine wpAny_newFunctionEnv_cells S.kind ?_ fun env he s1 ic => ?_
  · rintro ⟨n, v⟩ hy
    exact (S.par n (List.of_mem_zip hy).1).imp id fun q => ⟨q, PySem.W.cellsFrom_some _ _ _ (.inl q)⟩
  · subst he
    refine ⟨lim.keeps ic.toInCall.keep, codeAny_func ?_⟩
    obtain ⟨t, ht, hq⟩ := hb cdv A outer s H vs Q E hg (hr.deeper _) hsp
    have I := inv_start (CX := CX) (P := P) (w := w) (K := K) (mg := mg) (base := base) (qual := qual) (f := f) (cd := cdv) (E := E) S hr.hd e0 nl rv ic
    refine wpAny_mono (ht.run [] s1 (L2.start N vs) H _ I hq) (fun fl s' z => ?_) fun _ _ z => z
    cases fl with
    | ret u =>
      obtain ⟨v, σ', H', J, r, q⟩ := z
      exact ⟨v, H', J.os, J.bare, J.base, J.hok, r, q⟩
    | next =>
      obtain ⟨σ', H', J, q⟩ := z
      exact ⟨.non, H', J.os, J.bare, J.base, J.hok, rfl, q⟩
    | brk => exact z.elim fun _ z => z.elim fun _ z => z.2.elim
    | cont => exact z.elim fun _ z => z.elim fun _ z => z.2.elim
/-- the head's call, where no repr is under way -/
theorem law_callG {P : Program} {w : World} {K : PySem.W.Frag} {mg mb : Str → Option Value} {CX : CXT} {k : Nat} {fa a : Addr} {fd : FuncData} {x : Str} {sp : Sp} {s₁ : Shared} {us : List Value} {ns : List Int} (KX : K.In s₁.heap) (h1 : s₁.heap.Ns mainGlobals mg) (h2 : s₁.heap.Ns builtinsNs mb)
    (h3 : ∀ x : Str, x ≠ "__name__" → mb x = bootBuiltins x) (h4 : s₁.heap.NoLimit) (h5 : s₁.gens = #[]) (ha : s₁.heap.get? a = some { cls := .type "list", data := .seq us.toArray }) (hi : IntsAre us ns) (hl : ns.length ≤ sizeLine) (hr : Room k callerA) (nl : noL K = true)
    (F : ∀ base : Heap, K.In base → base.Ns mainGlobals mg → FnG P w K mg base CX k fa fd [x] sp) (hbd : ∀ (s : Shared) (u : Value), BindsTo s fd ⟨[u], []⟩ [(x, u)])
    (hsp : ∀ H : Hp, Rd H a (.lst (ns.map V.int)) → sp [.ref a] H (fun v _ => v = .bl true) fun _ _ _ => False) (hCX : ∀ H e s', CX [] H s₁ (fun _ _ _ => False) e s' → False) :
    codeAny (model P w) callerA (.call (.ref fa) ⟨[.ref a], []⟩) (fun r s' => r = .ok (.ret (.bool true)) ∧ OldK s₁.heap s'.heap ∧ s'.os = s₁.os ∧ AllBare s'.gens) s₁ := by
  have nK : K.lookup a = none := by
    cases e : K.lookup a with
    | none => rfl
    | some o =>
      have e2 := KX a o e
      rw [ha] at e2
      cases e2
      exact absurd rfl (noL_at nl e)
  let oL : Obj := { cls := .type "list", data := .seq us.toArray }
  let H : Hp := fun b => if b = a then some (.frz oL (.lst (ns.map V.int))) else none
  have Ha : H a = some (.frz oL (.lst (ns.map V.int))) := if_pos rfl
  have Hn : ∀ {b : Addr}, b ≠ a → H b = none := fun n => if_neg n
  have rv := vals_ints hi
  have hok : HOk P w H s₁.heap := fun b u z => by
    by_cases hb : b = a
    · subst hb
      rw [Ha] at z
      cases z
      exact ⟨ha, by rw [List.length_map]; exact hl, us, _, rv, ha⟩
    · rw [Hn hb] at z
      cases z
  -- what isn't the script stays in the base
  have keep : ∀ {b : Addr} {o : Obj}, s₁.heap.get? b = some o → b ≠ a → (hidT s₁.heap H).get? b = some o := fun e n => hidT_get e (Hn n)
  have tab : ∀ {b : Addr} {m : Str → Option Value}, s₁.heap.Ns b m → (hidT s₁.heap H).Ns b m := fun {b m} ⟨o, es, ep, e, d, r⟩ => by
    refine ⟨o, es, ep, keep e (fun z => ?_), d, r⟩
    subst z
    rw [ha] at e
    cases e
    have d2 : Data.seq us.toArray _ = Data.dict es ep := d
    cases d2
  have Kb : K.In (hidT s₁.heap H) := fun b o e => keep (KX b o e) fun z => by
    subst z
    rw [nK] at e
    cases e
  obtain ⟨mc, l1, l2⟩ := h4
  have e0 : Env0 P w K mg (hidT s₁.heap H) callerA [] s₁ H :=
    { frames := rfl, mod := ⟨Kb, tab h1, ⟨mb, tab h2, h3⟩, ⟨mc, tab l1, l2⟩⟩, bs := (fun b o e => of_hidT e), bsz := Nat.le_of_eq (hidT_size _ _), funs := trivial, frf := (fun b hb => by cases hb), hok := hok, bare := .of_eq h5 }
  refine codeAny_mono ((F _ Kb (tab h1)).go callerA [] s₁ H ⟨[.ref a], []⟩ [.ref a] [.ref a] _ _ rfl hr e0 (hbd s₁ (.ref a)) (.cons rfl .nil) (hsp H (.inr ⟨oL, Ha⟩))) fun r s' h => ?_
  cases r with
  | error e => exact (hCX H e s' h).elim
  | ok fl =>
    cases fl with
    | next => exact h.elim
    | brk => exact h.elim
    | cont => exact h.elim
    | ret u =>
      obtain ⟨v, H', os, bare, un, hok', r', q⟩ := h
      obtain rfl : v = .bl true := q
      obtain rfl : u = Value.bool true := r'
      refine ⟨rfl, OldK.of_keep fun b o e => ?_, os, bare⟩
      by_cases hb : b = a
      · subst hb
        have z2 := un.frzs b oL _ Ha
        obtain ⟨e1, _⟩ := hok b _ Ha
        obtain ⟨e2, _⟩ := hok' b _ z2
        rw [e] at e1
        cases e1
        exact e2
      · exact un.keep b o e (Hn hb) (fun z => by cases z) (by simp)
theorem law_fnG {P : Program} {w : World} {K : PySem.W.Frag} {mg : Str → Option Value} {fa : Addr} {xr : XR} {st : Stmt} {k : Nat} {g : Cn} (d : Df K mg "law" st) (hfa : mg "law" = some (.ref fa))
    (hb : ∀ (kV doc pm : Value) (an : Option Addr) (cdv ct : Value) (us : List Value), us.length = 1 → bindArgs (PySem.W.fnOf "law" "law" (defArgs st) (defBody st) (defScope st) .none kV doc pm an cdv ct) ⟨us, []⟩ = pure ((["script"] : List Str).zip us))
    (F : ∀ base : Heap, K.In base → base.Ns mainGlobals mg → ∀ (f : Addr) (fd : FuncData), Fun K "law" "law" st f fd → FnG P w K mg base (L2.CX P w) k f fd ["script"] (SpOf K xr 1 g)) :
    ∃ fd : FuncData, (∀ (s : Shared) (v : Value), BindsTo s fd ⟨[v], []⟩ [("script", v)]) ∧ ∀ base : Heap, K.In base → base.Ns mainGlobals mg → FnG P w K mg base (L2.CX P w) k fa fd ["script"] (SpOf K xr 1 g) := by
  obtain ⟨f, fd, Fx, h1, h2⟩ := d.ex
  cases hfa.symm.trans h1
  refine ⟨fd, fun s v => ?_, fun base h3 h4 => F base h3 h4 _ fd Fx⟩
  obtain ⟨oc, od, kV, doc, pm, an, cdv, ct, osl, rfl, lk, hcd⟩ := Fx.ex
  exact .of_eq (hb kV doc pm an cdv ct [v] rfl)
theorem walk_lawG {l : PySem.W.OpenLaw} {q : Program} {loose : List Str} {XP : (Str → Option Value) → Heap → Prop} {YP : World → Heap → Prop} {d : DefRec} {K : Params → PySem.W.Frag} {k : Nat} {g : Cn} {xr : XR} (hn : l.most = some 63) (hdf : d.params.defaults = []) (hr : Room k callerA)
    (hY : ∀ (w : World) (h : Heap), YP w h → (K w.params).In h) (nl : ∀ w : World, noL (K w.params) = true) (pl : LawP g)
    (F : ∀ (w : World) (mg : Str → Option Value) (fa : Addr) (h : Heap), (K w.params).In h → h.Ns mainGlobals mg → mg d.name = some (.ref fa) →
      ∃ fd : FuncData, (∀ (s : Shared) (u : Value), BindsTo s fd ⟨[u], []⟩ [("script", u)]) ∧ ∀ base : Heap, (K w.params).In base → base.Ns mainGlobals mg → FnG l.prog w (K w.params) mg base (L2.CX l.prog w) k fa fd ["script"] (SpOf (K w.params) xr 1 g)) :
    PySem.W.WalkO q loose XP YP l.row.toRowW d [] (fun f vs => PySem.call f vs) := by
  refine Att.attach_callB hn hdf fun w s₀ s₁ mg mb fa o pm cd doc a vs ns G Y ho hd hcd hmg hobj hints hlen hbits hg => ?_
  have kin := hY w _ Y
  obtain ⟨fd, b1, b2⟩ := F w mg fa _ kin G.T.g hmg
  refine law_callG kin G.T.g G.T.b G.T.builtins G.T.nolimit hg hobj hints (Nat.le_trans hlen (by decide)) hr (nl w) b2 b1 (fun H hR => sp_law pl (nl w) hlen hbits (.inl hR)) fun H e s' h => ?_
  obtain ⟨_, _, _, _, _, _, _, _, _, _, _, _, z⟩ := h
  exact z
/-- a def's body, where no repr is under way -/
theorem def_okG {P : Program} {w : World} {K : PySem.W.Frag} {mg : Str → Option Value} {base : Heap} {xr : XR} {x qual : Str} {st : Stmt} {f : Addr} {fd : FuncData} {N ps : List Str} {k n m : Nat} {body : Sn} (Fx : Fun K x qual st f fd) (S : FnScope N ps (defScope st)) (hp : ps.length = n) (hN : N.length = m) (hnm : n ≤ m)
    (hbody : ∀ (cdv : Value) (A : Around) (outer : List Env) (s : Shared) (H : Hp) (E : XK), A.guards = some [] → Room k (A.deeper (envOfC qual (defScope st) s.heap.objs.size f cdv)) →
      PSs (cxOf (L2.CX P w) P w K mg base N qual (defScope st) f cdv A outer s H E) (defBody st) (tS K ⟨xr, E⟩ body)) : FnG P w K mg base (L2.CX P w) (k + 1) f fd ps (SpOf K xr n (fn n m body)) :=
  fnG Fx S (fun vs H Q E h => h.1.trans hp.symm) fun cdv A outer s H vs Q E hg hr h => ⟨_, hbody cdv A outer s H E hg hr, body_ok hN hnm h⟩
end Ft
/-! Ft18: repr of trees. -/
namespace Ft
open PySem L2 PySem.Spec PyProof.Rows
theorem room200 {k : Nat} {A : Around} (r : Room k A) : A.units + 200 < cLine := by have := r.un; omega
def flatD : D → Bool
  | .none => true
  | .bool _ => true
  | .int _ => true
  | .str _ => true
  | _ => false
/-- a dict of flat values with flat keys -/
def flatDict : D → Bool
  | .dict kvs => kvs.all fun p => flatD p.1 && flatD p.2
  | _ => false
theorem flat_as {h : Heap} : ∀ (ds : List D) (vs : List Value) (as : List Addr), (∀ d ∈ ds, flatD d = true) → ReadsAll h vs ds as → as = []
  | [], _, _, _, r => by cases r; rfl
  | d :: ds, _, _, hf, r => by
    cases r with
    | cons h1 h2 =>
      have e2 := flat_as ds _ _ (fun x hx => hf x (List.mem_cons_of_mem _ hx)) h2
      subst e2
      have hd := hf d (List.mem_cons_self ..)
      cases h1 with
      | none => rfl
      | bool _ => rfl
      | int _ _ => rfl
      | str _ _ => rfl
      | list => cases hd
      | tuple => cases hd
      | dict => cases hd
def reprOk (d : D) : Bool := d.showable && (!d.hasDict || flatDict d) && decide (d.depth ≤ 150) && decide (d.shown.length + 64 ≤ sizeLine)
def reprB : List D → Option D
  | [d] => if reprOk d = true then some (.str d.shown) else none
  | _ => none
def rRepr (K : PySem.W.Frag) : List V → Hp → VK → Prop := fun xs H Q => ∃ x d, xs = [x] ∧ Rep K H d x ∧ reprOk d = true ∧ Q (.str d.shown) H
theorem reprOk_at {d : D} (h : reprOk d = true) : d.showable = true ∧ (d.hasDict = false ∨ flatDict d = true) ∧ d.depth ≤ 150 ∧ d.shown.length + 64 ≤ sizeLine := by
  unfold reprOk at h
  simp only [Bool.and_eq_true, decide_eq_true_eq, Bool.or_eq_true, Bool.not_eq_true'] at h
  exact ⟨h.1.1.1, h.1.1.2, h.1.2, h.2⟩
section
variable {X : Cx}
theorem cr_repr (hg : X.A.guards = some []) (hu : X.A.units + 200 < cLine) : CallR X (.builtin "repr") (rRepr X.K) := by
  intro pins s σ H xs us Q I r h
  obtain ⟨x, d, rfl, hd, ok, q⟩ := h
  obtain ⟨o1, o2, o3, o4⟩ := reprOk_at ok
  obtain ⟨u, rfl, ru⟩ := vals1 r
  obtain ⟨as, rd⟩ := Rep.reads I d x u hd ru
  have byRef : (d.hasDict = true → sysModules ∉ as) → ∀ a, u = .ref a → wpAny (model X.prog X.w) X.A (call (.builtin "repr") [u]) (EP X pins σ Q) X.xe s := fun no a e => by
    subst e
    refine repr_of_reads' (h₀ := s.heap) rd o1 no hg (by omega) (fun _ _ e => e) (fun h' t tk hk => ?_) (by omega)
    exact ⟨.str _, H, I.kept hk, ⟨_, rfl⟩, q⟩
  cases d with
  | none =>
    simp only [Rep] at hd
    subst hd
    cases ru
    exact PySem.P.repr_of_none ⟨.str _, H, I.tok _, ⟨_, rfl⟩, q⟩
  | bool b =>
    simp only [Rep] at hd
    subst hd
    cases ru
    exact PySem.P.repr_of_bool ⟨.str _, H, I.tok _, ⟨_, rfl⟩, q⟩
  | int i =>
    simp only [Rep] at hd
    subst hd
    obtain ⟨t, rfl⟩ := ru
    exact PySem.P.repr_of_int (by simpa [PyData.showable] using o1) ⟨.str _, H, I.tok _, ⟨_, rfl⟩, q⟩
  | str c =>
    simp only [Rep] at hd
    subst hd
    obtain ⟨t, rfl⟩ := ru
    refine PySem.P.repr_of_str ⟨.str _, H, I.tok _, ⟨_, rfl⟩, q⟩ ?_
    have : (PyData.str c).shown = reprText c := by simp only [PyData.shown]
    rw [this] at o4
    omega
  | list l =>
    simp only [Rep] at hd
    obtain ⟨a, vs, rfl, _, _⟩ := hd
    exact byRef (fun z => by rcases o2 with o2 | o2; · rw [o2] at z; cases z
                             · cases o2) a ru
  | tuple l =>
    simp only [Rep] at hd
    obtain ⟨a, vs, rfl, _, _⟩ := hd
    exact byRef (fun z => by rcases o2 with o2 | o2; · rw [o2] at z; cases z
                             · cases o2) a ru
  | dict l =>
    simp only [Rep] at hd
    obtain ⟨a, vs, rfl, hk, _⟩ := hd
    refine byRef (fun z => ?_) a ru
    have o2 : flatDict (.dict l) = true := by
      rcases o2 with o2 | o2
      · rw [o2] at z; cases z
      · exact o2
    have fl : ∀ p ∈ l, flatD p.1 = true ∧ flatD p.2 = true := fun p hp => by
      have := List.all_eq_true.mp o2 p hp
      simpa using this
    have na : (a == sysModules) = false := by
      rcases hk with ⟨es, h1, _⟩ | ⟨es, h1, _⟩
      · exact (dk_rd I.hok h1).2.1
      · exact (dt_rd I.hok h1).2.1
    cases ru
    cases rd with
    | dict h1 h2 h3 h4 h5 =>
      have e1 := flat_as _ _ _ (fun d hd => by obtain ⟨p, hp, rfl⟩ := List.mem_map.mp hd; exact (fl p hp).1) h4
      have e2 := flat_as _ _ _ (fun d hd => by obtain ⟨p, hp, rfl⟩ := List.mem_map.mp hd; exact (fl p hp).2) h5
      subst e1
      subst e2
      intro hm
      rw [List.append_nil, List.mem_singleton] at hm
      rw [← hm] at na
      simp at na
theorem pn_repr {K : PySem.W.Frag} : PN K (rRepr K) reprB := fun F H xs ds z Q s h hz q => by
  unfold reprB at hz
  split at hz
  · rename_i d
    split at hz
    · rename_i c
      cases hz
      obtain ⟨v, rfl, rv⟩ := h.one
      exact ⟨v, d, rfl, rv.here s, c, q _ F H (Fr.refl s) rep_str⟩
    · cases hz
  · cases hz
end
/-! ### a tuple times a number -/
def mulTB : D → D → Option D
  | .tuple l, .int k => if (!l.isEmpty) && decide (2 ≤ k) && decide (k ≤ 1000) && decide (l.length ≤ 1000) then some (.tuple (List.replicate k.toNat l).flatten) else none
  | _, _ => none
theorem p2_mulT {K : PySem.W.Frag} : P2 K (rRepT K) mulTB := fun F H x y d e z Q s h1 h2 hz q => by
  unfold mulTB at hz
  split at hz
  · split at hz
    · rename_i l k c
      cases hz
      simp only [Bool.and_eq_true, decide_eq_true_eq, Bool.not_eq_true'] at c
      obtain ⟨⟨⟨c1, c2⟩, c3⟩, c4⟩ := c
      obtain ⟨a, vs, rfl, q1, r1⟩ := h1.tuple s
      have l1 := r1.length
      have ne : vs ≠ [] := fun z => by
        subst z
        rw [List.length_nil] at l1
        rw [List.eq_nil_of_length_eq_zero l1] at c1
        cases c1
      refine ⟨a, k, vs, rfl, h2.int, q1, ne, c2, c3, by omega, fun p hp => ?_⟩
      obtain ⟨f, r⟩ := new_tuple (K := K) s hp (reps_rep r1 k.toNat)
      exact q _ _ _ f r
    · cases hz
  · cases hz
end Ft
/-! Ft19: dicts of this frame. -/
namespace Ft
open PySem L2 PySem.Spec PyProof.Rows
def keyD : D → Option Key
  | .int i => some (.inl i)
  | .str s => some (.inr s)
  | _ => none
def keysL : List D → Option (List Key)
  | [] => some []
  | d :: l => match keyD d, keysL l with
    | some k, some ks => some (k :: ks)
    | _, _ => none
def keysD : D → Option (List Key)
  | .tuple l => keysL l
  | _ => none
def tD (ks : List Key) : D := .tuple (ks.map kD)
theorem keyD_kD (k : Key) : keyD (kD k) = some k := by cases k <;> rfl
theorem keysL_kD : ∀ ks : List Key, keysL (ks.map kD) = some ks
  | [] => rfl
  | k :: ks => by simp only [List.map_cons, keysL, keyD_kD, keysL_kD ks]
theorem keysD_tD (ks : List Key) : keysD (tD ks) = some ks := keysL_kD ks
theorem keyD_at {d : D} {k : Key} (h : keyD d = some k) : d = kD k := by
  cases d <;> simp [keyD] at h
  · subst h; rfl
  · subst h; rfl
theorem keysL_at : ∀ {l : List D} {ks : List Key}, keysL l = some ks → l = ks.map kD
  | [], ks, h => by simp [keysL] at h; subst h; rfl
  | d :: l, ks, h => by
    unfold keysL at h
    split at h
    · rename_i k r h1 h2
      cases h
      rw [keyD_at h1, keysL_at h2]; rfl
    · cases h
theorem keysD_at {d : D} {ks : List Key} (h : keysD d = some ks) : d = tD ks := by
  cases d <;> simp [keysD] at h
  rw [tD, keysL_at h]
/-! ### tables of trees -/
section
variable {κ : Type} [DecidableEq κ] (enc : κ → D) (dec : D → Option κ)
def gG : List (D × D) → κ → Option D
  | [], _ => none
  | (a, b) :: r, k => if dec a = some k then some b else gG r k
def pG (l : List (D × D)) (k : κ) (v : D) : List (D × D) :=
  if (gG dec l k).isSome = true then l.map (fun p => if dec p.1 = some k then (p.1, v) else p) else l ++ [(enc k, v)]
def RG (K : PySem.W.Frag) (F : Hp) : List (D × D) → List (κ × V) → Prop
  | [], es => es = []
  | (a, b) :: l, es => ∃ k v r, es = (k, v) :: r ∧ a = enc k ∧ Rep K F b v ∧ RG K F l r
variable {K : PySem.W.Frag} {F F' : Hp}
theorem rg_iff : ∀ {l : List (D × D)} {es : List (κ × V)}, RG enc K F l es ↔ l.map (·.1) = es.map (fun e => enc e.1) ∧ RepP K F l (es.map (·.2))
  | [], es => by
    simp only [RG, RepP, List.map_nil]
    constructor
    · rintro rfl; exact ⟨rfl, rfl⟩
    · rintro ⟨h, _⟩
      cases es with
      | nil => rfl
      | cons => cases h
  | (a, b) :: l, es => by
    simp only [RG, RepP, List.map_cons]
    constructor
    · rintro ⟨k, v, r, rfl, rfl, h1, h2⟩
      obtain ⟨h3, h4⟩ := rg_iff.mp h2
      exact ⟨by rw [h3]; rfl, v, r.map (·.2), rfl, h1, h4⟩
    · rintro ⟨h, v, r, e, h1, h2⟩
      cases es with
      | nil => cases h
      | cons p es =>
        obtain ⟨k, w⟩ := p
        simp only [List.map_cons, List.cons.injEq] at h e
        obtain ⟨rfl, rfl⟩ := e
        exact ⟨k, w, es, rfl, h.1, h1, rg_iff.mpr ⟨h.2, h2⟩⟩
theorem RG.mono (e : Same F F') {l : List (D × D)} {es : List (κ × V)} (h : RG enc K F l es) : RG enc K F' l es := by
  obtain ⟨h1, h2⟩ := (rg_iff enc).mp h
  exact (rg_iff enc).mpr ⟨h1, RepP.mono e _ _ h2⟩
theorem RG.len : ∀ {l : List (D × D)} {es : List (κ × V)}, RG enc K F l es → l.length = es.length
  | [], es, h => by simp only [RG] at h; subst h; rfl
  | (a, b) :: l, es, h => by
    simp only [RG] at h
    obtain ⟨k, v, r, rfl, _, _, h⟩ := h
    rw [List.length_cons, List.length_cons, RG.len h]
variable (hd : ∀ k, dec (enc k) = some k)
include hd
theorem RG.get : ∀ {l : List (D × D)} {es : List (κ × V)}, RG enc K F l es → ∀ k, (∀ d, gG dec l k = some d → ∃ v, valV es k = some v ∧ Rep K F d v) ∧ (gG dec l k = none → valV es k = none)
  | [], es, h, k => by
    simp only [RG] at h; subst h
    exact ⟨fun d h => (by cases h), fun _ => rfl⟩
  | (a, b) :: l, es, h, k => by
    simp only [RG] at h
    obtain ⟨k', v, r, rfl, rfl, h1, h2⟩ := h
    have ih := RG.get h2 k
    unfold gG
    rw [hd k']
    by_cases e : k' = k
    · subst e
      rw [if_pos rfl]
      exact ⟨fun d h => by cases h; exact ⟨v, valV_pos rfl, h1⟩, fun h => by cases h⟩
    · rw [if_neg (fun z => e (Option.some.inj z)), valV_neg (p := (k', v)) e]
      exact ih
theorem RG.has {l : List (D × D)} {es : List (κ × V)} (h : RG enc K F l es) (k : κ) : (gG dec l k).isSome = (valV es k).isSome := by
  have q := RG.get enc dec hd h k
  cases e : gG dec l k with
  | none => rw [q.2 e]; rfl
  | some d => obtain ⟨v, e2, _⟩ := q.1 d e; rw [e2]; rfl
theorem rg_repl : ∀ {l : List (D × D)} {es : List (κ × V)} {k : κ} {d : D} {v : V}, RG enc K F l es → Rep K F d v → RG enc K F (l.map (fun p => if dec p.1 = some k then (p.1, d) else p)) (es.map fun kv => if kv.1 = k then (kv.1, v) else kv)
  | [], es, k, d, v, h, r => by simp only [RG] at h; subst h; rfl
  | (a, b) :: l, es, k, d, v, h, r => by
    simp only [RG] at h
    obtain ⟨k', w, es', rfl, rfl, h1, h2⟩ := h
    have ih := rg_repl (k := k) h2 r
    rw [List.map_cons, List.map_cons]
    show RG enc K F ((if dec (enc k') = some k then (enc k', d) else (enc k', b)) :: _) _
    rw [hd k']
    by_cases e : k' = k
    · subst e
      rw [if_pos rfl, if_pos rfl]
      exact ⟨k', v, _, rfl, rfl, r, ih⟩
    · rw [if_neg (fun z => e (Option.some.inj z)), if_neg e]
      exact ⟨k', w, _, rfl, rfl, h1, ih⟩
omit hd in
theorem rg_snoc : ∀ {l : List (D × D)} {es : List (κ × V)} {k : κ} {d : D} {v : V}, RG enc K F l es → Rep K F d v → RG enc K F (l ++ [(enc k, d)]) (es ++ [(k, v)])
  | [], es, k, d, v, h, r => by simp only [RG] at h; subst h; exact ⟨k, v, [], rfl, rfl, r, rfl⟩
  | (a, b) :: l, es, k, d, v, h, r => by
    simp only [RG] at h
    obtain ⟨k', w, es', rfl, rfl, h1, h2⟩ := h
    exact ⟨k', w, _, rfl, rfl, h1, rg_snoc h2 r⟩
theorem RG.put {l : List (D × D)} {es : List (κ × V)} {k : κ} {d : D} {v : V} (h : RG enc K F l es) (r : Rep K F d v) : RG enc K F (pG enc dec l k d) (putK es k v) := by
  have e := RG.has enc dec hd h k
  unfold pG putK
  rw [valV_any, ← e]
  cases c : (gG dec l k).isSome with
  | true =>
    rw [if_pos rfl, if_pos rfl]
    exact rg_repl enc dec hd h r
  | false =>
    rw [if_neg Bool.false_ne_true, if_neg Bool.false_ne_true]
    exact rg_snoc enc h r
end
abbrev gK := gG keyD
abbrev gT := gG keysD
abbrev pK := pG kD keyD
abbrev pT := pG tD keysD
/-! ### the dict of a slot -/
def kindOf : List (D × D) → Option Bool
  | [] => none
  | (a, _) :: _ => if (keyD a).isSome = true then some false else if (keysD a).isSome = true then some true else none
/-- keys are tuples?, the pairs -/
def slotV : Option LV → Option (Bool × List (D × D))
  | some (.own (.dK l) _) => some (false, l)
  | some (.own (.dT l) _) => some (true, l)
  | some (.val (.dict l)) => (kindOf l).map fun b => (b, l)
  | _ => none
def slotD (ρ : Rho) (i : Nat) : Option (Bool × List (D × D)) := slotV (ρ[i]?)
def lookD (s : Bool × List (D × D)) (y : D) : Option (Option D) := match s.1 with
  | false => (keyD y).map (gK s.2)
  | true => (keysD y).map (gT s.2)
section
variable {K : PySem.W.Frag} {ρ : Rho} {σ : Sg} {F H : Hp}
theorem rep_kD {k : Key} {v : V} (h : Rep K F (kD k) v) : v = kV k := by
  cases k <;> (simp only [kD, Rep] at h; exact h)
theorem reps_kD : ∀ {ks : List Key} {vs : List V}, Reps K F (ks.map kD) vs → vs = ks.map kV
  | [], vs, h => reps_nil.mp h
  | k :: ks, vs, h => by
    obtain ⟨v, r, rfl, h1, h2⟩ := reps_cons.mp h
    rw [rep_kD h1, reps_kD h2]; rfl
theorem rep_tD {ks : List Key} {v : V} (h : Rep K F (tD ks) v) : ∃ b, v = .ref b ∧ F b = some (.tup (ks.map kV)) := by
  simp only [tD, Rep] at h
  obtain ⟨b, vs, rfl, q, r⟩ := h
  exact ⟨b, rfl, by rw [q, reps_kD r]⟩
/-- the dict of a slot, as it stands -/
theorem slot_at {i : Nat} {b : Bool} {l : List (D × D)} (s : SR K ρ σ F H) (h : slotD ρ i = some (b, l)) : ∃ a, σ[i]? = some (some (.ref a)) ∧
    ((b = false ∧ ∃ es : List (Key × V), Rd H a (.dK es) ∧ RG kD K F l es) ∨ (b = true ∧ ∃ es : List (List Key × V), Rd H a (.dT es) ∧ RG tD K F l es)) := by
  unfold slotD at h
  cases e : ρ[i]? with
  | none => rw [e] at h; cases h
  | some x =>
    rw [e] at h
    cases x with
    | un => cases h
    | own m k =>
      obtain ⟨a, h1, h2⟩ := s.own i m k e
      cases m with
      | lst _ => cases h
      | dK l' =>
        cases h
        obtain ⟨_, es, q, z, r⟩ := h2
        exact ⟨a, h1, .inl ⟨rfl, es, .inl q, (rg_iff kD).mpr ⟨z, r⟩⟩⟩
      | dT l' =>
        cases h
        obtain ⟨_, es, q, z, r⟩ := h2
        exact ⟨a, h1, .inr ⟨rfl, es, .inl q, (rg_iff tD).mpr ⟨z, r⟩⟩⟩
    | val d =>
      cases d with
      | dict l' =>
        obtain ⟨c, h3, h4⟩ := Option.map_eq_some_iff.mp h
        cases h4
        obtain ⟨v, h1, h2⟩ := s.val i _ e
        simp only [Rep] at h2
        obtain ⟨a, vs, rfl, q, r⟩ := h2
        refine ⟨a, h1, ?_⟩
        cases l with
        | nil => cases h3
        | cons p l =>
          obtain ⟨x, y⟩ := p
          simp only [kindOf] at h3
          rcases q with ⟨es, q1, q2, q3⟩ | ⟨es, q1, q2, q3⟩
          · subst q3
            cases es with
            | nil => cases q2
            | cons e0 es =>
              have hx : x = kD e0.1 := by simp only [List.map_cons, List.cons.injEq] at q2; exact q2.1
              rw [hx, keyD_kD] at h3
              cases h3
              exact .inl ⟨rfl, _, rdSame s.sub q1, (rg_iff kD).mpr ⟨q2, r⟩⟩
          · subst q3
            cases es with
            | nil => cases q2
            | cons e0 es =>
              have hx : x = tD e0.1 := by simp only [List.map_cons, List.cons.injEq] at q2; exact q2.1
              have hn : keyD (tD e0.1) = none := rfl
              rw [hx, hn, keysD_tD] at h3
              cases h3
              exact .inr ⟨rfl, _, rdSame s.sub q1, (rg_iff tD).mpr ⟨q2, r⟩⟩
      | none => cases h
      | bool _ => cases h
      | int _ => cases h
      | str _ => cases h
      | list _ => cases h
      | tuple _ => cases h
theorem slot_get {i : Nat} {sl : Bool × List (D × D)} {y : D} {w : V} {r : Option D} (s : SR K ρ σ F H) (h : slotD ρ i = some sl) (hl : lookD sl y = some r) (ry : Rep K F y w) :
    ∃ a o, σ[i]? = some (some (.ref a)) ∧ IsD H a ∧ DGet H a w o ∧ ((r = none ∧ o = none) ∨ ∃ d v, r = some d ∧ o = some v ∧ Rep K F d v) := by
  obtain ⟨b, l⟩ := sl
  obtain ⟨a, ha, q⟩ := slot_at s h
  rcases q with ⟨rfl, es, q1, q2⟩ | ⟨rfl, es, q1, q2⟩
  · obtain ⟨k, hk, rfl⟩ := Option.map_eq_some_iff.mp (show (keyD y).map (gK l) = some r from hl)
    rw [keyD_at hk] at ry
    rw [rep_kD ry]
    have g := RG.get kD keyD keyD_kD q2 k
    refine ⟨a, _, ha, .inl ⟨es, q1⟩, .inl ⟨es, k, q1, rfl, rfl⟩, ?_⟩
    cases e : gK l k with
    | none => exact .inl ⟨rfl, g.2 e⟩
    | some d => obtain ⟨v, e1, e2⟩ := g.1 d e; exact .inr ⟨d, v, rfl, e1, e2⟩
  · obtain ⟨k, hk, rfl⟩ := Option.map_eq_some_iff.mp (show (keysD y).map (gT l) = some r from hl)
    rw [keysD_at hk] at ry
    obtain ⟨c, rfl, hc⟩ := rep_tD ry
    have g := RG.get tD keysD keysD_tD q2 k
    refine ⟨a, _, ha, .inr ⟨es, q1⟩, .inr ⟨es, k, c, q1, rfl, s.sub _ _ hc, rfl⟩, ?_⟩
    cases e : gT l k with
    | none => exact .inl ⟨rfl, g.2 e⟩
    | some d => obtain ⟨v, e1, e2⟩ := g.1 d e; exact .inr ⟨d, v, rfl, e1, e2⟩
end
/-! ### d[k], k in d, d.get(k) for a name -/
def dGetN (i : Nat) (k : Dn) : Dn := fun ρ => (ans (slotD ρ i) ρ).bind fun _ ρ0 => (k ρ0).bind fun y ρ1 => ans (((slotD ρ1 i).bind fun s => lookD s y).bind id) ρ1
def dInN (i : Nat) (k : Dn) : Dn := fun ρ => (k ρ).bind fun y ρ1 => ans (((slotD ρ1 i).bind fun s => lookD s y).map fun r => PyData.bool r.isSome) ρ1
def dNiN (i : Nat) (k : Dn) : Dn := fun ρ => (k ρ).bind fun y ρ1 => ans (((slotD ρ1 i).bind fun s => lookD s y).map fun r => PyData.bool (!r.isSome)) ρ1
def dGet1N (i : Nat) (k : Dn) : Dn := fun ρ => (ans (slotD ρ i) ρ).bind fun _ ρ0 => (k ρ0).bind fun y ρ1 => ans (((slotD ρ1 i).bind fun s => lookD s y).map fun r => r.getD .none) ρ1
def dGet2N (i : Nat) (k x : Dn) : Dn := fun ρ => (ans (slotD ρ i) ρ).bind fun _ ρ0 => (k ρ0).bind fun y ρ1 => (x ρ1).bind fun z ρ2 => ans (((slotD ρ2 i).bind fun s => lookD s y).map fun r => r.getD z) ρ2
/-- d[k] = e for a dict of this frame -/
def putD (l : Mo) (y x : D) : Option Mo := match l with
  | .dK l => if l.length < 16000000 then (keyD y).map fun k => .dK (pK l k x) else none
  | .dT l => if l.length < 16000000 then (keysD y).map fun k => .dT (pT l k x) else none
  | _ => none
def ownM (ρ : Rho) (i : Nat) : Option (Mo × Bool) := match ρ[i]? with
  | some (.own m b) => some (m, b)
  | _ => none
theorem ownM_at {ρ : Rho} {i : Nat} {l : Mo} {b : Bool} (h : ownM ρ i = some (l, b)) : ρ[i]? = some (.own l b) := by
  unfold ownM at h
  split at h
  · rename_i l' b' e
    cases h; exact e
  · cases h
def sPutN (i : Nat) (k e : Dn) : Sn := fun ρ => (e ρ).st fun x ρ1 => st' (ownM ρ1 i) fun _ => (k ρ1).st fun y ρ2 => st' (ownM ρ2 i) fun mb => st' (putD mb.1 y x) fun m' => .next (ρ2.set i (.own m' mb.2))
section
variable {X : Cx} {W : Wt} {e e2 e3 : Expr} {d d2 d3 : Dn} {pos p p2 p3 p4 : Pos} {x : Str}
theorem Room.u1 {k : Nat} {A : Around} (r : Room k A) : A.units + 1 < cLine := by have := r.un; omega
theorem nosl_of {i : Expr} (h : ∀ ov iv, subscripted i false ov iv = operate [ov, iv] (getItem ov iv)) : NoSl i := h
theorem de_getN (i : Nat) (hu : X.A.units + 1 < cLine) (he : PE X e (tE X.K W d)) (hN : X.N[i]? = some x := by rfl) (hv : Vis X.env.scope x := by first | exact Or.inl rfl | exact Or.inr (Or.inl rfl) | exact Or.inr (Or.inr rfl)) (hd : (x == ("__debug__" : Str)) = false := by decide)
    (hcd : (x == ("__classdict__" : Str)) = false := by decide) (hs : NoSl e := by intro _ _; rfl) : PE X (.Subscript (.Name x p) e pos) (tE X.K W (dGetN i d)) :=
  PE.imp (pe_dget hu (pe_var hN hv hd hcd) he hs) fun σ H Q ⟨ρ, F, s, q⟩ => by
    unfold dGetN at q
    cases hs0 : slotD ρ i with
    | none => rw [hs0] at q; exact q.elim
    | some sl0 =>
      rw [hs0] at q
      simp only [ans, RE.bind] at q
      obtain ⟨a0, ha0, _⟩ := slot_at (b := sl0.1) (l := sl0.2) s hs0
      refine ⟨_, ha0, Af.bind s q fun y w ρ1 F1 H1 g r q => ?_⟩
      obtain ⟨z, ez, q⟩ := ans_some q
      obtain ⟨r0, e1, e2⟩ := Option.bind_eq_some_iff.mp ez
      obtain ⟨sl, e3, e4⟩ := Option.bind_eq_some_iff.mp e1
      obtain ⟨a, o, h1, h2, h3, h4⟩ := slot_get g.sr e3 e4 r
      rw [ha0] at h1; cases h1
      simp only [id] at e2
      subst e2
      rcases h4 with ⟨h, _⟩ | ⟨dd, v, h, rfl, h5⟩
      · cases h
      · cases h
        exact ⟨a0, v, rfl, h3, q.okk g.sr h5⟩
theorem de_inN (i : Nat) (hu : X.A.units + 1 < cLine) (he : PE X e (tE X.K W d)) (hN : X.N[i]? = some x := by rfl) (hv : Vis X.env.scope x := by first | exact Or.inl rfl | exact Or.inr (Or.inl rfl) | exact Or.inr (Or.inr rfl)) (hd : (x == ("__debug__" : Str)) = false := by decide)
    (hcd : (x == ("__classdict__" : Str)) = false := by decide) : PE X (.Compare e [.In] [.Name x p] pos) (tE X.K W (dInN i d)) :=
  PE.imp (pe_cmp (pc_din hu he (pe_var hN hv hd hcd)) (by first | exact nobehind _ (by decide) (by decide) | rfl)) fun σ H Q ⟨ρ, F, s, q⟩ => Af.bind s q fun y w ρ1 F1 H1 g r q => by
    obtain ⟨z, ez, q⟩ := ans_some q
    obtain ⟨r0, e1, rfl⟩ := Option.map_eq_some_iff.mp ez
    obtain ⟨sl, e3, e4⟩ := Option.bind_eq_some_iff.mp e1
    obtain ⟨a, o, h1, h2, h3, h4⟩ := slot_get g.sr e3 e4 r
    refine ⟨_, h1, a, o, rfl, h3, ?_⟩
    rcases h4 with ⟨rfl, rfl⟩ | ⟨dd, v, rfl, rfl, h5⟩
    · exact q.okk g.sr rep_bool
    · exact q.okk g.sr rep_bool
theorem de_niN (i : Nat) (hu : X.A.units + 1 < cLine) (he : PE X e (tE X.K W d)) (hN : X.N[i]? = some x := by rfl) (hv : Vis X.env.scope x := by first | exact Or.inl rfl | exact Or.inr (Or.inl rfl) | exact Or.inr (Or.inr rfl)) (hd : (x == ("__debug__" : Str)) = false := by decide)
    (hcd : (x == ("__classdict__" : Str)) = false := by decide) : PE X (.Compare e [.NotIn] [.Name x p] pos) (tE X.K W (dNiN i d)) :=
  PE.imp (pe_cmp (pc_dnotin hu he (pe_var hN hv hd hcd)) (by first | exact nobehind _ (by decide) (by decide) | rfl)) fun σ H Q ⟨ρ, F, s, q⟩ => Af.bind s q fun y w ρ1 F1 H1 g r q => by
    obtain ⟨z, ez, q⟩ := ans_some q
    obtain ⟨r0, e1, rfl⟩ := Option.map_eq_some_iff.mp ez
    obtain ⟨sl, e3, e4⟩ := Option.bind_eq_some_iff.mp e1
    obtain ⟨a, o, h1, h2, h3, h4⟩ := slot_get g.sr e3 e4 r
    refine ⟨_, h1, a, o, rfl, h3, ?_⟩
    rcases h4 with ⟨rfl, rfl⟩ | ⟨dd, v, rfl, rfl, h5⟩
    · exact q.okk g.sr rep_bool
    · exact q.okk g.sr rep_bool
theorem dt_inN (i : Nat) (hu : X.A.units + 1 < cLine) (he : PE X e (tE X.K W d)) (hN : X.N[i]? = some x := by rfl) (hv : Vis X.env.scope x := by first | exact Or.inl rfl | exact Or.inr (Or.inl rfl) | exact Or.inr (Or.inr rfl)) (hd : (x == ("__debug__" : Str)) = false := by decide)
    (hcd : (x == ("__classdict__" : Str)) = false := by decide) : PT X (.Compare e [.In] [.Name x p] pos) (tT X.K W (dTv (dInN i d))) :=
  PT.imp (pt_cmp (pc_din hu he (pe_var hN hv hd hcd)) (by first | exact nobehind _ (by decide) (by decide) | rfl)) fun _ _ _ q => tv_imp (fun σ H Q ⟨ρ, F, s, q⟩ => Af.bind s q fun y w ρ1 F1 H1 g r q => by
    obtain ⟨z, ez, q⟩ := ans_some q
    obtain ⟨r0, e1, rfl⟩ := Option.map_eq_some_iff.mp ez
    obtain ⟨sl, e3, e4⟩ := Option.bind_eq_some_iff.mp e1
    obtain ⟨a, o, h1, h2, h3, h4⟩ := slot_get g.sr e3 e4 r
    refine ⟨_, h1, a, o, rfl, h3, ?_⟩
    rcases h4 with ⟨rfl, rfl⟩ | ⟨dd, v, rfl, rfl, h5⟩
    · exact q.okk g.sr rep_bool
    · exact q.okk g.sr rep_bool) q
theorem dt_niN (i : Nat) (hu : X.A.units + 1 < cLine) (he : PE X e (tE X.K W d)) (hN : X.N[i]? = some x := by rfl) (hv : Vis X.env.scope x := by first | exact Or.inl rfl | exact Or.inr (Or.inl rfl) | exact Or.inr (Or.inr rfl)) (hd : (x == ("__debug__" : Str)) = false := by decide)
    (hcd : (x == ("__classdict__" : Str)) = false := by decide) : PT X (.Compare e [.NotIn] [.Name x p] pos) (tT X.K W (dTv (dNiN i d))) :=
  PT.imp (pt_cmp (pc_dnotin hu he (pe_var hN hv hd hcd)) (by first | exact nobehind _ (by decide) (by decide) | rfl)) fun _ _ _ q => tv_imp (fun σ H Q ⟨ρ, F, s, q⟩ => Af.bind s q fun y w ρ1 F1 H1 g r q => by
    obtain ⟨z, ez, q⟩ := ans_some q
    obtain ⟨r0, e1, rfl⟩ := Option.map_eq_some_iff.mp ez
    obtain ⟨sl, e3, e4⟩ := Option.bind_eq_some_iff.mp e1
    obtain ⟨a, o, h1, h2, h3, h4⟩ := slot_get g.sr e3 e4 r
    refine ⟨_, h1, a, o, rfl, h3, ?_⟩
    rcases h4 with ⟨rfl, rfl⟩ | ⟨dd, v, rfl, rfl, h5⟩
    · exact q.okk g.sr rep_bool
    · exact q.okk g.sr rep_bool) q
theorem de_get1N (i : Nat) (hu : X.A.units + 1 < cLine) (he : PE X e (tE X.K W d)) (m : M1 X (.Name x p) "get" p2 e pos) (hN : X.N[i]? = some x := by rfl) (hv : Vis X.env.scope x := by first | exact Or.inl rfl | exact Or.inr (Or.inl rfl) | exact Or.inr (Or.inr rfl)) (hd : (x == ("__debug__" : Str)) = false := by decide)
    (hcd : (x == ("__classdict__" : Str)) = false := by decide) : PE X (.Call (.Attribute (.Name x p) "get" p2) [e] [] pos) (tE X.K W (dGet1N i d)) :=
  PE.imp (pe_dget1 hu (pe_var hN hv hd hcd) he m) fun σ H Q ⟨ρ, F, s, q⟩ => by
    unfold dGet1N at q
    cases hs0 : slotD ρ i with
    | none => rw [hs0] at q; exact q.elim
    | some sl0 =>
      rw [hs0] at q
      simp only [ans, RE.bind] at q
      obtain ⟨a0, ha0, kd⟩ := slot_at (b := sl0.1) (l := sl0.2) s hs0
      have isd : IsD H a0 := by
        rcases kd with ⟨_, es, q1, _⟩ | ⟨_, es, q1, _⟩
        · exact .inl ⟨es, q1⟩
        · exact .inr ⟨es, q1⟩
      refine ⟨_, ha0, a0, rfl, isd, Af.bind s q fun y w ρ1 F1 H1 g r q => ?_⟩
      obtain ⟨z, ez, q⟩ := ans_some q
      obtain ⟨r0, e1, rfl⟩ := Option.map_eq_some_iff.mp ez
      obtain ⟨sl, e3, e4⟩ := Option.bind_eq_some_iff.mp e1
      obtain ⟨a, o, h1, h2, h3, h4⟩ := slot_get g.sr e3 e4 r
      rw [ha0] at h1; cases h1
      refine ⟨o, h3, ?_⟩
      rcases h4 with ⟨rfl, rfl⟩ | ⟨dd, v, rfl, rfl, h5⟩
      · exact q.okk g.sr rep_none
      · exact q.okk g.sr h5
theorem de_get2N (i : Nat) (hu : X.A.units + 1 < cLine) (he : PE X e (tE X.K W d)) (he2 : PE X e2 (tE X.K W d2)) (m : M2 X (.Name x p) "get" p2 e e2 pos) (hN : X.N[i]? = some x := by rfl) (hv : Vis X.env.scope x := by first | exact Or.inl rfl | exact Or.inr (Or.inl rfl) | exact Or.inr (Or.inr rfl)) (hd : (x == ("__debug__" : Str)) = false := by decide)
    (hcd : (x == ("__classdict__" : Str)) = false := by decide) : PE X (.Call (.Attribute (.Name x p) "get" p2) [e, e2] [] pos) (tE X.K W (dGet2N i d d2)) :=
  PE.imp (pe_dget2 hu (pe_var hN hv hd hcd) he he2 m) fun σ H Q ⟨ρ, F, s, q⟩ => by
    unfold dGet2N at q
    cases hs0 : slotD ρ i with
    | none => rw [hs0] at q; exact q.elim
    | some sl0 =>
      rw [hs0] at q
      simp only [ans, RE.bind] at q
      obtain ⟨a0, ha0, kd⟩ := slot_at (b := sl0.1) (l := sl0.2) s hs0
      have isd : IsD H a0 := by
        rcases kd with ⟨_, es, q1, _⟩ | ⟨_, es, q1, _⟩
        · exact .inl ⟨es, q1⟩
        · exact .inr ⟨es, q1⟩
      refine ⟨_, ha0, a0, rfl, isd, Af.bind s q fun y w ρ1 F1 H1 g r q => Af.bind g.sr q fun y2 w2 ρ2 F2 H2 g2 r2 q => ?_⟩
      obtain ⟨z, ez, q⟩ := ans_some q
      obtain ⟨r0, e1, rfl⟩ := Option.map_eq_some_iff.mp ez
      obtain ⟨sl, e3, e4⟩ := Option.bind_eq_some_iff.mp e1
      obtain ⟨a, o, h1, h2, h3, h4⟩ := slot_get g2.sr e3 e4 (Rep.mono g2.sub _ _ r)
      rw [ha0] at h1; cases h1
      refine ⟨o, h3, ?_⟩
      rcases h4 with ⟨rfl, rfl⟩ | ⟨dd, v, rfl, rfl, h5⟩
      · exact q.okk g2.sr r2
      · exact q.okk g2.sr h5
theorem ds_putN (i : Nat) (hu : X.A.units + 1 < cLine) (he : PE X e (tE X.K W d)) (hk : PE X e2 (tE X.K W d2)) (hN : X.N[i]? = some x := by rfl) (hv : Vis X.env.scope x := by first | exact Or.inl rfl | exact Or.inr (Or.inl rfl) | exact Or.inr (Or.inr rfl)) (hd : (x == ("__debug__" : Str)) = false := by decide)
    (hcd : (x == ("__classdict__" : Str)) = false := by decide) (hs : swapsWith e (some (.Subscript (.Name x p) e2 p2)) pos.line X.env = pure false := by rfl) : PS X (.Assign [.Subscript (.Name x p) e2 p2] e pos) (tS X.K W (sPutN i d2 d)) :=
  PS.imp (ps_dput hu (pe_var hN hv hd hcd) hk he hs) fun D σ H ⟨ρ, F, s, q⟩ => AfS.bind s q fun z v ρ1 F1 H1 g1 r1 q1 => by
    obtain ⟨⟨l0, b0⟩, ho0, q2⟩ := st'_some q1
    obtain ⟨a0, e0, _⟩ := g1.sr.own i _ _ (ownM_at ho0)
    refine ⟨_, e0, AfS.bind g1.sr q2 fun y w ρ3 F3 H3 g3 r3 q3 => ?_⟩
    obtain ⟨⟨l, b⟩, ho, q4⟩ := st'_some q3
    obtain ⟨m', hm, q5⟩ := st'_some q4
    obtain ⟨a, e1, oa⟩ := g3.sr.own i _ _ (ownM_at ho)
    rw [e0] at e1; cases e1
    have r1' := Rep.mono g3.sub _ _ r1
    cases l with
    | lst _ => cases hm
    | dK l =>
      obtain ⟨f, es, h1, h2, h3⟩ := oa
      have rg := (rg_iff kD).mpr ⟨h2, h3⟩
      simp only [putD] at hm
      split at hm
      · rename_i c
        obtain ⟨k, hk, rfl⟩ := Option.map_eq_some_iff.mp hm
        rw [keyD_at hk] at r3
        rw [rep_kD r3]
        have rg2 := RG.put kD keyD keyD_kD (k := k) rg r1'
        have rg3 := (rg_iff kD).mp rg2
        have hl := RG.len kD rg
        refine ⟨a0, _, rfl, DPut.k h1 (by rw [← hl]; unfold PySem.sizeLine; omega), ?_⟩
        exact q5 _ _ _ (g3.sr.change (ownM_at ho) e0 ⟨f, _, upd_same, rg3.1, rg3.2⟩)
      · cases hm
    | dT l =>
      obtain ⟨f, es, h1, h2, h3⟩ := oa
      have rg := (rg_iff tD).mpr ⟨h2, h3⟩
      simp only [putD] at hm
      split at hm
      · rename_i c
        obtain ⟨k, hk, rfl⟩ := Option.map_eq_some_iff.mp hm
        rw [keysD_at hk] at r3
        obtain ⟨c, rfl, hc⟩ := rep_tD r3
        have rg2 := RG.put tD keysD keysD_tD (k := k) rg r1'
        have rg3 := (rg_iff tD).mp rg2
        have hl := RG.len tD rg
        refine ⟨a0, _, rfl, DPut.t h1 (g3.sr.sub _ _ hc) (by rw [← hl]; unfold PySem.sizeLine; omega), ?_⟩
        exact q5 _ _ _ (g3.sr.change (ownM_at ho) e0 ⟨f, _, upd_same, rg3.1, rg3.2⟩)
      · cases hm
end
end Ft
/-! Ft20: dict displays of this frame, walks over a dict, pop. -/
namespace Ft
open PySem L2 PySem.Spec PyProof.Rows
/-! ### displays -/
def pvL : List (Dn × Dn) → Rho → RE (List (D × D))
  | [], ρ => .ok [] ρ
  | (k, v) :: r, ρ => (k ρ).bind fun x ρ1 => (v ρ1).bind fun y ρ2 => (pvL r ρ2).bind fun ps ρ3 => .ok ((x, y) :: ps) ρ3
def keysOf : List (D × D) → Option (List Key)
  | [] => some []
  | (a, _) :: r => match keyD a, keysOf r with
    | some k, some ks => some (k :: ks)
    | _, _ => none
def dispB (l : List (D × D)) : Option Mo := match keysOf l with
  | some ks => if decide ks.Nodup && decide (l.length ≤ 15) then some (.dK l) else none
  | none => none
def fDisp (ps : List (Dn × Dn)) : Fn := fun ρ => (pvL ps ρ).bind fun l ρ1 => ans (dispB l) ρ1
def RPs (K : PySem.W.Frag) (F : Hp) : List (D × D) → List (V × V) → Prop
  | [], vs => vs = []
  | (a, b) :: l, vs => ∃ v w r, vs = (v, w) :: r ∧ Rep K F a v ∧ Rep K F b w ∧ RPs K F l r
def trP (K : PySem.W.Frag) (W : Wt) : List (Dn × Dn) → List (TE × TE)
  | [] => []
  | (k, v) :: r => (tE K W k, tE K W v) :: trP K W r
section
variable {K : PySem.W.Frag} {W : Wt}
theorem pv_imp : ∀ (ps : List (Dn × Dn)) {ρ : Rho} {σ : Sg} {F H : Hp} {R : List (V × V) → Hp → Prop}, SR K ρ σ F H → Af K W (fun _ F l vs => RPs K F l vs) ρ σ F H (fun vs H3 => R vs H3) (pvL ps ρ) → tPairs (trP K W ps) σ H R
  | [], ρ, σ, F, H, R, s, q => q [] F H (Go.refl s) rfl
  | (k, v) :: ps, ρ, σ, F, H, R, s, q => by
    refine Af.bind (R2 := fun _ F l vs => RPs K F l vs) s q fun x a ρ1 F1 H1 g r q => ?_
    refine Af.bind (R2 := fun _ F l vs => RPs K F l vs) g.sr q fun y b ρ2 F2 H2 g2 r2 q => ?_
    refine pv_imp ps g2.sr ?_
    cases hv : pvL ps ρ2 with
    | no => rw [hv] at q; exact q
    | ex x ρ2 => rw [hv] at q; exact q
    | ok l ρ3 =>
      rw [hv] at q
      exact fun vs F3 H3 g3 r3 => q ((a, b) :: vs) F3 H3 g3 ⟨a, b, vs, rfl, Rep.mono g3.sub _ _ (Rep.mono g2.sub _ _ r), Rep.mono g3.sub _ _ r2, r3⟩
theorem disp_rg : ∀ {l : List (D × D)} {ks : List Key} {vs : List (V × V)} {F : Hp}, keysOf l = some ks → RPs K F l vs → ∃ es : List (Key × V), vs = es.map (fun kv => (kV kv.1, kv.2)) ∧ es.map (·.1) = ks ∧ RG kD K F l es
  | [], ks, vs, F, h, r => by
    simp only [keysOf, Option.some.injEq] at h
    simp only [RPs] at r
    subst h r
    exact ⟨[], rfl, rfl, rfl⟩
  | (a, b) :: l, ks, vs, F, h, r => by
    unfold keysOf at h
    split at h
    · rename_i k ks' h1 h2
      cases h
      simp only [RPs] at r
      obtain ⟨v, w, r', rfl, ra, rb, rr⟩ := r
      obtain ⟨es, rfl, rfl, rg⟩ := disp_rg h2 rr
      rw [keyD_at h1] at ra
      exact ⟨(k, w) :: es, by rw [rep_kD ra]; rfl, rfl, k, w, es, rfl, keyD_at h1, rb, rg⟩
    · cases h
end
section
variable {X : Cx} {W : Wt} {pos : Pos}
theorem dispK_imp {ps : List (Dn × Dn)} {σ : Sg} {H : Hp} {Q : VK} (q : tF X.K W (fDisp ps) σ H Q) : tDisp (trP X.K W ps) σ H Q := by
  obtain ⟨ρ, F, s, q⟩ := q
  intro p hp
  have f : Fr F H F (upd H p (.dK [])) := Fr.own1 s.sub hp
  have s1 := s.fr f
  refine pv_imp ps s1 ?_
  unfold fDisp at q
  cases hv : pvL ps ρ with
  | no => rw [hv] at q; exact q
  | ex x ρ1 => rw [hv] at q; exact fun c dx F' H' g z => q c dx F' H' ((f.go s).trans g) z
  | ok l ρ1 =>
    rw [hv] at q
    intro vs F3 H3 g r
    obtain ⟨m, e, q⟩ := ansF_some q
    unfold dispB at e
    split at e
    · rename_i ks hk
      split at e
      · rename_i c
        cases e
        simp only [Bool.and_eq_true, decide_eq_true_eq] at c
        obtain ⟨c1, c2⟩ := c
        obtain ⟨es, rfl, rfl, rg⟩ := disp_rg hk r
        have np : ¬ Own ρ σ p := fun z => by
          obtain ⟨o, e⟩ := z.there s
          rw [hp] at e; cases e
        obtain ⟨k1, k2, k3⟩ := g.keep p _ upd_same np
        have k2 := k2 (sub_none s.sub hp)
        have hm : mergeK [] es = es := by
          have := mergeK_nodup es [] (by rw [List.nil_append]; exact c1)
          rwa [List.nil_append] at this
        refine ⟨k1, es, rfl, by rw [← RG.len kD rg]; exact c2, ?_⟩
        rw [hm]
        have g2 := ((f.go s).trans g).grow (o := .dK es) hp k2 k3
        have rg2 := (rg_iff kD).mp rg
        exact q _ _ _ g2 ⟨k2, es, upd_same, rg2.1, rg2.2⟩ hp k3
      · cases e
    · cases e
theorem df_disp {keys : List (Option Expr)} {values : List Expr} {ps : List (Dn × Dn)} (h : PPs X pos keys values (trP X.K W ps)) (hall : keys.all (·.isSome) = true) (hkv : keys.length = values.length) (h0 : keys ≠ []) (h15 : keys.length ≤ 15) : PE X (.Dict keys values pos) (tF X.K W (fDisp ps)) :=
  PE.imp (pe_disp h hall hkv h0 h15) fun _ _ _ q => dispK_imp q
theorem ppv_nil : PPs X pos [] [] (trP X.K W []) := pps_nil
theorem ppv_cons {k v : Expr} {ks : List (Option Expr)} {vs : List Expr} {d d2 : Dn} {ps : List (Dn × Dn)} (hk : PE X k (tE X.K W d)) (hv : PE X v (tE X.K W d2)) (hr : PPs X pos ks vs (trP X.K W ps)) : PPs X pos (some k :: ks) (v :: vs) (trP X.K W ((d, d2) :: ps)) := pps_cons hk hv hr
/-- {}, with keys that are whole numbers or texts; tuples of them -/
def fDict0K : Fn := fun ρ => .ok (.dK []) ρ
def fDict0T : Fn := fun ρ => .ok (.dT []) ρ
theorem own_new {K : PySem.W.Frag} {ρ : Rho} {σ : Sg} {F H : Hp} {p : Addr} (s : SR K ρ σ F H) (hp : H p = none) : ¬ Own ρ σ p := fun z => by
  obtain ⟨o, e⟩ := z.there s
  rw [hp] at e; cases e
theorem df_dict0K : PE X (.Dict [] [] pos) (tF X.K W fDict0K) := PE.imp pe_dnewK fun σ H Q ⟨ρ, F, s, q⟩ p hp =>
  q p F _ ((Fr.own1 s.sub hp).go s) ⟨sub_none s.sub hp, [], upd_same, rfl, by simp [RepP]⟩ hp (own_new s hp)
theorem df_dict0T : PE X (.Dict [] [] pos) (tF X.K W fDict0T) := PE.imp pe_dnewT fun σ H Q ⟨ρ, F, s, q⟩ p hp =>
  q p F _ ((Fr.own1 s.sub hp).go s) ⟨sub_none s.sub hp, [], upd_same, rfl, by simp [RepP]⟩ hp (own_new s hp)
end
/-! ### locked things -/
section
variable {K : PySem.W.Frag} {ρ ρ' : Rho} {σ σ' : Sg} {F H F' H' : Hp} {a : Addr} {o : Obj} {u : HO}
theorem rds_lock (nf : Nf u) (h : F a = some u) (nt : ∀ vs, u ≠ .tup vs) : Rds F (upd F a (.frz o u)) := by
  refine ⟨fun b w nw r => ?_, fun b vs e => ?_⟩
  · by_cases hb : b = a
    · subst hb
      rcases r with r | ⟨o', r⟩
      · rw [h] at r; cases r; exact .inr ⟨o, upd_same⟩
      · rw [h] at r; cases r; exact absurd rfl (nf o' w)
    · exact r.imp (fun z => by rw [upd_ne hb]; exact z) fun ⟨o', z⟩ => ⟨o', by rw [upd_ne hb]; exact z⟩
  · by_cases hb : b = a
    · subst hb; rw [h] at e; cases e; exact absurd rfl (nt vs)
    · rw [upd_ne hb]; exact e
theorem rds_unlock (nf : Nf u) (h : F a = some (.frz o u)) : Rds F (upd F a u) := by
  refine ⟨fun b w nw r => ?_, fun b vs e => ?_⟩
  · by_cases hb : b = a
    · subst hb
      rcases r with r | ⟨o', r⟩
      · rw [h] at r; cases r; exact absurd rfl (nw o u)
      · rw [h] at r; cases r; exact .inl upd_same
    · exact r.imp (fun z => by rw [upd_ne hb]; exact z) fun ⟨o', z⟩ => ⟨o', by rw [upd_ne hb]; exact z⟩
  · by_cases hb : b = a
    · subst hb; rw [h] at e; cases e
    · rw [upd_ne hb]; exact e
theorem OwnAt.moveR {b : Addr} {m : Mo} (h : OwnAt K F H b m) (e : Rds F F') (f : F' b = none) (k : ∀ o, H b = some o → H' b = some o) : OwnAt K F' H' b m := by
  cases m with
  | lst l => obtain ⟨_, vs, q, r⟩ := h; exact ⟨f, vs, k _ q, Reps.monoR e _ _ r⟩
  | dK l => obtain ⟨_, es, q, z, r⟩ := h; exact ⟨f, es, k _ q, z, RepP.monoR e _ _ r⟩
  | dT l => obtain ⟨_, es, q, z, r⟩ := h; exact ⟨f, es, k _ q, z, RepP.monoR e _ _ r⟩
/-- the same slots where a frozen thing is told anew -/
theorem SR.retell {w : HO} (s : SR K ρ σ F H) (h : F a = some u) (e : Rds F (upd F a w)) : SR K ρ σ (upd F a w) (upd H a w) where
  sub := fun b z q => by
    by_cases hb : b = a
    · subst hb; rw [upd_same] at q ⊢; exact q
    · rw [upd_ne hb] at q ⊢; exact s.sub _ _ q
  len := s.len
  val := fun i d q => by
    obtain ⟨v, h1, h2⟩ := s.val i d q
    exact ⟨v, h1, h2.monoR e⟩
  own := fun i m b q => by
    obtain ⟨c, h1, h2⟩ := s.own i m b q
    have hc : c ≠ a := fun z => by subst z; rw [h2.free] at h; cases h
    exact ⟨c, h1, h2.moveR e (by rw [upd_ne hc]; exact h2.free) fun o z => by rw [upd_ne hc]; exact z⟩
  inj := s.inj
theorem SR.own_not (s : SR K ρ σ F H) (h : F a = some u) : ¬ Own ρ σ a := fun z => by rw [z.free s] at h; cases h
theorem Go.unlock (s : SR K ρ σ F H) (nf : Nf u) (h : F a = some u) (g : Go K ρ σ (upd F a (.frz o u)) (upd H a (.frz o u)) ρ' σ' F' H') : Go K ρ σ F H ρ' σ' (upd F' a u) (upd H' a u) where
  sub := fun b z q => by
    by_cases hb : b = a
    · subst hb; rw [upd_same]; rw [h] at q; exact q
    · rw [upd_ne hb]; exact g.sub _ _ (by rw [upd_ne hb]; exact q)
  keep := fun b z q hn => by
    by_cases hb : b = a
    · subst hb
      have := s.sub _ _ h
      rw [this] at q; cases q
      obtain ⟨_, _, k3⟩ := g.keep b _ upd_same hn
      exact ⟨upd_same, (fun y => by rw [h] at y; cases y), k3⟩
    · obtain ⟨k1, k2, k3⟩ := g.keep b z (by rw [upd_ne hb]; exact q) hn
      exact ⟨by rw [upd_ne hb]; exact k1, fun y => by rw [upd_ne hb]; exact k2 (by rw [upd_ne hb]; exact y), k3⟩
  sr := g.sr.retell (g.sub _ _ upd_same) (rds_unlock nf (g.sub _ _ upd_same))
  there := fun b z q => by
    by_cases hb : b = a
    · subst hb; exact ⟨u, upd_same⟩
    · obtain ⟨z', q'⟩ := g.there b z (by rw [upd_ne hb]; exact q)
      exact ⟨z', by rw [upd_ne hb]; exact q'⟩
  io := g.io
theorem AfF.lock {W : Wt} {Q : VK} (s : SR K ρ σ F H) (nf : Nf u) (nt : ∀ vs, u ≠ .tup vs) (h : F a = some u) : ∀ {r : RE Mo}, (∀ x ρ', r ≠ .ex x ρ') → AfF K W ρ σ F H Q r →
    AfF K W ρ σ (upd F a (.frz o u)) (upd H a (.frz o u)) (fun v H' => H' a = some (.frz o u) ∧ Q v (upd H' a u)) r
  | .no, _, q => q
  | .ex x ρ', n, _ => absurd rfl (n x ρ')
  | .ok m ρ', _, q => fun b F' H' g ob n no => by
    have la := g.sub _ _ (upd_same (H := F) (a := a) (o := .frz o u))
    have hb : b ≠ a := fun z => by subst z; rw [ob.free] at la; cases la
    refine ⟨g.sr.sub _ _ la, q b _ _ (g.unlock s nf h) (ob.moveR (rds_unlock nf la) (by rw [upd_ne hb]; exact ob.free) fun o' z => by rw [upd_ne hb]; exact z) (by rw [upd_ne hb] at n; exact n) no⟩
end
/-! ### a walk over the keys of a dict -/
def dkeys : D → Option (List D)
  | .dict l => match kindOf l with
    | some false => some (l.map (·.1))
    | _ => none
  | _ => none
def iKeysV (i : Nat) : In := fun ρ => (dV i ρ).bind fun x ρ1 => ans (dkeys x) ρ1
theorem dV_at {K : PySem.W.Frag} {ρ ρ1 : Rho} {σ : Sg} {F H : Hp} {i : Nat} {x : D} (s : SR K ρ σ F H) (h : dV i ρ = .ok x ρ1) : ∃ v F1, σ[i]? = some (some v) ∧ Rep K F1 x v ∧ Go K ρ σ F H ρ1 σ F1 H := by
  cases hr : ρ[i]? with
  | none => simp only [dV, hr] at h; cases h
  | some l =>
    cases l with
    | un => simp only [dV, hr] at h; cases h
    | val d =>
      simp only [dV, hr] at h
      cases h
      obtain ⟨a, h1, h2⟩ := s.val i _ hr
      exact ⟨a, F, h1, h2, Go.refl s⟩
    | own m b =>
      cases b with
      | false => simp only [dV, hr] at h; cases h
      | true =>
        simp only [dV, hr] at h
        cases h
        obtain ⟨a, F', h1, h2, g⟩ := s.mov hr
        exact ⟨_, F', h1, h2, g⟩
theorem dV_noex {i : Nat} {ρ ρ1 : Rho} {x : Xn} : dV i ρ ≠ .ex x ρ1 := by
  unfold dV
  split <;> (intro h; cases h)
theorem rep_key {K : PySem.W.Frag} {F : Hp} (k : Key) : Rep K F (kD k) (kV k) := by cases k <;> simp only [kD, Rep] <;> rfl
theorem walk_dkeys {K : PySem.W.Frag} {F : Hp} {a : Addr} {o : Obj} {es : List (Key × V)} (h : F a = some (.frz o (.dK es))) : Walk K (Itk a o es) (es.map fun e => kD e.1) F where
  go := fun i F' H s1 s2 hi => by
    have e := s2 _ _ (s1 _ _ h)
    refine ⟨⟨e, by simpa using hi⟩, fun x H' y => ?_⟩
    obtain ⟨rfl, k, v, hk, rfl⟩ := y
    exact ⟨F', kD k, Fr.refl s2, by rw [List.getElem?_map, hk]; rfl, rep_key k⟩
  stop := fun i F' H s1 s2 hi => ⟨s2 _ _ (s1 _ _ h), by simpa using hi⟩
theorem PE.or2 {X : Cx} {e : Expr} {t t2 : TE} (h : PE X e t) (h2 : PE X e t2) : PE X e (fun σ H Q => t σ H Q ∨ t2 σ H Q) := ⟨fun pins s σ H Q I q => q.elim (h.run pins s σ H Q I) (h2.run pins s σ H Q I)⟩
section
variable {X : Cx} {W : Wt} {pos : Pos} {tg elt iter : Expr}
theorem compD_imp (i : Nat) {bd : Bd} {ts vs : List Nat} {ifs : Tn} {elt : Dn} {g : TG} {σ : Sg} {H : Hp} {Q : VK} (hr : TgR X.K g bd ts) (sub : ∀ i ∈ ts, i ∈ vs) (q : tF X.K W (fComp (iKeysV i) bd ifs elt vs) σ H Q) :
    tLockE (tLc (iKeys (tVar i)) g (tT X.K ⟨W.xr, E0⟩ ifs) (tE X.K ⟨W.xr, E0⟩ elt) vs) σ H Q ∨ tLc (iKeys (tVar i)) g (tT X.K ⟨W.xr, E0⟩ ifs) (tE X.K ⟨W.xr, E0⟩ elt) vs σ H Q := by
  obtain ⟨ρ, F, s, q⟩ := q
  unfold fComp iKeysV at q
  cases hd : dV i ρ with
  | no => rw [hd] at q; exact q.elim
  | ex x ρ1 => exact absurd hd dV_noex
  | ok x ρ1 =>
    rw [hd] at q
    obtain ⟨v, F1, h1, h2, g1⟩ := dV_at s hd
    cases hk : dkeys x with
    | none => rw [show ((RE.ok x ρ1).bind fun x ρ1 => ans (dkeys x) ρ1) = ans (dkeys x) ρ1 from rfl, hk] at q; exact q.elim
    | some l =>
      rw [show ((RE.ok x ρ1).bind fun x ρ1 => ans (dkeys x) ρ1) = ans (dkeys x) ρ1 from rfl, hk] at q
      have q1 := AfF.at g1 q
      cases x with
      | dict kvs =>
        simp only [dkeys] at hk
        split at hk
        · rename_i hkd
          cases hk
          simp only [Rep] at h2
          obtain ⟨a, vs', rfl, hx, rp⟩ := h2
          rcases hx with ⟨es, hx, hkeys, _⟩ | ⟨es, hx, hkeys, _⟩
          · have el : kvs.map (·.1) = es.map fun e => kD e.1 := hkeys
            rw [show (ans (some (kvs.map (·.1))) ρ1 : RE (List D)) = .ok (kvs.map (·.1)) ρ1 from rfl] at q1
            simp only [RE.bind] at q1
            rcases hx with hx | ⟨o, hx⟩
            · refine .inl ⟨a, .dK es, g1.sr.sub _ _ hx, True.intro, fun od => ?_⟩
              refine ⟨_, h1, a, od, rfl, .inl ⟨es, upd_same, ?_⟩⟩
              have sl := g1.sr.retell hx (rds_lock (o := od) nf_dK hx fun _ z => by cases z)
              refine comp_tail (W := W) (Q := fun v H' => H' a = some (.frz od (.dK es)) ∧ Q v (upd H' a (.dK es))) hr sub sl (l := kvs.map (·.1)) (by rw [el]; exact walk_dkeys upd_same) ?_
              refine AfF.lock g1.sr nf_dK (fun _ z => by cases z) hx ?_ q1
              intro y ρ' z
              split at z <;> cases z
            · refine .inr ⟨_, h1, a, o, rfl, .inl ⟨es, g1.sr.sub _ _ hx, ?_⟩⟩
              exact comp_tail (W := W) (Q := Q) hr sub g1.sr (l := kvs.map (·.1)) (by rw [el]; exact walk_dkeys hx) q1
          · exfalso
            cases kvs with
            | nil => cases hkd
            | cons p kvs =>
              obtain ⟨y, z⟩ := p
              cases es with
              | nil => cases hkeys
              | cons e0 es =>
                simp only [List.map_cons, List.cons.injEq] at hkeys
                simp only [kindOf] at hkd
                rw [hkeys.1, show keyD (PyData.tuple (e0.1.map kD)) = none from rfl] at hkd
                have : keysD (PyData.tuple (e0.1.map kD)) = some e0.1 := keysD_tD _
                rw [this] at hkd
                cases hkd
        · cases hk
      | none => cases hk
      | bool _ => cases hk
      | int _ => cases hk
      | str _ => cases hk
      | list _ => cases hk
      | tuple _ => cases hk
theorem df_compD (i : Nat) {x : Str} {p : Pos} {ifs : List Expr} {scope : Scope} {bd : Bd} {ts vs : List Nat} {tn : Tn} {de : Dn} (own : List (Str × Nat)) (hv : vs = own.map (·.2)) (hc : X.calm = true) (hN : X.N.Nodup) (ok : BlkOk X.N X.env.scope scope own)
    (hg : ∃ g, (∀ (s : Shared) (H : Hp) (C : Addr) (cl : List (Str × Addr)) (fp : List Addr), PG (X.blk s H scope (compEnvC scope cl C X.env) fp) tg g) ∧ TgR X.K g bd ts) (sub : ∀ i ∈ ts, i ∈ vs)
    (ht : ∀ (s : Shared) (H : Hp) (C : Addr) (cl : List (Str × Addr)) (fp : List Addr), PTs (X.blk s H scope (compEnvC scope cl C X.env) fp) ifs (tT X.K ⟨W.xr, E0⟩ tn))
    (he : ∀ (s : Shared) (H : Hp) (C : Addr) (cl : List (Str × Addr)) (fp : List Addr), PE (X.blk s H scope (compEnvC scope cl C X.env) fp) elt (tE X.K ⟨W.xr, E0⟩ de))
    (hs : ∀ y, foldedSetIterable (.Name x p) X.env y = pure y := by intro _; rfl)
    (hx : X.N[i]? = some x := by rfl) (hvs : Vis X.env.scope x := by first | exact Or.inl rfl | exact Or.inr (Or.inl rfl) | exact Or.inr (Or.inr rfl)) (hd : (x == ("__debug__" : Str)) = false := by decide) (hcd : (x == ("__classdict__" : Str)) = false := by decide) :
    PE X (.ListComp elt [⟨tg, .Name x p, ifs, 0⟩] scope pos) (tF X.K W (fComp (iKeysV i) bd tn de vs)) := by
  obtain ⟨g, hg, hr⟩ := hg
  subst hv
  have h0 := pe_lc (pos := pos) (wi := iKeys (tVar i)) hc hN (pi_keys (pe_var hx hvs hd hcd)) ok hg ht he hs
  exact PE.imp (PE.or2 (pe_lock h0) h0) fun _ _ _ q => compD_imp i hr sub q
end
/-! ### pop -/
def popK (i : Nat) (y : D) (ρ : Rho) : Option (List D × Bool) → RE D
  | some (l, b) => match y with
    | .int z => if -(2 ^ 63) ≤ z ∧ z < 2 ^ 63 then match seqIndex? z l.length with
        | some k => match l[k]? with
          | some x => .ok x (ρ.set i (.own (.lst (l.eraseIdx k)) b))
          | none => .no
        | none => .no
      else .no
    | _ => .no
  | none => .no
/-- x.pop(k) -/
def dPop (i : Nat) (k : Dn) : Dn := fun ρ => (ans (ownL ρ i) ρ).bind fun _ ρ0 => (k ρ0).bind fun y ρ1 => popK i y ρ1 (ownL ρ1 i)
def popE (i : Nat) (ρ : Rho) : Option (List D × Bool) → RE D
  | some (l, b) => match l[l.length - 1]? with
    | some x => .ok x (ρ.set i (.own (.lst l.dropLast) b))
    | none => .no
  | none => .no
/-- x.pop() -/
def dPop0 (i : Nat) : Dn := fun ρ => popE i ρ (ownL ρ i)
section
variable {X : Cx} {W : Wt} {e : Expr} {d : Dn} {pos p p2 p3 : Pos} {x : Str}
theorem Reps.dropLast {K : PySem.W.Frag} {F : Hp} : ∀ {ds : List D} {vs : List V}, Reps K F ds vs → Reps K F ds.dropLast vs.dropLast := fun {ds vs} h => by
  rw [List.dropLast_eq_take, List.dropLast_eq_take, h.length]
  exact h.take _
theorem de_pop (i : Nat) (hc : PE X (.Call (.Attribute (.Name x p) "pop" p2) [e] [] p3) (tBM X.K "list" rPopAt (tVar i) (tCons (tE X.K W d) tNil))) : PE X (.Call (.Attribute (.Name x p) "pop" p2) [e] [] p3) (tE X.K W (dPop i d)) :=
  PE.imp hc fun σ H Q ⟨ρ, F, s, q⟩ => by
    unfold dPop at q
    cases ho0 : ownL ρ i with
    | none => rw [ho0] at q; exact q.elim
    | some lb =>
      rw [ho0] at q
      simp only [ans, RE.bind] at q
      obtain ⟨l0, b0⟩ := lb
      obtain ⟨a0, vs0, e0, h0, _⟩ := lst_write (m := []) s ho0
      refine ⟨_, e0, Or.inl ⟨rfl, _, Or.inl (Or.inl h0)⟩, Af.bind s q fun y w ρ1 F1 H1 g1 r1 q => ?_⟩
      cases ho : ownL ρ1 i with
      | none => rw [ho] at q; exact q.elim
      | some lb =>
        rw [ho] at q
        obtain ⟨l, b⟩ := lb
        cases y with
        | int z =>
          simp only [popK] at q
          split at q
          · rename_i c
            split at q
            · rename_i k hk
              split at q
              · rename_i dd hdd
                obtain ⟨a, vs, e1, e2, e3, wr⟩ := lst_write (m := l.eraseIdx k) g1.sr ho
                rw [e0] at e1; cases e1
                obtain ⟨v, hv, rv⟩ := e3.get hdd
                have w1 : w = .int z := by simpa only [Rep] using r1
                subst w1
                exact ⟨_, vs, z, k, v, rfl, rfl, e2, c.1, c.2, by rw [← e3.length]; exact hk, hv, q v _ _ (wr _ (e3.eraseIdx k)) rv⟩
              · exact q.elim
            · exact q.elim
          · exact q.elim
        | none => exact q.elim
        | bool _ => exact q.elim
        | str _ => exact q.elim
        | list _ => exact q.elim
        | tuple _ => exact q.elim
        | dict _ => exact q.elim
theorem de_pop0 (i : Nat) (hc : PE X (.Call (.Attribute (.Name x p) "pop" p2) [] [] p3) (tBM0 X.K "list" rPop (tVar i))) : PE X (.Call (.Attribute (.Name x p) "pop" p2) [] [] p3) (tE X.K W (dPop0 i)) :=
  PE.imp hc fun σ H Q ⟨ρ, F, s, q⟩ => by
    unfold dPop0 at q
    cases ho : ownL ρ i with
    | none => rw [ho] at q; exact q.elim
    | some lb =>
      rw [ho] at q
      obtain ⟨l, b⟩ := lb
      simp only [popE] at q
      split at q
      · rename_i dd hdd
        obtain ⟨a, vs, e1, e2, e3, wr⟩ := lst_write (m := l.dropLast) s ho
        obtain ⟨v, hv, rv⟩ := e3.get hdd
        exact ⟨_, e1, Or.inl ⟨rfl, _, Or.inl (Or.inl e2)⟩, _, vs, v, rfl, rfl, e2, by rw [← e3.length]; exact hv, q v _ _ (wr _ e3.dropLast) rv⟩
      · exact q.elim
end
end Ft
/-! Ft21: the steps of Ft19 and Ft20. -/
namespace Ft
open PySem L2
section
variable {ρ ρ1 : Rho} {i : Nat} {k d e : Dn} {x y z : D} {l : List (D × D)} {m : Mo} {b : Bool}
theorem ev_toDK : Mo.toD (.dK l) = .dict l := rfl
theorem ev_toDT : Mo.toD (.dT l) = .dict l := rfl
theorem ev_slot1 : slotV (some (.own (.dK l) b)) = some (false, l) := rfl
theorem ev_slot2 : slotV (some (.own (.dT l) b)) = some (true, l) := rfl
theorem ev_slot3 : slotV (some (.val (.dict l))) = (kindOf l).map (fun b => (b, l)) := rfl
theorem ev_lookI : lookD (false, l) (.int j) = some (gK l (.inl j)) := rfl
theorem ev_lookS : lookD (false, l) (.str s) = some (gK l (.inr s)) := rfl
theorem ev_lookT {ks : List D} : lookD (true, l) (.tuple ks) = (keysL ks).map (gT l) := rfl
def lookO : Option (Bool × List (D × D)) → D → Option (Option D)
  | some s, y => lookD s y
  | none, _ => none
theorem ev_lookO {s : Bool × List (D × D)} : lookO (some s) y = lookD s y := rfl
theorem look_bind {o : Option (Bool × List (D × D))} : (o.bind fun s => lookD s y) = lookO o y := by cases o <;> rfl
def getN3 (ρ : Rho) : Option (Option D) → RE D
  | some (some d) => .ok d ρ
  | _ => .no
theorem ev_getN3 : getN3 ρ (some (some x)) = .ok x ρ := rfl
def getN1 (i : Nat) (y : D) (ρ : Rho) : RE D := getN3 ρ (lookO (slotV (ρ[i]?)) y)
theorem ev_getN1 : getN1 i y ρ = getN3 ρ (lookO (slotV (ρ[i]?)) y) := rfl
def slotS (k : Rho → RE D) (ρ : Rho) : Option (Bool × List (D × D)) → RE D
  | some _ => k ρ
  | none => .no
theorem ev_slotS {f : Rho → RE D} {s : Bool × List (D × D)} : slotS f ρ (some s) = f ρ := rfl
theorem ans_slot {f : Rho → RE D} : ((ans (slotD ρ i) ρ).bind fun _ ρ0 => f ρ0) = slotS f ρ (slotV (ρ[i]?)) := by
  unfold slotD
  cases slotV (ρ[i]?) <;> rfl
def thenB (k : Dn) (f : D → Rho → RE D) : Rho → RE D := fun ρ => (k ρ).bind f
theorem ev_thenB {f : D → Rho → RE D} : thenB k f ρ = (k ρ).bind f := rfl
theorem ev_dGetN : dGetN i k ρ = slotS (thenB k (getN1 i)) ρ (slotV (ρ[i]?)) := by
  unfold dGetN
  rw [ans_slot]
  congr 1
  funext ρ0
  unfold thenB
  refine bind_ext fun y ρ1 => ?_
  rw [look_bind]
  unfold getN1 slotD
  cases lookO (slotV (ρ1[i]?)) y with
  | none => rfl
  | some r => cases r <;> rfl
def inN2 (ρ : Rho) : Option (Option D) → RE D
  | some r => .ok (.bool r.isSome) ρ
  | none => .no
theorem ev_inN2 {r : Option D} : inN2 ρ (some r) = .ok (.bool r.isSome) ρ := rfl
def inN1 (i : Nat) (y : D) (ρ : Rho) : RE D := inN2 ρ (lookO (slotV (ρ[i]?)) y)
theorem ev_inN1 : inN1 i y ρ = inN2 ρ (lookO (slotV (ρ[i]?)) y) := rfl
theorem ev_dInN : dInN i k ρ = (k ρ).bind (inN1 i) := by
  unfold dInN
  refine bind_ext fun y ρ1 => ?_
  rw [look_bind]
  unfold inN1 slotD
  cases lookO (slotV (ρ1[i]?)) y <;> rfl
def niN2 (ρ : Rho) : Option (Option D) → RE D
  | some r => .ok (.bool (!r.isSome)) ρ
  | none => .no
theorem ev_niN2 {r : Option D} : niN2 ρ (some r) = .ok (.bool (!r.isSome)) ρ := rfl
def niN1 (i : Nat) (y : D) (ρ : Rho) : RE D := niN2 ρ (lookO (slotV (ρ[i]?)) y)
theorem ev_niN1 : niN1 i y ρ = niN2 ρ (lookO (slotV (ρ[i]?)) y) := rfl
theorem ev_dNiN : dNiN i k ρ = (k ρ).bind (niN1 i) := by
  unfold dNiN
  refine bind_ext fun y ρ1 => ?_
  rw [look_bind]
  unfold niN1 slotD
  cases lookO (slotV (ρ1[i]?)) y <;> rfl
def gdN2 (z : D) (ρ : Rho) : Option (Option D) → RE D
  | some r => .ok (r.getD z) ρ
  | none => .no
theorem ev_gdN2 {r : Option D} : gdN2 z ρ (some r) = .ok (r.getD z) ρ := rfl
def gdN1 (i : Nat) (y : D) (ρ : Rho) : RE D := gdN2 .none ρ (lookO (slotV (ρ[i]?)) y)
theorem ev_gdN1 : gdN1 i y ρ = gdN2 .none ρ (lookO (slotV (ρ[i]?)) y) := rfl
theorem ev_dGet1N : dGet1N i k ρ = slotS (thenB k (gdN1 i)) ρ (slotV (ρ[i]?)) := by
  unfold dGet1N
  rw [ans_slot]
  congr 1
  funext ρ0
  unfold thenB
  refine bind_ext fun y ρ1 => ?_
  rw [look_bind]
  unfold gdN1 slotD
  cases lookO (slotV (ρ1[i]?)) y <;> rfl
def gd2b (i : Nat) (y z : D) (ρ : Rho) : RE D := gdN2 z ρ (lookO (slotV (ρ[i]?)) y)
theorem ev_gd2b : gd2b i y z ρ = gdN2 z ρ (lookO (slotV (ρ[i]?)) y) := rfl
def gd2a (i : Nat) (e : Dn) (y : D) (ρ : Rho) : RE D := (e ρ).bind (gd2b i y)
theorem ev_gd2a : gd2a i e y ρ = (e ρ).bind (gd2b i y) := rfl
theorem ev_dGet2N : dGet2N i k e ρ = slotS (thenB k (gd2a i e)) ρ (slotV (ρ[i]?)) := by
  unfold dGet2N
  rw [ans_slot]
  congr 1
  funext ρ0
  unfold thenB
  refine bind_ext fun y ρ1 => ?_
  unfold gd2a
  refine bind_ext fun z ρ2 => ?_
  rw [look_bind]
  unfold gd2b slotD
  cases lookO (slotV (ρ2[i]?)) y <;> rfl
def ownMK : Option LV → Option (Mo × Bool)
  | some (.own m b) => some (m, b)
  | _ => none
theorem ev_ownMK : ownMK (some (.own m b)) = some (m, b) := rfl
theorem ownM_eq : ownM ρ i = ownMK (ρ[i]?) := by unfold ownM ownMK; cases ρ[i]? with | none => rfl | some l => cases l <;> rfl
def putN4 (i : Nat) (b : Bool) (ρ : Rho) : Option Mo → RS
  | some m => .next (ρ.set i (.own m b))
  | none => .no
theorem ev_putN4 : putN4 i b ρ (some m) = .next (ρ.set i (.own m b)) := rfl
def putN3 (i : Nat) (x y : D) (ρ : Rho) : Option (Mo × Bool) → RS
  | some (m, b) => putN4 i b ρ (putD m y x)
  | none => .no
theorem ev_putN3 : putN3 i x y ρ (some (m, b)) = putN4 i b ρ (putD m y x) := rfl
def putN2 (i : Nat) (x y : D) (ρ : Rho) : RS := putN3 i x y ρ (ownMK (ρ[i]?))
theorem ev_putN2 : putN2 i x y ρ = putN3 i x y ρ (ownMK (ρ[i]?)) := rfl
def putN0 (f : Rho → RS) (ρ : Rho) : Option (Mo × Bool) → RS
  | some _ => f ρ
  | none => .no
theorem ev_putN0 {f : Rho → RS} {s : Mo × Bool} : putN0 f ρ (some s) = f ρ := rfl
def thenS (k : Dn) (f : D → Rho → RS) : Rho → RS := fun ρ => (k ρ).st f
theorem ev_thenS {f : D → Rho → RS} : thenS k f ρ = (k ρ).st f := rfl
def putN1 (i : Nat) (k : Dn) (x : D) (ρ : Rho) : RS := putN0 (thenS k (putN2 i x)) ρ (ownMK (ρ[i]?))
theorem ev_putN1 : putN1 i k x ρ = putN0 (thenS k (putN2 i x)) ρ (ownMK (ρ[i]?)) := rfl
theorem ev_sPutN : sPutN i k e ρ = (e ρ).st (putN1 i k) := by
  unfold sPutN
  refine st_ext fun x ρ1 => ?_
  unfold putN1
  rw [ownM_eq]
  cases ownMK (ρ1[i]?) with
  | none => rfl
  | some s =>
    show (k ρ1).st _ = (k ρ1).st _
    refine st_ext fun y ρ2 => ?_
    unfold putN2
    rw [ownM_eq]
    cases ownMK (ρ2[i]?) with
    | none => rfl
    | some s =>
      obtain ⟨m, b⟩ := s
      show st' (putD m y x) _ = putN4 i b ρ2 (putD m y x)
      cases putD m y x <;> rfl
theorem ev_putD1 {j : Int} (h : l.length < 16000000) : putD (.dK l) (.int j) x = some (.dK (pK l (.inl j) x)) := by simp only [putD]; rw [if_pos h]; rfl
theorem ev_putD2 {s : Str} (h : l.length < 16000000) : putD (.dK l) (.str s) x = some (.dK (pK l (.inr s) x)) := by simp only [putD]; rw [if_pos h]; rfl
def pv3 (x y : D) (ps : List (D × D)) (ρ : Rho) : RE (List (D × D)) := .ok ((x, y) :: ps) ρ
theorem ev_pv3 {ps : List (D × D)} : pv3 x y ps ρ = .ok ((x, y) :: ps) ρ := rfl
def pv2 (r : List (Dn × Dn)) (x y : D) (ρ : Rho) : RE (List (D × D)) := (pvL r ρ).bind (pv3 x y)
theorem ev_pv2 {r : List (Dn × Dn)} : pv2 r x y ρ = (pvL r ρ).bind (pv3 x y) := rfl
def pv1 (v : Dn) (r : List (Dn × Dn)) (x : D) (ρ : Rho) : RE (List (D × D)) := (v ρ).bind (pv2 r x)
theorem ev_pv1 {r : List (Dn × Dn)} : pv1 e r x ρ = (e ρ).bind (pv2 r x) := rfl
theorem ev_pvL0 : pvL [] ρ = .ok [] ρ := rfl
theorem ev_pvLs {r : List (Dn × Dn)} : pvL ((k, e) :: r) ρ = (k ρ).bind (pv1 e r) := rfl
def dispK (l : List (D × D)) (ρ : Rho) : RE Mo := ans (dispB l) ρ
theorem ev_fDisp {ps : List (Dn × Dn)} : fDisp ps ρ = (pvL ps ρ).bind dispK := rfl
theorem ev_dispK : dispK l ρ = ans (dispB l) ρ := rfl
theorem ev_dispB1 {j : Int} : dispB [(.int j, x)] = some (.dK [(.int j, x)]) := by
  unfold dispB keysOf
  simp [keyD, keysOf]
theorem ev_fDict0K : fDict0K ρ = .ok (.dK []) ρ := rfl
theorem ev_fDict0T : fDict0T ρ = .ok (.dT []) ρ := rfl
def keysK (x : D) (ρ : Rho) : RE (List D) := ans (dkeys x) ρ
theorem ev_iKeysV : iKeysV i ρ = (dV i ρ).bind keysK := rfl
theorem ev_keysK : keysK x ρ = ans (dkeys x) ρ := rfl
theorem ev_dkeys (h : kindOf l = some false) : dkeys (.dict l) = some (l.map (·.1)) := by simp only [dkeys, h]
def popS (f : Rho → RE D) (ρ : Rho) : Option (List D × Bool) → RE D
  | some _ => f ρ
  | none => .no
theorem ev_popS {f : Rho → RE D} {s : List D × Bool} : popS f ρ (some s) = f ρ := rfl
def popJ (i : Nat) (y : D) (ρ : Rho) : RE D := popK i y ρ (ownL ρ i)
theorem ev_popJ : popJ i y ρ = popK i y ρ (ownL ρ i) := rfl
theorem ev_dPop : dPop i k ρ = popS (thenB k (popJ i)) ρ (ownL ρ i) := by
  unfold dPop
  cases ownL ρ i <;> rfl
theorem ev_popK0 {q : List D} : popK i (.int 0) ρ (some (x :: q, b)) = .ok x (ρ.set i (.own (.lst q) b)) := by
  unfold popK
  simp [seqIndex?]
end
/-! ### tables by whole numbers -/
theorem gG_put {l : List (D × D)} {k j : Key} {x : D} : gG keyD (pG kD keyD l k x) j = if j = k then some x else gG keyD l j := by
  unfold pG
  have hm : ∀ l : List (D × D), (gG keyD l k).isSome = true → gG keyD (l.map fun p => if keyD p.1 = some k then (p.1, x) else p) j = if j = k then some x else gG keyD l j := by
    intro l
    induction l with
    | nil => intro h; cases h
    | cons p l ih =>
      obtain ⟨a, c⟩ := p
      intro h
      rw [List.map_cons]
      by_cases e : keyD a = some k
      · rw [if_pos e]
        by_cases e2 : j = k
        · subst e2
          simp only [gG, e, if_true]
        · have e3 : ¬ keyD a = some j := fun z => e2 (by rw [e] at z; exact (Option.some.inj z).symm)
          simp only [gG, if_neg e3, if_neg e2]
          by_cases h2 : (gG keyD l k).isSome = true
          · rw [ih h2, if_neg e2]
          · have : ∀ l : List (D × D), gG keyD (l.map fun p => if keyD p.1 = some k then (p.1, x) else p) j = gG keyD l j := by
              intro l
              induction l with
              | nil => rfl
              | cons p l ih2 =>
                obtain ⟨a', c'⟩ := p
                rw [List.map_cons]
                by_cases e4 : keyD a' = some k
                · rw [if_pos e4]
                  have e5 : ¬ keyD a' = some j := fun z => e2 (by rw [e4] at z; exact (Option.some.inj z).symm)
                  simp only [gG, if_neg e5]
                  exact ih2
                · rw [if_neg e4]
                  simp only [gG]
                  rw [ih2]
            exact this l
      · rw [if_neg e]
        have h2 : (gG keyD l k).isSome = true := by simpa only [gG, if_neg e] using h
        simp only [gG]
        rw [ih h2]
        by_cases e2 : j = k
        · subst e2; rw [if_neg e]; simp
        · simp only [if_neg e2]
  by_cases h : (gG keyD l k).isSome = true
  · rw [if_pos h]
    exact hm l h
  · rw [if_neg h]
    have hs : ∀ l : List (D × D), (gG keyD l k).isSome ≠ true → gG keyD (l ++ [(kD k, x)]) j = if j = k then some x else gG keyD l j := by
      intro l
      induction l with
      | nil =>
        intro _
        simp only [List.nil_append, gG, keyD_kD]
        by_cases e : j = k
        · subst e; simp
        · rw [if_neg e, if_neg fun z => e (Option.some.inj z).symm]
      | cons p l ih =>
        obtain ⟨a, c⟩ := p
        intro h
        by_cases e : keyD a = some k
        · exfalso
          apply h
          simp only [gG, if_pos e, Option.isSome_some]
        · have h2 : (gG keyD l k).isSome ≠ true := by simpa only [gG, if_neg e] using h
          simp only [List.cons_append, gG]
          rw [ih h2]
          by_cases e2 : j = k
          · subst e2; rw [if_neg e]; simp
          · simp only [if_neg e2]
    exact hs l h
theorem gK_put {l : List (D × D)} {k j : Key} {x : D} : gK (pK l k x) j = if j = k then some x else gK l j := gG_put
theorem pK_len {l : List (D × D)} {k : Key} {x : D} : (pK l k x).length ≤ l.length + 1 := by
  unfold pK pG
  split
  · simp
  · simp
end Ft
/-! Ft22: defs with keyword-only parameters. -/
namespace Ft
open PySem L2 PySem.Spec PyProof.Rows
/-- further arguments: the defaults -/
def aDef (a : Ans) (ds : List D) : Ans := fun ρ => (a ρ).bind fun hs ρ1 => .ok (hs ++ ds.map Hd.v) ρ1
/-- one behind the other -/
def aApp (a b : Ans) : Ans := fun ρ => (a ρ).bind fun hs ρ1 => (b ρ1).bind fun ks ρ2 => .ok (hs ++ ks) ρ2
def RepC : List D → List V → Prop
  | [], vs => vs = []
  | d :: ds, vs => ∃ v r, vs = v :: r ∧ (∀ K F, Rep K F d v) ∧ RepC ds r
section
variable {K : PySem.W.Frag} {σ : Sg} {F F' : Hp}
theorem repHs_app : ∀ {hs : List Hd} {vs : List V} {ks : List Hd} {ws : List V}, RepHs K σ F hs vs → RepHs K σ F ks ws → RepHs K σ F (hs ++ ks) (vs ++ ws)
  | [], _, _, _, .nil, h2 => h2
  | _ :: _, _, _, _, .cons a b, h2 => .cons a (repHs_app b h2)
theorem repHs_def : ∀ {ds : List D} {vs : List V}, RepC ds vs → RepHs K σ F (ds.map Hd.v) vs
  | [], vs, h => by simp only [RepC] at h; subst h; exact .nil
  | d :: ds, vs, h => by
    simp only [RepC] at h
    obtain ⟨v, r, rfl, h1, h2⟩ := h
    exact .cons (h1 K F) (repHs_def h2)
end
theorem aLen_def {a : Ans} {n m : Nat} {ds : List D} (h : aLen a n) (hm : ds.length = m) : aLen (aDef a ds) (n + m) := fun ρ hs ρ1 e => by
  unfold aDef at e
  cases ha : a ρ with
  | ok l ρ2 =>
    rw [ha] at e
    simp only [RE.bind] at e
    cases e
    rw [List.length_append, List.length_map, h _ _ _ ha, hm]
  | ex x ρ2 => rw [ha] at e; cases e
  | no => rw [ha] at e; cases e
theorem aLen_app {a b : Ans} {n m : Nat} (h : aLen a n) (h2 : aLen b m) : aLen (aApp a b) (n + m) := fun ρ hs ρ1 e => by
  unfold aApp at e
  cases ha : a ρ with
  | ok l ρ2 =>
    rw [ha] at e
    simp only [RE.bind] at e
    cases hb : b ρ2 with
    | ok l2 ρ3 =>
      rw [hb] at e
      simp only [RE.bind] at e
      cases e
      rw [List.length_append, h _ _ _ ha, h2 _ _ _ hb]
    | ex x ρ3 => rw [hb] at e; cases e
    | no => rw [hb] at e; cases e
  | ex x ρ2 => rw [ha] at e; cases e
  | no => rw [ha] at e; cases e
/-- a def of the top with keyword-only parameters: where it stands -/
structure DfK (K : PySem.W.Frag) (mg : Str → Option Value) (x : Str) (st : Stmt) (kws : List (Str × V)) : Prop where
  ex : ∃ (f : Addr) (fd : FuncData), Fun K x x st f fd ∧ FunD K x x (defArgs st) (defBody st) (defScope st) [] kws f fd ∧ mg x = some (.ref f) ∧ PySem.W.keepIn K (.ref f) = true
structure ClD (P : Program) (w : World) (K : PySem.W.Frag) (mg : Str → Option Value) (base : Heap) (k : Nat) (x : Str) (st : Stmt) (kws : List (Str × V)) (ps : List Str) (n : Nat) (xr : XR) (g : Cn) : Prop where
  ex : ∃ (f : Addr) (fd : FuncData), FunD K x x (defArgs st) (defBody st) (defScope st) [] kws f fd ∧ FnOk P w K mg base (L2.CX P w) k f fd ps (SpOf K xr n g) ∧ mg x = some (.ref f) ∧ PySem.W.keepIn K (.ref f) = true
section
variable {P : Program} {w : World} {K : PySem.W.Frag} {mg : Str → Option Value} {base : Heap}
theorem cld_of {xr : XR} {x : Str} {st : Stmt} {kws : List (Str × V)} {N ps : List Str} {k n m : Nat} {body : Sn} (d : DfK K mg x st kws) (S : FnScope N ps (defScope st)) (hp : ps.length = n) (hN : N.length = m) (hnm : n ≤ m)
    (hbody : ∀ (f : Addr) (cdv : Value) (A : Around) (outer : List Env) (s : Shared) (H : Hp) (E : XK), Room k (A.deeper (envOfC x (defScope st) s.heap.objs.size f cdv)) →
      PSs (cxOf (L2.CX P w) P w K mg base N x (defScope st) f cdv A outer s H E) (defBody st) (tS K ⟨xr, E⟩ body)) : ClD P w K mg base (k + 1) x st kws ps n xr (fn n m body) := by
  obtain ⟨f, fd, F, FD, h1, h2⟩ := d.ex
  exact ⟨f, fd, FD, def_ok F S hp hN hnm (hbody f), h1, h2⟩
theorem dfk_mk {x : Str} {f : Addr} {st : Stmt} {kws : List (Str × V)} {h : Heap} {oc : Value} {od an : Option Addr} {osl : Array (Option Value)} {kV doc pm cdv ct : Value} (X : K.In h) (G : h.Ns mainGlobals mg) (a : PySem.W.nsIn K mainGlobals x = some (some (.ref f)))
    (l : K.lookup f = some ⟨oc, od, .func (PySem.W.fnOf x x (defArgs st) (defBody st) (defScope st) .none kV doc pm an cdv ct), osl⟩) (c : PySem.W.codeIn K cdv x = true) (k : PySem.W.keepIn K (.ref f) = true) (hk : KwdV K kV kws) : DfK K mg x st kws :=
  ⟨f, _, fun_mk l c k, ⟨⟨oc, od, .none, kV, doc, pm, an, cdv, ct, osl, rfl, l, c, .inl ⟨rfl, rfl⟩, hk⟩, k⟩, PySem.W.mg_of X G a, k⟩
theorem kwd_one {D : Addr} {x : Str} {v : V} {u : Value} (h : PySem.W.nsIn K D x = some (some u)) (r : RelV v u) : KwdV K (.ref D) [(x, v)] := .inr ⟨D, rfl, fun q hq => by
  rw [List.mem_singleton] at hq; subst hq; exact ⟨u, h, r⟩⟩
theorem kwd_two {D : Addr} {x y : Str} {v v2 : V} {u u2 : Value} (h : PySem.W.nsIn K D x = some (some u)) (r : RelV v u) (h2 : PySem.W.nsIn K D y = some (some u2)) (r2 : RelV v2 u2) : KwdV K (.ref D) [(x, v), (y, v2)] := .inr ⟨D, rfl, fun q hq => by
  rcases List.mem_cons.mp hq with rfl | hq
  · exact ⟨u, h, r⟩
  · rw [List.mem_singleton] at hq; subst hq; exact ⟨u2, h2, r2⟩⟩
end
section
variable {X : Cx} {W : Wt} {k np n : Nat} {x : Str} {p pos : Pos} {e : Expr} {es : List Expr} {kwe : List Keyword} {a b : Ans} {g : Cn} {st : Stmt} {kws : List (Str × V)} {ps ks : List Str} {ds : List D}
/-- f(e, ..): the keyword-only parameters have their defaults -/
theorem de_clD (c : ClD X.prog X.w X.K X.mg X.base k x st kws ps n W.xr g) (hr : Room k X.A) (hx : Passes (L2.CX X.prog X.w) X W.E) (hds : RepC ds (kws.map (·.2))) (hk : kws ≠ []) (hn : np + kws.length = ps.length)
    (h : ∀ (D : Addr) (doc pm : Value) (an : Option Addr) (cdv ct : Value) (us ks : List Value), us.length = np → ks.length = kws.length →
      KwChain D ((kws.map (·.1)).zip ks) (bindArgs (PySem.W.fnOf x x (defArgs st) (defBody st) (defScope st) .none (.ref D) doc pm an cdv ct) ⟨us, []⟩) (ps.zip (us ++ ks)))
    (ha : PA X (e :: es) (tAs X.K W a)) (hl : aLen (aDef a ds) n) (hg : Gl X x := by rfl) (hdb : (x == ("__debug__" : Str)) = false := by decide) (he : starEach (e :: es) X.env = (false, eval e X.env) :: starEach es X.env := by rfl) (hpl : (backTo pos (starEach es X.env)).any (·.1) = false := by rfl) :
    PE X (.Call (.Name x p) (e :: es) [] pos) (tE X.K W (dCall g (aDef a ds))) := by
  obtain ⟨f, fd, FD, Fk, hm, hkp⟩ := c.ex
  obtain ⟨dv, hv, hb⟩ := FD.binds0 np hk hn h
  refine PE.imp (pe_call (dvs := kws.map (·.2)) (ds := dv) Fk hr hg hm hkp hb hv hx ha hdb he hpl) fun σ H Q q => ?_
  have q := call_imp (dvs := []) hl (q := q)
  obtain ⟨ρ, F, s, q⟩ := q
  refine Af.bind s q fun hs vs ρ1 F1 H1 g1 r z => ?_
  exact z.okk g1.sr (repHs_app r (repHs_def hds))
/-- f(e, .., k = v, ..): the first keyword-only parameters are written, in their order; the others have their defaults -/
theorem de_clK (c : ClD X.prog X.w X.K X.mg X.base k x st kws ps n W.xr g) (hr : Room k X.A) (hx : Passes (L2.CX X.prog X.w) X W.E) (ms : List (Str × V)) (hds : RepC ds (ms.map (·.2))) (hk : kws ≠ []) (hms : ∀ q ∈ ms, q ∈ kws)
    (h : ∀ (D : Addr) (doc pm : Value) (an : Option Addr) (cdv ct : Value) (us mv ws : List Value), us.length = np → mv.length = ms.length → ws.length = ks.length →
      KwChain D ((ms.map (·.1)).zip mv) (bindArgs (PySem.W.fnOf x x (defArgs st) (defBody st) (defScope st) .none (.ref D) doc pm an cdv ct) ⟨us, ks.zip ws⟩) (ps.zip ((us ++ ws) ++ mv)))
    (ha : PA X (e :: es) (tAs X.K W a)) (hkw : PK X kwe (tAs X.K W b)) (hla : aLen a np) (hlb : aLen b ks.length) (hl : aLen (aDef (aApp a b) ds) n) (hg : Gl X x := by rfl)
    (hall : (backToKw pos (keywordEach kwe X.env)).all (·.1.isSome) = true := by rfl) (hks : (backToKw pos (keywordEach kwe X.env)).filterMap (·.1) = ks := by rfl)
    (hdb : (x == ("__debug__" : Str)) = false := by decide) (he : starEach (e :: es) X.env = (false, eval e X.env) :: starEach es X.env := by rfl)
    (hpl : ((backTo pos (starEach (e :: es) X.env)).any (·.1) || (backToKw pos (keywordEach kwe X.env)).any (·.1.isNone)) = false := by rfl) :
    PE X (.Call (.Name x p) (e :: es) kwe pos) (tE X.K W (dCall g (aDef (aApp a b) ds))) := by
  obtain ⟨f, fd, FD, Fk, hm, hkp⟩ := c.ex
  obtain ⟨mv, hb⟩ := FD.kbinds0 (ps := ps) np ks ms (fun us mv ws => (us ++ ws) ++ mv) hk hms (fun r1 r2 r3 => (r1.append r3).append r2) h
  refine PE.imp (pe_callN Fk hr hg hm hkp hb hx ha hkw hall hks hdb he hpl) fun σ H Q q => ?_
  have q := call_imp (dvs := []) hl (q := q)
  obtain ⟨ρ, F, s, q⟩ := q
  have e0 : aDef (aApp a b) ds ρ = (a ρ).bind fun hs ρ1 => (b ρ1).bind fun ks ρ2 => .ok ((hs ++ ks) ++ ds.map Hd.v) ρ2 := by
    unfold aDef aApp
    cases a ρ with
    | ok l ρ1 => simp only [RE.bind]; cases b ρ1 <;> rfl
    | ex _ _ => rfl
    | no => rfl
  rw [e0] at q
  refine ⟨ρ, F, s, ?_⟩
  cases hea : a ρ with
  | no => rw [hea] at q; exact q
  | ex y ρ1 => rw [hea] at q; exact q
  | ok hs ρ1 =>
    rw [hea] at q
    simp only [RE.bind] at q
    intro vs F1 H1 g1 r1
    have q1 := q.at g1
    refine ⟨ρ1, F1, g1.sr, ?_⟩
    cases heb : b ρ1 with
    | no => rw [heb] at q1; exact q1
    | ex y ρ2 => rw [heb] at q1; exact q1
    | ok hk2 ρ2 =>
      rw [heb] at q1
      simp only [RE.bind] at q1
      intro zs F2 H2 g2 r2
      refine ⟨by rw [← r1.len]; exact hla _ _ _ hea, by rw [← r2.len]; exact hlb _ _ _ heb, ?_⟩
      exact (q1.at g2).okk g2.sr (repHs_app (repHs_app (RepHs.mono g2.sub r1) r2) (repHs_def hds))
theorem dks_nil : PK X [] (tAs X.K W aNil) := ⟨fun pos pins s σ H Q I ⟨ρ, F, sr, q⟩ => pk_nil.run pos pins s σ H Q I (Af.okk sr q .nil)⟩
theorem dks_cons {nm : Option Str} {kpos : Pos} {a : An} {as : Ans} (h : PE X e (tA X.K W a)) (t : PK X kwe (tAs X.K W as)) : PK X (⟨nm, e, kpos⟩ :: kwe) (tAs X.K W (aCons a as)) :=
  ⟨fun pos pins s σ H Q I ⟨ρ, F, sr, q⟩ => (pk_cons h t).run pos pins s σ H Q I (Af.bind sr q fun h v ρ1 F1 H1 g1 r1 z1 => Af.bind g1.sr z1 fun hs vs ρ2 F2 H2 g2 r2 z2 => z2.okk g2.sr (.cons (r1.mono g2.sub) r2))⟩
end
theorem repc_nil : RepC [] [] := rfl
theorem repc_int {i : Int} {ds : List D} {vs : List V} (h : RepC ds vs) : RepC (.int i :: ds) (.int i :: vs) := ⟨_, _, rfl, fun _ _ => rep_int, h⟩
/-! ### steps -/
section
variable {a b : Ans} {ds : List D} {ρ : Rho} {hs ks : List Hd}
def defK (ds : List D) (hs : List Hd) (ρ : Rho) : RE (List Hd) := .ok (hs ++ ds.map Hd.v) ρ
theorem ev_aDef : aDef a ds ρ = (a ρ).bind (defK ds) := rfl
theorem ev_defK : defK ds hs ρ = .ok (hs ++ ds.map Hd.v) ρ := rfl
def appK3 (b : Ans) (hs : List Hd) (ρ : Rho) : RE (List Hd) := (b ρ).bind (appK4 hs)
where appK4 (hs ks : List Hd) (ρ : Rho) : RE (List Hd) := .ok (hs ++ ks) ρ
theorem ev_aApp : aApp a b ρ = (a ρ).bind (appK3 b) := rfl
theorem ev_appK3 : appK3 b hs ρ = (b ρ).bind (appK3.appK4 hs) := rfl
theorem ev_appK4 : appK3.appK4 hs ks ρ = .ok (hs ++ ks) ρ := rfl
theorem ev_appn0 : ([] : List Hd) ++ ks = ks := rfl
theorem ev_appns {h : Hd} : (h :: hs) ++ ks = h :: (hs ++ ks) := rfl
theorem ev_mapn0 : ([] : List D).map Hd.v = [] := rfl
theorem ev_mapns {d : D} : (d :: ds).map Hd.v = Hd.v d :: ds.map Hd.v := rfl
end
end Ft
/-! Ft23: a tuple times 0, 1 or more. -/
namespace Ft
open PySem L2 PySem.Spec PyProof.Rows
section
variable {X : Cx}
theorem tuple_mul1 (l : Addr) (items : Array Value) (n : Nat) (u : Tok) (sl : Array (Option Value)) (dd : Option Addr) :
    Meets (Builtin.«tuple.__mul__» ⟨[.ref l, .int 1 u], []⟩) (fun _ R s => s.heap.get? l = some { cls := .type "tuple", dict := dd, data := .seq items n, slots := sl } ∧ R (.ok (.ret (Value.ref l))) s) :=
  .of_wp fun prog w A R s h => by
    obtain ⟨hp, g, d, tk, os⟩ := s
    obtain ⟨hl, h⟩ := h
    have f1 := AutoSeq1.idx_int
    have c0 : ¬ ((1 : Int) < -(2 ^ 63) ∨ (1 : Int) ≥ 2 ^ 63) := by decide
    wp_walk using wpAny_loadPart' hl
    repeat (first
      | (refine wpAny_ite_false (by simp) ?_; wp_walk using wpAny_loadPart' hl)
      | (refine wpAny_ite_true (by simp) ?_; wp_walk using wpAny_loadPart' hl))
    exact ⟨_, rfl, h⟩
theorem tuple_mul0 (l : Addr) (items : Array Value) (n : Nat) (u : Tok) (sl : Array (Option Value)) (dd : Option Addr) (hi : items.isEmpty = false) :
    Meets (Builtin.«tuple.__mul__» ⟨[.ref l, .int 0 u], []⟩) (fun _ R s => s.heap.get? l = some { cls := .type "tuple", dict := dd, data := .seq items n, slots := sl } ∧
      R (.ok (.ret (Value.ref s.heap.objs.size))) { s with heap := s.heap.push { cls := Value.type "tuple", data := Data.seq #[] }, toks := s.toks }) :=
  .of_wp fun prog w A R s h => by
    obtain ⟨hp, g, d, tk, os⟩ := s
    obtain ⟨hl, h⟩ := h
    have f1 := AutoSeq1.idx_int
    wp_walk using wpAny_loadPart' hl
    repeat (first
      | (refine wpAny_ite_false (by simp [hi]) ?_; wp_walk using wpAny_loadPart' hl)
      | (refine wpAny_ite_true (by simp [hi]) ?_; wp_walk using wpAny_loadPart' hl))
    exact ⟨_, rfl, h⟩
def rRepT1 (K : PySem.W.Frag) : R2 := fun x y H Q => ∃ l k xs, x = .ref l ∧ y = .int k ∧ SqT K H l xs ∧ xs ≠ [] ∧ xs.length ≤ 1000 ∧ ((k = 1 ∧ Q (.ref l) H) ∨ (k = 0 ∧ ∀ p, H p = none → Q (.ref p) (upd H p (.tup []))) ∨
  (2 ≤ k ∧ k ≤ 1000 ∧ ∀ p, H p = none → Q (.ref p) (upd H p (.tup (List.replicate k.toNat xs).flatten))))
theorem op_repT1 : OpR X (binaryOp .Mult) (rRepT1 X.K) := by
  intro pins s σ H x y v u Q I rx ry h
  obtain ⟨l, k, xs, rfl, rfl, hT, hne, hz, h⟩ := h
  rcases h with ⟨rfl, q⟩ | ⟨rfl, q⟩ | ⟨h1, h2, q⟩
  · cases rx
    obtain ⟨t, rfl⟩ := ry
    obtain ⟨its, r, ⟨⟨cls, dd, data, sl⟩, ho, hc, n, hd⟩, hs⟩ := I.tuple hT
    simp only at hc hd
    subst hc hd
    exact wpAny_binaryOp_repeat_ref (T := "tuple") (U := "int") (by decide) ⟨_, ho, rfl⟩ (fun s' => typeIs_int s' 1 t) noFill_tuple_mul F.fills_int_mul F.slot_int_rmul repeat_tuple F.slot_int_index.lookup
      (call_meets F.slot_int_rmul (typeIs_int s 1 t) F.entry_int_rmul (F.args_int_rmul_2 _ _) (int_rmul_tuple 1 t l its.toArray n dd sl)
        ⟨ho, rfl, ⟨_, ho, rfl⟩, call_meets F.slot_tuple_mul ⟨_, ho, rfl⟩ F.entry_tuple_mul (F.args_tuple_mul_2 _ _) (tuple_mul1 l its.toArray n t sl dd) ⟨ho, ⟨.ref l, H, I, rfl, q⟩⟩⟩)
  · cases rx
    obtain ⟨t, rfl⟩ := ry
    obtain ⟨its, r, ⟨⟨cls, dd, data, sl⟩, ho, hc, n, hd⟩, hs⟩ := I.tuple hT
    simp only at hc hd
    subst hc hd
    have hn : its ≠ [] := fun e => hne (by
      have := r.length
      rw [e] at this
      exact List.eq_nil_of_length_eq_zero this)
    have hi : its.toArray.isEmpty = false := by
      cases its with
      | nil => exact absurd rfl hn
      | cons a b => rfl
    refine wpAny_binaryOp_repeat_ref (T := "tuple") (U := "int") (by decide) ⟨_, ho, rfl⟩ (fun s' => typeIs_int s' 0 t) noFill_tuple_mul F.fills_int_mul F.slot_int_rmul repeat_tuple F.slot_int_index.lookup
      (call_meets F.slot_int_rmul (typeIs_int s 0 t) F.entry_int_rmul (F.args_int_rmul_2 _ _) (int_rmul_tuple 0 t l its.toArray n dd sl)
        ⟨ho, rfl, ⟨_, ho, rfl⟩, call_meets F.slot_tuple_mul ⟨_, ho, rfl⟩ F.entry_tuple_mul (F.args_tuple_mul_2 _ _) (tuple_mul0 l its.toArray n t sl dd hi) ⟨ho, ?_⟩⟩)
    refine ⟨.ref s.heap.objs.size, _, I.laid (t' := s.toks) (o := .tup []) (fun b ob q => Heap.get?_push_of_some _ q) (Nat.le_refl _) ?_, rfl, q _ (I.hok.fresh (Nat.le_refl _))⟩
    exact ⟨by rw [sizeLine_eq]; decide, [], .nil, IsTup.new _ _⟩
  · exact op_repT pins s σ H _ _ v u Q I rx ry ⟨l, k, xs, rfl, rfl, hT, hne, h1, h2, hz, q⟩
def mulTC : D → D → Option D
  | .tuple l, .int k => if (!l.isEmpty) && decide (0 ≤ k) && decide (k ≤ 1000) && decide (l.length ≤ 1000) then some (.tuple (List.replicate k.toNat l).flatten) else none
  | _, _ => none
theorem p2_mulTC {K : PySem.W.Frag} : P2 K (rRepT1 K) mulTC := fun F H x y d e z Q s h1 h2 hz q => by
  unfold mulTC at hz
  split at hz
  · split at hz
    · rename_i l k c
      cases hz
      simp only [Bool.and_eq_true, decide_eq_true_eq, Bool.not_eq_true'] at c
      obtain ⟨⟨⟨c1, c2⟩, c3⟩, c4⟩ := c
      have hr : Rep K F (.tuple l) x := by
        rcases h1 with h | ⟨_, m, _, e, _⟩
        · exact h
        · cases m <;> cases e
      obtain ⟨a, vs, rfl, q1, r1⟩ := h1.tuple s
      have l1 := r1.length
      have ne : vs ≠ [] := fun z => by
        subst z
        rw [List.length_nil] at l1
        rw [List.eq_nil_of_length_eq_zero l1] at c1
        cases c1
      refine ⟨a, k, vs, rfl, h2.int, q1, ne, by omega, ?_⟩
      rcases (show k = 1 ∨ k = 0 ∨ 2 ≤ k by omega) with rfl | rfl | c5
      · refine .inl ⟨rfl, ?_⟩
        have : (List.replicate (1 : Int).toNat l).flatten = l := by simp
        rw [this] at q
        exact q _ F H (Fr.refl s) hr
      · refine .inr (.inl ⟨rfl, fun p hp => ?_⟩)
        obtain ⟨f, r⟩ := new_tuple (K := K) s hp (ds := []) (vs := []) .nil
        exact q _ _ _ f r
      · refine .inr (.inr ⟨c5, c3, fun p hp => ?_⟩)
        obtain ⟨f, r⟩ := new_tuple (K := K) s hp (reps_rep r1 k.toNat)
        exact q _ _ _ f r
    · cases hz
  · cases hz
end
end Ft
/-! Ft24: a comprehension over an own list that stays an own list. -/
namespace Ft
open PySem L2 PySem.Spec PyProof.Rows
def HasO (i : Nat) (l : List D) (ρ : Rho) : Prop := ∃ b, ρ[i]? = some (.own (.lst l) b)
open Classical in
noncomputable def compLO (i : Nat) (l0 : List D) (bd : Bd) (ifs : Tn) (elt : Dn) (vs : List Nat) : List D → List D → Rho → RE (List D)
  | [], acc, ρ => if HasO i l0 ρ then .ok acc ρ else .no
  | d :: l, acc, ρ => if HasO i l0 ρ then (match bd d ρ with
    | none => .no
    | some ρ1 => match ifs ρ1 with
      | .ok false ρ2 => compLO i l0 bd ifs elt vs l acc (wipeR ρ2 vs)
      | .ok true ρ2 => match elt ρ2 with
        | .ok x ρ3 => if acc.length < sizeLine then compLO i l0 bd ifs elt vs l (acc ++ [x]) (wipeR ρ3 vs) else .no
        | _ => .no
      | _ => .no) else .no
noncomputable def compKO (i : Nat) (bd : Bd) (ifs : Tn) (elt : Dn) (vs : List Nat) (ρ : Rho) : Option LV → RE Mo
  | some (.own (.lst l) _) => compR ρ vs (compLO i l bd ifs elt vs l [] (wipeR ρ vs))
  | _ => .no
noncomputable def fCompO (i : Nat) (bd : Bd) (ifs : Tn) (elt : Dn) (vs : List Nat) : Fn := fun ρ => compKO i bd ifs elt vs ρ (ρ[i]?)
section
variable {X : Cx} {W : Wt} {tg e e2 e3 : Expr} {d d2 : Dn} {pos p : Pos} {v : Vn} {es : List Expr} {t : Tn}
theorem comp_tailO {bd : Bd} {ts vs : List Nat} {ifs : Tn} {elt : Dn} {g : TG} {σ : Sg} {H1 : Hp} {Q : VK} {l : List D} {ρ1 : Rho} {F1 : Hp} {i0 : Nat} {a : Addr} (hr : TgR X.K g bd ts) (sub : ∀ i ∈ ts, i ∈ vs) (hiv : i0 ∉ vs) (s1 : SR X.K ρ1 σ F1 H1) (ha : σ[i0]? = some (some (.ref a)))
    (q1 : AfF X.K W ρ1 σ F1 H1 Q (compR ρ1 vs (compLO i0 l bd ifs elt vs l [] (wipeR ρ1 vs)))) :
    tLc (fun _ H R => R (Itl X.K a) H) g (tT X.K ⟨W.xr, E0⟩ ifs) (tE X.K ⟨W.xr, E0⟩ elt) vs σ H1 Q := by
  intro D hD
  have at_ : ∀ {ρb : Rho} {Fb H' : Hp}, SR X.K ρb (wipe σ vs) Fb H' → HasO i0 l ρb → ∃ ws, SqL X.K H' a ws ∧ Reps X.K Fb l ws := fun {ρb Fb H'} s ⟨b, e⟩ => by
    obtain ⟨c, h1, _, ws, h2, h3⟩ := s.own _ _ _ e
    rw [wipe_get hiv, ha] at h1
    cases h1
    exact ⟨ws, .inl (.inl h2), h3⟩
  have h0 : ∀ j ∈ vs, ∀ m, (wipeR ρ1 vs)[j]? ≠ some (.own m false) := fun j hj m e => by have := wipeR_in hj _ e; cases this
  have noD : ¬ Own ρ1 σ D := fun z => by
    obtain ⟨o, eo⟩ := z.there s1
    rw [hD] at eo; cases eo
  have FD : F1 D = none := sub_none s1.sub hD
  refine ⟨fun i m H' => ∃ ρb Fb acc, Go X.K (wipeR ρ1 vs) (wipe σ vs) F1 H1 ρb (wipe σ vs) Fb H' ∧ OwnAt X.K Fb H' D (.lst acc) ∧ ¬ Own ρb (wipe σ vs) D ∧ i ≤ l.length ∧ m = l.length - i ∧
      AfF X.K W ρ1 σ F1 H1 Q (compR ρ1 vs (compLO i0 l bd ifs elt vs (l.drop i) acc ρb)),
    ⟨l.length, wipeR ρ1 vs, F1, [], (Go.refl s1.wipe).grow hD FD fun z => noD (own_wipe z), ⟨FD, [], upd_same, .nil⟩, fun z => noD (own_wipe z), Nat.zero_le _, rfl, q1⟩, ?_⟩
  rintro i m H2 ⟨ρb, Fb, acc, gb, ob, nb, hi, rfl, q2⟩
  by_cases hl : i < l.length
  · have hd' : l.drop i = l[i] :: l.drop (i + 1) := List.drop_eq_getElem_cons hl
    rw [hd'] at q2
    unfold compLO at q2
    by_cases hP : HasO i0 l ρb
    · rw [if_pos hP] at q2
      obtain ⟨ws, hq, hrep⟩ := at_ gb.sr hP
      obtain ⟨w, hw, rw'⟩ := hrep.get (List.getElem?_eq_getElem hl)
      refine .inr ⟨⟨ws, w, hq, hw⟩, fun H' => ∃ ρb Fb acc, Go X.K (wipeR ρ1 vs) (wipe σ vs) F1 H1 ρb (wipe σ vs) Fb H' ∧ OwnAt X.K Fb H' D (.lst acc) ∧ ¬ Own ρb (wipe σ vs) D ∧
        AfF X.K W ρ1 σ F1 H1 Q (compR ρ1 vs (compLO i0 l bd ifs elt vs (l.drop (i + 1)) acc ρb)), fun H' ⟨a1, a2, a3, a4, a5, a6, a7⟩ => ⟨l.length - (i + 1), by omega, a1, a2, a3, a4, a5, a6, hl, rfl, a7⟩, fun x H3 y => ?_⟩
      obtain ⟨rfl, y⟩ := y
      have y2 := y ws hq
      rw [hw] at y2
      cases y2
      have g3 := gb
      cases hb : bd l[i] ρb with
      | none => rw [hb] at q2; exact q2.elim
      | some ρ4 =>
        simp only [hb] at q2
        refine hr _ _ _ _ _ _ _ _ g3.sr rw' hb fun σ4 g4 kp => ?_
        have we := wipe_keep kp sub
        obtain ⟨o3, n3⟩ := OwnAt.go g4 ob nb
        have g5 := g3.trans g4
        refine ⟨we, ρ4, Fb, g4.sr, ?_⟩
        cases hif : ifs ρ4 with
        | no => simp only [hif] at q2; exact q2.elim
        | ex x ρ5 => simp only [hif] at q2; exact q2.elim
        | ok b ρ5 =>
          intro b' F5 H5 g6 eb
          subst eb
          obtain ⟨o5, n5⟩ := OwnAt.go g6 o3 n3
          cases b' with
          | false =>
            simp only [hif] at q2
            rw [if_neg Bool.false_ne_true]
            exact ⟨wipeR ρ5 vs, F5, acc, (g5.trans g6).wiped we h0, o5, fun z => n5 (own_wipe (vs := vs) (by rw [we]; exact z)), q2⟩
          | true =>
            simp only [hif] at q2
            rw [if_pos rfl]
            refine ⟨ρ5, F5, g6.sr, ?_⟩
            cases hel : elt ρ5 with
            | no => simp only [hel] at q2; exact q2.elim
            | ex x ρ6 => simp only [hel] at q2; exact q2.elim
            | ok x ρ6 =>
              intro yv F6 H6 g7 ry
              obtain ⟨o6, n6⟩ := OwnAt.go g7 o5 n5
              obtain ⟨fD, ac, eD, rD⟩ := o6
              simp only [hel] at q2
              by_cases hz : acc.length < sizeLine
              · rw [if_pos hz] at q2
                refine ⟨ac, eD, by rw [← rD.length]; exact hz, wipeR ρ6 vs, F6, acc ++ [x], ?_, ⟨fD, _, upd_same, rD.append (.cons ry .nil)⟩, fun z => n6 (own_wipe (vs := vs) (by rw [we]; exact z)), q2⟩
                exact (((g5.trans g6).trans g7).wiped we h0).grow hD fD fun z => n6 (own_wipe (vs := vs) (by rw [we]; exact z))
              · rw [if_neg hz] at q2; exact q2.elim
    · rw [if_neg hP] at q2; exact q2.elim
  · rw [List.drop_eq_nil_of_le (by omega)] at q2
    unfold compLO at q2
    by_cases hP : HasO i0 l ρb
    · rw [if_pos hP] at q2
      obtain ⟨ws, hq, hrep⟩ := at_ gb.sr hP
      refine .inl ⟨⟨ws, hq, by rw [← hrep.length]; omega⟩, ?_⟩
      obtain ⟨g2, o2⟩ := Go.unwipe s1 gb
      exact q2 D Fb H2 g2 ob hD fun z => (o2 D z).elim nb noD
    · rw [if_neg hP] at q2; exact q2.elim
theorem compO_imp (i : Nat) {bd : Bd} {ts vs : List Nat} {ifs : Tn} {elt : Dn} {g : TG} {σ : Sg} {H : Hp} {Q : VK} (hr : TgR X.K g bd ts) (sub : ∀ i ∈ ts, i ∈ vs) (hiv : i ∉ vs) (q : tF X.K W (fCompO i bd ifs elt vs) σ H Q) :
    tLc (iList X.K (tVar i)) g (tT X.K ⟨W.xr, E0⟩ ifs) (tE X.K ⟨W.xr, E0⟩ elt) vs σ H Q := by
  obtain ⟨ρ, F, s, q⟩ := q
  unfold fCompO compKO at q
  cases hi : ρ[i]? with
  | none => rw [hi] at q; exact q.elim
  | some x =>
    rw [hi] at q
    cases x with
    | un => exact q.elim
    | val _ => exact q.elim
    | own m b =>
      cases m with
      | lst l =>
        obtain ⟨a, h1, _, ws, h2, h3⟩ := s.own _ _ _ hi
        exact ⟨_, h1, a, rfl, ⟨ws, .inl (.inl h2)⟩, comp_tailO hr sub hiv s h1 q⟩
      | dK _ => exact q.elim
      | dT _ => exact q.elim
theorem df_compO (i : Nat) {x : Str} {p : Pos} {ifs : List Expr} {scope : Scope} {bd : Bd} {ts vs : List Nat} {tn : Tn} {de : Dn} {elt : Expr} (own : List (Str × Nat)) (hv : vs = own.map (·.2)) (hiv : i ∉ vs) (hc : X.calm = true) (hN : X.N.Nodup) (ok : BlkOk X.N X.env.scope scope own)
    (hg : ∃ g, (∀ (s : Shared) (H : Hp) (C : Addr) (cl : List (Str × Addr)) (fp : List Addr), PG (X.blk s H scope (compEnvC scope cl C X.env) fp) tg g) ∧ TgR X.K g bd ts) (sub : ∀ i ∈ ts, i ∈ vs)
    (ht : ∀ (s : Shared) (H : Hp) (C : Addr) (cl : List (Str × Addr)) (fp : List Addr), PTs (X.blk s H scope (compEnvC scope cl C X.env) fp) ifs (tT X.K ⟨W.xr, E0⟩ tn))
    (he : ∀ (s : Shared) (H : Hp) (C : Addr) (cl : List (Str × Addr)) (fp : List Addr), PE (X.blk s H scope (compEnvC scope cl C X.env) fp) elt (tE X.K ⟨W.xr, E0⟩ de))
    (hs : ∀ y, foldedSetIterable (.Name x p) X.env y = pure y := by intro _; rfl)
    (hx : X.N[i]? = some x := by rfl) (hvs : Vis X.env.scope x := by first | exact Or.inl rfl | exact Or.inr (Or.inl rfl) | exact Or.inr (Or.inr rfl)) (hd : (x == ("__debug__" : Str)) = false := by decide) (hcd : (x == ("__classdict__" : Str)) = false := by decide) :
    PE X (.ListComp elt [⟨tg, .Name x p, ifs, 0⟩] scope pos) (tF X.K W (fCompO i bd tn de vs)) := by
  obtain ⟨g, hg, hr⟩ := hg
  subst hv
  exact PE.imp (pe_lc hc hN (pi_list (pe_var hx hvs hd hcd)) ok hg ht he hs) fun _ _ _ q => compO_imp i hr sub hiv q
end
section
variable {ρ : Rho} {bd : Bd} {ifs t : Tn} {elt d : Dn} {vs : List Nat} {i : Nat} {l : List D} {b : Bool}
theorem ev_fCompO : fCompO i bd t d vs ρ = compKO i bd t d vs ρ (ρ[i]?) := rfl
theorem ev_compKO : compKO i bd t d vs ρ (some (.own (.lst l) b)) = compR ρ vs (compLO i l bd t d vs l [] (wipeR ρ vs)) := rfl
/-- one that leaves the state as it was -/
theorem compO_pure {l0 : List D} {p : D → Bool} {f : D → D} : ∀ (l acc : List D) (ρ : Rho), HasO i l0 ρ → acc.length + l.length ≤ 16777216 →
    (∀ d ∈ l, ∃ ρ1 ρ2, bd d ρ = some ρ1 ∧ ifs ρ1 = .ok (p d) ρ2 ∧ (p d = false → wipeR ρ2 vs = ρ) ∧ (p d = true → ∃ ρ3, elt ρ2 = .ok (f d) ρ3 ∧ wipeR ρ3 vs = ρ)) → compLO i l0 bd ifs elt vs l acc ρ = .ok (acc ++ (l.filter p).map f) ρ
  | [], acc, ρ, ho, _, _ => by simp [compLO, ho]
  | d :: l, acc, ρ, ho, hz, h => by
    obtain ⟨ρ1, ρ2, e1, e2, h1, h2⟩ := h d (List.mem_cons_self ..)
    rw [List.length_cons] at hz
    unfold compLO
    rw [if_pos ho]
    simp only [e1, e2]
    cases hp : p d with
    | false =>
      simp only
      rw [h1 hp, compO_pure l acc ρ ho (by omega) fun d hd => h d (List.mem_cons_of_mem _ hd)]
      simp [hp]
    | true =>
      obtain ⟨ρ3, e3, e4⟩ := h2 hp
      simp only [e3]
      rw [if_pos (show acc.length < PySem.sizeLine by unfold PySem.sizeLine; omega), e4, compO_pure l (acc ++ [f d]) ρ ho (by rw [List.length_append]; simp; omega) fun d hd => h d (List.mem_cons_of_mem _ hd)]
      simp [hp]
end
end Ft
/-! Ft90: the steps, bundled (printed by asm.py). -/
namespace Ft
open PySem L2
theorem evs0 : (type_of% @ev_bind) ∧ (type_of% @ev_st) ∧ (type_of% @ev_dV) ∧ (type_of% @ev_lvV1) ∧ (type_of% @ev_lvV2) ∧ (type_of% @ev_toD) ∧ (type_of% @ev_aV) ∧ (type_of% @ev_lvA1) ∧ (type_of% @ev_lvA2) ∧ (type_of% @ev_aR) ∧ (type_of% @ev_lvR) ∧ (type_of% @ev_dC) ∧ (type_of% @ev_aE) ∧ (type_of% @ev_mkV) ∧ (type_of% @ev_aNil) ∧ (type_of% @ev_aCons) ∧ (type_of% @ev_consK) ∧ (type_of% @ev_consK2) ∧ (type_of% @ev_vNil) ∧ (type_of% @ev_vCons) ∧ (type_of% @ev_vconsK) ∧ (type_of% @ev_vconsK2) ∧ (type_of% @ev_look1) ∧ (type_of% @ev_look2) ∧ (type_of% @ev_lookK) ∧ (type_of% @ev_looks0) ∧ (type_of% @ev_looks1) ∧ (type_of% @ev_looksK) ∧ (type_of% @ev_ob) ∧ (type_of% @ev_om) ∧ (type_of% @ev_ans) ∧ (type_of% @ev_dOp1) ∧ (type_of% @ev_op1K) ∧ (type_of% @ev_dOp2) ∧ (type_of% @ev_op2K) ∧ (type_of% @ev_op2L) ∧ (type_of% @ev_ap2) ∧ (type_of% @ev_dOpN) ∧ (type_of% @ev_opNK) ∧ (type_of% @ev_fOpN) :=
  ⟨@ev_bind, @ev_st, @ev_dV, @ev_lvV1, @ev_lvV2, @ev_toD, @ev_aV, @ev_lvA1, @ev_lvA2, @ev_aR, @ev_lvR, @ev_dC, @ev_aE, @ev_mkV, @ev_aNil, @ev_aCons, @ev_consK, @ev_consK2, @ev_vNil, @ev_vCons, @ev_vconsK, @ev_vconsK2, @ev_look1, @ev_look2, @ev_lookK, @ev_looks0, @ev_looks1, @ev_looksK, @ev_ob, @ev_om, @ev_ans, @ev_dOp1, @ev_op1K, @ev_dOp2, @ev_op2K, @ev_op2L, @ev_ap2, @ev_dOpN, @ev_opNK, @ev_fOpN⟩
theorem evs1 : (type_of% @ev_fopNK) ∧ (type_of% @ev_add) ∧ (type_of% @ev_sub) ∧ (type_of% @ev_neg) ∧ (type_of% @ev_small) ∧ (type_of% @ev_mul1) ∧ (type_of% @ev_mul2) ∧ (type_of% @ev_fdiv) ∧ (type_of% @ev_mod) ∧ (type_of% @ev_eq) ∧ (type_of% @ev_ne) ∧ (type_of% @ev_lt) ∧ (type_of% @ev_gt) ∧ (type_of% @ev_le) ∧ (type_of% @ev_ge) ∧ (type_of% @ev_eqb) ∧ (type_of% @ev_neb) ∧ (type_of% @ev_isB) ∧ (type_of% @ev_isNotB) ∧ (type_of% @ev_isi) ∧ (type_of% @ev_len1) ∧ (type_of% @ev_len2) ∧ (type_of% @ev_int1) ∧ (type_of% @ev_tup1) ∧ (type_of% @ev_tup2) ∧ (type_of% @ev_lst1) ∧ (type_of% @ev_lst2) ∧ (type_of% @ev_ix1) ∧ (type_of% @ev_ix2) ∧ (type_of% @ev_at0) ∧ (type_of% @ev_at1) ∧ (type_of% @ev_at2) ∧ (type_of% @ev_at3) ∧ (type_of% @ev_at4) ∧ (type_of% @ev_at5) ∧ (type_of% @ev_dTv) ∧ (type_of% @ev_tvK) ∧ (type_of% @ev_tnNot) ∧ (type_of% @ev_notK) ∧ (type_of% @ev_tnAnd) :=
  ⟨@ev_fopNK, @ev_add, @ev_sub, @ev_neg, @ev_small, @ev_mul1, @ev_mul2, @ev_fdiv, @ev_mod, @ev_eq, @ev_ne, @ev_lt, @ev_gt, @ev_le, @ev_ge, @ev_eqb, @ev_neb, @ev_isB, @ev_isNotB, @ev_isi, @ev_len1, @ev_len2, @ev_int1, @ev_tup1, @ev_tup2, @ev_lst1, @ev_lst2, @ev_ix1, @ev_ix2, @ev_at0, @ev_at1, @ev_at2, @ev_at3, @ev_at4, @ev_at5, @ev_dTv, @ev_tvK, @ev_tnNot, @ev_notK, @ev_tnAnd⟩
theorem evs2 : (type_of% @ev_andT) ∧ (type_of% @ev_andF) ∧ (type_of% @ev_tnOr) ∧ (type_of% @ev_orT) ∧ (type_of% @ev_orF) ∧ (type_of% @ev_tnYes) ∧ (type_of% @ev_dAnd) ∧ (type_of% @ev_dandT) ∧ (type_of% @ev_dandF) ∧ (type_of% @ev_dOr) ∧ (type_of% @ev_dorT) ∧ (type_of% @ev_dorF) ∧ (type_of% @ev_dNot) ∧ (type_of% @ev_dnotK) ∧ (type_of% @ev_dIf) ∧ (type_of% @ev_difT) ∧ (type_of% @ev_difF) ∧ (type_of% @ev_dTup) ∧ (type_of% @ev_tupK) ∧ (type_of% @ev_fLst) ∧ (type_of% @ev_lstK) ∧ (type_of% @ev_dFz) ∧ (type_of% @ev_fzK) ∧ (type_of% @ev_oNone) ∧ (type_of% @ev_oSome) ∧ (type_of% @ev_dSl) ∧ (type_of% @ev_slK0) ∧ (type_of% @ev_slK1) ∧ (type_of% @ev_slK2) ∧ (type_of% @ev_sSeq) ∧ (type_of% @ev_seqN) ∧ (type_of% @ev_seqR) ∧ (type_of% @ev_seqB) ∧ (type_of% @ev_seqC) ∧ (type_of% @ev_sSkip) ∧ (type_of% @ev_sIf) ∧ (type_of% @ev_sifT) ∧ (type_of% @ev_sifF) ∧ (type_of% @ev_notIo) ∧ (type_of% @ev_nio1) :=
  ⟨@ev_andT, @ev_andF, @ev_tnOr, @ev_orT, @ev_orF, @ev_tnYes, @ev_dAnd, @ev_dandT, @ev_dandF, @ev_dOr, @ev_dorT, @ev_dorF, @ev_dNot, @ev_dnotK, @ev_dIf, @ev_difT, @ev_difF, @ev_dTup, @ev_tupK, @ev_fLst, @ev_lstK, @ev_dFz, @ev_fzK, @ev_oNone, @ev_oSome, @ev_dSl, @ev_slK0, @ev_slK1, @ev_slK2, @ev_sSeq, @ev_seqN, @ev_seqR, @ev_seqB, @ev_seqC, @ev_sSkip, @ev_sIf, @ev_sifT, @ev_sifF, @ev_notIo, @ev_nio1⟩
theorem evs3 : (type_of% @ev_nio2) ∧ (type_of% @ev_nio3) ∧ (type_of% @ev_putK) ∧ (type_of% @ev_putO) ∧ (type_of% @ev_sSet) ∧ (type_of% @ev_setK) ∧ (type_of% @ev_sNew) ∧ (type_of% @ev_newK) ∧ (type_of% @ev_sRet) ∧ (type_of% @ev_retK) ∧ (type_of% @ev_sRetN) ∧ (type_of% @ev_sRetF) ∧ (type_of% @ev_retFK) ∧ (type_of% @ev_sExpr) ∧ (type_of% @ev_exprK) ∧ (type_of% @ev_sFor) ∧ (type_of% @ev_forK) ∧ (type_of% @ev_for0) ∧ (type_of% @ev_iSeq) ∧ (type_of% @ev_iseqK) ∧ (type_of% @ev_items1) ∧ (type_of% @ev_items2) ∧ (type_of% @ev_iOn) ∧ (type_of% @ev_ionK) ∧ (type_of% @ev_rng1) ∧ (type_of% @ev_rng2) ∧ (type_of% @ev_bN) ∧ (type_of% @ev_ownL) ∧ (type_of% @ev_ownK) ∧ (type_of% @ev_st') ∧ (type_of% @ev_sSetIx) ∧ (type_of% @ev_sixK1) ∧ (type_of% @ev_sixK2) ∧ (type_of% @ev_sixK3) ∧ (type_of% @ev_ixN50) ∧ (type_of% @ev_ixN51) ∧ (type_of% @ev_ixN52) ∧ (type_of% @ev_ixN53) ∧ (type_of% @ev_ixN54) ∧ (type_of% @ev_sApp) :=
  ⟨@ev_nio2, @ev_nio3, @ev_putK, @ev_putO, @ev_sSet, @ev_setK, @ev_sNew, @ev_newK, @ev_sRet, @ev_retK, @ev_sRetN, @ev_sRetF, @ev_retFK, @ev_sExpr, @ev_exprK, @ev_sFor, @ev_forK, @ev_for0, @ev_iSeq, @ev_iseqK, @ev_items1, @ev_items2, @ev_iOn, @ev_ionK, @ev_rng1, @ev_rng2, @ev_bN, @ev_ownL, @ev_ownK, @ev_st', @ev_sSetIx, @ev_sixK1, @ev_sixK2, @ev_sixK3, @ev_ixN50, @ev_ixN51, @ev_ixN52, @ev_ixN53, @ev_ixN54, @ev_sApp⟩
theorem evs4 : (type_of% @ev_appK1) ∧ (type_of% @ev_appK2) ∧ (type_of% @ev_sAsg) ∧ (type_of% @ev_asgK) ∧ (type_of% @ev_asgR) ∧ (type_of% @ev_bT) ∧ (type_of% @ev_ba0) ∧ (type_of% @ev_ba1) ∧ (type_of% @ev_baK) ∧ (type_of% @ev_dChain) ∧ (type_of% @ev_chK1) ∧ (type_of% @ev_chK2) ∧ (type_of% @ev_chT) ∧ (type_of% @ev_chF) ∧ (type_of% @ev_chK4) ∧ (type_of% @ev_sExt) ∧ (type_of% @ev_extK1) ∧ (type_of% @ev_extK2) ∧ (type_of% @ev_sRetM) ∧ (type_of% @ev_retM1) ∧ (type_of% @ev_retM2) ∧ (type_of% @ev_dCall) ∧ (type_of% @ev_callK) ∧ (type_of% @ev_callI) ∧ (type_of% @ev_callR) ∧ (type_of% @ev_callOk) ∧ (type_of% @ev_callNew) ∧ (type_of% @ev_backR) ∧ (type_of% @ev_fCall) ∧ (type_of% @ev_fcallK) ∧ (type_of% @ev_fcallI) ∧ (type_of% @ev_fcallNew) ∧ (type_of% @ev_fbackR) ∧ (type_of% @ev_apart0) ∧ (type_of% @ev_apart1) ∧ (type_of% @ev_apart2) ∧ (type_of% @ev_noS0) ∧ (type_of% @ev_noS1) ∧ (type_of% @ev_noS2) ∧ (type_of% @ev_consO) :=
  ⟨@ev_appK1, @ev_appK2, @ev_sAsg, @ev_asgK, @ev_asgR, @ev_bT, @ev_ba0, @ev_ba1, @ev_baK, @ev_dChain, @ev_chK1, @ev_chK2, @ev_chT, @ev_chF, @ev_chK4, @ev_sExt, @ev_extK1, @ev_extK2, @ev_sRetM, @ev_retM1, @ev_retM2, @ev_dCall, @ev_callK, @ev_callI, @ev_callR, @ev_callOk, @ev_callNew, @ev_backR, @ev_fCall, @ev_fcallK, @ev_fcallI, @ev_fcallNew, @ev_fbackR, @ev_apart0, @ev_apart1, @ev_apart2, @ev_noS0, @ev_noS1, @ev_noS2, @ev_consO⟩
theorem evs5 : (type_of% @ev_insK) ∧ (type_of% @ev_mkIns0) ∧ (type_of% @ev_mkIns1) ∧ (type_of% @ev_mkIns2) ∧ (type_of% @ev_so0) ∧ (type_of% @ev_so1) ∧ (type_of% @ev_so2) ∧ (type_of% @ev_pb0) ∧ (type_of% @ev_pb1) ∧ (type_of% @ev_pb2) ∧ (type_of% @ev_pbK) ∧ (type_of% @ev_outK) ∧ (type_of% @ev_unL0) ∧ (type_of% @ev_unLs) ∧ (type_of% @ev_fn0) ∧ (type_of% @ev_fnA0) ∧ (type_of% @ev_fn1) ∧ (type_of% @ev_fnA1) ∧ (type_of% @ev_fn2) ∧ (type_of% @ev_fnA2) ∧ (type_of% @ev_fn3) ∧ (type_of% @ev_fnA3) ∧ (type_of% @ev_fn4) ∧ (type_of% @ev_fnA4) ∧ (type_of% @ev_fn5) ∧ (type_of% @ev_fnA5) ∧ (type_of% @ev_fn6) ∧ (type_of% @ev_fnA6) ∧ (type_of% @ev_fn7) ∧ (type_of% @ev_fnA7) ∧ (type_of% @ev_fn8) ∧ (type_of% @ev_fnA8) ∧ (type_of% @ev_appR) ∧ (type_of% @ev_appNew) ∧ (type_of% @ev_appN) ∧ (type_of% @ev_io0) ∧ (type_of% @ev_io1) ∧ (type_of% @ev_io2) ∧ (type_of% @ev_oo0) ∧ (type_of% @ev_oo1) :=
  ⟨@ev_insK, @ev_mkIns0, @ev_mkIns1, @ev_mkIns2, @ev_so0, @ev_so1, @ev_so2, @ev_pb0, @ev_pb1, @ev_pb2, @ev_pbK, @ev_outK, @ev_unL0, @ev_unLs, @ev_fn0, @ev_fnA0, @ev_fn1, @ev_fnA1, @ev_fn2, @ev_fnA2, @ev_fn3, @ev_fnA3, @ev_fn4, @ev_fnA4, @ev_fn5, @ev_fnA5, @ev_fn6, @ev_fnA6, @ev_fn7, @ev_fnA7, @ev_fn8, @ev_fnA8, @ev_appR, @ev_appNew, @ev_appN, @ev_io0, @ev_io1, @ev_io2, @ev_oo0, @ev_oo1⟩
theorem evs6 : (type_of% @ev_consM) ∧ (type_of% @ev_oo2) ∧ (type_of% @ev_g0) ∧ (type_of% @ev_gs) ∧ (type_of% @ev_s0) ∧ (type_of% @ev_ss) ∧ (type_of% @ev_isInt_none) ∧ (type_of% @ev_isInt_bool) ∧ (type_of% @ev_isInt_int) ∧ (type_of% @ev_isInt_str) ∧ (type_of% @ev_isInt_list) ∧ (type_of% @ev_isInt_tuple) ∧ (type_of% @ev_isInt_dict) ∧ (type_of% @ev_isBool_none) ∧ (type_of% @ev_isBool_bool) ∧ (type_of% @ev_isBool_int) ∧ (type_of% @ev_isBool_str) ∧ (type_of% @ev_isBool_list) ∧ (type_of% @ev_isBool_tuple) ∧ (type_of% @ev_isBool_dict) ∧ (type_of% @ev_isStr_none) ∧ (type_of% @ev_isStr_bool) ∧ (type_of% @ev_isStr_int) ∧ (type_of% @ev_isStr_str) ∧ (type_of% @ev_isStr_list) ∧ (type_of% @ev_isStr_tuple) ∧ (type_of% @ev_isStr_dict) ∧ (type_of% @ev_isTuple_none) ∧ (type_of% @ev_isTuple_bool) ∧ (type_of% @ev_isTuple_int) ∧ (type_of% @ev_isTuple_str) ∧ (type_of% @ev_isTuple_list) ∧ (type_of% @ev_isTuple_tuple) ∧ (type_of% @ev_isTuple_dict) ∧ (type_of% @ev_isList_none) ∧ (type_of% @ev_isList_bool) ∧ (type_of% @ev_isList_int) ∧ (type_of% @ev_isList_str) ∧ (type_of% @ev_isList_list) ∧ (type_of% @ev_isList_tuple) :=
  ⟨@ev_consM, @ev_oo2, @ev_g0, @ev_gs, @ev_s0, @ev_ss, @ev_isInt_none, @ev_isInt_bool, @ev_isInt_int, @ev_isInt_str, @ev_isInt_list, @ev_isInt_tuple, @ev_isInt_dict, @ev_isBool_none, @ev_isBool_bool, @ev_isBool_int, @ev_isBool_str, @ev_isBool_list, @ev_isBool_tuple, @ev_isBool_dict, @ev_isStr_none, @ev_isStr_bool, @ev_isStr_int, @ev_isStr_str, @ev_isStr_list, @ev_isStr_tuple, @ev_isStr_dict, @ev_isTuple_none, @ev_isTuple_bool, @ev_isTuple_int, @ev_isTuple_str, @ev_isTuple_list, @ev_isTuple_tuple, @ev_isTuple_dict, @ev_isList_none, @ev_isList_bool, @ev_isList_int, @ev_isList_str, @ev_isList_list, @ev_isList_tuple⟩
theorem evs7 : (type_of% @ev_isList_dict) ∧ (type_of% @ev_isDict_none) ∧ (type_of% @ev_isDict_bool) ∧ (type_of% @ev_isDict_int) ∧ (type_of% @ev_isDict_str) ∧ (type_of% @ev_isDict_list) ∧ (type_of% @ev_isDict_tuple) ∧ (type_of% @ev_isDict_dict) ∧ (type_of% @ev_isNone_none) ∧ (type_of% @ev_isNone_bool) ∧ (type_of% @ev_isNone_int) ∧ (type_of% @ev_isNone_str) ∧ (type_of% @ev_isNone_list) ∧ (type_of% @ev_isNone_tuple) ∧ (type_of% @ev_isNone_dict) ∧ (type_of% @ev_eqs) ∧ (type_of% @ev_nes) ∧ (type_of% @ev_beq) ∧ (type_of% @ev_bne) ∧ (type_of% @ev_fComp) ∧ (type_of% @ev_compK) ∧ (type_of% @ev_compR) ∧ (type_of% @ev_wipe0) ∧ (type_of% @ev_wipe1) ∧ (type_of% @ev_rest0) ∧ (type_of% @ev_rest1) ∧ (type_of% @ev_restK) ∧ (type_of% @ev_cast) ∧ (type_of% @ev_decT) ∧ (type_of% @ev_decF) ∧ (type_of% @ev_nt) ∧ (type_of% @ev_nf) ∧ (type_of% @ev_aT) ∧ (type_of% @ev_aF) ∧ (type_of% @ev_if1) ∧ (type_of% @ev_dMl) ∧ (type_of% @ev_mlK) ∧ (type_of% @ev_mlK1) ∧ (type_of% @ev_mlK2) ∧ (type_of% @ev_mlK3) :=
  ⟨@ev_isList_dict, @ev_isDict_none, @ev_isDict_bool, @ev_isDict_int, @ev_isDict_str, @ev_isDict_list, @ev_isDict_tuple, @ev_isDict_dict, @ev_isNone_none, @ev_isNone_bool, @ev_isNone_int, @ev_isNone_str, @ev_isNone_list, @ev_isNone_tuple, @ev_isNone_dict, @ev_eqs, @ev_nes, @ev_beq, @ev_bne, @ev_fComp, @ev_compK, @ev_compR, @ev_wipe0, @ev_wipe1, @ev_rest0, @ev_rest1, @ev_restK, @ev_cast, @ev_decT, @ev_decF, @ev_nt, @ev_nf, @ev_aT, @ev_aF, @ev_if1, @ev_dMl, @ev_mlK, @ev_mlK1, @ev_mlK2, @ev_mlK3⟩
theorem evs8 : (type_of% @ev_sAug) ∧ (type_of% @ev_augK) ∧ (type_of% @ev_augK2) ∧ (type_of% @ev_augK3) ∧ (type_of% @ev_addI) ∧ (type_of% @ev_rng1T) ∧ (type_of% @ev_fOp2) ∧ (type_of% @ev_fop2K) ∧ (type_of% @ev_fop2L) ∧ (type_of% @ev_apF) ∧ (type_of% @ev_cat) ∧ (type_of% @ev_max2) ∧ (type_of% @ev_min2) ∧ (type_of% @ev_find) ∧ (type_of% @ev_dDict) ∧ (type_of% @ev_dictK0) ∧ (type_of% @ev_dictK1) ∧ (type_of% @ev_vL0) ∧ (type_of% @ev_vL1) ∧ (type_of% @ev_toDK) ∧ (type_of% @ev_toDT) ∧ (type_of% @ev_slot1) ∧ (type_of% @ev_slot2) ∧ (type_of% @ev_slot3) ∧ (type_of% @ev_lookI) ∧ (type_of% @ev_lookS) ∧ (type_of% @ev_lookT) ∧ (type_of% @ev_lookO) ∧ (type_of% @ev_getN3) ∧ (type_of% @ev_getN1) ∧ (type_of% @ev_slotS) ∧ (type_of% @ev_thenB) ∧ (type_of% @ev_dGetN) ∧ (type_of% @ev_inN2) ∧ (type_of% @ev_inN1) ∧ (type_of% @ev_dInN) ∧ (type_of% @ev_niN2) ∧ (type_of% @ev_niN1) ∧ (type_of% @ev_dNiN) ∧ (type_of% @ev_gdN2) :=
  ⟨@ev_sAug, @ev_augK, @ev_augK2, @ev_augK3, @ev_addI, @ev_rng1T, @ev_fOp2, @ev_fop2K, @ev_fop2L, @ev_apF, @ev_cat, @ev_max2, @ev_min2, @ev_find, @ev_dDict, @ev_dictK0, @ev_dictK1, @ev_vL0, @ev_vL1, @ev_toDK, @ev_toDT, @ev_slot1, @ev_slot2, @ev_slot3, @ev_lookI, @ev_lookS, @ev_lookT, @ev_lookO, @ev_getN3, @ev_getN1, @ev_slotS, @ev_thenB, @ev_dGetN, @ev_inN2, @ev_inN1, @ev_dInN, @ev_niN2, @ev_niN1, @ev_dNiN, @ev_gdN2⟩
theorem evs9 : (type_of% @ev_gdN1) ∧ (type_of% @ev_dGet1N) ∧ (type_of% @ev_gd2b) ∧ (type_of% @ev_gd2a) ∧ (type_of% @ev_dGet2N) ∧ (type_of% @ev_ownMK) ∧ (type_of% @ev_putN4) ∧ (type_of% @ev_putN3) ∧ (type_of% @ev_putN2) ∧ (type_of% @ev_putN0) ∧ (type_of% @ev_thenS) ∧ (type_of% @ev_putN1) ∧ (type_of% @ev_sPutN) ∧ (type_of% @ev_putD1) ∧ (type_of% @ev_putD2) ∧ (type_of% @ev_pv3) ∧ (type_of% @ev_pv2) ∧ (type_of% @ev_pv1) ∧ (type_of% @ev_pvL0) ∧ (type_of% @ev_pvLs) ∧ (type_of% @ev_fDisp) ∧ (type_of% @ev_dispK) ∧ (type_of% @ev_dispB1) ∧ (type_of% @ev_fDict0K) ∧ (type_of% @ev_fDict0T) ∧ (type_of% @ev_iKeysV) ∧ (type_of% @ev_keysK) ∧ (type_of% @ev_dkeys) ∧ (type_of% @ev_popS) ∧ (type_of% @ev_popJ) ∧ (type_of% @ev_dPop) ∧ (type_of% @ev_popK0) ∧ (type_of% @ev_aDef) ∧ (type_of% @ev_defK) ∧ (type_of% @ev_aApp) ∧ (type_of% @ev_appK3) ∧ (type_of% @ev_appK4) ∧ (type_of% @ev_appn0) ∧ (type_of% @ev_appns) ∧ (type_of% @ev_mapn0) :=
  ⟨@ev_gdN1, @ev_dGet1N, @ev_gd2b, @ev_gd2a, @ev_dGet2N, @ev_ownMK, @ev_putN4, @ev_putN3, @ev_putN2, @ev_putN0, @ev_thenS, @ev_putN1, @ev_sPutN, @ev_putD1, @ev_putD2, @ev_pv3, @ev_pv2, @ev_pv1, @ev_pvL0, @ev_pvLs, @ev_fDisp, @ev_dispK, @ev_dispB1, @ev_fDict0K, @ev_fDict0T, @ev_iKeysV, @ev_keysK, @ev_dkeys, @ev_popS, @ev_popJ, @ev_dPop, @ev_popK0, @ev_aDef, @ev_defK, @ev_aApp, @ev_appK3, @ev_appK4, @ev_appn0, @ev_appns, @ev_mapn0⟩
theorem evs10 : (type_of% @ev_mapns) ∧ (type_of% @ev_fCompO) ∧ (type_of% @ev_compKO) :=
  ⟨@ev_mapns, @ev_fCompO, @ev_compKO⟩
end Ft
namespace Ft
open PySem L2
noncomputable section
def subsets_e1 : Dn := (dOp2 addB (aV 3) (aE (dTup (vCons (dV 2) vNil))))
def subsets_c1 : Fn := (fCompO 1 (bN 3) tnYes subsets_e1 [3])
def subsets_b1 : Sn := (sExt 1 (dFz subsets_c1))
def b_subsets : Sn := (sSeq (sNew 1 (fLst (vCons (dTup vNil) vNil))) (sSeq (sFor (iSeq (dV 0)) (bN 2) subsets_b1) (sRet (dFz (fOpN sortB (aCons (aV 1) aNil))))))
def f_subsets : Cn := fn 1 4 b_subsets
def beside_t1 : Tn := (dTv (dOp2 (toB inB) (aV 1) (aE (dTup (vCons (dV 2) (vCons (dV 3) vNil))))))
def beside_e1 : Dn := (dOp2 subB (aE (dOp2 addB (aV 2) (aV 3))) (aV 1))
def beside_c1 : Fn := (fComp (iSeq (dOp2 ixB (aV 0) (aE (dC (.int 1))))) (bT [2, 3]) beside_t1 beside_e1 [2, 3])
def b_beside : Sn := (sRet (dFz (fOpN sortB (aCons (aE (dFz beside_c1)) aNil))))
def f_beside : Cn := fn 2 4 b_beside
def distances_b1 : Sn := (sIf (dTv (dNiN 2 (dV 5))) (sSeq (sPutN 2 (dV 5) (dOp2 addB (aE (dGetN 2 (dV 4))) (aE (dC (.int 1))))) (sApp 3 (dV 5))) sSkip)
def distances_w1 : Tn := (dTv (dOp2 (toB gtB) (aE (dOpN lenB (aCons (aV 3) aNil))) (aE (dC (.int 0)))))
def distances_b2 : Sn := (sSeq (sSet 4 (dPop 3 (dC (.int 0)))) (sFor (iSeq (dCall f_beside (aCons (aE (dV 0)) (aCons (aE (dV 4)) aNil)))) (bN 5) distances_b1))
def b_distances : Sn := (sSeq (sNew 2 (fDisp [((dV 1), (dC (.int 0)))])) (sSeq (sNew 3 (fLst (vCons (dV 1) vNil))) (sSeq (sWhile distances_w1 distances_b2) (sRet (dV 2)))))
def f_distances : Cn := fn 2 6 b_distances
def near_t1 : Tn := (dTv (dOp2 (toB leB) (aE (dGetN 3 (dV 4))) (aV 2)))
def near_e1 : Dn := (dV 4)
def near_c1 : Fn := (fComp (iKeysV 3) (bN 4) near_t1 near_e1 [4])
def b_near : Sn := (sSeq (sSet 3 (dCall f_distances (aCons (aE (dV 0)) (aCons (aE (dV 1)) aNil)))) (sRet (dFz (fOpN sortB (aCons (aE (dFz near_c1)) aNil)))))
def f_near : Cn := fn 3 5 b_near
def b_sensed : Sn := (sSeq (sAsg (bT [2, 3]) (dV 0)) (sRet (dOpN tupB (aCons (aE (dCall f_near (aCons (aE (dV 2)) (aCons (aE (dOp2 ixB (aE (dOp2 ixB (aV 3) (aV 1))) (aE (dC (.int 0))))) (aCons (aE (dOp2 ixB (aE (dOp2 ixB (aV 3) (aV 1))) (aE (dC (.int 1))))) aNil))))) aNil))))
def f_sensed : Cn := fn 2 4 b_sensed
def bare_by_t1 : Tn := (dTv (dOp2 (toB inB) (aV 4) (aE (dOp2 ixB (aV 0) (aV 5)))))
def bare_by_e1 : Dn := (dV 5)
def bare_by_c1 : Fn := (fComp (iSeq (dV 2)) (bN 5) bare_by_t1 bare_by_e1 [5])
def bare_by_t2 : Tn := (dTv (dOp2 (toB ltB) (aE (dOpN lenB (aCons (aE (dFz bare_by_c1)) aNil))) (aV 3)))
def bare_by_e2 : Dn := (dV 4)
def bare_by_c2 : Fn := (fComp (iOn rng1 (aCons (aV 1) aNil)) (bN 4) bare_by_t2 bare_by_e2 [4])
def b_bare_by : Sn := (sRet (dFz bare_by_c2))
def f_bare_by : Cn := fn 4 6 b_bare_by
def rows_of_e1 : Dn := (dCall f_sensed (aCons (aE (dV 0)) (aCons (aE (dV 1)) aNil)))
def rows_of_c1 : Fn := (fComp (iOn rng1 (aCons (aE (dOpN lenB (aCons (aE (dOp2 ixB (aV 0) (aE (dC (.int 1))))) aNil))) aNil)) (bN 1) tnYes rows_of_e1 [1])
def b_rows_of : Sn := (sRet (dFz rows_of_c1))
def f_rows_of : Cn := fn 1 2 b_rows_of
def without_t1 : Tn := (dTv (dOp2 (toB neB) (aV 2) (aV 1)))
def without_e1 : Dn := (dV 2)
def without_c1 : Fn := (fComp (iSeq (dV 0)) (bN 2) without_t1 without_e1 [2])
def b_without : Sn := (sRet (dOpN tupB (aCons (aE (dFz without_c1)) aNil)))
def f_without : Cn := fn 2 3 b_without
def least_covers_t1 : Tn := (dTv (dOp2 (toB eqB) (aE (dOpN lenB (aCons (aE (dCall f_bare_by (aCons (aE (dV 2)) (aCons (aE (dOp2 ixB (aE (dOp2 ixB (aV 0) (aE (dC (.int 0))))) (aE (dC (.int 0))))) (aCons (aE (dV 5)) (aCons (aE (dV 1)) aNil)))))) aNil))) (aE (dC (.int 0)))))
def least_covers_e1 : Dn := (dV 5)
def least_covers_c1 : Fn := (fComp (iSeq (dV 3)) (bN 5) least_covers_t1 least_covers_e1 [5])
def least_covers_e2 : Dn := (dOp2 (toB notInB) (aE (dCall f_without (aCons (aE (dV 5)) (aCons (aE (dV 6)) aNil)))) (aV 4))
def least_covers_c2 : Fn := (fComp (iSeq (dV 5)) (bN 6) tnYes least_covers_e2 [6])
def least_covers_t2 : Tn := (dTv (dOpN allB (aCons (aE (dFz least_covers_c2)) aNil)))
def least_covers_e3 : Dn := (dV 5)
def least_covers_c3 : Fn := (fComp (iSeq (dV 4)) (bN 5) least_covers_t2 least_covers_e3 [5])
def b_least_covers : Sn := (sSeq (sSet 2 (dCall f_rows_of (aCons (aE (dV 0)) aNil))) (sSeq (sSet 3 (dCall f_subsets (aCons (aE (dFz (fOpN rng1L (aCons (aE (dOpN lenB (aCons (aE (dOp2 ixB (aV 0) (aE (dC (.int 1))))) aNil))) aNil)))) aNil))) (sSeq (sSet 4 (dFz least_covers_c1)) (sRet (dFz least_covers_c3)))))
def f_least_covers : Cn := fn 2 7 b_least_covers
def law_same_t1 (r : Cn) : Tn := (tnNot (dTv (dCall r (aCons (aE (dOp2 ixB (aV 0) (aV 2))) (aCons (aE (dOp2 ixB (aV 1) (aV 2))) aNil)))))
def law_same_e1 (r : Cn) : Dn := (dV 2)
def law_same_c1 (r : Cn) : Fn := (fComp (iOn rng1 (aCons (aE (dOpN lenB (aCons (aV 1) aNil))) aNil)) (bN 2) (law_same_t1 r) (law_same_e1 r) [2])
def b_law_same (r : Cn) : Sn := (sSeq (sIf (tnOr (dTv (dOp1 (isiB PyData.isTuple) (aV 1))) (dTv (dOp1 (isiB PyData.isList) (aV 1)))) (sSeq (sIf (tnOr (dTv (dOp2 (toB neB) (aE (dOp1 (isiB PyData.isTuple) (aV 1))) (aE (dOp1 (isiB PyData.isTuple) (aV 0))))) (tnOr (dTv (dOp2 (toB neB) (aE (dOp1 (isiB PyData.isList) (aV 1))) (aE (dOp1 (isiB PyData.isList) (aV 0))))) (dTv (dOp2 (toB neB) (aE (dOpN lenB (aCons (aV 0) aNil))) (aE (dOpN lenB (aCons (aV 1) aNil))))))) (sRet (dC (.bool false))) sSkip) (sRet (dOp2 (toB eqB) (aE (dOpN lenB (aCons (aE (dFz (law_same_c1 r))) aNil))) (aE (dC (.int 0)))))) sSkip) (sSeq (sIf (dTv (dOp2 isB (aV 1) (aE (dC .none)))) (sRet (dOp2 isB (aV 0) (aE (dC .none)))) sSkip) (sSeq (sIf (tnOr (dTv (dOp1 (isiB PyData.isBool) (aV 1))) (dTv (dOp1 (isiB PyData.isBool) (aV 0)))) (sRet (dAnd (dOp1 (isiB PyData.isBool) (aV 1)) (dAnd (dOp1 (isiB PyData.isBool) (aV 0)) (dOp2 (toB eqB) (aV 0) (aV 1))))) sSkip) (sSeq (sIf (dTv (dOp1 (isiB PyData.isInt) (aV 1))) (sRet (dAnd (dOp1 (isiB PyData.isInt) (aV 0)) (dOp2 (toB eqB) (aV 0) (aV 1)))) sSkip) (sRet (dAnd (dOp1 (isiB PyData.isStr) (aV 0)) (dAnd (dOp1 (isiB PyData.isStr) (aV 1)) (dOp2 (toB eqB) (aV 0) (aV 1)))))))))
def f_law_same : Nat → Cn
  | 0 => fun _ => .no
  | j + 1 => fn 2 3 (b_law_same (f_law_same j))
def law_pool_b1 : Sn := (sSet 1 (dOp2 modB (aE (dOpN intB (aCons (aE (dOp2 addB (aE (dOp2 mulB (aV 1) (aE (dC (.int 31))))) (aV 2))) aNil))) (aE (dC (.int 1000003)))))
def b_law_pool : Sn := (sSeq (sSet 1 (dC (.int 7))) (sSeq (sFor (iSeq (dSl (aV 0) oNone (oSome (dC (.int 63))))) (bN 2) law_pool_b1) (sRetF (fLst (vCons (dFz (fOpN lstB (aCons (aV 0) aNil))) (vCons (dC (.int 0)) (vCons (dC (.int 0)) (vCons (dC (.int 0)) (vCons (dV 1) vNil)))))))))
def f_law_pool : Cn := fn 1 3 b_law_pool
def law_spread_b1 : Sn := (sSeq (sSet 1 (dOp2 modB (aE (dOpN intB (aCons (aE (dOp2 addB (aE (dOp2 addB (aE (dOp2 mulB (aV 1) (aE (dC (.int 48271))))) (aE (dC (.int 12345))))) (aV 3))) aNil))) (aE (dC (.int 2147483647))))) (sSet 2 (dOp2 addB (aE (dOp2 mulB (aV 2) (aE (dC (.int 2147483647))))) (aV 1))))
def b_law_spread : Sn := (sSeq (sSet 1 (dOp2 modB (aE (dOpN intB (aCons (aV 0) aNil))) (aE (dC (.int 2147483647))))) (sSeq (sSet 2 (dC (.int 1))) (sSeq (sFor (iOn rng1 (aCons (aE (dC (.int 4))) aNil)) (bN 3) law_spread_b1) (sRet (dV 2)))))
def f_law_spread : Cn := fn 1 4 b_law_spread
def b_law_draw : Sn := (sSeq (sIf (tnAnd (dTv (dOp2 (toB leB) (aE (dOp2 ixB (aV 0) (aE (dC (.int 2))))) (aE (dC (.int 0))))) (dTv (dOp2 (toB ltB) (aE (dOp2 ixB (aV 0) (aE (dC (.int 1))))) (aE (dOpN lenB (aCons (aE (dOp2 ixB (aV 0) (aE (dC (.int 0))))) aNil)))))) (sSeq (sSet 2 (dOp2 ixB (aE (dOp2 ixB (aV 0) (aE (dC (.int 0))))) (aE (dOp2 ixB (aV 0) (aE (dC (.int 1))))))) (sSeq (sSetIx 0 (dC (.int 1)) (dOp2 addB (aE (dOp2 ixB (aV 0) (aE (dC (.int 1))))) (aE (dC (.int 1))))) (sSeq (sSetIx 0 (dC (.int 2)) (dV 2)) (sIf (dTv (dOp2 (toB ltB) (aV 2) (aE (dC (.int 1000000000000000000))))) (sSetIx 0 (dC (.int 2)) (dCall f_law_spread (aCons (aE (dV 2)) aNil))) sSkip)))) sSkip) (sSeq (sSetIx 0 (dC (.int 3)) (dOp2 addB (aE (dOp2 ixB (aV 0) (aE (dC (.int 3))))) (aE (dC (.int 1))))) (sSeq (sIf (dTv (dOp2 (toB leB) (aE (dOp2 ixB (aV 0) (aE (dC (.int 2))))) (aE (dC (.int 0))))) (sSeq (sSet 3 (dOp2 modB (aE (dOpN intB (aCons (aE (dOp2 addB (aE (dOp2 addB (aE (dOp2 mulB (aE (dOp2 ixB (aV 0) (aE (dC (.int 4))))) (aE (dC (.int 48271))))) (aE (dOp2 mulB (aE (dOp2 ixB (aV 0) (aE (dC (.int 3))))) (aE (dC (.int 69621))))))) (aE (dC (.int 1))))) aNil))) (aE (dC (.int 2147483647))))) (sSeq (sSet 3 (dOp2 modB (aE (dOpN intB (aCons (aE (dOp2 addB (aE (dOp2 mulB (aV 3) (aE (dC (.int 16807))))) (aE (dOp2 ixB (aV 0) (aE (dC (.int 3))))))) aNil))) (aE (dC (.int 2147483629))))) (sRet (dOp2 modB (aE (dOp2 fdivB (aV 3) (aE (dC (.int 5))))) (aV 1))))) sSkip) (sSeq (sSet 4 (dOp2 modB (aE (dOpN intB (aCons (aE (dOp2 ixB (aV 0) (aE (dC (.int 2))))) aNil))) (aV 1))) (sSeq (sSetIx 0 (dC (.int 2)) (dOp2 fdivB (aE (dOp2 ixB (aV 0) (aE (dC (.int 2))))) (aV 1))) (sRet (dV 4)))))))
def f_law_draw : Cn := fn 2 5 b_law_draw
def law_subsets_e1 : Dn := (dOp2 addB (aV 3) (aE (dTup (vCons (dV 2) vNil))))
def law_subsets_c1 : Fn := (fComp (iSeq (dV 1)) (bN 3) tnYes law_subsets_e1 [3])
def law_subsets_b1 : Sn := (sSet 1 (dOp2 addB (aV 1) (aE (dFz law_subsets_c1))))
def b_law_subsets : Sn := (sSeq (sSet 1 (dFz (fLst (vCons (dTup vNil) vNil)))) (sSeq (sFor (iSeq (dV 0)) (bN 2) law_subsets_b1) (sRet (dFz (fOpN sortB (aCons (aV 1) aNil))))))
def f_law_subsets : Cn := fn 1 4 b_law_subsets
def law_ground_b1 : Sn := (sIf (tnOr (tnAnd (dTv (dOp2 (toB eqB) (aV 3) (aE (dC (.int 0))))) (dTv (dOp2 (toB eqB) (aV 6) (aE (dOp2 addB (aV 5) (aE (dC (.int 1)))))))) (tnOr (tnAnd (dTv (dOp2 (toB eqB) (aV 3) (aE (dC (.int 1))))) (dTv (dOp2 (toB eqB) (aE (dCall f_law_draw (aCons (aR 0) (aCons (aE (dC (.int 3))) aNil)))) (aE (dC (.int 0)))))) (tnAnd (dTv (dOp2 (toB gtB) (aV 3) (aE (dC (.int 1))))) (tnOr (dTv (dOp2 (toB eqB) (aV 6) (aE (dOp2 addB (aV 5) (aE (dC (.int 1))))))) (dTv (dOp2 (toB eqB) (aE (dCall f_law_draw (aCons (aR 0) (aCons (aE (dC (.int 5))) aNil)))) (aE (dC (.int 0))))))))) (sApp 4 (dTup (vCons (dV 5) (vCons (dV 6) vNil)))) sSkip)
def law_ground_b2 : Sn := (sFor (iOn rng2 (aCons (aE (dOp2 addB (aV 5) (aE (dC (.int 1))))) (aCons (aV 2) aNil))) (bN 6) law_ground_b1)
def b_law_ground : Sn := (sSeq (sSet 2 (dOp2 addB (aE (dC (.int 1))) (aE (dCall f_law_draw (aCons (aR 0) (aCons (aE (dV 1)) aNil)))))) (sSeq (sSet 3 (dCall f_law_draw (aCons (aR 0) (aCons (aE (dC (.int 4))) aNil)))) (sSeq (sNew 4 (fLst vNil)) (sSeq (sFor (iOn rng1 (aCons (aV 2) aNil)) (bN 5) law_ground_b2) (sRet (dTup (vCons (dV 2) (vCons (dOpN tupB (aCons (aV 4) aNil)) vNil))))))))
def f_law_ground : Cn := fn 2 7 b_law_ground
def law_beside_t1 : Tn := (dTv (dOp2 (toB inB) (aE (dTup (vCons (dOpN min2B (aCons (aV 1) (aCons (aV 2) aNil))) (vCons (dOpN max2B (aCons (aV 1) (aCons (aV 2) aNil))) vNil)))) (aE (dOp2 ixB (aV 0) (aE (dC (.int 1)))))))
def law_beside_e1 : Dn := (dV 2)
def law_beside_c1 : Fn := (fComp (iOn rng1 (aCons (aE (dOp2 ixB (aV 0) (aE (dC (.int 0))))) aNil)) (bN 2) law_beside_t1 law_beside_e1 [2])
def b_law_beside : Sn := (sRet (dFz law_beside_c1))
def f_law_beside : Cn := fn 2 3 b_law_beside
def law_steps_b1 : Sn := (sIf (dTv (dNiN 3 (dV 6))) (sSeq (sPutN 3 (dV 6) (dOp2 addB (aE (dGetN 3 (dV 5))) (aE (dC (.int 1))))) (sApp 4 (dV 6))) sSkip)
def law_steps_b2 : Sn := (sFor (iSeq (dCall f_law_beside (aCons (aE (dV 0)) (aCons (aE (dV 5)) aNil)))) (bN 6) law_steps_b1)
def law_steps_w1 : Tn := (dTv (dOp2 (toB neB) (aV 2) (aE (dFz (fLst vNil)))))
def law_steps_b3 : Sn := (sSeq (sNew 4 (fLst vNil)) (sSeq (sFor (iSeq (dV 2)) (bN 5) law_steps_b2) (sSet 2 (dV 4))))
def law_steps_e1 : Dn := (dGet1N 3 (dV 5))
def law_steps_c1 : Fn := (fComp (iOn rng1 (aCons (aE (dOp2 ixB (aV 0) (aE (dC (.int 0))))) aNil)) (bN 5) tnYes law_steps_e1 [5])
def b_law_steps : Sn := (sSeq (sSet 2 (dFz (fLst (vCons (dV 1) vNil)))) (sSeq (sNew 3 (fDisp [((dV 1), (dC (.int 0)))])) (sSeq (sWhile law_steps_w1 law_steps_b3) (sRet (dFz law_steps_c1)))))
def f_law_steps : Cn := fn 2 7 b_law_steps
def law_near_t1 : Tn := (tnAnd (dTv (dOp2 isNotB (aE (dOp2 ixB (aV 3) (aV 4))) (aE (dC .none)))) (dTv (dOp2 (toB leB) (aE (dOp2 ixB (aV 3) (aV 4))) (aV 2))))
def law_near_e1 : Dn := (dV 4)
def law_near_c1 : Fn := (fComp (iOn rng1 (aCons (aE (dOp2 ixB (aV 0) (aE (dC (.int 0))))) aNil)) (bN 4) law_near_t1 law_near_e1 [4])
def b_law_near : Sn := (sSeq (sSet 3 (dCall f_law_steps (aCons (aE (dV 0)) (aCons (aE (dV 1)) aNil)))) (sRet (dFz law_near_c1)))
def f_law_near : Cn := fn 3 5 b_law_near
def law_field_b1 : Sn := (sApp 5 (dTup (vCons (dCall f_law_draw (aCons (aR 0) (aCons (aE (dOp2 ixB (aV 4) (aE (dC (.int 0))))) aNil))) (vCons (dOp2 ixB (aE (dTup (vCons (dC (.int 0)) (vCons (dC (.int 1)) (vCons (dC (.int 1)) (vCons (dC (.int 2)) (vCons (dCall f_law_draw (aCons (aR 0) (aCons (aE (dC (.int 7))) aNil))) vNil))))))) (aE (dCall f_law_draw (aCons (aR 0) (aCons (aE (dC (.int 5))) aNil))))) (vCons (dCall f_law_draw (aCons (aR 0) (aCons (aE (dOp2 addB (aV 3) (aE (dC (.int 1))))) aNil))) vNil)))))
def b_law_field : Sn := (sSeq (sSet 4 (dCall f_law_ground (aCons (aR 0) (aCons (aE (dV 1)) aNil)))) (sSeq (sNew 5 (fLst vNil)) (sSeq (sFor (iOn rng1 (aCons (aE (dOp2 addB (aE (dC (.int 1))) (aE (dCall f_law_draw (aCons (aR 0) (aCons (aE (dV 2)) aNil)))))) aNil)) (bN 6) law_field_b1) (sRet (dTup (vCons (dV 4) (vCons (dOpN tupB (aCons (aV 5) aNil)) vNil)))))))
def f_law_field : Cn := fn 4 7 b_law_field
def b_law_sensed : Sn := (sRet (dOpN tupB (aCons (aE (dCall f_law_near (aCons (aE (dOp2 ixB (aV 0) (aE (dC (.int 0))))) (aCons (aE (dOp2 ixB (aE (dOp2 ixB (aE (dOp2 ixB (aV 0) (aE (dC (.int 1))))) (aV 1))) (aE (dC (.int 0))))) (aCons (aE (dOp2 ixB (aE (dOp2 ixB (aE (dOp2 ixB (aV 0) (aE (dC (.int 1))))) (aV 1))) (aE (dC (.int 1))))) aNil))))) aNil)))
def f_law_sensed : Cn := fn 2 2 b_law_sensed
def law_least_covers_e1 : Dn := (dCall f_law_sensed (aCons (aE (dV 0)) (aCons (aE (dV 3)) aNil)))
def law_least_covers_c1 : Fn := (fComp (iOn rng1 (aCons (aE (dOpN lenB (aCons (aE (dOp2 ixB (aV 0) (aE (dC (.int 1))))) aNil))) aNil)) (bN 3) tnYes law_least_covers_e1 [3])
def law_least_covers_t1 : Tn := (dTv (dOp2 (toB inB) (aV 6) (aE (dOp2 ixB (aV 2) (aV 7)))))
def law_least_covers_e2 : Dn := (dV 7)
def law_least_covers_c2 : Fn := (fComp (iSeq (dV 5)) (bN 7) law_least_covers_t1 law_least_covers_e2 [7])
def law_least_covers_t2 : Tn := (dTv (dOp2 (toB ltB) (aE (dOpN lenB (aCons (aE (dFz law_least_covers_c2)) aNil))) (aV 1)))
def law_least_covers_e3 : Dn := (dV 6)
def law_least_covers_c3 : Fn := (fComp (iOn rng1 (aCons (aE (dOp2 ixB (aE (dOp2 ixB (aV 0) (aE (dC (.int 0))))) (aE (dC (.int 0))))) aNil)) (bN 6) law_least_covers_t2 law_least_covers_e3 [6])
def law_least_covers_b1 : Sn := (sIf (dTv (dOp2 (toB eqB) (aE (dOpN lenB (aCons (aE (dFz law_least_covers_c3)) aNil))) (aE (dC (.int 0))))) (sApp 4 (dV 5)) sSkip)
def law_least_covers_t3 : Tn := (dTv (dOp2 (toB neB) (aV 9) (aV 7)))
def law_least_covers_e4 : Dn := (dV 9)
def law_least_covers_c4 : Fn := (fComp (iSeq (dV 8)) (bN 9) law_least_covers_t3 law_least_covers_e4 [9])
def law_least_covers_t4 : Tn := (dTv (dOp2 (toB inB) (aE (dOpN tupB (aCons (aE (dFz law_least_covers_c4)) aNil))) (aV 4)))
def law_least_covers_e5 : Dn := (dV 7)
def law_least_covers_c5 : Fn := (fComp (iSeq (dV 8)) (bN 7) law_least_covers_t4 law_least_covers_e5 [7])
def law_least_covers_t5 : Tn := (dTv (dOp2 (toB eqB) (aE (dOpN lenB (aCons (aE (dFz law_least_covers_c5)) aNil))) (aE (dC (.int 0)))))
def law_least_covers_e6 : Dn := (dV 8)
def law_least_covers_c6 : Fn := (fComp (iSeq (dV 4)) (bN 8) law_least_covers_t5 law_least_covers_e6 [8])
def b_law_least_covers : Sn := (sSeq (sSet 2 (dFz law_least_covers_c1)) (sSeq (sNew 4 (fLst vNil)) (sSeq (sFor (iSeq (dCall f_law_subsets (aCons (aE (dFz (fOpN rng1L (aCons (aE (dOpN lenB (aCons (aE (dOp2 ixB (aV 0) (aE (dC (.int 1))))) aNil))) aNil)))) aNil))) (bN 5) law_least_covers_b1) (sRet (dFz law_least_covers_c6)))))
def f_law_least_covers : Cn := fn 2 10 b_law_least_covers
def law_k07_b1 : Sn := (sIf (tnNot (dTv (dCall (f_law_same 12) (aCons (aE (dCall f_least_covers (aDef (aApp (aCons (aE (dV 2)) aNil) (aCons (aE (dV 3)) aNil)) []))) (aCons (aE (dCall f_law_least_covers (aCons (aE (dV 2)) (aCons (aE (dV 3)) aNil)))) aNil))))) (sRet (dC (.bool false))) sSkip)
def b_law_k07 : Sn := (sSeq (sNew 1 (fCall f_law_pool (aCons (aE (dV 0)) aNil))) (sSeq (sSet 2 (dCall f_law_field (aCons (aR 1) (aCons (aE (dC (.int 8))) (aCons (aE (dC (.int 8))) (aCons (aE (dC (.int 3))) aNil)))))) (sSeq (sIf (dTv (dOp2 (toB eqB) (aE (dCall f_law_draw (aCons (aR 1) (aCons (aE (dC (.int 2))) aNil)))) (aE (dC (.int 0))))) (sSet 2 (dTup (vCons (dOp2 ixB (aV 2) (aE (dC (.int 0)))) (vCons (dOp2 addB (aE (dOp2 ixB (aV 2) (aE (dC (.int 1))))) (aE (dOp2 mulTC (aE (dTup (vCons (dTup (vCons (dC (.int 0)) (vCons (dC (.int 6)) (vCons (dC (.int 0)) vNil)))) vNil))) (aE (dOpN intB (aCons (aE (dOp2 (toB ltB) (aE (dOpN lenB (aCons (aE (dOp2 ixB (aV 2) (aE (dC (.int 1))))) aNil))) (aE (dC (.int 8))))) aNil)))))) vNil)))) sSkip) (sSeq (sFor (iSeq (dTup (vCons (dC (.int 1)) (vCons (dC (.int 2)) (vCons (dC (.int 3)) vNil))))) (bN 3) law_k07_b1) (sRet (dCall (f_law_same 12) (aCons (aE (dCall f_least_covers (aDef (aCons (aE (dV 2)) aNil) [.int 1]))) (aCons (aE (dCall f_law_least_covers (aCons (aE (dV 2)) (aCons (aE (dC (.int 1))) aNil)))) aNil))))))))
def f_law_k07 : Cn := fn 1 4 b_law_k07
def law_program_e1 : Dn := (dCall f_law_draw (aCons (aR 0) (aCons (aE (dC (.int 3))) aNil)))
def law_program_c1 : Fn := (fComp (iOn rng1 (aCons (aE (dC (.int 3))) aNil)) (bN 7) tnYes law_program_e1 [7])
def law_program_e2 : Dn := (dOp2 ixB (aV 8) (aE (dC (.int 1))))
def law_program_c2 : Fn := (fComp (iSeq (dOp2 ixB (aV 4) (aE (dC (.int 0))))) (bN 8) tnYes law_program_e2 [8])
def law_program_e3 : Dn := (dTup (vCons (dCall f_law_draw (aCons (aR 0) (aCons (aE (dV 2)) aNil))) (vCons (dOp2 ixB (aV 6) (aV 7)) vNil)))
def law_program_c3 : Fn := (fComp (iOn rng1 (aCons (aE (dC (.int 3))) aNil)) (bN 7) tnYes law_program_e3 [7])
def law_program_b1 : Sn := (sSeq (sSet 6 (dFz law_program_c1)) (sSeq (sIf (tnAnd (dTv (dOp2 (toB gtB) (aV 3) (aE (dC (.int 0))))) (tnAnd (dTv (dOp2 (toB gtB) (aV 5) (aE (dC (.int 0))))) (dTv (dOp2 (toB gtB) (aE (dCall f_law_draw (aCons (aR 0) (aCons (aE (dC (.int 3))) aNil)))) (aE (dC (.int 0))))))) (sSet 6 (dFz law_program_c2)) sSkip) (sApp 4 (dOpN tupB (aCons (aE (dFz law_program_c3)) aNil)))))
def b_law_program : Sn := (sSeq (sSet 2 (dOp2 addB (aE (dC (.int 1))) (aE (dCall f_law_draw (aCons (aR 0) (aCons (aE (dV 1)) aNil)))))) (sSeq (sSet 3 (dCall f_law_draw (aCons (aR 0) (aCons (aE (dC (.int 3))) aNil)))) (sSeq (sNew 4 (fLst vNil)) (sSeq (sFor (iOn rng1 (aCons (aV 2) aNil)) (bN 5) law_program_b1) (sRet (dOpN tupB (aCons (aV 4) aNil)))))))
def f_law_program : Cn := fn 2 9 b_law_program
def outputs_b1 : Sn := (sSeq (sAsg (bT [2, 5]) (dOp2 ixB (aE (dOp2 ixB (aV 0) (aV 2))) (aV 4))) (sApp 3 (dV 5)))
def b_outputs : Sn := (sSeq (sSet 2 (dC (.int 0))) (sSeq (sNew 3 (fLst vNil)) (sSeq (sFor (iSeq (dV 1)) (bN 4) outputs_b1) (sRet (dV 3)))))
def f_outputs : Cn := fn 2 6 b_outputs
def law_outputs_b1 : Sn := (sSeq (sSet 5 (dOp2 ixB (aE (dOp2 ixB (aV 0) (aV 2))) (aV 4))) (sSeq (sApp 3 (dOp2 ixB (aV 5) (aE (dC (.int 1))))) (sSet 2 (dOp2 ixB (aV 5) (aE (dC (.int 0)))))))
def b_law_outputs : Sn := (sSeq (sSet 2 (dC (.int 0))) (sSeq (sNew 3 (fLst vNil)) (sSeq (sFor (iSeq (dV 1)) (bN 4) law_outputs_b1) (sRet (dV 3)))))
def f_law_outputs : Cn := fn 2 6 b_law_outputs
def walks_e1 : Dn := (dOpN intB (aCons (aE (dOp2 (toB inB) (aV 4) (aV 1))) aNil))
def walks_c1 : Fn := (fComp (iOn rng1 (aCons (aE (dOp2 ixB (aV 0) (aE (dC (.int 0))))) aNil)) (bN 4) tnYes walks_e1 [4])
def walks_e2 : Dn := (dOp2 ixB (aV 3) (aV 6))
def walks_c2 : Fn := (fComp (iSeq (dOp2 addB (aE (dFz (fLst (vCons (dV 4) vNil)))) (aE (dCall f_beside (aCons (aE (dV 0)) (aCons (aE (dV 4)) aNil)))))) (bN 6) tnYes walks_e2 [6])
def walks_e3 : Dn := (dOpN sumB (aCons (aE (dFz walks_c2)) aNil))
def walks_c3 : Fn := (fComp (iOn rng1 (aCons (aE (dOp2 ixB (aV 0) (aE (dC (.int 0))))) aNil)) (bN 4) tnYes walks_e3 [4])
def walks_b1 : Sn := (sSet 3 (dFz walks_c3))
def b_walks : Sn := (sSeq (sSet 3 (dFz walks_c1)) (sSeq (sFor (iOn rng1 (aCons (aE (dOp2 subB (aV 2) (aE (dC (.int 1))))) aNil)) (bN 5) walks_b1) (sRet (dOpN sumB (aCons (aV 3) aNil)))))
def f_walks : Cn := fn 3 7 b_walks
def b_law_is_integer : Sn := (sRet (dAnd (dOp1 (isiB PyData.isInt) (aV 0)) (dNot (dOp1 (isiB PyData.isBool) (aV 0)))))
def f_law_is_integer : Cn := fn 1 1 b_law_is_integer
def b_is_whole : Sn := (sRet (dAnd (dOp1 (isiB PyData.isInt) (aV 0)) (dNot (dOp1 (isiB PyData.isBool) (aV 0)))))
def f_is_whole : Cn := fn 1 1 b_is_whole
def b_is_from : Sn := (sRet (dAnd (dCall f_is_whole (aCons (aE (dV 0)) aNil)) (dChain (toB leB) (toB leB) (aV 1) (aV 0) (aV 2))))
def f_is_from : Cn := fn 3 3 b_is_from
def law_is_row_t1 : Tn := (tnOr (tnNot (dTv (dCall f_law_is_integer (aCons (aE (dV 4)) aNil)))) (tnOr (dTv (dOp2 (toB ltB) (aV 4) (aV 2))) (dTv (dOp2 (toB gtB) (aV 4) (aV 3)))))
def law_is_row_e1 : Dn := (dV 4)
def law_is_row_c1 : Fn := (fComp (iSeq (dV 0)) (bN 4) law_is_row_t1 law_is_row_e1 [4])
def b_law_is_row : Sn := (sSeq (sIf (tnOr (tnNot (dTv (dOp1 (isiB PyData.isTuple) (aV 0)))) (tnAnd (dTv (dOp2 isNotB (aV 1) (aE (dC .none)))) (dTv (dOp2 (toB neB) (aE (dOpN lenB (aCons (aV 0) aNil))) (aV 1))))) (sRet (dC (.bool false))) sSkip) (sRet (dOp2 (toB eqB) (aE (dOpN lenB (aCons (aE (dFz law_is_row_c1)) aNil))) (aE (dC (.int 0))))))
def f_law_is_row : Cn := fn 4 5 b_law_is_row
def is_row_e1 : Dn := (dCall f_is_from (aCons (aE (dV 4)) (aCons (aE (dV 2)) (aCons (aE (dV 3)) aNil))))
def is_row_c1 : Fn := (fComp (iSeq (dV 0)) (bN 4) tnYes is_row_e1 [4])
def b_is_row : Sn := (sRet (dAnd (dOp1 (isiB PyData.isTuple) (aV 0)) (dAnd (dOp2 (toB eqB) (aE (dOpN lenB (aCons (aV 0) aNil))) (aV 1)) (dOpN allB (aCons (aE (dFz is_row_c1)) aNil)))))
def f_is_row : Cn := fn 4 5 b_is_row
def is_program_e1 : Dn := (dCall f_is_row (aCons (aE (dV 2)) (aCons (aE (dC (.int 2))) (aCons (aE (dC (.int 0))) (aCons (aE (dC (.int 8))) aNil)))))
def is_program_c1 : Fn := (fComp (iSeq (dV 1)) (bN 2) tnYes is_program_e1 [2])
def is_program_e2 : Dn := (dAnd (dOp2 (toB ltB) (aE (dOp2 ixB (aV 2) (aE (dC (.int 0))))) (aE (dOpN lenB (aCons (aV 0) aNil)))) (dOp2 (toB leB) (aE (dOp2 ixB (aV 2) (aE (dC (.int 1))))) (aE (dC (.int 2)))))
def is_program_c2 : Fn := (fComp (iSeq (dV 1)) (bN 2) tnYes is_program_e2 [2])
def is_program_b1 : Sn := (sSeq (sIf (tnOr (tnNot (dTv (dOp1 (isiB PyData.isTuple) (aV 1)))) (dTv (dOp2 (toB neB) (aE (dOpN lenB (aCons (aV 1) aNil))) (aE (dC (.int 3)))))) (sRet (dC (.bool false))) sSkip) (sSeq (sIf (tnNot (dTv (dOpN allB (aCons (aE (dFz is_program_c1)) aNil)))) (sRet (dC (.bool false))) sSkip) (sIf (tnNot (dTv (dOpN allB (aCons (aE (dFz is_program_c2)) aNil)))) (sRet (dC (.bool false))) sSkip)))
def b_is_program : Sn := (sSeq (sIf (tnOr (tnNot (dTv (dOp1 (isiB PyData.isTuple) (aV 0)))) (tnNot (dTv (dChain (toB leB) (toB leB) (aE (dC (.int 1))) (aE (dOpN lenB (aCons (aV 0) aNil))) (aE (dC (.int 8))))))) (sRet (dC (.bool false))) sSkip) (sSeq (sFor (iSeq (dV 0)) (bN 1) is_program_b1) (sRet (dC (.bool true)))))
def f_is_program : Cn := fn 1 3 b_is_program
def law_is_program_t1 : Tn := (tnOr (tnNot (dTv (dCall f_law_is_row (aCons (aE (dV 2)) (aCons (aE (dC (.int 2))) (aCons (aE (dC (.int 0))) (aCons (aE (dC (.int 8))) aNil))))))) (tnOr (dTv (dOp2 (toB geB) (aE (dOp2 ixB (aV 2) (aE (dC (.int 0))))) (aE (dOpN lenB (aCons (aV 0) aNil))))) (dTv (dOp2 (toB gtB) (aE (dOp2 ixB (aV 2) (aE (dC (.int 1))))) (aE (dC (.int 2)))))))
def law_is_program_e1 : Dn := (dV 2)
def law_is_program_c1 : Fn := (fComp (iSeq (dV 1)) (bN 2) law_is_program_t1 law_is_program_e1 [2])
def law_is_program_b1 : Sn := (sSeq (sIf (tnOr (tnNot (dTv (dOp1 (isiB PyData.isTuple) (aV 1)))) (dTv (dOp2 (toB neB) (aE (dOpN lenB (aCons (aV 1) aNil))) (aE (dC (.int 3)))))) (sRet (dC (.bool false))) sSkip) (sIf (dTv (dOp2 (toB gtB) (aE (dOpN lenB (aCons (aE (dFz law_is_program_c1)) aNil))) (aE (dC (.int 0))))) (sRet (dC (.bool false))) sSkip))
def b_law_is_program : Sn := (sSeq (sIf (tnOr (tnNot (dTv (dOp1 (isiB PyData.isTuple) (aV 0)))) (tnOr (dTv (dOp2 (toB ltB) (aE (dOpN lenB (aCons (aV 0) aNil))) (aE (dC (.int 1))))) (dTv (dOp2 (toB gtB) (aE (dOpN lenB (aCons (aV 0) aNil))) (aE (dC (.int 8))))))) (sRet (dC (.bool false))) sSkip) (sSeq (sFor (iSeq (dV 0)) (bN 1) law_is_program_b1) (sRet (dC (.bool true)))))
def f_law_is_program : Cn := fn 1 3 b_law_is_program
def b_law_bent (r : Cn) : Sn := (sSeq (sIf (tnAnd (dTv (dOp1 (isiB PyData.isTuple) (aV 1))) (tnAnd (dTv (dOp2 (toB gtB) (aE (dOpN lenB (aCons (aV 1) aNil))) (aE (dC (.int 0))))) (dTv (dOp2 (toB gtB) (aE (dCall f_law_draw (aCons (aR 0) (aCons (aE (dC (.int 4))) aNil)))) (aE (dC (.int 0))))))) (sSeq (sSet 2 (dCall f_law_draw (aCons (aR 0) (aCons (aE (dOpN lenB (aCons (aV 1) aNil))) aNil)))) (sRet (dOp2 addB (aE (dOp2 addB (aE (dSl (aV 1) oNone (oSome (dV 2)))) (aE (dTup (vCons (dCall r (aCons (aR 0) (aCons (aE (dOp2 ixB (aV 1) (aV 2))) aNil))) vNil))))) (aE (dSl (aV 1) (oSome (dOp2 addB (aV 2) (aE (dC (.int 1))))) oNone))))) sSkip) (sSeq (sSet 3 (dCall f_law_draw (aCons (aR 0) (aCons (aE (dC (.int 9))) aNil)))) (sSeq (sIf (dTv (dOp2 (toB eqB) (aV 3) (aE (dC (.int 0))))) (sRet (dOp2 ixB (aE (dTup (vCons (dC (.str "x")) (vCons (dC (.bool true)) (vCons (dTup vNil) (vCons (dC (.int 0)) (vCons (dOp1 negB (aE (dC (.int 1)))) (vCons (dC .none) (vCons (dC (.bool false)) (vCons (dFz (fLst vNil)) (vCons (dC (.str "in")) (vCons (dC (.int 1)) vNil)))))))))))) (aE (dCall f_law_draw (aCons (aR 0) (aCons (aE (dC (.int 10))) aNil)))))) sSkip) (sSeq (sIf (dTv (dCall f_law_is_integer (aCons (aE (dV 1)) aNil))) (sRet (dOp2 addB (aV 1) (aE (dOp2 ixB (aE (dTup (vCons (dC (.int 1)) (vCons (dOp1 negB (aE (dC (.int 1)))) (vCons (dC (.int 2)) (vCons (dC (.int 0)) vNil)))))) (aE (dCall f_law_draw (aCons (aR 0) (aCons (aE (dC (.int 4))) aNil)))))))) sSkip) (sSeq (sIf (dTv (dOp1 (isiB PyData.isStr) (aV 1))) (sRet (dOp2 ixB (aE (dTup (vCons (dOp2 addB (aV 1) (aE (dC (.str "a")))) (vCons (dSl (aV 1) (oSome (dC (.int 1))) oNone) (vCons (dOp2 addB (aV 1) (aE (dC (.str "A")))) (vCons (dOp2 addB (aV 1) (aE (dC (.str " ")))) (vCons (dSl (aV 1) oNone (oSome (dC (.int 1)))) vNil))))))) (aE (dCall f_law_draw (aCons (aR 0) (aCons (aE (dC (.int 5))) aNil)))))) sSkip) (sSeq (sIf (tnOr (tnNot (dTv (dOp1 (isiB PyData.isTuple) (aV 1)))) (dTv (dOp2 (toB eqB) (aE (dOpN lenB (aCons (aV 1) aNil))) (aE (dC (.int 0)))))) (sRet (dIf (dTv (dOp2 (toB ltB) (aV 3) (aE (dC (.int 5))))) (dTup (vCons (dV 1) (vCons (dC (.int 0)) vNil))) (dTup vNil))) sSkip) (sSeq (sSet 2 (dCall f_law_draw (aCons (aR 0) (aCons (aE (dOpN lenB (aCons (aV 1) aNil))) aNil)))) (sSeq (sIf (dTv (dOp2 (toB ltB) (aV 3) (aE (dC (.int 3))))) (sRet (dOp2 addB (aE (dSl (aV 1) oNone (oSome (dV 2)))) (aE (dSl (aV 1) (oSome (dOp2 addB (aV 2) (aE (dC (.int 1))))) oNone)))) sSkip) (sSeq (sIf (dTv (dOp2 (toB ltB) (aV 3) (aE (dC (.int 5))))) (sRet (dOp2 addB (aE (dOp2 addB (aE (dSl (aV 1) oNone (oSome (dV 2)))) (aE (dTup (vCons (dOp2 ixB (aV 1) (aV 2)) vNil))))) (aE (dSl (aV 1) (oSome (dV 2)) oNone)))) sSkip) (sSeq (sIf (dTv (dOp2 (toB eqB) (aV 3) (aE (dC (.int 5))))) (sRet (dFz (fOpN lstB (aCons (aV 1) aNil)))) sSkip) (sSeq (sSet 4 (dCall f_law_draw (aCons (aR 0) (aCons (aE (dOpN lenB (aCons (aV 1) aNil))) aNil)))) (sSeq (sNew 5 (fOpN lstB (aCons (aV 1) aNil))) (sSeq (sSetIx 5 (dV 2) (dOp2 ixB (aV 1) (aV 4))) (sSeq (sSetIx 5 (dV 4) (dOp2 ixB (aV 1) (aV 2))) (sRet (dOpN tupB (aCons (aV 5) aNil)))))))))))))))))
def f_law_bent : Nat → Cn
  | 0 => fun _ => .no
  | j + 1 => fn 2 6 (b_law_bent (f_law_bent j))
def law_booled_e1 (r : Cn) : Dn := (dCall r (aCons (aE (dV 1)) aNil))
def law_booled_c1 (r : Cn) : Fn := (fComp (iSeq (dV 0)) (bN 1) tnYes (law_booled_e1 r) [1])
def b_law_booled (r : Cn) : Sn := (sSeq (sIf (dTv (dOp1 (isiB PyData.isTuple) (aV 0))) (sRet (dOpN tupB (aCons (aE (dFz (law_booled_c1 r))) aNil))) sSkip) (sRet (dIf (tnAnd (dTv (dCall f_law_is_integer (aCons (aE (dV 0)) aNil))) (dTv (dOp2 (toB inB) (aV 0) (aE (dTup (vCons (dC (.int 0)) (vCons (dC (.int 1)) vNil))))))) (dOp2 (toB eqB) (aV 0) (aE (dC (.int 1)))) (dV 0))))
def f_law_booled : Nat → Cn
  | 0 => fun _ => .no
  | j + 1 => fn 1 2 (b_law_booled (f_law_booled j))
def law_listed_e1 (r : Cn) : Dn := (dCall r (aCons (aE (dV 2)) (aCons (aE (dOp2 subB (aV 1) (aE (dC (.int 1))))) aNil)))
def law_listed_c1 (r : Cn) : Fn := (fComp (iSeq (dV 0)) (bN 2) tnYes (law_listed_e1 r) [2])
def b_law_listed (r : Cn) : Sn := (sSeq (sIf (tnNot (dTv (dOp1 (isiB PyData.isTuple) (aV 0)))) (sRet (dV 0)) sSkip) (sSeq (sIf (dTv (dOp2 (toB eqB) (aV 1) (aE (dC (.int 0))))) (sRet (dFz (fOpN lstB (aCons (aV 0) aNil)))) sSkip) (sRet (dOpN tupB (aCons (aE (dFz (law_listed_c1 r))) aNil)))))
def f_law_listed : Nat → Cn
  | 0 => fun _ => .no
  | j + 1 => fn 2 3 (b_law_listed (f_law_listed j))
def law_odd_values_b1 : Sn := (sSet 0 (dTup (vCons (dV 0) vNil)))
def b_law_odd_values : Sn := (sSeq (sSet 0 (dTup vNil)) (sSeq (sFor (iOn rng1 (aCons (aE (dC (.int 90))) aNil)) (bN 1) law_odd_values_b1) (sRet (dFz (fLst (vCons (dV 0) (vCons (dTup (vCons (dC (.str "plan")) (vCons (dV 0) (vCons (dV 0) vNil)))) (vCons (dC .none) (vCons (dC (.int 0)) (vCons (dC (.int 1)) (vCons (dC (.bool true)) (vCons (dC (.bool false)) (vCons (dC (.str "")) (vCons (dC (.str "x")) (vCons (dTup vNil) (vCons (dFz (fLst vNil)) (vCons (dDict [] []) (vCons (dTup (vCons (dTup vNil) vNil)) (vCons (dTup (vCons (dTup vNil) (vCons (dTup vNil) vNil))) (vCons (dTup (vCons (dC (.int 0)) vNil)) (vCons (dTup (vCons (dC (.int 1)) (vCons (dC (.int 2)) vNil))) (vCons (dTup (vCons (dC (.str "x")) vNil)) (vCons (dTup (vCons (dFz (fLst vNil)) vNil)) (vCons (dDict [.inr "a"] [(dC (.int 1))]) (vCons (dTup (vCons (dC .none) vNil)) (vCons (dTup (vCons (dTup (vCons (dTup vNil) vNil)) vNil)) (vCons (dOp1 negB (aE (dC (.int 1)))) vNil)))))))))))))))))))))))))))
def f_law_odd_values : Cn := fn 0 2 b_law_odd_values
def law_k64_e1 : Dn := (dCall (f_law_bent 30) (aCons (aR 1) (aCons (aE (dV 2)) aNil)))
def law_k64_c1 : Fn := (fComp (iOn rng1 (aCons (aE (dC (.int 14))) aNil)) (bN 6) tnYes law_k64_e1 [6])
def law_k64_b1 : Sn := (sSeq (sSet 7 (dCall f_law_is_program (aCons (aE (dV 5)) aNil))) (sSeq (sSet 8 (dOpN reprB (aCons (aV 5) aNil))) (sIf (tnOr (tnNot (dTv (dCall (f_law_same 12) (aCons (aE (dCall f_is_program (aCons (aE (dV 5)) aNil))) (aCons (aE (dV 7)) aNil))))) (dTv (dOp2 (toB neB) (aE (dOpN reprB (aCons (aV 5) aNil))) (aV 8)))) (sRet (dC (.bool false))) sSkip)))
def b_law_k64 : Sn := (sSeq (sNew 1 (fCall f_law_pool (aCons (aE (dV 0)) aNil))) (sSeq (sSet 2 (dCall f_law_program (aCons (aR 1) (aCons (aE (dC (.int 8))) aNil)))) (sSeq (sSet 3 (dTup (vCons (dTup (vCons (dC (.int 0)) (vCons (dC (.int 0)) vNil))) (vCons (dTup (vCons (dC (.int 0)) (vCons (dC (.int 1)) vNil))) (vCons (dTup (vCons (dC (.int 0)) (vCons (dC (.int 2)) vNil))) vNil))))) (sSeq (sSet 4 (dFz (fLst (vCons (dV 2) (vCons (dFz (fOpN lstB (aCons (aV 2) aNil))) (vCons (dCall (f_law_listed 30) (aCons (aE (dV 2)) (aCons (aE (dC (.int 1))) aNil))) (vCons (dCall (f_law_listed 30) (aCons (aE (dV 2)) (aCons (aE (dC (.int 2))) aNil))) (vCons (dCall (f_law_booled 30) (aCons (aE (dV 2)) aNil)) (vCons (dTup vNil) (vCons (dTup (vCons (dV 3) vNil)) (vCons (dOp2 mulTB (aE (dTup (vCons (dV 3) vNil))) (aE (dC (.int 8)))) (vCons (dOp2 mulTB (aE (dTup (vCons (dV 3) vNil))) (aE (dC (.int 9)))) (vCons (dTup (vCons (dSl (aV 3) oNone (oSome (dC (.int 2)))) vNil)) vNil))))))))))))) (sSeq (sSet 4 (dOp2 addB (aV 4) (aE (dFz (fLst (vCons (dTup (vCons (dOp2 addB (aV 3) (aE (dTup (vCons (dTup (vCons (dC (.int 0)) (vCons (dC (.int 0)) vNil))) vNil)))) vNil)) (vCons (dTup (vCons (dTup (vCons (dTup (vCons (dC (.int 1)) (vCons (dC (.int 0)) vNil))) (vCons (dTup (vCons (dC (.int 0)) (vCons (dC (.int 0)) vNil))) (vCons (dTup (vCons (dC (.int 0)) (vCons (dC (.int 0)) vNil))) vNil)))) vNil)) (vCons (dTup (vCons (dTup (vCons (dTup (vCons (dC (.int 0)) (vCons (dC (.int 3)) vNil))) (vCons (dTup (vCons (dC (.int 0)) (vCons (dC (.int 0)) vNil))) (vCons (dTup (vCons (dC (.int 0)) (vCons (dC (.int 0)) vNil))) vNil)))) vNil)) vNil)))))))) (sSeq (sSet 4 (dOp2 addB (aV 4) (aE (dFz (fLst (vCons (dTup (vCons (dTup (vCons (dTup (vCons (dOp1 negB (aE (dC (.int 1)))) (vCons (dC (.int 0)) vNil))) (vCons (dTup (vCons (dC (.int 0)) (vCons (dC (.int 0)) vNil))) (vCons (dTup (vCons (dC (.int 0)) (vCons (dC (.int 0)) vNil))) vNil)))) vNil)) (vCons (dTup (vCons (dTup (vCons (dTup (vCons (dC (.int 0)) (vCons (dOp1 negB (aE (dC (.int 1)))) vNil))) (vCons (dTup (vCons (dC (.int 0)) (vCons (dC (.int 0)) vNil))) (vCons (dTup (vCons (dC (.int 0)) (vCons (dC (.int 0)) vNil))) vNil)))) vNil)) (vCons (dTup (vCons (dTup (vCons (dTup (vCons (dC (.int 0)) vNil)) (vCons (dTup (vCons (dC (.int 0)) (vCons (dC (.int 0)) vNil))) (vCons (dTup (vCons (dC (.int 0)) (vCons (dC (.int 0)) vNil))) vNil)))) vNil)) (vCons (dTup (vCons (dTup (vCons (dTup (vCons (dC (.bool false)) (vCons (dC (.int 0)) vNil))) (vCons (dTup (vCons (dC (.int 0)) (vCons (dC (.int 0)) vNil))) (vCons (dTup (vCons (dC (.int 0)) (vCons (dC (.int 0)) vNil))) vNil)))) vNil)) (vCons (dV 3) vNil)))))))))) (sSeq (sFor (iSeq (dOp2 addB (aE (dOp2 addB (aV 4) (aE (dCall f_law_odd_values aNil)))) (aE (dFz law_k64_c1)))) (bN 5) law_k64_b1) (sRet (dC (.bool true))))))))))
def f_law_k64 : Cn := fn 1 9 b_law_k64
def law_is_up_t1 : Tn := (tnNot (dTv (dOp2 (toB ltB) (aE (dOp2 ixB (aV 0) (aE (dOp2 subB (aV 1) (aE (dC (.int 1))))))) (aE (dOp2 ixB (aV 0) (aV 1))))))
def law_is_up_e1 : Dn := (dV 1)
def law_is_up_c1 : Fn := (fComp (iOn rng2 (aCons (aE (dC (.int 1))) (aCons (aE (dOpN lenB (aCons (aV 0) aNil))) aNil))) (bN 1) law_is_up_t1 law_is_up_e1 [1])
def b_law_is_up : Sn := (sRet (dOp2 (toB eqB) (aE (dOpN lenB (aCons (aE (dFz law_is_up_c1)) aNil))) (aE (dC (.int 0)))))
def f_law_is_up : Cn := fn 1 2 b_law_is_up
def b_law_is_number : Sn := (sRet (dAnd (dCall f_law_is_integer (aCons (aE (dV 0)) aNil)) (dAnd (dOp2 (toB leB) (aV 1) (aV 0)) (dOp2 (toB leB) (aV 0) (aV 2)))))
def f_law_is_number : Cn := fn 3 3 b_law_is_number
def law_is_ground_t1 : Tn := (tnOr (tnNot (dTv (dCall f_law_is_row (aCons (aE (dV 1)) (aCons (aE (dC (.int 2))) (aCons (aE (dC (.int 0))) (aCons (aE (dOp2 subB (aE (dOp2 ixB (aV 0) (aE (dC (.int 0))))) (aE (dC (.int 1))))) aNil))))))) (dTv (dOp2 (toB geB) (aE (dOp2 ixB (aV 1) (aE (dC (.int 0))))) (aE (dOp2 ixB (aV 1) (aE (dC (.int 1))))))))
def law_is_ground_e1 : Dn := (dV 1)
def law_is_ground_c1 : Fn := (fComp (iSeq (dOp2 ixB (aV 0) (aE (dC (.int 1))))) (bN 1) law_is_ground_t1 law_is_ground_e1 [1])
def b_law_is_ground : Sn := (sSeq (sIf (tnOr (tnNot (dTv (dOp1 (isiB PyData.isTuple) (aV 0)))) (tnOr (dTv (dOp2 (toB neB) (aE (dOpN lenB (aCons (aV 0) aNil))) (aE (dC (.int 2))))) (tnOr (tnNot (dTv (dCall f_law_is_number (aCons (aE (dOp2 ixB (aV 0) (aE (dC (.int 0))))) (aCons (aE (dC (.int 1))) (aCons (aE (dC (.int 12))) aNil)))))) (tnNot (dTv (dOp1 (isiB PyData.isTuple) (aE (dOp2 ixB (aV 0) (aE (dC (.int 1))))))))))) (sRet (dC (.bool false))) sSkip) (sSeq (sIf (dTv (dOp2 (toB gtB) (aE (dOpN lenB (aCons (aE (dFz law_is_ground_c1)) aNil))) (aE (dC (.int 0))))) (sRet (dC (.bool false))) sSkip) (sRet (dCall f_law_is_up (aCons (aE (dOp2 ixB (aV 0) (aE (dC (.int 1))))) aNil)))))
def f_law_is_ground : Cn := fn 1 2 b_law_is_ground
def rises_e1 : Dn := (dOp2 (toB ltB) (aE (dOp2 ixB (aV 0) (aV 1))) (aE (dOp2 ixB (aV 0) (aE (dOp2 addB (aV 1) (aE (dC (.int 1))))))))
def rises_c1 : Fn := (fComp (iOn rng1 (aCons (aE (dOp2 subB (aE (dOpN lenB (aCons (aV 0) aNil))) (aE (dC (.int 1))))) aNil)) (bN 1) tnYes rises_e1 [1])
def b_rises : Sn := (sRet (dOpN allB (aCons (aE (dFz rises_c1)) aNil)))
def f_rises : Cn := fn 1 2 b_rises
def is_ground_e1 : Dn := (dCall f_is_row (aCons (aE (dV 3)) (aCons (aE (dC (.int 2))) (aCons (aE (dC (.int 0))) (aCons (aE (dOp2 subB (aV 1) (aE (dC (.int 1))))) aNil)))))
def is_ground_c1 : Fn := (fComp (iSeq (dV 2)) (bN 3) tnYes is_ground_e1 [3])
def is_ground_e2 : Dn := (dOp2 (toB ltB) (aE (dOp2 ixB (aV 3) (aE (dC (.int 0))))) (aE (dOp2 ixB (aV 3) (aE (dC (.int 1))))))
def is_ground_c2 : Fn := (fComp (iSeq (dV 2)) (bN 3) tnYes is_ground_e2 [3])
def b_is_ground : Sn := (sSeq (sIf (tnOr (tnNot (dTv (dOp1 (isiB PyData.isTuple) (aV 0)))) (tnOr (dTv (dOp2 (toB neB) (aE (dOpN lenB (aCons (aV 0) aNil))) (aE (dC (.int 2))))) (tnNot (dTv (dCall f_is_from (aCons (aE (dOp2 ixB (aV 0) (aE (dC (.int 0))))) (aCons (aE (dC (.int 1))) (aCons (aE (dC (.int 12))) aNil)))))))) (sRet (dC (.bool false))) sSkip) (sSeq (sAsg (bT [1, 2]) (dV 0)) (sSeq (sIf (tnOr (tnNot (dTv (dOp1 (isiB PyData.isTuple) (aV 2)))) (tnNot (dTv (dOpN allB (aCons (aE (dFz is_ground_c1)) aNil))))) (sRet (dC (.bool false))) sSkip) (sRet (dAnd (dOpN allB (aCons (aE (dFz is_ground_c2)) aNil)) (dCall f_rises (aCons (aE (dV 2)) aNil)))))))
def f_is_ground : Cn := fn 1 4 b_is_ground
def law_k01_e1 : Dn := (dCall (f_law_bent 30) (aCons (aR 1) (aCons (aE (dV 2)) aNil)))
def law_k01_c1 : Fn := (fComp (iOn rng1 (aCons (aE (dC (.int 12))) aNil)) (bN 5) tnYes law_k01_e1 [5])
def law_k01_b1 : Sn := (sSeq (sSet 6 (dCall f_law_is_ground (aCons (aE (dV 4)) aNil))) (sSeq (sSet 7 (dOpN reprB (aCons (aV 4) aNil))) (sIf (tnOr (tnNot (dTv (dCall (f_law_same 12) (aCons (aE (dCall f_is_ground (aCons (aE (dV 4)) aNil))) (aCons (aE (dV 6)) aNil))))) (dTv (dOp2 (toB neB) (aE (dOpN reprB (aCons (aV 4) aNil))) (aV 7)))) (sRet (dC (.bool false))) sSkip)))
def b_law_k01 : Sn := (sSeq (sNew 1 (fCall f_law_pool (aCons (aE (dV 0)) aNil))) (sSeq (sSet 2 (dCall f_law_ground (aCons (aR 1) (aCons (aE (dC (.int 12))) aNil)))) (sSeq (sSet 3 (dFz (fLst (vCons (dV 2) (vCons (dFz (fOpN lstB (aCons (aV 2) aNil))) (vCons (dCall (f_law_listed 30) (aCons (aE (dV 2)) (aCons (aE (dC (.int 1))) aNil))) (vCons (dCall (f_law_listed 30) (aCons (aE (dV 2)) (aCons (aE (dC (.int 2))) aNil))) (vCons (dCall (f_law_booled 30) (aCons (aE (dV 2)) aNil)) (vCons (dTup (vCons (dC (.int 0)) (vCons (dTup vNil) vNil))) (vCons (dTup (vCons (dC (.int 1)) (vCons (dTup vNil) vNil))) (vCons (dTup (vCons (dC (.int 12)) (vCons (dTup (vCons (dTup (vCons (dC (.int 0)) (vCons (dC (.int 11)) vNil))) vNil)) vNil))) (vCons (dTup (vCons (dC (.int 13)) (vCons (dTup vNil) vNil))) (vCons (dTup (vCons (dC (.int 12)) (vCons (dTup (vCons (dTup (vCons (dC (.int 0)) (vCons (dC (.int 12)) vNil))) vNil)) vNil))) vNil))))))))))))) (sSeq (sSet 3 (dOp2 addB (aV 3) (aE (dFz (fLst (vCons (dTup (vCons (dC (.int 3)) (vCons (dTup (vCons (dTup (vCons (dC (.int 1)) (vCons (dC (.int 0)) vNil))) vNil)) vNil))) (vCons (dTup (vCons (dC (.int 3)) (vCons (dTup (vCons (dTup (vCons (dC (.int 0)) (vCons (dC (.int 1)) vNil))) (vCons (dTup (vCons (dC (.int 0)) (vCons (dC (.int 1)) vNil))) vNil))) vNil))) vNil))))))) (sSeq (sSet 3 (dOp2 addB (aV 3) (aE (dFz (fLst (vCons (dTup (vCons (dC (.int 3)) (vCons (dTup (vCons (dTup (vCons (dC (.int 1)) (vCons (dC (.int 2)) vNil))) (vCons (dTup (vCons (dC (.int 0)) (vCons (dC (.int 1)) vNil))) vNil))) vNil))) (vCons (dTup (vCons (dC (.int 3)) (vCons (dTup (vCons (dTup (vCons (dC (.int 1)) (vCons (dC (.int 1)) vNil))) vNil)) vNil))) (vCons (dTup (vCons (dC (.int 3)) (vCons (dTup (vCons (dTup (vCons (dC (.int 0)) (vCons (dC (.int 1)) (vCons (dC (.int 2)) vNil)))) vNil)) vNil))) (vCons (dTup (vCons (dC (.int 3)) (vCons (dTup (vCons (dTup (vCons (dOp1 negB (aE (dC (.int 1)))) (vCons (dC (.int 1)) vNil))) vNil)) vNil))) (vCons (dTup (vCons (dC (.bool true)) (vCons (dTup vNil) vNil))) (vCons (dTup (vCons (dC (.int 3)) (vCons (dTup (vCons (dTup (vCons (dC (.bool false)) (vCons (dC (.int 1)) vNil))) vNil)) vNil))) (vCons (dTup (vCons (dC (.int 3)) vNil)) (vCons (dOp2 addB (aV 2) (aE (dTup (vCons (dTup vNil) vNil)))) (vCons (dTup (vCons (dC (.int 3)) (vCons (dTup (vCons (dTup (vCons (dC (.int 0)) (vCons (dC (.bool true)) vNil))) vNil)) vNil))) vNil)))))))))))))) (sSeq (sFor (iSeq (dOp2 addB (aE (dOp2 addB (aV 3) (aE (dCall f_law_odd_values aNil)))) (aE (dFz law_k01_c1)))) (bN 4) law_k01_b1) (sRet (dC (.bool true)))))))))
def f_law_k01 : Cn := fn 1 8 b_law_k01
def law_is_field_t1 : Tn := (tnOr (tnNot (dTv (dCall f_law_is_row (aCons (aE (dV 1)) (aCons (aE (dC (.int 3))) (aCons (aE (dC (.int 0))) (aCons (aE (dC (.int 12))) aNil))))))) (tnOr (dTv (dOp2 (toB geB) (aE (dOp2 ixB (aV 1) (aE (dC (.int 0))))) (aE (dOp2 ixB (aE (dOp2 ixB (aV 0) (aE (dC (.int 0))))) (aE (dC (.int 0))))))) (dTv (dOp2 (toB gtB) (aE (dOp2 ixB (aV 1) (aE (dC (.int 1))))) (aE (dC (.int 6)))))))
def law_is_field_e1 : Dn := (dV 1)
def law_is_field_c1 : Fn := (fComp (iSeq (dOp2 ixB (aV 0) (aE (dC (.int 1))))) (bN 1) law_is_field_t1 law_is_field_e1 [1])
def b_law_is_field : Sn := (sSeq (sIf (tnOr (tnNot (dTv (dOp1 (isiB PyData.isTuple) (aV 0)))) (tnOr (dTv (dOp2 (toB neB) (aE (dOpN lenB (aCons (aV 0) aNil))) (aE (dC (.int 2))))) (tnOr (tnNot (dTv (dCall f_law_is_ground (aCons (aE (dOp2 ixB (aV 0) (aE (dC (.int 0))))) aNil)))) (tnNot (dTv (dOp1 (isiB PyData.isTuple) (aE (dOp2 ixB (aV 0) (aE (dC (.int 1))))))))))) (sRet (dC (.bool false))) sSkip) (sSeq (sIf (tnOr (dTv (dOp2 (toB ltB) (aE (dOpN lenB (aCons (aE (dOp2 ixB (aV 0) (aE (dC (.int 1))))) aNil))) (aE (dC (.int 1))))) (dTv (dOp2 (toB gtB) (aE (dOpN lenB (aCons (aE (dOp2 ixB (aV 0) (aE (dC (.int 1))))) aNil))) (aE (dC (.int 8)))))) (sRet (dC (.bool false))) sSkip) (sRet (dOp2 (toB eqB) (aE (dOpN lenB (aCons (aE (dFz law_is_field_c1)) aNil))) (aE (dC (.int 0)))))))
def f_law_is_field : Cn := fn 1 2 b_law_is_field
def b_is_node : Sn := (sRet (dAnd (dCall f_is_row (aCons (aE (dV 1)) (aCons (aE (dC (.int 3))) (aCons (aE (dC (.int 0))) (aCons (aE (dC (.int 12))) aNil))))) (dAnd (dOp2 (toB ltB) (aE (dOp2 ixB (aV 1) (aE (dC (.int 0))))) (aE (dOp2 ixB (aV 0) (aE (dC (.int 0)))))) (dOp2 (toB leB) (aE (dOp2 ixB (aV 1) (aE (dC (.int 1))))) (aE (dC (.int 6)))))))
def f_is_node : Cn := fn 2 2 b_is_node
def is_field_e1 : Dn := (dCall f_is_node (aCons (aE (dOp2 ixB (aV 0) (aE (dC (.int 0))))) (aCons (aE (dV 1)) aNil)))
def is_field_c1 : Fn := (fComp (iSeq (dOp2 ixB (aV 0) (aE (dC (.int 1))))) (bN 1) tnYes is_field_e1 [1])
def b_is_field : Sn := (sSeq (sIf (tnOr (tnNot (dTv (dOp1 (isiB PyData.isTuple) (aV 0)))) (tnOr (dTv (dOp2 (toB neB) (aE (dOpN lenB (aCons (aV 0) aNil))) (aE (dC (.int 2))))) (tnOr (tnNot (dTv (dCall f_is_ground (aCons (aE (dOp2 ixB (aV 0) (aE (dC (.int 0))))) aNil)))) (tnNot (dTv (dOp1 (isiB PyData.isTuple) (aE (dOp2 ixB (aV 0) (aE (dC (.int 1))))))))))) (sRet (dC (.bool false))) sSkip) (sRet (dAnd (dCall f_is_from (aCons (aE (dOpN lenB (aCons (aE (dOp2 ixB (aV 0) (aE (dC (.int 1))))) aNil))) (aCons (aE (dC (.int 1))) (aCons (aE (dC (.int 8))) aNil)))) (dOpN allB (aCons (aE (dFz is_field_c1)) aNil)))))
def f_is_field : Cn := fn 1 2 b_is_field
def law_k05_b1 : Sn := (sApp 5 (dTup (vCons (dV 3) (vCons (dTup (vCons (dV 6) vNil)) vNil))))
def law_k05_e1 : Dn := (dCall (f_law_bent 30) (aCons (aR 1) (aCons (aE (dV 2)) aNil)))
def law_k05_c1 : Fn := (fComp (iOn rng1 (aCons (aE (dC (.int 12))) aNil)) (bN 8) tnYes law_k05_e1 [8])
def law_k05_b2 : Sn := (sSeq (sSet 9 (dCall f_law_is_field (aCons (aE (dV 7)) aNil))) (sSeq (sSet 10 (dOpN reprB (aCons (aV 7) aNil))) (sIf (tnOr (tnNot (dTv (dCall (f_law_same 12) (aCons (aE (dCall f_is_field (aCons (aE (dV 7)) aNil))) (aCons (aE (dV 9)) aNil))))) (dTv (dOp2 (toB neB) (aE (dOpN reprB (aCons (aV 7) aNil))) (aV 10)))) (sRet (dC (.bool false))) sSkip)))
def b_law_k05 : Sn := (sSeq (sNew 1 (fCall f_law_pool (aCons (aE (dV 0)) aNil))) (sSeq (sSet 2 (dCall f_law_field (aCons (aR 1) (aCons (aE (dC (.int 12))) (aCons (aE (dC (.int 8))) (aCons (aE (dC (.int 12))) aNil)))))) (sSeq (sSet 3 (dOp2 ixB (aV 2) (aE (dC (.int 0))))) (sSeq (sSet 4 (dOp2 ixB (aE (dOp2 ixB (aV 2) (aE (dC (.int 1))))) (aE (dC (.int 0))))) (sSeq (sNew 5 (fLst (vCons (dV 2) (vCons (dFz (fOpN lstB (aCons (aV 2) aNil))) (vCons (dCall (f_law_listed 30) (aCons (aE (dV 2)) (aCons (aE (dC (.int 1))) aNil))) (vCons (dCall (f_law_listed 30) (aCons (aE (dV 2)) (aCons (aE (dC (.int 2))) aNil))) (vCons (dCall (f_law_booled 30) (aCons (aE (dV 2)) aNil)) (vCons (dTup (vCons (dV 3) (vCons (dTup vNil) vNil))) (vCons (dTup (vCons (dV 3) (vCons (dOp2 mulTB (aE (dTup (vCons (dV 4) vNil))) (aE (dC (.int 8)))) vNil))) (vCons (dTup (vCons (dV 3) (vCons (dOp2 mulTB (aE (dTup (vCons (dV 4) vNil))) (aE (dC (.int 9)))) vNil))) vNil)))))))))) (sSeq (sNew 5 (fOp2 catB (aV 5) (aE (dFz (fLst (vCons (dSl (aV 2) oNone (oSome (dC (.int 1)))) (vCons (dOp2 addB (aV 2) (aE (dTup (vCons (dTup vNil) vNil)))) (vCons (dTup (vCons (dOp2 ixB (aV 2) (aE (dC (.int 1)))) (vCons (dV 3) vNil))) vNil)))))))) (sSeq (sFor (iSeq (dTup (vCons (dTup (vCons (dOp2 ixB (aV 3) (aE (dC (.int 0)))) (vCons (dC (.int 0)) (vCons (dC (.int 0)) vNil)))) (vCons (dTup (vCons (dC (.int 0)) (vCons (dC (.int 6)) (vCons (dC (.int 0)) vNil)))) (vCons (dTup (vCons (dC (.int 0)) (vCons (dC (.int 7)) (vCons (dC (.int 0)) vNil)))) (vCons (dTup (vCons (dC (.int 0)) (vCons (dC (.int 0)) (vCons (dC (.int 12)) vNil)))) (vCons (dTup (vCons (dC (.int 0)) (vCons (dC (.int 0)) (vCons (dC (.int 13)) vNil)))) (vCons (dTup (vCons (dOp1 negB (aE (dC (.int 1)))) (vCons (dC (.int 0)) (vCons (dC (.int 0)) vNil)))) (vCons (dTup (vCons (dC (.int 0)) (vCons (dOp1 negB (aE (dC (.int 1)))) (vCons (dC (.int 0)) vNil)))) (vCons (dTup (vCons (dC (.int 0)) (vCons (dC (.int 0)) (vCons (dOp1 negB (aE (dC (.int 1)))) vNil)))) (vCons (dTup (vCons (dC (.int 0)) (vCons (dC (.int 0)) vNil))) (vCons (dTup (vCons (dC (.int 0)) (vCons (dC (.int 0)) (vCons (dC (.int 0)) (vCons (dC (.int 0)) vNil))))) (vCons (dTup (vCons (dC (.bool true)) (vCons (dC (.int 0)) (vCons (dC (.int 0)) vNil)))) vNil))))))))))))) (bN 6) law_k05_b1) (sSeq (sFor (iSeq (dOp2 addB (aE (dOp2 addB (aV 5) (aE (dCall f_law_odd_values aNil)))) (aE (dFz law_k05_c1)))) (bN 7) law_k05_b2) (sRet (dC (.bool true)))))))))))
def f_law_k05 : Cn := fn 1 11 b_law_k05
def law_watch_e1 : Dn := (dTup (vCons (dOp2 ixB (aV 3) (aE (dC (.int 0)))) (vCons (dOp2 ixB (aV 3) (aE (dC (.int 1)))) (vCons (dOpN max2B (aCons (aE (dOp2 ixB (aV 3) (aE (dC (.int 2))))) (aCons (aE (dOp2 addB (aE (dC (.int 1))) (aE (dCall f_law_draw (aCons (aR 0) (aCons (aE (dC (.int 3))) aNil)))))) aNil))) vNil))))
def law_watch_c1 : Fn := (fComp (iSeq (dOp2 ixB (aV 1) (aE (dC (.int 1))))) (bN 3) tnYes law_watch_e1 [3])
def b_law_watch : Sn := (sSeq (sIf (dTv (dOp2 (toB eqB) (aE (dCall f_law_draw (aCons (aR 0) (aCons (aE (dC (.int 3))) aNil)))) (aE (dC (.int 0))))) (sSeq (sSet 1 (dCall f_law_field (aCons (aR 0) (aCons (aE (dC (.int 4))) (aCons (aE (dC (.int 2))) (aCons (aE (dC (.int 5))) aNil)))))) (sSet 2 (dOp2 addB (aE (dC (.int 1))) (aE (dCall f_law_draw (aCons (aR 0) (aCons (aE (dC (.int 5))) aNil))))))) (sSeq (sSet 1 (dCall f_law_field (aCons (aR 0) (aCons (aE (dC (.int 6))) (aCons (aE (dC (.int 3))) (aCons (aE (dC (.int 4))) aNil)))))) (sSet 2 (dOp2 addB (aE (dC (.int 1))) (aE (dCall f_law_draw (aCons (aR 0) (aCons (aE (dC (.int 3))) aNil)))))))) (sSeq (sIf (dTv (dOp2 (toB gtB) (aE (dCall f_law_draw (aCons (aR 0) (aCons (aE (dC (.int 3))) aNil)))) (aE (dC (.int 0))))) (sSet 1 (dTup (vCons (dOp2 ixB (aV 1) (aE (dC (.int 0)))) (vCons (dOpN tupB (aCons (aE (dFz law_watch_c1)) aNil)) vNil)))) sSkip) (sRet (dTup (vCons (dV 1) (vCons (dOp2 addB (aE (dC (.int 1))) (aE (dCall f_law_draw (aCons (aR 0) (aCons (aE (dC (.int 3))) aNil))))) (vCons (dV 2) (vCons (dOp2 ixB (aE (dTup (vCons (dC (.int 0)) (vCons (dC (.int 0)) (vCons (dC (.int 1)) (vCons (dCall f_law_draw (aCons (aR 0) (aCons (aE (dC (.int 4))) aNil))) vNil)))))) (aE (dCall f_law_draw (aCons (aR 0) (aCons (aE (dC (.int 4))) aNil))))) (vCons (dOp2 addB (aE (dC (.int 1))) (aE (dCall f_law_draw (aCons (aR 0) (aCons (aE (dOpN max2B (aCons (aE (dC (.int 1))) (aCons (aE (dOp2 subB (aE (dOp2 ixB (aE (dOp2 ixB (aV 1) (aE (dC (.int 0))))) (aE (dC (.int 0))))) (aE (dOpN intB (aCons (aE (dOp2 (toB eqB) (aE (dCall f_law_draw (aCons (aR 0) (aCons (aE (dC (.int 2))) aNil)))) (aE (dC (.int 0))))) aNil))))) aNil)))) aNil))))) vNil)))))))))
def f_law_watch : Cn := fn 1 4 b_law_watch
def b_bare : Sn := (sRet (dCall f_bare_by (aCons (aE (dCall f_rows_of (aCons (aE (dV 0)) aNil))) (aCons (aE (dOp2 ixB (aE (dOp2 ixB (aV 0) (aE (dC (.int 0))))) (aE (dC (.int 0))))) (aCons (aE (dV 1)) (aCons (aE (dV 2)) aNil))))))
def f_bare : Cn := fn 3 3 b_bare
def b_covers : Sn := (sRet (dOp2 (toB eqB) (aE (dOpN lenB (aCons (aE (dCall f_bare (aDef (aApp (aCons (aE (dV 0)) (aCons (aE (dV 1)) aNil)) (aCons (aE (dV 2)) aNil)) []))) aNil))) (aE (dC (.int 0)))))
def f_covers : Cn := fn 3 3 b_covers
def law_bare_e1 : Dn := (dCall f_law_sensed (aCons (aE (dV 0)) (aCons (aE (dV 4)) aNil)))
def law_bare_c1 : Fn := (fComp (iSeq (dV 1)) (bN 4) tnYes law_bare_e1 [4])
def law_bare_t1 : Tn := (dTv (dOp2 (toB inB) (aV 5) (aV 6)))
def law_bare_e2 : Dn := (dV 6)
def law_bare_c2 : Fn := (fComp (iSeq (dV 3)) (bN 6) law_bare_t1 law_bare_e2 [6])
def law_bare_t2 : Tn := (dTv (dOp2 (toB ltB) (aE (dOpN lenB (aCons (aE (dFz law_bare_c2)) aNil))) (aV 2)))
def law_bare_e3 : Dn := (dV 5)
def law_bare_c3 : Fn := (fComp (iOn rng1 (aCons (aE (dOp2 ixB (aE (dOp2 ixB (aV 0) (aE (dC (.int 0))))) (aE (dC (.int 0))))) aNil)) (bN 5) law_bare_t2 law_bare_e3 [5])
def b_law_bare : Sn := (sSeq (sSet 3 (dFz law_bare_c1)) (sRet (dFz law_bare_c3)))
def f_law_bare : Cn := fn 3 7 b_law_bare
def watchers_t1 : Tn := (dTv (dOp2 (toB inB) (aV 1) (aE (dCall f_sensed (aCons (aE (dV 0)) (aCons (aE (dV 2)) aNil))))))
def watchers_e1 : Dn := (dV 2)
def watchers_c1 : Fn := (fComp (iOn rng1 (aCons (aE (dOpN lenB (aCons (aE (dOp2 ixB (aV 0) (aE (dC (.int 1))))) aNil))) aNil)) (bN 2) watchers_t1 watchers_e1 [2])
def b_watchers : Sn := (sRet (dOpN tupB (aCons (aE (dFz watchers_c1)) aNil)))
def f_watchers : Cn := fn 2 3 b_watchers
def law_k06_e1 : Dn := (dCall f_law_sensed (aCons (aE (dV 2)) (aCons (aE (dV 5)) aNil)))
def law_k06_c1 : Fn := (fComp (iOn rng1 (aCons (aV 3) aNil)) (bN 5) tnYes law_k06_e1 [5])
def law_k06_e2 : Dn := (dCall f_sensed (aCons (aE (dV 2)) (aCons (aE (dV 5)) aNil)))
def law_k06_c2 : Fn := (fComp (iOn rng1 (aCons (aV 3) aNil)) (bN 5) tnYes law_k06_e2 [5])
def law_k06_t1 : Tn := (dTv (dOp2 (toB inB) (aV 6) (aE (dOp2 ixB (aV 4) (aV 5)))))
def law_k06_e3 : Dn := (dV 5)
def law_k06_c3 : Fn := (fComp (iOn rng1 (aCons (aV 3) aNil)) (bN 5) law_k06_t1 law_k06_e3 [5])
def law_k06_b1 : Sn := (sIf (tnNot (dTv (dCall (f_law_same 12) (aCons (aE (dCall f_watchers (aCons (aE (dV 2)) (aCons (aE (dV 6)) aNil)))) (aCons (aE (dOpN tupB (aCons (aE (dFz law_k06_c3)) aNil))) aNil))))) (sRet (dC (.bool false))) sSkip)
def law_k06_t2 : Tn := (dTv (dOp2 (toB eqB) (aE (dCall f_law_draw (aCons (aR 1) (aCons (aE (dC (.int 2))) aNil)))) (aE (dC (.int 0)))))
def law_k06_e4 : Dn := (dV 5)
def law_k06_c4 : Fn := (fComp (iOn rng1 (aCons (aV 3) aNil)) (bN 5) law_k06_t2 law_k06_e4 [5])
def law_k06_e5 : Dn := (dOpN tupB (aCons (aE (dFz law_k06_c4)) aNil))
def law_k06_c5 : Fn := (fComp (iOn rng1 (aCons (aE (dC (.int 4))) aNil)) (bN 8) tnYes law_k06_e5 [8])
def law_k06_b2 : Sn := (sSeq (sSet 10 (dCall f_law_bare (aCons (aE (dV 2)) (aCons (aE (dV 7)) (aCons (aE (dV 9)) aNil))))) (sIf (tnNot (dTv (dCall (f_law_same 12) (aCons (aE (dFz (fLst (vCons (dCall f_bare (aDef (aApp (aCons (aE (dV 2)) (aCons (aE (dV 7)) aNil)) (aCons (aE (dV 9)) aNil)) [])) (vCons (dCall f_covers (aDef (aApp (aCons (aE (dV 2)) (aCons (aE (dV 7)) aNil)) (aCons (aE (dV 9)) aNil)) [])) vNil))))) (aCons (aE (dFz (fLst (vCons (dV 10) (vCons (dOp2 (toB eqB) (aV 10) (aE (dFz (fLst vNil)))) vNil))))) aNil))))) (sRet (dC (.bool false))) sSkip))
def law_k06_b3 : Sn := (sSeq (sFor (iSeq (dTup (vCons (dC (.int 1)) (vCons (dC (.int 2)) (vCons (dC (.int 3)) vNil))))) (bN 9) law_k06_b2) (sSeq (sSet 10 (dCall f_law_bare (aCons (aE (dV 2)) (aCons (aE (dV 7)) (aCons (aE (dC (.int 1))) aNil))))) (sIf (tnNot (dTv (dCall (f_law_same 12) (aCons (aE (dFz (fLst (vCons (dCall f_bare (aDef (aCons (aE (dV 2)) (aCons (aE (dV 7)) aNil)) [.int 1])) (vCons (dCall f_covers (aDef (aCons (aE (dV 2)) (aCons (aE (dV 7)) aNil)) [.int 1])) vNil))))) (aCons (aE (dFz (fLst (vCons (dV 10) (vCons (dOp2 (toB eqB) (aV 10) (aE (dFz (fLst vNil)))) vNil))))) aNil))))) (sRet (dC (.bool false))) sSkip)))
def b_law_k06 : Sn := (sSeq (sNew 1 (fCall f_law_pool (aCons (aE (dV 0)) aNil))) (sSeq (sSet 2 (dCall f_law_field (aCons (aR 1) (aCons (aE (dC (.int 12))) (aCons (aE (dC (.int 8))) (aCons (aE (dC (.int 12))) aNil)))))) (sSeq (sSet 3 (dOpN lenB (aCons (aE (dOp2 ixB (aV 2) (aE (dC (.int 1))))) aNil))) (sSeq (sSet 4 (dFz law_k06_c1)) (sSeq (sIf (tnNot (dTv (dCall (f_law_same 12) (aCons (aE (dFz law_k06_c2)) (aCons (aE (dV 4)) aNil))))) (sRet (dC (.bool false))) sSkip) (sSeq (sFor (iOn rng1 (aCons (aE (dOp2 ixB (aE (dOp2 ixB (aV 2) (aE (dC (.int 0))))) (aE (dC (.int 0))))) aNil)) (bN 6) law_k06_b1) (sSeq (sFor (iSeq (dOp2 addB (aE (dFz (fLst (vCons (dTup vNil) (vCons (dOpN rng1T (aCons (aV 3) aNil)) vNil))))) (aE (dFz law_k06_c5)))) (bN 7) law_k06_b3) (sRet (dC (.bool true))))))))))
def f_law_k06 : Cn := fn 1 11 b_law_k06
end
end Ft
/-! Common: the laws' pool, its draws. -/
namespace Ft
open PySem L2
/-! ### the pool -/
def Pool (l : List D) : Prop := ∃ (cells : List Int) (p v c s : Int), 0 ≤ p ∧ l = [.list (cells.map PyData.int), .int p, .int v, .int c, .int s]
theorem cutD_mem {l : List D} {a b : Option Int} {d : D} (h : d ∈ cutD l a b) : d ∈ l := by
  unfold cutD at h
  exact List.mem_of_mem_drop (List.mem_of_mem_take h)
theorem pool_loop {x : D} (l : List D) (h : ∀ d ∈ l, ∃ z : Int, d = .int z) : ∃ (s : Int) (y : LV), forV (bN 2) law_pool_b1 l [.val x, .val (.int 7), .un] = .next [.val x, .val (.int s), y] := by
  refine for_rule (P := fun r => ∃ (s : Int) (y : LV), r = .next [.val x, .val (.int s), y]) l (fun _ ρ => ∃ (s : Int) (y : LV), nioK (some y) = true ∧ ρ = [.val x, .val (.int s), y]) _ ⟨7, .un, rfl, rfl⟩ ?_ ?_
  · rintro i d ρ hi ⟨s, y, hy, rfl⟩
    obtain ⟨z, rfl⟩ := h d (List.mem_of_getElem? hi)
    refine ⟨[.val x, .val (.int s), .val (.int z)], by simp -implicitDefEqProofs only [evs0, evs1, evs2, evs3, evs4, evs5, evs6, evs7, evs8, evs9, evs10, List.length_cons, List.length_nil, Nat.reduceAdd, Nat.reduceSub, ↓reduceIte, Nat.reduceLeDiff, Int.reduceEq, Int.reduceLT, Int.reduceLE, Option.isSome_some, Option.isSome_none, Option.getD_some, Option.getD_none, hy], ?_⟩
    unfold law_pool_b1
    simp -implicitDefEqProofs (decide := true) only [evs0, evs1, evs2, evs3, evs4, evs5, evs6, evs7, evs8, evs9, evs10, List.length_cons, List.length_nil, Nat.reduceAdd, Nat.reduceSub, ↓reduceIte, Nat.reduceLeDiff, Int.reduceEq, Int.reduceLT, Int.reduceLE, Option.isSome_some, Option.isSome_none, Option.getD_some, Option.getD_none, Turn, ev_small]
    exact ⟨_, _, rfl, rfl⟩
  · rintro ρ ⟨s, y, _, rfl⟩
    exact ⟨s, y, rfl⟩
theorem pool_ok (cells : List Int) : ∃ l, f_law_pool [.val (.list (cells.map PyData.int))] = .new (.lst l) [] ∧ Pool l := by
  have sl : slB (.list (cells.map PyData.int)) none (some 63) = some (.list (cutD (cells.map PyData.int) none (some 63))) := rfl
  obtain ⟨s, y, e⟩ := pool_loop (x := .list (cells.map PyData.int)) (cutD (cells.map PyData.int) none (some 63)) fun d hd => by
    obtain ⟨z, _, rfl⟩ := List.mem_map.mp (cutD_mem hd)
    exact ⟨z, rfl⟩
  refine ⟨[.list (cells.map PyData.int), .int 0, .int 0, .int 0, .int s], ?_, cells, 0, 0, 0, s, Int.le_refl _, rfl⟩
  unfold f_law_pool b_law_pool
  simp -implicitDefEqProofs (decide := true) only [evs0, evs1, evs2, evs3, evs4, evs5, evs6, evs7, evs8, evs9, evs10, List.length_cons, List.length_nil, Nat.reduceAdd, Nat.reduceSub, ↓reduceIte, Nat.reduceLeDiff, Int.reduceEq, Int.reduceLT, Int.reduceLE, Option.isSome_some, Option.isSome_none, Option.getD_some, Option.getD_none, sl, e]
theorem spread_loop {x : D} (t0 m0 : Int) (y0 : LV) (hy0 : nioK (some y0) = true) : ∃ (m t : Int) (y : LV), forV (bN 3) law_spread_b1 (rangeL 0 4) [.val x, .val (.int m0), .val (.int t0), y0] = .next [.val x, .val (.int m), .val (.int t), y] := by
  refine for_rule (P := fun r => ∃ (m t : Int) (y : LV), r = .next [.val x, .val (.int m), .val (.int t), y]) (rangeL 0 4) (fun _ ρ => ∃ (m t : Int) (y : LV), nioK (some y) = true ∧ ρ = [.val x, .val (.int m), .val (.int t), y]) _ ⟨m0, t0, y0, hy0, rfl⟩ ?_ ?_
  · rintro i d ρ hi ⟨m, t, y, hy, rfl⟩
    obtain ⟨rfl, _⟩ := rangeL_at hi
    refine ⟨[.val x, .val (.int m), .val (.int t), .val (.int (0 + i))], by simp -implicitDefEqProofs only [evs0, evs1, evs2, evs3, evs4, evs5, evs6, evs7, evs8, evs9, evs10, List.length_cons, List.length_nil, Nat.reduceAdd, Nat.reduceSub, ↓reduceIte, Nat.reduceLeDiff, Int.reduceEq, Int.reduceLT, Int.reduceLE, Option.isSome_some, Option.isSome_none, Option.getD_some, Option.getD_none, hy], ?_⟩
    unfold law_spread_b1
    simp -implicitDefEqProofs (decide := true) only [evs0, evs1, evs2, evs3, evs4, evs5, evs6, evs7, evs8, evs9, evs10, List.length_cons, List.length_nil, Nat.reduceAdd, Nat.reduceSub, ↓reduceIte, Nat.reduceLeDiff, Int.reduceEq, Int.reduceLT, Int.reduceLE, Option.isSome_some, Option.isSome_none, Option.getD_some, Option.getD_none, Turn]
    exact ⟨_, _, _, rfl, rfl⟩
  · rintro ρ ⟨m, t, y, _, rfl⟩
    exact ⟨m, t, y, rfl⟩
theorem spread_ok (c : Int) : ∃ t : Int, f_law_spread [.val (.int c)] = .ok (.int t) [] := by
  obtain ⟨m, t, y, e⟩ := spread_loop (x := .int c) 1 (c % 2147483647) .un rfl
  refine ⟨t, ?_⟩
  unfold f_law_spread b_law_spread
  simp -implicitDefEqProofs (decide := true) only [evs0, evs1, evs2, evs3, evs4, evs5, evs6, evs7, evs8, evs9, evs10, List.length_cons, List.length_nil, Nat.reduceAdd, Nat.reduceSub, ↓reduceIte, Nat.reduceLeDiff, Int.reduceEq, Int.reduceLT, Int.reduceLE, Option.isSome_some, Option.isSome_none, Option.getD_some, Option.getD_none, e]
theorem pool_at {cells : List Int} {p : Int} (h0 : 0 ≤ p) (h : p < (cells.length : Int)) : ∃ z : Int, atI (cells.map PyData.int) p = some (.int z) := by
  have hl : p.toNat < cells.length := by omega
  exact ⟨cells[p.toNat], atI_get h0 (by rw [List.getElem?_map, List.getElem?_eq_getElem hl]; rfl)⟩
theorem draw_ok {l : List D} {m : Int} (h : Pool l) (h0 : 0 < m) (h1 : m < 1073741824) : ∃ (r : Int) (l' : List D), f_law_draw [.own (.lst l) false, .val (.int m)] = .ok (.int r) [.lst l'] ∧ 0 ≤ r ∧ r < m ∧ Pool l' := by
  obtain ⟨cells, p, v, c, s, hp, rfl⟩ := h
  have m1 : ∀ z : Int, 0 ≤ z % m := fun z => Int.emod_nonneg _ (by omega)
  have m2 : ∀ z : Int, z % m < m := fun z => Int.emod_lt_of_pos _ h0
  have T : decide True = true := rfl
  by_cases hv : v ≤ 0
  · by_cases hq : p < (cells.length : Int)
    · obtain ⟨z, hz⟩ := pool_at hp hq
      by_cases hc : z < 1000000000000000000
      · obtain ⟨t, ht⟩ := spread_ok z
        by_cases hw : t ≤ 0
        · unfold f_law_draw b_law_draw
          simp -implicitDefEqProofs (decide := true) only [evs0, evs1, evs2, evs3, evs4, evs5, evs6, evs7, evs8, evs9, evs10, List.length_cons, List.length_nil, Nat.reduceAdd, Nat.reduceSub, ↓reduceIte, Nat.reduceLeDiff, Int.reduceEq, Int.reduceLT, Int.reduceLE, Option.isSome_some, Option.isSome_none, Option.getD_some, Option.getD_none, hv, hq, hz, hc, ht, hw, h0, List.length_map]
          exact ⟨_, _, rfl, m1 _, m2 _, ⟨cells, p + 1, t, c + 1, s, by omega, rfl⟩⟩
        · unfold f_law_draw b_law_draw
          simp -implicitDefEqProofs (decide := true) only [evs0, evs1, evs2, evs3, evs4, evs5, evs6, evs7, evs8, evs9, evs10, List.length_cons, List.length_nil, Nat.reduceAdd, Nat.reduceSub, ↓reduceIte, Nat.reduceLeDiff, Int.reduceEq, Int.reduceLT, Int.reduceLE, Option.isSome_some, Option.isSome_none, Option.getD_some, Option.getD_none, hv, hq, hz, hc, ht, hw, h0, h1, List.length_map]
          exact ⟨_, _, rfl, m1 _, m2 _, ⟨cells, p + 1, t / m, c + 1, s, by omega, rfl⟩⟩
      · have hw : ¬ z ≤ 0 := by omega
        unfold f_law_draw b_law_draw
        simp -implicitDefEqProofs (decide := true) only [evs0, evs1, evs2, evs3, evs4, evs5, evs6, evs7, evs8, evs9, evs10, List.length_cons, List.length_nil, Nat.reduceAdd, Nat.reduceSub, ↓reduceIte, Nat.reduceLeDiff, Int.reduceEq, Int.reduceLT, Int.reduceLE, Option.isSome_some, Option.isSome_none, Option.getD_some, Option.getD_none, hv, hq, hz, hc, hw, h0, h1, List.length_map]
        exact ⟨_, _, rfl, m1 _, m2 _, ⟨cells, p + 1, z / m, c + 1, s, by omega, rfl⟩⟩
    · unfold f_law_draw b_law_draw
      simp -implicitDefEqProofs (decide := true) only [evs0, evs1, evs2, evs3, evs4, evs5, evs6, evs7, evs8, evs9, evs10, List.length_cons, List.length_nil, Nat.reduceAdd, Nat.reduceSub, ↓reduceIte, Nat.reduceLeDiff, Int.reduceEq, Int.reduceLT, Int.reduceLE, Option.isSome_some, Option.isSome_none, Option.getD_some, Option.getD_none, hv, hq, h0, h1, List.length_map]
      exact ⟨_, _, rfl, m1 _, m2 _, ⟨cells, p, v, c + 1, s, by omega, rfl⟩⟩
  · unfold f_law_draw b_law_draw
    simp -implicitDefEqProofs (decide := true) only [evs0, evs1, evs2, evs3, evs4, evs5, evs6, evs7, evs8, evs9, evs10, List.length_cons, List.length_nil, Nat.reduceAdd, Nat.reduceSub, ↓reduceIte, Nat.reduceLeDiff, Int.reduceEq, Int.reduceLT, Int.reduceLE, Option.isSome_some, Option.isSome_none, Option.getD_some, Option.getD_none, hv, h0, h1, List.length_map]
    exact ⟨_, _, rfl, m1 _, m2 _, ⟨cells, p, v / m, c + 1, s, by omega, rfl⟩⟩
/-! ### the law's own comparison -/
/-- no dict, no deeper than n, no row too long -/
def okD : Nat → D → Bool
  | 0, _ => false
  | _ + 1, .none => true
  | _ + 1, .bool _ => true
  | _ + 1, .int _ => true
  | _ + 1, .str _ => true
  | n + 1, .list l => decide (l.length ≤ 1000000000) && l.all (okD n)
  | n + 1, .tuple l => decide (l.length ≤ 1000000000) && l.all (okD n)
  | _ + 1, .dict _ => false
theorem same_row {r : Cn} {l : List D} {x : D} (hx : ∀ i : Int, ixB x (.int i) = atI l i) (hl : l.length ≤ 1000000000) (h : ∀ d ∈ l, r [.val d, .val d] = .ok (.bool true) []) :
    compL (bN 2) (law_same_t1 r) (law_same_e1 r) [2] (rangeL 0 l.length) [] [.val x, .val x, .un] = .ok [] [.val x, .val x, .un] := by
  refine comp_none _ _ _ fun d hd => ?_
  obtain ⟨i, hi⟩ := List.getElem?_of_mem hd
  obtain ⟨rfl, hi2⟩ := rangeL_at hi
  have hl2 : i < l.length := by omega
  have e : atI l (0 + (i : Int)) = some l[i] := by rw [Int.zero_add, atI_nat, List.getElem?_eq_getElem hl2]
  refine ⟨[.val x, .val x, .val (.int (0 + i))], [.val x, .val x, .val (.int (0 + i))], by simp -implicitDefEqProofs only [evs0, evs1, evs2, evs3, evs4, evs5, evs6, evs7, evs8, evs9, evs10, List.length_cons, List.length_nil, Nat.reduceAdd, Nat.reduceSub, ↓reduceIte, Nat.reduceLeDiff, Int.reduceEq, Int.reduceLT, Int.reduceLE, Option.isSome_some, Option.isSome_none, Option.getD_some, Option.getD_none], ?_, by simp -implicitDefEqProofs only [evs0, evs1, evs2, evs3, evs4, evs5, evs6, evs7, evs8, evs9, evs10, List.length_cons, List.length_nil, Nat.reduceAdd, Nat.reduceSub, ↓reduceIte, Nat.reduceLeDiff, Int.reduceEq, Int.reduceLT, Int.reduceLE, Option.isSome_some, Option.isSome_none, Option.getD_some, Option.getD_none]⟩
  unfold law_same_t1
  simp -implicitDefEqProofs only [evs0, evs1, evs2, evs3, evs4, evs5, evs6, evs7, evs8, evs9, evs10, List.length_cons, List.length_nil, Nat.reduceAdd, Nat.reduceSub, ↓reduceIte, Nat.reduceLeDiff, Int.reduceEq, Int.reduceLT, Int.reduceLE, Option.isSome_some, Option.isSome_none, Option.getD_some, Option.getD_none, hx, e, h _ (List.getElem_mem hl2)]
theorem same_none {r : Cn} : fn 2 3 (b_law_same r) [.val .none, .val .none] = .ok (.bool true) [] := by
  unfold b_law_same
  simp -implicitDefEqProofs only [evs0, evs1, evs2, evs3, evs4, evs5, evs6, evs7, evs8, evs9, evs10, List.length_cons, List.length_nil, Nat.reduceAdd, Nat.reduceSub, ↓reduceIte, Nat.reduceLeDiff, Int.reduceEq, Int.reduceLT, Int.reduceLE, Option.isSome_some, Option.isSome_none, Option.getD_some, Option.getD_none]
theorem same_bool {r : Cn} {b : Bool} : fn 2 3 (b_law_same r) [.val (.bool b), .val (.bool b)] = .ok (.bool true) [] := by
  unfold b_law_same
  simp -implicitDefEqProofs only [evs0, evs1, evs2, evs3, evs4, evs5, evs6, evs7, evs8, evs9, evs10, List.length_cons, List.length_nil, Nat.reduceAdd, Nat.reduceSub, ↓reduceIte, Nat.reduceLeDiff, Int.reduceEq, Int.reduceLT, Int.reduceLE, Option.isSome_some, Option.isSome_none, Option.getD_some, Option.getD_none]
theorem same_int {r : Cn} {b : Int} : fn 2 3 (b_law_same r) [.val (.int b), .val (.int b)] = .ok (.bool true) [] := by
  unfold b_law_same
  simp -implicitDefEqProofs only [evs0, evs1, evs2, evs3, evs4, evs5, evs6, evs7, evs8, evs9, evs10, List.length_cons, List.length_nil, Nat.reduceAdd, Nat.reduceSub, ↓reduceIte, Nat.reduceLeDiff, Int.reduceEq, Int.reduceLT, Int.reduceLE, Option.isSome_some, Option.isSome_none, Option.getD_some, Option.getD_none]
theorem same_str {r : Cn} {b : Str} : fn 2 3 (b_law_same r) [.val (.str b), .val (.str b)] = .ok (.bool true) [] := by
  unfold b_law_same
  simp -implicitDefEqProofs only [evs0, evs1, evs2, evs3, evs4, evs5, evs6, evs7, evs8, evs9, evs10, List.length_cons, List.length_nil, Nat.reduceAdd, Nat.reduceSub, ↓reduceIte, Nat.reduceLeDiff, Int.reduceEq, Int.reduceLT, Int.reduceLE, Option.isSome_some, Option.isSome_none, Option.getD_some, Option.getD_none]
theorem same_seq {r : Cn} {x : D} {l : List D} (hx : ∀ i : Int, ixB x (.int i) = atI l i) (hlen : lenB [x] = some (.int (l.length : Int))) (h1 : (x.isTuple = true ∧ x.isList = false) ∨ (x.isTuple = false ∧ x.isList = true)) (hl : l.length ≤ 1000000000) (h : ∀ d ∈ l, r [.val d, .val d] = .ok (.bool true) []) :
    fn 2 3 (b_law_same r) [.val x, .val x] = .ok (.bool true) [] := by
  have e := same_row (r := r) (x := x) hx hl h
  have q1 : (l.length : Int) < 4611686018427387904 := by omega
  have q2 : (-4611686018427387904 : Int) ≤ l.length := by omega
  unfold b_law_same law_same_c1
  rcases h1 with ⟨a, b⟩ | ⟨a, b⟩
  · simp -implicitDefEqProofs only [evs0, evs1, evs2, evs3, evs4, evs5, evs6, evs7, evs8, evs9, evs10, List.length_cons, List.length_nil, Nat.reduceAdd, Nat.reduceSub, ↓reduceIte, Nat.reduceLeDiff, Int.reduceEq, Int.reduceLT, Int.reduceLE, Option.isSome_some, Option.isSome_none, Option.getD_some, Option.getD_none, a, b, hlen, ev_rng1 q1 q2, e]
  · simp -implicitDefEqProofs only [evs0, evs1, evs2, evs3, evs4, evs5, evs6, evs7, evs8, evs9, evs10, List.length_cons, List.length_nil, Nat.reduceAdd, Nat.reduceSub, ↓reduceIte, Nat.reduceLeDiff, Int.reduceEq, Int.reduceLT, Int.reduceLE, Option.isSome_some, Option.isSome_none, Option.getD_some, Option.getD_none, a, b, hlen, ev_rng1 q1 q2, e]
theorem same_refl : ∀ (n : Nat) (d : D), okD n d = true → f_law_same n [.val d, .val d] = .ok (.bool true) [] := by
  intro n
  induction n with
  | zero => intro d h; cases h
  | succ n ih =>
    intro d h
    unfold f_law_same
    cases d with
    | none => exact same_none
    | bool b => exact same_bool
    | int b => exact same_int
    | str b => exact same_str
    | list l =>
      simp only [okD, Bool.and_eq_true, decide_eq_true_eq, List.all_eq_true] at h
      exact same_seq (fun _ => rfl) rfl (.inr ⟨rfl, rfl⟩) h.1 fun d hd => ih d (h.2 d hd)
    | tuple l =>
      simp only [okD, Bool.and_eq_true, decide_eq_true_eq, List.all_eq_true] at h
      exact same_seq (fun _ => rfl) rfl (.inl ⟨rfl, rfl⟩) h.1 fun d hd => ih d (h.2 d hd)
    | dict _ => cases h
end Ft
/-! Ranges: the rows of integers, filtered. -/
namespace Ft
open PySem L2
theorem rangeL_cons {a b : Int} (h : a < b) : rangeL a b = .int a :: rangeL (a + 1) b := by
  apply List.ext_getElem?
  intro i
  cases i with
  | zero =>
    unfold rangeL
    rw [List.getElem?_map, List.getElem?_range (by omega)]
    simp
  | succ i =>
    rw [List.getElem?_cons_succ]
    unfold rangeL
    rw [List.getElem?_map, List.getElem?_map]
    by_cases hi : i < (b - (a + 1)).toNat
    · rw [List.getElem?_range (by omega), List.getElem?_range hi]
      simp only [Option.map_some]
      congr 2
      omega
    · rw [List.getElem?_eq_none (by rw [List.length_range]; omega), List.getElem?_eq_none (by rw [List.length_range]; omega)]
      rfl
theorem rangeL_nil {a b : Int} (h : b ≤ a) : rangeL a b = [] := by
  unfold rangeL
  rw [show (b - a).toNat = 0 by omega]
  rfl
theorem rangeL_snoc {a b : Int} (h : a < b) : rangeL a b = rangeL a (b - 1) ++ [.int (b - 1)] := by
  unfold rangeL
  rw [show (b - a).toNat = (b - 1 - a).toNat + 1 by omega, List.range_succ, List.map_append]
  simp only [List.map_cons, List.map_nil]
  congr 3
  omega
theorem mem_rangeL {a b : Int} {d : D} : d ∈ rangeL a b ↔ ∃ k : Int, d = .int k ∧ a ≤ k ∧ k < b := by
  constructor
  · intro h
    obtain ⟨i, hi⟩ := List.getElem?_of_mem h
    obtain ⟨rfl, h2⟩ := rangeL_at hi
    exact ⟨_, rfl, by omega, by omega⟩
  · rintro ⟨k, rfl, h1, h2⟩
    unfold rangeL
    exact List.mem_map.mpr ⟨(k - a).toNat, List.mem_range.mpr (by omega), by congr 1; omega⟩
theorem filter_head {p : D → Bool} {b k : Int} : ∀ (n : Nat) (a : Int), (k - a).toNat = n → a ≤ k → k < b → p (.int k) = true → (∀ j, a ≤ j → j < k → p (.int j) = false) → ∃ l, (rangeL a b).filter p = .int k :: l
  | 0, a, hn, h1, h2, hp, _ => by
    have : a = k := by omega
    subst this
    rw [rangeL_cons h2, List.filter_cons_of_pos hp]
    exact ⟨_, rfl⟩
  | n + 1, a, hn, h1, h2, hp, hm => by
    rw [rangeL_cons (by omega), List.filter_cons_of_neg (by rw [hm a (Int.le_refl _) (by omega)]; exact Bool.false_ne_true)]
    exact filter_head n (a + 1) (by omega) (by omega) h2 hp fun j h3 h4 => hm j (by omega) h4
theorem filter_last {p : D → Bool} {a k : Int} : ∀ (n : Nat) (b : Int), (b - 1 - k).toNat = n → a ≤ k → k < b → p (.int k) = true → (∀ j, k < j → j < b → p (.int j) = false) → ∃ l, (rangeL a b).filter p = l ++ [.int k]
  | 0, b, hn, h1, h2, hp, _ => by
    have : b = k + 1 := by omega
    subst this
    rw [rangeL_snoc (by omega), List.filter_append, show k + 1 - 1 = k by omega, List.filter_cons_of_pos hp]
    exact ⟨_, rfl⟩
  | n + 1, b, hn, h1, h2, hp, hm => by
    rw [rangeL_snoc (by omega), List.filter_append, List.filter_cons_of_neg (by rw [hm (b - 1) (by omega) (by omega)]; exact Bool.false_ne_true), List.filter_nil, List.append_nil]
    exact filter_last n (b - 1) (by omega) h1 (by omega) hp fun j h3 h4 => hm j h3 (by omega)
/-- the first and the last of a filtered row -/
theorem filter_ends {p : D → Bool} {a b k j : Int} (h1 : a ≤ k) (h2 : k < b) (hp : p (.int k) = true) (hm : ∀ i, a ≤ i → i < k → p (.int i) = false) (h3 : a ≤ j) (h4 : j < b) (hq : p (.int j) = true) (hx : ∀ i, j < i → i < b → p (.int i) = false) :
    atI ((rangeL a b).filter p) 0 = some (.int k) ∧ atI ((rangeL a b).filter p) (-1) = some (.int j) := by
  obtain ⟨l, e⟩ := filter_head _ a rfl h1 h2 hp hm
  obtain ⟨l2, e2⟩ := filter_last _ b rfl h3 h4 hq hx
  refine ⟨by rw [e]; exact ev_at0, ?_⟩
  rw [e2, atI_last (by simp)]
  simp
theorem atI_mem {α : Type} {l : List α} {i : Int} (h0 : 0 ≤ i) (h : i < (l.length : Int)) : ∃ x ∈ l, atI l i = some x := by
  have hl : i.toNat < l.length := by omega
  exact ⟨l[i.toNat], List.getElem_mem hl, atI_get h0 (List.getElem?_eq_getElem hl)⟩
theorem while_at {c : Tn} {s : Sn} {P : RS → Prop} (I : Nat → Rho → Prop) {m : Nat} {ρ : Rho} (hm : m < 1000000000000) (h : I m ρ) (hs : ∀ m ρ, I m ρ → ∃ b ρ1, c ρ = .ok b ρ1 ∧ (b = false → P (.next ρ1)) ∧ (b = true → Turn (fun ρ2 => ∃ m', m' < m ∧ I m' ρ2) P (s ρ1))) : P (sWhile c s ρ) :=
  while_rule I hs WF m ρ hm h
end Ft
/-! Progs: drawn programs, their outputs. -/
namespace Ft
open PySem L2
/-- a comprehension that draws: st l is the state with the pool l, ρ1 l d the state with the loop's name bound -/
theorem comp_draws {bd : Bd} {elt : Dn} {vs : List Nat} (st : List D → Rho) (ρ1 : List D → D → Rho) (P : Nat → D → Prop) {src l : List D} (hl : Pool l) (hz : src.length ≤ 1000000)
    (hb : ∀ l d, d ∈ src → bd d (st l) = some (ρ1 l d)) (he : ∀ i l d, src[i]? = some d → Pool l → ∃ x l', elt (ρ1 l d) = .ok x (ρ1 l' d) ∧ Pool l' ∧ P i x) (hw : ∀ l d, wipeR (ρ1 l d) vs = st l) :
    ∃ r l', compL bd tnYes elt vs src [] (st l) = .ok r (st l') ∧ Pool l' ∧ r.length = src.length ∧ ∀ i x, r[i]? = some x → P i x := by
  obtain ⟨r, ρ', e, l', rfl, h1, h2, h3⟩ := comp_rule (bd := bd) (ifs := tnYes) (elt := elt) (vs := vs) src (fun i acc ρ => ∃ l, ρ = st l ∧ Pool l ∧ acc.length = i ∧ ∀ j x, acc[j]? = some x → P j x) [] (st l) (by simp; omega) ⟨l, rfl, hl, rfl, fun j x h => by simp at h⟩ (by
    rintro i d acc ρ hi ⟨l, rfl, h1, h2, h3⟩
    obtain ⟨x, l', e1, h4, h5⟩ := he i l d hi h1
    refine ⟨ρ1 l d, true, ρ1 l d, hb l d (List.mem_of_getElem? hi), rfl, (fun h => by cases h), fun _ => ⟨x, ρ1 l' d, e1, l', hw _ _, h4, by rw [List.length_append, h2]; rfl, fun j y hj => ?_⟩⟩
    rw [List.getElem?_append] at hj
    split at hj
    · exact h3 j y hj
    · rename_i hlt
      cases hjl : j - acc.length with
      | zero =>
        rw [hjl] at hj
        have : j = i := by omega
        subst this
        cases hj; exact h5
      | succ k => rw [hjl] at hj; simp at hj)
  exact ⟨r, l', e, h1, h2, h3⟩
/-- as a row of integers in bounds -/
theorem rows_of {r : List D} {n : Nat} {a b : Int} (hn : r.length = n) (h : ∀ (i : Nat) x, r[i]? = some x → ∃ k : Int, x = .int k ∧ a ≤ k ∧ k < b) : ∃ ks : List Int, r = ks.map PyData.int ∧ ks.length = n ∧ ∀ k ∈ ks, a ≤ k ∧ k < b := by
  subst hn
  induction r with
  | nil => exact ⟨[], rfl, rfl, fun k h => by cases h⟩
  | cons x r ih =>
    obtain ⟨k, rfl, h1, h2⟩ := h 0 x rfl
    obtain ⟨ks, rfl, e, h3⟩ := ih fun i x hi => h (i + 1) x (by simpa using hi)
    refine ⟨k :: ks, rfl, by simp, fun j hj => ?_⟩
    rcases List.mem_cons.mp hj with rfl | hj
    · exact ⟨h1, h2⟩
    · exact h3 j hj
def PairOk (n : Int) (x : D) : Prop := ∃ a o : Int, x = .tuple [.int a, .int o] ∧ 0 ≤ a ∧ a < n ∧ 0 ≤ o ∧ o < 3
def RowOk (n : Int) (x : D) : Prop := ∃ a b c : D, x = .tuple [a, b, c] ∧ PairOk n a ∧ PairOk n b ∧ PairOk n c
def ProgOk (n : Nat) (x : D) : Prop := ∃ l, x = .tuple l ∧ l.length = n ∧ ∀ y ∈ l, RowOk n y
theorem len3 {l : List D} (h : l.length = 3) : ∃ a b c, l = [a, b, c] := by
  match l, h with
  | [a, b, c], _ => exact ⟨a, b, c, rfl⟩
theorem program_turn {l rows : List D} {many tame : Int} {most y5 : D} {i : Nat} {y6 : LV} (hp : Pool l) (hm : 0 < many) (hm2 : many < 1000) (hi : rows.length = i) (hi2 : i < 1000) (hr : ∀ y ∈ rows, RowOk many y) (h6 : nioK (some y6) = true) :
    ∃ l' row z6, law_program_b1 [.own (.lst l) false, .val most, .val (.int many), .val (.int tame), .own (.lst rows) true, .val (.int i), y6, .un, .un] = .next [.own (.lst l') false, .val most, .val (.int many), .val (.int tame), .own (.lst (rows ++ [row])) true, .val (.int i), .val z6, .un, .un] ∧ Pool l' ∧ RowOk many row := by
  -- outs
  obtain ⟨o, l1, e1, hp, o1, o2⟩ := comp_draws (bd := bN 7) (elt := law_program_e1) (vs := [7]) (fun l => [.own (.lst l) false, .val most, .val (.int many), .val (.int tame), .own (.lst rows) true, .val (.int i), y6, .un, .un])
    (fun l d => [.own (.lst l) false, .val most, .val (.int many), .val (.int tame), .own (.lst rows) true, .val (.int i), y6, .val d, .un]) (fun _ x => ∃ k : Int, x = .int k ∧ 0 ≤ k ∧ k < 3) (src := rangeL 0 3) hp (by decide)
    (fun l d _ => by simp -implicitDefEqProofs only [evs0, evs1, evs2, evs3, evs4, evs5, evs6, evs7, evs8, evs9, evs10, List.length_cons, List.length_nil, Nat.reduceAdd, Nat.reduceSub, ↓reduceIte, Nat.reduceLeDiff, Int.reduceEq, Int.reduceLT, Int.reduceLE, Option.isSome_some, Option.isSome_none, Option.getD_some, Option.getD_none]) (fun i l d _ hp => by
      obtain ⟨r, l', e, h1, h2, h3⟩ := draw_ok hp (m := 3) (by omega) (by omega)
      exact ⟨.int r, l', by unfold law_program_e1; simp -implicitDefEqProofs only [evs0, evs1, evs2, evs3, evs4, evs5, evs6, evs7, evs8, evs9, evs10, List.length_cons, List.length_nil, Nat.reduceAdd, Nat.reduceSub, ↓reduceIte, Nat.reduceLeDiff, Int.reduceEq, Int.reduceLT, Int.reduceLE, Option.isSome_some, Option.isSome_none, Option.getD_some, Option.getD_none, e], h3, r, rfl, h1, h2⟩) (fun l d => by simp -implicitDefEqProofs only [evs0, evs1, evs2, evs3, evs4, evs5, evs6, evs7, evs8, evs9, evs10, List.length_cons, List.length_nil, Nat.reduceAdd, Nat.reduceSub, ↓reduceIte, Nat.reduceLeDiff, Int.reduceEq, Int.reduceLT, Int.reduceLE, Option.isSome_some, Option.isSome_none, Option.getD_some, Option.getD_none])
  obtain ⟨os, rfl, o3, o4⟩ := rows_of o1 o2
  -- the second way
  have alt : ∀ l y6, (i : Int) > 0 → ∃ os2 : List Int, law_program_c2 [.own (.lst l) false, .val most, .val (.int many), .val (.int tame), .own (.lst rows) true, .val (.int i), y6, .un, .un] = .ok (.lst (os2.map PyData.int)) [.own (.lst l) false, .val most, .val (.int many), .val (.int tame), .own (.lst rows) true, .val (.int i), y6, .un, .un] ∧ os2.length = 3 ∧ ∀ k ∈ os2, 0 ≤ k ∧ k < 3 := by
    intro l y6 hi0
    obtain ⟨row, rest, rfl⟩ : ∃ row rest, rows = row :: rest := by
      cases rows with
      | nil => simp at hi; omega
      | cons a b => exact ⟨a, b, rfl⟩
    obtain ⟨p1, p2, p3, rfl, ⟨a1, b1, rfl, _, _, q1, w1⟩, ⟨a2, b2, rfl, _, _, q2, w2⟩, ⟨a3, b3, rfl, _, _, q3, w3⟩⟩ := hr row (List.mem_cons_self ..)
    refine ⟨[b1, b2, b3], ?_, rfl, ?_⟩
    · have c := comp_pure (bd := bN 8) (ifs := tnYes) (elt := law_program_e2) (vs := [8]) (p := fun _ => true) (f := fun x => match x with | .tuple [_, b] => b | _ => .none) [.tuple [.int a1, .int b1], .tuple [.int a2, .int b2], .tuple [.int a3, .int b3]] []
        [.own (.lst l) false, .val most, .val (.int many), .val (.int tame), .own (.lst (.tuple [.tuple [.int a1, .int b1], .tuple [.int a2, .int b2], .tuple [.int a3, .int b3]] :: rest)) true, .val (.int i), y6, .un, .un] (by simp) (fun d hd => by
          obtain ⟨u, v, rfl⟩ : ∃ u v : Int, d = .tuple [.int u, .int v] := by
            simp only [List.mem_cons, List.not_mem_nil, or_false] at hd
            rcases hd with rfl | rfl | rfl
            all_goals exact ⟨_, _, rfl⟩
          refine ⟨[.own (.lst l) false, .val most, .val (.int many), .val (.int tame), .own (.lst (.tuple [.tuple [.int a1, .int b1], .tuple [.int a2, .int b2], .tuple [.int a3, .int b3]] :: rest)) true, .val (.int i), y6, .un, .val (.tuple [.int u, .int v])], _, by simp -implicitDefEqProofs only [evs0, evs1, evs2, evs3, evs4, evs5, evs6, evs7, evs8, evs9, evs10, List.length_cons, List.length_nil, Nat.reduceAdd, Nat.reduceSub, ↓reduceIte, Nat.reduceLeDiff, Int.reduceEq, Int.reduceLT, Int.reduceLE, Option.isSome_some, Option.isSome_none, Option.getD_some, Option.getD_none], rfl, (fun h => by cases h), fun _ => ⟨_, by unfold law_program_e2; simp -implicitDefEqProofs only [evs0, evs1, evs2, evs3, evs4, evs5, evs6, evs7, evs8, evs9, evs10, List.length_cons, List.length_nil, Nat.reduceAdd, Nat.reduceSub, ↓reduceIte, Nat.reduceLeDiff, Int.reduceEq, Int.reduceLT, Int.reduceLE, Option.isSome_some, Option.isSome_none, Option.getD_some, Option.getD_none]; rfl, by simp -implicitDefEqProofs only [evs0, evs1, evs2, evs3, evs4, evs5, evs6, evs7, evs8, evs9, evs10, List.length_cons, List.length_nil, Nat.reduceAdd, Nat.reduceSub, ↓reduceIte, Nat.reduceLeDiff, Int.reduceEq, Int.reduceLT, Int.reduceLE, Option.isSome_some, Option.isSome_none, Option.getD_some, Option.getD_none]⟩⟩)
      have c' : compL (bN 8) tnYes law_program_e2 [8] [.tuple [.int a1, .int b1], .tuple [.int a2, .int b2], .tuple [.int a3, .int b3]] []
        [.own (.lst l) false, .val most, .val (.int many), .val (.int tame), .own (.lst (.tuple [.tuple [.int a1, .int b1], .tuple [.int a2, .int b2], .tuple [.int a3, .int b3]] :: rest)) true, .val (.int i), y6, .un, .un] = .ok [.int b1, .int b2, .int b3] [.own (.lst l) false, .val most, .val (.int many), .val (.int tame), .own (.lst (.tuple [.tuple [.int a1, .int b1], .tuple [.int a2, .int b2], .tuple [.int a3, .int b3]] :: rest)) true, .val (.int i), y6, .un, .un] := c
      unfold law_program_c2
      simp -implicitDefEqProofs only [evs0, evs1, evs2, evs3, evs4, evs5, evs6, evs7, evs8, evs9, evs10, List.length_cons, List.length_nil, Nat.reduceAdd, Nat.reduceSub, ↓reduceIte, Nat.reduceLeDiff, Int.reduceEq, Int.reduceLT, Int.reduceLE, Option.isSome_some, Option.isSome_none, Option.getD_some, Option.getD_none, c', List.map_cons, List.map_nil]
    · intro k hk
      simp only [List.mem_cons, List.not_mem_nil, or_false] at hk
      rcases hk with rfl | rfl | rfl
      all_goals omega
  -- the row
  have rowOf : ∀ (l : List D) (os : List Int), Pool l → os.length = 3 → (∀ k ∈ os, 0 ≤ k ∧ k < 3) → ∃ r l', law_program_c3 [.own (.lst l) false, .val most, .val (.int many), .val (.int tame), .own (.lst rows) true, .val (.int i), .val (.list (os.map PyData.int)), .un, .un] = .ok (.lst r) [.own (.lst l') false, .val most, .val (.int many), .val (.int tame), .own (.lst rows) true, .val (.int i), .val (.list (os.map PyData.int)), .un, .un] ∧ Pool l' ∧ RowOk many (.tuple r) := by
    intro l os hp h3 ho
    obtain ⟨r, l', e, hp, r1, r2⟩ := comp_draws (bd := bN 7) (elt := law_program_e3) (vs := [7]) (fun l => [.own (.lst l) false, .val most, .val (.int many), .val (.int tame), .own (.lst rows) true, .val (.int i), .val (.list (os.map PyData.int)), .un, .un])
      (fun l d => [.own (.lst l) false, .val most, .val (.int many), .val (.int tame), .own (.lst rows) true, .val (.int i), .val (.list (os.map PyData.int)), .val d, .un]) (fun _ x => PairOk many x) (src := rangeL 0 3) hp (by decide)
      (fun l d _ => by simp -implicitDefEqProofs only [evs0, evs1, evs2, evs3, evs4, evs5, evs6, evs7, evs8, evs9, evs10, List.length_cons, List.length_nil, Nat.reduceAdd, Nat.reduceSub, ↓reduceIte, Nat.reduceLeDiff, Int.reduceEq, Int.reduceLT, Int.reduceLE, Option.isSome_some, Option.isSome_none, Option.getD_some, Option.getD_none]) (fun j l d hd hp => by
        obtain ⟨rfl, hj⟩ := rangeL_at hd
        obtain ⟨r, l', e, h1, h2, h4⟩ := draw_ok hp (m := many) hm (by omega)
        have hj2 : j < os.length := by omega
        have hat : atI (os.map PyData.int) (0 + (j : Int)) = some (.int os[j]) := by rw [Int.zero_add, atI_nat, List.getElem?_map, List.getElem?_eq_getElem hj2]; rfl
        exact ⟨.tuple [.int r, .int os[j]], l', by unfold law_program_e3; simp -implicitDefEqProofs only [evs0, evs1, evs2, evs3, evs4, evs5, evs6, evs7, evs8, evs9, evs10, List.length_cons, List.length_nil, Nat.reduceAdd, Nat.reduceSub, ↓reduceIte, Nat.reduceLeDiff, Int.reduceEq, Int.reduceLT, Int.reduceLE, Option.isSome_some, Option.isSome_none, Option.getD_some, Option.getD_none, e, hat], h4, r, os[j], rfl, h1, h2, (ho _ (List.getElem_mem hj2)).1, (ho _ (List.getElem_mem hj2)).2⟩) (fun l d => by simp -implicitDefEqProofs only [evs0, evs1, evs2, evs3, evs4, evs5, evs6, evs7, evs8, evs9, evs10, List.length_cons, List.length_nil, Nat.reduceAdd, Nat.reduceSub, ↓reduceIte, Nat.reduceLeDiff, Int.reduceEq, Int.reduceLT, Int.reduceLE, Option.isSome_some, Option.isSome_none, Option.getD_some, Option.getD_none])
    obtain ⟨a, b, c, rfl⟩ := len3 (show r.length = 3 from r1)
    exact ⟨[a, b, c], l', by unfold law_program_c3; simp -implicitDefEqProofs only [evs0, evs1, evs2, evs3, evs4, evs5, evs6, evs7, evs8, evs9, evs10, List.length_cons, List.length_nil, Nat.reduceAdd, Nat.reduceSub, ↓reduceIte, Nat.reduceLeDiff, Int.reduceEq, Int.reduceLT, Int.reduceLE, Option.isSome_some, Option.isSome_none, Option.getD_some, Option.getD_none, e], hp, a, b, c, rfl, r2 0 _ rfl, r2 1 _ rfl, r2 2 _ rfl⟩
  have hsz : rows.length < 16000000 := by omega
  have h1 : law_program_c1 [.own (.lst l) false, .val most, .val (.int many), .val (.int tame), .own (.lst rows) true, .val (.int i), y6, .un, .un] = .ok (.lst (os.map PyData.int)) [.own (.lst l1) false, .val most, .val (.int many), .val (.int tame), .own (.lst rows) true, .val (.int i), y6, .un, .un] := by
    unfold law_program_c1; simp -implicitDefEqProofs only [evs0, evs1, evs2, evs3, evs4, evs5, evs6, evs7, evs8, evs9, evs10, List.length_cons, List.length_nil, Nat.reduceAdd, Nat.reduceSub, ↓reduceIte, Nat.reduceLeDiff, Int.reduceEq, Int.reduceLT, Int.reduceLE, Option.isSome_some, Option.isSome_none, Option.getD_some, Option.getD_none, e1]
  by_cases c1 : 0 < tame
  · by_cases c2 : (0 : Int) < i
    · obtain ⟨d, l2, e2, _, _, hp⟩ := draw_ok hp (m := 3) (by omega) (by omega)
      by_cases c3 : 0 < d
      · obtain ⟨os2, e3, h3, h4⟩ := alt l2 (.val (.list (os.map PyData.int))) c2
        obtain ⟨r, l3, e4, hp, hr⟩ := rowOf l2 os2 hp h3 h4
        refine ⟨l3, .tuple r, .list (os2.map PyData.int), ?_, hp, hr⟩
        unfold law_program_b1
        simp -implicitDefEqProofs only [evs0, evs1, evs2, evs3, evs4, evs5, evs6, evs7, evs8, evs9, evs10, List.length_cons, List.length_nil, Nat.reduceAdd, Nat.reduceSub, ↓reduceIte, Nat.reduceLeDiff, Int.reduceEq, Int.reduceLT, Int.reduceLE, Option.isSome_some, Option.isSome_none, Option.getD_some, Option.getD_none, h6, h1, c1, c2, e2, c3, e3, e4, ev_appK2 hsz]
      · obtain ⟨r, l3, e4, hp, hr⟩ := rowOf l2 os hp o3 o4
        refine ⟨l3, .tuple r, .list (os.map PyData.int), ?_, hp, hr⟩
        unfold law_program_b1
        simp -implicitDefEqProofs only [evs0, evs1, evs2, evs3, evs4, evs5, evs6, evs7, evs8, evs9, evs10, List.length_cons, List.length_nil, Nat.reduceAdd, Nat.reduceSub, ↓reduceIte, Nat.reduceLeDiff, Int.reduceEq, Int.reduceLT, Int.reduceLE, Option.isSome_some, Option.isSome_none, Option.getD_some, Option.getD_none, h6, h1, c1, c2, e2, c3, e4, ev_appK2 hsz]
    · obtain ⟨r, l3, e4, hp, hr⟩ := rowOf l1 os hp o3 o4
      refine ⟨l3, .tuple r, .list (os.map PyData.int), ?_, hp, hr⟩
      unfold law_program_b1
      simp -implicitDefEqProofs only [evs0, evs1, evs2, evs3, evs4, evs5, evs6, evs7, evs8, evs9, evs10, List.length_cons, List.length_nil, Nat.reduceAdd, Nat.reduceSub, ↓reduceIte, Nat.reduceLeDiff, Int.reduceEq, Int.reduceLT, Int.reduceLE, Option.isSome_some, Option.isSome_none, Option.getD_some, Option.getD_none, h6, h1, c1, c2, e4, ev_appK2 hsz]
  · obtain ⟨r, l3, e4, hp, hr⟩ := rowOf l1 os hp o3 o4
    refine ⟨l3, .tuple r, .list (os.map PyData.int), ?_, hp, hr⟩
    unfold law_program_b1
    simp -implicitDefEqProofs only [evs0, evs1, evs2, evs3, evs4, evs5, evs6, evs7, evs8, evs9, evs10, List.length_cons, List.length_nil, Nat.reduceAdd, Nat.reduceSub, ↓reduceIte, Nat.reduceLeDiff, Int.reduceEq, Int.reduceLT, Int.reduceLE, Option.isSome_some, Option.isSome_none, Option.getD_some, Option.getD_none, h6, h1, c1, e4, ev_appK2 hsz]
theorem program_ok {l : List D} {most : Int} (hp : Pool l) (h0 : 0 < most) (h1 : most < 900) : ∃ d l' n, f_law_program [.own (.lst l) false, .val (.int most)] = .ok d [.lst l'] ∧ Pool l' ∧ ProgOk n d ∧ 0 < n ∧ (n : Int) ≤ most := by
  obtain ⟨r, l1, e1, r0, r1, hp⟩ := draw_ok hp (m := most) h0 (by omega)
  obtain ⟨tame, l2, e2, _, _, hp⟩ := draw_ok hp (m := 3) (by omega) (by omega)
  obtain ⟨n, hn⟩ : ∃ n : Nat, (n : Int) = 1 + r := ⟨(1 + r).toNat, by omega⟩
  have loop : ∃ l' rows y5 y6, forV (bN 5) law_program_b1 (rangeL 0 (1 + r)) [.own (.lst l2) false, .val (.int most), .val (.int (1 + r)), .val (.int tame), .own (.lst []) true, .un, .un, .un, .un] = .next [.own (.lst l') false, .val (.int most), .val (.int (1 + r)), .val (.int tame), .own (.lst rows) true, y5, y6, .un, .un] ∧ Pool l' ∧ rows.length = n ∧ ∀ y ∈ rows, RowOk n y := by
    refine for_rule (P := fun q => ∃ l' rows y5 y6, q = .next [.own (.lst l') false, .val (.int most), .val (.int (1 + r)), .val (.int tame), .own (.lst rows) true, y5, y6, .un, .un] ∧ Pool l' ∧ rows.length = n ∧ ∀ y ∈ rows, RowOk n y) (rangeL 0 (1 + r))
      (fun i ρ => ∃ l' rows y5 y6, ρ = [.own (.lst l') false, .val (.int most), .val (.int (1 + r)), .val (.int tame), .own (.lst rows) true, y5, y6, .un, .un] ∧ Pool l' ∧ rows.length = i ∧ (∀ y ∈ rows, RowOk n y) ∧ nioK (some y5) = true ∧ nioK (some y6) = true) _ ⟨l2, [], .un, .un, rfl, hp, rfl, (fun y h => by cases h), rfl, rfl⟩ ?_ ?_
    · rintro i d ρ hi ⟨l', rows, y5, y6, rfl, hp, hl, hr, h5, h6⟩
      obtain ⟨rfl, hi2⟩ := rangeL_at hi
      obtain ⟨l3, row, z6, e, hp, hrow⟩ := program_turn (l := l') (rows := rows) (many := 1 + r) (tame := tame) (most := .int most) (y5 := .none) (i := i) (y6 := y6) hp (by omega) (by omega) hl (by omega) (by rw [← hn]; exact hr) h6
      refine ⟨[.own (.lst l') false, .val (.int most), .val (.int (1 + r)), .val (.int tame), .own (.lst rows) true, .val (.int i), y6, .un, .un], by simp -implicitDefEqProofs only [evs0, evs1, evs2, evs3, evs4, evs5, evs6, evs7, evs8, evs9, evs10, List.length_cons, List.length_nil, Nat.reduceAdd, Nat.reduceSub, ↓reduceIte, Nat.reduceLeDiff, Int.reduceEq, Int.reduceLT, Int.reduceLE, Option.isSome_some, Option.isSome_none, Option.getD_some, Option.getD_none, h5, Int.zero_add], ?_⟩
      rw [e]
      refine ⟨l3, rows ++ [row], _, _, rfl, hp, by simp [hl], fun y hy => ?_, rfl, rfl⟩
      rcases List.mem_append.mp hy with h | h
      · exact hr y h
      · rw [List.mem_singleton.mp h, hn]; exact hrow
    · rintro ρ ⟨l', rows, y5, y6, rfl, hp, hl, hr, _, _⟩
      exact ⟨l', rows, y5, y6, rfl, hp, by rw [hl, rangeL_len]; omega, hr⟩
  obtain ⟨l', rows, y5, y6, e, hp, hl, hr⟩ := loop
  refine ⟨.tuple rows, l', n, ?_, hp, ⟨rows, rfl, hl, hr⟩, by omega, by omega⟩
  have b1 : 1 + r < 4611686018427387904 := by omega
  have b2 : -4611686018427387904 ≤ 1 + r := by omega
  unfold f_law_program b_law_program
  simp -implicitDefEqProofs only [evs0, evs1, evs2, evs3, evs4, evs5, evs6, evs7, evs8, evs9, evs10, List.length_cons, List.length_nil, Nat.reduceAdd, Nat.reduceSub, ↓reduceIte, Nat.reduceLeDiff, Int.reduceEq, Int.reduceLT, Int.reduceLE, Option.isSome_some, Option.isSome_none, Option.getD_some, Option.getD_none, e1, e2, ev_rng1 b1 b2, e]
/-! ### outputs -/
def stepD (p : List D) (s t : Int) : Int × Int := match atI p s with
  | some (.tuple r) => match atI r t with
    | some (.tuple [.int a, .int o]) => (a, o)
    | _ => (0, 0)
  | _ => (0, 0)
def outsD (p : List D) : Int → List Int → List Int
  | _, [] => []
  | s, t :: ts => (stepD p s t).2 :: outsD p (stepD p s t).1 ts
def endD (p : List D) : Int → List Int → Int
  | s, [] => s
  | s, t :: ts => endD p (stepD p s t).1 ts
theorem step_at {p : List D} {n : Nat} {s t : Int} (hp : ProgOk n (.tuple p)) (s0 : 0 ≤ s) (s1 : s < n) (t0 : 0 ≤ t) (t1 : t < 3) : ∃ r : List D, atI p s = some (.tuple r) ∧ atI r t = some (.tuple [.int (stepD p s t).1, .int (stepD p s t).2]) ∧ 0 ≤ (stepD p s t).1 ∧ (stepD p s t).1 < n ∧ 0 ≤ (stepD p s t).2 ∧ (stepD p s t).2 < 3 := by
  obtain ⟨l, e, hl, hr⟩ := hp
  cases e
  obtain ⟨x, hx, e⟩ := atI_mem (l := p) s0 (by omega)
  obtain ⟨a, b, c, rfl, ha, hb, hc⟩ := hr x hx
  have : ∃ y, atI [a, b, c] t = some y ∧ PairOk n y := by
    obtain ⟨y, hy, e⟩ := atI_mem (l := [a, b, c]) t0 (by simpa using t1)
    simp only [List.mem_cons, List.not_mem_nil, or_false] at hy
    rcases hy with rfl | rfl | rfl
    all_goals exact ⟨_, e, by assumption⟩
  obtain ⟨y, e2, u, v, rfl, q⟩ := this
  have hs : stepD p s t = (u, v) := by unfold stepD; rw [e]; simp only; rw [e2]
  exact ⟨[a, b, c], e, by rw [hs]; exact e2, by rw [hs]; exact q⟩
theorem outs_len {p : List D} : ∀ {s : Int} {ts : List Int}, (outsD p s ts).length = ts.length
  | _, [] => rfl
  | _, _ :: ts => by unfold outsD; rw [List.length_cons, List.length_cons, outs_len]
theorem outputs_loop {p : List D} {n : Nat} {x1 : D} (hp : ProgOk n (.tuple p)) : ∀ (ts : List Int) (s : Int) (acc : List D) (y4 y5 : LV), (∀ t ∈ ts, 0 ≤ t ∧ t < 3) → 0 ≤ s → s < n → acc.length + ts.length < 10000000 → nioK (some y4) = true → nioK (some y5) = true →
    ∃ z4 z5, forV (bN 4) outputs_b1 (ts.map PyData.int) [.val (.tuple p), .val x1, .val (.int s), .own (.lst acc) true, y4, y5] = .next [.val (.tuple p), .val x1, .val (.int (endD p s ts)), .own (.lst (acc ++ (outsD p s ts).map PyData.int)) true, z4, z5]
  | [], s, acc, y4, y5, _, _, _, _, _, _ => ⟨y4, y5, by simp [forV, outsD, endD]⟩
  | t :: ts, s, acc, y4, y5, h, s0, s1, hz, h4, h5 => by
    obtain ⟨t0, t1⟩ := h t (List.mem_cons_self ..)
    obtain ⟨r, e1, e2, a0, a1, _, _⟩ := step_at hp s0 s1 t0 t1
    rw [List.length_cons] at hz
    have hz1 : acc.length < 16000000 := by omega
    obtain ⟨z4, z5, e⟩ := outputs_loop (x1 := x1) hp ts (stepD p s t).1 (acc ++ [.int (stepD p s t).2]) (.val (.int t)) (.val (.int (stepD p s t).2)) (fun t ht => h t (List.mem_cons_of_mem _ ht)) a0 a1 (by rw [List.length_append]; simp; omega) rfl rfl
    refine ⟨z4, z5, ?_⟩
    rw [List.map_cons]
    unfold forV
    have b1 : bN 4 (.int t) [.val (.tuple p), .val x1, .val (.int s), .own (.lst acc) true, y4, y5] = some [.val (.tuple p), .val x1, .val (.int s), .own (.lst acc) true, .val (.int t), y5] := by simp -implicitDefEqProofs only [evs0, evs1, evs2, evs3, evs4, evs5, evs6, evs7, evs8, evs9, evs10, List.length_cons, List.length_nil, Nat.reduceAdd, Nat.reduceSub, ↓reduceIte, Nat.reduceLeDiff, Int.reduceEq, Int.reduceLT, Int.reduceLE, Option.isSome_some, Option.isSome_none, Option.getD_some, Option.getD_none, h4]
    have b2 : outputs_b1 [.val (.tuple p), .val x1, .val (.int s), .own (.lst acc) true, .val (.int t), y5] = .next [.val (.tuple p), .val x1, .val (.int (stepD p s t).1), .own (.lst (acc ++ [.int (stepD p s t).2])) true, .val (.int t), .val (.int (stepD p s t).2)] := by
      unfold outputs_b1
      simp -implicitDefEqProofs only [evs0, evs1, evs2, evs3, evs4, evs5, evs6, evs7, evs8, evs9, evs10, List.length_cons, List.length_nil, Nat.reduceAdd, Nat.reduceSub, ↓reduceIte, Nat.reduceLeDiff, Int.reduceEq, Int.reduceLT, Int.reduceLE, Option.isSome_some, Option.isSome_none, Option.getD_some, Option.getD_none, e1, e2, h5, ev_appK2 hz1]
    rw [b1]
    simp only [b2]
    rw [e]
    simp only [outsD, endD, List.map_cons, List.append_assoc, List.singleton_append]
theorem outputs_ok {p : List D} {n : Nat} {ts : List Int} (hp : ProgOk n (.tuple p)) (hn : 0 < n) (h : ∀ t ∈ ts, 0 ≤ t ∧ t < 3) (hz : ts.length < 1000000) {x1 : D} (hx : items x1 = some (ts.map PyData.int)) :
    f_outputs [.val (.tuple p), .val x1] = .ok (.list ((outsD p 0 ts).map PyData.int)) [] := by
  obtain ⟨z4, z5, e⟩ := outputs_loop (x1 := x1) hp ts 0 [] .un .un h (Int.le_refl _) (by omega) (by simp; omega) rfl rfl
  rw [List.nil_append] at e
  unfold f_outputs b_outputs
  simp -implicitDefEqProofs only [evs0, evs1, evs2, evs3, evs4, evs5, evs6, evs7, evs8, evs9, evs10, List.length_cons, List.length_nil, Nat.reduceAdd, Nat.reduceSub, ↓reduceIte, Nat.reduceLeDiff, Int.reduceEq, Int.reduceLT, Int.reduceLE, Option.isSome_some, Option.isSome_none, Option.getD_some, Option.getD_none, hx, e]
theorem law_outputs_loop {p : List D} {n : Nat} {x1 : D} (hp : ProgOk n (.tuple p)) : ∀ (ts : List Int) (s : Int) (acc : List D) (y4 y5 : LV), (∀ t ∈ ts, 0 ≤ t ∧ t < 3) → 0 ≤ s → s < n → acc.length + ts.length < 10000000 → nioK (some y4) = true → nioK (some y5) = true →
    ∃ z4 z5, forV (bN 4) law_outputs_b1 (ts.map PyData.int) [.val (.tuple p), .val x1, .val (.int s), .own (.lst acc) true, y4, y5] = .next [.val (.tuple p), .val x1, .val (.int (endD p s ts)), .own (.lst (acc ++ (outsD p s ts).map PyData.int)) true, z4, z5]
  | [], s, acc, y4, y5, _, _, _, _, _, _ => ⟨y4, y5, by simp [forV, outsD, endD]⟩
  | t :: ts, s, acc, y4, y5, h, s0, s1, hz, h4, h5 => by
    obtain ⟨t0, t1⟩ := h t (List.mem_cons_self ..)
    obtain ⟨r, e1, e2, a0, a1, _, _⟩ := step_at hp s0 s1 t0 t1
    rw [List.length_cons] at hz
    have hz1 : acc.length < 16000000 := by omega
    obtain ⟨z4, z5, e⟩ := law_outputs_loop (x1 := x1) hp ts (stepD p s t).1 (acc ++ [.int (stepD p s t).2]) (.val (.int t)) (.val (.tuple [.int (stepD p s t).1, .int (stepD p s t).2])) (fun t ht => h t (List.mem_cons_of_mem _ ht)) a0 a1 (by rw [List.length_append]; simp; omega) rfl rfl
    refine ⟨z4, z5, ?_⟩
    rw [List.map_cons]
    unfold forV
    have b1 : bN 4 (.int t) [.val (.tuple p), .val x1, .val (.int s), .own (.lst acc) true, y4, y5] = some [.val (.tuple p), .val x1, .val (.int s), .own (.lst acc) true, .val (.int t), y5] := by simp -implicitDefEqProofs only [evs0, evs1, evs2, evs3, evs4, evs5, evs6, evs7, evs8, evs9, evs10, List.length_cons, List.length_nil, Nat.reduceAdd, Nat.reduceSub, ↓reduceIte, Nat.reduceLeDiff, Int.reduceEq, Int.reduceLT, Int.reduceLE, Option.isSome_some, Option.isSome_none, Option.getD_some, Option.getD_none, h4]
    have b2 : law_outputs_b1 [.val (.tuple p), .val x1, .val (.int s), .own (.lst acc) true, .val (.int t), y5] = .next [.val (.tuple p), .val x1, .val (.int (stepD p s t).1), .own (.lst (acc ++ [.int (stepD p s t).2])) true, .val (.int t), .val (.tuple [.int (stepD p s t).1, .int (stepD p s t).2])] := by
      unfold law_outputs_b1
      simp -implicitDefEqProofs only [evs0, evs1, evs2, evs3, evs4, evs5, evs6, evs7, evs8, evs9, evs10, List.length_cons, List.length_nil, Nat.reduceAdd, Nat.reduceSub, ↓reduceIte, Nat.reduceLeDiff, Int.reduceEq, Int.reduceLT, Int.reduceLE, Option.isSome_some, Option.isSome_none, Option.getD_some, Option.getD_none, e1, e2, h5, ev_appK2 hz1]
    rw [b1]
    simp only [b2]
    rw [e]
    simp only [outsD, endD, List.map_cons, List.append_assoc, List.singleton_append]
theorem law_outputs_ok {p : List D} {n : Nat} {ts : List Int} (hp : ProgOk n (.tuple p)) (hn : 0 < n) (h : ∀ t ∈ ts, 0 ≤ t ∧ t < 3) (hz : ts.length < 1000000) {x1 : D} (hx : items x1 = some (ts.map PyData.int)) :
    f_law_outputs [.val (.tuple p), .val x1] = .ok (.list ((outsD p 0 ts).map PyData.int)) [] := by
  obtain ⟨z4, z5, e⟩ := law_outputs_loop (x1 := x1) hp ts 0 [] .un .un h (Int.le_refl _) (by omega) (by simp; omega) rfl rfl
  rw [List.nil_append] at e
  unfold f_law_outputs b_law_outputs
  simp -implicitDefEqProofs only [evs0, evs1, evs2, evs3, evs4, evs5, evs6, evs7, evs8, evs9, evs10, List.length_cons, List.length_nil, Nat.reduceAdd, Nat.reduceSub, ↓reduceIte, Nat.reduceLeDiff, Int.reduceEq, Int.reduceLT, Int.reduceLE, Option.isSome_some, Option.isSome_none, Option.getD_some, Option.getD_none, hx, e]
end Ft
/-! Grounds: drawn grounds, who is beside whom. -/
namespace Ft
open PySem L2
/-! ### what stands in a row -/
theorem plain_ints : ∀ l : List Int, PyData.plainAll (l.map PyData.int) = true
  | [] => rfl
  | _ :: l => by simp only [List.map_cons, PyData.plainAll, PyData.plain, plain_ints l, Bool.and_self]
theorem depth_intsD : ∀ l : List Int, PyData.depthAll (l.map PyData.int) = 0
  | [] => by simp [PyData.depthAll]
  | _ :: l => by simp only [List.map_cons, PyData.depthAll, PyData.depth, depth_intsD l]; rfl
theorem any_int (ks : List Int) (k : Int) : ((ks.map PyData.int).any fun y => PyData.eqv y (.int k)) = decide (k ∈ ks) := by
  induction ks with
  | nil => simp
  | cons a ks ih =>
    rw [List.map_cons, List.any_cons, ih]
    by_cases h : a = k
    · subst h; simp [PyData.eqv]
    · have h' : ¬ k = a := fun z => h z.symm
      simp [PyData.eqv, h, h']
theorem in_intsT (ks : List Int) (k : Int) : toB inB (.int k) (.tuple (ks.map PyData.int)) = some (.bool (decide (k ∈ ks))) := by
  have : inB (.int k) (.tuple (ks.map PyData.int)) = some (decide (k ∈ ks)) := by
    unfold inB
    simp only [plain_ints, depth_intsD, any_int]
    rfl
  unfold toB
  rw [this]; rfl
theorem in_intsL (ks : List Int) (k : Int) : toB inB (.int k) (.list (ks.map PyData.int)) = some (.bool (decide (k ∈ ks))) := by
  have : inB (.int k) (.list (ks.map PyData.int)) = some (decide (k ∈ ks)) := by
    unfold inB
    simp only [plain_ints, depth_intsD, any_int]
    rfl
  unfold toB
  rw [this]; rfl
def encL (p : Int × Int) : D := .tuple [.int p.1, .int p.2]
theorem plain_lanes : ∀ l : List (Int × Int), PyData.plainAll (l.map encL) = true
  | [] => rfl
  | _ :: l => by simp only [List.map_cons, encL, PyData.plainAll, PyData.plain, Bool.true_and]; exact plain_lanes l
theorem depth_lanes : ∀ l : List (Int × Int), PyData.depthAll (l.map encL) ≤ 1
  | [] => by simp [PyData.depthAll]
  | p :: l => by
    have := depth_lanes l
    simp only [List.map_cons, PyData.depthAll, encL, PyData.depth]
    exact Nat.max_le.mpr ⟨by decide, this⟩
theorem eqv_lane (p r : Int × Int) : PyData.eqv (encL p) (encL r) = decide (p = r) := by
  obtain ⟨a, b⟩ := p
  obtain ⟨c, d⟩ := r
  simp only [encL, PyData.eqv, PyData.eqvAll, Bool.and_true, Prod.mk.injEq, Bool.decide_and]
  rfl
theorem any_lane (L : List (Int × Int)) (p : Int × Int) : ((L.map encL).any fun y => PyData.eqv y (encL p)) = decide (p ∈ L) := by
  induction L with
  | nil => simp
  | cons a L ih =>
    rw [List.map_cons, List.any_cons, ih, eqv_lane]
    by_cases h : a = p
    · subst h; simp
    · have h' : ¬ p = a := fun z => h z.symm
      simp [h, h']
theorem in_lanes (L : List (Int × Int)) (a b : Int) : toB inB (.tuple [.int a, .int b]) (.tuple (L.map encL)) = some (.bool (decide ((a, b) ∈ L))) := by
  have hd : min (PyData.depthAll (L.map encL)) (PyData.depth (.tuple [.int a, .int b])) ≤ 60 := Nat.le_trans (Nat.min_le_left _ _) (Nat.le_trans (depth_lanes L) (by decide))
  have : inB (.tuple [.int a, .int b]) (.tuple (L.map encL)) = some (decide ((a, b) ∈ L)) := by
    unfold inB
    simp only [plain_lanes]
    rw [if_pos (by simp only [Bool.true_and, Bool.and_eq_true, decide_eq_true_eq]; exact ⟨rfl, hd⟩)]
    exact congrArg some (any_lane L (a, b))
  unfold toB
  rw [this]; rfl
/-! ### grounds -/
def lexlt (p r : Int × Int) : Prop := p.1 < r.1 ∨ (p.1 = r.1 ∧ p.2 < r.2)
def encG (n : Int) (L : List (Int × Int)) : D := .tuple [.int n, .tuple (L.map encL)]
structure GOk (n : Int) (L : List (Int × Int)) : Prop where
  pos : 1 ≤ n
  lane : ∀ p ∈ L, 0 ≤ p.1 ∧ p.1 < p.2 ∧ p.2 < n
  sorted : L.Pairwise lexlt
  small : L.length ≤ 1000000
theorem ground_inner {l : List D} {L : List (Int × Int)} {most : D} {places turn a b : Int} (hp : Pool l) (hL : L.length ≤ 1000000) : ∃ l' L', law_ground_b1 [.own (.lst l) false, .val most, .val (.int places), .val (.int turn), .own (.lst (L.map encL)) true, .val (.int a), .val (.int b)] =
    .next [.own (.lst l') false, .val most, .val (.int places), .val (.int turn), .own (.lst (L'.map encL)) true, .val (.int a), .val (.int b)] ∧ Pool l' ∧ (L' = L ∨ L' = L ++ [(a, b)]) := by
  obtain ⟨r3, l3, e3, _, _, hp3⟩ := draw_ok hp (m := 3) (by omega) (by omega)
  obtain ⟨r5, l5, e5, _, _, hp5⟩ := draw_ok hp (m := 5) (by omega) (by omega)
  have hsz : (L.map encL).length < 16000000 := by rw [List.length_map]; omega
  have app : L.map encL ++ [.tuple [.int a, .int b]] = (L ++ [(a, b)]).map encL := by simp [encL]
  unfold law_ground_b1
  by_cases t0 : turn = 0
  · by_cases hb : b = a + 1
    · subst hb
      refine ⟨l, L ++ [(a, a + 1)], ?_, hp, .inr rfl⟩
      rw [← app]
      simp -implicitDefEqProofs only [evs0, evs1, evs2, evs3, evs4, evs5, evs6, evs7, evs8, evs9, evs10, List.length_cons, List.length_nil, Nat.reduceAdd, Nat.reduceSub, ↓reduceIte, Nat.reduceLeDiff, Int.reduceEq, Int.reduceLT, Int.reduceLE, Option.isSome_some, Option.isSome_none, Option.getD_some, Option.getD_none, t0, ev_appK2 hsz]
    · refine ⟨l, L, ?_, hp, .inl rfl⟩
      simp -implicitDefEqProofs only [evs0, evs1, evs2, evs3, evs4, evs5, evs6, evs7, evs8, evs9, evs10, List.length_cons, List.length_nil, Nat.reduceAdd, Nat.reduceSub, ↓reduceIte, Nat.reduceLeDiff, Int.reduceEq, Int.reduceLT, Int.reduceLE, Option.isSome_some, Option.isSome_none, Option.getD_some, Option.getD_none, t0, hb]
  · by_cases t1 : turn = 1
    · by_cases h3 : r3 = 0
      · refine ⟨l3, L ++ [(a, b)], ?_, hp3, .inr rfl⟩
        rw [← app]
        simp -implicitDefEqProofs only [evs0, evs1, evs2, evs3, evs4, evs5, evs6, evs7, evs8, evs9, evs10, List.length_cons, List.length_nil, Nat.reduceAdd, Nat.reduceSub, ↓reduceIte, Nat.reduceLeDiff, Int.reduceEq, Int.reduceLT, Int.reduceLE, Option.isSome_some, Option.isSome_none, Option.getD_some, Option.getD_none, t1, e3, h3, ev_appK2 hsz]
      · refine ⟨l3, L, ?_, hp3, .inl rfl⟩
        simp -implicitDefEqProofs only [evs0, evs1, evs2, evs3, evs4, evs5, evs6, evs7, evs8, evs9, evs10, List.length_cons, List.length_nil, Nat.reduceAdd, Nat.reduceSub, ↓reduceIte, Nat.reduceLeDiff, Int.reduceEq, Int.reduceLT, Int.reduceLE, Option.isSome_some, Option.isSome_none, Option.getD_some, Option.getD_none, t1, e3, h3]
    · by_cases t2 : 1 < turn
      · by_cases hb : b = a + 1
        · subst hb
          refine ⟨l, L ++ [(a, a + 1)], ?_, hp, .inr rfl⟩
          rw [← app]
          simp -implicitDefEqProofs only [evs0, evs1, evs2, evs3, evs4, evs5, evs6, evs7, evs8, evs9, evs10, List.length_cons, List.length_nil, Nat.reduceAdd, Nat.reduceSub, ↓reduceIte, Nat.reduceLeDiff, Int.reduceEq, Int.reduceLT, Int.reduceLE, Option.isSome_some, Option.isSome_none, Option.getD_some, Option.getD_none, t0, t1, t2, ev_appK2 hsz]
        · by_cases h5 : r5 = 0
          · refine ⟨l5, L ++ [(a, b)], ?_, hp5, .inr rfl⟩
            rw [← app]
            simp -implicitDefEqProofs only [evs0, evs1, evs2, evs3, evs4, evs5, evs6, evs7, evs8, evs9, evs10, List.length_cons, List.length_nil, Nat.reduceAdd, Nat.reduceSub, ↓reduceIte, Nat.reduceLeDiff, Int.reduceEq, Int.reduceLT, Int.reduceLE, Option.isSome_some, Option.isSome_none, Option.getD_some, Option.getD_none, t0, t1, t2, hb, e5, h5, ev_appK2 hsz]
          · refine ⟨l5, L, ?_, hp5, .inl rfl⟩
            simp -implicitDefEqProofs only [evs0, evs1, evs2, evs3, evs4, evs5, evs6, evs7, evs8, evs9, evs10, List.length_cons, List.length_nil, Nat.reduceAdd, Nat.reduceSub, ↓reduceIte, Nat.reduceLeDiff, Int.reduceEq, Int.reduceLT, Int.reduceLE, Option.isSome_some, Option.isSome_none, Option.getD_some, Option.getD_none, t0, t1, t2, hb, e5, h5]
      · refine ⟨l, L, ?_, hp, .inl rfl⟩
        simp -implicitDefEqProofs only [evs0, evs1, evs2, evs3, evs4, evs5, evs6, evs7, evs8, evs9, evs10, List.length_cons, List.length_nil, Nat.reduceAdd, Nat.reduceSub, ↓reduceIte, Nat.reduceLeDiff, Int.reduceEq, Int.reduceLT, Int.reduceLE, Option.isSome_some, Option.isSome_none, Option.getD_some, Option.getD_none, t0, t1, t2]
theorem ground_row {l : List D} {L : List (Int × Int)} {most : D} {places turn : Int} {a : Nat} {y6 : LV} (hp : Pool l) (h6 : nioK (some y6) = true) (hpl : places ≤ 100) (ha : (a : Int) < places) (hL : L.length ≤ a * 100) (hl : ∀ p ∈ L, 0 ≤ p.1 ∧ p.1 < p.2 ∧ p.2 < places) (hs : L.Pairwise lexlt) (hb : ∀ p ∈ L, p.1 < a) :
    ∃ (l' : List D) (L' : List (Int × Int)) (z6 : LV), law_ground_b2 [.own (.lst l) false, .val most, .val (.int places), .val (.int turn), .own (.lst (L.map encL)) true, .val (.int a), y6] =
      .next [.own (.lst l') false, .val most, .val (.int places), .val (.int turn), .own (.lst (L'.map encL)) true, .val (.int a), z6] ∧ Pool l' ∧ nioK (some z6) = true ∧ L'.length ≤ (a + 1) * 100 ∧ (∀ p ∈ L', 0 ≤ p.1 ∧ p.1 < p.2 ∧ p.2 < places) ∧ L'.Pairwise lexlt ∧ ∀ p ∈ L', p.1 < (a : Int) + 1 := by
  have b1 : (a : Int) + 1 < 4611686018427387904 := by omega
  have b2 : -4611686018427387904 ≤ (a : Int) + 1 := by omega
  have b3 : places < 4611686018427387904 := by omega
  have b4 : -4611686018427387904 ≤ places := by omega
  have loop : ∃ (l' : List D) (L' : List (Int × Int)) (z6 : LV), forV (bN 6) law_ground_b1 (rangeL ((a : Int) + 1) places) [.own (.lst l) false, .val most, .val (.int places), .val (.int turn), .own (.lst (L.map encL)) true, .val (.int a), y6] =
      .next [.own (.lst l') false, .val most, .val (.int places), .val (.int turn), .own (.lst (L'.map encL)) true, .val (.int a), z6] ∧ Pool l' ∧ nioK (some z6) = true ∧ L'.length ≤ (a + 1) * 100 ∧ (∀ p ∈ L', 0 ≤ p.1 ∧ p.1 < p.2 ∧ p.2 < places) ∧ L'.Pairwise lexlt ∧ ∀ p ∈ L', p.1 < (a : Int) + 1 := by
    refine for_rule (P := fun r => ∃ (l' : List D) (L' : List (Int × Int)) (z6 : LV), r = .next [.own (.lst l') false, .val most, .val (.int places), .val (.int turn), .own (.lst (L'.map encL)) true, .val (.int a), z6] ∧ Pool l' ∧ nioK (some z6) = true ∧ L'.length ≤ (a + 1) * 100 ∧ (∀ p ∈ L', 0 ≤ p.1 ∧ p.1 < p.2 ∧ p.2 < places) ∧ L'.Pairwise lexlt ∧ ∀ p ∈ L', p.1 < (a : Int) + 1) (rangeL ((a : Int) + 1) places)
      (fun j ρ => ∃ (l' : List D) (L' : List (Int × Int)) (z6 : LV), ρ = [.own (.lst l') false, .val most, .val (.int places), .val (.int turn), .own (.lst (L'.map encL)) true, .val (.int a), z6] ∧ Pool l' ∧ nioK (some z6) = true ∧ L'.length ≤ a * 100 + j ∧ (∀ p ∈ L', 0 ≤ p.1 ∧ p.1 < p.2 ∧ p.2 < places) ∧ L'.Pairwise lexlt ∧ (∀ p ∈ L', p.1 < (a : Int) ∨ (p.1 = a ∧ p.2 < (a : Int) + 1 + j))) _
      ⟨l, L, y6, rfl, hp, h6, hL, hl, hs, fun p hm => .inl (hb p hm)⟩ ?_ ?_
    · rintro j d ρ hj ⟨l', L', z6, rfl, hp, h6, hL, hl, hs, hb⟩
      obtain ⟨rfl, hj2⟩ := rangeL_at hj
      obtain ⟨l2, L2, e, hp, hcs⟩ := ground_inner (l := l') (L := L') (most := most) (places := places) (turn := turn) (a := a) (b := (a : Int) + 1 + j) hp (by omega)
      refine ⟨[.own (.lst l') false, .val most, .val (.int places), .val (.int turn), .own (.lst (L'.map encL)) true, .val (.int a), .val (.int ((a : Int) + 1 + j))], by simp -implicitDefEqProofs only [evs0, evs1, evs2, evs3, evs4, evs5, evs6, evs7, evs8, evs9, evs10, List.length_cons, List.length_nil, Nat.reduceAdd, Nat.reduceSub, ↓reduceIte, Nat.reduceLeDiff, Int.reduceEq, Int.reduceLT, Int.reduceLE, Option.isSome_some, Option.isSome_none, Option.getD_some, Option.getD_none, h6], ?_⟩
      rw [e]
      refine ⟨l2, L2, _, rfl, hp, rfl, ?_⟩
      rcases hcs with rfl | rfl
      · exact ⟨by omega, hl, hs, fun p hm => (hb p hm).imp id fun ⟨h1, h2⟩ => ⟨h1, by omega⟩⟩
      · refine ⟨by rw [List.length_append, List.length_singleton]; omega, fun p hm => ?_, ?_, fun p hm => ?_⟩
        · rcases List.mem_append.mp hm with h | h
          · exact hl p h
          · rw [List.mem_singleton.mp h]; exact ⟨by show (0 : Int) ≤ a; omega, by show (a : Int) < a + 1 + j; omega, by show (a : Int) + 1 + j < places; omega⟩
        · refine List.pairwise_append.mpr ⟨hs, List.pairwise_singleton _ _, fun p hm r hr => ?_⟩
          rw [List.mem_singleton.mp hr]
          exact hb p hm
        · rcases List.mem_append.mp hm with h | h
          · exact (hb p h).imp id fun ⟨h1, h2⟩ => ⟨h1, by omega⟩
          · rw [List.mem_singleton.mp h]; exact .inr ⟨rfl, by show (a : Int) + 1 + j < a + 1 + (j + 1 : Nat); omega⟩
    · rintro ρ ⟨l', L', z6, rfl, hp, h6, hL, hl, hs, hb⟩
      rw [rangeL_len] at hL hb
      refine ⟨l', L', z6, rfl, hp, h6, by omega, hl, hs, fun p hm => ?_⟩
      rcases hb p hm with h | h
      · omega
      · omega
  obtain ⟨l', L', z6, e, h⟩ := loop
  refine ⟨l', L', z6, ?_, h⟩
  unfold law_ground_b2
  simp -implicitDefEqProofs only [evs0, evs1, evs2, evs3, evs4, evs5, evs6, evs7, evs8, evs9, evs10, List.length_cons, List.length_nil, Nat.reduceAdd, Nat.reduceSub, ↓reduceIte, Nat.reduceLeDiff, Int.reduceEq, Int.reduceLT, Int.reduceLE, Option.isSome_some, Option.isSome_none, Option.getD_some, Option.getD_none, ev_rng2 b3 b4 b1 b2, e]
theorem ground_ok {l : List D} {most : Int} (hp : Pool l) (h0 : 0 < most) (h1 : most ≤ 100) : ∃ n L l', f_law_ground [.own (.lst l) false, .val (.int most)] = .ok (encG n L) [.lst l'] ∧ Pool l' ∧ GOk n L ∧ n ≤ most := by
  obtain ⟨r, l1, e1, r0, r1, hp⟩ := draw_ok hp (m := most) h0 (by omega)
  obtain ⟨turn, l2, e2, _, _, hp⟩ := draw_ok hp (m := 4) (by omega) (by omega)
  have loop : ∃ (l' : List D) (L : List (Int × Int)) (y5 y6 : LV), forV (bN 5) law_ground_b2 (rangeL 0 (1 + r)) [.own (.lst l2) false, .val (.int most), .val (.int (1 + r)), .val (.int turn), .own (.lst []) true, .un, .un] =
      .next [.own (.lst l') false, .val (.int most), .val (.int (1 + r)), .val (.int turn), .own (.lst (L.map encL)) true, y5, y6] ∧ Pool l' ∧ GOk (1 + r) L := by
    refine for_rule (P := fun q => ∃ (l' : List D) (L : List (Int × Int)) (y5 y6 : LV), q = .next [.own (.lst l') false, .val (.int most), .val (.int (1 + r)), .val (.int turn), .own (.lst (L.map encL)) true, y5, y6] ∧ Pool l' ∧ GOk (1 + r) L) (rangeL 0 (1 + r))
      (fun i ρ => ∃ (l' : List D) (L : List (Int × Int)) (y5 y6 : LV), ρ = [.own (.lst l') false, .val (.int most), .val (.int (1 + r)), .val (.int turn), .own (.lst (L.map encL)) true, y5, y6] ∧ Pool l' ∧ nioK (some y5) = true ∧ nioK (some y6) = true ∧ L.length ≤ i * 100 ∧ (∀ p ∈ L, 0 ≤ p.1 ∧ p.1 < p.2 ∧ p.2 < 1 + r) ∧ L.Pairwise lexlt ∧ (∀ p ∈ L, p.1 < (i : Int))) _
      ⟨l2, [], .un, .un, rfl, hp, rfl, rfl, by simp, (fun p h => by cases h), .nil, fun p h => by cases h⟩ ?_ ?_
    · rintro i d ρ hi ⟨l', L, y5, y6, rfl, hp, h5, h6, hL, hl, hs, hb⟩
      obtain ⟨rfl, hi2⟩ := rangeL_at hi
      obtain ⟨l3, L3, z6, e, hp, h6', hL, hl, hs, hb⟩ := ground_row (l := l') (L := L) (most := .int most) (places := 1 + r) (turn := turn) (a := i) (y6 := y6) hp h6 (by omega) (by omega) hL hl hs hb
      refine ⟨[.own (.lst l') false, .val (.int most), .val (.int (1 + r)), .val (.int turn), .own (.lst (L.map encL)) true, .val (.int i), y6], by simp -implicitDefEqProofs only [evs0, evs1, evs2, evs3, evs4, evs5, evs6, evs7, evs8, evs9, evs10, List.length_cons, List.length_nil, Nat.reduceAdd, Nat.reduceSub, ↓reduceIte, Nat.reduceLeDiff, Int.reduceEq, Int.reduceLT, Int.reduceLE, Option.isSome_some, Option.isSome_none, Option.getD_some, Option.getD_none, h5, Int.zero_add], ?_⟩
      rw [e]
      exact ⟨l3, L3, _, z6, rfl, hp, rfl, h6', hL, hl, hs, fun p hm => by have := hb p hm; omega⟩
    · rintro ρ ⟨l', L, y5, y6, rfl, hp, _, _, hL, hl, hs, _⟩
      rw [rangeL_len] at hL
      exact ⟨l', L, y5, y6, rfl, hp, by omega, hl, hs, by omega⟩
  obtain ⟨l', L, y5, y6, e, hp, hg⟩ := loop
  refine ⟨1 + r, L, l', ?_, hp, hg, by omega⟩
  have b1 : 1 + r < 4611686018427387904 := by omega
  have b2 : -4611686018427387904 ≤ 1 + r := by omega
  unfold f_law_ground b_law_ground
  simp -implicitDefEqProofs only [evs0, evs1, evs2, evs3, evs4, evs5, evs6, evs7, evs8, evs9, evs10, List.length_cons, List.length_nil, Nat.reduceAdd, Nat.reduceSub, ↓reduceIte, Nat.reduceLeDiff, Int.reduceEq, Int.reduceLT, Int.reduceLE, Option.isSome_some, Option.isSome_none, Option.getD_some, Option.getD_none, e1, e2, ev_rng1 b1 b2, e, encG]
/-! ### who is beside -/
def irange (n : Int) : List Int := (List.range n.toNat).map fun (i : Nat) => (i : Int)
theorem rangeL_irange (n : Int) : rangeL 0 n = (irange n).map PyData.int := by
  unfold rangeL irange
  rw [List.map_map, show n - 0 = n by omega]
  apply List.map_congr_left
  intro i _
  simp
theorem mem_irange {n k : Int} : k ∈ irange n ↔ 0 ≤ k ∧ k < n := by
  unfold irange
  rw [List.mem_map]
  constructor
  · rintro ⟨i, hi, rfl⟩
    have := List.mem_range.mp hi
    omega
  · rintro ⟨h1, h2⟩
    exact ⟨k.toNat, List.mem_range.mpr (by omega), by omega⟩
theorem irange_len (n : Int) : (irange n).length = n.toNat := by unfold irange; simp
theorem irange_sorted (n : Int) : (irange n).Pairwise (· < ·) := by
  unfold irange
  rw [List.pairwise_map]
  exact List.pairwise_lt_range.imp fun h => by omega
def laneB (L : List (Int × Int)) (p q : Int) : Bool := decide ((min p q, max p q) ∈ L)
def nb (L : List (Int × Int)) (n p : Int) : List Int := (irange n).filter fun q => laneB L p q
theorem nb_sorted {L : List (Int × Int)} {n p : Int} : (nb L n p).Pairwise (· < ·) := (irange_sorted n).filter _
theorem mem_nb {L : List (Int × Int)} {n p q : Int} : q ∈ nb L n p ↔ (0 ≤ q ∧ q < n) ∧ (min p q, max p q) ∈ L := by
  unfold nb laneB
  rw [List.mem_filter, mem_irange, decide_eq_true_eq]
theorem strict_ext : ∀ {l m : List Int}, l.Pairwise (· < ·) → m.Pairwise (· < ·) → (∀ x, x ∈ l ↔ x ∈ m) → l = m
  | [], [], _, _, _ => rfl
  | [], b :: m, _, _, h => by have := (h b).mpr (List.mem_cons_self ..); cases this
  | a :: l, [], _, _, h => by have := (h a).mp (List.mem_cons_self ..); cases this
  | a :: l, b :: m, h1, h2, h => by
    obtain ⟨a1, a2⟩ := List.pairwise_cons.mp h1
    obtain ⟨b1, b2⟩ := List.pairwise_cons.mp h2
    have e : a = b := by
      rcases List.mem_cons.mp ((h a).mp (List.mem_cons_self ..)) with z | z
      · exact z
      · rcases List.mem_cons.mp ((h b).mpr (List.mem_cons_self ..)) with y | y
        · exact y.symm
        · have := b1 a z; have := a1 b y; omega
    subst e
    congr 1
    refine strict_ext a2 b2 fun x => ?_
    constructor
    · intro hx
      rcases List.mem_cons.mp ((h x).mp (List.mem_cons_of_mem _ hx)) with z | z
      · have := a1 x hx; omega
      · exact z
    · intro hx
      rcases List.mem_cons.mp ((h x).mpr (List.mem_cons_of_mem _ hx)) with z | z
      · have := b1 x hx; omega
      · exact z
/-- a sorted row without doubles is the strict row of its items -/
theorem srt_strict {l m : List Int} (hn : l.Nodup) (hm : m.Pairwise (· < ·)) (h : ∀ x, x ∈ l ↔ x ∈ m) : srt l = m := by
  have hp := srt_perm l
  have hnd : (srt l).Nodup := hp.nodup_iff.mpr hn
  have hs : (srt l).Pairwise (· < ·) := by
    have h1 := srt_sorted l
    have h2 : (srt l).Pairwise (· ≠ ·) := hnd
    exact (h1.and h2).imp fun ⟨x, y⟩ => by omega
  exact strict_ext hs hm fun x => (hp.mem_iff).trans (h x)
theorem irange_filter {n : Int} {p : Int → Bool} {q : D → Bool} (h : ∀ k, q (.int k) = p k) : (rangeL 0 n).filter q = ((irange n).filter p).map PyData.int := by
  rw [rangeL_irange, List.filter_map]
  congr 1
  apply List.filter_congr
  intro x _
  exact h x
theorem lt_min_max {p q : Int} : (if q < p then q else p) = min p q ∧ (if q > p then q else p) = max p q := by
  constructor
  · split <;> omega
  · split <;> omega
theorem law_beside_ok {n p : Int} {L : List (Int × Int)} (h1 : n ≤ 1000000) (h0 : 0 ≤ n) : f_law_beside [.val (encG n L), .val (.int p)] = .ok (.list ((nb L n p).map PyData.int)) [] := by
  have b1 : n < 4611686018427387904 := by omega
  have b2 : -4611686018427387904 ≤ n := by omega
  have c : compL (bN 2) law_beside_t1 law_beside_e1 [2] (rangeL 0 n) [] [.val (encG n L), .val (.int p), .un] = .ok ((nb L n p).map PyData.int) [.val (encG n L), .val (.int p), .un] := by
    have q := comp_pure (bd := bN 2) (ifs := law_beside_t1) (elt := law_beside_e1) (vs := [2]) (p := fun d => match d with | .int k => laneB L p k | _ => false) (f := id) (rangeL 0 n) [] [.val (encG n L), .val (.int p), .un] (by rw [rangeL_len]; simp; omega) fun x hx => by
      obtain ⟨k, rfl, _, _⟩ := mem_rangeL.mp hx
      refine ⟨[.val (encG n L), .val (.int p), .val (.int k)], [.val (encG n L), .val (.int p), .val (.int k)], by simp -implicitDefEqProofs only [evs0, evs1, evs2, evs3, evs4, evs5, evs6, evs7, evs8, evs9, evs10, List.length_cons, List.length_nil, Nat.reduceAdd, Nat.reduceSub, ↓reduceIte, Nat.reduceLeDiff, Int.reduceEq, Int.reduceLT, Int.reduceLE, Option.isSome_some, Option.isSome_none, Option.getD_some, Option.getD_none], ?_, fun _ => by simp -implicitDefEqProofs only [evs0, evs1, evs2, evs3, evs4, evs5, evs6, evs7, evs8, evs9, evs10, List.length_cons, List.length_nil, Nat.reduceAdd, Nat.reduceSub, ↓reduceIte, Nat.reduceLeDiff, Int.reduceEq, Int.reduceLT, Int.reduceLE, Option.isSome_some, Option.isSome_none, Option.getD_some, Option.getD_none], fun _ => ⟨[.val (encG n L), .val (.int p), .val (.int k)], ?_, by simp -implicitDefEqProofs only [evs0, evs1, evs2, evs3, evs4, evs5, evs6, evs7, evs8, evs9, evs10, List.length_cons, List.length_nil, Nat.reduceAdd, Nat.reduceSub, ↓reduceIte, Nat.reduceLeDiff, Int.reduceEq, Int.reduceLT, Int.reduceLE, Option.isSome_some, Option.isSome_none, Option.getD_some, Option.getD_none]⟩⟩
      · unfold law_beside_t1
        simp -implicitDefEqProofs only [evs0, evs1, evs2, evs3, evs4, evs5, evs6, evs7, evs8, evs9, evs10, List.length_cons, List.length_nil, Nat.reduceAdd, Nat.reduceSub, ↓reduceIte, Nat.reduceLeDiff, Int.reduceEq, Int.reduceLT, Int.reduceLE, Option.isSome_some, Option.isSome_none, Option.getD_some, Option.getD_none, encG, in_lanes, lt_min_max.1, lt_min_max.2, laneB]
      · unfold law_beside_e1
        simp -implicitDefEqProofs only [evs0, evs1, evs2, evs3, evs4, evs5, evs6, evs7, evs8, evs9, evs10, List.length_cons, List.length_nil, Nat.reduceAdd, Nat.reduceSub, ↓reduceIte, Nat.reduceLeDiff, Int.reduceEq, Int.reduceLT, Int.reduceLE, Option.isSome_some, Option.isSome_none, Option.getD_some, Option.getD_none, id]
    rw [q, List.nil_append, List.map_id, irange_filter (p := fun k => laneB L p k) (fun k => rfl)]
    rfl
  unfold f_law_beside b_law_beside law_beside_c1
  have e1 : ixB (encG n L) (.int 0) = some (.int n) := rfl
  simp -implicitDefEqProofs only [evs0, evs1, evs2, evs3, evs4, evs5, evs6, evs7, evs8, evs9, evs10, List.length_cons, List.length_nil, Nat.reduceAdd, Nat.reduceSub, ↓reduceIte, Nat.reduceLeDiff, Int.reduceEq, Int.reduceLT, Int.reduceLE, Option.isSome_some, Option.isSome_none, Option.getD_some, Option.getD_none, e1, ev_rng1 b1 b2, c]
def besF (p : Int) (e : Int × Int) : Int := e.1 + e.2 - p
def besP (p : Int) (e : Int × Int) : Bool := decide (p ∈ [e.1, e.2])
theorem bes_filter (p : Int) : ∀ L : List (Int × Int), ((L.map encL).filter fun d => match d with | .tuple [.int a, .int b] => besP p (a, b) | _ => false).map (fun d => match d with | .tuple [.int a, .int b] => PyData.int (besF p (a, b)) | _ => .none) = ((L.filter (besP p)).map (besF p)).map PyData.int
  | [] => rfl
  | e :: L => by
    rw [List.map_cons]
    by_cases h : besP p e = true
    · rw [List.filter_cons_of_pos (by exact h), List.filter_cons_of_pos h, List.map_cons, List.map_cons, List.map_cons, bes_filter p L]
      rfl
    · rw [List.filter_cons_of_neg (by exact h), List.filter_cons_of_neg h, bes_filter p L]
theorem bes_mem {L : List (Int × Int)} {n p : Int} (hg : GOk n L) (x : Int) : x ∈ (L.filter (besP p)).map (besF p) ↔ x ∈ nb L n p := by
  rw [mem_nb, List.mem_map]
  constructor
  · rintro ⟨⟨a, b⟩, he, rfl⟩
    obtain ⟨hm, hp⟩ := List.mem_filter.mp he
    obtain ⟨h0, h1, h2⟩ := hg.lane _ hm
    simp only [besP, decide_eq_true_eq, List.mem_cons, List.not_mem_nil, or_false] at hp
    simp only at h0 h1 h2
    rcases hp with rfl | rfl
    · have e : besF p (p, b) = b := by simp only [besF]; omega
      rw [e]
      exact ⟨⟨by omega, h2⟩, by rw [Int.min_eq_left (by omega), Int.max_eq_right (by omega)]; exact hm⟩
    · have e : besF p (a, p) = a := by simp only [besF]; omega
      rw [e]
      exact ⟨⟨h0, by omega⟩, by rw [Int.min_eq_right (by omega), Int.max_eq_left (by omega)]; exact hm⟩
  · rintro ⟨_, hm⟩
    refine ⟨(min p x, max p x), List.mem_filter.mpr ⟨hm, ?_⟩, ?_⟩
    · simp only [besP, decide_eq_true_eq, List.mem_cons, List.not_mem_nil, or_false]
      omega
    · simp only [besF]; omega
theorem bes_nodup {L : List (Int × Int)} {n p : Int} (hg : GOk n L) : ((L.filter (besP p)).map (besF p)).Nodup := by
  have hs : (L.filter (besP p)).Pairwise lexlt := hg.sorted.filter _
  refine List.pairwise_map.mpr (List.Pairwise.imp_of_mem (fun {e r} he hr hlt => ?_) hs)
  obtain ⟨h1, q1⟩ := List.mem_filter.mp he
  obtain ⟨h2, q2⟩ := List.mem_filter.mp hr
  obtain ⟨a0, a1, a2⟩ := hg.lane _ h1
  obtain ⟨c0, c1, c2⟩ := hg.lane _ h2
  simp only [besP, decide_eq_true_eq, List.mem_cons, List.not_mem_nil, or_false] at q1 q2
  simp only [besF]
  rcases hlt with h | ⟨h, h'⟩ <;> omega
theorem beside_ok {n p : Int} {L : List (Int × Int)} (hg : GOk n L) : f_beside [.val (encG n L), .val (.int p)] = .ok (.list ((nb L n p).map PyData.int)) [] := by
  have c : compL (bT [2, 3]) beside_t1 beside_e1 [2, 3] (L.map encL) [] [.val (encG n L), .val (.int p), .un, .un] = .ok (((L.filter (besP p)).map (besF p)).map PyData.int) [.val (encG n L), .val (.int p), .un, .un] := by
    have q := comp_pure (bd := bT [2, 3]) (ifs := beside_t1) (elt := beside_e1) (vs := [2, 3]) (p := fun d => match d with | .tuple [.int a, .int b] => besP p (a, b) | _ => false) (f := fun d => match d with | .tuple [.int a, .int b] => PyData.int (besF p (a, b)) | _ => .none) (L.map encL) [] [.val (encG n L), .val (.int p), .un, .un] (by rw [List.length_map]; have := hg.small; simp; omega) fun x hx => by
      obtain ⟨⟨a, b⟩, _, rfl⟩ := List.mem_map.mp hx
      have hin : toB inB (.int p) (.tuple [.int a, .int b]) = some (.bool (besP p (a, b))) := in_intsT [a, b] p
      refine ⟨[.val (encG n L), .val (.int p), .val (.int a), .val (.int b)], [.val (encG n L), .val (.int p), .val (.int a), .val (.int b)], by simp -implicitDefEqProofs only [evs0, evs1, evs2, evs3, evs4, evs5, evs6, evs7, evs8, evs9, evs10, List.length_cons, List.length_nil, Nat.reduceAdd, Nat.reduceSub, ↓reduceIte, Nat.reduceLeDiff, Int.reduceEq, Int.reduceLT, Int.reduceLE, Option.isSome_some, Option.isSome_none, Option.getD_some, Option.getD_none, encL], ?_, fun _ => by simp -implicitDefEqProofs only [evs0, evs1, evs2, evs3, evs4, evs5, evs6, evs7, evs8, evs9, evs10, List.length_cons, List.length_nil, Nat.reduceAdd, Nat.reduceSub, ↓reduceIte, Nat.reduceLeDiff, Int.reduceEq, Int.reduceLT, Int.reduceLE, Option.isSome_some, Option.isSome_none, Option.getD_some, Option.getD_none], fun _ => ⟨[.val (encG n L), .val (.int p), .val (.int a), .val (.int b)], ?_, by simp -implicitDefEqProofs only [evs0, evs1, evs2, evs3, evs4, evs5, evs6, evs7, evs8, evs9, evs10, List.length_cons, List.length_nil, Nat.reduceAdd, Nat.reduceSub, ↓reduceIte, Nat.reduceLeDiff, Int.reduceEq, Int.reduceLT, Int.reduceLE, Option.isSome_some, Option.isSome_none, Option.getD_some, Option.getD_none]⟩⟩
      · unfold beside_t1
        simp -implicitDefEqProofs only [evs0, evs1, evs2, evs3, evs4, evs5, evs6, evs7, evs8, evs9, evs10, List.length_cons, List.length_nil, Nat.reduceAdd, Nat.reduceSub, ↓reduceIte, Nat.reduceLeDiff, Int.reduceEq, Int.reduceLT, Int.reduceLE, Option.isSome_some, Option.isSome_none, Option.getD_some, Option.getD_none, hin, encL]
      · unfold beside_e1
        simp -implicitDefEqProofs only [evs0, evs1, evs2, evs3, evs4, evs5, evs6, evs7, evs8, evs9, evs10, List.length_cons, List.length_nil, Nat.reduceAdd, Nat.reduceSub, ↓reduceIte, Nat.reduceLeDiff, Int.reduceEq, Int.reduceLT, Int.reduceLE, Option.isSome_some, Option.isSome_none, Option.getD_some, Option.getD_none, encL, besF]
    rw [q, List.nil_append, bes_filter]
  have hsz : ((L.filter (besP p)).map (besF p)).length ≤ 16777216 := by
    rw [List.length_map]
    have := List.length_filter_le (besP p) L
    have := hg.small
    omega
  have hsort := sort_ints hsz
  rw [srt_strict (bes_nodup hg) (nb_sorted (L := L) (n := n) (p := p)) (bes_mem hg)] at hsort
  have e1 : ixB (encG n L) (.int 1) = some (.tuple (L.map encL)) := rfl
  unfold f_beside b_beside beside_c1
  simp -implicitDefEqProofs only [evs0, evs1, evs2, evs3, evs4, evs5, evs6, evs7, evs8, evs9, evs10, List.length_cons, List.length_nil, Nat.reduceAdd, Nat.reduceSub, ↓reduceIte, Nat.reduceLeDiff, Int.reduceEq, Int.reduceLT, Int.reduceLE, Option.isSome_some, Option.isSome_none, Option.getD_some, Option.getD_none, e1, c, hsort]
end Ft
/-! Walks: how many walks there are. -/
namespace Ft
open PySem L2
/-- a comprehension without a test that leaves the state as it was -/
theorem comp_map {bd : Bd} {elt : Dn} {vs : List Nat} (src : List D) (st : Rho) (ρ1 : D → Rho) (g : D → D) (hz : src.length ≤ 16777216) (hb : ∀ d ∈ src, bd d st = some (ρ1 d)) (he : ∀ d ∈ src, elt (ρ1 d) = .ok (g d) (ρ1 d)) (hw : ∀ d, wipeR (ρ1 d) vs = st) :
    compL bd tnYes elt vs src [] st = .ok (src.map g) st := by
  have q := comp_pure (bd := bd) (ifs := tnYes) (elt := elt) (vs := vs) (p := fun _ => true) (f := g) src [] st (by simpa using hz) fun d hd => ⟨ρ1 d, ρ1 d, hb d hd, rfl, (fun h => by cases h), fun _ => ⟨ρ1 d, he d hd, hw d⟩⟩
  rw [q, List.nil_append, List.filter_eq_self.mpr (fun _ _ => rfl)]
/-- over 0 .. n - 1 -/
theorem comp_upto {bd : Bd} {elt : Dn} {vs : List Nat} {n : Int} (st : Rho) (ρ1 : Int → Rho) (g : Int → D) (hn : n ≤ 1000000) (hb : ∀ k : Int, 0 ≤ k → k < n → bd (.int k) st = some (ρ1 k)) (he : ∀ k : Int, 0 ≤ k → k < n → elt (ρ1 k) = .ok (g k) (ρ1 k)) (hw : ∀ k, wipeR (ρ1 k) vs = st) :
    compL bd tnYes elt vs (rangeL 0 n) [] st = .ok ((irange n).map g) st := by
  have q := comp_map (bd := bd) (elt := elt) (vs := vs) (rangeL 0 n) st (fun d => match d with | .int k => ρ1 k | _ => ρ1 0) (fun d => match d with | .int k => g k | _ => .none) (by rw [rangeL_len]; omega)
    (fun d hd => by obtain ⟨k, rfl, h1, h2⟩ := mem_rangeL.mp hd; exact hb k h1 h2) (fun d hd => by obtain ⟨k, rfl, h1, h2⟩ := mem_rangeL.mp hd; exact he k h1 h2) (fun d => by split <;> exact hw _)
  rw [q, rangeL_irange, List.map_map]
  rfl
theorem sum_ints (l : List Int) : sumB [.list (l.map PyData.int)] = some (.int l.sum) := by
  show (intsOf (l.map PyData.int)).map _ = _
  rw [intsOf_of]; rfl
theorem int_bool (b : Bool) : intB [.bool b] = some (.int (if b then 1 else 0)) := rfl
theorem addB_list {l m : List D} (h : l.length + m.length ≤ 16000000) : addB (.list l) (.list m) = some (.list (l ++ m)) := if_pos (Nat.le_trans h (by decide))
theorem addB_tuple {l m : List D} (h : l.length + m.length ≤ 16000000) : addB (.tuple l) (.tuple m) = some (.tuple (l ++ m)) := if_pos (Nat.le_trans h (by decide))
def getI (w : List Int) (q : Int) : Int := w.getD q.toNat 0
theorem atI_getI {w : List Int} {q : Int} (h0 : 0 ≤ q) (h1 : q < (w.length : Int)) : atI (w.map PyData.int) q = some (.int (getI w q)) := by
  have hl : q.toNat < w.length := by omega
  refine atI_get h0 ?_
  rw [List.getElem?_map, List.getElem?_eq_getElem hl]
  simp [getI, hl]
theorem getI_map {n q : Int} {g : Int → Int} (h0 : 0 ≤ q) (h1 : q < n) : getI ((irange n).map g) q = g q := by
  unfold getI irange
  have hl : q.toNat < n.toNat := by omega
  rw [List.getD_eq_getElem?_getD, List.map_map, List.getElem?_map, List.getElem?_range hl]
  simp only [Option.map_some, Option.getD_some, Function.comp]
  congr 1
  omega
theorem nb_len {L : List (Int × Int)} {n p : Int} : (nb L n p).length ≤ n.toNat := by
  unfold nb
  exact Nat.le_trans (List.length_filter_le _ _) (Nat.le_of_eq (irange_len n))
def wst (S : List Int) (n : Int) : List Int := (irange n).map fun p => if p ∈ S then 1 else 0
def wnext (L : List (Int × Int)) (n : Int) (w : List Int) : List Int := (irange n).map fun p => ((p :: nb L n p).map (getI w)).sum
def wk (L : List (Int × Int)) (n : Int) (S : List Int) : Nat → List Int
  | 0 => wst S n
  | t + 1 => wnext L n (wk L n S t)
theorem wk_len {L : List (Int × Int)} {n : Int} {S : List Int} : ∀ t, (wk L n S t).length = n.toNat
  | 0 => by unfold wk wst; rw [List.length_map, irange_len]
  | t + 1 => by unfold wk wnext; rw [List.length_map, irange_len]
theorem walks_row {n p : Int} {L : List (Int × Int)} {w : List Int} {x1 x2 x5 : D} (hg : GOk n L) (hn : n ≤ 1000) (hw : w.length = n.toNat) (h0 : 0 ≤ p) (h1 : p < n) :
    walks_c2 [.val (encG n L), .val x1, .val x2, .val (.list (w.map PyData.int)), .val (.int p), .val x5, .un] = .ok (.lst (((p :: nb L n p).map (getI w)).map PyData.int)) [.val (encG n L), .val x1, .val x2, .val (.list (w.map PyData.int)), .val (.int p), .val x5, .un] := by
  have hnl := nb_len (L := L) (n := n) (p := p)
  have c := comp_map (bd := bN 6) (elt := walks_e2) (vs := [6]) (((p :: nb L n p)).map PyData.int) [.val (encG n L), .val x1, .val x2, .val (.list (w.map PyData.int)), .val (.int p), .val x5, .un]
    (fun d => [.val (encG n L), .val x1, .val x2, .val (.list (w.map PyData.int)), .val (.int p), .val x5, .val d]) (fun d => match d with | .int q => .int (getI w q) | _ => .none) (by rw [List.length_map, List.length_cons]; omega)
    (fun d _ => by simp -implicitDefEqProofs only [evs0, evs1, evs2, evs3, evs4, evs5, evs6, evs7, evs8, evs9, evs10, List.length_cons, List.length_nil, Nat.reduceAdd, Nat.reduceSub, ↓reduceIte, Nat.reduceLeDiff, Int.reduceEq, Int.reduceLT, Int.reduceLE, Option.isSome_some, Option.isSome_none, Option.getD_some, Option.getD_none]) (fun d hd => by
      obtain ⟨q, hq, rfl⟩ := List.mem_map.mp hd
      have hb : 0 ≤ q ∧ q < n := by
        rcases List.mem_cons.mp hq with rfl | hq
        · exact ⟨h0, h1⟩
        · exact (mem_nb.mp hq).1
      have e := atI_getI (w := w) (q := q) hb.1 (by rw [hw]; omega)
      unfold walks_e2
      simp -implicitDefEqProofs only [evs0, evs1, evs2, evs3, evs4, evs5, evs6, evs7, evs8, evs9, evs10, List.length_cons, List.length_nil, Nat.reduceAdd, Nat.reduceSub, ↓reduceIte, Nat.reduceLeDiff, Int.reduceEq, Int.reduceLT, Int.reduceLE, Option.isSome_some, Option.isSome_none, Option.getD_some, Option.getD_none, e]) (fun d => by simp -implicitDefEqProofs only [evs0, evs1, evs2, evs3, evs4, evs5, evs6, evs7, evs8, evs9, evs10, List.length_cons, List.length_nil, Nat.reduceAdd, Nat.reduceSub, ↓reduceIte, Nat.reduceLeDiff, Int.reduceEq, Int.reduceLT, Int.reduceLE, Option.isSome_some, Option.isSome_none, Option.getD_some, Option.getD_none])
  rw [List.map_map] at c
  have hb := beside_ok (p := p) hg
  have ha : addB (.list [.int p]) (.list ((nb L n p).map PyData.int)) = some (.list ((p :: nb L n p).map PyData.int)) := addB_list (by rw [List.length_map, List.length_singleton]; omega)
  unfold walks_c2
  simp -implicitDefEqProofs only [evs0, evs1, evs2, evs3, evs4, evs5, evs6, evs7, evs8, evs9, evs10, List.length_cons, List.length_nil, Nat.reduceAdd, Nat.reduceSub, ↓reduceIte, Nat.reduceLeDiff, Int.reduceEq, Int.reduceLT, Int.reduceLE, Option.isSome_some, Option.isSome_none, Option.getD_some, Option.getD_none, hb, ha, c, List.map_map]
  rfl
theorem walks_step {n : Int} {L : List (Int × Int)} {w : List Int} {x1 x2 x5 : D} (hg : GOk n L) (hn : n ≤ 1000) (hw : w.length = n.toNat) :
    walks_b1 [.val (encG n L), .val x1, .val x2, .val (.list (w.map PyData.int)), .un, .val x5, .un] = .next [.val (encG n L), .val x1, .val x2, .val (.list ((wnext L n w).map PyData.int)), .un, .val x5, .un] := by
  have c := comp_upto (bd := bN 4) (elt := walks_e3) (vs := [4]) (n := n) [.val (encG n L), .val x1, .val x2, .val (.list (w.map PyData.int)), .un, .val x5, .un] (fun p => [.val (encG n L), .val x1, .val x2, .val (.list (w.map PyData.int)), .val (.int p), .val x5, .un])
    (fun p => .int ((p :: nb L n p).map (getI w)).sum) (by omega) (fun k _ _ => by simp -implicitDefEqProofs only [evs0, evs1, evs2, evs3, evs4, evs5, evs6, evs7, evs8, evs9, evs10, List.length_cons, List.length_nil, Nat.reduceAdd, Nat.reduceSub, ↓reduceIte, Nat.reduceLeDiff, Int.reduceEq, Int.reduceLT, Int.reduceLE, Option.isSome_some, Option.isSome_none, Option.getD_some, Option.getD_none]) (fun k h0 h1 => by
      have e := walks_row (x1 := x1) (x2 := x2) (x5 := x5) hg hn hw h0 h1
      unfold walks_e3
      simp -implicitDefEqProofs only [evs0, evs1, evs2, evs3, evs4, evs5, evs6, evs7, evs8, evs9, evs10, List.length_cons, List.length_nil, Nat.reduceAdd, Nat.reduceSub, ↓reduceIte, Nat.reduceLeDiff, Int.reduceEq, Int.reduceLT, Int.reduceLE, Option.isSome_some, Option.isSome_none, Option.getD_some, Option.getD_none, e, sum_ints]) (fun k => by simp -implicitDefEqProofs only [evs0, evs1, evs2, evs3, evs4, evs5, evs6, evs7, evs8, evs9, evs10, List.length_cons, List.length_nil, Nat.reduceAdd, Nat.reduceSub, ↓reduceIte, Nat.reduceLeDiff, Int.reduceEq, Int.reduceLT, Int.reduceLE, Option.isSome_some, Option.isSome_none, Option.getD_some, Option.getD_none])
  have e0 : ixB (encG n L) (.int 0) = some (.int n) := rfl
  have b1 : n < 4611686018427387904 := by omega
  have b2 : -4611686018427387904 ≤ n := by have := hg.pos; omega
  unfold walks_b1 walks_c3
  simp -implicitDefEqProofs only [evs0, evs1, evs2, evs3, evs4, evs5, evs6, evs7, evs8, evs9, evs10, List.length_cons, List.length_nil, Nat.reduceAdd, Nat.reduceSub, ↓reduceIte, Nat.reduceLeDiff, Int.reduceEq, Int.reduceLT, Int.reduceLE, Option.isSome_some, Option.isSome_none, Option.getD_some, Option.getD_none, e0, ev_rng1 b1 b2, c]
  unfold wnext
  rw [List.map_map]
  rfl
theorem walks_ok {n : Int} {L : List (Int × Int)} {S : List Int} {h : Nat} (hg : GOk n L) (hn : n ≤ 1000) (hh : 1 ≤ h) (hh2 : h ≤ 1000) : f_walks [.val (encG n L), .val (.tuple (S.map PyData.int)), .val (.int h)] = .ok (.int (wk L n S (h - 1)).sum) [] := by
  have e0 : ixB (encG n L) (.int 0) = some (.int n) := rfl
  have b1 : n < 4611686018427387904 := by omega
  have b2 : -4611686018427387904 ≤ n := by have := hg.pos; omega
  have c := comp_upto (bd := bN 4) (elt := walks_e1) (vs := [4]) (n := n) [.val (encG n L), .val (.tuple (S.map PyData.int)), .val (.int h), .un, .un, .un, .un] (fun p => [.val (encG n L), .val (.tuple (S.map PyData.int)), .val (.int h), .un, .val (.int p), .un, .un])
    (fun p => .int (if p ∈ S then 1 else 0)) (by omega) (fun k _ _ => by simp -implicitDefEqProofs only [evs0, evs1, evs2, evs3, evs4, evs5, evs6, evs7, evs8, evs9, evs10, List.length_cons, List.length_nil, Nat.reduceAdd, Nat.reduceSub, ↓reduceIte, Nat.reduceLeDiff, Int.reduceEq, Int.reduceLT, Int.reduceLE, Option.isSome_some, Option.isSome_none, Option.getD_some, Option.getD_none]) (fun k h0 h1 => by
      unfold walks_e1
      simp -implicitDefEqProofs only [evs0, evs1, evs2, evs3, evs4, evs5, evs6, evs7, evs8, evs9, evs10, List.length_cons, List.length_nil, Nat.reduceAdd, Nat.reduceSub, ↓reduceIte, Nat.reduceLeDiff, Int.reduceEq, Int.reduceLT, Int.reduceLE, Option.isSome_some, Option.isSome_none, Option.getD_some, Option.getD_none, in_intsT, int_bool, decide_eq_true_eq]) (fun k => by simp -implicitDefEqProofs only [evs0, evs1, evs2, evs3, evs4, evs5, evs6, evs7, evs8, evs9, evs10, List.length_cons, List.length_nil, Nat.reduceAdd, Nat.reduceSub, ↓reduceIte, Nat.reduceLeDiff, Int.reduceEq, Int.reduceLT, Int.reduceLE, Option.isSome_some, Option.isSome_none, Option.getD_some, Option.getD_none])
  have c' : compL (bN 4) tnYes walks_e1 [4] (rangeL 0 n) [] [.val (encG n L), .val (.tuple (S.map PyData.int)), .val (.int h), .un, .un, .un, .un] = .ok ((wk L n S 0).map PyData.int) [.val (encG n L), .val (.tuple (S.map PyData.int)), .val (.int h), .un, .un, .un, .un] := by
    rw [c]; unfold wk wst; rw [List.map_map]; rfl
  have loop : ∃ y5, forV (bN 5) walks_b1 (rangeL 0 ((h : Int) - 1)) [.val (encG n L), .val (.tuple (S.map PyData.int)), .val (.int h), .val (.list ((wk L n S 0).map PyData.int)), .un, .un, .un] = .next [.val (encG n L), .val (.tuple (S.map PyData.int)), .val (.int h), .val (.list ((wk L n S (h - 1)).map PyData.int)), .un, y5, .un] := by
    refine for_rule (P := fun r => ∃ y5, r = .next [.val (encG n L), .val (.tuple (S.map PyData.int)), .val (.int h), .val (.list ((wk L n S (h - 1)).map PyData.int)), .un, y5, .un]) (rangeL 0 ((h : Int) - 1))
      (fun i ρ => ∃ y5, nioK (some y5) = true ∧ ρ = [.val (encG n L), .val (.tuple (S.map PyData.int)), .val (.int h), .val (.list ((wk L n S i).map PyData.int)), .un, y5, .un]) _ ⟨.un, rfl, rfl⟩ ?_ ?_
    · rintro i d ρ hi ⟨y5, h5, rfl⟩
      refine ⟨[.val (encG n L), .val (.tuple (S.map PyData.int)), .val (.int h), .val (.list ((wk L n S i).map PyData.int)), .un, .val d, .un], by simp -implicitDefEqProofs only [evs0, evs1, evs2, evs3, evs4, evs5, evs6, evs7, evs8, evs9, evs10, List.length_cons, List.length_nil, Nat.reduceAdd, Nat.reduceSub, ↓reduceIte, Nat.reduceLeDiff, Int.reduceEq, Int.reduceLT, Int.reduceLE, Option.isSome_some, Option.isSome_none, Option.getD_some, Option.getD_none, h5], ?_⟩
      rw [walks_step hg hn (wk_len i)]
      exact ⟨_, rfl, rfl⟩
    · rintro ρ ⟨y5, _, rfl⟩
      refine ⟨y5, ?_⟩
      rw [rangeL_len, show ((h : Int) - 1 - 0).toNat = h - 1 by omega]
  obtain ⟨y5, loop⟩ := loop
  have b3 : (h : Int) - 1 < 4611686018427387904 := by omega
  have b4 : -4611686018427387904 ≤ (h : Int) - 1 := by omega
  unfold f_walks b_walks walks_c1
  simp -implicitDefEqProofs only [evs0, evs1, evs2, evs3, evs4, evs5, evs6, evs7, evs8, evs9, evs10, List.length_cons, List.length_nil, Nat.reduceAdd, Nat.reduceSub, ↓reduceIte, Nat.reduceLeDiff, Int.reduceEq, Int.reduceLT, Int.reduceLE, Option.isSome_some, Option.isSome_none, Option.getD_some, Option.getD_none, e0, ev_rng1 b1 b2, c', ev_rng1 b3 b4, loop, sum_ints]
end Ft
/-! Forms: whole numbers, rows. -/
namespace Ft
open PySem L2
def wholeD : D → Bool
  | .int _ => true
  | _ => false
def fromD (lo hi : Int) : D → Bool
  | .int i => decide (lo ≤ i) && decide (i ≤ hi)
  | _ => false
theorem is_whole_ok (v : D) : f_is_whole [.val v] = .ok (.bool (wholeD v)) [] := by
  unfold f_is_whole b_is_whole
  cases v <;> simp -implicitDefEqProofs (decide := true) only [evs0, evs1, evs2, evs3, evs4, evs5, evs6, evs7, evs8, evs9, evs10, List.length_cons, List.length_nil, Nat.reduceAdd, Nat.reduceSub, ↓reduceIte, Nat.reduceLeDiff, Int.reduceEq, Int.reduceLT, Int.reduceLE, Option.isSome_some, Option.isSome_none, Option.getD_some, Option.getD_none, wholeD]
theorem law_is_integer_ok (v : D) : f_law_is_integer [.val v] = .ok (.bool (wholeD v)) [] := by
  unfold f_law_is_integer b_law_is_integer
  cases v <;> simp -implicitDefEqProofs (decide := true) only [evs0, evs1, evs2, evs3, evs4, evs5, evs6, evs7, evs8, evs9, evs10, List.length_cons, List.length_nil, Nat.reduceAdd, Nat.reduceSub, ↓reduceIte, Nat.reduceLeDiff, Int.reduceEq, Int.reduceLT, Int.reduceLE, Option.isSome_some, Option.isSome_none, Option.getD_some, Option.getD_none, wholeD]
theorem is_from_ok (v : D) (lo hi : Int) : f_is_from [.val v, .val (.int lo), .val (.int hi)] = .ok (.bool (fromD lo hi v)) [] := by
  have h := is_whole_ok v
  unfold f_is_from b_is_from
  cases v with
  | int i =>
    by_cases h1 : lo ≤ i
    · simp -implicitDefEqProofs (decide := true) only [evs0, evs1, evs2, evs3, evs4, evs5, evs6, evs7, evs8, evs9, evs10, List.length_cons, List.length_nil, Nat.reduceAdd, Nat.reduceSub, ↓reduceIte, Nat.reduceLeDiff, Int.reduceEq, Int.reduceLT, Int.reduceLE, Option.isSome_some, Option.isSome_none, Option.getD_some, Option.getD_none, h, wholeD, fromD, h1]
    · simp -implicitDefEqProofs (decide := true) only [evs0, evs1, evs2, evs3, evs4, evs5, evs6, evs7, evs8, evs9, evs10, List.length_cons, List.length_nil, Nat.reduceAdd, Nat.reduceSub, ↓reduceIte, Nat.reduceLeDiff, Int.reduceEq, Int.reduceLT, Int.reduceLE, Option.isSome_some, Option.isSome_none, Option.getD_some, Option.getD_none, h, wholeD, fromD, h1]
  | none => simp -implicitDefEqProofs (decide := true) only [evs0, evs1, evs2, evs3, evs4, evs5, evs6, evs7, evs8, evs9, evs10, List.length_cons, List.length_nil, Nat.reduceAdd, Nat.reduceSub, ↓reduceIte, Nat.reduceLeDiff, Int.reduceEq, Int.reduceLT, Int.reduceLE, Option.isSome_some, Option.isSome_none, Option.getD_some, Option.getD_none, h, wholeD, fromD]
  | bool _ => simp -implicitDefEqProofs (decide := true) only [evs0, evs1, evs2, evs3, evs4, evs5, evs6, evs7, evs8, evs9, evs10, List.length_cons, List.length_nil, Nat.reduceAdd, Nat.reduceSub, ↓reduceIte, Nat.reduceLeDiff, Int.reduceEq, Int.reduceLT, Int.reduceLE, Option.isSome_some, Option.isSome_none, Option.getD_some, Option.getD_none, h, wholeD, fromD]
  | str _ => simp -implicitDefEqProofs (decide := true) only [evs0, evs1, evs2, evs3, evs4, evs5, evs6, evs7, evs8, evs9, evs10, List.length_cons, List.length_nil, Nat.reduceAdd, Nat.reduceSub, ↓reduceIte, Nat.reduceLeDiff, Int.reduceEq, Int.reduceLT, Int.reduceLE, Option.isSome_some, Option.isSome_none, Option.getD_some, Option.getD_none, h, wholeD, fromD]
  | list _ => simp -implicitDefEqProofs (decide := true) only [evs0, evs1, evs2, evs3, evs4, evs5, evs6, evs7, evs8, evs9, evs10, List.length_cons, List.length_nil, Nat.reduceAdd, Nat.reduceSub, ↓reduceIte, Nat.reduceLeDiff, Int.reduceEq, Int.reduceLT, Int.reduceLE, Option.isSome_some, Option.isSome_none, Option.getD_some, Option.getD_none, h, wholeD, fromD]
  | tuple _ => simp -implicitDefEqProofs (decide := true) only [evs0, evs1, evs2, evs3, evs4, evs5, evs6, evs7, evs8, evs9, evs10, List.length_cons, List.length_nil, Nat.reduceAdd, Nat.reduceSub, ↓reduceIte, Nat.reduceLeDiff, Int.reduceEq, Int.reduceLT, Int.reduceLE, Option.isSome_some, Option.isSome_none, Option.getD_some, Option.getD_none, h, wholeD, fromD]
  | dict _ => simp -implicitDefEqProofs (decide := true) only [evs0, evs1, evs2, evs3, evs4, evs5, evs6, evs7, evs8, evs9, evs10, List.length_cons, List.length_nil, Nat.reduceAdd, Nat.reduceSub, ↓reduceIte, Nat.reduceLeDiff, Int.reduceEq, Int.reduceLT, Int.reduceLE, Option.isSome_some, Option.isSome_none, Option.getD_some, Option.getD_none, h, wholeD, fromD]
def rowD (many : Int) (lo hi : Int) : D → Bool
  | .tuple l => decide ((l.length : Int) = many) && l.all (fromD lo hi)
  | _ => false
theorem all_bools {l : List D} {g : D → Bool} : allB [.list (l.map fun d => .bool (g d))] = some (.bool (l.all g)) := by
  show (boolsOf (l.map fun d => PyData.bool (g d))).map _ = _
  have : l.map (fun d => PyData.bool (g d)) = (l.map g).map PyData.bool := by rw [List.map_map]; rfl
  rw [this, boolsOf_of]
  simp [List.all_map]
theorem is_row_ok (v : D) (many lo hi : Int) (hz : ∀ l, v = .tuple l → l.length ≤ 16777216) : f_is_row [.val v, .val (.int many), .val (.int lo), .val (.int hi)] = .ok (.bool (rowD many lo hi v)) [] := by
  cases v with
  | tuple l =>
    have c := comp_map (bd := bN 4) (elt := is_row_e1) (vs := [4]) l [.val (.tuple l), .val (.int many), .val (.int lo), .val (.int hi), .un] (fun d => [.val (.tuple l), .val (.int many), .val (.int lo), .val (.int hi), .val d]) (fun d => .bool (fromD lo hi d)) (hz l rfl)
      (fun d _ => by simp -implicitDefEqProofs only [evs0, evs1, evs2, evs3, evs4, evs5, evs6, evs7, evs8, evs9, evs10, List.length_cons, List.length_nil, Nat.reduceAdd, Nat.reduceSub, ↓reduceIte, Nat.reduceLeDiff, Int.reduceEq, Int.reduceLT, Int.reduceLE, Option.isSome_some, Option.isSome_none, Option.getD_some, Option.getD_none]) (fun d _ => by
        have h := is_from_ok d lo hi
        unfold is_row_e1
        simp -implicitDefEqProofs only [evs0, evs1, evs2, evs3, evs4, evs5, evs6, evs7, evs8, evs9, evs10, List.length_cons, List.length_nil, Nat.reduceAdd, Nat.reduceSub, ↓reduceIte, Nat.reduceLeDiff, Int.reduceEq, Int.reduceLT, Int.reduceLE, Option.isSome_some, Option.isSome_none, Option.getD_some, Option.getD_none, h]) (fun d => by simp -implicitDefEqProofs only [evs0, evs1, evs2, evs3, evs4, evs5, evs6, evs7, evs8, evs9, evs10, List.length_cons, List.length_nil, Nat.reduceAdd, Nat.reduceSub, ↓reduceIte, Nat.reduceLeDiff, Int.reduceEq, Int.reduceLT, Int.reduceLE, Option.isSome_some, Option.isSome_none, Option.getD_some, Option.getD_none])
    unfold f_is_row b_is_row is_row_c1
    by_cases h1 : (l.length : Int) = many
    · simp -implicitDefEqProofs (decide := true) only [evs0, evs1, evs2, evs3, evs4, evs5, evs6, evs7, evs8, evs9, evs10, List.length_cons, List.length_nil, Nat.reduceAdd, Nat.reduceSub, ↓reduceIte, Nat.reduceLeDiff, Int.reduceEq, Int.reduceLT, Int.reduceLE, Option.isSome_some, Option.isSome_none, Option.getD_some, Option.getD_none, h1, c, all_bools, rowD]
    · simp -implicitDefEqProofs (decide := true) only [evs0, evs1, evs2, evs3, evs4, evs5, evs6, evs7, evs8, evs9, evs10, List.length_cons, List.length_nil, Nat.reduceAdd, Nat.reduceSub, ↓reduceIte, Nat.reduceLeDiff, Int.reduceEq, Int.reduceLT, Int.reduceLE, Option.isSome_some, Option.isSome_none, Option.getD_some, Option.getD_none, h1, rowD]
  | int i => unfold f_is_row b_is_row; simp -implicitDefEqProofs (decide := true) only [evs0, evs1, evs2, evs3, evs4, evs5, evs6, evs7, evs8, evs9, evs10, List.length_cons, List.length_nil, Nat.reduceAdd, Nat.reduceSub, ↓reduceIte, Nat.reduceLeDiff, Int.reduceEq, Int.reduceLT, Int.reduceLE, Option.isSome_some, Option.isSome_none, Option.getD_some, Option.getD_none, rowD]
  | none => unfold f_is_row b_is_row; simp -implicitDefEqProofs (decide := true) only [evs0, evs1, evs2, evs3, evs4, evs5, evs6, evs7, evs8, evs9, evs10, List.length_cons, List.length_nil, Nat.reduceAdd, Nat.reduceSub, ↓reduceIte, Nat.reduceLeDiff, Int.reduceEq, Int.reduceLT, Int.reduceLE, Option.isSome_some, Option.isSome_none, Option.getD_some, Option.getD_none, rowD]
  | bool _ => unfold f_is_row b_is_row; simp -implicitDefEqProofs (decide := true) only [evs0, evs1, evs2, evs3, evs4, evs5, evs6, evs7, evs8, evs9, evs10, List.length_cons, List.length_nil, Nat.reduceAdd, Nat.reduceSub, ↓reduceIte, Nat.reduceLeDiff, Int.reduceEq, Int.reduceLT, Int.reduceLE, Option.isSome_some, Option.isSome_none, Option.getD_some, Option.getD_none, rowD]
  | str _ => unfold f_is_row b_is_row; simp -implicitDefEqProofs (decide := true) only [evs0, evs1, evs2, evs3, evs4, evs5, evs6, evs7, evs8, evs9, evs10, List.length_cons, List.length_nil, Nat.reduceAdd, Nat.reduceSub, ↓reduceIte, Nat.reduceLeDiff, Int.reduceEq, Int.reduceLT, Int.reduceLE, Option.isSome_some, Option.isSome_none, Option.getD_some, Option.getD_none, rowD]
  | list _ => unfold f_is_row b_is_row; simp -implicitDefEqProofs (decide := true) only [evs0, evs1, evs2, evs3, evs4, evs5, evs6, evs7, evs8, evs9, evs10, List.length_cons, List.length_nil, Nat.reduceAdd, Nat.reduceSub, ↓reduceIte, Nat.reduceLeDiff, Int.reduceEq, Int.reduceLT, Int.reduceLE, Option.isSome_some, Option.isSome_none, Option.getD_some, Option.getD_none, rowD]
  | dict _ => unfold f_is_row b_is_row; simp -implicitDefEqProofs (decide := true) only [evs0, evs1, evs2, evs3, evs4, evs5, evs6, evs7, evs8, evs9, evs10, List.length_cons, List.length_nil, Nat.reduceAdd, Nat.reduceSub, ↓reduceIte, Nat.reduceLeDiff, Int.reduceEq, Int.reduceLT, Int.reduceLE, Option.isSome_some, Option.isSome_none, Option.getD_some, Option.getD_none, rowD]
/-- the law's own reading of a row: as many as told, or any number -/
theorem law_row_count {l : List D} {lo hi : Int} : decide (((l.filter fun d => !fromD lo hi d).length : Int) = 0) = l.all (fromD lo hi) := by
  induction l with
  | nil => rfl
  | cons d l ih =>
    cases h : fromD lo hi d with
    | true => rw [List.filter_cons_of_neg (by simp [h]), ih]; simp [h]
    | false =>
      rw [List.filter_cons_of_pos (by simp [h])]
      simp [h]
      omega
theorem law_is_row_comp {l : List D} {m : D} {lo hi : Int} (hz : l.length ≤ 16777216) : law_is_row_c1 [.val (.tuple l), .val m, .val (.int lo), .val (.int hi), .un] = .ok (.lst (l.filter fun d => !fromD lo hi d)) [.val (.tuple l), .val m, .val (.int lo), .val (.int hi), .un] := by
  have c := comp_pure (bd := bN 4) (ifs := law_is_row_t1) (elt := law_is_row_e1) (vs := [4]) (p := fun d => !fromD lo hi d) (f := id) l [] [.val (.tuple l), .val m, .val (.int lo), .val (.int hi), .un] (by simpa using hz) fun d _ => by
    refine ⟨[.val (.tuple l), .val m, .val (.int lo), .val (.int hi), .val d], [.val (.tuple l), .val m, .val (.int lo), .val (.int hi), .val d], by simp -implicitDefEqProofs only [evs0, evs1, evs2, evs3, evs4, evs5, evs6, evs7, evs8, evs9, evs10, List.length_cons, List.length_nil, Nat.reduceAdd, Nat.reduceSub, ↓reduceIte, Nat.reduceLeDiff, Int.reduceEq, Int.reduceLT, Int.reduceLE, Option.isSome_some, Option.isSome_none, Option.getD_some, Option.getD_none], ?_, fun _ => by simp -implicitDefEqProofs only [evs0, evs1, evs2, evs3, evs4, evs5, evs6, evs7, evs8, evs9, evs10, List.length_cons, List.length_nil, Nat.reduceAdd, Nat.reduceSub, ↓reduceIte, Nat.reduceLeDiff, Int.reduceEq, Int.reduceLT, Int.reduceLE, Option.isSome_some, Option.isSome_none, Option.getD_some, Option.getD_none], fun _ => ⟨[.val (.tuple l), .val m, .val (.int lo), .val (.int hi), .val d], ?_, by simp -implicitDefEqProofs only [evs0, evs1, evs2, evs3, evs4, evs5, evs6, evs7, evs8, evs9, evs10, List.length_cons, List.length_nil, Nat.reduceAdd, Nat.reduceSub, ↓reduceIte, Nat.reduceLeDiff, Int.reduceEq, Int.reduceLT, Int.reduceLE, Option.isSome_some, Option.isSome_none, Option.getD_some, Option.getD_none]⟩⟩
    · have h := law_is_integer_ok d
      unfold law_is_row_t1
      cases d with
      | int i =>
        by_cases h1 : i < lo
        · have h2 : ¬ lo ≤ i := by omega
          simp -implicitDefEqProofs (decide := true) only [evs0, evs1, evs2, evs3, evs4, evs5, evs6, evs7, evs8, evs9, evs10, List.length_cons, List.length_nil, Nat.reduceAdd, Nat.reduceSub, ↓reduceIte, Nat.reduceLeDiff, Int.reduceEq, Int.reduceLT, Int.reduceLE, Option.isSome_some, Option.isSome_none, Option.getD_some, Option.getD_none, h, wholeD, fromD, h1, h2]
        · have h2 : lo ≤ i := by omega
          by_cases h3 : hi < i
          · have h4 : ¬ i ≤ hi := by omega
            simp -implicitDefEqProofs (decide := true) only [evs0, evs1, evs2, evs3, evs4, evs5, evs6, evs7, evs8, evs9, evs10, List.length_cons, List.length_nil, Nat.reduceAdd, Nat.reduceSub, ↓reduceIte, Nat.reduceLeDiff, Int.reduceEq, Int.reduceLT, Int.reduceLE, Option.isSome_some, Option.isSome_none, Option.getD_some, Option.getD_none, h, wholeD, fromD, h1, h2, h3, h4]
          · have h4 : i ≤ hi := by omega
            simp -implicitDefEqProofs (decide := true) only [evs0, evs1, evs2, evs3, evs4, evs5, evs6, evs7, evs8, evs9, evs10, List.length_cons, List.length_nil, Nat.reduceAdd, Nat.reduceSub, ↓reduceIte, Nat.reduceLeDiff, Int.reduceEq, Int.reduceLT, Int.reduceLE, Option.isSome_some, Option.isSome_none, Option.getD_some, Option.getD_none, h, wholeD, fromD, h1, h2, h3, h4]
      | none => simp -implicitDefEqProofs (decide := true) only [evs0, evs1, evs2, evs3, evs4, evs5, evs6, evs7, evs8, evs9, evs10, List.length_cons, List.length_nil, Nat.reduceAdd, Nat.reduceSub, ↓reduceIte, Nat.reduceLeDiff, Int.reduceEq, Int.reduceLT, Int.reduceLE, Option.isSome_some, Option.isSome_none, Option.getD_some, Option.getD_none, h, wholeD, fromD]
      | bool _ => simp -implicitDefEqProofs (decide := true) only [evs0, evs1, evs2, evs3, evs4, evs5, evs6, evs7, evs8, evs9, evs10, List.length_cons, List.length_nil, Nat.reduceAdd, Nat.reduceSub, ↓reduceIte, Nat.reduceLeDiff, Int.reduceEq, Int.reduceLT, Int.reduceLE, Option.isSome_some, Option.isSome_none, Option.getD_some, Option.getD_none, h, wholeD, fromD]
      | str _ => simp -implicitDefEqProofs (decide := true) only [evs0, evs1, evs2, evs3, evs4, evs5, evs6, evs7, evs8, evs9, evs10, List.length_cons, List.length_nil, Nat.reduceAdd, Nat.reduceSub, ↓reduceIte, Nat.reduceLeDiff, Int.reduceEq, Int.reduceLT, Int.reduceLE, Option.isSome_some, Option.isSome_none, Option.getD_some, Option.getD_none, h, wholeD, fromD]
      | list _ => simp -implicitDefEqProofs (decide := true) only [evs0, evs1, evs2, evs3, evs4, evs5, evs6, evs7, evs8, evs9, evs10, List.length_cons, List.length_nil, Nat.reduceAdd, Nat.reduceSub, ↓reduceIte, Nat.reduceLeDiff, Int.reduceEq, Int.reduceLT, Int.reduceLE, Option.isSome_some, Option.isSome_none, Option.getD_some, Option.getD_none, h, wholeD, fromD]
      | tuple _ => simp -implicitDefEqProofs (decide := true) only [evs0, evs1, evs2, evs3, evs4, evs5, evs6, evs7, evs8, evs9, evs10, List.length_cons, List.length_nil, Nat.reduceAdd, Nat.reduceSub, ↓reduceIte, Nat.reduceLeDiff, Int.reduceEq, Int.reduceLT, Int.reduceLE, Option.isSome_some, Option.isSome_none, Option.getD_some, Option.getD_none, h, wholeD, fromD]
      | dict _ => simp -implicitDefEqProofs (decide := true) only [evs0, evs1, evs2, evs3, evs4, evs5, evs6, evs7, evs8, evs9, evs10, List.length_cons, List.length_nil, Nat.reduceAdd, Nat.reduceSub, ↓reduceIte, Nat.reduceLeDiff, Int.reduceEq, Int.reduceLT, Int.reduceLE, Option.isSome_some, Option.isSome_none, Option.getD_some, Option.getD_none, h, wholeD, fromD]
    · unfold law_is_row_e1
      simp -implicitDefEqProofs only [evs0, evs1, evs2, evs3, evs4, evs5, evs6, evs7, evs8, evs9, evs10, List.length_cons, List.length_nil, Nat.reduceAdd, Nat.reduceSub, ↓reduceIte, Nat.reduceLeDiff, Int.reduceEq, Int.reduceLT, Int.reduceLE, Option.isSome_some, Option.isSome_none, Option.getD_some, Option.getD_none, id]
  rw [List.nil_append, List.map_id] at c
  unfold law_is_row_c1
  simp -implicitDefEqProofs only [evs0, evs1, evs2, evs3, evs4, evs5, evs6, evs7, evs8, evs9, evs10, List.length_cons, List.length_nil, Nat.reduceAdd, Nat.reduceSub, ↓reduceIte, Nat.reduceLeDiff, Int.reduceEq, Int.reduceLT, Int.reduceLE, Option.isSome_some, Option.isSome_none, Option.getD_some, Option.getD_none, c]
theorem law_is_row_ok (v : D) (many lo hi : Int) (hz : ∀ l, v = .tuple l → l.length ≤ 16777216) : f_law_is_row [.val v, .val (.int many), .val (.int lo), .val (.int hi)] = .ok (.bool (rowD many lo hi v)) [] := by
  cases v with
  | tuple l =>
    have c := law_is_row_comp (m := .int many) (lo := lo) (hi := hi) (hz l rfl)
    have e := law_row_count (l := l) (lo := lo) (hi := hi)
    unfold f_law_is_row b_law_is_row
    by_cases h1 : (l.length : Int) = many
    · simp -implicitDefEqProofs (decide := true) only [evs0, evs1, evs2, evs3, evs4, evs5, evs6, evs7, evs8, evs9, evs10, List.length_cons, List.length_nil, Nat.reduceAdd, Nat.reduceSub, ↓reduceIte, Nat.reduceLeDiff, Int.reduceEq, Int.reduceLT, Int.reduceLE, Option.isSome_some, Option.isSome_none, Option.getD_some, Option.getD_none, h1, c, rowD, e]
    · simp -implicitDefEqProofs (decide := true) only [evs0, evs1, evs2, evs3, evs4, evs5, evs6, evs7, evs8, evs9, evs10, List.length_cons, List.length_nil, Nat.reduceAdd, Nat.reduceSub, ↓reduceIte, Nat.reduceLeDiff, Int.reduceEq, Int.reduceLT, Int.reduceLE, Option.isSome_some, Option.isSome_none, Option.getD_some, Option.getD_none, h1, rowD]
  | int i => unfold f_law_is_row b_law_is_row; simp -implicitDefEqProofs (decide := true) only [evs0, evs1, evs2, evs3, evs4, evs5, evs6, evs7, evs8, evs9, evs10, List.length_cons, List.length_nil, Nat.reduceAdd, Nat.reduceSub, ↓reduceIte, Nat.reduceLeDiff, Int.reduceEq, Int.reduceLT, Int.reduceLE, Option.isSome_some, Option.isSome_none, Option.getD_some, Option.getD_none, rowD]
  | none => unfold f_law_is_row b_law_is_row; simp -implicitDefEqProofs (decide := true) only [evs0, evs1, evs2, evs3, evs4, evs5, evs6, evs7, evs8, evs9, evs10, List.length_cons, List.length_nil, Nat.reduceAdd, Nat.reduceSub, ↓reduceIte, Nat.reduceLeDiff, Int.reduceEq, Int.reduceLT, Int.reduceLE, Option.isSome_some, Option.isSome_none, Option.getD_some, Option.getD_none, rowD]
  | bool _ => unfold f_law_is_row b_law_is_row; simp -implicitDefEqProofs (decide := true) only [evs0, evs1, evs2, evs3, evs4, evs5, evs6, evs7, evs8, evs9, evs10, List.length_cons, List.length_nil, Nat.reduceAdd, Nat.reduceSub, ↓reduceIte, Nat.reduceLeDiff, Int.reduceEq, Int.reduceLT, Int.reduceLE, Option.isSome_some, Option.isSome_none, Option.getD_some, Option.getD_none, rowD]
  | str _ => unfold f_law_is_row b_law_is_row; simp -implicitDefEqProofs (decide := true) only [evs0, evs1, evs2, evs3, evs4, evs5, evs6, evs7, evs8, evs9, evs10, List.length_cons, List.length_nil, Nat.reduceAdd, Nat.reduceSub, ↓reduceIte, Nat.reduceLeDiff, Int.reduceEq, Int.reduceLT, Int.reduceLE, Option.isSome_some, Option.isSome_none, Option.getD_some, Option.getD_none, rowD]
  | list _ => unfold f_law_is_row b_law_is_row; simp -implicitDefEqProofs (decide := true) only [evs0, evs1, evs2, evs3, evs4, evs5, evs6, evs7, evs8, evs9, evs10, List.length_cons, List.length_nil, Nat.reduceAdd, Nat.reduceSub, ↓reduceIte, Nat.reduceLeDiff, Int.reduceEq, Int.reduceLT, Int.reduceLE, Option.isSome_some, Option.isSome_none, Option.getD_some, Option.getD_none, rowD]
  | dict _ => unfold f_law_is_row b_law_is_row; simp -implicitDefEqProofs (decide := true) only [evs0, evs1, evs2, evs3, evs4, evs5, evs6, evs7, evs8, evs9, evs10, List.length_cons, List.length_nil, Nat.reduceAdd, Nat.reduceSub, ↓reduceIte, Nat.reduceLeDiff, Int.reduceEq, Int.reduceLT, Int.reduceLE, Option.isSome_some, Option.isSome_none, Option.getD_some, Option.getD_none, rowD]
end Ft
/-! Shown: how long a tree's text is. -/
namespace Ft
open PySem L2
mutual
/-- a bound of the text's length -/
def wtD : D → Nat
  | .none => 4
  | .bool _ => 5
  | .int i => (Str.ofString (toString i)).length
  | .str x => (reprText x).length
  | .list l => 2 + wtL l
  | .tuple l => 3 + wtL l
  | .dict kvs => 2 + wtK kvs
def wtL : List D → Nat
  | [] => 0
  | d :: l => wtD d + 2 + wtL l
def wtK : List (D × D) → Nat
  | [] => 0
  | (a, b) :: l => wtD a + wtD b + 4 + wtK l
end
theorem textFrom_le : ∀ (ts : List Str) (k : Nat) (acc : Str), (textFrom k acc ts).length ≤ acc.length + piled ts
  | [], _, _ => Nat.le_add_right _ _
  | t :: ts, k, acc => by
    have ih := textFrom_le ts (k + 1) (acc ++ (if k > 0 then ", " else "" : String) ++ t)
    have e : (acc ++ (if k > 0 then ", " else "" : String) ++ t).length ≤ acc.length + 2 + t.length := by
      rw [strLen_append, strLen_append]
      split
      · exact Nat.le_refl _
      · show acc.length + 0 + t.length ≤ _; omega
    rw [piled_cons]
    show (textFrom (k + 1) _ ts).length ≤ _
    omega
theorem join_le (ts : List Str) : (Str.join ", " ts).length ≤ piled ts := by
  by_cases h : ts = []
  · subst h; exact Nat.le_refl _
  · have := join_length_add ts h; omega
mutual
theorem shown_le : ∀ d : D, d.shown.length ≤ wtD d
  | .none => by simp only [PyData.shown, wtD]; exact Nat.le_refl _
  | .bool b => by
    simp only [PyData.shown, wtD]
    cases b
    · exact Nat.le_refl _
    · show 4 ≤ 5; omega
  | .int i => by simp only [PyData.shown, wtD]; exact Nat.le_refl _
  | .str x => by simp only [PyData.shown, wtD]; exact Nat.le_refl _
  | .list l => by
    simp only [PyData.shown, wtD]
    have h1 := textFrom_le (PyData.shownAll l) 0 "["
    have h2 := shownAll_le l
    unfold listText
    rw [strLen_append]
    have e1 : (("[" : String) : Str).length = 1 := rfl
    have e2 : (("]" : String) : Str).length = 1 := rfl
    omega
  | .tuple l => by
    simp only [PyData.shown, wtD]
    have h1 := join_le (PyData.shownAll l)
    have h2 := shownAll_le l
    unfold tupleText
    rw [strLen_append, strLen_append]
    have e1 : (("(" : String) : Str).length = 1 := rfl
    have e2 : ((if (PyData.shownAll l).length == 1 then ",)" else ")" : String) : Str).length ≤ 2 := by split <;> decide
    omega
  | .dict kvs => by
    simp only [PyData.shown, wtD]
    have h1 := join_le (PyData.shownKv kvs)
    have h2 := shownKv_le kvs
    unfold dictText
    rw [strLen_append, strLen_append]
    have e1 : (("{" : String) : Str).length = 1 := rfl
    have e2 : (("}" : String) : Str).length = 1 := rfl
    omega
theorem shownAll_le : ∀ l : List D, piled (PyData.shownAll l) ≤ wtL l
  | [] => by simp only [PyData.shownAll, wtL]; exact Nat.le_refl _
  | d :: l => by
    simp only [PyData.shownAll, wtL]
    rw [piled_cons]
    have h1 := shown_le d
    have h2 := shownAll_le l
    omega
theorem shownKv_le : ∀ l : List (D × D), piled (PyData.shownKv l) ≤ wtK l
  | [] => by simp only [PyData.shownKv, wtK]; exact Nat.le_refl _
  | (a, b) :: l => by
    simp only [PyData.shownKv, wtK]
    rw [piled_cons, strLen_append, strLen_append]
    have h1 := shown_le a
    have h2 := shown_le b
    have h3 := shownKv_le l
    have e1 : ((": " : String) : Str).length = 2 := rfl
    omega
end
theorem wt_int {i : Int} (h : i.natAbs < 10 ^ 12) : wtD (.int i) ≤ 13 := by
  simp only [wtD]
  rw [ofString_length]
  exact int_text_length_le10 (k := 12) (by decide) h
end Ft
/-! K64: programs told. -/
namespace Ft
open PySem L2
def pairD (n : Int) : D → Bool
  | .tuple [.int a, .int o] => decide (a < n) && decide (o ≤ 2)
  | _ => false
def stateD (n : Int) : D → Bool
  | .tuple s => decide ((s.length : Int) = 3) && (s.all (rowD 2 0 8) && s.all (pairD n))
  | _ => false
theorem row2 {lo hi : Int} {p : D} (h : rowD 2 lo hi p = true) : ∃ a b : Int, p = .tuple [.int a, .int b] := by
  cases p with
  | tuple l =>
    simp only [rowD, Bool.and_eq_true, decide_eq_true_eq] at h
    match l, h with
    | [x, y], ⟨_, h⟩ =>
      simp only [List.all_cons, List.all_nil, Bool.and_true, Bool.and_eq_true] at h
      cases x with
      | int a =>
        cases y with
        | int b => exact ⟨a, b, rfl⟩
        | none => cases h.2
        | bool _ => cases h.2
        | str _ => cases h.2
        | list _ => cases h.2
        | tuple _ => cases h.2
        | dict _ => cases h.2
      | none => cases h.1
      | bool _ => cases h.1
      | str _ => cases h.1
      | list _ => cases h.1
      | tuple _ => cases h.1
      | dict _ => cases h.1
    | [], ⟨h, _⟩ => simp at h
    | [_], ⟨h, _⟩ => simp at h
    | _ :: _ :: _ :: _, ⟨h, _⟩ => simp at h; omega
  | none => cases h
  | bool _ => cases h
  | int _ => cases h
  | str _ => cases h
  | list _ => cases h
  | dict _ => cases h
/-- rows of the tree are no longer than this, two levels down -/
def Thin (v : D) : Prop := ∀ l, v = .tuple l → l.length ≤ 1000000 ∧ ∀ s ∈ l, ∀ m, s = .tuple m → m.length ≤ 1000000 ∧ ∀ p ∈ m, ∀ r, p = .tuple r → r.length ≤ 1000000
theorem prog_state {l : List D} {st : D} (ht : ∀ m, st = .tuple m → m.length ≤ 1000000 ∧ ∀ p ∈ m, ∀ r, p = .tuple r → r.length ≤ 1000000) :
    is_program_b1 [.val (.tuple l), .val st, .un] = if stateD l.length st = true then .next [.val (.tuple l), .val st, .un] else .ret (.bool false) [.val (.tuple l), .val st, .un] := by
  cases st with
  | tuple s =>
    obtain ⟨h1, h2⟩ := ht s rfl
    have c1 := comp_map (bd := bN 2) (elt := is_program_e1) (vs := [2]) s [.val (.tuple l), .val (.tuple s), .un] (fun d => [.val (.tuple l), .val (.tuple s), .val d]) (fun d => .bool (rowD 2 0 8 d)) (by omega)
      (fun d _ => by simp -implicitDefEqProofs only [evs0, evs1, evs2, evs3, evs4, evs5, evs6, evs7, evs8, evs9, evs10, List.length_cons, List.length_nil, Nat.reduceAdd, Nat.reduceSub, ↓reduceIte, Nat.reduceLeDiff, Int.reduceEq, Int.reduceLT, Int.reduceLE, Option.isSome_some, Option.isSome_none, Option.getD_some, Option.getD_none]) (fun d hd => by
        have h := is_row_ok d 2 0 8 (fun r e => Nat.le_trans (h2 d hd r e) (by decide))
        unfold is_program_e1
        simp -implicitDefEqProofs only [evs0, evs1, evs2, evs3, evs4, evs5, evs6, evs7, evs8, evs9, evs10, List.length_cons, List.length_nil, Nat.reduceAdd, Nat.reduceSub, ↓reduceIte, Nat.reduceLeDiff, Int.reduceEq, Int.reduceLT, Int.reduceLE, Option.isSome_some, Option.isSome_none, Option.getD_some, Option.getD_none, h]) (fun d => by simp -implicitDefEqProofs only [evs0, evs1, evs2, evs3, evs4, evs5, evs6, evs7, evs8, evs9, evs10, List.length_cons, List.length_nil, Nat.reduceAdd, Nat.reduceSub, ↓reduceIte, Nat.reduceLeDiff, Int.reduceEq, Int.reduceLT, Int.reduceLE, Option.isSome_some, Option.isSome_none, Option.getD_some, Option.getD_none])
    unfold is_program_b1 is_program_c1
    by_cases e3 : (s.length : Int) = 3
    · by_cases ha : s.all (rowD 2 0 8) = true
      · have c2 := comp_map (bd := bN 2) (elt := is_program_e2) (vs := [2]) s [.val (.tuple l), .val (.tuple s), .un] (fun d => [.val (.tuple l), .val (.tuple s), .val d]) (fun d => .bool (pairD l.length d)) (by omega)
          (fun d _ => by simp -implicitDefEqProofs only [evs0, evs1, evs2, evs3, evs4, evs5, evs6, evs7, evs8, evs9, evs10, List.length_cons, List.length_nil, Nat.reduceAdd, Nat.reduceSub, ↓reduceIte, Nat.reduceLeDiff, Int.reduceEq, Int.reduceLT, Int.reduceLE, Option.isSome_some, Option.isSome_none, Option.getD_some, Option.getD_none]) (fun d hd => by
            obtain ⟨a, b, rfl⟩ := row2 (List.all_eq_true.mp ha d hd)
            unfold is_program_e2
            by_cases h1 : a < (l.length : Int)
            · simp -implicitDefEqProofs (decide := true) only [evs0, evs1, evs2, evs3, evs4, evs5, evs6, evs7, evs8, evs9, evs10, List.length_cons, List.length_nil, Nat.reduceAdd, Nat.reduceSub, ↓reduceIte, Nat.reduceLeDiff, Int.reduceEq, Int.reduceLT, Int.reduceLE, Option.isSome_some, Option.isSome_none, Option.getD_some, Option.getD_none, pairD, h1]
            · simp -implicitDefEqProofs (decide := true) only [evs0, evs1, evs2, evs3, evs4, evs5, evs6, evs7, evs8, evs9, evs10, List.length_cons, List.length_nil, Nat.reduceAdd, Nat.reduceSub, ↓reduceIte, Nat.reduceLeDiff, Int.reduceEq, Int.reduceLT, Int.reduceLE, Option.isSome_some, Option.isSome_none, Option.getD_some, Option.getD_none, pairD, h1]) (fun d => by simp -implicitDefEqProofs only [evs0, evs1, evs2, evs3, evs4, evs5, evs6, evs7, evs8, evs9, evs10, List.length_cons, List.length_nil, Nat.reduceAdd, Nat.reduceSub, ↓reduceIte, Nat.reduceLeDiff, Int.reduceEq, Int.reduceLT, Int.reduceLE, Option.isSome_some, Option.isSome_none, Option.getD_some, Option.getD_none])
        unfold is_program_c2
        by_cases hb : s.all (pairD l.length) = true
        · simp -implicitDefEqProofs (decide := true) only [evs0, evs1, evs2, evs3, evs4, evs5, evs6, evs7, evs8, evs9, evs10, List.length_cons, List.length_nil, Nat.reduceAdd, Nat.reduceSub, ↓reduceIte, Nat.reduceLeDiff, Int.reduceEq, Int.reduceLT, Int.reduceLE, Option.isSome_some, Option.isSome_none, Option.getD_some, Option.getD_none, e3, c1, c2, all_bools, ha, hb, stateD]
        · simp -implicitDefEqProofs (decide := true) only [evs0, evs1, evs2, evs3, evs4, evs5, evs6, evs7, evs8, evs9, evs10, List.length_cons, List.length_nil, Nat.reduceAdd, Nat.reduceSub, ↓reduceIte, Nat.reduceLeDiff, Int.reduceEq, Int.reduceLT, Int.reduceLE, Option.isSome_some, Option.isSome_none, Option.getD_some, Option.getD_none, e3, c1, c2, all_bools, ha, hb, stateD]
      · simp -implicitDefEqProofs (decide := true) only [evs0, evs1, evs2, evs3, evs4, evs5, evs6, evs7, evs8, evs9, evs10, List.length_cons, List.length_nil, Nat.reduceAdd, Nat.reduceSub, ↓reduceIte, Nat.reduceLeDiff, Int.reduceEq, Int.reduceLT, Int.reduceLE, Option.isSome_some, Option.isSome_none, Option.getD_some, Option.getD_none, e3, c1, all_bools, ha, stateD]
    · simp -implicitDefEqProofs (decide := true) only [evs0, evs1, evs2, evs3, evs4, evs5, evs6, evs7, evs8, evs9, evs10, List.length_cons, List.length_nil, Nat.reduceAdd, Nat.reduceSub, ↓reduceIte, Nat.reduceLeDiff, Int.reduceEq, Int.reduceLT, Int.reduceLE, Option.isSome_some, Option.isSome_none, Option.getD_some, Option.getD_none, e3, stateD]
  | int i => unfold is_program_b1; simp -implicitDefEqProofs (decide := true) only [evs0, evs1, evs2, evs3, evs4, evs5, evs6, evs7, evs8, evs9, evs10, List.length_cons, List.length_nil, Nat.reduceAdd, Nat.reduceSub, ↓reduceIte, Nat.reduceLeDiff, Int.reduceEq, Int.reduceLT, Int.reduceLE, Option.isSome_some, Option.isSome_none, Option.getD_some, Option.getD_none, stateD]
  | none => unfold is_program_b1; simp -implicitDefEqProofs (decide := true) only [evs0, evs1, evs2, evs3, evs4, evs5, evs6, evs7, evs8, evs9, evs10, List.length_cons, List.length_nil, Nat.reduceAdd, Nat.reduceSub, ↓reduceIte, Nat.reduceLeDiff, Int.reduceEq, Int.reduceLT, Int.reduceLE, Option.isSome_some, Option.isSome_none, Option.getD_some, Option.getD_none, stateD]
  | bool _ => unfold is_program_b1; simp -implicitDefEqProofs (decide := true) only [evs0, evs1, evs2, evs3, evs4, evs5, evs6, evs7, evs8, evs9, evs10, List.length_cons, List.length_nil, Nat.reduceAdd, Nat.reduceSub, ↓reduceIte, Nat.reduceLeDiff, Int.reduceEq, Int.reduceLT, Int.reduceLE, Option.isSome_some, Option.isSome_none, Option.getD_some, Option.getD_none, stateD]
  | str _ => unfold is_program_b1; simp -implicitDefEqProofs (decide := true) only [evs0, evs1, evs2, evs3, evs4, evs5, evs6, evs7, evs8, evs9, evs10, List.length_cons, List.length_nil, Nat.reduceAdd, Nat.reduceSub, ↓reduceIte, Nat.reduceLeDiff, Int.reduceEq, Int.reduceLT, Int.reduceLE, Option.isSome_some, Option.isSome_none, Option.getD_some, Option.getD_none, stateD]
  | list _ => unfold is_program_b1; simp -implicitDefEqProofs (decide := true) only [evs0, evs1, evs2, evs3, evs4, evs5, evs6, evs7, evs8, evs9, evs10, List.length_cons, List.length_nil, Nat.reduceAdd, Nat.reduceSub, ↓reduceIte, Nat.reduceLeDiff, Int.reduceEq, Int.reduceLT, Int.reduceLE, Option.isSome_some, Option.isSome_none, Option.getD_some, Option.getD_none, stateD]
  | dict _ => unfold is_program_b1; simp -implicitDefEqProofs (decide := true) only [evs0, evs1, evs2, evs3, evs4, evs5, evs6, evs7, evs8, evs9, evs10, List.length_cons, List.length_nil, Nat.reduceAdd, Nat.reduceSub, ↓reduceIte, Nat.reduceLeDiff, Int.reduceEq, Int.reduceLT, Int.reduceLE, Option.isSome_some, Option.isSome_none, Option.getD_some, Option.getD_none, stateD]
theorem law_prog_state {l : List D} {st : D} (ht : ∀ m, st = .tuple m → m.length ≤ 1000000 ∧ ∀ p ∈ m, ∀ r, p = .tuple r → r.length ≤ 1000000) :
    law_is_program_b1 [.val (.tuple l), .val st, .un] = if stateD l.length st = true then .next [.val (.tuple l), .val st, .un] else .ret (.bool false) [.val (.tuple l), .val st, .un] := by
  cases st with
  | tuple s =>
    obtain ⟨h1, h2⟩ := ht s rfl
    have c := comp_pure (bd := bN 2) (ifs := law_is_program_t1) (elt := law_is_program_e1) (vs := [2]) (p := fun d => !(rowD 2 0 8 d && pairD l.length d)) (f := id) s [] [.val (.tuple l), .val (.tuple s), .un] (by simp; omega) fun d hd => by
      refine ⟨[.val (.tuple l), .val (.tuple s), .val d], [.val (.tuple l), .val (.tuple s), .val d], by simp -implicitDefEqProofs only [evs0, evs1, evs2, evs3, evs4, evs5, evs6, evs7, evs8, evs9, evs10, List.length_cons, List.length_nil, Nat.reduceAdd, Nat.reduceSub, ↓reduceIte, Nat.reduceLeDiff, Int.reduceEq, Int.reduceLT, Int.reduceLE, Option.isSome_some, Option.isSome_none, Option.getD_some, Option.getD_none], ?_, fun _ => by simp -implicitDefEqProofs only [evs0, evs1, evs2, evs3, evs4, evs5, evs6, evs7, evs8, evs9, evs10, List.length_cons, List.length_nil, Nat.reduceAdd, Nat.reduceSub, ↓reduceIte, Nat.reduceLeDiff, Int.reduceEq, Int.reduceLT, Int.reduceLE, Option.isSome_some, Option.isSome_none, Option.getD_some, Option.getD_none], fun _ => ⟨[.val (.tuple l), .val (.tuple s), .val d], ?_, by simp -implicitDefEqProofs only [evs0, evs1, evs2, evs3, evs4, evs5, evs6, evs7, evs8, evs9, evs10, List.length_cons, List.length_nil, Nat.reduceAdd, Nat.reduceSub, ↓reduceIte, Nat.reduceLeDiff, Int.reduceEq, Int.reduceLT, Int.reduceLE, Option.isSome_some, Option.isSome_none, Option.getD_some, Option.getD_none]⟩⟩
      · have h := law_is_row_ok d 2 0 8 (fun r e => Nat.le_trans (h2 d hd r e) (by decide))
        unfold law_is_program_t1
        by_cases hr : rowD 2 0 8 d = true
        · obtain ⟨a, b, rfl⟩ := row2 hr
          by_cases h1 : (l.length : Int) ≤ a
          · have h3 : ¬ a < (l.length : Int) := by omega
            simp -implicitDefEqProofs (decide := true) only [evs0, evs1, evs2, evs3, evs4, evs5, evs6, evs7, evs8, evs9, evs10, List.length_cons, List.length_nil, Nat.reduceAdd, Nat.reduceSub, ↓reduceIte, Nat.reduceLeDiff, Int.reduceEq, Int.reduceLT, Int.reduceLE, Option.isSome_some, Option.isSome_none, Option.getD_some, Option.getD_none, h, hr, pairD, h1, h3]
          · have h3 : a < (l.length : Int) := by omega
            by_cases h4 : 2 < b
            · have h5 : ¬ b ≤ 2 := by omega
              simp -implicitDefEqProofs (decide := true) only [evs0, evs1, evs2, evs3, evs4, evs5, evs6, evs7, evs8, evs9, evs10, List.length_cons, List.length_nil, Nat.reduceAdd, Nat.reduceSub, ↓reduceIte, Nat.reduceLeDiff, Int.reduceEq, Int.reduceLT, Int.reduceLE, Option.isSome_some, Option.isSome_none, Option.getD_some, Option.getD_none, h, hr, pairD, h1, h3, h4, h5]
            · have h5 : b ≤ 2 := by omega
              simp -implicitDefEqProofs (decide := true) only [evs0, evs1, evs2, evs3, evs4, evs5, evs6, evs7, evs8, evs9, evs10, List.length_cons, List.length_nil, Nat.reduceAdd, Nat.reduceSub, ↓reduceIte, Nat.reduceLeDiff, Int.reduceEq, Int.reduceLT, Int.reduceLE, Option.isSome_some, Option.isSome_none, Option.getD_some, Option.getD_none, h, hr, pairD, h1, h3, h4, h5]
        · have hr : rowD 2 0 8 d = false := by simpa using hr
          simp -implicitDefEqProofs (decide := true) only [evs0, evs1, evs2, evs3, evs4, evs5, evs6, evs7, evs8, evs9, evs10, List.length_cons, List.length_nil, Nat.reduceAdd, Nat.reduceSub, ↓reduceIte, Nat.reduceLeDiff, Int.reduceEq, Int.reduceLT, Int.reduceLE, Option.isSome_some, Option.isSome_none, Option.getD_some, Option.getD_none, h, hr]
      · unfold law_is_program_e1
        simp -implicitDefEqProofs only [evs0, evs1, evs2, evs3, evs4, evs5, evs6, evs7, evs8, evs9, evs10, List.length_cons, List.length_nil, Nat.reduceAdd, Nat.reduceSub, ↓reduceIte, Nat.reduceLeDiff, Int.reduceEq, Int.reduceLT, Int.reduceLE, Option.isSome_some, Option.isSome_none, Option.getD_some, Option.getD_none, id]
    rw [List.nil_append, List.map_id] at c
    have cnt : decide (0 < ((s.filter fun d => !(rowD 2 0 8 d && pairD l.length d)).length : Int)) = !(s.all (rowD 2 0 8) && s.all (pairD l.length)) := by
      clear c h1 h2 ht
      induction s with
      | nil => rfl
      | cons d s ih =>
        cases hd : (rowD 2 0 8 d && pairD l.length d) with
        | true =>
          rw [List.filter_cons_of_neg (by simp [hd]), ih]
          simp only [Bool.and_eq_true] at hd
          simp [hd.1, hd.2]
        | false =>
          rw [List.filter_cons_of_pos (by simp [hd])]
          simp only [Bool.and_eq_false_iff] at hd
          rcases hd with hd | hd
          · simp [hd]
          · simp [hd]
    unfold law_is_program_b1 law_is_program_c1
    by_cases e3 : (s.length : Int) = 3
    · cases hb : (s.all (rowD 2 0 8) && s.all (pairD l.length)) with
      | true => simp -implicitDefEqProofs (decide := true) only [evs0, evs1, evs2, evs3, evs4, evs5, evs6, evs7, evs8, evs9, evs10, List.length_cons, List.length_nil, Nat.reduceAdd, Nat.reduceSub, ↓reduceIte, Nat.reduceLeDiff, Int.reduceEq, Int.reduceLT, Int.reduceLE, Option.isSome_some, Option.isSome_none, Option.getD_some, Option.getD_none, e3, c, cnt, hb, stateD]
      | false => simp -implicitDefEqProofs (decide := true) only [evs0, evs1, evs2, evs3, evs4, evs5, evs6, evs7, evs8, evs9, evs10, List.length_cons, List.length_nil, Nat.reduceAdd, Nat.reduceSub, ↓reduceIte, Nat.reduceLeDiff, Int.reduceEq, Int.reduceLT, Int.reduceLE, Option.isSome_some, Option.isSome_none, Option.getD_some, Option.getD_none, e3, c, cnt, hb, stateD]
    · simp -implicitDefEqProofs (decide := true) only [evs0, evs1, evs2, evs3, evs4, evs5, evs6, evs7, evs8, evs9, evs10, List.length_cons, List.length_nil, Nat.reduceAdd, Nat.reduceSub, ↓reduceIte, Nat.reduceLeDiff, Int.reduceEq, Int.reduceLT, Int.reduceLE, Option.isSome_some, Option.isSome_none, Option.getD_some, Option.getD_none, e3, stateD]
  | int i => unfold law_is_program_b1; simp -implicitDefEqProofs (decide := true) only [evs0, evs1, evs2, evs3, evs4, evs5, evs6, evs7, evs8, evs9, evs10, List.length_cons, List.length_nil, Nat.reduceAdd, Nat.reduceSub, ↓reduceIte, Nat.reduceLeDiff, Int.reduceEq, Int.reduceLT, Int.reduceLE, Option.isSome_some, Option.isSome_none, Option.getD_some, Option.getD_none, stateD]
  | none => unfold law_is_program_b1; simp -implicitDefEqProofs (decide := true) only [evs0, evs1, evs2, evs3, evs4, evs5, evs6, evs7, evs8, evs9, evs10, List.length_cons, List.length_nil, Nat.reduceAdd, Nat.reduceSub, ↓reduceIte, Nat.reduceLeDiff, Int.reduceEq, Int.reduceLT, Int.reduceLE, Option.isSome_some, Option.isSome_none, Option.getD_some, Option.getD_none, stateD]
  | bool _ => unfold law_is_program_b1; simp -implicitDefEqProofs (decide := true) only [evs0, evs1, evs2, evs3, evs4, evs5, evs6, evs7, evs8, evs9, evs10, List.length_cons, List.length_nil, Nat.reduceAdd, Nat.reduceSub, ↓reduceIte, Nat.reduceLeDiff, Int.reduceEq, Int.reduceLT, Int.reduceLE, Option.isSome_some, Option.isSome_none, Option.getD_some, Option.getD_none, stateD]
  | str _ => unfold law_is_program_b1; simp -implicitDefEqProofs (decide := true) only [evs0, evs1, evs2, evs3, evs4, evs5, evs6, evs7, evs8, evs9, evs10, List.length_cons, List.length_nil, Nat.reduceAdd, Nat.reduceSub, ↓reduceIte, Nat.reduceLeDiff, Int.reduceEq, Int.reduceLT, Int.reduceLE, Option.isSome_some, Option.isSome_none, Option.getD_some, Option.getD_none, stateD]
  | list _ => unfold law_is_program_b1; simp -implicitDefEqProofs (decide := true) only [evs0, evs1, evs2, evs3, evs4, evs5, evs6, evs7, evs8, evs9, evs10, List.length_cons, List.length_nil, Nat.reduceAdd, Nat.reduceSub, ↓reduceIte, Nat.reduceLeDiff, Int.reduceEq, Int.reduceLT, Int.reduceLE, Option.isSome_some, Option.isSome_none, Option.getD_some, Option.getD_none, stateD]
  | dict _ => unfold law_is_program_b1; simp -implicitDefEqProofs (decide := true) only [evs0, evs1, evs2, evs3, evs4, evs5, evs6, evs7, evs8, evs9, evs10, List.length_cons, List.length_nil, Nat.reduceAdd, Nat.reduceSub, ↓reduceIte, Nat.reduceLeDiff, Int.reduceEq, Int.reduceLT, Int.reduceLE, Option.isSome_some, Option.isSome_none, Option.getD_some, Option.getD_none, stateD]
def progD : D → Bool
  | .tuple l => (decide ((1 : Int) ≤ l.length) && decide ((l.length : Int) ≤ 8)) && l.all (stateD l.length)
  | _ => false
theorem state_loop {x0 : D} {n : Int} {b : Sn} (hb : ∀ st, (∀ m, st = .tuple m → m.length ≤ 1000000 ∧ ∀ p ∈ m, ∀ r, p = .tuple r → r.length ≤ 1000000) → b [.val x0, .val st, .un] = if stateD n st = true then .next [.val x0, .val st, .un] else .ret (.bool false) [.val x0, .val st, .un]) :
    ∀ (l : List D) (y : LV), nioK (some y) = true → (∀ s ∈ l, ∀ m, s = .tuple m → m.length ≤ 1000000 ∧ ∀ p ∈ m, ∀ r, p = .tuple r → r.length ≤ 1000000) → ∃ z, forV (bN 1) b l [.val x0, y, .un] = if l.all (stateD n) = true then .next [.val x0, z, .un] else .ret (.bool false) [.val x0, z, .un]
  | [], y, _, _ => ⟨y, rfl⟩
  | s :: l, y, hy, ht => by
    have b1 : bN 1 s [.val x0, y, .un] = some [.val x0, .val s, .un] := by simp -implicitDefEqProofs only [evs0, evs1, evs2, evs3, evs4, evs5, evs6, evs7, evs8, evs9, evs10, List.length_cons, List.length_nil, Nat.reduceAdd, Nat.reduceSub, ↓reduceIte, Nat.reduceLeDiff, Int.reduceEq, Int.reduceLT, Int.reduceLE, Option.isSome_some, Option.isSome_none, Option.getD_some, Option.getD_none, hy]
    have b2 := hb s (ht s (List.mem_cons_self ..))
    unfold forV
    rw [b1]
    simp only [b2]
    cases h : stateD n s with
    | true =>
      obtain ⟨z, e⟩ := state_loop hb l (.val s) rfl fun s hs => ht s (List.mem_cons_of_mem _ hs)
      refine ⟨z, ?_⟩
      simp only [h, if_true, List.all_cons, Bool.true_and]
      exact e
    | false =>
      refine ⟨.val s, ?_⟩
      simp [h]
theorem is_program_ok {v : D} (ht : Thin v) : f_is_program [.val v] = .ok (.bool (progD v)) [] := by
  unfold f_is_program b_is_program
  cases v with
  | tuple l =>
    obtain ⟨h1, h2⟩ := ht l rfl
    obtain ⟨z, e⟩ := state_loop (x0 := .tuple l) (n := l.length) (b := is_program_b1) (fun st h => prog_state h) l .un rfl h2
    by_cases c1 : (1 : Int) ≤ l.length
    · by_cases c2 : (l.length : Int) ≤ 8
      · by_cases c3 : l.all (stateD l.length) = true
        · simp -implicitDefEqProofs (decide := true) only [evs0, evs1, evs2, evs3, evs4, evs5, evs6, evs7, evs8, evs9, evs10, List.length_cons, List.length_nil, Nat.reduceAdd, Nat.reduceSub, ↓reduceIte, Nat.reduceLeDiff, Int.reduceEq, Int.reduceLT, Int.reduceLE, Option.isSome_some, Option.isSome_none, Option.getD_some, Option.getD_none, c1, c2, e, c3, progD]
        · simp -implicitDefEqProofs (decide := true) only [evs0, evs1, evs2, evs3, evs4, evs5, evs6, evs7, evs8, evs9, evs10, List.length_cons, List.length_nil, Nat.reduceAdd, Nat.reduceSub, ↓reduceIte, Nat.reduceLeDiff, Int.reduceEq, Int.reduceLT, Int.reduceLE, Option.isSome_some, Option.isSome_none, Option.getD_some, Option.getD_none, c1, c2, e, c3, progD]
      · simp -implicitDefEqProofs (decide := true) only [evs0, evs1, evs2, evs3, evs4, evs5, evs6, evs7, evs8, evs9, evs10, List.length_cons, List.length_nil, Nat.reduceAdd, Nat.reduceSub, ↓reduceIte, Nat.reduceLeDiff, Int.reduceEq, Int.reduceLT, Int.reduceLE, Option.isSome_some, Option.isSome_none, Option.getD_some, Option.getD_none, c1, c2, progD]
    · simp -implicitDefEqProofs (decide := true) only [evs0, evs1, evs2, evs3, evs4, evs5, evs6, evs7, evs8, evs9, evs10, List.length_cons, List.length_nil, Nat.reduceAdd, Nat.reduceSub, ↓reduceIte, Nat.reduceLeDiff, Int.reduceEq, Int.reduceLT, Int.reduceLE, Option.isSome_some, Option.isSome_none, Option.getD_some, Option.getD_none, c1, progD]
  | int i => simp -implicitDefEqProofs (decide := true) only [evs0, evs1, evs2, evs3, evs4, evs5, evs6, evs7, evs8, evs9, evs10, List.length_cons, List.length_nil, Nat.reduceAdd, Nat.reduceSub, ↓reduceIte, Nat.reduceLeDiff, Int.reduceEq, Int.reduceLT, Int.reduceLE, Option.isSome_some, Option.isSome_none, Option.getD_some, Option.getD_none, progD]
  | none => simp -implicitDefEqProofs (decide := true) only [evs0, evs1, evs2, evs3, evs4, evs5, evs6, evs7, evs8, evs9, evs10, List.length_cons, List.length_nil, Nat.reduceAdd, Nat.reduceSub, ↓reduceIte, Nat.reduceLeDiff, Int.reduceEq, Int.reduceLT, Int.reduceLE, Option.isSome_some, Option.isSome_none, Option.getD_some, Option.getD_none, progD]
  | bool _ => simp -implicitDefEqProofs (decide := true) only [evs0, evs1, evs2, evs3, evs4, evs5, evs6, evs7, evs8, evs9, evs10, List.length_cons, List.length_nil, Nat.reduceAdd, Nat.reduceSub, ↓reduceIte, Nat.reduceLeDiff, Int.reduceEq, Int.reduceLT, Int.reduceLE, Option.isSome_some, Option.isSome_none, Option.getD_some, Option.getD_none, progD]
  | str _ => simp -implicitDefEqProofs (decide := true) only [evs0, evs1, evs2, evs3, evs4, evs5, evs6, evs7, evs8, evs9, evs10, List.length_cons, List.length_nil, Nat.reduceAdd, Nat.reduceSub, ↓reduceIte, Nat.reduceLeDiff, Int.reduceEq, Int.reduceLT, Int.reduceLE, Option.isSome_some, Option.isSome_none, Option.getD_some, Option.getD_none, progD]
  | list _ => simp -implicitDefEqProofs (decide := true) only [evs0, evs1, evs2, evs3, evs4, evs5, evs6, evs7, evs8, evs9, evs10, List.length_cons, List.length_nil, Nat.reduceAdd, Nat.reduceSub, ↓reduceIte, Nat.reduceLeDiff, Int.reduceEq, Int.reduceLT, Int.reduceLE, Option.isSome_some, Option.isSome_none, Option.getD_some, Option.getD_none, progD]
  | dict _ => simp -implicitDefEqProofs (decide := true) only [evs0, evs1, evs2, evs3, evs4, evs5, evs6, evs7, evs8, evs9, evs10, List.length_cons, List.length_nil, Nat.reduceAdd, Nat.reduceSub, ↓reduceIte, Nat.reduceLeDiff, Int.reduceEq, Int.reduceLT, Int.reduceLE, Option.isSome_some, Option.isSome_none, Option.getD_some, Option.getD_none, progD]
theorem law_is_program_ok {v : D} (ht : Thin v) : f_law_is_program [.val v] = .ok (.bool (progD v)) [] := by
  unfold f_law_is_program b_law_is_program
  cases v with
  | tuple l =>
    obtain ⟨h1, h2⟩ := ht l rfl
    obtain ⟨z, e⟩ := state_loop (x0 := .tuple l) (n := l.length) (b := law_is_program_b1) (fun st h => law_prog_state h) l .un rfl h2
    by_cases c1 : (l.length : Int) < 1
    · have c1' : ¬ (1 : Int) ≤ l.length := by omega
      simp -implicitDefEqProofs (decide := true) only [evs0, evs1, evs2, evs3, evs4, evs5, evs6, evs7, evs8, evs9, evs10, List.length_cons, List.length_nil, Nat.reduceAdd, Nat.reduceSub, ↓reduceIte, Nat.reduceLeDiff, Int.reduceEq, Int.reduceLT, Int.reduceLE, Option.isSome_some, Option.isSome_none, Option.getD_some, Option.getD_none, c1, c1', progD]
    · have c1' : (1 : Int) ≤ l.length := by omega
      by_cases c2 : (8 : Int) < l.length
      · have c2' : ¬ (l.length : Int) ≤ 8 := by omega
        simp -implicitDefEqProofs (decide := true) only [evs0, evs1, evs2, evs3, evs4, evs5, evs6, evs7, evs8, evs9, evs10, List.length_cons, List.length_nil, Nat.reduceAdd, Nat.reduceSub, ↓reduceIte, Nat.reduceLeDiff, Int.reduceEq, Int.reduceLT, Int.reduceLE, Option.isSome_some, Option.isSome_none, Option.getD_some, Option.getD_none, c1, c1', c2, c2', progD]
      · have c2' : (l.length : Int) ≤ 8 := by omega
        by_cases c3 : l.all (stateD l.length) = true
        · simp -implicitDefEqProofs (decide := true) only [evs0, evs1, evs2, evs3, evs4, evs5, evs6, evs7, evs8, evs9, evs10, List.length_cons, List.length_nil, Nat.reduceAdd, Nat.reduceSub, ↓reduceIte, Nat.reduceLeDiff, Int.reduceEq, Int.reduceLT, Int.reduceLE, Option.isSome_some, Option.isSome_none, Option.getD_some, Option.getD_none, c1, c1', c2, c2', e, c3, progD]
        · simp -implicitDefEqProofs (decide := true) only [evs0, evs1, evs2, evs3, evs4, evs5, evs6, evs7, evs8, evs9, evs10, List.length_cons, List.length_nil, Nat.reduceAdd, Nat.reduceSub, ↓reduceIte, Nat.reduceLeDiff, Int.reduceEq, Int.reduceLT, Int.reduceLE, Option.isSome_some, Option.isSome_none, Option.getD_some, Option.getD_none, c1, c1', c2, c2', e, c3, progD]
  | int i => simp -implicitDefEqProofs (decide := true) only [evs0, evs1, evs2, evs3, evs4, evs5, evs6, evs7, evs8, evs9, evs10, List.length_cons, List.length_nil, Nat.reduceAdd, Nat.reduceSub, ↓reduceIte, Nat.reduceLeDiff, Int.reduceEq, Int.reduceLT, Int.reduceLE, Option.isSome_some, Option.isSome_none, Option.getD_some, Option.getD_none, progD]
  | none => simp -implicitDefEqProofs (decide := true) only [evs0, evs1, evs2, evs3, evs4, evs5, evs6, evs7, evs8, evs9, evs10, List.length_cons, List.length_nil, Nat.reduceAdd, Nat.reduceSub, ↓reduceIte, Nat.reduceLeDiff, Int.reduceEq, Int.reduceLT, Int.reduceLE, Option.isSome_some, Option.isSome_none, Option.getD_some, Option.getD_none, progD]
  | bool _ => simp -implicitDefEqProofs (decide := true) only [evs0, evs1, evs2, evs3, evs4, evs5, evs6, evs7, evs8, evs9, evs10, List.length_cons, List.length_nil, Nat.reduceAdd, Nat.reduceSub, ↓reduceIte, Nat.reduceLeDiff, Int.reduceEq, Int.reduceLT, Int.reduceLE, Option.isSome_some, Option.isSome_none, Option.getD_some, Option.getD_none, progD]
  | str _ => simp -implicitDefEqProofs (decide := true) only [evs0, evs1, evs2, evs3, evs4, evs5, evs6, evs7, evs8, evs9, evs10, List.length_cons, List.length_nil, Nat.reduceAdd, Nat.reduceSub, ↓reduceIte, Nat.reduceLeDiff, Int.reduceEq, Int.reduceLT, Int.reduceLE, Option.isSome_some, Option.isSome_none, Option.getD_some, Option.getD_none, progD]
  | list _ => simp -implicitDefEqProofs (decide := true) only [evs0, evs1, evs2, evs3, evs4, evs5, evs6, evs7, evs8, evs9, evs10, List.length_cons, List.length_nil, Nat.reduceAdd, Nat.reduceSub, ↓reduceIte, Nat.reduceLeDiff, Int.reduceEq, Int.reduceLT, Int.reduceLE, Option.isSome_some, Option.isSome_none, Option.getD_some, Option.getD_none, progD]
  | dict _ => simp -implicitDefEqProofs (decide := true) only [evs0, evs1, evs2, evs3, evs4, evs5, evs6, evs7, evs8, evs9, evs10, List.length_cons, List.length_nil, Nat.reduceAdd, Nat.reduceSub, ↓reduceIte, Nat.reduceLeDiff, Int.reduceEq, Int.reduceLT, Int.reduceLE, Option.isSome_some, Option.isSome_none, Option.getD_some, Option.getD_none, progD]
end Ft
/-! Told: trees that may be told, and the drawn changes of them. -/
namespace Ft
open PySem L2
mutual
def szD : D → Nat
  | .none => 1
  | .bool _ => 1
  | .int _ => 1
  | .str x => 1 + x.length
  | .list l => 1 + szL l
  | .tuple l => 1 + szL l
  | .dict _ => 1
def szL : List D → Nat
  | [] => 0
  | d :: l => szD d + szL l
end
mutual
def gdD (B : Nat) : D → Bool
  | .none => true
  | .bool _ => true
  | .int i => decide (i.natAbs ≤ B)
  | .str x => x.cps.toList.all fun c => decide (c < 4294967296)
  | .list l => gdL B l
  | .tuple l => gdL B l
  | .dict _ => false
def gdL (B : Nat) : List D → Bool
  | [] => true
  | d :: l => gdD B d && gdL B l
end
theorem gdL_iff {B : Nat} : ∀ {l : List D}, gdL B l = true ↔ ∀ d ∈ l, gdD B d = true
  | [] => by simp [gdL]
  | d :: l => by simp [gdL, gdL_iff (l := l)]
theorem szL_app : ∀ (l m : List D), szL (l ++ m) = szL l + szL m
  | [], m => by simp [szL]
  | d :: l, m => by simp [szL, szL_app l m]; omega
theorem szD_pos (d : D) : 1 ≤ szD d := by cases d <;> simp [szD] <;> omega
theorem szL_len : ∀ l : List D, l.length ≤ szL l
  | [] => Nat.le_refl _
  | d :: l => by have := szL_len l; have := szD_pos d; simp only [szL, List.length_cons]; omega
theorem szL_mem : ∀ {l : List D} {d : D}, d ∈ l → szD d ≤ szL l
  | e :: l, d, h => by
    rcases List.mem_cons.mp h with rfl | h
    · simp only [szL]; omega
    · have := szL_mem h; simp only [szL]; omega
theorem szL_set : ∀ (l : List D) (i : Nat) (x : D), szL (l.set i x) ≤ szL l + szD x
  | [], _, _ => by simp [szL]
  | d :: l, 0, x => by simp only [List.set_cons_zero, szL]; omega
  | d :: l, i + 1, x => by have := szL_set l i x; simp only [List.set_cons_succ, szL]; omega
theorem dpL_le {k : Nat} : ∀ {l : List D}, PyData.depthAll l ≤ k ↔ ∀ d ∈ l, d.depth ≤ k
  | [] => by simp [PyData.depthAll]
  | d :: l => by simp [PyData.depthAll, Nat.max_le, dpL_le (l := l)]
theorem dpT {l : List D} {k : Nat} : (PyData.tuple l).depth ≤ k + 1 ↔ ∀ d ∈ l, d.depth ≤ k := by
  simp only [PyData.depth, Nat.add_le_add_iff_right]; exact dpL_le
theorem dpLs {l : List D} {k : Nat} : (PyData.list l).depth ≤ k + 1 ↔ ∀ d ∈ l, d.depth ≤ k := by
  simp only [PyData.depth, Nat.add_le_add_iff_right]; exact dpL_le
theorem wt_str {x : Str} (h : (x.cps.toList.all fun c => decide (c < 4294967296)) = true) : wtD (.str x) ≤ 10 * x.length + 2 := by
  simp only [wtD]
  exact PySem.StrLaws.reprText_len x fun c hc => by simpa using List.all_eq_true.mp h c hc
mutual
theorem wt_le {B : Nat} (hB : B < 10 ^ 12) : ∀ d : D, gdD B d = true → wtD d + 2 ≤ 16 * szD d
  | .none, _ => by simp [wtD, szD]
  | .bool _, _ => by simp [wtD, szD]
  | .int i, h => by
    simp only [gdD, decide_eq_true_eq] at h
    have := wt_int (i := i) (by omega)
    simp only [szD]; omega
  | .str x, h => by
    have := wt_str h
    simp only [szD]; omega
  | .list l, h => by
    simp only [gdD] at h
    have := wtL_le hB l h
    simp only [wtD, szD]; omega
  | .tuple l, h => by
    simp only [gdD] at h
    have := wtL_le hB l h
    simp only [wtD, szD]; omega
  | .dict _, h => by simp [gdD] at h
theorem wtL_le {B : Nat} (hB : B < 10 ^ 12) : ∀ l : List D, gdL B l = true → wtL l ≤ 16 * szL l
  | [], _ => by simp [wtL, szL]
  | d :: l, h => by
    simp only [gdL, Bool.and_eq_true] at h
    have := wt_le hB d h.1
    have := wtL_le hB l h.2
    simp only [wtL, szL]; omega
end
mutual
theorem gd_show {B : Nat} (hB : B < 10 ^ 12) : ∀ d : D, gdD B d = true → d.showable = true ∧ d.hasDict = false
  | .none, _ => by simp [PyData.showable, PyData.hasDict]
  | .bool _, _ => by simp [PyData.showable, PyData.hasDict]
  | .int i, h => by
    simp only [gdD, decide_eq_true_eq] at h
    refine ⟨?_, by simp [PyData.hasDict]⟩
    simp only [PyData.showable, decide_eq_true_eq]
    by_cases z : i.natAbs = 0
    · rw [z]; decide
    · have := (Nat.log2_lt z (k := 41)).mpr (by omega)
      omega
  | .str x, h => by simp [PyData.showable, PyData.hasDict]
  | .list l, h => by
    simp only [gdD] at h
    have := gdL_show hB l h
    simp [PyData.showable, PyData.hasDict, this.1, this.2]
  | .tuple l, h => by
    simp only [gdD] at h
    have := gdL_show hB l h
    simp [PyData.showable, PyData.hasDict, this.1, this.2]
  | .dict _, h => by simp [gdD] at h
theorem gdL_show {B : Nat} (hB : B < 10 ^ 12) : ∀ l : List D, gdL B l = true → PyData.showableAll l = true ∧ PyData.hasDictAll l = false
  | [], _ => by simp [PyData.showableAll, PyData.hasDictAll]
  | d :: l, h => by
    simp only [gdL, Bool.and_eq_true] at h
    have h1 := gd_show hB d h.1
    have h2 := gdL_show hB l h.2
    simp [PyData.showableAll, PyData.hasDictAll, h1.1, h1.2, h2.1, h2.2]
end
mutual
theorem gd_mono {B C : Nat} (hBC : B ≤ C) : ∀ d : D, gdD B d = true → gdD C d = true
  | .none, h => h
  | .bool _, h => h
  | .int i, h => by simp only [gdD, decide_eq_true_eq] at h ⊢; omega
  | .str x, h => h
  | .list l, h => by simp only [gdD] at h ⊢; exact gdL_mono hBC l h
  | .tuple l, h => by simp only [gdD] at h ⊢; exact gdL_mono hBC l h
  | .dict _, h => by simp [gdD] at h
theorem gdL_mono {B C : Nat} (hBC : B ≤ C) : ∀ l : List D, gdL B l = true → gdL C l = true
  | [], h => h
  | d :: l, h => by
    simp only [gdL, Bool.and_eq_true] at h ⊢
    exact ⟨gd_mono hBC d h.1, gdL_mono hBC l h.2⟩
end
/-- integers up to B, S nodes, H deep -/
def Told (B S H : Nat) (v : D) : Prop := gdD B v = true ∧ szD v ≤ S ∧ v.depth ≤ H
theorem Told.mono {B S H B' S' H' : Nat} {v : D} (h : Told B S H v) (h1 : B ≤ B') (h2 : S ≤ S') (h3 : H ≤ H') : Told B' S' H' v :=
  ⟨gd_mono h1 v h.1, Nat.le_trans h.2.1 h2, Nat.le_trans h.2.2 h3⟩
theorem szL_all {S : Nat} : ∀ {l : List D}, (∀ d ∈ l, szD d ≤ S) → szL l ≤ l.length * S
  | [], _ => by simp [szL]
  | d :: l, h => by
    have h1 := h d (List.mem_cons_self ..)
    have h2 := szL_all (l := l) fun d hd => h d (List.mem_cons_of_mem _ hd)
    simp only [szL, List.length_cons, Nat.add_mul]; omega
theorem told_tuple {B S H n : Nat} {l : List D} (h : ∀ d ∈ l, Told B S H d) (hn : l.length ≤ n) : Told B (1 + n * S) (H + 1) (.tuple l) := by
  refine ⟨?_, ?_, dpT.mpr fun d hd => (h d hd).2.2⟩
  · simp only [gdD]; exact gdL_iff.mpr fun d hd => (h d hd).1
  · have := szL_all fun d hd => (h d hd).2.1
    have := Nat.mul_le_mul_right S hn
    simp only [szD]; omega
theorem told_list {B S H n : Nat} {l : List D} (h : ∀ d ∈ l, Told B S H d) (hn : l.length ≤ n) : Told B (1 + n * S) (H + 1) (.list l) := by
  refine ⟨?_, ?_, dpLs.mpr fun d hd => (h d hd).2.2⟩
  · simp only [gdD]; exact gdL_iff.mpr fun d hd => (h d hd).1
  · have := szL_all fun d hd => (h d hd).2.1
    have := Nat.mul_le_mul_right S hn
    simp only [szD]; omega
theorem told_int {B : Nat} {i : Int} (h : i.natAbs ≤ B) : Told B 1 0 (.int i) := by
  refine ⟨?_, ?_, ?_⟩
  · simpa [gdD] using h
  · simp [szD]
  · simp [PyData.depth]
/-- may be shown, and no row is long -/
def Fine (v : D) : Prop := reprOk v = true ∧ Thin v
theorem told_fine {B S H : Nat} {v : D} (h : Told B S H v) (hB : B < 10 ^ 12) (hS : S ≤ 1000000) (hH : H ≤ 150) : Fine v := by
  obtain ⟨h1, h2, h3⟩ := h
  have hs := gd_show hB v h1
  have hw := wt_le hB v h1
  have hl := shown_le v
  have e : v.shown.length + 64 ≤ sizeLine := by unfold PySem.sizeLine; omega
  constructor
  · unfold reprOk
    simp only [Bool.and_eq_true, decide_eq_true_eq, Bool.or_eq_true, Bool.not_eq_true']
    exact ⟨⟨⟨hs.1, .inl hs.2⟩, by omega⟩, e⟩
  · intro l hl
    subst hl
    simp only [szD] at h2
    have a := szL_len l
    refine ⟨by omega, fun s hs m hm => ?_⟩
    subst hm
    have b := szL_mem hs
    simp only [szD] at b
    have c := szL_len m
    refine ⟨by omega, fun p hp r hr => ?_⟩
    subst hr
    have d := szL_mem hp
    simp only [szD] at d
    have e := szL_len r
    omega
/-! ### slices at a place -/
theorem cut_upto {p q : List D} : cutD (p ++ q) none (some (p.length : Int)) = p := by
  unfold cutD
  rw [HT.sIx_none, HT.sIx_nat, List.drop_zero, Nat.sub_zero, List.length_append, Nat.min_eq_left (Nat.le_add_right _ _), List.take_left']
  rfl
theorem cut_from {p q : List D} {k : Int} (h : k = p.length) : cutD (p ++ q) (some k) none = q := by
  subst h
  unfold cutD
  rw [HT.sIx_none, HT.sIx_nat, List.length_append, Nat.min_eq_left (Nat.le_add_right _ _), List.drop_left' rfl, Nat.add_sub_cancel_left, List.take_length]
theorem split_at {l : List D} {a : Int} (h0 : 0 ≤ a) (h1 : a < (l.length : Int)) : ∃ p x q, l = p ++ x :: q ∧ a = (p.length : Int) := by
  have hl : a.toNat < l.length := by omega
  refine ⟨l.take a.toNat, l[a.toNat], l.drop (a.toNat + 1), ?_, ?_⟩
  · rw [← List.drop_eq_getElem_cons hl, List.take_append_drop]
  · rw [List.length_take]; omega
theorem at_mid {p q : List D} {x : D} : atI (p ++ x :: q) (p.length : Int) = some x := by
  rw [atI_nat]; simp
theorem cutS_len {x : Str} {a b : Option Int} : (cutS x a b).length ≤ x.length := by
  unfold cutS Str.length
  simp only [List.size_toArray, List.length_take, List.length_drop, Array.length_toList]
  omega
theorem cutS_mem {x : Str} {a b : Option Int} {c : Nat} (h : c ∈ (cutS x a b).cps.toList) : c ∈ x.cps.toList := by
  unfold cutS at h
  exact List.mem_of_mem_drop (List.mem_of_mem_take h)
end Ft
/-! Bent: the drawn change of a tree. -/
namespace Ft
open PySem L2
theorem odd_at {r : Int} (h0 : 0 ≤ r) (h1 : r < 10) : ∃ x, atI [PyData.str "x", .bool true, .tuple [], .int 0, .int (-1), .none, .bool false, .list [], .str "in", .int 1] r = some x ∧ Told 1 3 1 x := by
  obtain ⟨x, hx, e⟩ := atI_mem (l := [PyData.str "x", .bool true, .tuple [], .int 0, .int (-1), .none, .bool false, .list [], .str "in", .int 1]) h0 (by simpa using h1)
  refine ⟨x, e, ?_⟩
  simp only [List.mem_cons, List.not_mem_nil, or_false] at hx
  rcases hx with rfl | rfl | rfl | rfl | rfl | rfl | rfl | rfl | rfl | rfl
  all_goals exact ⟨by decide, by decide, by decide⟩
theorem shift_at {r : Int} (h0 : 0 ≤ r) (h1 : r < 4) : ∃ k : Int, atI [PyData.int 1, .int (-1), .int 2, .int 0] r = some (.int k) ∧ k.natAbs ≤ 2 := by
  obtain ⟨x, hx, e⟩ := atI_mem (l := [PyData.int 1, .int (-1), .int 2, .int 0]) h0 (by simpa using h1)
  simp only [List.mem_cons, List.not_mem_nil, or_false] at hx
  rcases hx with rfl | rfl | rfl | rfl
  all_goals exact ⟨_, e, by decide⟩
def Bends (B : Nat) (v w : D) : Prop := Told (B + 2) (3 * szD v + 20) (v.depth + 2) w
theorem bent_base {B n : Nat} {v : D} {l : List D} (hp : Pool l) (hv : gdD B v = true) (hz : szD v ≤ 100000) (hn : v.isTuple = false ∨ v = .tuple []) : ∃ w l', f_law_bent (n + 1) [.own (.lst l) false, .val v] = .ok w [.lst l'] ∧ Pool l' ∧ Bends B v w := by
  obtain ⟨t, l1, e1, t0, t1, hp1⟩ := draw_ok hp (m := 9) (by omega) (by omega)
  have ef : f_law_bent (n + 1) = fn 2 6 (b_law_bent (f_law_bent n)) := rfl
  rw [ef]; unfold b_law_bent
  have hi := law_is_integer_ok v
  by_cases z : t = 0
  · subst z
    obtain ⟨r, l2, e2, r0, r1, hp2⟩ := draw_ok hp1 (m := 10) (by omega) (by omega)
    obtain ⟨x, ex, hx⟩ := odd_at r0 r1
    refine ⟨x, l2, ?_, hp2, hx.mono (by omega) (by have := szD_pos v; omega) (by omega)⟩
    rcases hn with hn | rfl
    · simp -implicitDefEqProofs (decide := true) only [evs0, evs1, evs2, evs3, evs4, evs5, evs6, evs7, evs8, evs9, evs10, List.length_cons, List.length_nil, Nat.reduceAdd, Nat.reduceSub, ↓reduceIte, Nat.reduceLeDiff, Int.reduceEq, Int.reduceLT, Int.reduceLE, Option.isSome_some, Option.isSome_none, Option.getD_some, Option.getD_none, hn, e1, e2, ex]
    · simp -implicitDefEqProofs (decide := true) only [evs0, evs1, evs2, evs3, evs4, evs5, evs6, evs7, evs8, evs9, evs10, List.length_cons, List.length_nil, Nat.reduceAdd, Nat.reduceSub, ↓reduceIte, Nat.reduceLeDiff, Int.reduceEq, Int.reduceLT, Int.reduceLE, Option.isSome_some, Option.isSome_none, Option.getD_some, Option.getD_none, e1, e2, ex]
  · have other : (v.isTuple = false ∨ v = .tuple []) → wholeD v = false → v.isStr = false → ∃ w l', fn 2 6 (b_law_bent (f_law_bent n)) [.own (.lst l) false, .val v] = .ok w [.lst l'] ∧ Pool l' ∧ Bends B v w := by
      intro hn h1 h2
      unfold b_law_bent
      by_cases c : t < 5
      · refine ⟨.tuple [v, .int 0], l1, ?_, hp1, ?_⟩
        · rcases hn with hn | rfl
          · simp -implicitDefEqProofs (decide := true) only [evs0, evs1, evs2, evs3, evs4, evs5, evs6, evs7, evs8, evs9, evs10, List.length_cons, List.length_nil, Nat.reduceAdd, Nat.reduceSub, ↓reduceIte, Nat.reduceLeDiff, Int.reduceEq, Int.reduceLT, Int.reduceLE, Option.isSome_some, Option.isSome_none, Option.getD_some, Option.getD_none, hn, e1, z, hi, h1, h2, c]
          · simp -implicitDefEqProofs (decide := true) only [evs0, evs1, evs2, evs3, evs4, evs5, evs6, evs7, evs8, evs9, evs10, List.length_cons, List.length_nil, Nat.reduceAdd, Nat.reduceSub, ↓reduceIte, Nat.reduceLeDiff, Int.reduceEq, Int.reduceLT, Int.reduceLE, Option.isSome_some, Option.isSome_none, Option.getD_some, Option.getD_none, e1, z, hi, h1, h2, c]
        · refine ⟨by simp [gdD, gdL, gd_mono (C := B + 2) (by omega) v hv], by simp [szD, szL]; omega, dpT.mpr fun d hd => ?_⟩
          simp only [List.mem_cons, List.not_mem_nil, or_false] at hd
          rcases hd with rfl | rfl
          · omega
          · simp [PyData.depth]
      · refine ⟨.tuple [], l1, ?_, hp1, ?_⟩
        · rcases hn with hn | rfl
          · simp -implicitDefEqProofs (decide := true) only [evs0, evs1, evs2, evs3, evs4, evs5, evs6, evs7, evs8, evs9, evs10, List.length_cons, List.length_nil, Nat.reduceAdd, Nat.reduceSub, ↓reduceIte, Nat.reduceLeDiff, Int.reduceEq, Int.reduceLT, Int.reduceLE, Option.isSome_some, Option.isSome_none, Option.getD_some, Option.getD_none, hn, e1, z, hi, h1, h2, c]
          · simp -implicitDefEqProofs (decide := true) only [evs0, evs1, evs2, evs3, evs4, evs5, evs6, evs7, evs8, evs9, evs10, List.length_cons, List.length_nil, Nat.reduceAdd, Nat.reduceSub, ↓reduceIte, Nat.reduceLeDiff, Int.reduceEq, Int.reduceLT, Int.reduceLE, Option.isSome_some, Option.isSome_none, Option.getD_some, Option.getD_none, e1, z, hi, h1, h2, c]
        · refine ⟨rfl, by simp [szD, szL], by simp [PyData.depth, PyData.depthAll]⟩
    unfold b_law_bent at other
    cases v with
    | int i =>
      obtain ⟨r, l2, e2, r0, r1, hp2⟩ := draw_ok hp1 (m := 4) (by omega) (by omega)
      obtain ⟨k, ek, hk⟩ := shift_at r0 r1
      refine ⟨.int (i + k), l2, ?_, hp2, (told_int (B := B + 2) ?_).mono (Nat.le_refl _) (by simp [szD]) (Nat.zero_le _)⟩
      · simp -implicitDefEqProofs (decide := true) only [evs0, evs1, evs2, evs3, evs4, evs5, evs6, evs7, evs8, evs9, evs10, List.length_cons, List.length_nil, Nat.reduceAdd, Nat.reduceSub, ↓reduceIte, Nat.reduceLeDiff, Int.reduceEq, Int.reduceLT, Int.reduceLE, Option.isSome_some, Option.isSome_none, Option.getD_some, Option.getD_none, e1, z, hi, wholeD, e2, ek]
      · simp only [gdD, decide_eq_true_eq] at hv
        omega
    | str x =>
      obtain ⟨r, l2, e2, r0, r1, hp2⟩ := draw_ok hp1 (m := 5) (by omega) (by omega)
      have hx : x.length ≤ 100000 := by simp only [szD] at hz; omega
      have s1 : slB (.str x) (some 1) none = some (.str (cutS x (some 1) none)) := if_pos (by unfold PySem.sizeLine; omega)
      have s2 : slB (.str x) none (some 1) = some (.str (cutS x none (some 1))) := if_pos (by unfold PySem.sizeLine; omega)
      have a1 : ∀ c : String, (c : Str).length ≤ 1 → addB (.str x) (.str c) = some (.str (x ++ (c : Str))) := fun c hc => if_pos (by unfold PySem.sizeLine; omega)
      have q1 := a1 "a" (by decide)
      have q2 := a1 "A" (by decide)
      have q3 := a1 " " (by decide)
      obtain ⟨w, hw, ew⟩ := atI_mem (l := [PyData.str (x ++ (("a" : String) : Str)), .str (cutS x (some 1) none), .str (x ++ (("A" : String) : Str)), .str (x ++ ((" " : String) : Str)), .str (cutS x none (some 1))]) r0 (by simpa using r1)
      refine ⟨w, l2, ?_, hp2, ?_⟩
      · simp -implicitDefEqProofs (decide := true) only [evs0, evs1, evs2, evs3, evs4, evs5, evs6, evs7, evs8, evs9, evs10, List.length_cons, List.length_nil, Nat.reduceAdd, Nat.reduceSub, ↓reduceIte, Nat.reduceLeDiff, Int.reduceEq, Int.reduceLT, Int.reduceLE, Option.isSome_some, Option.isSome_none, Option.getD_some, Option.getD_none, e1, z, hi, wholeD, e2, s1, s2, q1, q2, q3, ew]
      · simp only [gdD] at hv
        have hc := List.all_eq_true.mp hv
        have plus : ∀ c : String, (c : Str).length ≤ 1 → (∀ b ∈ (c : Str).cps.toList, b < 4294967296) → Bends B (.str x) (.str (x ++ (c : Str))) := fun c h1 h2 => by
          refine ⟨?_, ?_, by simp [PyData.depth]⟩
          · simp only [gdD]
            refine List.all_eq_true.mpr fun b hb => ?_
            have hb : b ∈ (x.cps ++ (c : Str).cps).toList := hb
            rw [Array.toList_append, List.mem_append] at hb
            rcases hb with hb | hb
            · exact hc b hb
            · simpa using h2 b hb
          · have e : (x ++ (c : Str)).length = x.length + (c : Str).length := strLen_append ..
            simp only [szD]; omega
        have cut : ∀ a b, Bends B (.str x) (.str (cutS x a b)) := fun a b => by
          refine ⟨?_, ?_, by simp [PyData.depth]⟩
          · simp only [gdD]
            exact List.all_eq_true.mpr fun c h => hc c (cutS_mem h)
          · have := cutS_len (x := x) (a := a) (b := b)
            simp only [szD]; omega
        simp only [List.mem_cons, List.not_mem_nil, or_false] at hw
        rcases hw with rfl | rfl | rfl | rfl | rfl
        · exact plus _ (by decide) (by decide)
        · exact cut _ _
        · exact plus _ (by decide) (by decide)
        · exact plus _ (by decide) (by decide)
        · exact cut _ _
    | none => exact other hn rfl rfl
    | bool _ => exact other hn rfl rfl
    | list _ => exact other hn rfl rfl
    | tuple _ => exact other hn rfl rfl
    | dict _ => exact other hn rfl rfl
theorem bends_row {B k : Nat} {m r : List D} (h1 : ∀ d ∈ r, gdD (B + 2) d = true ∧ d.depth ≤ (PyData.tuple m).depth + 1) (h2 : szL r ≤ 3 * szL m + 20) : Bends B (.tuple m) (.tuple r) ∧ Bends B (.tuple m) (.list r) := by
  have g : gdL (B + 2) r = true := gdL_iff.mpr fun d hd => (h1 d hd).1
  refine ⟨⟨by simp only [gdD]; exact g, by simp only [szD]; omega, dpT.mpr fun d hd => (h1 d hd).2⟩, ⟨by simp only [gdD]; exact g, by simp only [szD]; omega, dpLs.mpr fun d hd => (h1 d hd).2⟩⟩
theorem bent_tuple {B n : Nat} {m l : List D} (hp : Pool l) (hv : gdD B (.tuple m) = true) (hz : szD (.tuple m) ≤ 100000) (hm : 0 < m.length) (hr : ∀ x l, x ∈ m → Pool l → ∃ w l', f_law_bent n [.own (.lst l) false, .val x] = .ok w [.lst l'] ∧ Pool l' ∧ Bends B x w) : ∃ w l', f_law_bent (n + 1) [.own (.lst l) false, .val (.tuple m)] = .ok w [.lst l'] ∧ Pool l' ∧ Bends B (.tuple m) w := by
  have hl := szL_len m
  have hz' : szL m ≤ 100000 := by simp only [szD] at hz; omega
  have hg : ∀ d ∈ m, gdD B d = true := by simp only [gdD] at hv; exact gdL_iff.mp hv
  have hd : ∀ d ∈ m, gdD (B + 2) d = true ∧ d.depth ≤ (PyData.tuple m).depth + 1 := fun d hd => ⟨gd_mono (by omega) d (hg d hd), by
    have : (PyData.tuple m).depth = PyData.depthAll m + 1 := by simp only [PyData.depth]
    have := dpL_le.mp (Nat.le_refl (PyData.depthAll m)) d hd
    omega⟩
  have hi0 : (0 : Int) < (m.length : Int) := by omega
  have hi1 : ¬ (m.length : Int) = 0 := by omega
  obtain ⟨r, l1, e1, r0, r1, hp1⟩ := draw_ok hp (m := 4) (by omega) (by omega)
  have ef : f_law_bent (n + 1) = fn 2 6 (b_law_bent (f_law_bent n)) := rfl
  rw [ef]; unfold b_law_bent
  by_cases hr0 : 0 < r
  · obtain ⟨a, l2, e2, a0, a1, hp2⟩ := draw_ok hp1 (m := m.length) hi0 (by omega)
    obtain ⟨p, x, q, em, rfl⟩ := split_at a0 a1
    have hx : x ∈ m := by rw [em]; simp
    obtain ⟨w, l3, e3, hp3, hb⟩ := hr x l2 hx hp2
    have es : szL m = szL p + (szD x + szL q) := by rw [em, szL_app]; simp only [szL]
    have lp : p.length ≤ m.length ∧ q.length ≤ m.length := by rw [em]; simp; omega
    have s1 : slB (.tuple m) none (some (p.length : Int)) = some (.tuple p) := by show some (PyData.tuple (cutD m none _)) = _; rw [em, cut_upto]
    have s2 : slB (.tuple m) (some ((p.length : Int) + 1)) none = some (.tuple q) := by
      show some (PyData.tuple (cutD m _ none)) = _
      rw [em, show p ++ x :: q = (p ++ [x]) ++ q by simp, cut_from (by simp)]
    have ea : atI m (p.length : Int) = some x := by rw [em, at_mid]
    have q1 : addB (.tuple p) (.tuple [w]) = some (.tuple (p ++ [w])) := addB_tuple (by simp; omega)
    have q2 : addB (.tuple (p ++ [w])) (.tuple q) = some (.tuple (p ++ [w] ++ q)) := addB_tuple (by simp; omega)
    refine ⟨.tuple (p ++ [w] ++ q), l3, ?_, hp3, ?_⟩
    · simp -implicitDefEqProofs (decide := true) only [evs0, evs1, evs2, evs3, evs4, evs5, evs6, evs7, evs8, evs9, evs10, List.length_cons, List.length_nil, Nat.reduceAdd, Nat.reduceSub, ↓reduceIte, Nat.reduceLeDiff, Int.reduceEq, Int.reduceLT, Int.reduceLE, Option.isSome_some, Option.isSome_none, Option.getD_some, Option.getD_none, hi0, e1, hr0, e2, e3, s1, s2, ea, q1, q2]
    · refine (bends_row (k := 0) (fun d hd' => ?_) ?_).1
      · simp only [List.append_assoc, List.mem_append, List.mem_cons, List.not_mem_nil, or_false] at hd'
        rcases hd' with h | rfl | h
        · exact hd d (by rw [em]; simp [h])
        · refine ⟨hb.1, Nat.le_trans hb.2.2 ?_⟩
          have : (PyData.tuple m).depth = PyData.depthAll m + 1 := by simp only [PyData.depth]
          have := dpL_le.mp (Nat.le_refl (PyData.depthAll m)) x hx
          omega
        · exact hd d (by rw [em]; simp [h])
      · have := hb.2.1
        rw [szL_app, szL_app]
        simp only [szL]
        omega
  · have z4 : r = 0 := by omega
    subst z4
    obtain ⟨t, l2, e2, t0, t1, hp2⟩ := draw_ok hp1 (m := 9) (by omega) (by omega)
    have hi := law_is_integer_ok (.tuple m)
    by_cases z : t = 0
    · subst z
      obtain ⟨r, l3, e3, r0, r1, hp3⟩ := draw_ok hp2 (m := 10) (by omega) (by omega)
      obtain ⟨x, ex, hx⟩ := odd_at r0 r1
      refine ⟨x, l3, ?_, hp3, hx.mono (by omega) (by have := szD_pos (.tuple m); omega) (by omega)⟩
      simp -implicitDefEqProofs (decide := true) only [evs0, evs1, evs2, evs3, evs4, evs5, evs6, evs7, evs8, evs9, evs10, List.length_cons, List.length_nil, Nat.reduceAdd, Nat.reduceSub, ↓reduceIte, Nat.reduceLeDiff, Int.reduceEq, Int.reduceLT, Int.reduceLE, Option.isSome_some, Option.isSome_none, Option.getD_some, Option.getD_none, hi0, e1, e2, e3, ex]
    · obtain ⟨a, l3, e3, a0, a1, hp3⟩ := draw_ok hp2 (m := m.length) hi0 (by omega)
      obtain ⟨p, x, q, em, rfl⟩ := split_at a0 a1
      have hx : x ∈ m := by rw [em]; simp
      have es : szL m = szL p + (szD x + szL q) := by rw [em, szL_app]; simp only [szL]
      have lp : p.length + q.length + 1 = m.length := by rw [em]; simp; omega
      have s1 : slB (.tuple m) none (some (p.length : Int)) = some (.tuple p) := by show some (PyData.tuple (cutD m none _)) = _; rw [em, cut_upto]
      have s2 : slB (.tuple m) (some ((p.length : Int) + 1)) none = some (.tuple q) := by
        show some (PyData.tuple (cutD m _ none)) = _
        rw [em, show p ++ x :: q = (p ++ [x]) ++ q by simp, cut_from (by simp)]
      have s3 : slB (.tuple m) (some (p.length : Int)) none = some (.tuple (x :: q)) := by
        show some (PyData.tuple (cutD m _ none)) = _
        rw [em, cut_from rfl]
      have ea : atI m (p.length : Int) = some x := by rw [em, at_mid]
      by_cases c3 : t < 3
      · have q1 : addB (.tuple p) (.tuple q) = some (.tuple (p ++ q)) := addB_tuple (by omega)
        refine ⟨.tuple (p ++ q), l3, ?_, hp3, (bends_row (k := 0) (fun d hd' => hd d ?_) ?_).1⟩
        · simp -implicitDefEqProofs (decide := true) only [evs0, evs1, evs2, evs3, evs4, evs5, evs6, evs7, evs8, evs9, evs10, List.length_cons, List.length_nil, Nat.reduceAdd, Nat.reduceSub, ↓reduceIte, Nat.reduceLeDiff, Int.reduceEq, Int.reduceLT, Int.reduceLE, Option.isSome_some, Option.isSome_none, Option.getD_some, Option.getD_none, hi0, hi1, e1, e2, z, hi, wholeD, e3, c3, s1, s2, q1]
        · rw [em]; rcases List.mem_append.mp hd' with h | h <;> simp [h]
        · rw [szL_app]; omega
      · by_cases c5 : t < 5
        · have q1 : addB (.tuple p) (.tuple [x]) = some (.tuple (p ++ [x])) := addB_tuple (by simp; omega)
          have q2 : addB (.tuple (p ++ [x])) (.tuple (x :: q)) = some (.tuple (p ++ [x] ++ x :: q)) := addB_tuple (by simp; omega)
          refine ⟨.tuple (p ++ [x] ++ x :: q), l3, ?_, hp3, (bends_row (k := 0) (fun d hd' => hd d ?_) ?_).1⟩
          · simp -implicitDefEqProofs (decide := true) only [evs0, evs1, evs2, evs3, evs4, evs5, evs6, evs7, evs8, evs9, evs10, List.length_cons, List.length_nil, Nat.reduceAdd, Nat.reduceSub, ↓reduceIte, Nat.reduceLeDiff, Int.reduceEq, Int.reduceLT, Int.reduceLE, Option.isSome_some, Option.isSome_none, Option.getD_some, Option.getD_none, hi0, hi1, e1, e2, z, hi, wholeD, e3, c3, c5, s1, s3, ea, q1, q2]
          · rw [em]
            simp only [List.append_assoc, List.mem_append, List.mem_cons, List.not_mem_nil, or_false] at hd' ⊢
            rcases hd' with h | h | h | h <;> simp [h]
          · rw [szL_app, szL_app]; simp only [szL]; omega
        · by_cases z5 : t = 5
          · subst z5
            refine ⟨.list m, l3, ?_, hp3, (bends_row (k := 0) hd (by omega)).2⟩
            simp -implicitDefEqProofs (decide := true) only [evs0, evs1, evs2, evs3, evs4, evs5, evs6, evs7, evs8, evs9, evs10, List.length_cons, List.length_nil, Nat.reduceAdd, Nat.reduceSub, ↓reduceIte, Nat.reduceLeDiff, Int.reduceEq, Int.reduceLT, Int.reduceLE, Option.isSome_some, Option.isSome_none, Option.getD_some, Option.getD_none, hi0, hi1, e1, e2, hi, wholeD, e3]
          · obtain ⟨o, l4, e4, o0, o1, hp4⟩ := draw_ok hp3 (m := m.length) hi0 (by omega)
            obtain ⟨o, rfl⟩ : ∃ k : Nat, o = (k : Int) := ⟨o.toNat, by omega⟩
            have o1' : o < m.length := by omega
            obtain ⟨y, hy, ey⟩ := atI_mem o0 o1
            have n1 : ixN m.length (p.length : Int) = some p.length := ixN_nat (by omega)
            have n2 : ixN (m.set p.length y).length (o : Int) = some o := ixN_nat (by rw [List.length_set]; omega)
            refine ⟨.tuple ((m.set p.length y).set o x), l4, ?_, hp4, (bends_row (k := 0) (fun d hd' => hd d ?_) ?_).1⟩
            · simp -implicitDefEqProofs (decide := true) only [evs0, evs1, evs2, evs3, evs4, evs5, evs6, evs7, evs8, evs9, evs10, List.length_cons, List.length_nil, Nat.reduceAdd, Nat.reduceSub, ↓reduceIte, Nat.reduceLeDiff, Int.reduceEq, Int.reduceLT, Int.reduceLE, Option.isSome_some, Option.isSome_none, Option.getD_some, Option.getD_none, hi0, hi1, e1, e2, z, hi, wholeD, e3, c3, c5, z5, e4, ea, ey, n1, n2]
            · rcases List.mem_or_eq_of_mem_set hd' with h | rfl
              · rcases List.mem_or_eq_of_mem_set h with h | rfl
                · exact h
                · exact hy
              · exact hx
            · have := szL_set (m.set p.length y) o x
              have := szL_set m p.length y
              have := szL_mem hx
              have := szL_mem hy
              omega
theorem bent_ok {B : Nat} : ∀ (n : Nat) (v : D) (l : List D), Pool l → v.depth < n → gdD B v = true → szD v ≤ 100000 → ∃ w l', f_law_bent n [.own (.lst l) false, .val v] = .ok w [.lst l'] ∧ Pool l' ∧ Bends B v w
  | 0, v, _, _, h, _, _ => absurd h (Nat.not_lt_zero _)
  | n + 1, v, l, hp, hn, hv, hz => by
    by_cases hb : v.isTuple = false ∨ v = .tuple []
    · exact bent_base hp hv hz hb
    · cases v with
      | tuple m =>
        have hm : 0 < m.length := by
          cases m with
          | nil => exact absurd (.inr rfl) hb
          | cons => simp
        refine bent_tuple hp hv hz hm fun x l hx hp => bent_ok n x l hp ?_ ?_ ?_
        · have : (PyData.tuple m).depth = PyData.depthAll m + 1 := by simp only [PyData.depth]
          have := dpL_le.mp (Nat.le_refl (PyData.depthAll m)) x hx
          omega
        · simp only [gdD] at hv; exact gdL_iff.mp hv x hx
        · have := szL_mem hx
          simp only [szD] at hz; omega
      | none => exact absurd (.inl rfl) hb
      | bool _ => exact absurd (.inl rfl) hb
      | int _ => exact absurd (.inl rfl) hb
      | str _ => exact absurd (.inl rfl) hb
      | list _ => exact absurd (.inl rfl) hb
      | dict _ => exact absurd (.inl rfl) hb
end Ft
/-! Odd: whole numbers made booleans, tuples made lists, odd values. -/
namespace Ft
open PySem L2
mutual
def boolD : D → D
  | .tuple l => .tuple (boolL l)
  | .int i => if i ∈ [(0 : Int), 1] then .bool (decide (i = 1)) else .int i
  | .none => .none
  | .bool b => .bool b
  | .str x => .str x
  | .list l => .list l
  | .dict k => .dict k
def boolL : List D → List D
  | [] => []
  | d :: l => boolD d :: boolL l
end
theorem boolL_map : ∀ l : List D, boolL l = l.map boolD
  | [] => rfl
  | d :: l => by simp [boolL, boolL_map l]
mutual
theorem bool_told {B : Nat} : ∀ d : D, gdD B d = true → gdD B (boolD d) = true ∧ szD (boolD d) = szD d ∧ (boolD d).depth = d.depth
  | .none, h => ⟨h, rfl, rfl⟩
  | .bool b, h => ⟨h, rfl, rfl⟩
  | .int i, h => by
    simp only [boolD]
    split
    · exact ⟨by simp only [gdD], by simp only [szD], by simp only [PyData.depth]⟩
    · exact ⟨h, rfl, rfl⟩
  | .str x, h => ⟨h, rfl, rfl⟩
  | .list l, h => ⟨h, rfl, rfl⟩
  | .tuple l, h => by
    simp only [gdD] at h
    have q := boolL_told l h
    simp only [boolD, gdD, szD, PyData.depth]
    exact ⟨q.1, by omega, by omega⟩
  | .dict k, h => by simp [gdD] at h
theorem boolL_told {B : Nat} : ∀ l : List D, gdL B l = true → gdL B (boolL l) = true ∧ szL (boolL l) = szL l ∧ PyData.depthAll (boolL l) = PyData.depthAll l
  | [], h => ⟨h, rfl, rfl⟩
  | d :: l, h => by
    simp only [gdL, Bool.and_eq_true] at h
    have q1 := bool_told d h.1
    have q2 := boolL_told l h.2
    simp only [boolL, gdL, szL, PyData.depthAll, Bool.and_eq_true]
    exact ⟨⟨q1.1, q2.1⟩, by omega, by rw [q1.2.2, q2.2.2]⟩
end
theorem Told.bool {B S H : Nat} {v : D} (h : Told B S H v) : Told B S H (boolD v) := by
  have q := bool_told v h.1
  exact ⟨q.1, by rw [q.2.1]; exact h.2.1, by rw [q.2.2]; exact h.2.2⟩
theorem depth_mem {m : List D} {x : D} (h : x ∈ m) : x.depth < (PyData.tuple m).depth := by
  have : (PyData.tuple m).depth = PyData.depthAll m + 1 := by simp only [PyData.depth]
  have := dpL_le.mp (Nat.le_refl (PyData.depthAll m)) x h
  omega
theorem booled_ok : ∀ (n : Nat) (v : D), v.depth < n → szD v ≤ 1000000 → f_law_booled n [.val v] = .ok (boolD v) []
  | 0, v, h, _ => absurd h (Nat.not_lt_zero _)
  | n + 1, v, h, hz => by
    have ef : f_law_booled (n + 1) = fn 1 2 (b_law_booled (f_law_booled n)) := rfl
    have hi := law_is_integer_ok v
    rw [ef]; unfold b_law_booled
    cases v with
    | tuple l =>
      have hl := szL_len l
      simp only [szD] at hz
      have c := comp_map (bd := bN 1) (elt := law_booled_e1 (f_law_booled n)) (vs := [1]) l [.val (.tuple l), .un] (fun d => [.val (.tuple l), .val d]) boolD (by omega) (fun d _ => by simp -implicitDefEqProofs only [evs0, evs1, evs2, evs3, evs4, evs5, evs6, evs7, evs8, evs9, evs10, List.length_cons, List.length_nil, Nat.reduceAdd, Nat.reduceSub, ↓reduceIte, Nat.reduceLeDiff, Int.reduceEq, Int.reduceLT, Int.reduceLE, Option.isSome_some, Option.isSome_none, Option.getD_some, Option.getD_none]) (fun d hd => by
        have e := booled_ok n d (by have := depth_mem hd; omega) (by have := szL_mem hd; omega)
        unfold law_booled_e1
        simp -implicitDefEqProofs only [evs0, evs1, evs2, evs3, evs4, evs5, evs6, evs7, evs8, evs9, evs10, List.length_cons, List.length_nil, Nat.reduceAdd, Nat.reduceSub, ↓reduceIte, Nat.reduceLeDiff, Int.reduceEq, Int.reduceLT, Int.reduceLE, Option.isSome_some, Option.isSome_none, Option.getD_some, Option.getD_none, e]) (fun d => by simp -implicitDefEqProofs only [evs0, evs1, evs2, evs3, evs4, evs5, evs6, evs7, evs8, evs9, evs10, List.length_cons, List.length_nil, Nat.reduceAdd, Nat.reduceSub, ↓reduceIte, Nat.reduceLeDiff, Int.reduceEq, Int.reduceLT, Int.reduceLE, Option.isSome_some, Option.isSome_none, Option.getD_some, Option.getD_none])
      unfold law_booled_c1
      simp -implicitDefEqProofs (decide := true) only [evs0, evs1, evs2, evs3, evs4, evs5, evs6, evs7, evs8, evs9, evs10, List.length_cons, List.length_nil, Nat.reduceAdd, Nat.reduceSub, ↓reduceIte, Nat.reduceLeDiff, Int.reduceEq, Int.reduceLT, Int.reduceLE, Option.isSome_some, Option.isSome_none, Option.getD_some, Option.getD_none, c, boolD, boolL_map]
    | int i =>
      have hin : toB inB (.int i) (.tuple [.int 0, .int 1]) = some (.bool (decide (i ∈ [(0 : Int), 1]))) := in_intsT [0, 1] i
      by_cases c : i ∈ [(0 : Int), 1]
      · simp -implicitDefEqProofs (decide := true) only [evs0, evs1, evs2, evs3, evs4, evs5, evs6, evs7, evs8, evs9, evs10, List.length_cons, List.length_nil, Nat.reduceAdd, Nat.reduceSub, ↓reduceIte, Nat.reduceLeDiff, Int.reduceEq, Int.reduceLT, Int.reduceLE, Option.isSome_some, Option.isSome_none, Option.getD_some, Option.getD_none, hi, wholeD, hin, c, boolD]
      · simp -implicitDefEqProofs (decide := true) only [evs0, evs1, evs2, evs3, evs4, evs5, evs6, evs7, evs8, evs9, evs10, List.length_cons, List.length_nil, Nat.reduceAdd, Nat.reduceSub, ↓reduceIte, Nat.reduceLeDiff, Int.reduceEq, Int.reduceLT, Int.reduceLE, Option.isSome_some, Option.isSome_none, Option.getD_some, Option.getD_none, hi, wholeD, hin, c, boolD]
    | none => simp -implicitDefEqProofs (decide := true) only [evs0, evs1, evs2, evs3, evs4, evs5, evs6, evs7, evs8, evs9, evs10, List.length_cons, List.length_nil, Nat.reduceAdd, Nat.reduceSub, ↓reduceIte, Nat.reduceLeDiff, Int.reduceEq, Int.reduceLT, Int.reduceLE, Option.isSome_some, Option.isSome_none, Option.getD_some, Option.getD_none, hi, wholeD, boolD]
    | bool _ => simp -implicitDefEqProofs (decide := true) only [evs0, evs1, evs2, evs3, evs4, evs5, evs6, evs7, evs8, evs9, evs10, List.length_cons, List.length_nil, Nat.reduceAdd, Nat.reduceSub, ↓reduceIte, Nat.reduceLeDiff, Int.reduceEq, Int.reduceLT, Int.reduceLE, Option.isSome_some, Option.isSome_none, Option.getD_some, Option.getD_none, hi, wholeD, boolD]
    | str _ => simp -implicitDefEqProofs (decide := true) only [evs0, evs1, evs2, evs3, evs4, evs5, evs6, evs7, evs8, evs9, evs10, List.length_cons, List.length_nil, Nat.reduceAdd, Nat.reduceSub, ↓reduceIte, Nat.reduceLeDiff, Int.reduceEq, Int.reduceLT, Int.reduceLE, Option.isSome_some, Option.isSome_none, Option.getD_some, Option.getD_none, hi, wholeD, boolD]
    | list _ => simp -implicitDefEqProofs (decide := true) only [evs0, evs1, evs2, evs3, evs4, evs5, evs6, evs7, evs8, evs9, evs10, List.length_cons, List.length_nil, Nat.reduceAdd, Nat.reduceSub, ↓reduceIte, Nat.reduceLeDiff, Int.reduceEq, Int.reduceLT, Int.reduceLE, Option.isSome_some, Option.isSome_none, Option.getD_some, Option.getD_none, hi, wholeD, boolD]
    | dict _ => simp -implicitDefEqProofs (decide := true) only [evs0, evs1, evs2, evs3, evs4, evs5, evs6, evs7, evs8, evs9, evs10, List.length_cons, List.length_nil, Nat.reduceAdd, Nat.reduceSub, ↓reduceIte, Nat.reduceLeDiff, Int.reduceEq, Int.reduceLT, Int.reduceLE, Option.isSome_some, Option.isSome_none, Option.getD_some, Option.getD_none, hi, wholeD, boolD]
def listD : Nat → D → D
  | 0, d => match d with
    | .tuple l => .list l
    | d => d
  | k + 1, d => match d with
    | .tuple l => .tuple (l.map (listD k))
    | d => d
theorem list_told {B : Nat} : ∀ (k : Nat) (d : D), gdD B (listD k d) = gdD B d ∧ szD (listD k d) = szD d ∧ (listD k d).depth = d.depth
  | 0, d => by cases d <;> simp [listD, gdD, szD, PyData.depth]
  | k + 1, d => by
    cases d with
    | tuple l =>
      have q : gdL B (l.map (listD k)) = gdL B l ∧ szL (l.map (listD k)) = szL l ∧ PyData.depthAll (l.map (listD k)) = PyData.depthAll l := by
        induction l with
        | nil => simp
        | cons d l ih =>
          have h := list_told (B := B) k d
          simp only [List.map_cons, gdL, szL, PyData.depthAll]
          rw [ih.1, ih.2.1, ih.2.2, h.1, h.2.1, h.2.2]
          exact ⟨rfl, rfl, rfl⟩
      simp only [listD, gdD, szD, PyData.depth]
      rw [q.1, q.2.1, q.2.2]
      exact ⟨rfl, rfl, rfl⟩
    | none => exact ⟨rfl, rfl, rfl⟩
    | bool _ => exact ⟨rfl, rfl, rfl⟩
    | int _ => exact ⟨rfl, rfl, rfl⟩
    | str _ => exact ⟨rfl, rfl, rfl⟩
    | list _ => exact ⟨rfl, rfl, rfl⟩
    | dict _ => exact ⟨rfl, rfl, rfl⟩
theorem Told.listed {B S H k : Nat} {v : D} (h : Told B S H v) : Told B S H (listD k v) := by
  have q := list_told (B := B) k v
  exact ⟨by rw [q.1]; exact h.1, by rw [q.2.1]; exact h.2.1, by rw [q.2.2]; exact h.2.2⟩
theorem listed_ok : ∀ (n k : Nat) (v : D), k < n → szD v ≤ 1000000 → f_law_listed n [.val v, .val (.int k)] = .ok (listD k v) []
  | 0, k, v, h, _ => absurd h (Nat.not_lt_zero _)
  | n + 1, k, v, h, hz => by
    have ef : f_law_listed (n + 1) = fn 2 3 (b_law_listed (f_law_listed n)) := rfl
    rw [ef]; unfold b_law_listed
    cases v with
    | tuple l =>
      cases k with
      | zero => simp -implicitDefEqProofs (decide := true) only [evs0, evs1, evs2, evs3, evs4, evs5, evs6, evs7, evs8, evs9, evs10, List.length_cons, List.length_nil, Nat.reduceAdd, Nat.reduceSub, ↓reduceIte, Nat.reduceLeDiff, Int.reduceEq, Int.reduceLT, Int.reduceLE, Option.isSome_some, Option.isSome_none, Option.getD_some, Option.getD_none, listD, Int.ofNat_zero, Int.natCast_zero]
      | succ k =>
        have hl := szL_len l
        simp only [szD] at hz
        have ek : ((k + 1 : Nat) : Int) - 1 = (k : Int) := by omega
        have nk : ¬ ((k + 1 : Nat) : Int) = 0 := by omega
        have c := comp_map (bd := bN 2) (elt := law_listed_e1 (f_law_listed n)) (vs := [2]) l [.val (.tuple l), .val (.int ((k + 1 : Nat) : Int)), .un] (fun d => [.val (.tuple l), .val (.int ((k + 1 : Nat) : Int)), .val d]) (listD k) (by omega) (fun d _ => by simp -implicitDefEqProofs only [evs0, evs1, evs2, evs3, evs4, evs5, evs6, evs7, evs8, evs9, evs10, List.length_cons, List.length_nil, Nat.reduceAdd, Nat.reduceSub, ↓reduceIte, Nat.reduceLeDiff, Int.reduceEq, Int.reduceLT, Int.reduceLE, Option.isSome_some, Option.isSome_none, Option.getD_some, Option.getD_none]) (fun d hd => by
          have e := listed_ok n k d (by omega) (by have := szL_mem hd; omega)
          unfold law_listed_e1
          simp -implicitDefEqProofs only [evs0, evs1, evs2, evs3, evs4, evs5, evs6, evs7, evs8, evs9, evs10, List.length_cons, List.length_nil, Nat.reduceAdd, Nat.reduceSub, ↓reduceIte, Nat.reduceLeDiff, Int.reduceEq, Int.reduceLT, Int.reduceLE, Option.isSome_some, Option.isSome_none, Option.getD_some, Option.getD_none, ek, e]) (fun d => by simp -implicitDefEqProofs only [evs0, evs1, evs2, evs3, evs4, evs5, evs6, evs7, evs8, evs9, evs10, List.length_cons, List.length_nil, Nat.reduceAdd, Nat.reduceSub, ↓reduceIte, Nat.reduceLeDiff, Int.reduceEq, Int.reduceLT, Int.reduceLE, Option.isSome_some, Option.isSome_none, Option.getD_some, Option.getD_none])
        unfold law_listed_c1
        simp -implicitDefEqProofs (decide := true) only [evs0, evs1, evs2, evs3, evs4, evs5, evs6, evs7, evs8, evs9, evs10, List.length_cons, List.length_nil, Nat.reduceAdd, Nat.reduceSub, ↓reduceIte, Nat.reduceLeDiff, Int.reduceEq, Int.reduceLT, Int.reduceLE, Option.isSome_some, Option.isSome_none, Option.getD_some, Option.getD_none, c, nk, listD]
    | int i => cases k <;> simp -implicitDefEqProofs (decide := true) only [evs0, evs1, evs2, evs3, evs4, evs5, evs6, evs7, evs8, evs9, evs10, List.length_cons, List.length_nil, Nat.reduceAdd, Nat.reduceSub, ↓reduceIte, Nat.reduceLeDiff, Int.reduceEq, Int.reduceLT, Int.reduceLE, Option.isSome_some, Option.isSome_none, Option.getD_some, Option.getD_none, listD]
    | none => cases k <;> simp -implicitDefEqProofs (decide := true) only [evs0, evs1, evs2, evs3, evs4, evs5, evs6, evs7, evs8, evs9, evs10, List.length_cons, List.length_nil, Nat.reduceAdd, Nat.reduceSub, ↓reduceIte, Nat.reduceLeDiff, Int.reduceEq, Int.reduceLT, Int.reduceLE, Option.isSome_some, Option.isSome_none, Option.getD_some, Option.getD_none, listD]
    | bool _ => cases k <;> simp -implicitDefEqProofs (decide := true) only [evs0, evs1, evs2, evs3, evs4, evs5, evs6, evs7, evs8, evs9, evs10, List.length_cons, List.length_nil, Nat.reduceAdd, Nat.reduceSub, ↓reduceIte, Nat.reduceLeDiff, Int.reduceEq, Int.reduceLT, Int.reduceLE, Option.isSome_some, Option.isSome_none, Option.getD_some, Option.getD_none, listD]
    | str _ => cases k <;> simp -implicitDefEqProofs (decide := true) only [evs0, evs1, evs2, evs3, evs4, evs5, evs6, evs7, evs8, evs9, evs10, List.length_cons, List.length_nil, Nat.reduceAdd, Nat.reduceSub, ↓reduceIte, Nat.reduceLeDiff, Int.reduceEq, Int.reduceLT, Int.reduceLE, Option.isSome_some, Option.isSome_none, Option.getD_some, Option.getD_none, listD]
    | list _ => cases k <;> simp -implicitDefEqProofs (decide := true) only [evs0, evs1, evs2, evs3, evs4, evs5, evs6, evs7, evs8, evs9, evs10, List.length_cons, List.length_nil, Nat.reduceAdd, Nat.reduceSub, ↓reduceIte, Nat.reduceLeDiff, Int.reduceEq, Int.reduceLT, Int.reduceLE, Option.isSome_some, Option.isSome_none, Option.getD_some, Option.getD_none, listD]
    | dict _ => cases k <;> simp -implicitDefEqProofs (decide := true) only [evs0, evs1, evs2, evs3, evs4, evs5, evs6, evs7, evs8, evs9, evs10, List.length_cons, List.length_nil, Nat.reduceAdd, Nat.reduceSub, ↓reduceIte, Nat.reduceLeDiff, Int.reduceEq, Int.reduceLT, Int.reduceLE, Option.isSome_some, Option.isSome_none, Option.getD_some, Option.getD_none, listD]
/-! ### the odd values -/
def deepT : Nat → D
  | 0 => .tuple []
  | n + 1 => .tuple [deepT n]
theorem deepT_told : ∀ n, Told 0 (n + 1) (n + 1) (deepT n)
  | 0 => ⟨by decide, by decide, by decide⟩
  | n + 1 => by
    have h := deepT_told n
    refine (told_tuple (B := 0) (S := n + 1) (H := n + 1) (n := 1) (l := [deepT n]) (fun d hd => ?_) (Nat.le_refl _)).mono (Nat.le_refl _) (by omega) (by omega)
    · rw [List.mem_singleton] at hd; subst hd; exact h
def oddsL : List D := [deepT 90, .tuple [.str "plan", deepT 90, deepT 90], .none, .int 0, .int 1, .bool true, .bool false, .str "", .str "x", .tuple [], .list [], .dict [], .tuple [.tuple []], .tuple [.tuple [], .tuple []], .tuple [.int 0], .tuple [.int 1, .int 2], .tuple [.str "x"], .tuple [.list []], .dict [(.str "a", .int 1)], .tuple [.none], .tuple [.tuple [.tuple []]], .int (-1)]
theorem odds_loop : ∃ y, forV (bN 1) law_odd_values_b1 (rangeL 0 90) [.val (.tuple []), .un] = .next [.val (deepT 90), y] := by
  refine for_rule (P := fun r => ∃ y, r = .next [.val (deepT 90), y]) (rangeL 0 90) (fun i ρ => ∃ y, nioK (some y) = true ∧ ρ = [.val (deepT i), y]) _ ⟨.un, rfl, rfl⟩ ?_ ?_
  · rintro i d ρ hi ⟨y, hy, rfl⟩
    refine ⟨[.val (deepT i), .val d], by simp -implicitDefEqProofs only [evs0, evs1, evs2, evs3, evs4, evs5, evs6, evs7, evs8, evs9, evs10, List.length_cons, List.length_nil, Nat.reduceAdd, Nat.reduceSub, ↓reduceIte, Nat.reduceLeDiff, Int.reduceEq, Int.reduceLT, Int.reduceLE, Option.isSome_some, Option.isSome_none, Option.getD_some, Option.getD_none, hy], ?_⟩
    unfold law_odd_values_b1
    simp -implicitDefEqProofs (decide := true) only [evs0, evs1, evs2, evs3, evs4, evs5, evs6, evs7, evs8, evs9, evs10, List.length_cons, List.length_nil, Nat.reduceAdd, Nat.reduceSub, ↓reduceIte, Nat.reduceLeDiff, Int.reduceEq, Int.reduceLT, Int.reduceLE, Option.isSome_some, Option.isSome_none, Option.getD_some, Option.getD_none, Turn]
    exact ⟨_, rfl, rfl⟩
  · rintro ρ ⟨y, _, rfl⟩
    exact ⟨y, rfl⟩
theorem odd_values_ok : f_law_odd_values [] = .ok (.list oddsL) [] := by
  obtain ⟨y, e⟩ := odds_loop
  unfold f_law_odd_values b_law_odd_values
  simp -implicitDefEqProofs (decide := true) only [evs0, evs1, evs2, evs3, evs4, evs5, evs6, evs7, evs8, evs9, evs10, List.length_cons, List.length_nil, Nat.reduceAdd, Nat.reduceSub, ↓reduceIte, Nat.reduceLeDiff, Int.reduceEq, Int.reduceLT, Int.reduceLE, Option.isSome_some, Option.isSome_none, Option.getD_some, Option.getD_none, e, oddsL]
  rfl
theorem fine_dict0 : Fine (.dict []) := by
  refine ⟨?_, fun l h => by cases h⟩
  have h := shown_le (.dict [])
  have w : wtD (.dict []) = 2 := by simp only [wtD, wtK]
  unfold reprOk
  simp only [Bool.and_eq_true, decide_eq_true_eq, Bool.or_eq_true]
  refine ⟨⟨⟨by decide, .inr (by decide)⟩, by decide⟩, ?_⟩
  unfold PySem.sizeLine; omega
theorem fine_dict1 : Fine (.dict [(.str "a", .int 1)]) := by
  refine ⟨?_, fun l h => by cases h⟩
  have h := shown_le (.dict [(.str "a", .int 1)])
  have w1 := wt_str (x := "a") (by decide)
  have w2 := wt_int (i := 1) (by decide)
  have e : (("a" : String) : Str).length = 1 := rfl
  have w : wtD (.dict [(.str "a", .int 1)]) ≤ 40 := by simp only [wtD, wtK] at w1 w2 ⊢; omega
  unfold reprOk
  simp only [Bool.and_eq_true, decide_eq_true_eq, Bool.or_eq_true]
  refine ⟨⟨⟨by decide, .inr (by decide)⟩, by decide⟩, ?_⟩
  unfold PySem.sizeLine; omega
theorem odds_fine : ∀ v ∈ oddsL, Fine v := by
  have f : ∀ {v : D}, Told 2 200 95 v → Fine v := fun h => told_fine h (by decide) (by decide) (by decide)
  have dp := deepT_told 90
  intro v hv
  simp only [oddsL, List.mem_cons, List.not_mem_nil, or_false] at hv
  rcases hv with rfl | rfl | rfl | rfl | rfl | rfl | rfl | rfl | rfl | rfl | rfl | rfl | rfl | rfl | rfl | rfl | rfl | rfl | rfl | rfl | rfl | rfl
  · exact f (dp.mono (by decide) (by decide) (by decide))
  · obtain ⟨h1, h2, h3⟩ := dp
    refine f ⟨?_, ?_, dpT.mpr fun d hd => ?_⟩
    · simp only [gdD, gdL, gd_mono (C := 2) (by decide) _ h1, Bool.true_and, Bool.and_true]; decide
    · simp only [szD, szL]
      have : (("plan" : String) : Str).length = 4 := rfl
      omega
    · simp only [List.mem_cons, List.not_mem_nil, or_false] at hd
      rcases hd with rfl | rfl | rfl
      · simp [PyData.depth]
      · omega
      · omega
  · exact f ⟨by decide, by decide, by decide⟩
  · exact f ⟨by decide, by decide, by decide⟩
  · exact f ⟨by decide, by decide, by decide⟩
  · exact f ⟨by decide, by decide, by decide⟩
  · exact f ⟨by decide, by decide, by decide⟩
  · exact f ⟨by decide, by decide, by decide⟩
  · exact f ⟨by decide, by decide, by decide⟩
  · exact f ⟨by decide, by decide, by decide⟩
  · exact f ⟨by decide, by decide, by decide⟩
  · exact fine_dict0
  · exact f ⟨by decide, by decide, by decide⟩
  · exact f ⟨by decide, by decide, by decide⟩
  · exact f ⟨by decide, by decide, by decide⟩
  · exact f ⟨by decide, by decide, by decide⟩
  · exact f ⟨by decide, by decide, by decide⟩
  · exact f ⟨by decide, by decide, by decide⟩
  · exact fine_dict1
  · exact f ⟨by decide, by decide, by decide⟩
  · exact f ⟨by decide, by decide, by decide⟩
  · exact f ⟨by decide, by decide, by decide⟩
end Ft
/-! K64L: the law. -/
namespace Ft
open PySem L2
theorem prog_told {n : Nat} {d : D} (h : ProgOk n d) (hn : n ≤ 8) : Told 8 100 3 d := by
  obtain ⟨l, rfl, hl, hr⟩ := h
  refine (told_tuple (B := 8) (S := 10) (H := 2) (n := 8) (fun r h => ?_) (by omega)).mono (by decide) (by decide) (by decide)
  obtain ⟨a, b, c, rfl, ha, hb, hc⟩ := hr r h
  have pr : ∀ x, PairOk n x → Told 8 3 1 x := by
    rintro x ⟨u, v, rfl, h1, h2, h3, h4⟩
    refine told_tuple (B := 8) (S := 1) (H := 0) (n := 2) (fun r h => ?_) (by simp)
    simp only [List.mem_cons, List.not_mem_nil, or_false] at h
    rcases h with rfl | rfl
    · exact told_int (by omega)
    · exact told_int (by omega)
  refine told_tuple (B := 8) (S := 3) (H := 1) (n := 3) (fun r h => ?_) (by simp)
  simp only [List.mem_cons, List.not_mem_nil, or_false] at h
  rcases h with rfl | rfl | rfl
  · exact pr _ ha
  · exact pr _ hb
  · exact pr _ hc
theorem k64_turn {x0 x2 x3 x4 v : D} {l : List D} {y7 y8 : LV} (hv : Fine v) (h7 : nioK (some y7) = true) (h8 : nioK (some y8) = true) :
    law_k64_b1 [.val x0, .own (.lst l) true, .val x2, .val x3, .val x4, .val v, .un, y7, y8] = .next [.val x0, .own (.lst l) true, .val x2, .val x3, .val x4, .val v, .un, .val (.bool (progD v)), .val (.str v.shown)] := by
  obtain ⟨hr, ht⟩ := hv
  have e1 := law_is_program_ok ht
  have e2 := is_program_ok ht
  have e3 : reprB [v] = some (.str v.shown) := if_pos hr
  have e4 := same_refl 12 (.bool (progD v)) rfl
  unfold law_k64_b1
  simp -implicitDefEqProofs (decide := true) only [evs0, evs1, evs2, evs3, evs4, evs5, evs6, evs7, evs8, evs9, evs10, List.length_cons, List.length_nil, Nat.reduceAdd, Nat.reduceSub, ↓reduceIte, Nat.reduceLeDiff, Int.reduceEq, Int.reduceLT, Int.reduceLE, Option.isSome_some, Option.isSome_none, Option.getD_some, Option.getD_none, e1, e2, e3, e4, h7, h8]
theorem k64_loop {x0 x2 x3 x4 : D} {l L : List D} (hL : ∀ v ∈ L, Fine v) :
    ∃ y5 y7 y8, forV (bN 5) law_k64_b1 L [.val x0, .own (.lst l) true, .val x2, .val x3, .val x4, .un, .un, .un, .un] = .next [.val x0, .own (.lst l) true, .val x2, .val x3, .val x4, y5, .un, y7, y8] := by
  refine for_rule (P := fun r => ∃ y5 y7 y8, r = .next [.val x0, .own (.lst l) true, .val x2, .val x3, .val x4, y5, .un, y7, y8]) L
    (fun i ρ => ∃ y5 y7 y8, ρ = [.val x0, .own (.lst l) true, .val x2, .val x3, .val x4, y5, .un, y7, y8] ∧ nioK (some y5) = true ∧ nioK (some y7) = true ∧ nioK (some y8) = true) _ ⟨_, _, _, rfl, rfl, rfl, rfl⟩ ?_ ?_
  · rintro i d ρ hi ⟨y5, y7, y8, rfl, h5, h7, h8⟩
    refine ⟨[.val x0, .own (.lst l) true, .val x2, .val x3, .val x4, .val d, .un, y7, y8], by simp -implicitDefEqProofs only [evs0, evs1, evs2, evs3, evs4, evs5, evs6, evs7, evs8, evs9, evs10, List.length_cons, List.length_nil, Nat.reduceAdd, Nat.reduceSub, ↓reduceIte, Nat.reduceLeDiff, Int.reduceEq, Int.reduceLT, Int.reduceLE, Option.isSome_some, Option.isSome_none, Option.getD_some, Option.getD_none, h5], ?_⟩
    rw [k64_turn (hL d (List.mem_of_getElem? hi)) h7 h8]
    exact ⟨_, _, _, rfl, rfl, rfl, rfl⟩
  · rintro ρ ⟨y5, y7, y8, rfl, _, _, _⟩
    exact ⟨y5, y7, y8, rfl⟩
def rowC : D := .tuple [.tuple [.int 0, .int 0], .tuple [.int 0, .int 1], .tuple [.int 0, .int 2]]
def pairC : D := .tuple [.int 0, .int 0]
def k64A (p : List D) : List D := [.tuple p, .list p, listD 1 (.tuple p), listD 2 (.tuple p), boolD (.tuple p), .tuple [], .tuple [rowC], .tuple [rowC, rowC, rowC, rowC, rowC, rowC, rowC, rowC], .tuple [rowC, rowC, rowC, rowC, rowC, rowC, rowC, rowC, rowC], .tuple [.tuple [.tuple [.int 0, .int 0], .tuple [.int 0, .int 1]]]]
def k64B : List D := [.tuple [.tuple [.tuple [.int 0, .int 0], .tuple [.int 0, .int 1], .tuple [.int 0, .int 2], pairC]], .tuple [.tuple [.tuple [.int 1, .int 0], pairC, pairC]], .tuple [.tuple [.tuple [.int 0, .int 3], pairC, pairC]]]
def k64C : List D := [.tuple [.tuple [.tuple [.int (-1), .int 0], pairC, pairC]], .tuple [.tuple [.tuple [.int 0, .int (-1)], pairC, pairC]], .tuple [.tuple [.tuple [.int 0], pairC, pairC]], .tuple [.tuple [.tuple [.bool false, .int 0], pairC, pairC]], rowC]
theorem oddsL_len : oddsL.length = 22 := rfl
theorem k64A_told {p : List D} (td : Told 8 100 3 (.tuple p)) : ∀ v ∈ k64A p, Told 8 1000 10 v := by
  intro v hv
  simp only [k64A, List.mem_cons, List.not_mem_nil, or_false] at hv
  rcases hv with rfl | rfl | rfl | rfl | rfl | rfl | rfl | rfl | rfl | rfl
  · exact td.mono (by decide) (by decide) (by decide)
  · exact (td.listed (k := 0)).mono (by decide) (by decide) (by decide)
  · exact td.listed.mono (by decide) (by decide) (by decide)
  · exact td.listed.mono (by decide) (by decide) (by decide)
  · exact td.bool.mono (by decide) (by decide) (by decide)
  all_goals exact ⟨by decide, by decide, by decide⟩
theorem k64B_told : ∀ v ∈ k64B, Told 8 1000 10 v := by
  intro v hv
  simp only [k64B, List.mem_cons, List.not_mem_nil, or_false] at hv
  rcases hv with rfl | rfl | rfl
  all_goals exact ⟨by decide, by decide, by decide⟩
theorem k64C_told : ∀ v ∈ k64C, Told 8 1000 10 v := by
  intro v hv
  simp only [k64C, List.mem_cons, List.not_mem_nil, or_false] at hv
  rcases hv with rfl | rfl | rfl | rfl | rfl
  all_goals exact ⟨by decide, by decide, by decide⟩
theorem plain_law_k64 : LawP f_law_k64 := by
  intro ns _ _
  obtain ⟨l, e, hp⟩ := pool_ok ns
  obtain ⟨d, l1, n, e1, hp1, hd, n0, n1⟩ := program_ok hp (most := 8) (by omega) (by omega)
  have td := prog_told hd (by omega)
  obtain ⟨p, rfl, hpl, _⟩ := id hd
  have li1 : f_law_listed 30 [.val (.tuple p), .val (.int 1)] = .ok (listD 1 (.tuple p)) [] := listed_ok 30 1 (.tuple p) (by omega) (by have := td.2.1; omega)
  have li2 : f_law_listed 30 [.val (.tuple p), .val (.int 2)] = .ok (listD 2 (.tuple p)) [] := listed_ok 30 2 (.tuple p) (by omega) (by have := td.2.1; omega)
  have bo := booled_ok 30 (.tuple p) (by have := td.2.2; omega) (by have := td.2.1; omega)
  have m8 : mulTB (.tuple [rowC]) (.int 8) = some (.tuple [rowC, rowC, rowC, rowC, rowC, rowC, rowC, rowC]) := rfl
  have m9 : mulTB (.tuple [rowC]) (.int 9) = some (.tuple [rowC, rowC, rowC, rowC, rowC, rowC, rowC, rowC, rowC]) := rfl
  have s2 : slB rowC none (some 2) = some (.tuple [.tuple [.int 0, .int 0], .tuple [.int 0, .int 1]]) := rfl
  have a1 : addB rowC (.tuple [.tuple [.int 0, .int 0]]) = some (.tuple [.tuple [.int 0, .int 0], .tuple [.int 0, .int 1], .tuple [.int 0, .int 2], .tuple [.int 0, .int 0]]) := addB_tuple (by decide)
  obtain ⟨r, l2, e2, hp2, hr, hb⟩ := comp_draws (bd := bN 6) (elt := law_k64_e1) (vs := [6]) (fun l => [.val (.list (ns.map PyData.int)), .own (.lst l) true, .val (.tuple p), .val rowC, .val (.list (k64A p ++ k64B ++ k64C)), .un, .un, .un, .un]) (fun l d => [.val (.list (ns.map PyData.int)), .own (.lst l) true, .val (.tuple p), .val rowC, .val (.list (k64A p ++ k64B ++ k64C)), .un, .val d, .un, .un])
    (fun _ x => Told 10 1000 10 x) (src := rangeL 0 14) hp1 (by rw [rangeL_len]; omega) (fun l d _ => by simp -implicitDefEqProofs only [evs0, evs1, evs2, evs3, evs4, evs5, evs6, evs7, evs8, evs9, evs10, List.length_cons, List.length_nil, Nat.reduceAdd, Nat.reduceSub, ↓reduceIte, Nat.reduceLeDiff, Int.reduceEq, Int.reduceLT, Int.reduceLE, Option.isSome_some, Option.isSome_none, Option.getD_some, Option.getD_none]) (fun i l d _ hp => by
      obtain ⟨w, l', e, hp, hw⟩ := bent_ok (B := 8) 30 (.tuple p) l hp (by have := td.2.2; omega) td.1 (by have := td.2.1; omega)
      exact ⟨w, l', by unfold law_k64_e1; simp -implicitDefEqProofs only [evs0, evs1, evs2, evs3, evs4, evs5, evs6, evs7, evs8, evs9, evs10, List.length_cons, List.length_nil, Nat.reduceAdd, Nat.reduceSub, ↓reduceIte, Nat.reduceLeDiff, Int.reduceEq, Int.reduceLT, Int.reduceLE, Option.isSome_some, Option.isSome_none, Option.getD_some, Option.getD_none, e], hp, hw.mono (by decide) (by have := td.2.1; omega) (by have := td.2.2; omega)⟩) (fun l d => by simp -implicitDefEqProofs only [evs0, evs1, evs2, evs3, evs4, evs5, evs6, evs7, evs8, evs9, evs10, List.length_cons, List.length_nil, Nat.reduceAdd, Nat.reduceSub, ↓reduceIte, Nat.reduceLeDiff, Int.reduceEq, Int.reduceLT, Int.reduceLE, Option.isSome_some, Option.isSome_none, Option.getD_some, Option.getD_none])
  have hr14 : r.length = 14 := by rw [hr, rangeL_len]; rfl
  obtain ⟨y5, y7, y8, loop⟩ := k64_loop (x0 := .list (ns.map PyData.int)) (x2 := .tuple p) (x3 := rowC) (x4 := .list (k64A p ++ k64B ++ k64C)) (l := l2) (L := k64A p ++ k64B ++ k64C ++ oddsL ++ r) (by
    have f : ∀ {v : D}, Told 10 1000 10 v → Fine v := fun h => told_fine h (by decide) (by decide) (by decide)
    intro v hv
    simp only [List.mem_append] at hv
    rcases hv with ((((hv | hv) | hv) | hv) | hv)
    · exact f ((k64A_told td v hv).mono (by decide) (by decide) (by decide))
    · exact f ((k64B_told v hv).mono (by decide) (by decide) (by decide))
    · exact f ((k64C_told v hv).mono (by decide) (by decide) (by decide))
    · exact odds_fine v hv
    · obtain ⟨i, hi⟩ := List.mem_iff_getElem?.mp hv
      exact f (hb i v hi))
  have od := odd_values_ok
  simp only [rowC, pairC, k64A, k64B, k64C] at m8 m9 s2 a1 e2 loop
  unfold f_law_k64 b_law_k64 law_k64_c1
  simp -implicitDefEqProofs (decide := true) only [evs0, evs1, evs2, evs3, evs4, evs5, evs6, evs7, evs8, evs9, evs10, List.length_cons, List.length_nil, Nat.reduceAdd, Nat.reduceSub, ↓reduceIte, Nat.reduceLeDiff, Int.reduceEq, Int.reduceLT, Int.reduceLE, Option.isSome_some, Option.isSome_none, Option.getD_some, Option.getD_none, e, e1, li1, li2, bo, m8, m9, s2, a1, addB_list, List.length_append, oddsL_len, hr14, od, e2, loop]
end Ft
/-! Grnd: grounds and fields told, by both. -/
namespace Ft
open PySem L2
open PySem.W (dataLt alike)
def szOk (v : D) : Prop := szD v ≤ 1000000
theorem szT_len {l : List D} (h : szOk (.tuple l)) : l.length ≤ 1000000 := by
  have := szL_len l
  unfold szOk at h; simp only [szD] at h; omega
theorem szT_mem {l : List D} {d : D} (h : szOk (.tuple l)) (hd : d ∈ l) : szOk d := by
  have := szL_mem hd
  unfold szOk at h ⊢; simp only [szD] at h; omega
theorem szRow {v : D} (h : szOk v) : ∀ l, v = .tuple l → l.length ≤ 16777216 := fun l e => by
  subst e
  have := szT_len h
  omega
/-- may be shown, and is small -/
def Fit (v : D) : Prop := reprOk v = true ∧ szOk v
theorem told_fit {B S H : Nat} {v : D} (h : Told B S H v) (hB : B < 10 ^ 12) (hS : S ≤ 1000000) (hH : H ≤ 150) : Fit v :=
  ⟨(told_fine h hB hS hH).1, Nat.le_trans h.2.1 hS⟩
theorem odds_fit : ∀ v ∈ oddsL, Fit v := fun v hv => by
  refine ⟨(odds_fine v hv).1, ?_⟩
  have dp := (deepT_told 90).2.1
  unfold szOk
  simp only [oddsL, List.mem_cons, List.not_mem_nil, or_false] at hv
  rcases hv with rfl | rfl | rfl | rfl | rfl | rfl | rfl | rfl | rfl | rfl | rfl | rfl | rfl | rfl | rfl | rfl | rfl | rfl | rfl | rfl | rfl | rfl
  · omega
  · simp only [szD, szL]
    have : (("plan" : String) : Str).length = 4 := rfl
    omega
  all_goals decide
/-! ### truth values over lists -/
theorem all_boolsA {α : Type} {l : List α} {g : α → Bool} : allB [.list (l.map fun d => .bool (g d))] = some (.bool (l.all g)) := by
  show (boolsOf (l.map fun d => PyData.bool (g d))).map _ = _
  have : l.map (fun d => PyData.bool (g d)) = (l.map g).map PyData.bool := by rw [List.map_map]; rfl
  rw [this, boolsOf_of]
  simp [List.all_map]
theorem none_left {α : Type} {l : List α} {g : α → Bool} : decide (((l.filter fun d => !g d).length : Int) = 0) = l.all g := by
  induction l with
  | nil => rfl
  | cons d l ih =>
    cases h : g d with
    | true => rw [List.filter_cons_of_neg (by simp [h]), ih]; simp [h]
    | false =>
      rw [List.filter_cons_of_pos (by simp [h])]
      simp [h]
      omega
theorem some_left {α : Type} {l : List α} {g : α → Bool} : decide (0 < ((l.filter fun d => !g d).length : Int)) = !l.all g := by
  rw [← none_left]
  by_cases h : ((l.filter fun d => !g d).length : Int) = 0
  · simp [h]
  · have : 0 < ((l.filter fun d => !g d).length : Int) := by omega
    rw [decide_eq_true this, decide_eq_false h]; rfl
theorem all_both {α : Type} {p q : α → Bool} : ∀ l : List α, (l.all fun d => p d && q d) = (l.all p && l.all q)
  | [] => rfl
  | d :: l => by
    simp only [List.all_cons, all_both l]
    cases p d <;> cases q d <;> cases l.all p <;> rfl
/-! ### rising -/
def nthD (l : List D) (k : Int) : D := l.getD k.toNat .none
theorem atI_nthD {l : List D} {q : Int} (h0 : 0 ≤ q) (h1 : q < (l.length : Int)) : atI l q = some (nthD l q) := by
  have hl : q.toNat < l.length := by omega
  refine atI_get h0 ?_
  simp [nthD, hl]
theorem nthD_mem {l : List D} {q : Int} (h0 : 0 ≤ q) (h1 : q < (l.length : Int)) : nthD l q ∈ l := by
  have hl : q.toNat < l.length := by omega
  have : nthD l q = l[q.toNat] := by simp [nthD, hl]
  rw [this]; exact List.getElem_mem hl
def upD (l : List D) : Bool := (irange ((l.length : Int) - 1)).all fun k => dataLt (nthD l k) (nthD l (k + 1))
def Ltd (l : List D) : Prop := ∀ d ∈ l, ∀ e ∈ l, toB ltB d e = some (.bool (dataLt d e))
theorem rises_okT {l : List D} (hl : l.length ≤ 1000000) (hc : Ltd l) : f_rises [.val (.tuple l)] = .ok (.bool (upD l)) [] := by
  have c := comp_upto (bd := bN 1) (elt := rises_e1) (vs := [1]) (n := (l.length : Int) - 1) [.val (.tuple l), .un] (fun k => [.val (.tuple l), .val (.int k)]) (fun k => .bool (dataLt (nthD l k) (nthD l (k + 1)))) (by omega) (fun k _ _ => by simp -implicitDefEqProofs only [evs0, evs1, evs2, evs3, evs4, evs5, evs6, evs7, evs8, evs9, evs10, List.length_cons, List.length_nil, Nat.reduceAdd, Nat.reduceSub, ↓reduceIte, Nat.reduceLeDiff, Int.reduceEq, Int.reduceLT, Int.reduceLE, Option.isSome_some, Option.isSome_none, Option.getD_some, Option.getD_none]) (fun k h0 h1 => by
    have e1 := atI_nthD (l := l) (q := k) h0 (by omega)
    have e2 := atI_nthD (l := l) (q := k + 1) (by omega) (by omega)
    have e3 := hc _ (nthD_mem (l := l) (q := k) h0 (by omega)) _ (nthD_mem (l := l) (q := k + 1) (by omega) (by omega))
    unfold rises_e1
    simp -implicitDefEqProofs only [evs0, evs1, evs2, evs3, evs4, evs5, evs6, evs7, evs8, evs9, evs10, List.length_cons, List.length_nil, Nat.reduceAdd, Nat.reduceSub, ↓reduceIte, Nat.reduceLeDiff, Int.reduceEq, Int.reduceLT, Int.reduceLE, Option.isSome_some, Option.isSome_none, Option.getD_some, Option.getD_none, e1, e2, e3]) (fun k => by simp -implicitDefEqProofs only [evs0, evs1, evs2, evs3, evs4, evs5, evs6, evs7, evs8, evs9, evs10, List.length_cons, List.length_nil, Nat.reduceAdd, Nat.reduceSub, ↓reduceIte, Nat.reduceLeDiff, Int.reduceEq, Int.reduceLT, Int.reduceLE, Option.isSome_some, Option.isSome_none, Option.getD_some, Option.getD_none])
  have b1 : (l.length : Int) - 1 < 4611686018427387904 := by omega
  have b2 : -4611686018427387904 ≤ (l.length : Int) - 1 := by omega
  unfold f_rises b_rises rises_c1
  simp -implicitDefEqProofs only [evs0, evs1, evs2, evs3, evs4, evs5, evs6, evs7, evs8, evs9, evs10, List.length_cons, List.length_nil, Nat.reduceAdd, Nat.reduceSub, ↓reduceIte, Nat.reduceLeDiff, Int.reduceEq, Int.reduceLT, Int.reduceLE, Option.isSome_some, Option.isSome_none, Option.getD_some, Option.getD_none, ev_rng1 b1 b2, c, all_boolsA, upD]
theorem range_up (n : Int) : rangeL 1 n = (irange (n - 1)).map fun k => PyData.int (k + 1) := by
  unfold rangeL irange
  rw [List.map_map]
  refine List.map_congr_left fun i _ => ?_
  simp only [Function.comp]
  congr 1
  omega
theorem is_up_okT {l : List D} (hl : l.length ≤ 1000000) (hc : Ltd l) : f_law_is_up [.val (.tuple l)] = .ok (.bool (upD l)) [] := by
  have c := comp_pure (bd := bN 1) (ifs := law_is_up_t1) (elt := law_is_up_e1) (vs := [1]) (p := fun d => !(match d with | .int k => dataLt (nthD l (k - 1)) (nthD l k) | _ => true)) (f := id) (rangeL 1 l.length) [] [.val (.tuple l), .un] (by rw [rangeL_len]; simp; omega) fun d hd => by
    rw [range_up] at hd
    obtain ⟨k, hk, rfl⟩ := List.mem_map.mp hd
    obtain ⟨k0, k1⟩ := mem_irange.mp hk
    have ek : k + 1 - 1 = k := by omega
    have e1 := atI_nthD (l := l) (q := k) k0 (by omega)
    have e2 := atI_nthD (l := l) (q := k + 1) (by omega) (by omega)
    have e3 := hc _ (nthD_mem (l := l) (q := k) k0 (by omega)) _ (nthD_mem (l := l) (q := k + 1) (by omega) (by omega))
    refine ⟨[.val (.tuple l), .val (.int (k + 1))], [.val (.tuple l), .val (.int (k + 1))], by simp -implicitDefEqProofs only [evs0, evs1, evs2, evs3, evs4, evs5, evs6, evs7, evs8, evs9, evs10, List.length_cons, List.length_nil, Nat.reduceAdd, Nat.reduceSub, ↓reduceIte, Nat.reduceLeDiff, Int.reduceEq, Int.reduceLT, Int.reduceLE, Option.isSome_some, Option.isSome_none, Option.getD_some, Option.getD_none], ?_, fun _ => by simp -implicitDefEqProofs only [evs0, evs1, evs2, evs3, evs4, evs5, evs6, evs7, evs8, evs9, evs10, List.length_cons, List.length_nil, Nat.reduceAdd, Nat.reduceSub, ↓reduceIte, Nat.reduceLeDiff, Int.reduceEq, Int.reduceLT, Int.reduceLE, Option.isSome_some, Option.isSome_none, Option.getD_some, Option.getD_none], fun _ => ⟨[.val (.tuple l), .val (.int (k + 1))], ?_, by simp -implicitDefEqProofs only [evs0, evs1, evs2, evs3, evs4, evs5, evs6, evs7, evs8, evs9, evs10, List.length_cons, List.length_nil, Nat.reduceAdd, Nat.reduceSub, ↓reduceIte, Nat.reduceLeDiff, Int.reduceEq, Int.reduceLT, Int.reduceLE, Option.isSome_some, Option.isSome_none, Option.getD_some, Option.getD_none]⟩⟩
    · unfold law_is_up_t1
      simp -implicitDefEqProofs only [evs0, evs1, evs2, evs3, evs4, evs5, evs6, evs7, evs8, evs9, evs10, List.length_cons, List.length_nil, Nat.reduceAdd, Nat.reduceSub, ↓reduceIte, Nat.reduceLeDiff, Int.reduceEq, Int.reduceLT, Int.reduceLE, Option.isSome_some, Option.isSome_none, Option.getD_some, Option.getD_none, ek, e1, e2, e3]
    · unfold law_is_up_e1
      simp -implicitDefEqProofs only [evs0, evs1, evs2, evs3, evs4, evs5, evs6, evs7, evs8, evs9, evs10, List.length_cons, List.length_nil, Nat.reduceAdd, Nat.reduceSub, ↓reduceIte, Nat.reduceLeDiff, Int.reduceEq, Int.reduceLT, Int.reduceLE, Option.isSome_some, Option.isSome_none, Option.getD_some, Option.getD_none, id]
  rw [List.nil_append, List.map_id] at c
  have b1 : (l.length : Int) < 4611686018427387904 := by omega
  have b2 : -4611686018427387904 ≤ (l.length : Int) := by omega
  have cnt : decide ((((rangeL 1 l.length).filter fun d => !(match d with | .int k => dataLt (nthD l (k - 1)) (nthD l k) | _ => true)).length : Int) = 0) = upD l := by
    rw [none_left, range_up, List.all_map]
    unfold upD
    refine List.all_congr rfl fun k => ?_
    simp only [Function.comp, Int.add_sub_cancel]
  have b3 : (1 : Int) < 4611686018427387904 := by omega
  have b4 : -4611686018427387904 ≤ (1 : Int) := by omega
  unfold f_law_is_up b_law_is_up law_is_up_c1
  simp -implicitDefEqProofs only [evs0, evs1, evs2, evs3, evs4, evs5, evs6, evs7, evs8, evs9, evs10, List.length_cons, List.length_nil, Nat.reduceAdd, Nat.reduceSub, ↓reduceIte, Nat.reduceLeDiff, Int.reduceEq, Int.reduceLT, Int.reduceLE, Option.isSome_some, Option.isSome_none, Option.getD_some, Option.getD_none, ev_rng2 b1 b2 b3 b4, c, cnt]
def isPair : D → Bool
  | .tuple [.int _, .int _] => true
  | _ => false
theorem isPair_at {d : D} (h : isPair d = true) : ∃ a b : Int, d = .tuple [.int a, .int b] := by
  unfold isPair at h
  split at h
  · exact ⟨_, _, rfl⟩
  · cases h
theorem ltd_pairs {l : List D} (h : ∀ d ∈ l, isPair d = true) : Ltd l := fun d hd e he => by
  obtain ⟨a, b, rfl⟩ := isPair_at (h d hd)
  obtain ⟨c, f, rfl⟩ := isPair_at (h e he)
  rfl
theorem ltd_ints {l : List Int} : Ltd (l.map PyData.int) := fun d hd e he => by
  obtain ⟨a, _, rfl⟩ := List.mem_map.mp hd
  obtain ⟨c, _, rfl⟩ := List.mem_map.mp he
  show some (PyData.bool (decide (a < c))) = _
  rw [PySem.W.dataLt_int]
/-! ### grounds -/
theorem law_is_number_ok (v : D) (lo hi : Int) : f_law_is_number [.val v, .val (.int lo), .val (.int hi)] = .ok (.bool (fromD lo hi v)) [] := by
  have h := law_is_integer_ok v
  unfold f_law_is_number b_law_is_number
  cases v with
  | int i =>
    by_cases h1 : lo ≤ i
    · simp -implicitDefEqProofs (decide := true) only [evs0, evs1, evs2, evs3, evs4, evs5, evs6, evs7, evs8, evs9, evs10, List.length_cons, List.length_nil, Nat.reduceAdd, Nat.reduceSub, ↓reduceIte, Nat.reduceLeDiff, Int.reduceEq, Int.reduceLT, Int.reduceLE, Option.isSome_some, Option.isSome_none, Option.getD_some, Option.getD_none, h, wholeD, fromD, h1]
    · simp -implicitDefEqProofs (decide := true) only [evs0, evs1, evs2, evs3, evs4, evs5, evs6, evs7, evs8, evs9, evs10, List.length_cons, List.length_nil, Nat.reduceAdd, Nat.reduceSub, ↓reduceIte, Nat.reduceLeDiff, Int.reduceEq, Int.reduceLT, Int.reduceLE, Option.isSome_some, Option.isSome_none, Option.getD_some, Option.getD_none, h, wholeD, fromD, h1]
  | none => simp -implicitDefEqProofs (decide := true) only [evs0, evs1, evs2, evs3, evs4, evs5, evs6, evs7, evs8, evs9, evs10, List.length_cons, List.length_nil, Nat.reduceAdd, Nat.reduceSub, ↓reduceIte, Nat.reduceLeDiff, Int.reduceEq, Int.reduceLT, Int.reduceLE, Option.isSome_some, Option.isSome_none, Option.getD_some, Option.getD_none, h, wholeD, fromD]
  | bool _ => simp -implicitDefEqProofs (decide := true) only [evs0, evs1, evs2, evs3, evs4, evs5, evs6, evs7, evs8, evs9, evs10, List.length_cons, List.length_nil, Nat.reduceAdd, Nat.reduceSub, ↓reduceIte, Nat.reduceLeDiff, Int.reduceEq, Int.reduceLT, Int.reduceLE, Option.isSome_some, Option.isSome_none, Option.getD_some, Option.getD_none, h, wholeD, fromD]
  | str _ => simp -implicitDefEqProofs (decide := true) only [evs0, evs1, evs2, evs3, evs4, evs5, evs6, evs7, evs8, evs9, evs10, List.length_cons, List.length_nil, Nat.reduceAdd, Nat.reduceSub, ↓reduceIte, Nat.reduceLeDiff, Int.reduceEq, Int.reduceLT, Int.reduceLE, Option.isSome_some, Option.isSome_none, Option.getD_some, Option.getD_none, h, wholeD, fromD]
  | list _ => simp -implicitDefEqProofs (decide := true) only [evs0, evs1, evs2, evs3, evs4, evs5, evs6, evs7, evs8, evs9, evs10, List.length_cons, List.length_nil, Nat.reduceAdd, Nat.reduceSub, ↓reduceIte, Nat.reduceLeDiff, Int.reduceEq, Int.reduceLT, Int.reduceLE, Option.isSome_some, Option.isSome_none, Option.getD_some, Option.getD_none, h, wholeD, fromD]
  | tuple _ => simp -implicitDefEqProofs (decide := true) only [evs0, evs1, evs2, evs3, evs4, evs5, evs6, evs7, evs8, evs9, evs10, List.length_cons, List.length_nil, Nat.reduceAdd, Nat.reduceSub, ↓reduceIte, Nat.reduceLeDiff, Int.reduceEq, Int.reduceLT, Int.reduceLE, Option.isSome_some, Option.isSome_none, Option.getD_some, Option.getD_none, h, wholeD, fromD]
  | dict _ => simp -implicitDefEqProofs (decide := true) only [evs0, evs1, evs2, evs3, evs4, evs5, evs6, evs7, evs8, evs9, evs10, List.length_cons, List.length_nil, Nat.reduceAdd, Nat.reduceSub, ↓reduceIte, Nat.reduceLeDiff, Int.reduceEq, Int.reduceLT, Int.reduceLE, Option.isSome_some, Option.isSome_none, Option.getD_some, Option.getD_none, h, wholeD, fromD]
theorem from_int {lo hi : Int} {v : D} (h : fromD lo hi v = true) : ∃ i : Int, v = .int i ∧ lo ≤ i ∧ i ≤ hi := by
  cases v with
  | int i => simp only [fromD, Bool.and_eq_true, decide_eq_true_eq] at h; exact ⟨i, rfl, h⟩
  | none => cases h
  | bool _ => cases h
  | str _ => cases h
  | list _ => cases h
  | tuple _ => cases h
  | dict _ => cases h
def stepUp : D → Bool
  | .tuple [.int a, .int b] => decide (a < b)
  | _ => false
/-- lanes of n places -/
def lanesD (n : Int) (l : List D) : Bool := l.all (rowD 2 0 (n - 1)) && l.all stepUp && upD l
def groundD : D → Bool
  | .tuple [.int n, .tuple l] => (decide (1 ≤ n) && decide (n ≤ 12)) && lanesD n l
  | _ => false
theorem len2 {l : List D} (h : (l.length : Int) = 2) : ∃ a b, l = [a, b] := by
  match l, h with
  | [a, b], _ => exact ⟨a, b, rfl⟩
  | [], h => simp at h
  | [_], h => simp at h
  | _ :: _ :: _ :: _, h => simp at h; omega
theorem row_pair {lo hi : Int} {d : D} (h : rowD 2 lo hi d = true) : isPair d = true := by
  obtain ⟨a, b, rfl⟩ := row2 h
  rfl
/-- a tuple of two -/
theorem two_cases (v : D) : (∃ a b, v = .tuple [a, b]) ∨ (v.isTuple = false) ∨ ∃ l, v = .tuple l ∧ ¬ (l.length : Int) = 2 := by
  cases v with
  | tuple l =>
    by_cases h : (l.length : Int) = 2
    · obtain ⟨a, b, rfl⟩ := len2 h
      exact .inl ⟨a, b, rfl⟩
    · exact .inr (.inr ⟨l, rfl, h⟩)
  | none => exact .inr (.inl rfl)
  | bool _ => exact .inr (.inl rfl)
  | int _ => exact .inr (.inl rfl)
  | str _ => exact .inr (.inl rfl)
  | list _ => exact .inr (.inl rfl)
  | dict _ => exact .inr (.inl rfl)
theorem groundD_not {v : D} (h : v.isTuple = false) : groundD v = false := by
  cases v with
  | tuple l => cases h
  | none => rfl
  | bool _ => rfl
  | int _ => rfl
  | str _ => rfl
  | list _ => rfl
  | dict _ => rfl
theorem groundD_len {l : List D} (h : ¬ (l.length : Int) = 2) : groundD (.tuple l) = false := by
  unfold groundD
  split
  · rename_i e
    cases e
    exact absurd rfl h
  · rfl
theorem groundD_2 {a b : D} (h : ¬ (fromD 1 12 a = true ∧ b.isTuple = true)) : groundD (.tuple [a, b]) = false := by
  unfold groundD
  split
  · rename_i n l e
    cases e
    have : ¬ (decide (1 ≤ n) && decide (n ≤ 12)) = true := fun z => h ⟨by simpa [fromD] using z, rfl⟩
    simp only [Bool.not_eq_true] at this
    rw [this]; rfl
  · rfl
theorem is_ground_ok {v : D} (hz : szOk v) : f_is_ground [.val v] = .ok (.bool (groundD v)) [] := by
  unfold f_is_ground b_is_ground
  rcases two_cases v with ⟨a, b, rfl⟩ | h | ⟨l, rfl, h⟩
  · have ha := is_from_ok a 1 12
    by_cases fa : fromD 1 12 a = true
    · cases tb : b.isTuple with
      | true =>
        obtain ⟨n, rfl, n1, n2⟩ := from_int fa
        cases b with
        | tuple l =>
          have hz2 := szT_mem hz (d := .tuple l) (by simp)
          have hl := szT_len hz2
          have c := comp_map (bd := bN 3) (elt := is_ground_e1) (vs := [3]) l [.val (.tuple [.int n, .tuple l]), .val (.int n), .val (.tuple l), .un] (fun d => [.val (.tuple [.int n, .tuple l]), .val (.int n), .val (.tuple l), .val d]) (fun d => .bool (rowD 2 0 (n - 1) d)) (by omega)
            (fun d _ => by simp -implicitDefEqProofs only [evs0, evs1, evs2, evs3, evs4, evs5, evs6, evs7, evs8, evs9, evs10, List.length_cons, List.length_nil, Nat.reduceAdd, Nat.reduceSub, ↓reduceIte, Nat.reduceLeDiff, Int.reduceEq, Int.reduceLT, Int.reduceLE, Option.isSome_some, Option.isSome_none, Option.getD_some, Option.getD_none]) (fun d hd => by
              have h := is_row_ok d 2 0 (n - 1) (szRow (szT_mem hz2 hd))
              unfold is_ground_e1
              simp -implicitDefEqProofs only [evs0, evs1, evs2, evs3, evs4, evs5, evs6, evs7, evs8, evs9, evs10, List.length_cons, List.length_nil, Nat.reduceAdd, Nat.reduceSub, ↓reduceIte, Nat.reduceLeDiff, Int.reduceEq, Int.reduceLT, Int.reduceLE, Option.isSome_some, Option.isSome_none, Option.getD_some, Option.getD_none, h]) (fun d => by simp -implicitDefEqProofs only [evs0, evs1, evs2, evs3, evs4, evs5, evs6, evs7, evs8, evs9, evs10, List.length_cons, List.length_nil, Nat.reduceAdd, Nat.reduceSub, ↓reduceIte, Nat.reduceLeDiff, Int.reduceEq, Int.reduceLT, Int.reduceLE, Option.isSome_some, Option.isSome_none, Option.getD_some, Option.getD_none])
          have m1 : decide (1 ≤ n) = true := by simpa using n1
          have m2 : decide (n ≤ 12) = true := by simpa using n2
          by_cases hr : l.all (rowD 2 0 (n - 1)) = true
          · have c2 := comp_map (bd := bN 3) (elt := is_ground_e2) (vs := [3]) l [.val (.tuple [.int n, .tuple l]), .val (.int n), .val (.tuple l), .un] (fun d => [.val (.tuple [.int n, .tuple l]), .val (.int n), .val (.tuple l), .val d]) (fun d => .bool (stepUp d)) (by omega)
              (fun d _ => by simp -implicitDefEqProofs only [evs0, evs1, evs2, evs3, evs4, evs5, evs6, evs7, evs8, evs9, evs10, List.length_cons, List.length_nil, Nat.reduceAdd, Nat.reduceSub, ↓reduceIte, Nat.reduceLeDiff, Int.reduceEq, Int.reduceLT, Int.reduceLE, Option.isSome_some, Option.isSome_none, Option.getD_some, Option.getD_none]) (fun d hd => by
                obtain ⟨a, b, rfl⟩ := row2 (List.all_eq_true.mp hr d hd)
                unfold is_ground_e2
                simp -implicitDefEqProofs only [evs0, evs1, evs2, evs3, evs4, evs5, evs6, evs7, evs8, evs9, evs10, List.length_cons, List.length_nil, Nat.reduceAdd, Nat.reduceSub, ↓reduceIte, Nat.reduceLeDiff, Int.reduceEq, Int.reduceLT, Int.reduceLE, Option.isSome_some, Option.isSome_none, Option.getD_some, Option.getD_none, stepUp]) (fun d => by simp -implicitDefEqProofs only [evs0, evs1, evs2, evs3, evs4, evs5, evs6, evs7, evs8, evs9, evs10, List.length_cons, List.length_nil, Nat.reduceAdd, Nat.reduceSub, ↓reduceIte, Nat.reduceLeDiff, Int.reduceEq, Int.reduceLT, Int.reduceLE, Option.isSome_some, Option.isSome_none, Option.getD_some, Option.getD_none])
            have hu := rises_okT hl (ltd_pairs fun d hd => row_pair (List.all_eq_true.mp hr d hd))
            unfold is_ground_c1 is_ground_c2
            by_cases hs : l.all stepUp = true
            · simp -implicitDefEqProofs (decide := true) only [evs0, evs1, evs2, evs3, evs4, evs5, evs6, evs7, evs8, evs9, evs10, List.length_cons, List.length_nil, Nat.reduceAdd, Nat.reduceSub, ↓reduceIte, Nat.reduceLeDiff, Int.reduceEq, Int.reduceLT, Int.reduceLE, Option.isSome_some, Option.isSome_none, Option.getD_some, Option.getD_none, ha, fa, c, hr, all_bools, c2, hs, hu, groundD, lanesD, m1, m2]
            · simp -implicitDefEqProofs (decide := true) only [evs0, evs1, evs2, evs3, evs4, evs5, evs6, evs7, evs8, evs9, evs10, List.length_cons, List.length_nil, Nat.reduceAdd, Nat.reduceSub, ↓reduceIte, Nat.reduceLeDiff, Int.reduceEq, Int.reduceLT, Int.reduceLE, Option.isSome_some, Option.isSome_none, Option.getD_some, Option.getD_none, ha, fa, c, hr, all_bools, c2, hs, groundD, lanesD, m1, m2]
          · unfold is_ground_c1
            simp -implicitDefEqProofs (decide := true) only [evs0, evs1, evs2, evs3, evs4, evs5, evs6, evs7, evs8, evs9, evs10, List.length_cons, List.length_nil, Nat.reduceAdd, Nat.reduceSub, ↓reduceIte, Nat.reduceLeDiff, Int.reduceEq, Int.reduceLT, Int.reduceLE, Option.isSome_some, Option.isSome_none, Option.getD_some, Option.getD_none, ha, fa, c, hr, all_bools, groundD, lanesD, m1, m2]
        | none => cases tb
        | bool _ => cases tb
        | int _ => cases tb
        | str _ => cases tb
        | list _ => cases tb
        | dict _ => cases tb
      | false =>
        have e := groundD_2 (a := a) (b := b) (by rw [tb]; simp)
        simp -implicitDefEqProofs (decide := true) only [evs0, evs1, evs2, evs3, evs4, evs5, evs6, evs7, evs8, evs9, evs10, List.length_cons, List.length_nil, Nat.reduceAdd, Nat.reduceSub, ↓reduceIte, Nat.reduceLeDiff, Int.reduceEq, Int.reduceLT, Int.reduceLE, Option.isSome_some, Option.isSome_none, Option.getD_some, Option.getD_none, ha, fa, tb, e]
    · have e := groundD_2 (a := a) (b := b) (fun z => fa z.1)
      simp -implicitDefEqProofs (decide := true) only [evs0, evs1, evs2, evs3, evs4, evs5, evs6, evs7, evs8, evs9, evs10, List.length_cons, List.length_nil, Nat.reduceAdd, Nat.reduceSub, ↓reduceIte, Nat.reduceLeDiff, Int.reduceEq, Int.reduceLT, Int.reduceLE, Option.isSome_some, Option.isSome_none, Option.getD_some, Option.getD_none, ha, fa, e]
  · have e := groundD_not h
    simp -implicitDefEqProofs (decide := true) only [evs0, evs1, evs2, evs3, evs4, evs5, evs6, evs7, evs8, evs9, evs10, List.length_cons, List.length_nil, Nat.reduceAdd, Nat.reduceSub, ↓reduceIte, Nat.reduceLeDiff, Int.reduceEq, Int.reduceLT, Int.reduceLE, Option.isSome_some, Option.isSome_none, Option.getD_some, Option.getD_none, h, e]
  · have e := groundD_len h
    simp -implicitDefEqProofs (decide := true) only [evs0, evs1, evs2, evs3, evs4, evs5, evs6, evs7, evs8, evs9, evs10, List.length_cons, List.length_nil, Nat.reduceAdd, Nat.reduceSub, ↓reduceIte, Nat.reduceLeDiff, Int.reduceEq, Int.reduceLT, Int.reduceLE, Option.isSome_some, Option.isSome_none, Option.getD_some, Option.getD_none, h, e]
theorem law_is_ground_ok {v : D} (hz : szOk v) : f_law_is_ground [.val v] = .ok (.bool (groundD v)) [] := by
  unfold f_law_is_ground b_law_is_ground
  rcases two_cases v with ⟨a, b, rfl⟩ | h | ⟨l, rfl, h⟩
  · have ha := law_is_number_ok a 1 12
    by_cases fa : fromD 1 12 a = true
    · cases tb : b.isTuple with
      | true =>
        obtain ⟨n, rfl, n1, n2⟩ := from_int fa
        cases b with
        | tuple l =>
          have hz2 := szT_mem hz (d := .tuple l) (by simp)
          have hl := szT_len hz2
          have c := comp_pure (bd := bN 1) (ifs := law_is_ground_t1) (elt := law_is_ground_e1) (vs := [1]) (p := fun d => !(rowD 2 0 (n - 1) d && stepUp d)) (f := id) l [] [.val (.tuple [.int n, .tuple l]), .un] (by simp; omega) fun d hd => by
            refine ⟨[.val (.tuple [.int n, .tuple l]), .val d], [.val (.tuple [.int n, .tuple l]), .val d], by simp -implicitDefEqProofs only [evs0, evs1, evs2, evs3, evs4, evs5, evs6, evs7, evs8, evs9, evs10, List.length_cons, List.length_nil, Nat.reduceAdd, Nat.reduceSub, ↓reduceIte, Nat.reduceLeDiff, Int.reduceEq, Int.reduceLT, Int.reduceLE, Option.isSome_some, Option.isSome_none, Option.getD_some, Option.getD_none], ?_, fun _ => by simp -implicitDefEqProofs only [evs0, evs1, evs2, evs3, evs4, evs5, evs6, evs7, evs8, evs9, evs10, List.length_cons, List.length_nil, Nat.reduceAdd, Nat.reduceSub, ↓reduceIte, Nat.reduceLeDiff, Int.reduceEq, Int.reduceLT, Int.reduceLE, Option.isSome_some, Option.isSome_none, Option.getD_some, Option.getD_none], fun _ => ⟨[.val (.tuple [.int n, .tuple l]), .val d], ?_, by simp -implicitDefEqProofs only [evs0, evs1, evs2, evs3, evs4, evs5, evs6, evs7, evs8, evs9, evs10, List.length_cons, List.length_nil, Nat.reduceAdd, Nat.reduceSub, ↓reduceIte, Nat.reduceLeDiff, Int.reduceEq, Int.reduceLT, Int.reduceLE, Option.isSome_some, Option.isSome_none, Option.getD_some, Option.getD_none]⟩⟩
            · have h := law_is_row_ok d 2 0 (n - 1) (szRow (szT_mem hz2 hd))
              unfold law_is_ground_t1
              by_cases hr : rowD 2 0 (n - 1) d = true
              · obtain ⟨a, b, rfl⟩ := row2 hr
                have e : decide (b ≤ a) = !decide (a < b) := by
                  by_cases z : a < b
                  · have : ¬ b ≤ a := by omega
                    simp [z, this]
                  · have : b ≤ a := by omega
                    simp [z, this]
                simp -implicitDefEqProofs (decide := true) only [evs0, evs1, evs2, evs3, evs4, evs5, evs6, evs7, evs8, evs9, evs10, List.length_cons, List.length_nil, Nat.reduceAdd, Nat.reduceSub, ↓reduceIte, Nat.reduceLeDiff, Int.reduceEq, Int.reduceLT, Int.reduceLE, Option.isSome_some, Option.isSome_none, Option.getD_some, Option.getD_none, h, hr, stepUp, e]
              · simp only [Bool.not_eq_true] at hr
                simp -implicitDefEqProofs (decide := true) only [evs0, evs1, evs2, evs3, evs4, evs5, evs6, evs7, evs8, evs9, evs10, List.length_cons, List.length_nil, Nat.reduceAdd, Nat.reduceSub, ↓reduceIte, Nat.reduceLeDiff, Int.reduceEq, Int.reduceLT, Int.reduceLE, Option.isSome_some, Option.isSome_none, Option.getD_some, Option.getD_none, h, hr]
            · unfold law_is_ground_e1
              simp -implicitDefEqProofs only [evs0, evs1, evs2, evs3, evs4, evs5, evs6, evs7, evs8, evs9, evs10, List.length_cons, List.length_nil, Nat.reduceAdd, Nat.reduceSub, ↓reduceIte, Nat.reduceLeDiff, Int.reduceEq, Int.reduceLT, Int.reduceLE, Option.isSome_some, Option.isSome_none, Option.getD_some, Option.getD_none, id]
          rw [List.nil_append, List.map_id] at c
          have cnt := some_left (l := l) (g := fun d => rowD 2 0 (n - 1) d && stepUp d)
          have e := all_both (p := rowD 2 0 (n - 1)) (q := stepUp) l
          have m1 : decide (1 ≤ n) = true := by simpa using n1
          have m2 : decide (n ≤ 12) = true := by simpa using n2
          rw [e] at cnt
          unfold law_is_ground_c1
          by_cases hr : (l.all (rowD 2 0 (n - 1)) && l.all stepUp) = true
          · have hr1 := (Bool.and_eq_true _ _ ▸ hr).1
            have hu := is_up_okT hl (ltd_pairs fun d hd => row_pair (List.all_eq_true.mp hr1 d hd))
            simp -implicitDefEqProofs (decide := true) only [evs0, evs1, evs2, evs3, evs4, evs5, evs6, evs7, evs8, evs9, evs10, List.length_cons, List.length_nil, Nat.reduceAdd, Nat.reduceSub, ↓reduceIte, Nat.reduceLeDiff, Int.reduceEq, Int.reduceLT, Int.reduceLE, Option.isSome_some, Option.isSome_none, Option.getD_some, Option.getD_none, ha, fa, c, cnt, hr, hu, groundD, lanesD, m1, m2]
          · simp -implicitDefEqProofs (decide := true) only [evs0, evs1, evs2, evs3, evs4, evs5, evs6, evs7, evs8, evs9, evs10, List.length_cons, List.length_nil, Nat.reduceAdd, Nat.reduceSub, ↓reduceIte, Nat.reduceLeDiff, Int.reduceEq, Int.reduceLT, Int.reduceLE, Option.isSome_some, Option.isSome_none, Option.getD_some, Option.getD_none, ha, fa, c, cnt, hr, groundD, lanesD, m1, m2]
        | none => cases tb
        | bool _ => cases tb
        | int _ => cases tb
        | str _ => cases tb
        | list _ => cases tb
        | dict _ => cases tb
      | false =>
        have e := groundD_2 (a := a) (b := b) (by rw [tb]; simp)
        simp -implicitDefEqProofs (decide := true) only [evs0, evs1, evs2, evs3, evs4, evs5, evs6, evs7, evs8, evs9, evs10, List.length_cons, List.length_nil, Nat.reduceAdd, Nat.reduceSub, ↓reduceIte, Nat.reduceLeDiff, Int.reduceEq, Int.reduceLT, Int.reduceLE, Option.isSome_some, Option.isSome_none, Option.getD_some, Option.getD_none, ha, fa, tb, e]
    · have e := groundD_2 (a := a) (b := b) (fun z => fa z.1)
      simp -implicitDefEqProofs (decide := true) only [evs0, evs1, evs2, evs3, evs4, evs5, evs6, evs7, evs8, evs9, evs10, List.length_cons, List.length_nil, Nat.reduceAdd, Nat.reduceSub, ↓reduceIte, Nat.reduceLeDiff, Int.reduceEq, Int.reduceLT, Int.reduceLE, Option.isSome_some, Option.isSome_none, Option.getD_some, Option.getD_none, ha, fa, e]
  · have e := groundD_not h
    simp -implicitDefEqProofs (decide := true) only [evs0, evs1, evs2, evs3, evs4, evs5, evs6, evs7, evs8, evs9, evs10, List.length_cons, List.length_nil, Nat.reduceAdd, Nat.reduceSub, ↓reduceIte, Nat.reduceLeDiff, Int.reduceEq, Int.reduceLT, Int.reduceLE, Option.isSome_some, Option.isSome_none, Option.getD_some, Option.getD_none, h, e]
  · have e := groundD_len h
    simp -implicitDefEqProofs (decide := true) only [evs0, evs1, evs2, evs3, evs4, evs5, evs6, evs7, evs8, evs9, evs10, List.length_cons, List.length_nil, Nat.reduceAdd, Nat.reduceSub, ↓reduceIte, Nat.reduceLeDiff, Int.reduceEq, Int.reduceLT, Int.reduceLE, Option.isSome_some, Option.isSome_none, Option.getD_some, Option.getD_none, h, e]
end Ft
/-! K01: grounds told. -/
namespace Ft
open PySem L2
/-- rising whole numbers are few -/
theorem incr_len : ∀ (l : List Int) (lo hi : Int), (∀ x ∈ l, lo ≤ x ∧ x < hi) → l.Pairwise (· < ·) → (l.length : Int) ≤ max 0 (hi - lo)
  | [], lo, hi, _, _ => by simp; omega
  | x :: l, lo, hi, h, hp => by
    rw [List.pairwise_cons] at hp
    have ih := incr_len l (x + 1) hi (fun y hy => ⟨by have := hp.1 y hy; omega, (h y (List.mem_cons_of_mem _ hy)).2⟩) hp.2
    have := h x (List.mem_cons_self ..)
    rw [List.length_cons]
    omega
theorem lanes_len {n : Int} {L : List (Int × Int)} (hg : GOk n L) (hn : n ≤ 12) : L.length ≤ 144 := by
  have h := incr_len (L.map fun p => p.1 * 12 + p.2) 0 144 (fun x hx => by
    obtain ⟨p, hp, rfl⟩ := List.mem_map.mp hx
    have := hg.lane p hp
    omega) (by
    rw [List.pairwise_map]
    refine hg.sorted.imp_of_mem fun {p q} hp hq h => ?_
    have a := hg.lane p hp
    have b := hg.lane q hq
    rcases h with h | ⟨h1, h2⟩
    · omega
    · omega)
  rw [List.length_map] at h
  omega
theorem ground_told {n : Int} {L : List (Int × Int)} (hg : GOk n L) (hn : n ≤ 12) : Told 12 500 3 (encG n L) := by
  have hl := lanes_len hg hn
  have h1 := hg.pos
  have lanes : Told 12 (1 + 144 * 3) 2 (.tuple (L.map encL)) := told_tuple (B := 12) (S := 3) (H := 1) (n := 144) (fun d hd => by
    obtain ⟨p, hp, rfl⟩ := List.mem_map.mp hd
    have := hg.lane p hp
    refine told_tuple (B := 12) (S := 1) (H := 0) (n := 2) (fun r h => ?_) (by simp)
    simp only [List.mem_cons, List.not_mem_nil, or_false] at h
    rcases h with rfl | rfl
    · exact told_int (by omega)
    · exact told_int (by omega)) (by rw [List.length_map]; exact hl)
  have hi : Told 12 1 0 (.int n) := told_int (by omega)
  refine ⟨?_, ?_, dpT.mpr fun d hd => ?_⟩
  · simp only [encG, gdD, gdL, Bool.and_true, Bool.and_eq_true]
    exact ⟨by simpa [gdD] using hi.1, by simpa [gdD] using lanes.1⟩
  · have := lanes.2.1
    simp only [encG, szD, szL] at this ⊢
    omega
  · simp only [List.mem_cons, List.not_mem_nil, or_false] at hd
    rcases hd with rfl | rfl
    · simp [PyData.depth]
    · exact lanes.2.2
theorem k01_turn {x0 x2 x3 v : D} {l : List D} {y6 y7 : LV} (hv : Fit v) (h6 : nioK (some y6) = true) (h7 : nioK (some y7) = true) :
    law_k01_b1 [.val x0, .own (.lst l) true, .val x2, .val x3, .val v, .un, y6, y7] = .next [.val x0, .own (.lst l) true, .val x2, .val x3, .val v, .un, .val (.bool (groundD v)), .val (.str v.shown)] := by
  obtain ⟨hr, ht⟩ := hv
  have e1 := law_is_ground_ok ht
  have e2 := is_ground_ok ht
  have e3 : reprB [v] = some (.str v.shown) := if_pos hr
  have e4 := same_refl 12 (.bool (groundD v)) rfl
  unfold law_k01_b1
  simp -implicitDefEqProofs (decide := true) only [evs0, evs1, evs2, evs3, evs4, evs5, evs6, evs7, evs8, evs9, evs10, List.length_cons, List.length_nil, Nat.reduceAdd, Nat.reduceSub, ↓reduceIte, Nat.reduceLeDiff, Int.reduceEq, Int.reduceLT, Int.reduceLE, Option.isSome_some, Option.isSome_none, Option.getD_some, Option.getD_none, e1, e2, e3, e4, h6, h7]
theorem k01_loop {x0 x2 x3 : D} {l L : List D} (hL : ∀ v ∈ L, Fit v) :
    ∃ y4 y6 y7, forV (bN 4) law_k01_b1 L [.val x0, .own (.lst l) true, .val x2, .val x3, .un, .un, .un, .un] = .next [.val x0, .own (.lst l) true, .val x2, .val x3, y4, .un, y6, y7] := by
  refine for_rule (P := fun r => ∃ y4 y6 y7, r = .next [.val x0, .own (.lst l) true, .val x2, .val x3, y4, .un, y6, y7]) L
    (fun i ρ => ∃ y4 y6 y7, ρ = [.val x0, .own (.lst l) true, .val x2, .val x3, y4, .un, y6, y7] ∧ nioK (some y4) = true ∧ nioK (some y6) = true ∧ nioK (some y7) = true) _ ⟨_, _, _, rfl, rfl, rfl, rfl⟩ ?_ ?_
  · rintro i d ρ hi ⟨y4, y6, y7, rfl, h4, h6, h7⟩
    refine ⟨[.val x0, .own (.lst l) true, .val x2, .val x3, .val d, .un, y6, y7], by simp -implicitDefEqProofs only [evs0, evs1, evs2, evs3, evs4, evs5, evs6, evs7, evs8, evs9, evs10, List.length_cons, List.length_nil, Nat.reduceAdd, Nat.reduceSub, ↓reduceIte, Nat.reduceLeDiff, Int.reduceEq, Int.reduceLT, Int.reduceLE, Option.isSome_some, Option.isSome_none, Option.getD_some, Option.getD_none, h4], ?_⟩
    rw [k01_turn (hL d (List.mem_of_getElem? hi)) h6 h7]
    exact ⟨_, _, _, rfl, rfl, rfl, rfl⟩
  · rintro ρ ⟨y4, y6, y7, rfl, _, _, _⟩
    exact ⟨y4, y6, y7, rfl⟩
def k01A (g : List D) : List D := [.tuple g, .list g, listD 1 (.tuple g), listD 2 (.tuple g), boolD (.tuple g), .tuple [.int 0, .tuple []], .tuple [.int 1, .tuple []], .tuple [.int 12, .tuple [.tuple [.int 0, .int 11]]], .tuple [.int 13, .tuple []], .tuple [.int 12, .tuple [.tuple [.int 0, .int 12]]]]
def k01B : List D := [.tuple [.int 3, .tuple [.tuple [.int 1, .int 0]]], .tuple [.int 3, .tuple [.tuple [.int 0, .int 1], .tuple [.int 0, .int 1]]]]
def k01C (g : List D) : List D := [.tuple [.int 3, .tuple [.tuple [.int 1, .int 2], .tuple [.int 0, .int 1]]], .tuple [.int 3, .tuple [.tuple [.int 1, .int 1]]], .tuple [.int 3, .tuple [.tuple [.int 0, .int 1, .int 2]]], .tuple [.int 3, .tuple [.tuple [.int (-1), .int 1]]], .tuple [.bool true, .tuple []], .tuple [.int 3, .tuple [.tuple [.bool false, .int 1]]], .tuple [.int 3], .tuple (g ++ [.tuple []]), .tuple [.int 3, .tuple [.tuple [.int 0, .bool true]]]]
theorem told_snoc {B S H : Nat} {l : List D} {x : D} (h : Told B S (H + 1) (.tuple l)) (hx : Told B S H x) : Told B (2 * S) (H + 1) (.tuple (l ++ [x])) := by
  obtain ⟨h1, h2, h3⟩ := h
  refine ⟨?_, ?_, dpT.mpr fun d hd => ?_⟩
  · simp only [gdD] at h1 ⊢
    refine gdL_iff.mpr fun d hd => ?_
    rcases List.mem_append.mp hd with hd | hd
    · exact gdL_iff.mp h1 d hd
    · rw [List.mem_singleton] at hd; subst hd; exact hx.1
  · have := hx.2.1
    simp only [szD] at h2 ⊢
    rw [szL_app]
    simp only [szL]
    omega
  · rcases List.mem_append.mp hd with hd | hd
    · exact dpT.mp h3 d hd
    · rw [List.mem_singleton] at hd; subst hd; exact hx.2.2
theorem k01A_told {g : List D} (td : Told 12 500 3 (.tuple g)) : ∀ v ∈ k01A g, Told 13 1000 10 v := by
  intro v hv
  simp only [k01A, List.mem_cons, List.not_mem_nil, or_false] at hv
  rcases hv with rfl | rfl | rfl | rfl | rfl | rfl | rfl | rfl | rfl | rfl
  · exact td.mono (by decide) (by decide) (by decide)
  · exact (td.listed (k := 0)).mono (by decide) (by decide) (by decide)
  · exact td.listed.mono (by decide) (by decide) (by decide)
  · exact td.listed.mono (by decide) (by decide) (by decide)
  · exact td.bool.mono (by decide) (by decide) (by decide)
  all_goals exact ⟨by decide, by decide, by decide⟩
theorem k01B_told : ∀ v ∈ k01B, Told 13 1000 10 v := by
  intro v hv
  simp only [k01B, List.mem_cons, List.not_mem_nil, or_false] at hv
  rcases hv with rfl | rfl
  all_goals exact ⟨by decide, by decide, by decide⟩
theorem k01C_told {g : List D} (td : Told 12 500 3 (.tuple g)) : ∀ v ∈ k01C g, Told 13 1000 10 v := by
  intro v hv
  simp only [k01C, List.mem_cons, List.not_mem_nil, or_false] at hv
  rcases hv with rfl | rfl | rfl | rfl | rfl | rfl | rfl | rfl | rfl
  all_goals first
    | exact (told_snoc (H := 2) td ⟨by decide, by decide, by decide⟩).mono (by decide) (by decide) (by decide)
    | exact ⟨by decide, by decide, by decide⟩
theorem plain_law_k01 : LawP f_law_k01 := by
  intro ns _ _
  obtain ⟨l, e, hp⟩ := pool_ok ns
  obtain ⟨n, L, l1, e1, hp1, hg, hn⟩ := ground_ok hp (most := 12) (by omega) (by omega)
  have td := ground_told hg (by omega)
  have ha : ∀ c : D, addB (encG n L) (.tuple [c]) = some (.tuple ([.int n, .tuple (L.map encL)] ++ [c])) := fun c => addB_tuple (by simp)
  obtain ⟨g, hgd⟩ : ∃ g, encG n L = .tuple g := ⟨_, rfl⟩
  have hg2 : g.length = 2 := by unfold encG at hgd; cases hgd; rfl
  rw [hgd] at e1 td
  have a1 : addB (.tuple g) (.tuple [.tuple []]) = some (.tuple (g ++ [.tuple []])) := addB_tuple (by rw [hg2]; decide)
  have li1 : f_law_listed 30 [.val (.tuple g), .val (.int 1)] = .ok (listD 1 (.tuple g)) [] := listed_ok 30 1 (.tuple g) (by omega) (by have := td.2.1; omega)
  have li2 : f_law_listed 30 [.val (.tuple g), .val (.int 2)] = .ok (listD 2 (.tuple g)) [] := listed_ok 30 2 (.tuple g) (by omega) (by have := td.2.1; omega)
  have bo := booled_ok 30 (.tuple g) (by have := td.2.2; omega) (by have := td.2.1; omega)
  obtain ⟨r, l2, e2, hp2, hr, hb⟩ := comp_draws (bd := bN 5) (elt := law_k01_e1) (vs := [5]) (fun l => [.val (.list (ns.map PyData.int)), .own (.lst l) true, .val (.tuple g), .val (.list (k01A g ++ k01B ++ k01C g)), .un, .un, .un, .un]) (fun l d => [.val (.list (ns.map PyData.int)), .own (.lst l) true, .val (.tuple g), .val (.list (k01A g ++ k01B ++ k01C g)), .un, .val d, .un, .un])
    (fun _ x => Told 14 2000 10 x) (src := rangeL 0 12) hp1 (by rw [rangeL_len]; omega) (fun l d _ => by simp -implicitDefEqProofs only [evs0, evs1, evs2, evs3, evs4, evs5, evs6, evs7, evs8, evs9, evs10, List.length_cons, List.length_nil, Nat.reduceAdd, Nat.reduceSub, ↓reduceIte, Nat.reduceLeDiff, Int.reduceEq, Int.reduceLT, Int.reduceLE, Option.isSome_some, Option.isSome_none, Option.getD_some, Option.getD_none]) (fun i l d _ hp => by
      obtain ⟨w, l', e, hp, hw⟩ := bent_ok (B := 12) 30 (.tuple g) l hp (by have := td.2.2; omega) td.1 (by have := td.2.1; omega)
      exact ⟨w, l', by unfold law_k01_e1; simp -implicitDefEqProofs only [evs0, evs1, evs2, evs3, evs4, evs5, evs6, evs7, evs8, evs9, evs10, List.length_cons, List.length_nil, Nat.reduceAdd, Nat.reduceSub, ↓reduceIte, Nat.reduceLeDiff, Int.reduceEq, Int.reduceLT, Int.reduceLE, Option.isSome_some, Option.isSome_none, Option.getD_some, Option.getD_none, e], hp, hw.mono (by decide) (by have := td.2.1; omega) (by have := td.2.2; omega)⟩) (fun l d => by simp -implicitDefEqProofs only [evs0, evs1, evs2, evs3, evs4, evs5, evs6, evs7, evs8, evs9, evs10, List.length_cons, List.length_nil, Nat.reduceAdd, Nat.reduceSub, ↓reduceIte, Nat.reduceLeDiff, Int.reduceEq, Int.reduceLT, Int.reduceLE, Option.isSome_some, Option.isSome_none, Option.getD_some, Option.getD_none])
  have hr12 : r.length = 12 := by rw [hr, rangeL_len]; rfl
  obtain ⟨y4, y6, y7, loop⟩ := k01_loop (x0 := .list (ns.map PyData.int)) (x2 := .tuple g) (x3 := .list (k01A g ++ k01B ++ k01C g)) (l := l2) (L := k01A g ++ k01B ++ k01C g ++ oddsL ++ r) (by
    have f : ∀ {v : D}, Told 14 2000 10 v → Fit v := fun h => told_fit h (by decide) (by decide) (by decide)
    intro v hv
    simp only [List.mem_append] at hv
    rcases hv with ((((hv | hv) | hv) | hv) | hv)
    · exact f ((k01A_told td v hv).mono (by decide) (by decide) (by decide))
    · exact f ((k01B_told v hv).mono (by decide) (by decide) (by decide))
    · exact f ((k01C_told td v hv).mono (by decide) (by decide) (by decide))
    · exact odds_fit v hv
    · obtain ⟨i, hi⟩ := List.mem_iff_getElem?.mp hv
      exact f (hb i v hi))
  have od := odd_values_ok
  simp only [k01A, k01B, k01C] at e2 loop
  unfold f_law_k01 b_law_k01 law_k01_c1
  simp -implicitDefEqProofs (decide := true) only [evs0, evs1, evs2, evs3, evs4, evs5, evs6, evs7, evs8, evs9, evs10, List.length_cons, List.length_nil, Nat.reduceAdd, Nat.reduceSub, ↓reduceIte, Nat.reduceLeDiff, Int.reduceEq, Int.reduceLT, Int.reduceLE, Option.isSome_some, Option.isSome_none, Option.getD_some, Option.getD_none, e, e1, li1, li2, bo, a1, addB_list, List.length_append, oddsL_len, hr12, od, e2, loop]
end Ft
/-! Flds: fields drawn, and told by both. -/
namespace Ft
open PySem L2
/-! ### drawn fields -/
structure Nd where
  p : Int
  r : Int
  b : Int
def encN (x : Nd) : D := .tuple [.int x.p, .int x.r, .int x.b]
def encF (n : Int) (L : List (Int × Int)) (N : List Nd) : D := .tuple [encG n L, .tuple (N.map encN)]
def NOk (n bat : Int) (x : Nd) : Prop := (0 ≤ x.p ∧ x.p < n) ∧ (0 ≤ x.r ∧ x.r ≤ 6) ∧ (0 ≤ x.b ∧ x.b ≤ bat)
theorem field_turn {l : List D} {n bat : Int} {L : List (Int × Int)} {N : List Nd} {x1 x2 y6 : D} (hp : Pool l) (h0 : 1 ≤ n) (hn : n ≤ 1000) (hb : 0 ≤ bat) (hb2 : bat ≤ 1000) (hN : N.length ≤ 1000) :
    ∃ l' x, law_field_b1 [.own (.lst l) false, .val x1, .val x2, .val (.int bat), .val (encG n L), .own (.lst (N.map encN)) true, .val y6] = .next [.own (.lst l') false, .val x1, .val x2, .val (.int bat), .val (encG n L), .own (.lst ((N ++ [x]).map encN)) true, .val y6] ∧ Pool l' ∧ NOk n bat x := by
  obtain ⟨p, l1, e1, p0, p1, hp⟩ := draw_ok hp (m := n) (by omega) (by omega)
  obtain ⟨w, l2, e2, w0, w1, hp⟩ := draw_ok hp (m := 7) (by omega) (by omega)
  obtain ⟨k, l3, e3, k0, k1, hp⟩ := draw_ok hp (m := 5) (by omega) (by omega)
  obtain ⟨b, l4, e4, b0, b1, hp⟩ := draw_ok hp (m := bat + 1) (by omega) (by omega)
  obtain ⟨r, er, r0, r1⟩ : ∃ r : Int, atI [PyData.int 0, .int 1, .int 1, .int 2, .int w] k = some (.int r) ∧ 0 ≤ r ∧ r ≤ 6 := by
    obtain ⟨x, hx, e⟩ := atI_mem (l := [PyData.int 0, .int 1, .int 1, .int 2, .int w]) k0 (by simpa using k1)
    simp only [List.mem_cons, List.not_mem_nil, or_false] at hx
    rcases hx with rfl | rfl | rfl | rfl | rfl
    all_goals exact ⟨_, e, by omega, by omega⟩
  have e0 : ixB (encG n L) (.int 0) = some (.int n) := rfl
  refine ⟨l4, ⟨p, r, b⟩, ?_, hp, ⟨p0, p1⟩, ⟨r0, r1⟩, b0, Int.lt_add_one_iff.mp b1⟩
  have hz : (N.map encN).length < 16000000 := by rw [List.length_map]; omega
  unfold law_field_b1
  simp -implicitDefEqProofs (decide := true) only [evs0, evs1, evs2, evs3, evs4, evs5, evs6, evs7, evs8, evs9, evs10, List.length_cons, List.length_nil, Nat.reduceAdd, Nat.reduceSub, ↓reduceIte, Nat.reduceLeDiff, Int.reduceEq, Int.reduceLT, Int.reduceLE, Option.isSome_some, Option.isSome_none, Option.getD_some, Option.getD_none, e0, e1, e2, e3, e4, er, ev_appK2 hz, List.map_append, List.map_cons, List.map_nil, encN]
theorem field_ok {l : List D} {most nodes bat : Int} (hp : Pool l) (h0 : 0 < most) (h1 : most ≤ 100) (hn0 : 0 < nodes) (hn1 : nodes ≤ 100) (hb : 0 ≤ bat) (hb2 : bat ≤ 100) :
    ∃ n L N l', f_law_field [.own (.lst l) false, .val (.int most), .val (.int nodes), .val (.int bat)] = .ok (encF n L N) [.lst l'] ∧ Pool l' ∧ GOk n L ∧ n ≤ most ∧ (∀ x ∈ N, NOk n bat x) ∧ 1 ≤ N.length ∧ (N.length : Int) ≤ nodes := by
  obtain ⟨n, L, l1, e1, hp, hg, hn⟩ := ground_ok hp h0 h1
  obtain ⟨m, l2, e2, m0, m1, hp⟩ := draw_ok hp (m := nodes) hn0 (by omega)
  have g1 := hg.pos
  have loop : ∃ (l' : List D) (N : List Nd) (y6 : LV), forV (bN 6) law_field_b1 (rangeL 0 (1 + m)) [.own (.lst l2) false, .val (.int most), .val (.int nodes), .val (.int bat), .val (encG n L), .own (.lst []) true, .un] = .next [.own (.lst l') false, .val (.int most), .val (.int nodes), .val (.int bat), .val (encG n L), .own (.lst (N.map encN)) true, y6] ∧ Pool l' ∧ (∀ x ∈ N, NOk n bat x) ∧ (N.length : Int) = 1 + m := by
    refine for_rule (P := fun q => ∃ (l' : List D) (N : List Nd) (y6 : LV), q = .next [.own (.lst l') false, .val (.int most), .val (.int nodes), .val (.int bat), .val (encG n L), .own (.lst (N.map encN)) true, y6] ∧ Pool l' ∧ (∀ x ∈ N, NOk n bat x) ∧ (N.length : Int) = 1 + m) (rangeL 0 (1 + m))
      (fun i ρ => ∃ (l' : List D) (N : List Nd) (y6 : LV), ρ = [.own (.lst l') false, .val (.int most), .val (.int nodes), .val (.int bat), .val (encG n L), .own (.lst (N.map encN)) true, y6] ∧ nioK (some y6) = true ∧ Pool l' ∧ (∀ x ∈ N, NOk n bat x) ∧ N.length = i) _ ⟨l2, [], .un, rfl, rfl, hp, (fun x h => by cases h), rfl⟩ ?_ ?_
    · rintro i d ρ hi ⟨l', N, y6, rfl, h6, hp, hN, hl⟩
      obtain ⟨rfl, hi2⟩ := rangeL_at hi
      obtain ⟨l3, x, e3, hp, hx⟩ := field_turn (L := L) (x1 := .int most) (x2 := .int nodes) (y6 := .int (0 + i)) (N := N) hp g1 (by omega) hb (by omega) (by omega)
      refine ⟨[.own (.lst l') false, .val (.int most), .val (.int nodes), .val (.int bat), .val (encG n L), .own (.lst (N.map encN)) true, .val (.int (0 + i))], by simp -implicitDefEqProofs only [evs0, evs1, evs2, evs3, evs4, evs5, evs6, evs7, evs8, evs9, evs10, List.length_cons, List.length_nil, Nat.reduceAdd, Nat.reduceSub, ↓reduceIte, Nat.reduceLeDiff, Int.reduceEq, Int.reduceLT, Int.reduceLE, Option.isSome_some, Option.isSome_none, Option.getD_some, Option.getD_none, h6], ?_⟩
      rw [e3]
      refine ⟨l3, N ++ [x], _, rfl, rfl, hp, fun z hz => ?_, by simp [hl]⟩
      rcases List.mem_append.mp hz with hz | hz
      · exact hN z hz
      · rw [List.mem_singleton] at hz; subst hz; exact hx
    · rintro ρ ⟨l', N, y6, rfl, _, hp, hN, hl⟩
      rw [rangeL_len] at hl
      exact ⟨l', N, y6, rfl, hp, hN, by omega⟩
  obtain ⟨l', N, y6, e3, hp, hN, hl⟩ := loop
  refine ⟨n, L, N, l', ?_, hp, hg, hn, hN, by omega, by omega⟩
  have b1 : 1 + m < 4611686018427387904 := by omega
  have b2 : -4611686018427387904 ≤ 1 + m := by omega
  unfold f_law_field b_law_field
  simp -implicitDefEqProofs (decide := true) only [evs0, evs1, evs2, evs3, evs4, evs5, evs6, evs7, evs8, evs9, evs10, List.length_cons, List.length_nil, Nat.reduceAdd, Nat.reduceSub, ↓reduceIte, Nat.reduceLeDiff, Int.reduceEq, Int.reduceLT, Int.reduceLE, Option.isSome_some, Option.isSome_none, Option.getD_some, Option.getD_none, e1, e2, ev_rng1 b1 b2, e3, encF]
theorem field_told {n bat : Int} {L : List (Int × Int)} {N : List Nd} (hg : GOk n L) (hn : n ≤ 12) (hN : ∀ x ∈ N, NOk n bat x) (hl : N.length ≤ 8) (hb : bat ≤ 12) : Told 12 600 4 (encF n L N) := by
  have tg := ground_told hg hn
  have nodes : Told 12 (1 + 8 * 4) 2 (.tuple (N.map encN)) := told_tuple (B := 12) (S := 4) (H := 1) (n := 8) (fun d hd => by
    obtain ⟨p, hp, rfl⟩ := List.mem_map.mp hd
    obtain ⟨h1, h2, h3⟩ := hN p hp
    refine told_tuple (B := 12) (S := 1) (H := 0) (n := 3) (fun r h => ?_) (by simp)
    simp only [List.mem_cons, List.not_mem_nil, or_false] at h
    rcases h with rfl | rfl | rfl
    · exact told_int (by omega)
    · exact told_int (by omega)
    · exact told_int (by omega)) (by rw [List.length_map]; exact hl)
  refine ⟨?_, ?_, dpT.mpr fun d hd => ?_⟩
  · simp only [encF, gdD, gdL, Bool.and_true, Bool.and_eq_true]
    exact ⟨tg.1, by simpa [gdD] using nodes.1⟩
  · have := nodes.2.1
    have := tg.2.1
    simp only [encF, szD, szL] at *
    omega
  · simp only [List.mem_cons, List.not_mem_nil, or_false] at hd
    rcases hd with rfl | rfl
    · exact tg.2.2
    · have := nodes.2.2; omega
/-! ### told -/
theorem row3 {lo hi : Int} {p : D} (h : rowD 3 lo hi p = true) : ∃ a b c : Int, p = .tuple [.int a, .int b, .int c] := by
  cases p with
  | tuple l =>
    simp only [rowD, Bool.and_eq_true, decide_eq_true_eq] at h
    match l, h with
    | [x, y, z], ⟨_, h⟩ =>
      simp only [List.all_cons, List.all_nil, Bool.and_true, Bool.and_eq_true] at h
      obtain ⟨a, rfl, _, _⟩ := from_int h.1
      obtain ⟨b, rfl, _, _⟩ := from_int h.2.1
      obtain ⟨c, rfl, _, _⟩ := from_int h.2.2
      exact ⟨a, b, c, rfl⟩
    | [], ⟨h, _⟩ => simp at h
    | [_], ⟨h, _⟩ => simp at h
    | [_, _], ⟨h, _⟩ => simp at h
    | _ :: _ :: _ :: _ :: _, ⟨h, _⟩ => simp at h; omega
  | none => cases h
  | bool _ => cases h
  | int _ => cases h
  | str _ => cases h
  | list _ => cases h
  | dict _ => cases h
def nodeIn (n : Int) : D → Bool
  | .tuple [.int a, .int b, .int _] => decide (a < n) && decide (b ≤ 6)
  | _ => false
def nodeD (n : Int) (d : D) : Bool := rowD 3 0 12 d && nodeIn n d
def fieldD : D → Bool
  | .tuple [g, .tuple l] => groundD g && ((decide ((1 : Int) ≤ l.length) && decide ((l.length : Int) ≤ 8)) && match g with
    | .tuple [.int n, _] => l.all (nodeD n)
    | _ => false)
  | _ => false
theorem groundD_at {g : D} (h : groundD g = true) : ∃ n l, g = .tuple [.int n, .tuple l] ∧ 1 ≤ n ∧ n ≤ 12 := by
  unfold groundD at h
  split at h
  · rename_i n l
    simp only [Bool.and_eq_true, decide_eq_true_eq] at h
    exact ⟨n, l, rfl, h.1⟩
  · cases h
theorem is_node_ok {n : Int} {x d : D} (hz : szOk d) : f_is_node [.val (.tuple [.int n, x]), .val d] = .ok (.bool (nodeD n d)) [] := by
  have h := is_row_ok d 3 0 12 (szRow hz)
  unfold f_is_node b_is_node nodeD
  by_cases hr : rowD 3 0 12 d = true
  · obtain ⟨a, b, c, rfl⟩ := row3 hr
    by_cases h1 : a < n
    · simp -implicitDefEqProofs (decide := true) only [evs0, evs1, evs2, evs3, evs4, evs5, evs6, evs7, evs8, evs9, evs10, List.length_cons, List.length_nil, Nat.reduceAdd, Nat.reduceSub, ↓reduceIte, Nat.reduceLeDiff, Int.reduceEq, Int.reduceLT, Int.reduceLE, Option.isSome_some, Option.isSome_none, Option.getD_some, Option.getD_none, h, hr, nodeIn, h1]
    · simp -implicitDefEqProofs (decide := true) only [evs0, evs1, evs2, evs3, evs4, evs5, evs6, evs7, evs8, evs9, evs10, List.length_cons, List.length_nil, Nat.reduceAdd, Nat.reduceSub, ↓reduceIte, Nat.reduceLeDiff, Int.reduceEq, Int.reduceLT, Int.reduceLE, Option.isSome_some, Option.isSome_none, Option.getD_some, Option.getD_none, h, hr, nodeIn, h1]
  · simp -implicitDefEqProofs (decide := true) only [evs0, evs1, evs2, evs3, evs4, evs5, evs6, evs7, evs8, evs9, evs10, List.length_cons, List.length_nil, Nat.reduceAdd, Nat.reduceSub, ↓reduceIte, Nat.reduceLeDiff, Int.reduceEq, Int.reduceLT, Int.reduceLE, Option.isSome_some, Option.isSome_none, Option.getD_some, Option.getD_none, h, hr]
theorem fieldD_not {v : D} (h : v.isTuple = false) : fieldD v = false := by
  cases v with
  | tuple l => cases h
  | none => rfl
  | bool _ => rfl
  | int _ => rfl
  | str _ => rfl
  | list _ => rfl
  | dict _ => rfl
theorem fieldD_len {l : List D} (h : ¬ (l.length : Int) = 2) : fieldD (.tuple l) = false := by
  unfold fieldD
  split
  · rename_i e
    cases e
    exact absurd rfl h
  · rfl
theorem fieldD_2 {a b : D} (h : ¬ (groundD a = true ∧ b.isTuple = true)) : fieldD (.tuple [a, b]) = false := by
  unfold fieldD
  split
  · rename_i n l e
    cases e
    have : ¬ groundD a = true := fun z => h ⟨z, rfl⟩
    simp only [Bool.not_eq_true] at this
    rw [this]; rfl
  · rfl
theorem is_field_ok {v : D} (hz : szOk v) : f_is_field [.val v] = .ok (.bool (fieldD v)) [] := by
  unfold f_is_field b_is_field
  rcases two_cases v with ⟨a, b, rfl⟩ | h | ⟨l, rfl, h⟩
  · have ha := is_ground_ok (szT_mem hz (d := a) (by simp))
    by_cases fa : groundD a = true
    · cases tb : b.isTuple with
      | true =>
        obtain ⟨n, g, rfl, n1, n2⟩ := groundD_at fa
        cases b with
        | tuple l =>
          have hz2 := szT_mem hz (d := .tuple l) (by simp)
          have hl := szT_len hz2
          have hf := is_from_ok (.int l.length) 1 8
          have c := comp_map (bd := bN 1) (elt := is_field_e1) (vs := [1]) l [.val (.tuple [.tuple [.int n, .tuple g], .tuple l]), .un] (fun d => [.val (.tuple [.tuple [.int n, .tuple g], .tuple l]), .val d]) (fun d => .bool (nodeD n d)) (by omega)
            (fun d _ => by simp -implicitDefEqProofs only [evs0, evs1, evs2, evs3, evs4, evs5, evs6, evs7, evs8, evs9, evs10, List.length_cons, List.length_nil, Nat.reduceAdd, Nat.reduceSub, ↓reduceIte, Nat.reduceLeDiff, Int.reduceEq, Int.reduceLT, Int.reduceLE, Option.isSome_some, Option.isSome_none, Option.getD_some, Option.getD_none]) (fun d hd => by
              have h := is_node_ok (n := n) (x := .tuple g) (szT_mem hz2 hd)
              unfold is_field_e1
              simp -implicitDefEqProofs only [evs0, evs1, evs2, evs3, evs4, evs5, evs6, evs7, evs8, evs9, evs10, List.length_cons, List.length_nil, Nat.reduceAdd, Nat.reduceSub, ↓reduceIte, Nat.reduceLeDiff, Int.reduceEq, Int.reduceLT, Int.reduceLE, Option.isSome_some, Option.isSome_none, Option.getD_some, Option.getD_none, h]) (fun d => by simp -implicitDefEqProofs only [evs0, evs1, evs2, evs3, evs4, evs5, evs6, evs7, evs8, evs9, evs10, List.length_cons, List.length_nil, Nat.reduceAdd, Nat.reduceSub, ↓reduceIte, Nat.reduceLeDiff, Int.reduceEq, Int.reduceLT, Int.reduceLE, Option.isSome_some, Option.isSome_none, Option.getD_some, Option.getD_none])
          unfold is_field_c1
          by_cases h1 : (1 : Int) ≤ l.length
          · by_cases h2 : (l.length : Int) ≤ 8
            · simp -implicitDefEqProofs (decide := true) only [evs0, evs1, evs2, evs3, evs4, evs5, evs6, evs7, evs8, evs9, evs10, List.length_cons, List.length_nil, Nat.reduceAdd, Nat.reduceSub, ↓reduceIte, Nat.reduceLeDiff, Int.reduceEq, Int.reduceLT, Int.reduceLE, Option.isSome_some, Option.isSome_none, Option.getD_some, Option.getD_none, ha, fa, hf, fromD, h1, h2, c, all_bools, fieldD]
            · simp -implicitDefEqProofs (decide := true) only [evs0, evs1, evs2, evs3, evs4, evs5, evs6, evs7, evs8, evs9, evs10, List.length_cons, List.length_nil, Nat.reduceAdd, Nat.reduceSub, ↓reduceIte, Nat.reduceLeDiff, Int.reduceEq, Int.reduceLT, Int.reduceLE, Option.isSome_some, Option.isSome_none, Option.getD_some, Option.getD_none, ha, fa, hf, fromD, h1, h2, fieldD]
          · simp -implicitDefEqProofs (decide := true) only [evs0, evs1, evs2, evs3, evs4, evs5, evs6, evs7, evs8, evs9, evs10, List.length_cons, List.length_nil, Nat.reduceAdd, Nat.reduceSub, ↓reduceIte, Nat.reduceLeDiff, Int.reduceEq, Int.reduceLT, Int.reduceLE, Option.isSome_some, Option.isSome_none, Option.getD_some, Option.getD_none, ha, fa, hf, fromD, h1, fieldD]
        | none => cases tb
        | bool _ => cases tb
        | int _ => cases tb
        | str _ => cases tb
        | list _ => cases tb
        | dict _ => cases tb
      | false =>
        have e := fieldD_2 (a := a) (b := b) (by rw [tb]; simp)
        simp -implicitDefEqProofs (decide := true) only [evs0, evs1, evs2, evs3, evs4, evs5, evs6, evs7, evs8, evs9, evs10, List.length_cons, List.length_nil, Nat.reduceAdd, Nat.reduceSub, ↓reduceIte, Nat.reduceLeDiff, Int.reduceEq, Int.reduceLT, Int.reduceLE, Option.isSome_some, Option.isSome_none, Option.getD_some, Option.getD_none, ha, fa, tb, e]
    · have e := fieldD_2 (a := a) (b := b) (fun z => fa z.1)
      simp -implicitDefEqProofs (decide := true) only [evs0, evs1, evs2, evs3, evs4, evs5, evs6, evs7, evs8, evs9, evs10, List.length_cons, List.length_nil, Nat.reduceAdd, Nat.reduceSub, ↓reduceIte, Nat.reduceLeDiff, Int.reduceEq, Int.reduceLT, Int.reduceLE, Option.isSome_some, Option.isSome_none, Option.getD_some, Option.getD_none, ha, fa, e]
  · have e := fieldD_not h
    simp -implicitDefEqProofs (decide := true) only [evs0, evs1, evs2, evs3, evs4, evs5, evs6, evs7, evs8, evs9, evs10, List.length_cons, List.length_nil, Nat.reduceAdd, Nat.reduceSub, ↓reduceIte, Nat.reduceLeDiff, Int.reduceEq, Int.reduceLT, Int.reduceLE, Option.isSome_some, Option.isSome_none, Option.getD_some, Option.getD_none, h, e]
  · have e := fieldD_len h
    simp -implicitDefEqProofs (decide := true) only [evs0, evs1, evs2, evs3, evs4, evs5, evs6, evs7, evs8, evs9, evs10, List.length_cons, List.length_nil, Nat.reduceAdd, Nat.reduceSub, ↓reduceIte, Nat.reduceLeDiff, Int.reduceEq, Int.reduceLT, Int.reduceLE, Option.isSome_some, Option.isSome_none, Option.getD_some, Option.getD_none, h, e]
theorem law_is_field_ok {v : D} (hz : szOk v) : f_law_is_field [.val v] = .ok (.bool (fieldD v)) [] := by
  unfold f_law_is_field b_law_is_field
  rcases two_cases v with ⟨a, b, rfl⟩ | h | ⟨l, rfl, h⟩
  · have ha := law_is_ground_ok (szT_mem hz (d := a) (by simp))
    by_cases fa : groundD a = true
    · cases tb : b.isTuple with
      | true =>
        obtain ⟨n, g, rfl, n1, n2⟩ := groundD_at fa
        cases b with
        | tuple l =>
          have hz2 := szT_mem hz (d := .tuple l) (by simp)
          have hl := szT_len hz2
          have c := comp_pure (bd := bN 1) (ifs := law_is_field_t1) (elt := law_is_field_e1) (vs := [1]) (p := fun d => !nodeD n d) (f := id) l [] [.val (.tuple [.tuple [.int n, .tuple g], .tuple l]), .un] (by simp; omega) fun d hd => by
            refine ⟨[.val (.tuple [.tuple [.int n, .tuple g], .tuple l]), .val d], [.val (.tuple [.tuple [.int n, .tuple g], .tuple l]), .val d], by simp -implicitDefEqProofs only [evs0, evs1, evs2, evs3, evs4, evs5, evs6, evs7, evs8, evs9, evs10, List.length_cons, List.length_nil, Nat.reduceAdd, Nat.reduceSub, ↓reduceIte, Nat.reduceLeDiff, Int.reduceEq, Int.reduceLT, Int.reduceLE, Option.isSome_some, Option.isSome_none, Option.getD_some, Option.getD_none], ?_, fun _ => by simp -implicitDefEqProofs only [evs0, evs1, evs2, evs3, evs4, evs5, evs6, evs7, evs8, evs9, evs10, List.length_cons, List.length_nil, Nat.reduceAdd, Nat.reduceSub, ↓reduceIte, Nat.reduceLeDiff, Int.reduceEq, Int.reduceLT, Int.reduceLE, Option.isSome_some, Option.isSome_none, Option.getD_some, Option.getD_none], fun _ => ⟨[.val (.tuple [.tuple [.int n, .tuple g], .tuple l]), .val d], ?_, by simp -implicitDefEqProofs only [evs0, evs1, evs2, evs3, evs4, evs5, evs6, evs7, evs8, evs9, evs10, List.length_cons, List.length_nil, Nat.reduceAdd, Nat.reduceSub, ↓reduceIte, Nat.reduceLeDiff, Int.reduceEq, Int.reduceLT, Int.reduceLE, Option.isSome_some, Option.isSome_none, Option.getD_some, Option.getD_none]⟩⟩
            · have h := law_is_row_ok d 3 0 12 (szRow (szT_mem hz2 hd))
              unfold law_is_field_t1 nodeD
              by_cases hr : rowD 3 0 12 d = true
              · obtain ⟨a, b, c, rfl⟩ := row3 hr
                by_cases z : a < n
                · have z2 : ¬ n ≤ a := by omega
                  by_cases y : b ≤ 6
                  · have y2 : ¬ 6 < b := by omega
                    simp -implicitDefEqProofs (decide := true) only [evs0, evs1, evs2, evs3, evs4, evs5, evs6, evs7, evs8, evs9, evs10, List.length_cons, List.length_nil, Nat.reduceAdd, Nat.reduceSub, ↓reduceIte, Nat.reduceLeDiff, Int.reduceEq, Int.reduceLT, Int.reduceLE, Option.isSome_some, Option.isSome_none, Option.getD_some, Option.getD_none, h, hr, nodeIn, z, z2, y, y2]
                  · have y2 : 6 < b := by omega
                    simp -implicitDefEqProofs (decide := true) only [evs0, evs1, evs2, evs3, evs4, evs5, evs6, evs7, evs8, evs9, evs10, List.length_cons, List.length_nil, Nat.reduceAdd, Nat.reduceSub, ↓reduceIte, Nat.reduceLeDiff, Int.reduceEq, Int.reduceLT, Int.reduceLE, Option.isSome_some, Option.isSome_none, Option.getD_some, Option.getD_none, h, hr, nodeIn, z, z2, y, y2]
                · have z2 : n ≤ a := by omega
                  simp -implicitDefEqProofs (decide := true) only [evs0, evs1, evs2, evs3, evs4, evs5, evs6, evs7, evs8, evs9, evs10, List.length_cons, List.length_nil, Nat.reduceAdd, Nat.reduceSub, ↓reduceIte, Nat.reduceLeDiff, Int.reduceEq, Int.reduceLT, Int.reduceLE, Option.isSome_some, Option.isSome_none, Option.getD_some, Option.getD_none, h, hr, nodeIn, z, z2]
              · simp only [Bool.not_eq_true] at hr
                simp -implicitDefEqProofs (decide := true) only [evs0, evs1, evs2, evs3, evs4, evs5, evs6, evs7, evs8, evs9, evs10, List.length_cons, List.length_nil, Nat.reduceAdd, Nat.reduceSub, ↓reduceIte, Nat.reduceLeDiff, Int.reduceEq, Int.reduceLT, Int.reduceLE, Option.isSome_some, Option.isSome_none, Option.getD_some, Option.getD_none, h, hr]
            · unfold law_is_field_e1
              simp -implicitDefEqProofs only [evs0, evs1, evs2, evs3, evs4, evs5, evs6, evs7, evs8, evs9, evs10, List.length_cons, List.length_nil, Nat.reduceAdd, Nat.reduceSub, ↓reduceIte, Nat.reduceLeDiff, Int.reduceEq, Int.reduceLT, Int.reduceLE, Option.isSome_some, Option.isSome_none, Option.getD_some, Option.getD_none, id]
          rw [List.nil_append, List.map_id] at c
          have cnt := none_left (l := l) (g := nodeD n)
          unfold law_is_field_c1
          by_cases h1 : (1 : Int) ≤ l.length
          · have h1' : ¬ (l.length : Int) < 1 := by omega
            by_cases h2 : (l.length : Int) ≤ 8
            · have h2' : ¬ (8 : Int) < l.length := by omega
              simp -implicitDefEqProofs (decide := true) only [evs0, evs1, evs2, evs3, evs4, evs5, evs6, evs7, evs8, evs9, evs10, List.length_cons, List.length_nil, Nat.reduceAdd, Nat.reduceSub, ↓reduceIte, Nat.reduceLeDiff, Int.reduceEq, Int.reduceLT, Int.reduceLE, Option.isSome_some, Option.isSome_none, Option.getD_some, Option.getD_none, ha, fa, h1, h1', h2, h2', c, cnt, fieldD]
            · have h2' : (8 : Int) < l.length := by omega
              simp -implicitDefEqProofs (decide := true) only [evs0, evs1, evs2, evs3, evs4, evs5, evs6, evs7, evs8, evs9, evs10, List.length_cons, List.length_nil, Nat.reduceAdd, Nat.reduceSub, ↓reduceIte, Nat.reduceLeDiff, Int.reduceEq, Int.reduceLT, Int.reduceLE, Option.isSome_some, Option.isSome_none, Option.getD_some, Option.getD_none, ha, fa, h1, h1', h2, h2', fieldD]
          · have h1' : (l.length : Int) < 1 := by omega
            simp -implicitDefEqProofs (decide := true) only [evs0, evs1, evs2, evs3, evs4, evs5, evs6, evs7, evs8, evs9, evs10, List.length_cons, List.length_nil, Nat.reduceAdd, Nat.reduceSub, ↓reduceIte, Nat.reduceLeDiff, Int.reduceEq, Int.reduceLT, Int.reduceLE, Option.isSome_some, Option.isSome_none, Option.getD_some, Option.getD_none, ha, fa, h1, h1', fieldD]
        | none => cases tb
        | bool _ => cases tb
        | int _ => cases tb
        | str _ => cases tb
        | list _ => cases tb
        | dict _ => cases tb
      | false =>
        have e := fieldD_2 (a := a) (b := b) (by rw [tb]; simp)
        simp -implicitDefEqProofs (decide := true) only [evs0, evs1, evs2, evs3, evs4, evs5, evs6, evs7, evs8, evs9, evs10, List.length_cons, List.length_nil, Nat.reduceAdd, Nat.reduceSub, ↓reduceIte, Nat.reduceLeDiff, Int.reduceEq, Int.reduceLT, Int.reduceLE, Option.isSome_some, Option.isSome_none, Option.getD_some, Option.getD_none, ha, fa, tb, e]
    · have e := fieldD_2 (a := a) (b := b) (fun z => fa z.1)
      simp -implicitDefEqProofs (decide := true) only [evs0, evs1, evs2, evs3, evs4, evs5, evs6, evs7, evs8, evs9, evs10, List.length_cons, List.length_nil, Nat.reduceAdd, Nat.reduceSub, ↓reduceIte, Nat.reduceLeDiff, Int.reduceEq, Int.reduceLT, Int.reduceLE, Option.isSome_some, Option.isSome_none, Option.getD_some, Option.getD_none, ha, fa, e]
  · have e := fieldD_not h
    simp -implicitDefEqProofs (decide := true) only [evs0, evs1, evs2, evs3, evs4, evs5, evs6, evs7, evs8, evs9, evs10, List.length_cons, List.length_nil, Nat.reduceAdd, Nat.reduceSub, ↓reduceIte, Nat.reduceLeDiff, Int.reduceEq, Int.reduceLT, Int.reduceLE, Option.isSome_some, Option.isSome_none, Option.getD_some, Option.getD_none, h, e]
  · have e := fieldD_len h
    simp -implicitDefEqProofs (decide := true) only [evs0, evs1, evs2, evs3, evs4, evs5, evs6, evs7, evs8, evs9, evs10, List.length_cons, List.length_nil, Nat.reduceAdd, Nat.reduceSub, ↓reduceIte, Nat.reduceLeDiff, Int.reduceEq, Int.reduceLT, Int.reduceLE, Option.isSome_some, Option.isSome_none, Option.getD_some, Option.getD_none, h, e]
end Ft
/-! K05: fields told. -/
namespace Ft
open PySem L2
theorem k05_ones {x0 x2 x3 x4 : D} {l : List D} : ∀ (os acc : List D) (y6 : LV), nioK (some y6) = true → acc.length + os.length ≤ 1000 →
    ∃ z6, forV (bN 6) law_k05_b1 os [.val x0, .own (.lst l) true, .val x2, .val x3, .val x4, .own (.lst acc) true, y6, .un, .un, .un, .un] = .next [.val x0, .own (.lst l) true, .val x2, .val x3, .val x4, .own (.lst (acc ++ os.map fun o => .tuple [x3, .tuple [o]])) true, z6, .un, .un, .un, .un]
  | [], acc, y6, _, _ => ⟨y6, by simp [forV]⟩
  | o :: os, acc, y6, h6, hz => by
    rw [List.length_cons] at hz
    obtain ⟨z6, e⟩ := k05_ones os (acc ++ [.tuple [x3, .tuple [o]]]) (.val o) rfl (by rw [List.length_append]; simp; omega)
    refine ⟨z6, ?_⟩
    have hz2 : acc.length < 16000000 := by omega
    have b1 : bN 6 o [.val x0, .own (.lst l) true, .val x2, .val x3, .val x4, .own (.lst acc) true, y6, .un, .un, .un, .un] = some [.val x0, .own (.lst l) true, .val x2, .val x3, .val x4, .own (.lst acc) true, .val o, .un, .un, .un, .un] := by simp -implicitDefEqProofs only [evs0, evs1, evs2, evs3, evs4, evs5, evs6, evs7, evs8, evs9, evs10, List.length_cons, List.length_nil, Nat.reduceAdd, Nat.reduceSub, ↓reduceIte, Nat.reduceLeDiff, Int.reduceEq, Int.reduceLT, Int.reduceLE, Option.isSome_some, Option.isSome_none, Option.getD_some, Option.getD_none, h6]
    have b2 : law_k05_b1 [.val x0, .own (.lst l) true, .val x2, .val x3, .val x4, .own (.lst acc) true, .val o, .un, .un, .un, .un] = .next [.val x0, .own (.lst l) true, .val x2, .val x3, .val x4, .own (.lst (acc ++ [.tuple [x3, .tuple [o]]])) true, .val o, .un, .un, .un, .un] := by
      unfold law_k05_b1
      simp -implicitDefEqProofs (decide := true) only [evs0, evs1, evs2, evs3, evs4, evs5, evs6, evs7, evs8, evs9, evs10, List.length_cons, List.length_nil, Nat.reduceAdd, Nat.reduceSub, ↓reduceIte, Nat.reduceLeDiff, Int.reduceEq, Int.reduceLT, Int.reduceLE, Option.isSome_some, Option.isSome_none, Option.getD_some, Option.getD_none, ev_appK2 hz2]
    unfold forV
    rw [b1]
    simp only [b2]
    rw [e]
    simp
theorem k05_turn {x0 x2 x3 x4 v : D} {l t : List D} {y6 y9 y10 : LV} (hv : Fit v) (h9 : nioK (some y9) = true) (h10 : nioK (some y10) = true) :
    law_k05_b2 [.val x0, .own (.lst l) true, .val x2, .val x3, .val x4, .own (.lst t) true, y6, .val v, .un, y9, y10] = .next [.val x0, .own (.lst l) true, .val x2, .val x3, .val x4, .own (.lst t) true, y6, .val v, .un, .val (.bool (fieldD v)), .val (.str v.shown)] := by
  obtain ⟨hr, ht⟩ := hv
  have e1 := law_is_field_ok ht
  have e2 := is_field_ok ht
  have e3 : reprB [v] = some (.str v.shown) := if_pos hr
  have e4 := same_refl 12 (.bool (fieldD v)) rfl
  unfold law_k05_b2
  simp -implicitDefEqProofs (decide := true) only [evs0, evs1, evs2, evs3, evs4, evs5, evs6, evs7, evs8, evs9, evs10, List.length_cons, List.length_nil, Nat.reduceAdd, Nat.reduceSub, ↓reduceIte, Nat.reduceLeDiff, Int.reduceEq, Int.reduceLT, Int.reduceLE, Option.isSome_some, Option.isSome_none, Option.getD_some, Option.getD_none, e1, e2, e3, e4, h9, h10]
theorem k05_loop {x0 x2 x3 x4 : D} {l t L : List D} {y6 : LV} (hL : ∀ v ∈ L, Fit v) :
    ∃ y7 y9 y10, forV (bN 7) law_k05_b2 L [.val x0, .own (.lst l) true, .val x2, .val x3, .val x4, .own (.lst t) true, y6, .un, .un, .un, .un] = .next [.val x0, .own (.lst l) true, .val x2, .val x3, .val x4, .own (.lst t) true, y6, y7, .un, y9, y10] := by
  refine for_rule (P := fun r => ∃ y7 y9 y10, r = .next [.val x0, .own (.lst l) true, .val x2, .val x3, .val x4, .own (.lst t) true, y6, y7, .un, y9, y10]) L
    (fun i ρ => ∃ y7 y9 y10, ρ = [.val x0, .own (.lst l) true, .val x2, .val x3, .val x4, .own (.lst t) true, y6, y7, .un, y9, y10] ∧ nioK (some y7) = true ∧ nioK (some y9) = true ∧ nioK (some y10) = true) _ ⟨_, _, _, rfl, rfl, rfl, rfl⟩ ?_ ?_
  · rintro i d ρ hi ⟨y7, y9, y10, rfl, h7, h9, h10⟩
    refine ⟨[.val x0, .own (.lst l) true, .val x2, .val x3, .val x4, .own (.lst t) true, y6, .val d, .un, y9, y10], by simp -implicitDefEqProofs only [evs0, evs1, evs2, evs3, evs4, evs5, evs6, evs7, evs8, evs9, evs10, List.length_cons, List.length_nil, Nat.reduceAdd, Nat.reduceSub, ↓reduceIte, Nat.reduceLeDiff, Int.reduceEq, Int.reduceLT, Int.reduceLE, Option.isSome_some, Option.isSome_none, Option.getD_some, Option.getD_none, h7], ?_⟩
    rw [k05_turn (hL d (List.mem_of_getElem? hi)) h9 h10]
    exact ⟨_, _, _, rfl, rfl, rfl, rfl⟩
  · rintro ρ ⟨y7, y9, y10, rfl, _, _, _⟩
    exact ⟨y7, y9, y10, rfl⟩
def k05A (g nd : D) (ns : List D) : List D := [.tuple [g, .tuple (nd :: ns)], .list [g, .tuple (nd :: ns)], listD 1 (.tuple [g, .tuple (nd :: ns)]), listD 2 (.tuple [g, .tuple (nd :: ns)]), boolD (.tuple [g, .tuple (nd :: ns)]), .tuple [g, .tuple []], .tuple [g, .tuple [nd, nd, nd, nd, nd, nd, nd, nd]], .tuple [g, .tuple [nd, nd, nd, nd, nd, nd, nd, nd, nd]]]
def k05B (g nd : D) (ns : List D) : List D := [.tuple [g], .tuple [g, .tuple (nd :: ns), .tuple []], .tuple [.tuple (nd :: ns), g]]
def k05O (n : Int) : List D := [.tuple [.int n, .int 0, .int 0], .tuple [.int 0, .int 6, .int 0], .tuple [.int 0, .int 7, .int 0], .tuple [.int 0, .int 0, .int 12], .tuple [.int 0, .int 0, .int 13], .tuple [.int (-1), .int 0, .int 0], .tuple [.int 0, .int (-1), .int 0], .tuple [.int 0, .int 0, .int (-1)], .tuple [.int 0, .int 0], .tuple [.int 0, .int 0, .int 0, .int 0], .tuple [.bool true, .int 0, .int 0]]
theorem told_of {B S H : Nat} {l : List D} {d : D} (h : Told B S (H + 1) (.tuple l)) (hd : d ∈ l) : Told B S H d := by
  obtain ⟨h1, h2, h3⟩ := h
  have := szL_mem hd
  simp only [gdD] at h1
  simp only [szD] at h2
  exact ⟨gdL_iff.mp h1 d hd, by omega, dpT.mp h3 d hd⟩
theorem told_row {B S H : Nat} {l : List D} (h : ∀ d ∈ l, Told B S H d) : Told B (1 + l.length * S) (H + 1) (.tuple l) := told_tuple h (Nat.le_refl _)
theorem k05A_told {g nd : D} {ns : List D} (td : Told 12 600 4 (.tuple [g, .tuple (nd :: ns)])) (tg : Told 12 500 3 g) (tn : Told 12 4 1 nd) : ∀ v ∈ k05A g nd ns, Told 13 2000 10 v := by
  intro v hv
  simp only [k05A, List.mem_cons, List.not_mem_nil, or_false] at hv
  have two : ∀ x, Told 12 500 3 x → Told 13 2000 10 (.tuple [g, x]) := fun x hx => (told_row (B := 12) (S := 500) (H := 3) (l := [g, x]) fun d hd => by
    simp only [List.mem_cons, List.not_mem_nil, or_false] at hd
    rcases hd with rfl | rfl
    · exact tg
    · exact hx).mono (by decide) (by simp) (by decide)
  rcases hv with rfl | rfl | rfl | rfl | rfl | rfl | rfl | rfl
  · exact td.mono (by decide) (by decide) (by decide)
  · exact (td.listed (k := 0)).mono (by decide) (by decide) (by decide)
  · exact td.listed.mono (by decide) (by decide) (by decide)
  · exact td.listed.mono (by decide) (by decide) (by decide)
  · exact td.bool.mono (by decide) (by decide) (by decide)
  · exact two _ ⟨by decide, by decide, by decide⟩
  · refine two _ ((told_row (B := 12) (S := 4) (H := 1) fun d hd => ?_).mono (by decide) (by simp) (by decide))
    simp only [List.mem_cons, List.not_mem_nil, or_false, or_self] at hd
    subst hd; exact tn
  · refine two _ ((told_row (B := 12) (S := 4) (H := 1) fun d hd => ?_).mono (by decide) (by simp) (by decide))
    simp only [List.mem_cons, List.not_mem_nil, or_false, or_self] at hd
    subst hd; exact tn
theorem k05B_told {g nd : D} {ns : List D} (tg : Told 12 500 3 g) (tn : Told 12 600 3 (.tuple (nd :: ns))) : ∀ v ∈ k05B g nd ns, Told 13 2000 10 v := by
  intro v hv
  have tg := tg.mono (Nat.le_refl 12) (show 500 ≤ 600 by decide) (Nat.le_refl 3)
  simp only [k05B, List.mem_cons, List.not_mem_nil, or_false] at hv
  have te : Told 12 600 3 (.tuple []) := ⟨by decide, by decide, by decide⟩
  rcases hv with rfl | rfl | rfl
  all_goals
    refine (told_row (B := 12) (S := 600) (H := 3) fun d hd => ?_).mono (by decide) (by simp) (by decide)
    simp only [List.mem_cons, List.not_mem_nil, or_false] at hd
  · subst hd; exact tg
  · rcases hd with rfl | rfl | rfl
    · exact tg
    · exact tn
    · exact te
  · rcases hd with rfl | rfl
    · exact tn
    · exact tg
theorem k05O_told {n : Int} (h0 : 1 ≤ n) (h1 : n ≤ 12) : ∀ v ∈ k05O n, Told 13 10 2 v := by
  intro v hv
  simp only [k05O, List.mem_cons, List.not_mem_nil, or_false] at hv
  rcases hv with rfl | rfl | rfl | rfl | rfl | rfl | rfl | rfl | rfl | rfl | rfl
  · refine (told_row (B := 13) (S := 1) (H := 0) fun d hd => ?_).mono (by decide) (by simp) (by decide)
    simp only [List.mem_cons, List.not_mem_nil, or_false] at hd
    rcases hd with rfl | rfl | rfl
    · exact told_int (by omega)
    · exact told_int (by decide)
    · exact told_int (by decide)
  all_goals exact ⟨by decide, by decide, by decide⟩
theorem k05C_told {g : D} {n : Int} (tg : Told 12 500 3 g) (h0 : 1 ≤ n) (h1 : n ≤ 12) : ∀ v ∈ (k05O n).map fun o => PyData.tuple [g, .tuple [o]], Told 13 2000 10 v := by
  intro v hv
  obtain ⟨o, ho, rfl⟩ := List.mem_map.mp hv
  have to := k05O_told h0 h1 o ho
  have t1 : Told 13 500 3 (.tuple [o]) := (told_row (B := 13) (S := 10) (H := 2) fun d hd => by
    rw [List.mem_singleton] at hd; subst hd; exact to).mono (by decide) (by simp) (by decide)
  refine (told_row (B := 13) (S := 500) (H := 3) fun d hd => ?_).mono (by decide) (by simp) (by decide)
  simp only [List.mem_cons, List.not_mem_nil, or_false] at hd
  rcases hd with rfl | rfl
  · exact tg.mono (by decide) (by decide) (by decide)
  · exact t1
theorem k05O_len {n : Int} : (k05O n).length = 11 := rfl
theorem plain_law_k05 : LawP f_law_k05 := by
  intro ns _ _
  obtain ⟨l, e, hp⟩ := pool_ok ns
  obtain ⟨n, L, N, l1, e1, hp1, hg, hn, hN, hl0, hl1⟩ := field_ok hp (most := 12) (nodes := 8) (bat := 12) (by omega) (by omega) (by omega) (by omega) (by omega) (by omega)
  have td := field_told hg hn hN (by omega) (by omega)
  have tg := ground_told hg hn
  obtain ⟨nd, xs, hxs⟩ : ∃ nd xs, N.map encN = nd :: xs := by
    cases N with
    | nil => simp at hl0
    | cons a N => exact ⟨_, _, rfl⟩
  have g1 := hg.pos
  have i0 : ixB (encG n L) (.int 0) = some (.int n) := rfl
  obtain ⟨G, hG⟩ : ∃ G, G = encG n L := ⟨_, rfl⟩
  have ef : encF n L N = .tuple [G, .tuple (nd :: xs)] := by rw [encF, hxs, hG]
  rw [ef] at td e1
  rw [← hG] at tg i0
  have tns : Told 12 600 3 (.tuple (nd :: xs)) := told_of td (by simp)
  have tnd : Told 12 4 1 nd := by
    cases N with
    | nil => simp at hl0
    | cons a N =>
      cases hxs
      obtain ⟨h1, h2, h3⟩ := hN a (by simp)
      refine told_tuple (B := 12) (S := 1) (H := 0) (n := 3) (fun r h => ?_) (by simp)
      simp only [List.mem_cons, List.not_mem_nil, or_false] at h
      rcases h with rfl | rfl | rfl
      · exact told_int (by omega)
      · exact told_int (by omega)
      · exact told_int (by omega)
  have a1 : addB (.tuple [G, .tuple (nd :: xs)]) (.tuple [.tuple []]) = some (.tuple [G, .tuple (nd :: xs), .tuple []]) := addB_tuple (by simp)
  have s1 : slB (.tuple [G, .tuple (nd :: xs)]) none (some 1) = some (.tuple [G]) := rfl
  have m8 : mulTB (.tuple [nd]) (.int 8) = some (.tuple [nd, nd, nd, nd, nd, nd, nd, nd]) := rfl
  have m9 : mulTB (.tuple [nd]) (.int 9) = some (.tuple [nd, nd, nd, nd, nd, nd, nd, nd, nd]) := rfl
  have li1 : f_law_listed 30 [.val (.tuple [G, .tuple (nd :: xs)]), .val (.int 1)] = .ok (listD 1 (.tuple [G, .tuple (nd :: xs)])) [] := listed_ok 30 1 _ (by omega) (by have := td.2.1; omega)
  have li2 : f_law_listed 30 [.val (.tuple [G, .tuple (nd :: xs)]), .val (.int 2)] = .ok (listD 2 (.tuple [G, .tuple (nd :: xs)])) [] := listed_ok 30 2 _ (by omega) (by have := td.2.1; omega)
  have bo := booled_ok 30 (.tuple [G, .tuple (nd :: xs)]) (by have := td.2.2; omega) (by have := td.2.1; omega)
  obtain ⟨z6, ones⟩ := k05_ones (x0 := .list (ns.map PyData.int)) (x2 := .tuple [G, .tuple (nd :: xs)]) (x3 := G) (x4 := nd) (l := l1) (k05O n) (k05A G nd xs ++ k05B G nd xs) .un rfl (by rw [List.length_append, k05O_len]; simp [k05A, k05B])
  obtain ⟨C, hC⟩ : ∃ C, C = (k05O n).map fun o => PyData.tuple [G, .tuple [o]] := ⟨_, rfl⟩
  have hC11 : C.length = 11 := by rw [hC, List.length_map, k05O_len]
  have tC : ∀ v ∈ C, Told 13 2000 10 v := by rw [hC]; exact k05C_told tg g1 hn
  rw [← hC] at ones
  obtain ⟨r, l2, e2, hp2, hr, hb⟩ := comp_draws (bd := bN 8) (elt := law_k05_e1) (vs := [8]) (fun l => [.val (.list (ns.map PyData.int)), .own (.lst l) true, .val (.tuple [G, .tuple (nd :: xs)]), .val G, .val nd, .own (.lst (k05A G nd xs ++ k05B G nd xs ++ C)) true, z6, .un, .un, .un, .un]) (fun l d => [.val (.list (ns.map PyData.int)), .own (.lst l) true, .val (.tuple [G, .tuple (nd :: xs)]), .val G, .val nd, .own (.lst (k05A G nd xs ++ k05B G nd xs ++ C)) true, z6, .un, .val d, .un, .un])
    (fun _ x => Told 14 2000 10 x) (src := rangeL 0 12) hp1 (by rw [rangeL_len]; omega) (fun l d _ => by simp -implicitDefEqProofs only [evs0, evs1, evs2, evs3, evs4, evs5, evs6, evs7, evs8, evs9, evs10, List.length_cons, List.length_nil, Nat.reduceAdd, Nat.reduceSub, ↓reduceIte, Nat.reduceLeDiff, Int.reduceEq, Int.reduceLT, Int.reduceLE, Option.isSome_some, Option.isSome_none, Option.getD_some, Option.getD_none]) (fun i l d _ hp => by
      obtain ⟨w, l', e, hp, hw⟩ := bent_ok (B := 12) 30 _ l hp (by have := td.2.2; omega) td.1 (by have := td.2.1; omega)
      exact ⟨w, l', by unfold law_k05_e1; simp -implicitDefEqProofs only [evs0, evs1, evs2, evs3, evs4, evs5, evs6, evs7, evs8, evs9, evs10, List.length_cons, List.length_nil, Nat.reduceAdd, Nat.reduceSub, ↓reduceIte, Nat.reduceLeDiff, Int.reduceEq, Int.reduceLT, Int.reduceLE, Option.isSome_some, Option.isSome_none, Option.getD_some, Option.getD_none, e], hp, hw.mono (by decide) (by have := td.2.1; omega) (by have := td.2.2; omega)⟩) (fun l d => by simp -implicitDefEqProofs only [evs0, evs1, evs2, evs3, evs4, evs5, evs6, evs7, evs8, evs9, evs10, List.length_cons, List.length_nil, Nat.reduceAdd, Nat.reduceSub, ↓reduceIte, Nat.reduceLeDiff, Int.reduceEq, Int.reduceLT, Int.reduceLE, Option.isSome_some, Option.isSome_none, Option.getD_some, Option.getD_none])
  have hr12 : r.length = 12 := by rw [hr, rangeL_len]; rfl
  obtain ⟨y7, y9, y10, loop⟩ := k05_loop (x0 := .list (ns.map PyData.int)) (x2 := .tuple [G, .tuple (nd :: xs)]) (x3 := G) (x4 := nd) (t := k05A G nd xs ++ k05B G nd xs ++ C) (y6 := z6) (l := l2) (L := k05A G nd xs ++ k05B G nd xs ++ C ++ oddsL ++ r) (by
    have f : ∀ {v : D}, Told 14 2000 10 v → Fit v := fun h => told_fit h (by decide) (by decide) (by decide)
    intro v hv
    simp only [List.mem_append] at hv
    rcases hv with ((((hv | hv) | hv) | hv) | hv)
    · exact f ((k05A_told td tg tnd v hv).mono (by decide) (by decide) (by decide))
    · exact f ((k05B_told tg tns v hv).mono (by decide) (by decide) (by decide))
    · exact f ((tC v hv).mono (by decide) (by decide) (by decide))
    · exact odds_fit v hv
    · obtain ⟨i, hi⟩ := List.mem_iff_getElem?.mp hv
      exact f (hb i v hi))
  have od := odd_values_ok
  simp only [k05A, k05B, k05O] at ones e2 loop
  unfold f_law_k05 b_law_k05 law_k05_c1
  simp -implicitDefEqProofs (decide := true) only [evs0, evs1, evs2, evs3, evs4, evs5, evs6, evs7, evs8, evs9, evs10, List.length_cons, List.length_nil, Nat.reduceAdd, Nat.reduceSub, ↓reduceIte, Nat.reduceLeDiff, Int.reduceEq, Int.reduceLT, Int.reduceLE, Option.isSome_some, Option.isSome_none, Option.getD_some, Option.getD_none, e, e1, i0, li1, li2, bo, a1, s1, m8, m9, ev_cat, ones, addB_list, List.length_append, hC11, oddsL_len, hr12, od, e2, loop]
end Ft
/-! Wtch: watches drawn, and told by both. -/
namespace Ft
open PySem L2
def encW (n : Int) (L : List (Int × Int)) (N : List Nd) (a h s t : Int) : D := .tuple [encF n L N, .int a, .int h, .int s, .int t]
theorem enc_of {α : Type} {enc : α → D} {Q : α → Prop} : ∀ {r : List D}, (∀ x ∈ r, ∃ z, x = enc z ∧ Q z) → ∃ Z : List α, r = Z.map enc ∧ ∀ z ∈ Z, Q z
  | [], _ => ⟨[], rfl, fun z h => by cases h⟩
  | x :: r, h => by
    obtain ⟨z, rfl, hz⟩ := h x (List.mem_cons_self ..)
    obtain ⟨Z, rfl, hZ⟩ := enc_of (r := r) fun y hy => h y (List.mem_cons_of_mem _ hy)
    exact ⟨z :: Z, rfl, fun y hy => by
      rcases List.mem_cons.mp hy with rfl | hy
      · exact hz
      · exact hZ y hy⟩
/-- with more in the batteries -/
theorem watch_more {n h : Int} {L : List (Int × Int)} {N : List Nd} {l : List D} (hp : Pool l) (hN : ∀ x ∈ N, NOk n 5 x) (hl : N.length ≤ 100) :
    ∃ (N' : List Nd) (l' : List D), compL (bN 3) tnYes law_watch_e1 [3] (N.map encN) [] [.own (.lst l) false, .val (encF n L N), .val (.int h), .un] = .ok (N'.map encN) [.own (.lst l') false, .val (encF n L N), .val (.int h), .un] ∧ Pool l' ∧ (∀ x ∈ N', NOk n 5 x) ∧ N'.length = N.length := by
  obtain ⟨r, l', e, hp, hr, hb⟩ := comp_draws (bd := bN 3) (elt := law_watch_e1) (vs := [3]) (fun l => [.own (.lst l) false, .val (encF n L N), .val (.int h), .un]) (fun l d => [.own (.lst l) false, .val (encF n L N), .val (.int h), .val d])
    (fun _ x => ∃ z, x = encN z ∧ NOk n 5 z) (src := N.map encN) hp (by rw [List.length_map]; omega) (fun l d _ => by simp -implicitDefEqProofs only [evs0, evs1, evs2, evs3, evs4, evs5, evs6, evs7, evs8, evs9, evs10, List.length_cons, List.length_nil, Nat.reduceAdd, Nat.reduceSub, ↓reduceIte, Nat.reduceLeDiff, Int.reduceEq, Int.reduceLT, Int.reduceLE, Option.isSome_some, Option.isSome_none, Option.getD_some, Option.getD_none]) (fun i l d hi hp => by
      obtain ⟨x, hx, rfl⟩ := List.mem_map.mp (List.mem_of_getElem? hi)
      obtain ⟨h1, h2, h3⟩ := hN x hx
      obtain ⟨k, l', e, k0, k1, hp⟩ := draw_ok hp (m := 3) (by omega) (by omega)
      refine ⟨_, l', ?_, hp, ⟨x.p, x.r, if 1 + k > x.b then 1 + k else x.b⟩, rfl, h1, h2, ?_⟩
      · unfold law_watch_e1
        simp -implicitDefEqProofs (decide := true) only [evs0, evs1, evs2, evs3, evs4, evs5, evs6, evs7, evs8, evs9, evs10, List.length_cons, List.length_nil, Nat.reduceAdd, Nat.reduceSub, ↓reduceIte, Nat.reduceLeDiff, Int.reduceEq, Int.reduceLT, Int.reduceLE, Option.isSome_some, Option.isSome_none, Option.getD_some, Option.getD_none, encN, e]
      · show 0 ≤ (if 1 + k > x.b then 1 + k else x.b) ∧ (if 1 + k > x.b then 1 + k else x.b) ≤ 5
        split <;> omega) (fun l d => by simp -implicitDefEqProofs only [evs0, evs1, evs2, evs3, evs4, evs5, evs6, evs7, evs8, evs9, evs10, List.length_cons, List.length_nil, Nat.reduceAdd, Nat.reduceSub, ↓reduceIte, Nat.reduceLeDiff, Int.reduceEq, Int.reduceLT, Int.reduceLE, Option.isSome_some, Option.isSome_none, Option.getD_some, Option.getD_none])
  rw [List.length_map] at hr
  obtain ⟨N', rfl, hN'⟩ := enc_of (enc := encN) (Q := NOk n 5) (r := r) fun x hx => by
    obtain ⟨i, hi⟩ := List.mem_iff_getElem?.mp hx
    exact hb i x hi
  rw [List.length_map] at hr
  exact ⟨N', l', e, hp, hN', hr⟩
structure WOk (n : Int) (L : List (Int × Int)) (N : List Nd) (a h s t : Int) : Prop where
  g : GOk n L
  n6 : n ≤ 6
  nd : ∀ x ∈ N, NOk n 5 x
  n1 : 1 ≤ N.length
  n3 : N.length ≤ 3
  a1 : 1 ≤ a
  a3 : a ≤ 3
  h1 : 1 ≤ h
  h5 : h ≤ 5
  s0 : 0 ≤ s
  s3 : s ≤ 3
  t1 : 1 ≤ t
  t6 : t ≤ 6
theorem small_at {w k : Int} (w0 : 0 ≤ w) (w1 : w < 4) (k0 : 0 ≤ k) (k1 : k < 4) : ∃ s : Int, atI [PyData.int 0, .int 0, .int 1, .int w] k = some (.int s) ∧ 0 ≤ s ∧ s ≤ 3 := by
  obtain ⟨x, hx, e⟩ := atI_mem (l := [PyData.int 0, .int 0, .int 1, .int w]) k0 (by simpa using k1)
  simp only [List.mem_cons, List.not_mem_nil, or_false] at hx
  rcases hx with rfl | rfl | rfl | rfl
  all_goals exact ⟨_, e, by omega, by omega⟩
theorem watch_ok {l : List D} (hp : Pool l) : ∃ n L N a h s t l', f_law_watch [.own (.lst l) false] = .ok (encW n L N a h s t) [.lst l'] ∧ Pool l' ∧ WOk n L N a h s t := by
  obtain ⟨c, l1, e1, c0, c1, hp⟩ := draw_ok hp (m := 3) (by omega) (by omega)
  -- the field and the hours
  have fst : ∃ (n : Int) (L : List (Int × Int)) (N : List Nd) (h : Int) (l2 : List D), (∀ tl : Sn, appR [.own (.lst l) false] (seqR (sifK (sSeq (sSet 1 (dCall f_law_field (aCons (aR 0) (aCons (aE (dC (.int 4))) (aCons (aE (dC (.int 2))) (aCons (aE (dC (.int 5))) aNil)))))) (sSet 2 (dOp2 addB (aE (dC (.int 1))) (aE (dCall f_law_draw (aCons (aR 0) (aCons (aE (dC (.int 5))) aNil))))))) (sSeq (sSet 1 (dCall f_law_field (aCons (aR 0) (aCons (aE (dC (.int 6))) (aCons (aE (dC (.int 3))) (aCons (aE (dC (.int 4))) aNil)))))) (sSet 2 (dOp2 addB (aE (dC (.int 1))) (aE (dCall f_law_draw (aCons (aR 0) (aCons (aE (dC (.int 3))) aNil))))))) (decide (c = 0)) [.own (.lst l1) false, .un, .un, .un]) tl) = appR [.own (.lst l) false] (tl [.own (.lst l2) false, .val (encF n L N), .val (.int h), .un])) ∧ Pool l2 ∧ GOk n L ∧ n ≤ 6 ∧ (∀ x ∈ N, NOk n 5 x) ∧ 1 ≤ N.length ∧ N.length ≤ 3 ∧ 1 ≤ h ∧ h ≤ 5 := by
    by_cases z : c = 0
    · subst z
      obtain ⟨n, L, N, l2, e2, hp, hg, hn, hN, h1, h2⟩ := field_ok hp (most := 4) (nodes := 2) (bat := 5) (by omega) (by omega) (by omega) (by omega) (by omega) (by omega)
      obtain ⟨k, l3, e3, k0, k1, hp⟩ := draw_ok hp (m := 5) (by omega) (by omega)
      refine ⟨n, L, N, 1 + k, l3, fun tl => ?_, hp, hg, by omega, hN, h1, by omega, by omega, by omega⟩
      simp -implicitDefEqProofs (decide := true) only [evs0, evs1, evs2, evs3, evs4, evs5, evs6, evs7, evs8, evs9, evs10, List.length_cons, List.length_nil, Nat.reduceAdd, Nat.reduceSub, ↓reduceIte, Nat.reduceLeDiff, Int.reduceEq, Int.reduceLT, Int.reduceLE, Option.isSome_some, Option.isSome_none, Option.getD_some, Option.getD_none, e2, e3]
    · obtain ⟨n, L, N, l2, e2, hp, hg, hn, hN, h1, h2⟩ := field_ok hp (most := 6) (nodes := 3) (bat := 4) (by omega) (by omega) (by omega) (by omega) (by omega) (by omega)
      obtain ⟨k, l3, e3, k0, k1, hp⟩ := draw_ok hp (m := 3) (by omega) (by omega)
      refine ⟨n, L, N, 1 + k, l3, fun tl => ?_, hp, hg, by omega, fun x hx => ⟨(hN x hx).1, (hN x hx).2.1, (hN x hx).2.2.1, by have := (hN x hx).2.2.2; omega⟩, h1, by omega, by omega, by omega⟩
      simp -implicitDefEqProofs (decide := true) only [evs0, evs1, evs2, evs3, evs4, evs5, evs6, evs7, evs8, evs9, evs10, List.length_cons, List.length_nil, Nat.reduceAdd, Nat.reduceSub, ↓reduceIte, Nat.reduceLeDiff, Int.reduceEq, Int.reduceLT, Int.reduceLE, Option.isSome_some, Option.isSome_none, Option.getD_some, Option.getD_none, z, e2, e3]
  obtain ⟨n, L, N, h, l2, e2, hp, hg, hn, hN, hl1, hl3, hh1, hh5⟩ := fst
  have g1 := hg.pos
  obtain ⟨c2, l3, e3, c20, c21, hp⟩ := draw_ok hp (m := 3) (by omega) (by omega)
  -- more in the batteries
  have snd : ∃ (N' : List Nd) (l4 : List D), (∀ tl : Sn, appR [.own (.lst l) false] (seqR (sifK (sSet 1 (dTup (vCons (dOp2 ixB (aV 1) (aE (dC (.int 0)))) (vCons (dOpN tupB (aCons (aE (dFz law_watch_c1)) aNil)) vNil)))) sSkip (decide (0 < c2)) [.own (.lst l3) false, .val (encF n L N), .val (.int h), .un]) tl) = appR [.own (.lst l) false] (tl [.own (.lst l4) false, .val (encF n L N'), .val (.int h), .un])) ∧ Pool l4 ∧ (∀ x ∈ N', NOk n 5 x) ∧ N'.length = N.length := by
    by_cases z : 0 < c2
    · obtain ⟨N', l4, e4, hp, hN', hl'⟩ := watch_more (L := L) (h := h) hp hN (by omega)
      refine ⟨N', l4, fun tl => ?_, hp, hN', hl'⟩
      unfold law_watch_c1
      simp only [encF] at e4 ⊢
      simp -implicitDefEqProofs (decide := true) only [evs0, evs1, evs2, evs3, evs4, evs5, evs6, evs7, evs8, evs9, evs10, List.length_cons, List.length_nil, Nat.reduceAdd, Nat.reduceSub, ↓reduceIte, Nat.reduceLeDiff, Int.reduceEq, Int.reduceLT, Int.reduceLE, Option.isSome_some, Option.isSome_none, Option.getD_some, Option.getD_none, z, e4]
    · refine ⟨N, l3, fun tl => ?_, hp, hN, rfl⟩
      simp -implicitDefEqProofs (decide := true) only [evs0, evs1, evs2, evs3, evs4, evs5, evs6, evs7, evs8, evs9, evs10, List.length_cons, List.length_nil, Nat.reduceAdd, Nat.reduceSub, ↓reduceIte, Nat.reduceLeDiff, Int.reduceEq, Int.reduceLT, Int.reduceLE, Option.isSome_some, Option.isSome_none, Option.getD_some, Option.getD_none, z]
  obtain ⟨N', l4, e4, hp, hN', hl'⟩ := snd
  obtain ⟨a, l5, e5, a0, a1, hp⟩ := draw_ok hp (m := 3) (by omega) (by omega)
  obtain ⟨w, l6, e6, w0, w1, hp⟩ := draw_ok hp (m := 4) (by omega) (by omega)
  obtain ⟨k, l7, e7, k0, k1, hp⟩ := draw_ok hp (m := 4) (by omega) (by omega)
  obtain ⟨s, es, s0, s3⟩ := small_at w0 w1 k0 k1
  obtain ⟨q, l8, e8, q0, q1, hp⟩ := draw_ok hp (m := 2) (by omega) (by omega)
  have i0 : ixB (encF n L N') (.int 0) = some (encG n L) := rfl
  have i1 : ixB (encG n L) (.int 0) = some (.int n) := rfl
  unfold f_law_watch b_law_watch
  by_cases hq : q = 0
  · subst hq
    obtain ⟨t, l9, e9, t0, t1, hp⟩ := draw_ok hp (m := if n - 1 > 1 then n - 1 else 1) (by split <;> omega) (by split <;> omega)
    refine ⟨n, L, N', 1 + a, h, s, 1 + t, l9, ?_, hp, ⟨hg, hn, hN', by omega, by omega, by omega, by omega, hh1, hh5, s0, s3, by omega, by split at t1 <;> omega⟩⟩
    simp -implicitDefEqProofs (decide := true) only [evs0, evs1, evs2, evs3, evs4, evs5, evs6, evs7, evs8, evs9, evs10, List.length_cons, List.length_nil, Nat.reduceAdd, Nat.reduceSub, ↓reduceIte, Nat.reduceLeDiff, Int.reduceEq, Int.reduceLT, Int.reduceLE, Option.isSome_some, Option.isSome_none, Option.getD_some, Option.getD_none, e1, e2, e3, e4, e5, e6, e7, es, e8, i0, i1, int_bool, e9, encW]
  · obtain ⟨t, l9, e9, t0, t1, hp⟩ := draw_ok hp (m := if n - 0 > 1 then n - 0 else 1) (by split <;> omega) (by split <;> omega)
    refine ⟨n, L, N', 1 + a, h, s, 1 + t, l9, ?_, hp, ⟨hg, hn, hN', by omega, by omega, by omega, by omega, hh1, hh5, s0, s3, by omega, by split at t1 <;> omega⟩⟩
    simp -implicitDefEqProofs (decide := true) only [evs0, evs1, evs2, evs3, evs4, evs5, evs6, evs7, evs8, evs9, evs10, List.length_cons, List.length_nil, Nat.reduceAdd, Nat.reduceSub, ↓reduceIte, Nat.reduceLeDiff, Int.reduceEq, Int.reduceLT, Int.reduceLE, Option.isSome_some, Option.isSome_none, Option.getD_some, Option.getD_none, e1, e2, e3, e4, e5, e6, e7, es, e8, i0, i1, hq, int_bool, Bool.false_eq_true, e9, encW]
end Ft
/-! Steps: how far places are, by both. -/
namespace Ft
open PySem L2
def lookS : List (Int × Int) → Int → Option Int
  | [], _ => none
  | (a, d) :: r, p => if a = p then some d else lookS r p
def encS (S : List (Int × Int)) : List (D × D) := S.map fun p => (PyData.int p.1, PyData.int p.2)
theorem gK_encS (S : List (Int × Int)) (p : Int) : gK (encS S) (.inl p) = (lookS S p).map PyData.int := by
  induction S with
  | nil => rfl
  | cons e S ih =>
    obtain ⟨a, d⟩ := e
    show (if keyD (.int a) = some (.inl p) then some (PyData.int d) else gK (encS S) (.inl p)) = _
    by_cases h : a = p
    · subst h; simp [keyD, lookS]
    · have h2 : ¬ keyD (.int a) = some (.inl p) := fun z => h (by simpa [keyD] using z)
      rw [if_neg h2, ih]
      simp [lookS, h]
theorem pK_encS {S : List (Int × Int)} {p : Int} (h : lookS S p = none) (d : Int) : pK (encS S) (.inl p) (.int d) = encS (S ++ [(p, d)]) := by
  have e := gK_encS S p
  rw [h] at e
  unfold pK pG
  rw [if_neg (by rw [show gG keyD (encS S) (.inl p) = none from e]; decide)]
  simp [encS, kD]
theorem lookS_snoc {S : List (Int × Int)} {p q d : Int} (h : lookS S p = none) : lookS (S ++ [(p, d)]) q = if q = p then some d else lookS S q := by
  induction S with
  | nil =>
    simp only [List.nil_append, lookS]
    by_cases e : p = q
    · subst e; simp
    · have e2 : ¬ q = p := fun z => e z.symm
      simp [e, e2]
  | cons x S ih =>
    obtain ⟨a, c⟩ := x
    simp only [lookS] at h
    by_cases e : a = p
    · simp [e] at h
    · rw [if_neg e] at h
      simp only [List.cons_append, lookS, ih h]
      by_cases e2 : a = q
      · subst e2; simp [e]
      · simp [e2]
theorem lookS_none {S : List (Int × Int)} {p : Int} : lookS S p = none ↔ p ∉ S.map (·.1) := by
  induction S with
  | nil => simp [lookS]
  | cons x S ih =>
    obtain ⟨a, c⟩ := x
    simp only [lookS, List.map_cons, List.mem_cons, not_or]
    by_cases e : a = p
    · subst e; simp
    · have e2 : ¬ p = a := fun z => e z.symm
      simp [e, e2, ih]
structure KOk (n : Int) (S : List (Int × Int)) : Prop where
  nd : (S.map (·.1)).Nodup
  rg : ∀ p ∈ S, 0 ≤ p.1 ∧ p.1 < n
theorem nodup_len {l : List Int} {n : Int} (hn : l.Nodup) (h : ∀ x ∈ l, 0 ≤ x ∧ x < n) : l.length ≤ n.toNat := by
  have hp := srt_perm l
  have hnd : (srt l).Nodup := hp.nodup_iff.mpr hn
  have hs : (srt l).Pairwise (· < ·) := by
    have h1 := srt_sorted l
    have h2 : (srt l).Pairwise (· ≠ ·) := hnd
    exact (h1.and h2).imp fun ⟨x, y⟩ => by omega
  have := incr_len (srt l) 0 n (fun x hx => h x (hp.mem_iff.mp hx)) hs
  have := hp.length_eq
  omega
theorem KOk.len {n : Int} {S : List (Int × Int)} (h : KOk n S) : S.length ≤ n.toNat := by
  have := nodup_len h.nd (n := n) (fun x hx => by
    obtain ⟨p, hp, rfl⟩ := List.mem_map.mp hx
    exact h.rg p hp)
  rwa [List.length_map] at this
theorem KOk.snoc {n p d : Int} {S : List (Int × Int)} (h : KOk n S) (hl : lookS S p = none) (h0 : 0 ≤ p) (h1 : p < n) : KOk n (S ++ [(p, d)]) := by
  refine ⟨?_, fun q hq => ?_⟩
  · rw [List.map_append, List.nodup_append]
    refine ⟨h.nd, by simp, fun a ha b hb => ?_⟩
    simp only [List.map_cons, List.map_nil, List.mem_singleton] at hb
    subst hb
    intro z
    subst z
    exact lookS_none.mp hl ha
  · rcases List.mem_append.mp hq with hq | hq
    · exact h.rg q hq
    · rw [List.mem_singleton] at hq; subst hq; exact ⟨h0, h1⟩
/-! ### the visit of a place -/
abbrev Vs := List (Int × Int) × List Int
def vis (t : Int) (s : Vs) (o : Int) : Vs := if (lookS s.1 o).isSome = true then s else (s.1 ++ [(o, t)], s.2 ++ [o])
def visL (t : Int) (s : Vs) (os : List Int) : Vs := os.foldl (vis t) s
/-- what holds along visits -/
structure VOk (n t : Int) (S0 : List (Int × Int)) (s : Vs) : Prop where
  k : KOk n s.1
  old : ∀ p d, lookS S0 p = some d → lookS s.1 p = some d
  new : ∀ p ∈ s.2, lookS s.1 p = some t ∧ 0 ≤ p ∧ p < n
theorem vis_ok {n t o : Int} {S0 : List (Int × Int)} {s : Vs} (h : VOk n t S0 s) (h0 : 0 ≤ o) (h1 : o < n) : VOk n t S0 (vis t s o) ∧ (vis t s o).1.length + s.2.length = s.1.length + (vis t s o).2.length := by
  unfold vis
  by_cases e : (lookS s.1 o).isSome = true
  · rw [if_pos e]; exact ⟨h, rfl⟩
  · rw [if_neg e]
    have hn : lookS s.1 o = none := by cases z : lookS s.1 o with | none => rfl | some d => rw [z] at e; exact absurd rfl e
    refine ⟨⟨h.k.snoc hn h0 h1, fun p d hp => ?_, fun p hp => ?_⟩, by simp; omega⟩
    · have := h.old p d hp
      rw [lookS_snoc hn]
      by_cases e2 : p = o
      · subst e2; rw [hn] at this; cases this
      · rw [if_neg e2]; exact this
    · rw [lookS_snoc hn]
      rcases List.mem_append.mp hp with hp | hp
      · obtain ⟨a, b⟩ := h.new p hp
        by_cases e2 : p = o
        · subst e2; rw [hn] at a; cases a
        · rw [if_neg e2]; exact ⟨a, b⟩
      · rw [List.mem_singleton] at hp; subst hp; exact ⟨if_pos rfl, h0, h1⟩
theorem visL_ok {n t : Int} {S0 : List (Int × Int)} : ∀ {os : List Int} {s : Vs}, VOk n t S0 s → (∀ o ∈ os, 0 ≤ o ∧ o < n) → VOk n t S0 (visL t s os) ∧ (visL t s os).1.length + s.2.length = s.1.length + (visL t s os).2.length
  | [], s, h, _ => ⟨h, rfl⟩
  | o :: os, s, h, ho => by
    obtain ⟨a, b⟩ := vis_ok h (ho o (List.mem_cons_self ..)).1 (ho o (List.mem_cons_self ..)).2
    obtain ⟨c, d⟩ := visL_ok a fun o h => ho o (List.mem_cons_of_mem _ h)
    exact ⟨c, by show (visL t (vis t s o) os).1.length + _ = _ + (visL t (vis t s o) os).2.length; omega⟩
/-- the places of a level, each with its neighbours -/
def visA (L : List (Int × Int)) (n t : Int) (s : Vs) (A : List Int) : Vs := A.foldl (fun s p => visL t s (nb L n p)) s
theorem visA_ok {n t : Int} {L S0 : List (Int × Int)} : ∀ {A : List Int} {s : Vs}, VOk n t S0 s → VOk n t S0 (visA L n t s A) ∧ (visA L n t s A).1.length + s.2.length = s.1.length + (visA L n t s A).2.length
  | [], s, h => ⟨h, rfl⟩
  | p :: A, s, h => by
    obtain ⟨a, b⟩ := visL_ok (os := nb L n p) h fun o ho => (mem_nb.mp ho).1
    obtain ⟨c, d⟩ := visA_ok (A := A) a
    exact ⟨c, by show (visA L n t (visL t s (nb L n p)) A).1.length + _ = _ + (visA L n t (visL t s (nb L n p)) A).2.length; omega⟩
def levS (L : List (Int × Int)) (n : Int) : Nat → Int → List (Int × Int) → List Int → List (Int × Int)
  | 0, _, S, _ => S
  | f + 1, t, S, A => match A with
    | [] => S
    | p :: A => levS L n f (t + 1) (visA L n (t + 1) (S, []) (p :: A)).1 (visA L n (t + 1) (S, []) (p :: A)).2
def distS (L : List (Int × Int)) (n a : Int) : List (Int × Int) := levS L n (n.toNat + 2) 0 [(a, 0)] [a]
theorem levS_nil {L : List (Int × Int)} {n t : Int} {S : List (Int × Int)} : ∀ {f : Nat}, levS L n f t S [] = S
  | 0 => rfl
  | _ + 1 => rfl
/-! ### the law's walk -/
theorem dict_small {n : Int} {S : List (Int × Int)} (h : KOk n S) (hn : n ≤ 1000) : (encS S).length < 16000000 := by
  have := h.len
  unfold encS; rw [List.length_map]; omega
theorem law_visit {n t place : Int} {g a lv : D} {S0 : List (Int × Int)} (hn : n ≤ 1000) : ∀ (os : List Int) (s : Vs) (y6 : LV), VOk n (t + 1) S0 s → lookS S0 place = some t → (∀ o ∈ os, 0 ≤ o ∧ o < n) → s.2.length ≤ s.1.length → nioK (some y6) = true →
    ∃ z6, nioK (some z6) = true ∧ forV (bN 6) law_steps_b1 (os.map PyData.int) [.val g, .val a, .val lv, .own (.dK (encS s.1)) true, .own (.lst (s.2.map PyData.int)) true, .val (.int place), y6] =
      .next [.val g, .val a, .val lv, .own (.dK (encS (visL (t + 1) s os).1)) true, .own (.lst ((visL (t + 1) s os).2.map PyData.int)) true, .val (.int place), z6]
  | [], s, y6, _, _, _, _, h6 => ⟨y6, h6, rfl⟩
  | o :: os, s, y6, h, hp, ho, hl, h6 => by
    obtain ⟨o0, o1⟩ := ho o (List.mem_cons_self ..)
    obtain ⟨h', hlen⟩ := vis_ok h o0 o1
    obtain ⟨z6, hz, e⟩ := law_visit (g := g) (a := a) (lv := lv) hn os (vis (t + 1) s o) (.val (.int o)) h' hp (fun o h => ho o (List.mem_cons_of_mem _ h)) (by omega) rfl
    refine ⟨z6, hz, ?_⟩
    have b1 : bN 6 (.int o) [.val g, .val a, .val lv, .own (.dK (encS s.1)) true, .own (.lst (s.2.map PyData.int)) true, .val (.int place), y6] = some [.val g, .val a, .val lv, .own (.dK (encS s.1)) true, .own (.lst (s.2.map PyData.int)) true, .val (.int place), .val (.int o)] := by simp -implicitDefEqProofs only [evs0, evs1, evs2, evs3, evs4, evs5, evs6, evs7, evs8, evs9, evs10, List.length_cons, List.length_nil, Nat.reduceAdd, Nat.reduceSub, ↓reduceIte, Nat.reduceLeDiff, Int.reduceEq, Int.reduceLT, Int.reduceLE, Option.isSome_some, Option.isSome_none, Option.getD_some, Option.getD_none, h6]
    have g1 := gK_encS s.1 o
    have g2 := gK_encS s.1 place
    rw [h.old place t hp] at g2
    have hd := dict_small h.k hn
    have hk := h.k.len
    have hz2 : (s.2.map PyData.int).length < 16000000 := by rw [List.length_map]; omega
    have b2 : law_steps_b1 [.val g, .val a, .val lv, .own (.dK (encS s.1)) true, .own (.lst (s.2.map PyData.int)) true, .val (.int place), .val (.int o)] = .next [.val g, .val a, .val lv, .own (.dK (encS (vis (t + 1) s o).1)) true, .own (.lst ((vis (t + 1) s o).2.map PyData.int)) true, .val (.int place), .val (.int o)] := by
      unfold law_steps_b1 vis
      cases e : lookS s.1 o with
      | some d =>
        rw [e] at g1
        simp -implicitDefEqProofs (decide := true) only [evs0, evs1, evs2, evs3, evs4, evs5, evs6, evs7, evs8, evs9, evs10, List.length_cons, List.length_nil, Nat.reduceAdd, Nat.reduceSub, ↓reduceIte, Nat.reduceLeDiff, Int.reduceEq, Int.reduceLT, Int.reduceLE, Option.isSome_some, Option.isSome_none, Option.getD_some, Option.getD_none, g1, Option.map_some]
      | none =>
        rw [e] at g1
        have pk := pK_encS e (t + 1)
        simp -implicitDefEqProofs (decide := true) only [evs0, evs1, evs2, evs3, evs4, evs5, evs6, evs7, evs8, evs9, evs10, List.length_cons, List.length_nil, Nat.reduceAdd, Nat.reduceSub, ↓reduceIte, Nat.reduceLeDiff, Int.reduceEq, Int.reduceLT, Int.reduceLE, Option.isSome_some, Option.isSome_none, Option.getD_some, Option.getD_none, g1, g2, Option.map_some, Option.map_none, ev_putD1 hd, pk, ev_appK2 hz2, List.map_append, List.map_cons, List.map_nil]
    rw [List.map_cons]
    unfold forV
    rw [b1]
    simp only [b2]
    rw [e]
    rfl
theorem law_level {n t : Int} {a lv : D} {L S0 : List (Int × Int)} (hg : GOk n L) (hn : n ≤ 1000) : ∀ (A : List Int) (s : Vs) (y5 y6 : LV), VOk n (t + 1) S0 s → (∀ p ∈ A, lookS S0 p = some t ∧ 0 ≤ p ∧ p < n) → s.2.length ≤ s.1.length → nioK (some y5) = true → nioK (some y6) = true →
    ∃ z5 z6, nioK (some z5) = true ∧ nioK (some z6) = true ∧ forV (bN 5) law_steps_b2 (A.map PyData.int) [.val (encG n L), .val a, .val lv, .own (.dK (encS s.1)) true, .own (.lst (s.2.map PyData.int)) true, y5, y6] =
      .next [.val (encG n L), .val a, .val lv, .own (.dK (encS (visA L n (t + 1) s A).1)) true, .own (.lst ((visA L n (t + 1) s A).2.map PyData.int)) true, z5, z6]
  | [], s, y5, y6, _, _, _, h5, h6 => ⟨y5, y6, h5, h6, rfl⟩
  | p :: A, s, y5, y6, h, hA, hl, h5, h6 => by
    obtain ⟨hp, p0, p1⟩ := hA p (List.mem_cons_self ..)
    obtain ⟨h', hlen⟩ := visL_ok (os := nb L n p) h fun o ho => (mem_nb.mp ho).1
    obtain ⟨w6, hw, e1⟩ := law_visit (g := encG n L) (a := a) (lv := lv) hn (nb L n p) s y6 h hp (fun o ho => (mem_nb.mp ho).1) hl h6
    obtain ⟨z5, z6, hz5, hz6, e2⟩ := law_level (a := a) (lv := lv) hg hn A (visL (t + 1) s (nb L n p)) (.val (.int p)) w6 h' (fun p hp => hA p (List.mem_cons_of_mem _ hp)) (by omega) rfl hw
    refine ⟨z5, z6, hz5, hz6, ?_⟩
    have b1 : bN 5 (.int p) [.val (encG n L), .val a, .val lv, .own (.dK (encS s.1)) true, .own (.lst (s.2.map PyData.int)) true, y5, y6] = some [.val (encG n L), .val a, .val lv, .own (.dK (encS s.1)) true, .own (.lst (s.2.map PyData.int)) true, .val (.int p), y6] := by simp -implicitDefEqProofs only [evs0, evs1, evs2, evs3, evs4, evs5, evs6, evs7, evs8, evs9, evs10, List.length_cons, List.length_nil, Nat.reduceAdd, Nat.reduceSub, ↓reduceIte, Nat.reduceLeDiff, Int.reduceEq, Int.reduceLT, Int.reduceLE, Option.isSome_some, Option.isSome_none, Option.getD_some, Option.getD_none, h5]
    have e3 := law_beside_ok (L := L) (n := n) (p := p) (by omega) (by have := hg.pos; omega)
    have b2 : law_steps_b2 [.val (encG n L), .val a, .val lv, .own (.dK (encS s.1)) true, .own (.lst (s.2.map PyData.int)) true, .val (.int p), y6] = .next [.val (encG n L), .val a, .val lv, .own (.dK (encS (visL (t + 1) s (nb L n p)).1)) true, .own (.lst ((visL (t + 1) s (nb L n p)).2.map PyData.int)) true, .val (.int p), w6] := by
      unfold law_steps_b2
      simp -implicitDefEqProofs (decide := true) only [evs0, evs1, evs2, evs3, evs4, evs5, evs6, evs7, evs8, evs9, evs10, List.length_cons, List.length_nil, Nat.reduceAdd, Nat.reduceSub, ↓reduceIte, Nat.reduceLeDiff, Int.reduceEq, Int.reduceLT, Int.reduceLE, Option.isSome_some, Option.isSome_none, Option.getD_some, Option.getD_none, e3, e1]
    rw [List.map_cons]
    unfold forV
    rw [b1]
    simp only [b2]
    rw [e2]
    rfl
theorem ne_nil (A : List Int) : toB neB (.list (A.map PyData.int)) (.list []) = some (.bool (!A.isEmpty)) := by
  have h : neB (.list (A.map PyData.int)) (.list []) = some (!A.isEmpty) := by
    have f : flat2 (.list (A.map PyData.int)) (.list []) = true := by
      unfold flat2
      have hd : (PyData.list ([] : List D)).depth = 1 := rfl
      have h1 : (PyData.list (A.map PyData.int)).plain = true := by simp only [PyData.plain, plain_ints]
      have h2 : (PyData.list ([] : List D)).plain = true := rfl
      rw [h1, h2, hd]
      simp only [Bool.true_and, decide_eq_true_eq]
      exact Nat.le_trans (Nat.min_le_right _ _) (by decide)
    have e : PyData.eqv (.list (A.map PyData.int)) (.list []) = A.isEmpty := by
      cases A <;> simp [PyData.eqv, PyData.eqvAll]
    show (if flat2 _ _ = true then some (!PyData.eqv _ _) else none) = _
    rw [if_pos f, e]
  unfold toB
  rw [h]; rfl
theorem law_while {n a : Int} {L : List (Int × Int)} (hg : GOk n L) (hn : n ≤ 1000) (a0 : 0 ≤ a) (a1 : a < n) :
    ∃ y4 y5 y6, nioK (some y5) = true ∧ sWhile law_steps_w1 law_steps_b3 [.val (encG n L), .val (.int a), .val (.list [.int a]), .own (.dK (encS [(a, 0)])) true, .un, .un, .un] = .next [.val (encG n L), .val (.int a), .val (.list []), .own (.dK (encS (distS L n a))) true, y4, y5, y6] ∧ KOk n (distS L n a) ∧ lookS (distS L n a) a = some 0 := by
  refine while_at (P := fun q => ∃ y4 y5 y6, nioK (some y5) = true ∧ q = .next [.val (encG n L), .val (.int a), .val (.list []), .own (.dK (encS (distS L n a))) true, y4, y5, y6] ∧ KOk n (distS L n a) ∧ lookS (distS L n a) a = some 0)
    (fun m ρ => ∃ (S : List (Int × Int)) (A : List Int) (t : Int) (f : Nat) (y4 y5 y6 : LV), ρ = [.val (encG n L), .val (.int a), .val (.list (A.map PyData.int)), .own (.dK (encS S)) true, y4, y5, y6] ∧ nioK (some y4) = true ∧ nioK (some y5) = true ∧ nioK (some y6) = true ∧
      KOk n S ∧ (∀ p ∈ A, lookS S p = some t ∧ 0 ≤ p ∧ p < n) ∧ lookS S a = some 0 ∧ m = (n.toNat - S.length) + A.length ∧ m < f ∧ levS L n f t S A = distS L n a) (m := n.toNat) (by omega) ⟨[(a, 0)], [a], 0, n.toNat + 2, .un, .un, .un, rfl, rfl, rfl, rfl, ⟨by simp, fun p hp => by rw [List.mem_singleton] at hp; subst hp; exact ⟨a0, a1⟩⟩, fun p hp => by rw [List.mem_singleton] at hp; subst hp; exact ⟨by simp [lookS], a0, a1⟩, by simp [lookS], by simp; omega, by omega, rfl⟩ ?_
  rintro m ρ ⟨S, A, t, f, y4, y5, y6, rfl, h4, h5, h6, hk, hA, ha, rfl, hf, hd⟩
  refine ⟨!A.isEmpty, [.val (encG n L), .val (.int a), .val (.list (A.map PyData.int)), .own (.dK (encS S)) true, y4, y5, y6], ?_, fun h => ?_, fun h => ?_⟩
  · have := ne_nil A
    unfold law_steps_w1
    simp -implicitDefEqProofs only [evs0, evs1, evs2, evs3, evs4, evs5, evs6, evs7, evs8, evs9, evs10, List.length_cons, List.length_nil, Nat.reduceAdd, Nat.reduceSub, ↓reduceIte, Nat.reduceLeDiff, Int.reduceEq, Int.reduceLT, Int.reduceLE, Option.isSome_some, Option.isSome_none, Option.getD_some, Option.getD_none, this]
  · have hA0 : A = [] := by cases A with | nil => rfl | cons => cases h
    subst hA0
    rw [levS_nil] at hd
    subst hd
    exact ⟨y4, y5, y6, h5, rfl, hk, ha⟩
  · obtain ⟨p, A, rfl⟩ : ∃ p A', A = p :: A' := by cases A with | nil => cases h | cons p A => exact ⟨p, A, rfl⟩
    have v0 : VOk n (t + 1) S (S, []) := ⟨hk, fun p d h => h, fun p hp => by cases hp⟩
    obtain ⟨z5, z6, hz5, hz6, e⟩ := law_level (a := .int a) (lv := .list ((p :: A).map PyData.int)) hg hn (p :: A) (S, []) y5 y6 v0 hA (Nat.zero_le _) h5 h6
    obtain ⟨v1, hlen⟩ := visA_ok (L := L) (A := p :: A) v0
    have e2 : law_steps_b3 [.val (encG n L), .val (.int a), .val (.list ((p :: A).map PyData.int)), .own (.dK (encS S)) true, y4, y5, y6] = .next [.val (encG n L), .val (.int a), .val (.list ((visA L n (t + 1) (S, []) (p :: A)).2.map PyData.int)), .own (.dK (encS (visA L n (t + 1) (S, []) (p :: A)).1)) true, .val (.list ((visA L n (t + 1) (S, []) (p :: A)).2.map PyData.int)), z5, z6] := by
      have e' : forV (bN 5) law_steps_b2 ((p :: A).map PyData.int) [.val (encG n L), .val (.int a), .val (.list ((p :: A).map PyData.int)), .own (.dK (encS S)) true, .own (.lst []) true, y5, y6] = _ := e
      unfold law_steps_b3
      simp -implicitDefEqProofs (decide := true) only [evs0, evs1, evs2, evs3, evs4, evs5, evs6, evs7, evs8, evs9, evs10, List.length_cons, List.length_nil, Nat.reduceAdd, Nat.reduceSub, ↓reduceIte, Nat.reduceLeDiff, Int.reduceEq, Int.reduceLT, Int.reduceLE, Option.isSome_some, Option.isSome_none, Option.getD_some, Option.getD_none, h4, e']
    rw [e2]
    have hk1 := v1.k.len
    have hk0 := hk.len
    simp only [List.length_nil, List.length_cons, Nat.add_zero] at hlen hf ⊢
    refine ⟨_, ?_, (visA L n (t + 1) (S, []) (p :: A)).1, (visA L n (t + 1) (S, []) (p :: A)).2, t + 1, f - 1, _, z5, z6, rfl, rfl, hz5, hz6, v1.k, v1.new, v1.old a 0 ha, rfl, ?_, ?_⟩
    · omega
    · omega
    · rw [← hd]
      obtain ⟨f', rfl⟩ : ∃ f', f = f' + 1 := ⟨f - 1, by omega⟩
      rfl
def optD : Option Int → D
  | some d => .int d
  | none => .none
theorem dist_ok {n a : Int} {L : List (Int × Int)} (hg : GOk n L) (hn : n ≤ 1000) (a0 : 0 ≤ a) (a1 : a < n) : KOk n (distS L n a) ∧ lookS (distS L n a) a = some 0 := by
  obtain ⟨_, _, _, _, _, h1, h2⟩ := law_while hg hn a0 a1
  exact ⟨h1, h2⟩
def stepsL (L : List (Int × Int)) (n a : Int) : List D := (irange n).map fun p => optD (lookS (distS L n a) p)
theorem law_steps_ok {n a : Int} {L : List (Int × Int)} (hg : GOk n L) (hn : n ≤ 1000) (a0 : 0 ≤ a) (a1 : a < n) : f_law_steps [.val (encG n L), .val (.int a)] = .ok (.list (stepsL L n a)) [] := by
  obtain ⟨y4, y5, y6, h5, e, hk, _⟩ := law_while hg hn a0 a1
  have c := comp_upto (bd := bN 5) (elt := law_steps_e1) (vs := [5]) (n := n) [.val (encG n L), .val (.int a), .val (.list []), .own (.dK (encS (distS L n a))) true, y4, .un, y6] (fun p => [.val (encG n L), .val (.int a), .val (.list []), .own (.dK (encS (distS L n a))) true, y4, .val (.int p), y6])
    (fun p => optD (lookS (distS L n a) p)) (by omega) (fun k _ _ => by simp -implicitDefEqProofs only [evs0, evs1, evs2, evs3, evs4, evs5, evs6, evs7, evs8, evs9, evs10, List.length_cons, List.length_nil, Nat.reduceAdd, Nat.reduceSub, ↓reduceIte, Nat.reduceLeDiff, Int.reduceEq, Int.reduceLT, Int.reduceLE, Option.isSome_some, Option.isSome_none, Option.getD_some, Option.getD_none]) (fun k h0 h1 => by
      have g := gK_encS (distS L n a) k
      unfold law_steps_e1
      cases z : lookS (distS L n a) k with
      | none => rw [z] at g; simp -implicitDefEqProofs only [evs0, evs1, evs2, evs3, evs4, evs5, evs6, evs7, evs8, evs9, evs10, List.length_cons, List.length_nil, Nat.reduceAdd, Nat.reduceSub, ↓reduceIte, Nat.reduceLeDiff, Int.reduceEq, Int.reduceLT, Int.reduceLE, Option.isSome_some, Option.isSome_none, Option.getD_some, Option.getD_none, g, Option.map_none, optD]
      | some d => rw [z] at g; simp -implicitDefEqProofs only [evs0, evs1, evs2, evs3, evs4, evs5, evs6, evs7, evs8, evs9, evs10, List.length_cons, List.length_nil, Nat.reduceAdd, Nat.reduceSub, ↓reduceIte, Nat.reduceLeDiff, Int.reduceEq, Int.reduceLT, Int.reduceLE, Option.isSome_some, Option.isSome_none, Option.getD_some, Option.getD_none, g, Option.map_some, optD]) (fun k => by simp -implicitDefEqProofs only [evs0, evs1, evs2, evs3, evs4, evs5, evs6, evs7, evs8, evs9, evs10, List.length_cons, List.length_nil, Nat.reduceAdd, Nat.reduceSub, ↓reduceIte, Nat.reduceLeDiff, Int.reduceEq, Int.reduceLT, Int.reduceLE, Option.isSome_some, Option.isSome_none, Option.getD_some, Option.getD_none])
  have e0 : ixB (encG n L) (.int 0) = some (.int n) := rfl
  have b1 : n < 4611686018427387904 := by omega
  have b2 : -4611686018427387904 ≤ n := by have := hg.pos; omega
  have es : encS [(a, 0)] = [(.int a, .int 0)] := rfl
  rw [es] at e
  unfold f_law_steps b_law_steps law_steps_c1
  simp -implicitDefEqProofs (decide := true) only [evs0, evs1, evs2, evs3, evs4, evs5, evs6, evs7, evs8, evs9, evs10, List.length_cons, List.length_nil, Nat.reduceAdd, Nat.reduceSub, ↓reduceIte, Nat.reduceLeDiff, Int.reduceEq, Int.reduceLT, Int.reduceLE, Option.isSome_some, Option.isSome_none, Option.getD_some, Option.getD_none, e, e0, ev_rng1 b1 b2, c, stepsL]
/-! ### the program's walk -/
theorem visit {n t place : Int} {g a : D} {S0 : List (Int × Int)} {W : List Int} (hn : n ≤ 1000) : ∀ (os : List Int) (s : Vs) (y5 : LV), VOk n (t + 1) S0 s → lookS S0 place = some t → (∀ o ∈ os, 0 ≤ o ∧ o < n) → s.2.length ≤ s.1.length → W.length ≤ 2000 → nioK (some y5) = true →
    ∃ z5, nioK (some z5) = true ∧ forV (bN 5) distances_b1 (os.map PyData.int) [.val g, .val a, .own (.dK (encS s.1)) true, .own (.lst ((W ++ s.2).map PyData.int)) true, .val (.int place), y5] =
      .next [.val g, .val a, .own (.dK (encS (visL (t + 1) s os).1)) true, .own (.lst ((W ++ (visL (t + 1) s os).2).map PyData.int)) true, .val (.int place), z5]
  | [], s, y5, _, _, _, _, _, h5 => ⟨y5, h5, rfl⟩
  | o :: os, s, y5, h, hp, ho, hl, hW, h5 => by
    obtain ⟨o0, o1⟩ := ho o (List.mem_cons_self ..)
    obtain ⟨h', hlen⟩ := vis_ok h o0 o1
    obtain ⟨z5, hz, e⟩ := visit (g := g) (a := a) hn os (vis (t + 1) s o) (.val (.int o)) h' hp (fun o h => ho o (List.mem_cons_of_mem _ h)) (by omega) hW rfl
    refine ⟨z5, hz, ?_⟩
    have b1 : bN 5 (.int o) [.val g, .val a, .own (.dK (encS s.1)) true, .own (.lst ((W ++ s.2).map PyData.int)) true, .val (.int place), y5] = some [.val g, .val a, .own (.dK (encS s.1)) true, .own (.lst ((W ++ s.2).map PyData.int)) true, .val (.int place), .val (.int o)] := by simp -implicitDefEqProofs only [evs0, evs1, evs2, evs3, evs4, evs5, evs6, evs7, evs8, evs9, evs10, List.length_cons, List.length_nil, Nat.reduceAdd, Nat.reduceSub, ↓reduceIte, Nat.reduceLeDiff, Int.reduceEq, Int.reduceLT, Int.reduceLE, Option.isSome_some, Option.isSome_none, Option.getD_some, Option.getD_none, h5]
    have g1 := gK_encS s.1 o
    have g2 := gK_encS s.1 place
    rw [h.old place t hp] at g2
    have hd := dict_small h.k hn
    have hk := h.k.len
    have hz2 : (W.map PyData.int ++ s.2.map PyData.int).length < 16000000 := by rw [List.length_append, List.length_map, List.length_map]; omega
    have b2 : distances_b1 [.val g, .val a, .own (.dK (encS s.1)) true, .own (.lst ((W ++ s.2).map PyData.int)) true, .val (.int place), .val (.int o)] = .next [.val g, .val a, .own (.dK (encS (vis (t + 1) s o).1)) true, .own (.lst ((W ++ (vis (t + 1) s o).2).map PyData.int)) true, .val (.int place), .val (.int o)] := by
      unfold distances_b1 vis
      cases e : lookS s.1 o with
      | some d =>
        rw [e] at g1
        simp -implicitDefEqProofs (decide := true) only [evs0, evs1, evs2, evs3, evs4, evs5, evs6, evs7, evs8, evs9, evs10, List.length_cons, List.length_nil, Nat.reduceAdd, Nat.reduceSub, ↓reduceIte, Nat.reduceLeDiff, Int.reduceEq, Int.reduceLT, Int.reduceLE, Option.isSome_some, Option.isSome_none, Option.getD_some, Option.getD_none, g1, Option.map_some]
      | none =>
        rw [e] at g1
        have pk := pK_encS e (t + 1)
        simp -implicitDefEqProofs (decide := true) only [evs0, evs1, evs2, evs3, evs4, evs5, evs6, evs7, evs8, evs9, evs10, List.length_cons, List.length_nil, Nat.reduceAdd, Nat.reduceSub, ↓reduceIte, Nat.reduceLeDiff, Int.reduceEq, Int.reduceLT, Int.reduceLE, Option.isSome_some, Option.isSome_none, Option.getD_some, Option.getD_none, g1, g2, Option.map_some, Option.map_none, ev_putD1 hd, pk, ev_appK2 hz2, List.map_append, List.map_cons, List.map_nil, List.append_assoc, Bool.false_eq_true]
    rw [List.map_cons]
    unfold forV
    rw [b1]
    simp only [b2]
    rw [e]
    rfl
theorem dist_while {n a : Int} {L : List (Int × Int)} (hg : GOk n L) (hn : n ≤ 1000) (a0 : 0 ≤ a) (a1 : a < n) :
    ∃ y4 y5, sWhile distances_w1 distances_b2 [.val (encG n L), .val (.int a), .own (.dK (encS [(a, 0)])) true, .own (.lst [.int a]) true, .un, .un] = .next [.val (encG n L), .val (.int a), .own (.dK (encS (distS L n a))) true, .own (.lst []) true, y4, y5] := by
  refine while_at (P := fun q => ∃ y4 y5, q = .next [.val (encG n L), .val (.int a), .own (.dK (encS (distS L n a))) true, .own (.lst []) true, y4, y5])
    (fun m ρ => ∃ (S : List (Int × Int)) (A B : List Int) (t : Int) (f : Nat) (y4 y5 : LV), ρ = [.val (encG n L), .val (.int a), .own (.dK (encS S)) true, .own (.lst ((A ++ B).map PyData.int)) true, y4, y5] ∧ nioK (some y4) = true ∧ nioK (some y5) = true ∧
      KOk n S ∧ (∀ p ∈ A, lookS S p = some t ∧ 0 ≤ p ∧ p < n) ∧ (∀ p ∈ B, lookS S p = some (t + 1) ∧ 0 ≤ p ∧ p < n) ∧ A.length + B.length ≤ S.length ∧ m = (n.toNat - S.length) + (A.length + B.length) ∧ (n.toNat - S.length) + B.length < f ∧ levS L n f (t + 1) (visA L n (t + 1) (S, B) A).1 (visA L n (t + 1) (S, B) A).2 = distS L n a) (m := n.toNat) (by omega)
    ⟨[(a, 0)], [a], [], 0, n.toNat + 1, .un, .un, rfl, rfl, rfl, ⟨by simp, fun p hp => by rw [List.mem_singleton] at hp; subst hp; exact ⟨a0, a1⟩⟩, fun p hp => by rw [List.mem_singleton] at hp; subst hp; exact ⟨by simp [lookS], a0, a1⟩, (fun p hp => by cases hp), by simp, by simp; omega, by simp; omega, rfl⟩ ?_
  rintro m ρ ⟨S, A, B, t, f, y4, y5, rfl, h4, h5, hk, hA, hB, hAB, rfl, hf, hd⟩
  have hk0 := hk.len
  refine ⟨decide (0 < (((A ++ B).map PyData.int).length : Int)), [.val (encG n L), .val (.int a), .own (.dK (encS S)) true, .own (.lst ((A ++ B).map PyData.int)) true, y4, y5], ?_, fun h => ?_, fun h => ?_⟩
  · unfold distances_w1
    simp -implicitDefEqProofs only [evs0, evs1, evs2, evs3, evs4, evs5, evs6, evs7, evs8, evs9, evs10, List.length_cons, List.length_nil, Nat.reduceAdd, Nat.reduceSub, ↓reduceIte, Nat.reduceLeDiff, Int.reduceEq, Int.reduceLT, Int.reduceLE, Option.isSome_some, Option.isSome_none, Option.getD_some, Option.getD_none]
  · have hz : A = [] ∧ B = [] := by
      simp only [List.length_map, List.length_append, decide_eq_false_iff_not] at h
      constructor
      · apply List.eq_nil_of_length_eq_zero; omega
      · apply List.eq_nil_of_length_eq_zero; omega
    obtain ⟨rfl, rfl⟩ := hz
    have hd : levS L n f (t + 1) S [] = distS L n a := hd
    rw [levS_nil] at hd
    subst hd
    exact ⟨y4, y5, rfl⟩
  · simp only [List.length_map, List.length_append, decide_eq_true_eq] at h
    -- the level at hand is not empty
    have shift : ∃ (p : Int) (A' B' : List Int) (t' : Int) (f' : Nat), A ++ B = p :: (A' ++ B') ∧ (∀ q ∈ p :: A', lookS S q = some t' ∧ 0 ≤ q ∧ q < n) ∧ (∀ q ∈ B', lookS S q = some (t' + 1) ∧ 0 ≤ q ∧ q < n) ∧ (n.toNat - S.length) + B'.length < f' ∧ levS L n f' (t' + 1) (visA L n (t' + 1) (S, B') (p :: A')).1 (visA L n (t' + 1) (S, B') (p :: A')).2 = distS L n a := by
      cases A with
      | cons p A => exact ⟨p, A, B, t, f, rfl, hA, hB, hf, hd⟩
      | nil =>
        cases B with
        | nil => simp at h
        | cons p B =>
          refine ⟨p, B, [], t + 1, f - 1, by simp, hB, (fun q hq => by cases hq), by simp at hf ⊢; omega, ?_⟩
          rw [← hd]
          obtain ⟨f', rfl⟩ : ∃ f', f = f' + 1 := ⟨f - 1, by simp at hf; omega⟩
          rfl
    obtain ⟨p, A', B', t', f', eAB, hA', hB', hf', hd'⟩ := shift
    have lAB : A.length + B.length = 1 + (A'.length + B'.length) := by
      have := congrArg List.length eAB
      simp only [List.length_append, List.length_cons] at this
      omega
    obtain ⟨hp, p0, p1⟩ := hA' p (List.mem_cons_self ..)
    have v0 : VOk n (t' + 1) S (S, B') := ⟨hk, fun p d h => h, hB'⟩
    obtain ⟨v1, hlen⟩ := visL_ok (os := nb L n p) v0 fun o ho => (mem_nb.mp ho).1
    obtain ⟨z5, hz5, e⟩ := visit (g := encG n L) (a := .int a) (W := A') hn (nb L n p) (S, B') y5 v0 hp (fun o ho => (mem_nb.mp ho).1) (by show B'.length ≤ S.length; omega) (by omega) h5
    have e3 := beside_ok (p := p) hg
    have e2 : distances_b2 [.val (encG n L), .val (.int a), .own (.dK (encS S)) true, .own (.lst ((A ++ B).map PyData.int)) true, y4, y5] = .next [.val (encG n L), .val (.int a), .own (.dK (encS (visL (t' + 1) (S, B') (nb L n p)).1)) true, .own (.lst ((A' ++ (visL (t' + 1) (S, B') (nb L n p)).2).map PyData.int)) true, .val (.int p), z5] := by
      rw [eAB, List.map_cons]
      unfold distances_b2
      simp -implicitDefEqProofs (decide := true) only [evs0, evs1, evs2, evs3, evs4, evs5, evs6, evs7, evs8, evs9, evs10, List.length_cons, List.length_nil, Nat.reduceAdd, Nat.reduceSub, ↓reduceIte, Nat.reduceLeDiff, Int.reduceEq, Int.reduceLT, Int.reduceLE, Option.isSome_some, Option.isSome_none, Option.getD_some, Option.getD_none, h4, e3, e]
    rw [e2]
    have hk1 := v1.k.len
    simp only at hlen
    refine ⟨_, ?_, (visL (t' + 1) (S, B') (nb L n p)).1, A', (visL (t' + 1) (S, B') (nb L n p)).2, t', f', _, z5, rfl, rfl, hz5, v1.k, fun q hq => ⟨v1.old q t' (hA' q (List.mem_cons_of_mem _ hq)).1, (hA' q (List.mem_cons_of_mem _ hq)).2⟩, v1.new, ?_, rfl, ?_, hd'⟩
    · omega
    · omega
    · omega
theorem distances_ok {n a : Int} {L : List (Int × Int)} (hg : GOk n L) (hn : n ≤ 1000) (a0 : 0 ≤ a) (a1 : a < n) : f_distances [.val (encG n L), .val (.int a)] = .ok (.dict (encS (distS L n a))) [] := by
  obtain ⟨y4, y5, e⟩ := dist_while hg hn a0 a1
  have es : encS [(a, 0)] = [(.int a, .int 0)] := rfl
  rw [es] at e
  unfold f_distances b_distances
  simp -implicitDefEqProofs (decide := true) only [evs0, evs1, evs2, evs3, evs4, evs5, evs6, evs7, evs8, evs9, evs10, List.length_cons, List.length_nil, Nat.reduceAdd, Nat.reduceSub, ↓reduceIte, Nat.reduceLeDiff, Int.reduceEq, Int.reduceLT, Int.reduceLE, Option.isSome_some, Option.isSome_none, Option.getD_some, Option.getD_none, e]
/-! ### who is near -/
def within (S : List (Int × Int)) (r p : Int) : Bool := match lookS S p with
  | some d => decide (d ≤ r)
  | none => false
def nearL (L : List (Int × Int)) (n a r : Int) : List Int := (irange n).filter (within (distS L n a) r)
theorem law_near_ok {n a r : Int} {L : List (Int × Int)} (hg : GOk n L) (hn : n ≤ 1000) (a0 : 0 ≤ a) (a1 : a < n) : f_law_near [.val (encG n L), .val (.int a), .val (.int r)] = .ok (.list ((nearL L n a r).map PyData.int)) [] := by
  have hs := law_steps_ok hg hn a0 a1
  have c := comp_pure (bd := bN 4) (ifs := law_near_t1) (elt := law_near_e1) (vs := [4]) (p := fun d => match d with | .int p => within (distS L n a) r p | _ => false) (f := id) (rangeL 0 n) [] [.val (encG n L), .val (.int a), .val (.int r), .val (.list (stepsL L n a)), .un] (by rw [rangeL_len]; simp; omega) fun d hd => by
    obtain ⟨k, rfl, h0, h1⟩ := mem_rangeL.mp hd
    have e1 : atI (stepsL L n a) k = some (optD (lookS (distS L n a) k)) := by
      refine atI_get h0 ?_
      unfold stepsL irange
      rw [List.map_map, List.getElem?_map, List.getElem?_range (by omega)]
      simp only [Option.map_some, Function.comp]
      congr 2
      rw [show ((k.toNat : Nat) : Int) = k by omega]
    refine ⟨[.val (encG n L), .val (.int a), .val (.int r), .val (.list (stepsL L n a)), .val (.int k)], [.val (encG n L), .val (.int a), .val (.int r), .val (.list (stepsL L n a)), .val (.int k)], by simp -implicitDefEqProofs only [evs0, evs1, evs2, evs3, evs4, evs5, evs6, evs7, evs8, evs9, evs10, List.length_cons, List.length_nil, Nat.reduceAdd, Nat.reduceSub, ↓reduceIte, Nat.reduceLeDiff, Int.reduceEq, Int.reduceLT, Int.reduceLE, Option.isSome_some, Option.isSome_none, Option.getD_some, Option.getD_none], ?_, fun _ => by simp -implicitDefEqProofs only [evs0, evs1, evs2, evs3, evs4, evs5, evs6, evs7, evs8, evs9, evs10, List.length_cons, List.length_nil, Nat.reduceAdd, Nat.reduceSub, ↓reduceIte, Nat.reduceLeDiff, Int.reduceEq, Int.reduceLT, Int.reduceLE, Option.isSome_some, Option.isSome_none, Option.getD_some, Option.getD_none], fun _ => ⟨[.val (encG n L), .val (.int a), .val (.int r), .val (.list (stepsL L n a)), .val (.int k)], ?_, by simp -implicitDefEqProofs only [evs0, evs1, evs2, evs3, evs4, evs5, evs6, evs7, evs8, evs9, evs10, List.length_cons, List.length_nil, Nat.reduceAdd, Nat.reduceSub, ↓reduceIte, Nat.reduceLeDiff, Int.reduceEq, Int.reduceLT, Int.reduceLE, Option.isSome_some, Option.isSome_none, Option.getD_some, Option.getD_none]⟩⟩
    · unfold law_near_t1 within
      cases z : lookS (distS L n a) k with
      | none => rw [z] at e1; simp -implicitDefEqProofs (decide := true) only [evs0, evs1, evs2, evs3, evs4, evs5, evs6, evs7, evs8, evs9, evs10, List.length_cons, List.length_nil, Nat.reduceAdd, Nat.reduceSub, ↓reduceIte, Nat.reduceLeDiff, Int.reduceEq, Int.reduceLT, Int.reduceLE, Option.isSome_some, Option.isSome_none, Option.getD_some, Option.getD_none, e1, optD, z]
      | some d => rw [z] at e1; simp -implicitDefEqProofs (decide := true) only [evs0, evs1, evs2, evs3, evs4, evs5, evs6, evs7, evs8, evs9, evs10, List.length_cons, List.length_nil, Nat.reduceAdd, Nat.reduceSub, ↓reduceIte, Nat.reduceLeDiff, Int.reduceEq, Int.reduceLT, Int.reduceLE, Option.isSome_some, Option.isSome_none, Option.getD_some, Option.getD_none, e1, optD, z]
    · unfold law_near_e1
      simp -implicitDefEqProofs only [evs0, evs1, evs2, evs3, evs4, evs5, evs6, evs7, evs8, evs9, evs10, List.length_cons, List.length_nil, Nat.reduceAdd, Nat.reduceSub, ↓reduceIte, Nat.reduceLeDiff, Int.reduceEq, Int.reduceLT, Int.reduceLE, Option.isSome_some, Option.isSome_none, Option.getD_some, Option.getD_none, id]
  rw [List.nil_append, List.map_id, irange_filter (p := within (distS L n a) r) (fun k => rfl)] at c
  have e0 : ixB (encG n L) (.int 0) = some (.int n) := rfl
  have b1 : n < 4611686018427387904 := by omega
  have b2 : -4611686018427387904 ≤ n := by have := hg.pos; omega
  unfold f_law_near b_law_near law_near_c1
  simp -implicitDefEqProofs (decide := true) only [evs0, evs1, evs2, evs3, evs4, evs5, evs6, evs7, evs8, evs9, evs10, List.length_cons, List.length_nil, Nat.reduceAdd, Nat.reduceSub, ↓reduceIte, Nat.reduceLeDiff, Int.reduceEq, Int.reduceLT, Int.reduceLE, Option.isSome_some, Option.isSome_none, Option.getD_some, Option.getD_none, hs, e0, ev_rng1 b1 b2, c, nearL]
theorem kind_encS {S : List (Int × Int)} (h : S ≠ []) : kindOf (encS S) = some false := by
  cases S with
  | nil => exact absurd rfl h
  | cons p S => rfl
theorem lookS_mem {S : List (Int × Int)} {p d : Int} (h : lookS S p = some d) : p ∈ S.map (·.1) := by
  cases e : decide (p ∈ S.map (·.1)) with
  | true => exact of_decide_eq_true e
  | false => rw [lookS_none.mpr (of_decide_eq_false e)] at h; cases h
theorem near_ok {n a r : Int} {L : List (Int × Int)} (hg : GOk n L) (hn : n ≤ 1000) (a0 : 0 ≤ a) (a1 : a < n) : f_near [.val (encG n L), .val (.int a), .val (.int r)] = .ok (.list ((nearL L n a r).map PyData.int)) [] := by
  have hs := distances_ok hg hn a0 a1
  obtain ⟨hk, ha⟩ := dist_ok hg hn a0 a1
  have hlen := hk.len
  have hne : distS L n a ≠ [] := fun z => by rw [z] at ha; cases ha
  have hkd := kind_encS hne
  have ek : (encS (distS L n a)).map (·.1) = ((distS L n a).map (·.1)).map PyData.int := by unfold encS; rw [List.map_map, List.map_map]; rfl
  have c := comp_pure (bd := bN 4) (ifs := near_t1) (elt := near_e1) (vs := [4]) (p := fun d => match d with | .int p => within (distS L n a) r p | _ => false) (f := id) ((encS (distS L n a)).map (·.1)) [] [.val (encG n L), .val (.int a), .val (.int r), .val (.dict (encS (distS L n a))), .un] (by rw [ek]; simp; omega) fun d hd => by
    rw [ek] at hd
    obtain ⟨k, hk2, rfl⟩ := List.mem_map.mp hd
    have g := gK_encS (distS L n a) k
    refine ⟨[.val (encG n L), .val (.int a), .val (.int r), .val (.dict (encS (distS L n a))), .val (.int k)], [.val (encG n L), .val (.int a), .val (.int r), .val (.dict (encS (distS L n a))), .val (.int k)], by simp -implicitDefEqProofs only [evs0, evs1, evs2, evs3, evs4, evs5, evs6, evs7, evs8, evs9, evs10, List.length_cons, List.length_nil, Nat.reduceAdd, Nat.reduceSub, ↓reduceIte, Nat.reduceLeDiff, Int.reduceEq, Int.reduceLT, Int.reduceLE, Option.isSome_some, Option.isSome_none, Option.getD_some, Option.getD_none], ?_, fun _ => by simp -implicitDefEqProofs only [evs0, evs1, evs2, evs3, evs4, evs5, evs6, evs7, evs8, evs9, evs10, List.length_cons, List.length_nil, Nat.reduceAdd, Nat.reduceSub, ↓reduceIte, Nat.reduceLeDiff, Int.reduceEq, Int.reduceLT, Int.reduceLE, Option.isSome_some, Option.isSome_none, Option.getD_some, Option.getD_none], fun _ => ⟨[.val (encG n L), .val (.int a), .val (.int r), .val (.dict (encS (distS L n a))), .val (.int k)], ?_, by simp -implicitDefEqProofs only [evs0, evs1, evs2, evs3, evs4, evs5, evs6, evs7, evs8, evs9, evs10, List.length_cons, List.length_nil, Nat.reduceAdd, Nat.reduceSub, ↓reduceIte, Nat.reduceLeDiff, Int.reduceEq, Int.reduceLT, Int.reduceLE, Option.isSome_some, Option.isSome_none, Option.getD_some, Option.getD_none]⟩⟩
    · unfold near_t1 within
      cases z : lookS (distS L n a) k with
      | none => exact absurd hk2 (lookS_none.mp z)
      | some d => rw [z] at g; simp -implicitDefEqProofs (decide := true) only [evs0, evs1, evs2, evs3, evs4, evs5, evs6, evs7, evs8, evs9, evs10, List.length_cons, List.length_nil, Nat.reduceAdd, Nat.reduceSub, ↓reduceIte, Nat.reduceLeDiff, Int.reduceEq, Int.reduceLT, Int.reduceLE, Option.isSome_some, Option.isSome_none, Option.getD_some, Option.getD_none, hkd, g, Option.map_some, z]
    · unfold near_e1
      simp -implicitDefEqProofs only [evs0, evs1, evs2, evs3, evs4, evs5, evs6, evs7, evs8, evs9, evs10, List.length_cons, List.length_nil, Nat.reduceAdd, Nat.reduceSub, ↓reduceIte, Nat.reduceLeDiff, Int.reduceEq, Int.reduceLT, Int.reduceLE, Option.isSome_some, Option.isSome_none, Option.getD_some, Option.getD_none, id]
  have ef : ((encS (distS L n a)).map (·.1)).filter (fun d => match d with | .int p => within (distS L n a) r p | _ => false) = (((distS L n a).map (·.1)).filter (within (distS L n a) r)).map PyData.int := by
    rw [ek, List.filter_map]
    rfl
  rw [List.nil_append, List.map_id, ef] at c
  have hsz : (((distS L n a).map (·.1)).filter (within (distS L n a) r)).length ≤ 16777216 := by
    have := List.length_filter_le (within (distS L n a) r) ((distS L n a).map (·.1))
    rw [List.length_map] at this
    omega
  have hsort := sort_ints hsz
  rw [srt_strict (m := nearL L n a r) (hk.nd.filter _) ((irange_sorted n).filter _) (fun x => by
    unfold nearL
    rw [List.mem_filter, List.mem_filter]
    constructor
    · rintro ⟨h1, h2⟩
      obtain ⟨p, hp, rfl⟩ := List.mem_map.mp h1
      exact ⟨mem_irange.mpr (hk.rg p hp), h2⟩
    · rintro ⟨_, h2⟩
      refine ⟨?_, h2⟩
      unfold within at h2
      cases z : lookS (distS L n a) x with
      | none => rw [z] at h2; cases h2
      | some d => exact lookS_mem z)] at hsort
  unfold f_near b_near near_c1
  simp -implicitDefEqProofs (decide := true) only [evs0, evs1, evs2, evs3, evs4, evs5, evs6, evs7, evs8, evs9, evs10, List.length_cons, List.length_nil, Nat.reduceAdd, Nat.reduceSub, ↓reduceIte, Nat.reduceLeDiff, Int.reduceEq, Int.reduceLT, Int.reduceLE, Option.isSome_some, Option.isSome_none, Option.getD_some, Option.getD_none, hs, ev_dkeys hkd, c, hsort]
theorem sensed_at {n : Int} {L : List (Int × Int)} {N : List Nd} {k : Nat} {x : Nd} (hx : N[k]? = some x) : atI (N.map encN) (k : Int) = some (encN x) := by
  rw [atI_nat, List.getElem?_map, hx]; rfl
theorem law_sensed_ok {n : Int} {L : List (Int × Int)} {N : List Nd} {k : Nat} {x : Nd} (hg : GOk n L) (hn : n ≤ 1000) (hx : N[k]? = some x) (h0 : 0 ≤ x.p) (h1 : x.p < n) : f_law_sensed [.val (encF n L N), .val (.int k)] = .ok (.tuple ((nearL L n x.p x.r).map PyData.int)) [] := by
  have e := law_near_ok (r := x.r) hg hn h0 h1
  have i1 := sensed_at (n := n) (L := L) hx
  unfold f_law_sensed b_law_sensed
  simp only [encF]
  simp -implicitDefEqProofs (decide := true) only [evs0, evs1, evs2, evs3, evs4, evs5, evs6, evs7, evs8, evs9, evs10, List.length_cons, List.length_nil, Nat.reduceAdd, Nat.reduceSub, ↓reduceIte, Nat.reduceLeDiff, Int.reduceEq, Int.reduceLT, Int.reduceLE, Option.isSome_some, Option.isSome_none, Option.getD_some, Option.getD_none, i1, encN, e]
theorem sensed_ok {n : Int} {L : List (Int × Int)} {N : List Nd} {k : Nat} {x : Nd} (hg : GOk n L) (hn : n ≤ 1000) (hx : N[k]? = some x) (h0 : 0 ≤ x.p) (h1 : x.p < n) : f_sensed [.val (encF n L N), .val (.int k)] = .ok (.tuple ((nearL L n x.p x.r).map PyData.int)) [] := by
  have e := near_ok (r := x.r) hg hn h0 h1
  have i1 := sensed_at (n := n) (L := L) hx
  unfold f_sensed b_sensed
  simp only [encF]
  simp -implicitDefEqProofs (decide := true) only [evs0, evs1, evs2, evs3, evs4, evs5, evs6, evs7, evs8, evs9, evs10, List.length_cons, List.length_nil, Nat.reduceAdd, Nat.reduceSub, ↓reduceIte, Nat.reduceLeDiff, Int.reduceEq, Int.reduceLT, Int.reduceLE, Option.isSome_some, Option.isSome_none, Option.getD_some, Option.getD_none, i1, encN, e]
end Ft
/-! Covers: what nodes sense, which places are bare. -/
namespace Ft
open PySem L2
structure FOk (n : Int) (L : List (Int × Int)) (N : List Nd) : Prop where
  g : GOk n L
  n12 : n ≤ 12
  nd : ∀ x ∈ N, NOk n 12 x
  n1 : 1 ≤ N.length
  n8 : N.length ≤ 9
def sensL (L : List (Int × Int)) (n : Int) (N : List Nd) (k : Int) : List Int := match N[k.toNat]? with
  | some x => nearL L n x.p x.r
  | none => []
theorem near_len {L : List (Int × Int)} {n a r : Int} : (nearL L n a r).length ≤ n.toNat := by
  unfold nearL
  have := List.length_filter_le (within (distS L n a) r) (irange n)
  rw [irange_len] at this
  exact this
theorem sensL_len {L : List (Int × Int)} {n k : Int} {N : List Nd} : (sensL L n N k).length ≤ n.toNat := by
  unfold sensL
  split
  · exact near_len
  · simp
section
variable {n : Int} {L : List (Int × Int)} {N : List Nd}
theorem FOk.at (h : FOk n L N) {k : Int} (h0 : 0 ≤ k) (h1 : k < (N.length : Int)) : ∃ x, N[k.toNat]? = some x ∧ 0 ≤ x.p ∧ x.p < n := by
  have hl : k.toNat < N.length := by omega
  have := h.nd _ (List.getElem_mem hl)
  exact ⟨N[k.toNat], List.getElem?_eq_getElem hl, this.1.1, this.1.2⟩
theorem sensed_okI (h : FOk n L N) {k : Int} (h0 : 0 ≤ k) (h1 : k < (N.length : Int)) : f_sensed [.val (encF n L N), .val (.int k)] = .ok (.tuple ((sensL L n N k).map PyData.int)) [] := by
  obtain ⟨x, hx, p0, p1⟩ := h.at h0 h1
  have e := sensed_ok h.g (by have := h.n12; omega) hx p0 p1
  rw [show ((k.toNat : Nat) : Int) = k by omega] at e
  rw [e]
  simp only [sensL, hx]
theorem law_sensed_okI (h : FOk n L N) {k : Int} (h0 : 0 ≤ k) (h1 : k < (N.length : Int)) : f_law_sensed [.val (encF n L N), .val (.int k)] = .ok (.tuple ((sensL L n N k).map PyData.int)) [] := by
  obtain ⟨x, hx, p0, p1⟩ := h.at h0 h1
  have e := law_sensed_ok h.g (by have := h.n12; omega) hx p0 p1
  rw [show ((k.toNat : Nat) : Int) = k by omega] at e
  rw [e]
  simp only [sensL, hx]
/-- a comprehension over 0 .. n - 1 with a test -/
theorem comp_sel {bd : Bd} {ifs : Tn} {elt : Dn} {vs : List Nat} {n : Int} (st : Rho) (ρ1 : Int → Rho) (q : Int → Bool) (hn : n ≤ 1000000) (hb : ∀ k : Int, 0 ≤ k → k < n → bd (.int k) st = some (ρ1 k)) (ht : ∀ k : Int, 0 ≤ k → k < n → ifs (ρ1 k) = .ok (q k) (ρ1 k)) (he : ∀ k : Int, elt (ρ1 k) = .ok (.int k) (ρ1 k)) (hw : ∀ k, wipeR (ρ1 k) vs = st) :
    compL bd ifs elt vs (rangeL 0 n) [] st = .ok (((irange n).filter q).map PyData.int) st := by
  have c := comp_pure (bd := bd) (ifs := ifs) (elt := elt) (vs := vs) (p := fun d => match d with | .int k => q k | _ => false) (f := id) (rangeL 0 n) [] st (by rw [rangeL_len]; simp; omega) fun d hd => by
    obtain ⟨k, rfl, h0, h1⟩ := mem_rangeL.mp hd
    exact ⟨ρ1 k, ρ1 k, hb k h0 h1, ht k h0 h1, fun _ => hw k, fun _ => ⟨ρ1 k, he k, hw k⟩⟩
  rw [List.nil_append, List.map_id, irange_filter (p := q) (fun k => rfl)] at c
  exact c
/-- over given numbers, with a test -/
theorem comp_selL {bd : Bd} {ifs : Tn} {elt : Dn} {vs : List Nat} (A : List Int) (st : Rho) (ρ1 : Int → Rho) (q : Int → Bool) (hn : A.length ≤ 1000000) (hb : ∀ k ∈ A, bd (.int k) st = some (ρ1 k)) (ht : ∀ k ∈ A, ifs (ρ1 k) = .ok (q k) (ρ1 k)) (he : ∀ k : Int, elt (ρ1 k) = .ok (.int k) (ρ1 k)) (hw : ∀ k, wipeR (ρ1 k) vs = st) :
    compL bd ifs elt vs (A.map PyData.int) [] st = .ok ((A.filter q).map PyData.int) st := by
  have c := comp_pure (bd := bd) (ifs := ifs) (elt := elt) (vs := vs) (p := fun d => match d with | .int k => q k | _ => false) (f := id) (A.map PyData.int) [] st (by rw [List.length_map]; simp; omega) fun d hd => by
    obtain ⟨k, hk, rfl⟩ := List.mem_map.mp hd
    exact ⟨ρ1 k, ρ1 k, hb k hk, ht k hk, fun _ => hw k, fun _ => ⟨ρ1 k, he k, hw k⟩⟩
  rw [List.nil_append, List.map_id, List.filter_map] at c
  exact c
def rowsL (L : List (Int × Int)) (n : Int) (N : List Nd) : List D := (irange N.length).map fun k => .tuple ((sensL L n N k).map PyData.int)
theorem rows_at {k : Int} (h0 : 0 ≤ k) (h1 : k < (N.length : Int)) : atI (rowsL L n N) k = some (.tuple ((sensL L n N k).map PyData.int)) := by
  refine atI_get h0 ?_
  unfold rowsL irange
  rw [List.map_map, List.getElem?_map, List.getElem?_range (by omega)]
  simp only [Option.map_some, Function.comp]
  congr 3
theorem rows_of_ok (h : FOk n L N) : f_rows_of [.val (encF n L N)] = .ok (.list (rowsL L n N)) [] := by
  have hl := h.n8
  have c := comp_upto (bd := bN 1) (elt := rows_of_e1) (vs := [1]) (n := N.length) [.val (encF n L N), .un] (fun k => [.val (encF n L N), .val (.int k)]) (fun k => .tuple ((sensL L n N k).map PyData.int)) (by omega) (fun k _ _ => by simp -implicitDefEqProofs only [evs0, evs1, evs2, evs3, evs4, evs5, evs6, evs7, evs8, evs9, evs10, List.length_cons, List.length_nil, Nat.reduceAdd, Nat.reduceSub, ↓reduceIte, Nat.reduceLeDiff, Int.reduceEq, Int.reduceLT, Int.reduceLE, Option.isSome_some, Option.isSome_none, Option.getD_some, Option.getD_none]) (fun k h0 h1 => by
    have e := sensed_okI h h0 h1
    unfold rows_of_e1
    simp -implicitDefEqProofs only [evs0, evs1, evs2, evs3, evs4, evs5, evs6, evs7, evs8, evs9, evs10, List.length_cons, List.length_nil, Nat.reduceAdd, Nat.reduceSub, ↓reduceIte, Nat.reduceLeDiff, Int.reduceEq, Int.reduceLT, Int.reduceLE, Option.isSome_some, Option.isSome_none, Option.getD_some, Option.getD_none, e]) (fun k => by simp -implicitDefEqProofs only [evs0, evs1, evs2, evs3, evs4, evs5, evs6, evs7, evs8, evs9, evs10, List.length_cons, List.length_nil, Nat.reduceAdd, Nat.reduceSub, ↓reduceIte, Nat.reduceLeDiff, Int.reduceEq, Int.reduceLT, Int.reduceLE, Option.isSome_some, Option.isSome_none, Option.getD_some, Option.getD_none])
  have b1 : (N.length : Int) < 4611686018427387904 := by omega
  have b2 : -4611686018427387904 ≤ (N.length : Int) := by omega
  unfold f_rows_of b_rows_of rows_of_c1
  simp only [encF] at c ⊢
  simp -implicitDefEqProofs only [evs0, evs1, evs2, evs3, evs4, evs5, evs6, evs7, evs8, evs9, evs10, List.length_cons, List.length_nil, Nat.reduceAdd, Nat.reduceSub, ↓reduceIte, Nat.reduceLeDiff, Int.reduceEq, Int.reduceLT, Int.reduceLE, Option.isSome_some, Option.isSome_none, Option.getD_some, Option.getD_none, List.length_map, ev_rng1 b1 b2, c, rowsL]
def fewB (L : List (Int × Int)) (n : Int) (N : List Nd) (A : List Int) (t p : Int) : Bool := decide (((A.filter fun k => decide (p ∈ sensL L n N k)).length : Int) < t)
def bareL (L : List (Int × Int)) (n : Int) (N : List Nd) (A : List Int) (t : Int) : List Int := (irange n).filter (fewB L n N A t)
theorem bare_by_ok (h : FOk n L N) {A : List Int} {t : Int} (hA : ∀ k ∈ A, 0 ≤ k ∧ k < (N.length : Int)) (hl : A.length ≤ 1000) : f_bare_by [.val (.list (rowsL L n N)), .val (.int n), .val (.tuple (A.map PyData.int)), .val (.int t)] = .ok (.list ((bareL L n N A t).map PyData.int)) [] := by
  have hn := h.n12
  have c := comp_sel (bd := bN 4) (ifs := bare_by_t2) (elt := bare_by_e2) (vs := [4]) (n := n) [.val (.list (rowsL L n N)), .val (.int n), .val (.tuple (A.map PyData.int)), .val (.int t), .un, .un] (fun p => [.val (.list (rowsL L n N)), .val (.int n), .val (.tuple (A.map PyData.int)), .val (.int t), .val (.int p), .un]) (fewB L n N A t) (by omega) (fun k _ _ => by simp -implicitDefEqProofs only [evs0, evs1, evs2, evs3, evs4, evs5, evs6, evs7, evs8, evs9, evs10, List.length_cons, List.length_nil, Nat.reduceAdd, Nat.reduceSub, ↓reduceIte, Nat.reduceLeDiff, Int.reduceEq, Int.reduceLT, Int.reduceLE, Option.isSome_some, Option.isSome_none, Option.getD_some, Option.getD_none]) (fun p h0 h1 => by
    have c2 := comp_selL (bd := bN 5) (ifs := bare_by_t1) (elt := bare_by_e1) (vs := [5]) A [.val (.list (rowsL L n N)), .val (.int n), .val (.tuple (A.map PyData.int)), .val (.int t), .val (.int p), .un] (fun k => [.val (.list (rowsL L n N)), .val (.int n), .val (.tuple (A.map PyData.int)), .val (.int t), .val (.int p), .val (.int k)]) (fun k => decide (p ∈ sensL L n N k)) (by omega) (fun k _ => by simp -implicitDefEqProofs only [evs0, evs1, evs2, evs3, evs4, evs5, evs6, evs7, evs8, evs9, evs10, List.length_cons, List.length_nil, Nat.reduceAdd, Nat.reduceSub, ↓reduceIte, Nat.reduceLeDiff, Int.reduceEq, Int.reduceLT, Int.reduceLE, Option.isSome_some, Option.isSome_none, Option.getD_some, Option.getD_none]) (fun k hk => by
      have e1 := rows_at (L := L) (n := n) (hA k hk).1 (hA k hk).2
      have e2 := in_intsT (sensL L n N k) p
      unfold bare_by_t1
      simp -implicitDefEqProofs only [evs0, evs1, evs2, evs3, evs4, evs5, evs6, evs7, evs8, evs9, evs10, List.length_cons, List.length_nil, Nat.reduceAdd, Nat.reduceSub, ↓reduceIte, Nat.reduceLeDiff, Int.reduceEq, Int.reduceLT, Int.reduceLE, Option.isSome_some, Option.isSome_none, Option.getD_some, Option.getD_none, e1, e2]) (fun k => by unfold bare_by_e1; simp -implicitDefEqProofs only [evs0, evs1, evs2, evs3, evs4, evs5, evs6, evs7, evs8, evs9, evs10, List.length_cons, List.length_nil, Nat.reduceAdd, Nat.reduceSub, ↓reduceIte, Nat.reduceLeDiff, Int.reduceEq, Int.reduceLT, Int.reduceLE, Option.isSome_some, Option.isSome_none, Option.getD_some, Option.getD_none]) (fun k => by simp -implicitDefEqProofs only [evs0, evs1, evs2, evs3, evs4, evs5, evs6, evs7, evs8, evs9, evs10, List.length_cons, List.length_nil, Nat.reduceAdd, Nat.reduceSub, ↓reduceIte, Nat.reduceLeDiff, Int.reduceEq, Int.reduceLT, Int.reduceLE, Option.isSome_some, Option.isSome_none, Option.getD_some, Option.getD_none])
    unfold bare_by_t2 bare_by_c1
    simp -implicitDefEqProofs only [evs0, evs1, evs2, evs3, evs4, evs5, evs6, evs7, evs8, evs9, evs10, List.length_cons, List.length_nil, Nat.reduceAdd, Nat.reduceSub, ↓reduceIte, Nat.reduceLeDiff, Int.reduceEq, Int.reduceLT, Int.reduceLE, Option.isSome_some, Option.isSome_none, Option.getD_some, Option.getD_none, c2, List.length_map, fewB]) (fun k => by unfold bare_by_e2; simp -implicitDefEqProofs only [evs0, evs1, evs2, evs3, evs4, evs5, evs6, evs7, evs8, evs9, evs10, List.length_cons, List.length_nil, Nat.reduceAdd, Nat.reduceSub, ↓reduceIte, Nat.reduceLeDiff, Int.reduceEq, Int.reduceLT, Int.reduceLE, Option.isSome_some, Option.isSome_none, Option.getD_some, Option.getD_none]) (fun k => by simp -implicitDefEqProofs only [evs0, evs1, evs2, evs3, evs4, evs5, evs6, evs7, evs8, evs9, evs10, List.length_cons, List.length_nil, Nat.reduceAdd, Nat.reduceSub, ↓reduceIte, Nat.reduceLeDiff, Int.reduceEq, Int.reduceLT, Int.reduceLE, Option.isSome_some, Option.isSome_none, Option.getD_some, Option.getD_none])
  have b1 : n < 4611686018427387904 := by omega
  have b2 : -4611686018427387904 ≤ n := by have := h.g.pos; omega
  unfold f_bare_by b_bare_by bare_by_c2
  simp -implicitDefEqProofs only [evs0, evs1, evs2, evs3, evs4, evs5, evs6, evs7, evs8, evs9, evs10, List.length_cons, List.length_nil, Nat.reduceAdd, Nat.reduceSub, ↓reduceIte, Nat.reduceLeDiff, Int.reduceEq, Int.reduceLT, Int.reduceLE, Option.isSome_some, Option.isSome_none, Option.getD_some, Option.getD_none, ev_rng1 b1 b2, c, bareL]
theorem bare_ok (h : FOk n L N) {A : List Int} {t : Int} (hA : ∀ k ∈ A, 0 ≤ k ∧ k < (N.length : Int)) (hl : A.length ≤ 1000) : f_bare [.val (encF n L N), .val (.tuple (A.map PyData.int)), .val (.int t)] = .ok (.list ((bareL L n N A t).map PyData.int)) [] := by
  have e1 := rows_of_ok h
  have e2 := bare_by_ok h (t := t) hA hl
  have i0 : ixB (encF n L N) (.int 0) = some (encG n L) := rfl
  have i1 : ixB (encG n L) (.int 0) = some (.int n) := rfl
  unfold f_bare b_bare
  simp -implicitDefEqProofs only [evs0, evs1, evs2, evs3, evs4, evs5, evs6, evs7, evs8, evs9, evs10, List.length_cons, List.length_nil, Nat.reduceAdd, Nat.reduceSub, ↓reduceIte, Nat.reduceLeDiff, Int.reduceEq, Int.reduceLT, Int.reduceLE, Option.isSome_some, Option.isSome_none, Option.getD_some, Option.getD_none, e1, i0, i1, e2]
theorem covers_ok (h : FOk n L N) {A : List Int} {t : Int} (hA : ∀ k ∈ A, 0 ≤ k ∧ k < (N.length : Int)) (hl : A.length ≤ 1000) : f_covers [.val (encF n L N), .val (.tuple (A.map PyData.int)), .val (.int t)] = .ok (.bool (bareL L n N A t).isEmpty) [] := by
  have e2 := bare_ok h (t := t) hA hl
  have e : decide (((bareL L n N A t).length : Int) = 0) = (bareL L n N A t).isEmpty := by cases bareL L n N A t <;> simp; omega
  unfold f_covers b_covers
  simp -implicitDefEqProofs only [evs0, evs1, evs2, evs3, evs4, evs5, evs6, evs7, evs8, evs9, evs10, List.length_cons, List.length_nil, Nat.reduceAdd, Nat.reduceSub, ↓reduceIte, Nat.reduceLeDiff, Int.reduceEq, Int.reduceLT, Int.reduceLE, Option.isSome_some, Option.isSome_none, Option.getD_some, Option.getD_none, e2, List.length_map, e]
theorem law_bare_ok (h : FOk n L N) {A : List Int} {t : Int} (hA : ∀ k ∈ A, 0 ≤ k ∧ k < (N.length : Int)) (hl : A.length ≤ 1000) : f_law_bare [.val (encF n L N), .val (.tuple (A.map PyData.int)), .val (.int t)] = .ok (.list ((bareL L n N A t).map PyData.int)) [] := by
  have hn := h.n12
  have c1 := comp_map (bd := bN 4) (elt := law_bare_e1) (vs := [4]) (A.map PyData.int) [.val (encF n L N), .val (.tuple (A.map PyData.int)), .val (.int t), .un, .un, .un, .un] (fun d => [.val (encF n L N), .val (.tuple (A.map PyData.int)), .val (.int t), .un, .val d, .un, .un]) (fun d => match d with | .int k => .tuple ((sensL L n N k).map PyData.int) | _ => .none) (by rw [List.length_map]; omega) (fun d _ => by simp -implicitDefEqProofs only [evs0, evs1, evs2, evs3, evs4, evs5, evs6, evs7, evs8, evs9, evs10, List.length_cons, List.length_nil, Nat.reduceAdd, Nat.reduceSub, ↓reduceIte, Nat.reduceLeDiff, Int.reduceEq, Int.reduceLT, Int.reduceLE, Option.isSome_some, Option.isSome_none, Option.getD_some, Option.getD_none]) (fun d hd => by
    obtain ⟨k, hk, rfl⟩ := List.mem_map.mp hd
    have e := law_sensed_okI h (hA k hk).1 (hA k hk).2
    unfold law_bare_e1
    simp -implicitDefEqProofs only [evs0, evs1, evs2, evs3, evs4, evs5, evs6, evs7, evs8, evs9, evs10, List.length_cons, List.length_nil, Nat.reduceAdd, Nat.reduceSub, ↓reduceIte, Nat.reduceLeDiff, Int.reduceEq, Int.reduceLT, Int.reduceLE, Option.isSome_some, Option.isSome_none, Option.getD_some, Option.getD_none, e]) (fun d => by simp -implicitDefEqProofs only [evs0, evs1, evs2, evs3, evs4, evs5, evs6, evs7, evs8, evs9, evs10, List.length_cons, List.length_nil, Nat.reduceAdd, Nat.reduceSub, ↓reduceIte, Nat.reduceLeDiff, Int.reduceEq, Int.reduceLT, Int.reduceLE, Option.isSome_some, Option.isSome_none, Option.getD_some, Option.getD_none])
  rw [List.map_map] at c1
  obtain ⟨R, hR⟩ : ∃ R : List D, R = A.map fun k => PyData.tuple ((sensL L n N k).map PyData.int) := ⟨_, rfl⟩
  have c1 : compL (bN 4) tnYes law_bare_e1 [4] (A.map PyData.int) [] [.val (encF n L N), .val (.tuple (A.map PyData.int)), .val (.int t), .un, .un, .un, .un] = .ok R [.val (encF n L N), .val (.tuple (A.map PyData.int)), .val (.int t), .un, .un, .un, .un] := by rw [c1, hR]; rfl
  have hRl : R.length = A.length := by rw [hR, List.length_map]
  have c := comp_sel (bd := bN 5) (ifs := law_bare_t2) (elt := law_bare_e3) (vs := [5]) (n := n) [.val (encF n L N), .val (.tuple (A.map PyData.int)), .val (.int t), .val (.list R), .un, .un, .un] (fun p => [.val (encF n L N), .val (.tuple (A.map PyData.int)), .val (.int t), .val (.list R), .un, .val (.int p), .un]) (fewB L n N A t) (by omega) (fun k _ _ => by simp -implicitDefEqProofs only [evs0, evs1, evs2, evs3, evs4, evs5, evs6, evs7, evs8, evs9, evs10, List.length_cons, List.length_nil, Nat.reduceAdd, Nat.reduceSub, ↓reduceIte, Nat.reduceLeDiff, Int.reduceEq, Int.reduceLT, Int.reduceLE, Option.isSome_some, Option.isSome_none, Option.getD_some, Option.getD_none]) (fun p h0 h1 => by
    have c2 := comp_pure (bd := bN 6) (ifs := law_bare_t1) (elt := law_bare_e2) (vs := [6]) (p := fun d => match toB inB (.int p) d with | some (.bool b) => b | _ => false) (f := id) R [] [.val (encF n L N), .val (.tuple (A.map PyData.int)), .val (.int t), .val (.list R), .un, .val (.int p), .un] (by rw [hRl]; simp; omega) fun d hd => by
      rw [hR] at hd
      obtain ⟨k, hk, rfl⟩ := List.mem_map.mp hd
      have e2 := in_intsT (sensL L n N k) p
      refine ⟨[.val (encF n L N), .val (.tuple (A.map PyData.int)), .val (.int t), .val (.list R), .un, .val (.int p), .val (.tuple ((sensL L n N k).map PyData.int))], [.val (encF n L N), .val (.tuple (A.map PyData.int)), .val (.int t), .val (.list R), .un, .val (.int p), .val (.tuple ((sensL L n N k).map PyData.int))], by simp -implicitDefEqProofs only [evs0, evs1, evs2, evs3, evs4, evs5, evs6, evs7, evs8, evs9, evs10, List.length_cons, List.length_nil, Nat.reduceAdd, Nat.reduceSub, ↓reduceIte, Nat.reduceLeDiff, Int.reduceEq, Int.reduceLT, Int.reduceLE, Option.isSome_some, Option.isSome_none, Option.getD_some, Option.getD_none], ?_, fun _ => by simp -implicitDefEqProofs only [evs0, evs1, evs2, evs3, evs4, evs5, evs6, evs7, evs8, evs9, evs10, List.length_cons, List.length_nil, Nat.reduceAdd, Nat.reduceSub, ↓reduceIte, Nat.reduceLeDiff, Int.reduceEq, Int.reduceLT, Int.reduceLE, Option.isSome_some, Option.isSome_none, Option.getD_some, Option.getD_none], fun _ => ⟨[.val (encF n L N), .val (.tuple (A.map PyData.int)), .val (.int t), .val (.list R), .un, .val (.int p), .val (.tuple ((sensL L n N k).map PyData.int))], ?_, by simp -implicitDefEqProofs only [evs0, evs1, evs2, evs3, evs4, evs5, evs6, evs7, evs8, evs9, evs10, List.length_cons, List.length_nil, Nat.reduceAdd, Nat.reduceSub, ↓reduceIte, Nat.reduceLeDiff, Int.reduceEq, Int.reduceLT, Int.reduceLE, Option.isSome_some, Option.isSome_none, Option.getD_some, Option.getD_none]⟩⟩
      · unfold law_bare_t1
        simp -implicitDefEqProofs only [evs0, evs1, evs2, evs3, evs4, evs5, evs6, evs7, evs8, evs9, evs10, List.length_cons, List.length_nil, Nat.reduceAdd, Nat.reduceSub, ↓reduceIte, Nat.reduceLeDiff, Int.reduceEq, Int.reduceLT, Int.reduceLE, Option.isSome_some, Option.isSome_none, Option.getD_some, Option.getD_none, e2]
      · unfold law_bare_e2
        simp -implicitDefEqProofs only [evs0, evs1, evs2, evs3, evs4, evs5, evs6, evs7, evs8, evs9, evs10, List.length_cons, List.length_nil, Nat.reduceAdd, Nat.reduceSub, ↓reduceIte, Nat.reduceLeDiff, Int.reduceEq, Int.reduceLT, Int.reduceLE, Option.isSome_some, Option.isSome_none, Option.getD_some, Option.getD_none, id]
    rw [List.nil_append, List.map_id] at c2
    have cnt : (R.filter fun d => match toB inB (.int p) d with | some (.bool b) => b | _ => false).length = (A.filter fun k => decide (p ∈ sensL L n N k)).length := by
      rw [hR, List.filter_map, List.length_map]
      congr 1
      apply List.filter_congr
      intro k _
      simp only [Function.comp, in_intsT]
    unfold law_bare_t2 law_bare_c2
    simp -implicitDefEqProofs only [evs0, evs1, evs2, evs3, evs4, evs5, evs6, evs7, evs8, evs9, evs10, List.length_cons, List.length_nil, Nat.reduceAdd, Nat.reduceSub, ↓reduceIte, Nat.reduceLeDiff, Int.reduceEq, Int.reduceLT, Int.reduceLE, Option.isSome_some, Option.isSome_none, Option.getD_some, Option.getD_none, c2, cnt, fewB]) (fun k => by unfold law_bare_e3; simp -implicitDefEqProofs only [evs0, evs1, evs2, evs3, evs4, evs5, evs6, evs7, evs8, evs9, evs10, List.length_cons, List.length_nil, Nat.reduceAdd, Nat.reduceSub, ↓reduceIte, Nat.reduceLeDiff, Int.reduceEq, Int.reduceLT, Int.reduceLE, Option.isSome_some, Option.isSome_none, Option.getD_some, Option.getD_none]) (fun k => by simp -implicitDefEqProofs only [evs0, evs1, evs2, evs3, evs4, evs5, evs6, evs7, evs8, evs9, evs10, List.length_cons, List.length_nil, Nat.reduceAdd, Nat.reduceSub, ↓reduceIte, Nat.reduceLeDiff, Int.reduceEq, Int.reduceLT, Int.reduceLE, Option.isSome_some, Option.isSome_none, Option.getD_some, Option.getD_none])
  have i0 : ixB (encF n L N) (.int 0) = some (encG n L) := rfl
  have i1 : ixB (encG n L) (.int 0) = some (.int n) := rfl
  have b1 : n < 4611686018427387904 := by omega
  have b2 : -4611686018427387904 ≤ n := by have := h.g.pos; omega
  unfold f_law_bare b_law_bare law_bare_c1 law_bare_c3
  simp -implicitDefEqProofs only [evs0, evs1, evs2, evs3, evs4, evs5, evs6, evs7, evs8, evs9, evs10, List.length_cons, List.length_nil, Nat.reduceAdd, Nat.reduceSub, ↓reduceIte, Nat.reduceLeDiff, Int.reduceEq, Int.reduceLT, Int.reduceLE, Option.isSome_some, Option.isSome_none, Option.getD_some, Option.getD_none, c1, i0, i1, ev_rng1 b1 b2, c, bareL]
theorem bare_len {A : List Int} {t : Int} : (bareL L n N A t).length ≤ n.toNat := by
  unfold bareL
  have := List.length_filter_le (fewB L n N A t) (irange n)
  rw [irange_len] at this
  exact this
def watchL (L : List (Int × Int)) (n : Int) (N : List Nd) (p : Int) : List Int := (irange N.length).filter fun k => decide (p ∈ sensL L n N k)
theorem watchers_ok (h : FOk n L N) {p : Int} : f_watchers [.val (encF n L N), .val (.int p)] = .ok (.tuple ((watchL L n N p).map PyData.int)) [] := by
  have hl := h.n8
  have c := comp_sel (bd := bN 2) (ifs := watchers_t1) (elt := watchers_e1) (vs := [2]) (n := N.length) [.val (encF n L N), .val (.int p), .un] (fun k => [.val (encF n L N), .val (.int p), .val (.int k)]) (fun k => decide (p ∈ sensL L n N k)) (by omega) (fun k _ _ => by simp -implicitDefEqProofs only [evs0, evs1, evs2, evs3, evs4, evs5, evs6, evs7, evs8, evs9, evs10, List.length_cons, List.length_nil, Nat.reduceAdd, Nat.reduceSub, ↓reduceIte, Nat.reduceLeDiff, Int.reduceEq, Int.reduceLT, Int.reduceLE, Option.isSome_some, Option.isSome_none, Option.getD_some, Option.getD_none]) (fun k h0 h1 => by
    have e := sensed_okI h h0 h1
    have e2 := in_intsT (sensL L n N k) p
    unfold watchers_t1
    simp -implicitDefEqProofs only [evs0, evs1, evs2, evs3, evs4, evs5, evs6, evs7, evs8, evs9, evs10, List.length_cons, List.length_nil, Nat.reduceAdd, Nat.reduceSub, ↓reduceIte, Nat.reduceLeDiff, Int.reduceEq, Int.reduceLT, Int.reduceLE, Option.isSome_some, Option.isSome_none, Option.getD_some, Option.getD_none, e, e2]) (fun k => by unfold watchers_e1; simp -implicitDefEqProofs only [evs0, evs1, evs2, evs3, evs4, evs5, evs6, evs7, evs8, evs9, evs10, List.length_cons, List.length_nil, Nat.reduceAdd, Nat.reduceSub, ↓reduceIte, Nat.reduceLeDiff, Int.reduceEq, Int.reduceLT, Int.reduceLE, Option.isSome_some, Option.isSome_none, Option.getD_some, Option.getD_none]) (fun k => by simp -implicitDefEqProofs only [evs0, evs1, evs2, evs3, evs4, evs5, evs6, evs7, evs8, evs9, evs10, List.length_cons, List.length_nil, Nat.reduceAdd, Nat.reduceSub, ↓reduceIte, Nat.reduceLeDiff, Int.reduceEq, Int.reduceLT, Int.reduceLE, Option.isSome_some, Option.isSome_none, Option.getD_some, Option.getD_none])
  have b1 : (N.length : Int) < 4611686018427387904 := by omega
  have b2 : -4611686018427387904 ≤ (N.length : Int) := by omega
  unfold f_watchers b_watchers watchers_c1
  simp only [encF] at c ⊢
  simp -implicitDefEqProofs only [evs0, evs1, evs2, evs3, evs4, evs5, evs6, evs7, evs8, evs9, evs10, List.length_cons, List.length_nil, Nat.reduceAdd, Nat.reduceSub, ↓reduceIte, Nat.reduceLeDiff, Int.reduceEq, Int.reduceLT, Int.reduceLE, Option.isSome_some, Option.isSome_none, Option.getD_some, Option.getD_none, List.length_map, ev_rng1 b1 b2, c, watchL]
end
theorem eq_nil (A : List Int) : toB eqB (.list (A.map PyData.int)) (.list []) = some (.bool A.isEmpty) := by
  have h : eqB (.list (A.map PyData.int)) (.list []) = some A.isEmpty := by
    have f : flat2 (.list (A.map PyData.int)) (.list []) = true := by
      unfold flat2
      have hd : (PyData.list ([] : List D)).depth = 1 := rfl
      have h1 : (PyData.list (A.map PyData.int)).plain = true := by simp only [PyData.plain, plain_ints]
      have h2 : (PyData.list ([] : List D)).plain = true := rfl
      rw [h1, h2, hd]
      simp only [Bool.true_and, decide_eq_true_eq]
      exact Nat.le_trans (Nat.min_le_right _ _) (by decide)
    have e : PyData.eqv (.list (A.map PyData.int)) (.list []) = A.isEmpty := by
      cases A <;> simp [PyData.eqv, PyData.eqvAll]
    show (if flat2 _ _ = true then some (PyData.eqv _ _) else none) = _
    rw [if_pos f, e]
  unfold toB
  rw [h]; rfl
end Ft
/-! K06: covers of fields. -/
namespace Ft
open PySem L2
theorem okD_tup {n : Nat} {ks : List Int} (h : ks.length ≤ 1000000000) : okD (n + 2) (.tuple (ks.map PyData.int)) = true := by
  simp only [okD, Bool.and_eq_true, decide_eq_true_eq, List.length_map, List.all_eq_true]
  exact ⟨h, fun x hx => by obtain ⟨k, _, rfl⟩ := List.mem_map.mp hx; rfl⟩
theorem okD_lst {n : Nat} {ks : List Int} (h : ks.length ≤ 1000000000) : okD (n + 2) (.list (ks.map PyData.int)) = true := by
  simp only [okD, Bool.and_eq_true, decide_eq_true_eq, List.length_map, List.all_eq_true]
  exact ⟨h, fun x hx => by obtain ⟨k, _, rfl⟩ := List.mem_map.mp hx; rfl⟩
theorem okD_rows {n : Nat} {R : List D} (hl : R.length ≤ 1000000000) (h : ∀ d ∈ R, okD n d = true) : okD (n + 1) (.list R) = true := by
  simp only [okD, Bool.and_eq_true, decide_eq_true_eq, List.all_eq_true]
  exact ⟨hl, h⟩
section
variable {n : Int} {L : List (Int × Int)} {N : List Nd} {ns l : List D} {x0 x3 x4 : D}
theorem k06_sub (h : FOk n L N) {A : List Int} {t : Int} {y9 y10 : LV} {u5 : LV} {y6 y8 : LV} (hA : ∀ k ∈ A, 0 ≤ k ∧ k < (N.length : Int)) (hl : A.length ≤ 1000) (h10 : nioK (some y10) = true) :
    law_k06_b2 [.val x0, .own (.lst l) true, .val (encF n L N), .val x3, .val x4, u5, y6, .val (.tuple (A.map PyData.int)), y8, .val (.int t), y10] = .next [.val x0, .own (.lst l) true, .val (encF n L N), .val x3, .val x4, u5, y6, .val (.tuple (A.map PyData.int)), y8, .val (.int t), .val (.list ((bareL L n N A t).map PyData.int))] := by
  have hn := h.n12
  have e1 := law_bare_ok h (t := t) hA hl
  have e2 := bare_ok h (t := t) hA hl
  have e3 := covers_ok h (t := t) hA hl
  have e4 := eq_nil (bareL L n N A t)
  have e5 := same_refl 12 (.list [.list ((bareL L n N A t).map PyData.int), .bool (bareL L n N A t).isEmpty]) (by
    have := okD_lst (n := 9) (ks := bareL L n N A t) (by have := bare_len (n := n) (L := L) (N := N) (A := A) (t := t); omega)
    refine okD_rows (by simp) fun d hd => ?_
    simp only [List.mem_cons, List.not_mem_nil, or_false] at hd
    rcases hd with rfl | rfl
    · exact this
    · rfl)
  unfold law_k06_b2
  simp -implicitDefEqProofs (decide := true) only [evs0, evs1, evs2, evs3, evs4, evs5, evs6, evs7, evs8, evs9, evs10, List.length_cons, List.length_nil, Nat.reduceAdd, Nat.reduceSub, ↓reduceIte, Nat.reduceLeDiff, Int.reduceEq, Int.reduceLT, Int.reduceLE, Option.isSome_some, Option.isSome_none, Option.getD_some, Option.getD_none, h10, e1, e2, e3, e4, e5]
theorem k06_awake (h : FOk n L N) {A : List Int} {y9 y10 : LV} {u5 : LV} {y6 y8 : LV} (hA : ∀ k ∈ A, 0 ≤ k ∧ k < (N.length : Int)) (hl : A.length ≤ 1000) (h9 : nioK (some y9) = true) (h10 : nioK (some y10) = true) :
    law_k06_b3 [.val x0, .own (.lst l) true, .val (encF n L N), .val x3, .val x4, u5, y6, .val (.tuple (A.map PyData.int)), y8, y9, y10] = .next [.val x0, .own (.lst l) true, .val (encF n L N), .val x3, .val x4, u5, y6, .val (.tuple (A.map PyData.int)), y8, .val (.int 3), .val (.list ((bareL L n N A 1).map PyData.int))] := by
  have hn := h.n12
  have s1 := fun (y10 : LV) (h10 : nioK (some y10) = true) => k06_sub (x0 := x0) (x3 := x3) (x4 := x4) (l := l) (u5 := u5) (y6 := y6) (y8 := y8) (t := 1) h hA hl (y9 := .un) h10
  have s2 := fun (y10 : LV) (h10 : nioK (some y10) = true) => k06_sub (x0 := x0) (x3 := x3) (x4 := x4) (l := l) (u5 := u5) (y6 := y6) (y8 := y8) (t := 2) h hA hl (y9 := .un) h10
  have s3 := fun (y10 : LV) (h10 : nioK (some y10) = true) => k06_sub (x0 := x0) (x3 := x3) (x4 := x4) (l := l) (u5 := u5) (y6 := y6) (y8 := y8) (t := 3) h hA hl (y9 := .un) h10
  have loop : forV (bN 9) law_k06_b2 [.int 1, .int 2, .int 3] [.val x0, .own (.lst l) true, .val (encF n L N), .val x3, .val x4, u5, y6, .val (.tuple (A.map PyData.int)), y8, y9, y10] = .next [.val x0, .own (.lst l) true, .val (encF n L N), .val x3, .val x4, u5, y6, .val (.tuple (A.map PyData.int)), y8, .val (.int 3), .val (.list ((bareL L n N A 3).map PyData.int))] := by
    unfold forV
    simp -implicitDefEqProofs only [evs0, evs1, evs2, evs3, evs4, evs5, evs6, evs7, evs8, evs9, evs10, List.length_cons, List.length_nil, Nat.reduceAdd, Nat.reduceSub, ↓reduceIte, Nat.reduceLeDiff, Int.reduceEq, Int.reduceLT, Int.reduceLE, Option.isSome_some, Option.isSome_none, Option.getD_some, Option.getD_none, h9]
    rw [s1 _ h10]
    unfold forV
    simp -implicitDefEqProofs only [evs0, evs1, evs2, evs3, evs4, evs5, evs6, evs7, evs8, evs9, evs10, List.length_cons, List.length_nil, Nat.reduceAdd, Nat.reduceSub, ↓reduceIte, Nat.reduceLeDiff, Int.reduceEq, Int.reduceLT, Int.reduceLE, Option.isSome_some, Option.isSome_none, Option.getD_some, Option.getD_none]
    rw [s2 _ rfl]
    unfold forV
    simp -implicitDefEqProofs only [evs0, evs1, evs2, evs3, evs4, evs5, evs6, evs7, evs8, evs9, evs10, List.length_cons, List.length_nil, Nat.reduceAdd, Nat.reduceSub, ↓reduceIte, Nat.reduceLeDiff, Int.reduceEq, Int.reduceLT, Int.reduceLE, Option.isSome_some, Option.isSome_none, Option.getD_some, Option.getD_none]
    rw [s3 _ rfl]
  have e1 := law_bare_ok h (t := 1) hA hl
  have e2 := bare_ok h (t := 1) hA hl
  have e3 := covers_ok h (t := 1) hA hl
  have e4 := eq_nil (bareL L n N A 1)
  have e5 := same_refl 12 (.list [.list ((bareL L n N A 1).map PyData.int), .bool (bareL L n N A 1).isEmpty]) (by
    have := okD_lst (n := 9) (ks := bareL L n N A 1) (by have := bare_len (n := n) (L := L) (N := N) (A := A) (t := 1); omega)
    refine okD_rows (by simp) fun d hd => ?_
    simp only [List.mem_cons, List.not_mem_nil, or_false] at hd
    rcases hd with rfl | rfl
    · exact this
    · rfl)
  unfold law_k06_b3
  simp -implicitDefEqProofs (decide := true) only [evs0, evs1, evs2, evs3, evs4, evs5, evs6, evs7, evs8, evs9, evs10, List.length_cons, List.length_nil, Nat.reduceAdd, Nat.reduceSub, ↓reduceIte, Nat.reduceLeDiff, Int.reduceEq, Int.reduceLT, Int.reduceLE, Option.isSome_some, Option.isSome_none, Option.getD_some, Option.getD_none, loop, e1, e2, e3, e4, e5]
/-- some places of a row, drawn -/
theorem drawn_sel {bd : Bd} {ifs : Tn} {elt : Dn} {vs : List Nat} {m : Int} {n : Int} (st : List D → Rho) (ρ1 : List D → Int → Rho) (hn : n ≤ 1000) (hm : 0 < m) (hm2 : m < 1000) (g : Int → Bool) (hb : ∀ l k, bd (.int k) (st l) = some (ρ1 l k))
    (ht : ∀ l k r l', f_law_draw [.own (.lst l) false, .val (.int m)] = .ok (.int r) [.lst l'] → ifs (ρ1 l k) = .ok (g r) (ρ1 l' k)) (he : ∀ l k, elt (ρ1 l k) = .ok (.int k) (ρ1 l k)) (hw : ∀ l k, wipeR (ρ1 l k) vs = st l) {l : List D} (hp : Pool l) :
    ∃ (A : List Int) (l' : List D), compL bd ifs elt vs (rangeL 0 n) [] (st l) = .ok (A.map PyData.int) (st l') ∧ Pool l' ∧ (∀ k ∈ A, 0 ≤ k ∧ k < n) ∧ A.length ≤ n.toNat ∧ A.Pairwise (· < ·) := by
  obtain ⟨r, ρ', e, l', A, rfl, rfl, h1, h2, h3, h4⟩ := comp_rule (bd := bd) (ifs := ifs) (elt := elt) (vs := vs) (rangeL 0 n) (fun i acc ρ => ∃ (l : List D) (A : List Int), ρ = st l ∧ acc = A.map PyData.int ∧ Pool l ∧ (∀ k ∈ A, 0 ≤ k ∧ k < (i : Int)) ∧ A.length ≤ i ∧ A.Pairwise (· < ·)) [] (st l) (by rw [rangeL_len]; simp; omega) ⟨l, [], rfl, rfl, hp, (fun k h => by cases h), Nat.le_refl _, .nil⟩ (by
    rintro i d acc ρ hi ⟨l, A, rfl, rfl, hp, hA, hl, hs⟩
    obtain ⟨rfl, hi2⟩ := rangeL_at hi
    obtain ⟨r, l', e, _, _, hp'⟩ := draw_ok hp hm (by omega)
    refine ⟨ρ1 l (0 + i), g r, ρ1 l' (0 + i), hb _ _, ht _ _ _ _ e, fun _ => ⟨l', A, hw _ _, rfl, hp', fun k hk => ?_, by omega, hs⟩, fun _ => ⟨.int (0 + i), ρ1 l' (0 + i), he _ _, l', A ++ [0 + (i : Int)], hw _ _, by simp, hp', fun k hk => ?_, by simp; omega, ?_⟩⟩
    · have := hA k hk; omega
    · rcases List.mem_append.mp hk with hk | hk
      · have := hA k hk; omega
      · rw [List.mem_singleton] at hk; omega
    · rw [List.pairwise_append]
      refine ⟨hs, by simp, fun a ha b hb => ?_⟩
      rw [List.mem_singleton] at hb
      have := hA a ha
      omega)
  rw [rangeL_len] at h2 h3
  exact ⟨A, l', e, h1, fun k hk => by have := h2 k hk; omega, by omega, h4⟩
end
theorem k06_watch {n p : Int} {L : List (Int × Int)} {N : List Nd} {l : List D} {x0 : D} (h : FOk n L N) :
    law_k06_b1 [.val x0, .own (.lst l) true, .val (encF n L N), .val (.int N.length), .val (.list (rowsL L n N)), .un, .val (.int p), .un, .un, .un, .un] = .next [.val x0, .own (.lst l) true, .val (encF n L N), .val (.int N.length), .val (.list (rowsL L n N)), .un, .val (.int p), .un, .un, .un, .un] := by
  have hl := h.n8
  have b1 : (N.length : Int) < 4611686018427387904 := by omega
  have b2 : -4611686018427387904 ≤ (N.length : Int) := by omega
  have c := comp_sel (bd := bN 5) (ifs := law_k06_t1) (elt := law_k06_e3) (vs := [5]) (n := N.length) [.val x0, .own (.lst l) true, .val (encF n L N), .val (.int N.length), .val (.list (rowsL L n N)), .un, .val (.int p), .un, .un, .un, .un] (fun k => [.val x0, .own (.lst l) true, .val (encF n L N), .val (.int N.length), .val (.list (rowsL L n N)), .val (.int k), .val (.int p), .un, .un, .un, .un]) (fun k => decide (p ∈ sensL L n N k)) (by omega) (fun k _ _ => by simp -implicitDefEqProofs only [evs0, evs1, evs2, evs3, evs4, evs5, evs6, evs7, evs8, evs9, evs10, List.length_cons, List.length_nil, Nat.reduceAdd, Nat.reduceSub, ↓reduceIte, Nat.reduceLeDiff, Int.reduceEq, Int.reduceLT, Int.reduceLE, Option.isSome_some, Option.isSome_none, Option.getD_some, Option.getD_none]) (fun k h0 h1 => by
    have e1 := rows_at (L := L) (n := n) h0 h1
    have e2 := in_intsT (sensL L n N k) p
    unfold law_k06_t1
    simp -implicitDefEqProofs only [evs0, evs1, evs2, evs3, evs4, evs5, evs6, evs7, evs8, evs9, evs10, List.length_cons, List.length_nil, Nat.reduceAdd, Nat.reduceSub, ↓reduceIte, Nat.reduceLeDiff, Int.reduceEq, Int.reduceLT, Int.reduceLE, Option.isSome_some, Option.isSome_none, Option.getD_some, Option.getD_none, e1, e2]) (fun k => by unfold law_k06_e3; simp -implicitDefEqProofs only [evs0, evs1, evs2, evs3, evs4, evs5, evs6, evs7, evs8, evs9, evs10, List.length_cons, List.length_nil, Nat.reduceAdd, Nat.reduceSub, ↓reduceIte, Nat.reduceLeDiff, Int.reduceEq, Int.reduceLT, Int.reduceLE, Option.isSome_some, Option.isSome_none, Option.getD_some, Option.getD_none]) (fun k => by simp -implicitDefEqProofs only [evs0, evs1, evs2, evs3, evs4, evs5, evs6, evs7, evs8, evs9, evs10, List.length_cons, List.length_nil, Nat.reduceAdd, Nat.reduceSub, ↓reduceIte, Nat.reduceLeDiff, Int.reduceEq, Int.reduceLT, Int.reduceLE, Option.isSome_some, Option.isSome_none, Option.getD_some, Option.getD_none])
  have w := watchers_ok h (p := p)
  have s := same_refl 12 (.tuple ((watchL L n N p).map PyData.int)) (okD_tup (n := 10) (by
    unfold watchL
    have := List.length_filter_le (fun k => decide (p ∈ sensL L n N k)) (irange N.length)
    rw [irange_len] at this
    omega))
  have c' : compL (bN 5) law_k06_t1 law_k06_e3 [5] (rangeL 0 N.length) [] [.val x0, .own (.lst l) true, .val (encF n L N), .val (.int N.length), .val (.list (rowsL L n N)), .un, .val (.int p), .un, .un, .un, .un] = .ok ((watchL L n N p).map PyData.int) [.val x0, .own (.lst l) true, .val (encF n L N), .val (.int N.length), .val (.list (rowsL L n N)), .un, .val (.int p), .un, .un, .un, .un] := c
  unfold law_k06_b1 law_k06_c3
  simp -implicitDefEqProofs (decide := true) only [evs0, evs1, evs2, evs3, evs4, evs5, evs6, evs7, evs8, evs9, evs10, List.length_cons, List.length_nil, Nat.reduceAdd, Nat.reduceSub, ↓reduceIte, Nat.reduceLeDiff, Int.reduceEq, Int.reduceLT, Int.reduceLE, Option.isSome_some, Option.isSome_none, Option.getD_some, Option.getD_none, ev_rng1 b1 b2, c', w, s]
theorem plain_law_k06 : LawP f_law_k06 := by
  intro ns _ _
  obtain ⟨l, e, hp⟩ := pool_ok ns
  obtain ⟨n, L, N, l1, e1, hp1, hg, hn, hN, hl0, hl1⟩ := field_ok hp (most := 12) (nodes := 8) (bat := 12) (by omega) (by omega) (by omega) (by omega) (by omega) (by omega)
  have h : FOk n L N := ⟨hg, hn, hN, hl0, by omega⟩
  have g1 := hg.pos
  have i0 : ixB (encF n L N) (.int 0) = some (encG n L) := rfl
  have i1 : ixB (encF n L N) (.int 1) = some (.tuple (N.map encN)) := rfl
  have i2 : ixB (encG n L) (.int 0) = some (.int n) := rfl
  have b1 : (N.length : Int) < 4611686018427387904 := by omega
  have b2 : -4611686018427387904 ≤ (N.length : Int) := by omega
  have b3 : n < 4611686018427387904 := by omega
  have b4 : -4611686018427387904 ≤ n := by omega
  -- the rows
  have c1 := comp_upto (bd := bN 5) (elt := law_k06_e1) (vs := [5]) (n := N.length) [.val (.list (ns.map PyData.int)), .own (.lst l1) true, .val (encF n L N), .val (.int N.length), .un, .un, .un, .un, .un, .un, .un] (fun k => [.val (.list (ns.map PyData.int)), .own (.lst l1) true, .val (encF n L N), .val (.int N.length), .un, .val (.int k), .un, .un, .un, .un, .un]) (fun k => .tuple ((sensL L n N k).map PyData.int)) (by omega) (fun k _ _ => by simp -implicitDefEqProofs only [evs0, evs1, evs2, evs3, evs4, evs5, evs6, evs7, evs8, evs9, evs10, List.length_cons, List.length_nil, Nat.reduceAdd, Nat.reduceSub, ↓reduceIte, Nat.reduceLeDiff, Int.reduceEq, Int.reduceLT, Int.reduceLE, Option.isSome_some, Option.isSome_none, Option.getD_some, Option.getD_none]) (fun k h0 h1 => by
    have e := law_sensed_okI h h0 h1
    unfold law_k06_e1
    simp -implicitDefEqProofs only [evs0, evs1, evs2, evs3, evs4, evs5, evs6, evs7, evs8, evs9, evs10, List.length_cons, List.length_nil, Nat.reduceAdd, Nat.reduceSub, ↓reduceIte, Nat.reduceLeDiff, Int.reduceEq, Int.reduceLT, Int.reduceLE, Option.isSome_some, Option.isSome_none, Option.getD_some, Option.getD_none, e]) (fun k => by simp -implicitDefEqProofs only [evs0, evs1, evs2, evs3, evs4, evs5, evs6, evs7, evs8, evs9, evs10, List.length_cons, List.length_nil, Nat.reduceAdd, Nat.reduceSub, ↓reduceIte, Nat.reduceLeDiff, Int.reduceEq, Int.reduceLT, Int.reduceLE, Option.isSome_some, Option.isSome_none, Option.getD_some, Option.getD_none])
  have c2 := comp_upto (bd := bN 5) (elt := law_k06_e2) (vs := [5]) (n := N.length) [.val (.list (ns.map PyData.int)), .own (.lst l1) true, .val (encF n L N), .val (.int N.length), .val (.list (rowsL L n N)), .un, .un, .un, .un, .un, .un] (fun k => [.val (.list (ns.map PyData.int)), .own (.lst l1) true, .val (encF n L N), .val (.int N.length), .val (.list (rowsL L n N)), .val (.int k), .un, .un, .un, .un, .un]) (fun k => .tuple ((sensL L n N k).map PyData.int)) (by omega) (fun k _ _ => by simp -implicitDefEqProofs only [evs0, evs1, evs2, evs3, evs4, evs5, evs6, evs7, evs8, evs9, evs10, List.length_cons, List.length_nil, Nat.reduceAdd, Nat.reduceSub, ↓reduceIte, Nat.reduceLeDiff, Int.reduceEq, Int.reduceLT, Int.reduceLE, Option.isSome_some, Option.isSome_none, Option.getD_some, Option.getD_none]) (fun k h0 h1 => by
    have e := sensed_okI h h0 h1
    unfold law_k06_e2
    simp -implicitDefEqProofs only [evs0, evs1, evs2, evs3, evs4, evs5, evs6, evs7, evs8, evs9, evs10, List.length_cons, List.length_nil, Nat.reduceAdd, Nat.reduceSub, ↓reduceIte, Nat.reduceLeDiff, Int.reduceEq, Int.reduceLT, Int.reduceLE, Option.isSome_some, Option.isSome_none, Option.getD_some, Option.getD_none, e]) (fun k => by simp -implicitDefEqProofs only [evs0, evs1, evs2, evs3, evs4, evs5, evs6, evs7, evs8, evs9, evs10, List.length_cons, List.length_nil, Nat.reduceAdd, Nat.reduceSub, ↓reduceIte, Nat.reduceLeDiff, Int.reduceEq, Int.reduceLT, Int.reduceLE, Option.isSome_some, Option.isSome_none, Option.getD_some, Option.getD_none])
  have sr := same_refl 12 (.list (rowsL L n N)) (by
    refine okD_rows (by unfold rowsL; rw [List.length_map, irange_len]; omega) fun d hd => ?_
    obtain ⟨k, _, rfl⟩ := List.mem_map.mp hd
    exact okD_tup (n := 9) (by have := sensL_len (L := L) (n := n) (N := N) (k := k); omega))
  -- who watches
  have lp1 : ∃ y6, forV (bN 6) law_k06_b1 (rangeL 0 n) [.val (.list (ns.map PyData.int)), .own (.lst l1) true, .val (encF n L N), .val (.int N.length), .val (.list (rowsL L n N)), .un, .un, .un, .un, .un, .un] = .next [.val (.list (ns.map PyData.int)), .own (.lst l1) true, .val (encF n L N), .val (.int N.length), .val (.list (rowsL L n N)), .un, y6, .un, .un, .un, .un] := by
    refine for_rule (P := fun q => ∃ y6, q = .next [.val (.list (ns.map PyData.int)), .own (.lst l1) true, .val (encF n L N), .val (.int N.length), .val (.list (rowsL L n N)), .un, y6, .un, .un, .un, .un]) (rangeL 0 n) (fun i ρ => ∃ y6, ρ = [.val (.list (ns.map PyData.int)), .own (.lst l1) true, .val (encF n L N), .val (.int N.length), .val (.list (rowsL L n N)), .un, y6, .un, .un, .un, .un] ∧ nioK (some y6) = true) _ ⟨.un, rfl, rfl⟩ ?_ ?_
    · rintro i d ρ hi ⟨y6, rfl, h6⟩
      obtain ⟨p, rfl⟩ : ∃ p : Int, d = .int p := ⟨_, (rangeL_at hi).1⟩
      refine ⟨[.val (.list (ns.map PyData.int)), .own (.lst l1) true, .val (encF n L N), .val (.int N.length), .val (.list (rowsL L n N)), .un, .val (.int p), .un, .un, .un, .un], by simp -implicitDefEqProofs only [evs0, evs1, evs2, evs3, evs4, evs5, evs6, evs7, evs8, evs9, evs10, List.length_cons, List.length_nil, Nat.reduceAdd, Nat.reduceSub, ↓reduceIte, Nat.reduceLeDiff, Int.reduceEq, Int.reduceLT, Int.reduceLE, Option.isSome_some, Option.isSome_none, Option.getD_some, Option.getD_none, h6], ?_⟩
      rw [k06_watch h]
      exact ⟨_, rfl, rfl⟩
    · rintro ρ ⟨y6, rfl, _⟩
      exact ⟨y6, rfl⟩
  obtain ⟨y6, lp1⟩ := lp1
  -- the drawn sets
  obtain ⟨R, l2, c5, hp2, hR, hRa⟩ := comp_draws (bd := bN 8) (elt := law_k06_e5) (vs := [8]) (fun l => [.val (.list (ns.map PyData.int)), .own (.lst l) true, .val (encF n L N), .val (.int N.length), .val (.list (rowsL L n N)), .un, y6, .un, .un, .un, .un]) (fun l d => [.val (.list (ns.map PyData.int)), .own (.lst l) true, .val (encF n L N), .val (.int N.length), .val (.list (rowsL L n N)), .un, y6, .un, .val d, .un, .un])
    (fun _ x => ∃ A : List Int, x = .tuple (A.map PyData.int) ∧ (∀ k ∈ A, 0 ≤ k ∧ k < (N.length : Int)) ∧ A.length ≤ 1000) (src := rangeL 0 4) hp1 (by rw [rangeL_len]; omega) (fun l d _ => by simp -implicitDefEqProofs only [evs0, evs1, evs2, evs3, evs4, evs5, evs6, evs7, evs8, evs9, evs10, List.length_cons, List.length_nil, Nat.reduceAdd, Nat.reduceSub, ↓reduceIte, Nat.reduceLeDiff, Int.reduceEq, Int.reduceLT, Int.reduceLE, Option.isSome_some, Option.isSome_none, Option.getD_some, Option.getD_none]) (fun i l d _ hp => by
      obtain ⟨A, l', e, hp', hA, hlA, _⟩ := drawn_sel (bd := bN 5) (ifs := law_k06_t2) (elt := law_k06_e4) (vs := [5]) (m := 2) (n := N.length) (fun l => [.val (.list (ns.map PyData.int)), .own (.lst l) true, .val (encF n L N), .val (.int N.length), .val (.list (rowsL L n N)), .un, y6, .un, .val d, .un, .un]) (fun l k => [.val (.list (ns.map PyData.int)), .own (.lst l) true, .val (encF n L N), .val (.int N.length), .val (.list (rowsL L n N)), .val (.int k), y6, .un, .val d, .un, .un])
        (by omega) (by omega) (by omega) (fun r => decide (r = 0)) (fun l k => by simp -implicitDefEqProofs only [evs0, evs1, evs2, evs3, evs4, evs5, evs6, evs7, evs8, evs9, evs10, List.length_cons, List.length_nil, Nat.reduceAdd, Nat.reduceSub, ↓reduceIte, Nat.reduceLeDiff, Int.reduceEq, Int.reduceLT, Int.reduceLE, Option.isSome_some, Option.isSome_none, Option.getD_some, Option.getD_none]) (fun l k r l' e => by unfold law_k06_t2; simp -implicitDefEqProofs only [evs0, evs1, evs2, evs3, evs4, evs5, evs6, evs7, evs8, evs9, evs10, List.length_cons, List.length_nil, Nat.reduceAdd, Nat.reduceSub, ↓reduceIte, Nat.reduceLeDiff, Int.reduceEq, Int.reduceLT, Int.reduceLE, Option.isSome_some, Option.isSome_none, Option.getD_some, Option.getD_none, e]) (fun l k => by unfold law_k06_e4; simp -implicitDefEqProofs only [evs0, evs1, evs2, evs3, evs4, evs5, evs6, evs7, evs8, evs9, evs10, List.length_cons, List.length_nil, Nat.reduceAdd, Nat.reduceSub, ↓reduceIte, Nat.reduceLeDiff, Int.reduceEq, Int.reduceLT, Int.reduceLE, Option.isSome_some, Option.isSome_none, Option.getD_some, Option.getD_none]) (fun l k => by simp -implicitDefEqProofs only [evs0, evs1, evs2, evs3, evs4, evs5, evs6, evs7, evs8, evs9, evs10, List.length_cons, List.length_nil, Nat.reduceAdd, Nat.reduceSub, ↓reduceIte, Nat.reduceLeDiff, Int.reduceEq, Int.reduceLT, Int.reduceLE, Option.isSome_some, Option.isSome_none, Option.getD_some, Option.getD_none]) hp
      refine ⟨.tuple (A.map PyData.int), l', ?_, hp', A, rfl, hA, by omega⟩
      unfold law_k06_e5 law_k06_c4
      simp -implicitDefEqProofs only [evs0, evs1, evs2, evs3, evs4, evs5, evs6, evs7, evs8, evs9, evs10, List.length_cons, List.length_nil, Nat.reduceAdd, Nat.reduceSub, ↓reduceIte, Nat.reduceLeDiff, Int.reduceEq, Int.reduceLT, Int.reduceLE, Option.isSome_some, Option.isSome_none, Option.getD_some, Option.getD_none, ev_rng1 b1 b2, e]) (fun l d => by simp -implicitDefEqProofs only [evs0, evs1, evs2, evs3, evs4, evs5, evs6, evs7, evs8, evs9, evs10, List.length_cons, List.length_nil, Nat.reduceAdd, Nat.reduceSub, ↓reduceIte, Nat.reduceLeDiff, Int.reduceEq, Int.reduceLT, Int.reduceLE, Option.isSome_some, Option.isSome_none, Option.getD_some, Option.getD_none])
  obtain ⟨Z, hZ, hZa⟩ := enc_of (enc := fun A : List Int => PyData.tuple (A.map PyData.int)) (Q := fun A => (∀ k ∈ A, 0 ≤ k ∧ k < (N.length : Int)) ∧ A.length ≤ 1000) (r := R) fun x hx => by
    obtain ⟨i, hi⟩ := List.mem_iff_getElem?.mp hx
    obtain ⟨A, h1, h2, h3⟩ := hRa i x hi
    exact ⟨A, h1, h2, h3⟩
  have hR4 : R.length = 4 := by rw [hR, rangeL_len]; rfl
  have r1 := rng1L_ok (j := (N.length : Int)) (by omega) (by omega)
  -- all sets
  have lp2 : ∀ (Z : List (List Int)) (y7 y9 y10 : LV), (∀ A ∈ Z, (∀ k ∈ A, 0 ≤ k ∧ k < (N.length : Int)) ∧ A.length ≤ 1000) → nioK (some y7) = true → nioK (some y9) = true → nioK (some y10) = true → ∃ z7 z9 z10, forV (bN 7) law_k06_b3 (Z.map fun A => PyData.tuple (A.map PyData.int)) [.val (.list (ns.map PyData.int)), .own (.lst l2) true, .val (encF n L N), .val (.int N.length), .val (.list (rowsL L n N)), .un, y6, y7, .un, y9, y10] = .next [.val (.list (ns.map PyData.int)), .own (.lst l2) true, .val (encF n L N), .val (.int N.length), .val (.list (rowsL L n N)), .un, y6, z7, .un, z9, z10] := by
    intro Z
    induction Z with
    | nil => intro y7 y9 y10 _ _ _ _; exact ⟨y7, y9, y10, rfl⟩
    | cons A Z ih =>
      intro y7 y9 y10 hZ h7 h9 h10
      obtain ⟨hA, hlA⟩ := hZ A (List.mem_cons_self ..)
      obtain ⟨z7, z9, z10, e⟩ := ih (.val (.tuple (A.map PyData.int))) (.val (.int 3)) (.val (.list ((bareL L n N A 1).map PyData.int))) (fun A hA => hZ A (List.mem_cons_of_mem _ hA)) rfl rfl rfl
      refine ⟨z7, z9, z10, ?_⟩
      have s := k06_awake (x0 := .list (ns.map PyData.int)) (x3 := .int N.length) (x4 := .list (rowsL L n N)) (l := l2) (u5 := .un) (y6 := y6) (y8 := .un) h hA hlA h9 h10
      rw [List.map_cons]
      unfold forV
      simp -implicitDefEqProofs only [evs0, evs1, evs2, evs3, evs4, evs5, evs6, evs7, evs8, evs9, evs10, List.length_cons, List.length_nil, Nat.reduceAdd, Nat.reduceSub, ↓reduceIte, Nat.reduceLeDiff, Int.reduceEq, Int.reduceLT, Int.reduceLE, Option.isSome_some, Option.isSome_none, Option.getD_some, Option.getD_none, h7]
      rw [s]
      exact e
  obtain ⟨z7, z9, z10, lp2⟩ := lp2 ([] :: irange N.length :: Z) .un .un .un (fun A hA => by
    rcases List.mem_cons.mp hA with rfl | hA
    · exact ⟨fun k hk => (by cases hk), by simp⟩
    · rcases List.mem_cons.mp hA with rfl | hA
      · exact ⟨fun k hk => mem_irange.mp hk, by rw [irange_len]; omega⟩
      · exact hZa A hA) rfl rfl rfl
  have lp3 : forV (bN 7) law_k06_b3 ([PyData.tuple [], .tuple (rangeL 0 N.length)] ++ R) [.val (.list (ns.map PyData.int)), .own (.lst l2) true, .val (encF n L N), .val (.int N.length), .val (.list (rowsL L n N)), .un, y6, .un, .un, .un, .un] = .next [.val (.list (ns.map PyData.int)), .own (.lst l2) true, .val (encF n L N), .val (.int N.length), .val (.list (rowsL L n N)), .un, y6, z7, .un, z9, z10] := by
    have hl : [PyData.tuple [], .tuple ((irange N.length).map PyData.int)] ++ Z.map (fun A => PyData.tuple (A.map PyData.int)) = ([] :: irange N.length :: Z).map (fun A => PyData.tuple (A.map PyData.int)) := rfl
    rw [hZ, rangeL_irange, hl]
    exact lp2
  unfold f_law_k06 b_law_k06 law_k06_c1 law_k06_c2 law_k06_c5
  unfold rowsL at c2 sr lp1 c5 lp3
  simp -implicitDefEqProofs (decide := true) only [evs0, evs1, evs2, evs3, evs4, evs5, evs6, evs7, evs8, evs9, evs10, List.length_cons, List.length_nil, Nat.reduceAdd, Nat.reduceSub, ↓reduceIte, Nat.reduceLeDiff, Int.reduceEq, Int.reduceLT, Int.reduceLE, Option.isSome_some, Option.isSome_none, Option.getD_some, Option.getD_none, e, e1, i0, i1, i2, List.length_map, ev_rng1 b1 b2, c1, c2, sr, ev_rng1 b3 b4, lp1, r1, c5, addB_list, hR4, lp3]
end Ft
/-! Subs: all sets of some items. -/
namespace Ft
open PySem L2
open PySem.W (alike)
/-- a turn of a loop -/
theorem forV_next {bd : Bd} {s : Sn} {d : D} {l : List D} {ρ ρ1 ρ2 : Rho} (h1 : bd d ρ = some ρ1) (h2 : s ρ1 = .next ρ2) : forV bd s (d :: l) ρ = forV bd s l ρ2 := by
  rw [forV, h1]
  simp only [h2]
def encT (A : List Int) : D := .tuple (A.map PyData.int)
def subsF (A : List Int) (F : List (List Int)) : List (List Int) := A.foldl (fun F a => F ++ F.map (fun r => r ++ [a])) F
def subsLe (a b : List Int) : Bool := dLe (encT a) (encT b)
def subsS (A : List Int) : List (List Int) := (subsF A [[]]).mergeSort subsLe
theorem subsF_len : ∀ (A : List Int) (F : List (List Int)), (subsF A F).length = 2 ^ A.length * F.length
  | [], F => by simp [subsF]
  | a :: A, F => by
    have : subsF (a :: A) F = subsF A (F ++ F.map (fun r => r ++ [a])) := rfl
    rw [this, subsF_len A]
    simp only [List.length_append, List.length_map, List.length_cons, Nat.pow_succ]
    rw [Nat.mul_assoc]
    congr 1
    omega
theorem subsF_keeps : ∀ (A : List Int) (F : List (List Int)) (r : List Int), r ∈ F → r ∈ subsF A F
  | [], F, r, h => h
  | a :: A, F, r, h => subsF_keeps A _ r (List.mem_append_left _ h)
theorem subsF_mem : ∀ (A : List Int) (F : List (List Int)) (r : List Int), r ∈ subsF A F → ∃ s t, r = s ++ t ∧ s ∈ F ∧ t.Sublist A
  | [], F, r, h => ⟨r, [], by simp, h, .refl _⟩
  | a :: A, F, r, h => by
    obtain ⟨s, t, rfl, hs, ht⟩ := subsF_mem A _ r h
    rcases List.mem_append.mp hs with hs | hs
    · exact ⟨s, t, rfl, hs, .cons _ ht⟩
    · obtain ⟨q, hq, rfl⟩ := List.mem_map.mp hs
      exact ⟨q, a :: t, by simp, hq, .cons₂ _ ht⟩
theorem subs_sub {A r : List Int} (h : r ∈ subsS A) : r.Sublist A := by
  obtain ⟨s, t, rfl, hs, ht⟩ := subsF_mem A _ r ((List.mergeSort_perm _ _).mem_iff.mp h)
  rw [List.mem_singleton] at hs
  subst hs
  simpa using ht
theorem subs_len {A : List Int} : (subsS A).length = 2 ^ A.length := by
  unfold subsS
  rw [List.length_mergeSort, subsF_len]
  simp
theorem alike_tt (a b : List Int) : alike (encT a) (encT b) = true := by
  unfold encT
  rw [alike]
  exact PySem.W.alike_ints a b
theorem depth_encT (a : List Int) : (encT a).depth ≤ 1 := by
  unfold encT
  rw [PyData.depth, PySem.W.depth_ints]
  exact Nat.le_refl _
theorem sort_tups {F : List (List Int)} (h : F.length ≤ 16777216) (h0 : [] ∈ F) : sortB [.list (F.map encT)] = some ((F.mergeSort subsLe).map encT) := by
  show (if sortOk (F.map encT) = true then some ((F.map encT).mergeSort dLe) else none) = _
  have e : (F.map encT).mergeSort dLe = (F.mergeSort subsLe).map encT := by
    rw [List.map_mergeSort]
    intro a _ b _
    rfl
  rw [if_pos, e]
  unfold sortOk
  simp only [Bool.and_eq_true, Bool.or_eq_true, decide_eq_true_eq, List.length_map, List.all_eq_true, List.any_eq_true]
  refine ⟨⟨⟨?_, .inr (.inr ⟨?_, encT [], List.mem_map.mpr ⟨[], h0, rfl⟩, rfl⟩)⟩, ?_⟩, h⟩
  · rintro _ hd _ he
    obtain ⟨a, _, rfl⟩ := List.mem_map.mp hd
    obtain ⟨b, _, rfl⟩ := List.mem_map.mp he
    exact alike_tt a b
  · rintro _ hd
    obtain ⟨a, _, rfl⟩ := List.mem_map.mp hd
    rfl
  · rintro _ hd
    obtain ⟨a, _, rfl⟩ := List.mem_map.mp hd
    have := depth_encT a
    omega
theorem addB_encT {r : List Int} {a : Int} (h : r.length ≤ 1000) : addB (encT r) (.tuple [.int a]) = some (encT (r ++ [a])) := by
  have := addB_tuple (l := r.map PyData.int) (m := [PyData.int a]) (by rw [List.length_map]; simp; omega)
  unfold encT
  rw [this]
  simp
theorem subs_comp {bd : Bd} {elt : Dn} {vs : List Nat} (st : Rho) (ρ1 : D → Rho) {F : List (List Int)} {a : Int} (hF : F.length ≤ 100000) (hr : ∀ r ∈ F, r.length ≤ 1000) (hb : ∀ d, bd d st = some (ρ1 d)) (he : ∀ d e, addB d (.tuple [.int a]) = some e → elt (ρ1 d) = .ok e (ρ1 d)) (hw : ∀ d, wipeR (ρ1 d) vs = st) :
    compL bd tnYes elt vs (F.map encT) [] st = .ok ((F.map fun r => r ++ [a]).map encT) st := by
  have c := comp_map (bd := bd) (elt := elt) (vs := vs) (F.map encT) st ρ1 (fun d => match d with | .tuple l => .tuple (l ++ [.int a]) | d => d) (by rw [List.length_map]; omega) (fun d _ => hb d) (fun d hd => by
    obtain ⟨r, hr', rfl⟩ := List.mem_map.mp hd
    rw [he _ _ (addB_encT (hr r hr'))]
    simp [encT]) hw
  rw [c, List.map_map, List.map_map]
  congr 1
  apply List.map_congr_left
  intro r _
  simp [encT]
theorem subsets_loop {x : D} : ∀ (A : List Int) (F : List (List Int)) (y2 : LV), 2 ^ A.length * F.length ≤ 100000 → (∀ r ∈ F, r.length + A.length ≤ 1000) → nioK (some y2) = true →
    ∃ z, forV (bN 2) subsets_b1 (A.map PyData.int) [.val x, .own (.lst (F.map encT)) true, y2, .un] = .next [.val x, .own (.lst ((subsF A F).map encT)) true, z, .un]
  | [], F, y2, _, _, _ => ⟨y2, rfl⟩
  | a :: A, F, y2, hF, hr, h2 => by
    have hF0 : F.length ≤ 100000 := by
      refine Nat.le_trans ?_ hF
      exact Nat.le_mul_of_pos_left _ (Nat.pow_pos (by omega))
    have e := compO_pure (i := 1) (bd := bN 3) (ifs := tnYes) (elt := subsets_e1) (vs := [3]) (l0 := F.map encT) (p := fun _ => true) (f := fun d => match d with | .tuple l => .tuple (l ++ [.int a]) | d => d) (F.map encT) [] [.val x, .own (.lst (F.map encT)) true, .val (.int a), .un] ⟨true, rfl⟩ (by rw [List.length_map]; simp; omega) fun d hd => by
      obtain ⟨r, hr', rfl⟩ := List.mem_map.mp hd
      have h := addB_encT (r := r) (a := a) (by have := hr r hr'; omega)
      refine ⟨[.val x, .own (.lst (F.map encT)) true, .val (.int a), .val (encT r)], _, by simp -implicitDefEqProofs only [evs0, evs1, evs2, evs3, evs4, evs5, evs6, evs7, evs8, evs9, evs10, List.length_cons, List.length_nil, Nat.reduceAdd, Nat.reduceSub, ↓reduceIte, Nat.reduceLeDiff, Int.reduceEq, Int.reduceLT, Int.reduceLE, Option.isSome_some, Option.isSome_none, Option.getD_some, Option.getD_none], rfl, (fun h => by cases h), fun _ => ⟨[.val x, .own (.lst (F.map encT)) true, .val (.int a), .val (encT r)], ?_, by simp -implicitDefEqProofs only [evs0, evs1, evs2, evs3, evs4, evs5, evs6, evs7, evs8, evs9, evs10, List.length_cons, List.length_nil, Nat.reduceAdd, Nat.reduceSub, ↓reduceIte, Nat.reduceLeDiff, Int.reduceEq, Int.reduceLT, Int.reduceLE, Option.isSome_some, Option.isSome_none, Option.getD_some, Option.getD_none]⟩⟩
      unfold subsets_e1
      simp -implicitDefEqProofs only [evs0, evs1, evs2, evs3, evs4, evs5, evs6, evs7, evs8, evs9, evs10, List.length_cons, List.length_nil, Nat.reduceAdd, Nat.reduceSub, ↓reduceIte, Nat.reduceLeDiff, Int.reduceEq, Int.reduceLT, Int.reduceLE, Option.isSome_some, Option.isSome_none, Option.getD_some, Option.getD_none, h]
      simp [encT]
    have e3 : (([] : List D) ++ ((F.map encT).filter fun _ => true).map (fun d => match d with | .tuple l => .tuple (l ++ [.int a]) | d => d)) = (F.map fun r => r ++ [a]).map encT := by
      rw [List.nil_append, List.filter_eq_self.mpr (fun _ _ => rfl), List.map_map, List.map_map]
      apply List.map_congr_left
      intro r _
      simp [encT]
    rw [e3] at e
    have hl : (F.map encT).length + ((F.map fun r => r ++ [a]).map encT).length ≤ 16000000 := by
      simp only [List.length_map]
      omega
    obtain ⟨z, ih⟩ := subsets_loop (x := x) A (F ++ F.map fun r => r ++ [a]) (.val (.int a)) (by
      rw [List.length_cons, Nat.pow_succ] at hF
      rw [List.length_append, List.length_map]
      have : 2 ^ A.length * (F.length + F.length) = 2 ^ A.length * 2 * F.length := by rw [Nat.mul_assoc]; congr 1; omega
      omega) (fun r h => by
      rcases List.mem_append.mp h with h | h
      · have := hr r h; simp at this; omega
      · obtain ⟨q, hq, rfl⟩ := List.mem_map.mp h
        have := hr q hq; simp at this ⊢; omega) rfl
    refine ⟨z, ?_⟩
    have e2 : subsF (a :: A) F = subsF A (F ++ F.map fun r => r ++ [a]) := rfl
    rw [List.map_append] at ih
    rw [e2, List.map_cons]
    unfold forV
    simp -implicitDefEqProofs only [evs0, evs1, evs2, evs3, evs4, evs5, evs6, evs7, evs8, evs9, evs10, List.length_cons, List.length_nil, Nat.reduceAdd, Nat.reduceSub, ↓reduceIte, Nat.reduceLeDiff, Int.reduceEq, Int.reduceLT, Int.reduceLE, Option.isSome_some, Option.isSome_none, Option.getD_some, Option.getD_none, h2]
    unfold subsets_b1 subsets_c1
    simp -implicitDefEqProofs only [evs0, evs1, evs2, evs3, evs4, evs5, evs6, evs7, evs8, evs9, evs10, List.length_cons, List.length_nil, Nat.reduceAdd, Nat.reduceSub, ↓reduceIte, Nat.reduceLeDiff, Int.reduceEq, Int.reduceLT, Int.reduceLE, Option.isSome_some, Option.isSome_none, Option.getD_some, Option.getD_none, e, ev_extK2 hl]
    exact ih
theorem subsets_ok {A : List Int} (h : A.length ≤ 12) : f_subsets [.val (.list (A.map PyData.int))] = .ok (.list ((subsS A).map encT)) [] := by
  have h2 : 2 ^ A.length ≤ 2 ^ 12 := Nat.pow_le_pow_right (by omega) h
  obtain ⟨z, lp⟩ := subsets_loop (x := .list (A.map PyData.int)) A [[]] .un (by simp; omega) (fun r hr => by rw [List.mem_singleton] at hr; subst hr; simp; omega) rfl
  have s := sort_tups (F := subsF A [[]]) (by rw [subsF_len]; simp; omega) (subsF_keeps A _ _ (List.mem_singleton.mpr rfl))
  have lp' : forV (bN 2) subsets_b1 (A.map PyData.int) [.val (.list (A.map PyData.int)), .own (.lst [.tuple []]) true, .un, .un] = .next [.val (.list (A.map PyData.int)), .own (.lst ((subsF A [[]]).map encT)) true, z, .un] := lp
  unfold f_subsets b_subsets
  simp -implicitDefEqProofs only [evs0, evs1, evs2, evs3, evs4, evs5, evs6, evs7, evs8, evs9, evs10, List.length_cons, List.length_nil, Nat.reduceAdd, Nat.reduceSub, ↓reduceIte, Nat.reduceLeDiff, Int.reduceEq, Int.reduceLT, Int.reduceLE, Option.isSome_some, Option.isSome_none, Option.getD_some, Option.getD_none, lp', s, subsS]
theorem law_subsets_loop {x : D} : ∀ (A : List Int) (F : List (List Int)) (y2 : LV), 2 ^ A.length * F.length ≤ 100000 → (∀ r ∈ F, r.length + A.length ≤ 1000) → nioK (some y2) = true →
    ∃ z, forV (bN 2) law_subsets_b1 (A.map PyData.int) [.val x, .val (.list (F.map encT)), y2, .un] = .next [.val x, .val (.list ((subsF A F).map encT)), z, .un]
  | [], F, y2, _, _, _ => ⟨y2, rfl⟩
  | a :: A, F, y2, hF, hr, h2 => by
    have hF0 : F.length ≤ 100000 := by
      refine Nat.le_trans ?_ hF
      exact Nat.le_mul_of_pos_left _ (Nat.pow_pos (by omega))
    have e := subs_comp (bd := bN 3) (elt := law_subsets_e1) (vs := [3]) [.val x, .val (.list (F.map encT)), .val (.int a), .un] (fun d => [.val x, .val (.list (F.map encT)), .val (.int a), .val d]) (F := F) (a := a) hF0 (fun r h => by have := hr r h; omega) (fun d => by simp -implicitDefEqProofs only [evs0, evs1, evs2, evs3, evs4, evs5, evs6, evs7, evs8, evs9, evs10, List.length_cons, List.length_nil, Nat.reduceAdd, Nat.reduceSub, ↓reduceIte, Nat.reduceLeDiff, Int.reduceEq, Int.reduceLT, Int.reduceLE, Option.isSome_some, Option.isSome_none, Option.getD_some, Option.getD_none]) (fun d e h => by
      unfold law_subsets_e1
      simp -implicitDefEqProofs only [evs0, evs1, evs2, evs3, evs4, evs5, evs6, evs7, evs8, evs9, evs10, List.length_cons, List.length_nil, Nat.reduceAdd, Nat.reduceSub, ↓reduceIte, Nat.reduceLeDiff, Int.reduceEq, Int.reduceLT, Int.reduceLE, Option.isSome_some, Option.isSome_none, Option.getD_some, Option.getD_none, h]) (fun d => by simp -implicitDefEqProofs only [evs0, evs1, evs2, evs3, evs4, evs5, evs6, evs7, evs8, evs9, evs10, List.length_cons, List.length_nil, Nat.reduceAdd, Nat.reduceSub, ↓reduceIte, Nat.reduceLeDiff, Int.reduceEq, Int.reduceLT, Int.reduceLE, Option.isSome_some, Option.isSome_none, Option.getD_some, Option.getD_none])
    have ad := addB_list (l := F.map encT) (m := (F.map fun r => r ++ [a]).map encT) (by simp only [List.length_map]; omega)
    obtain ⟨z, ih⟩ := law_subsets_loop (x := x) A (F ++ F.map fun r => r ++ [a]) (.val (.int a)) (by
      rw [List.length_cons, Nat.pow_succ] at hF
      rw [List.length_append, List.length_map]
      have : 2 ^ A.length * (F.length + F.length) = 2 ^ A.length * 2 * F.length := by rw [Nat.mul_assoc]; congr 1; omega
      omega) (fun r h => by
      rcases List.mem_append.mp h with h | h
      · have := hr r h; simp at this; omega
      · obtain ⟨q, hq, rfl⟩ := List.mem_map.mp h
        have := hr q hq; simp at this ⊢; omega) rfl
    refine ⟨z, ?_⟩
    have e2 : subsF (a :: A) F = subsF A (F ++ F.map fun r => r ++ [a]) := rfl
    rw [List.map_append] at ih
    rw [e2, List.map_cons]
    unfold forV
    simp -implicitDefEqProofs only [evs0, evs1, evs2, evs3, evs4, evs5, evs6, evs7, evs8, evs9, evs10, List.length_cons, List.length_nil, Nat.reduceAdd, Nat.reduceSub, ↓reduceIte, Nat.reduceLeDiff, Int.reduceEq, Int.reduceLT, Int.reduceLE, Option.isSome_some, Option.isSome_none, Option.getD_some, Option.getD_none, h2]
    unfold law_subsets_b1 law_subsets_c1
    simp -implicitDefEqProofs only [evs0, evs1, evs2, evs3, evs4, evs5, evs6, evs7, evs8, evs9, evs10, List.length_cons, List.length_nil, Nat.reduceAdd, Nat.reduceSub, ↓reduceIte, Nat.reduceLeDiff, Int.reduceEq, Int.reduceLT, Int.reduceLE, Option.isSome_some, Option.isSome_none, Option.getD_some, Option.getD_none, e, ad]
    exact ih
theorem law_subsets_ok {A : List Int} (h : A.length ≤ 12) : f_law_subsets [.val (.list (A.map PyData.int))] = .ok (.list ((subsS A).map encT)) [] := by
  have h2 : 2 ^ A.length ≤ 2 ^ 12 := Nat.pow_le_pow_right (by omega) h
  obtain ⟨z, lp⟩ := law_subsets_loop (x := .list (A.map PyData.int)) A [[]] .un (by simp; omega) (fun r hr => by rw [List.mem_singleton] at hr; subst hr; simp; omega) rfl
  have s := sort_tups (F := subsF A [[]]) (by rw [subsF_len]; simp; omega) (subsF_keeps A _ _ (List.mem_singleton.mpr rfl))
  have lp' : forV (bN 2) law_subsets_b1 (A.map PyData.int) [.val (.list (A.map PyData.int)), .val (.list [.tuple []]), .un, .un] = .next [.val (.list (A.map PyData.int)), .val (.list ((subsF A [[]]).map encT)), z, .un] := lp
  unfold f_law_subsets b_law_subsets
  simp -implicitDefEqProofs only [evs0, evs1, evs2, evs3, evs4, evs5, evs6, evs7, evs8, evs9, evs10, List.length_cons, List.length_nil, Nat.reduceAdd, Nat.reduceSub, ↓reduceIte, Nat.reduceLeDiff, Int.reduceEq, Int.reduceLT, Int.reduceLE, Option.isSome_some, Option.isSome_none, Option.getD_some, Option.getD_none, lp', s, subsS]
end Ft
/-! K07: least covers. -/
namespace Ft
open PySem L2
def decT : D → List Int
  | .tuple l => l.map fun d => match d with | .int k => k | _ => 0
  | _ => []
theorem decT_enc (A : List Int) : decT (encT A) = A := by
  show ((A.map PyData.int).map fun d => match d with | .int k => k | _ => 0) = A
  rw [List.map_map]
  exact List.map_id _
/-- over given rows of numbers, with a test -/
theorem comp_selT {bd : Bd} {ifs : Tn} {elt : Dn} {vs : List Nat} (Z : List (List Int)) (st : Rho) (ρ1 : List Int → Rho) (q : List Int → Bool) (hn : Z.length ≤ 1000000) (hb : ∀ A ∈ Z, bd (encT A) st = some (ρ1 A)) (ht : ∀ A ∈ Z, ifs (ρ1 A) = .ok (q A) (ρ1 A)) (he : ∀ A, elt (ρ1 A) = .ok (encT A) (ρ1 A)) (hw : ∀ A, wipeR (ρ1 A) vs = st) :
    compL bd ifs elt vs (Z.map encT) [] st = .ok ((Z.filter q).map encT) st := by
  have c := comp_pure (bd := bd) (ifs := ifs) (elt := elt) (vs := vs) (p := fun d => q (decT d)) (f := id) (Z.map encT) [] st (by rw [List.length_map]; simp; omega) fun d hd => by
    obtain ⟨A, hA, rfl⟩ := List.mem_map.mp hd
    refine ⟨ρ1 A, ρ1 A, hb A hA, by rw [ht A hA, decT_enc], fun _ => hw A, fun _ => ⟨ρ1 A, he A, hw A⟩⟩
  rw [List.nil_append, List.map_id, List.filter_map] at c
  rw [c]
  congr 2
  apply List.filter_congr
  intro A _
  simp only [Function.comp, decT_enc]
theorem eqv_ints : ∀ a b : List Int, PyData.eqvAll (a.map PyData.int) (b.map PyData.int) = decide (a = b)
  | [], [] => by simp [PyData.eqvAll]
  | [], _ :: _ => by simp [PyData.eqvAll]
  | _ :: _, [] => by simp [PyData.eqvAll]
  | x :: a, y :: b => by
    rw [List.map_cons, List.map_cons, PyData.eqvAll, eqv_ints a b]
    simp only [PyData.eqv, List.cons.injEq]
    by_cases h : x = y <;> by_cases h2 : a = b <;> simp [h, h2]
theorem in_tups (Z : List (List Int)) (A : List Int) : inB (encT A) (.list (Z.map encT)) = some (decide (A ∈ Z)) := by
  have h1 : PyData.plainAll (Z.map encT) = true := by
    induction Z with
    | nil => rfl
    | cons B Z ih =>
      rw [List.map_cons, PyData.plainAll, ih]
      simp only [encT, PyData.plain, plain_ints, Bool.and_self]
  have h2 : (encT A).plain = true := by simp only [encT, PyData.plain, plain_ints]
  have h3 : ((Z.map encT).any fun y => PyData.eqv y (encT A)) = decide (A ∈ Z) := by
    induction Z with
    | nil => simp
    | cons B Z ih =>
      have h1' : PyData.plainAll (Z.map encT) = true := by
        rw [List.map_cons, PyData.plainAll, Bool.and_eq_true] at h1
        exact h1.2
      rw [List.map_cons, List.any_cons, ih h1']
      have : PyData.eqv (encT B) (encT A) = decide (B = A) := by
        unfold encT
        rw [PyData.eqv, eqv_ints]
      rw [this]
      by_cases h : A = B
      · subst h; simp
      · have h' : ¬ B = A := fun e => h e.symm
        simp [h, h']
  show (if (PyData.plainAll (Z.map encT) && (encT A).plain && decide (min (PyData.depthAll (Z.map encT)) (encT A).depth ≤ 60)) = true then some ((Z.map encT).any fun y => PyData.eqv y (encT A)) else none) = _
  rw [h3, h1, h2, if_pos]
  simp only [Bool.true_and, decide_eq_true_eq]
  exact Nat.le_trans (Nat.min_le_right _ _) (Nat.le_trans (depth_encT A) (by decide))
theorem notin_tups (Z : List (List Int)) (A : List Int) : toB notInB (encT A) (.list (Z.map encT)) = some (.bool (!decide (A ∈ Z))) := by
  unfold toB notInB
  rw [in_tups]; rfl
theorem in_tupsB (Z : List (List Int)) (A : List Int) : toB inB (encT A) (.list (Z.map encT)) = some (.bool (decide (A ∈ Z))) := by
  unfold toB
  rw [in_tups]; rfl
def outL (A : List Int) (k : Int) : List Int := A.filter fun j => !decide (j = k)
theorem without_ok {A : List Int} {k : Int} (h : A.length ≤ 1000) : f_without [.val (encT A), .val (.int k)] = .ok (encT (outL A k)) [] := by
  have c := comp_selL (bd := bN 2) (ifs := without_t1) (elt := without_e1) (vs := [2]) A [.val (encT A), .val (.int k), .un] (fun j => [.val (encT A), .val (.int k), .val (.int j)]) (fun j => !decide (j = k)) (by omega) (fun j _ => by simp -implicitDefEqProofs only [evs0, evs1, evs2, evs3, evs4, evs5, evs6, evs7, evs8, evs9, evs10, List.length_cons, List.length_nil, Nat.reduceAdd, Nat.reduceSub, ↓reduceIte, Nat.reduceLeDiff, Int.reduceEq, Int.reduceLT, Int.reduceLE, Option.isSome_some, Option.isSome_none, Option.getD_some, Option.getD_none]) (fun j _ => by
    unfold without_t1
    simp -implicitDefEqProofs only [evs0, evs1, evs2, evs3, evs4, evs5, evs6, evs7, evs8, evs9, evs10, List.length_cons, List.length_nil, Nat.reduceAdd, Nat.reduceSub, ↓reduceIte, Nat.reduceLeDiff, Int.reduceEq, Int.reduceLT, Int.reduceLE, Option.isSome_some, Option.isSome_none, Option.getD_some, Option.getD_none]) (fun j => by unfold without_e1; simp -implicitDefEqProofs only [evs0, evs1, evs2, evs3, evs4, evs5, evs6, evs7, evs8, evs9, evs10, List.length_cons, List.length_nil, Nat.reduceAdd, Nat.reduceSub, ↓reduceIte, Nat.reduceLeDiff, Int.reduceEq, Int.reduceLT, Int.reduceLE, Option.isSome_some, Option.isSome_none, Option.getD_some, Option.getD_none]) (fun j => by simp -implicitDefEqProofs only [evs0, evs1, evs2, evs3, evs4, evs5, evs6, evs7, evs8, evs9, evs10, List.length_cons, List.length_nil, Nat.reduceAdd, Nat.reduceSub, ↓reduceIte, Nat.reduceLeDiff, Int.reduceEq, Int.reduceLT, Int.reduceLE, Option.isSome_some, Option.isSome_none, Option.getD_some, Option.getD_none])
  unfold f_without b_without without_c1
  unfold encT at c ⊢
  simp -implicitDefEqProofs only [evs0, evs1, evs2, evs3, evs4, evs5, evs6, evs7, evs8, evs9, evs10, List.length_cons, List.length_nil, Nat.reduceAdd, Nat.reduceSub, ↓reduceIte, Nat.reduceLeDiff, Int.reduceEq, Int.reduceLT, Int.reduceLE, Option.isSome_some, Option.isSome_none, Option.getD_some, Option.getD_none, c, outL]
def notO (G : List (List Int)) (A : List Int) : D → Bool
  | .int k => !decide (outL A k ∈ G)
  | _ => false
theorem seq_encT (A : List Int) : items (encT A) = some (A.map PyData.int) := rfl
section
variable {n : Int} {L : List (Int × Int)} {N : List Nd}
def goodL (L : List (Int × Int)) (n : Int) (N : List Nd) (t : Int) : List (List Int) := (subsS (irange N.length)).filter fun A => (bareL L n N A t).isEmpty
def leastL (L : List (Int × Int)) (n : Int) (N : List Nd) (t : Int) : List (List Int) := (goodL L n N t).filter fun A => A.all fun k => !decide (outL A k ∈ goodL L n N t)
theorem subs_at (h : FOk n L N) {A : List Int} (hA : A ∈ subsS (irange N.length)) : (∀ k ∈ A, 0 ≤ k ∧ k < (N.length : Int)) ∧ A.length ≤ 9 := by
  have s := subs_sub hA
  refine ⟨fun k hk => mem_irange.mp (s.subset hk), ?_⟩
  have := s.length_le
  rw [irange_len] at this
  have := h.n8
  omega
theorem subs_n (h : FOk n L N) : (subsS (irange N.length)).length ≤ 512 := by
  rw [subs_len, irange_len]
  have := h.n8
  exact Nat.le_trans (Nat.pow_le_pow_right (by omega) (by omega : (N.length : Int).toNat ≤ 9)) (by decide)
theorem len0 {α : Type} (l : List α) : decide ((l.length : Int) = 0) = l.isEmpty := by cases l <;> simp; omega
theorem least_covers_ok (h : FOk n L N) {t : Int} : f_least_covers [.val (encF n L N), .val (.int t)] = .ok (.list ((leastL L n N t).map encT)) [] := by
  have e1 := rows_of_ok h
  have hl := h.n8
  have r1 := rng1L_ok (j := (N.length : Int)) (by omega) (by omega)
  have r2 : rangeL 0 (N.length : Int) = (irange N.length).map PyData.int := rangeL_irange _
  have e2 := subsets_ok (A := irange N.length) (by rw [irange_len]; omega)
  have i0 : ixB (encF n L N) (.int 0) = some (encG n L) := rfl
  have i1 : ixB (encF n L N) (.int 1) = some (.tuple (N.map encN)) := rfl
  have i2 : ixB (encG n L) (.int 0) = some (.int n) := rfl
  obtain ⟨S, hS⟩ : ∃ S : List (List Int), S = subsS (irange N.length) := ⟨_, rfl⟩
  have hn := subs_n h
  rw [← hS] at e2 hn
  obtain ⟨R, hR⟩ : ∃ R : D, R = .list (rowsL L n N) := ⟨_, rfl⟩
  have c1 := comp_selT (bd := bN 5) (ifs := least_covers_t1) (elt := least_covers_e1) (vs := [5]) S [.val (encF n L N), .val (.int t), .val R, .val (.list (S.map encT)), .un, .un, .un] (fun A => [.val (encF n L N), .val (.int t), .val R, .val (.list (S.map encT)), .un, .val (encT A), .un]) (fun A => (bareL L n N A t).isEmpty) (by omega) (fun A _ => by simp -implicitDefEqProofs only [evs0, evs1, evs2, evs3, evs4, evs5, evs6, evs7, evs8, evs9, evs10, List.length_cons, List.length_nil, Nat.reduceAdd, Nat.reduceSub, ↓reduceIte, Nat.reduceLeDiff, Int.reduceEq, Int.reduceLT, Int.reduceLE, Option.isSome_some, Option.isSome_none, Option.getD_some, Option.getD_none]) (fun A hA => by
    rw [hS] at hA
    obtain ⟨a1, a2⟩ := subs_at h hA
    have e3 := bare_by_ok h (t := t) a1 (by omega)
    rw [← hR] at e3
    unfold least_covers_t1
    unfold encT
    simp -implicitDefEqProofs only [evs0, evs1, evs2, evs3, evs4, evs5, evs6, evs7, evs8, evs9, evs10, List.length_cons, List.length_nil, Nat.reduceAdd, Nat.reduceSub, ↓reduceIte, Nat.reduceLeDiff, Int.reduceEq, Int.reduceLT, Int.reduceLE, Option.isSome_some, Option.isSome_none, Option.getD_some, Option.getD_none, i0, i2, e3, List.length_map, len0]) (fun A => by unfold least_covers_e1; simp -implicitDefEqProofs only [evs0, evs1, evs2, evs3, evs4, evs5, evs6, evs7, evs8, evs9, evs10, List.length_cons, List.length_nil, Nat.reduceAdd, Nat.reduceSub, ↓reduceIte, Nat.reduceLeDiff, Int.reduceEq, Int.reduceLT, Int.reduceLE, Option.isSome_some, Option.isSome_none, Option.getD_some, Option.getD_none]) (fun A => by simp -implicitDefEqProofs only [evs0, evs1, evs2, evs3, evs4, evs5, evs6, evs7, evs8, evs9, evs10, List.length_cons, List.length_nil, Nat.reduceAdd, Nat.reduceSub, ↓reduceIte, Nat.reduceLeDiff, Int.reduceEq, Int.reduceLT, Int.reduceLE, Option.isSome_some, Option.isSome_none, Option.getD_some, Option.getD_none])
  have hg : S.filter (fun A => (bareL L n N A t).isEmpty) = goodL L n N t := by rw [hS]; rfl
  rw [hg] at c1
  obtain ⟨G, hG⟩ : ∃ G : List (List Int), G = goodL L n N t := ⟨_, rfl⟩
  have c2 := comp_selT (bd := bN 5) (ifs := least_covers_t2) (elt := least_covers_e3) (vs := [5]) G [.val (encF n L N), .val (.int t), .val R, .val (.list (S.map encT)), .val (.list (G.map encT)), .un, .un] (fun A => [.val (encF n L N), .val (.int t), .val R, .val (.list (S.map encT)), .val (.list (G.map encT)), .val (encT A), .un]) (fun A => A.all fun k => !decide (outL A k ∈ G)) (by
      rw [hG, ← hg]
      exact Nat.le_trans (List.length_filter_le _ _) (by omega)) (fun A _ => by simp -implicitDefEqProofs only [evs0, evs1, evs2, evs3, evs4, evs5, evs6, evs7, evs8, evs9, evs10, List.length_cons, List.length_nil, Nat.reduceAdd, Nat.reduceSub, ↓reduceIte, Nat.reduceLeDiff, Int.reduceEq, Int.reduceLT, Int.reduceLE, Option.isSome_some, Option.isSome_none, Option.getD_some, Option.getD_none]) (fun A hA => by
    have hA' : A ∈ subsS (irange N.length) := by
      rw [hG] at hA
      exact (List.mem_filter.mp hA).1
    obtain ⟨a1, a2⟩ := subs_at h hA'
    have c := comp_map (bd := bN 6) (elt := least_covers_e2) (vs := [6]) (A.map PyData.int) [.val (encF n L N), .val (.int t), .val R, .val (.list (S.map encT)), .val (.list (G.map encT)), .val (encT A), .un] (fun d => [.val (encF n L N), .val (.int t), .val R, .val (.list (S.map encT)), .val (.list (G.map encT)), .val (encT A), .val d]) (fun d => .bool (notO G A d)) (by rw [List.length_map]; omega) (fun d _ => by simp -implicitDefEqProofs only [evs0, evs1, evs2, evs3, evs4, evs5, evs6, evs7, evs8, evs9, evs10, List.length_cons, List.length_nil, Nat.reduceAdd, Nat.reduceSub, ↓reduceIte, Nat.reduceLeDiff, Int.reduceEq, Int.reduceLT, Int.reduceLE, Option.isSome_some, Option.isSome_none, Option.getD_some, Option.getD_none]) (fun d hd => by
      obtain ⟨k, hk, rfl⟩ := List.mem_map.mp hd
      have w := without_ok (A := A) (k := k) (by omega)
      have m := notin_tups G (outL A k)
      unfold least_covers_e2
      simp -implicitDefEqProofs only [evs0, evs1, evs2, evs3, evs4, evs5, evs6, evs7, evs8, evs9, evs10, List.length_cons, List.length_nil, Nat.reduceAdd, Nat.reduceSub, ↓reduceIte, Nat.reduceLeDiff, Int.reduceEq, Int.reduceLT, Int.reduceLE, Option.isSome_some, Option.isSome_none, Option.getD_some, Option.getD_none, w, m, notO]) (fun d => by simp -implicitDefEqProofs only [evs0, evs1, evs2, evs3, evs4, evs5, evs6, evs7, evs8, evs9, evs10, List.length_cons, List.length_nil, Nat.reduceAdd, Nat.reduceSub, ↓reduceIte, Nat.reduceLeDiff, Int.reduceEq, Int.reduceLT, Int.reduceLE, Option.isSome_some, Option.isSome_none, Option.getD_some, Option.getD_none])
    have ab := all_bools (l := A.map PyData.int) (g := notO G A)
    rw [List.all_map] at ab
    have ab' : allB [.list ((A.map PyData.int).map fun d => .bool (notO G A d))] = some (.bool (A.all fun k => !decide (outL A k ∈ G))) := ab
    unfold least_covers_t2 least_covers_c2
    simp -implicitDefEqProofs only [evs0, evs1, evs2, evs3, evs4, evs5, evs6, evs7, evs8, evs9, evs10, List.length_cons, List.length_nil, Nat.reduceAdd, Nat.reduceSub, ↓reduceIte, Nat.reduceLeDiff, Int.reduceEq, Int.reduceLT, Int.reduceLE, Option.isSome_some, Option.isSome_none, Option.getD_some, Option.getD_none, seq_encT, c, ab']) (fun A => by unfold least_covers_e3; simp -implicitDefEqProofs only [evs0, evs1, evs2, evs3, evs4, evs5, evs6, evs7, evs8, evs9, evs10, List.length_cons, List.length_nil, Nat.reduceAdd, Nat.reduceSub, ↓reduceIte, Nat.reduceLeDiff, Int.reduceEq, Int.reduceLT, Int.reduceLE, Option.isSome_some, Option.isSome_none, Option.getD_some, Option.getD_none]) (fun A => by simp -implicitDefEqProofs only [evs0, evs1, evs2, evs3, evs4, evs5, evs6, evs7, evs8, evs9, evs10, List.length_cons, List.length_nil, Nat.reduceAdd, Nat.reduceSub, ↓reduceIte, Nat.reduceLeDiff, Int.reduceEq, Int.reduceLT, Int.reduceLE, Option.isSome_some, Option.isSome_none, Option.getD_some, Option.getD_none])
  have hl2 : G.filter (fun A => A.all fun k => !decide (outL A k ∈ G)) = leastL L n N t := by rw [hG]; rfl
  rw [hl2] at c2
  rw [hR] at c1 c2
  rw [← hG] at c1
  unfold f_least_covers b_least_covers least_covers_c1 least_covers_c3
  simp -implicitDefEqProofs only [evs0, evs1, evs2, evs3, evs4, evs5, evs6, evs7, evs8, evs9, evs10, List.length_cons, List.length_nil, Nat.reduceAdd, Nat.reduceSub, ↓reduceIte, Nat.reduceLeDiff, Int.reduceEq, Int.reduceLT, Int.reduceLE, Option.isSome_some, Option.isSome_none, Option.getD_some, Option.getD_none, e1, i1, List.length_map, r1, r2, e2, c1, c2]
theorem law_least_turn (h : FOk n L N) {t : Int} {A : List Int} {G : List (List Int)} (hA : A ∈ subsS (irange N.length)) (hG : G.length ≤ 1000) :
    law_least_covers_b1 [.val (encF n L N), .val (.int t), .val (.list (rowsL L n N)), .un, .own (.lst (G.map encT)) true, .val (encT A), .un, .un, .un, .un] = .next [.val (encF n L N), .val (.int t), .val (.list (rowsL L n N)), .un, .own (.lst ((G ++ if (bareL L n N A t).isEmpty then [A] else []).map encT)) true, .val (encT A), .un, .un, .un, .un] := by
  obtain ⟨a1, a2⟩ := subs_at h hA
  have hn := h.n12
  have g1 := h.g.pos
  have c := comp_sel (bd := bN 6) (ifs := law_least_covers_t2) (elt := law_least_covers_e3) (vs := [6]) (n := n) [.val (encF n L N), .val (.int t), .val (.list (rowsL L n N)), .un, .own (.lst (G.map encT)) true, .val (encT A), .un, .un, .un, .un] (fun p => [.val (encF n L N), .val (.int t), .val (.list (rowsL L n N)), .un, .own (.lst (G.map encT)) true, .val (encT A), .val (.int p), .un, .un, .un]) (fewB L n N A t) (by omega) (fun k _ _ => by simp -implicitDefEqProofs only [evs0, evs1, evs2, evs3, evs4, evs5, evs6, evs7, evs8, evs9, evs10, List.length_cons, List.length_nil, Nat.reduceAdd, Nat.reduceSub, ↓reduceIte, Nat.reduceLeDiff, Int.reduceEq, Int.reduceLT, Int.reduceLE, Option.isSome_some, Option.isSome_none, Option.getD_some, Option.getD_none]) (fun p h0 h1 => by
    have c2 := comp_selL (bd := bN 7) (ifs := law_least_covers_t1) (elt := law_least_covers_e2) (vs := [7]) A [.val (encF n L N), .val (.int t), .val (.list (rowsL L n N)), .un, .own (.lst (G.map encT)) true, .val (encT A), .val (.int p), .un, .un, .un] (fun k => [.val (encF n L N), .val (.int t), .val (.list (rowsL L n N)), .un, .own (.lst (G.map encT)) true, .val (encT A), .val (.int p), .val (.int k), .un, .un]) (fun k => decide (p ∈ sensL L n N k)) (by omega) (fun k _ => by simp -implicitDefEqProofs only [evs0, evs1, evs2, evs3, evs4, evs5, evs6, evs7, evs8, evs9, evs10, List.length_cons, List.length_nil, Nat.reduceAdd, Nat.reduceSub, ↓reduceIte, Nat.reduceLeDiff, Int.reduceEq, Int.reduceLT, Int.reduceLE, Option.isSome_some, Option.isSome_none, Option.getD_some, Option.getD_none]) (fun k hk => by
      have e1 := rows_at (L := L) (n := n) (a1 k hk).1 (a1 k hk).2
      have e2 := in_intsT (sensL L n N k) p
      unfold law_least_covers_t1
      simp -implicitDefEqProofs only [evs0, evs1, evs2, evs3, evs4, evs5, evs6, evs7, evs8, evs9, evs10, List.length_cons, List.length_nil, Nat.reduceAdd, Nat.reduceSub, ↓reduceIte, Nat.reduceLeDiff, Int.reduceEq, Int.reduceLT, Int.reduceLE, Option.isSome_some, Option.isSome_none, Option.getD_some, Option.getD_none, e1, e2]) (fun k => by unfold law_least_covers_e2; simp -implicitDefEqProofs only [evs0, evs1, evs2, evs3, evs4, evs5, evs6, evs7, evs8, evs9, evs10, List.length_cons, List.length_nil, Nat.reduceAdd, Nat.reduceSub, ↓reduceIte, Nat.reduceLeDiff, Int.reduceEq, Int.reduceLT, Int.reduceLE, Option.isSome_some, Option.isSome_none, Option.getD_some, Option.getD_none]) (fun k => by simp -implicitDefEqProofs only [evs0, evs1, evs2, evs3, evs4, evs5, evs6, evs7, evs8, evs9, evs10, List.length_cons, List.length_nil, Nat.reduceAdd, Nat.reduceSub, ↓reduceIte, Nat.reduceLeDiff, Int.reduceEq, Int.reduceLT, Int.reduceLE, Option.isSome_some, Option.isSome_none, Option.getD_some, Option.getD_none])
    unfold law_least_covers_t2 law_least_covers_c2
    simp -implicitDefEqProofs only [evs0, evs1, evs2, evs3, evs4, evs5, evs6, evs7, evs8, evs9, evs10, List.length_cons, List.length_nil, Nat.reduceAdd, Nat.reduceSub, ↓reduceIte, Nat.reduceLeDiff, Int.reduceEq, Int.reduceLT, Int.reduceLE, Option.isSome_some, Option.isSome_none, Option.getD_some, Option.getD_none, seq_encT, c2, List.length_map, fewB]) (fun k => by unfold law_least_covers_e3; simp -implicitDefEqProofs only [evs0, evs1, evs2, evs3, evs4, evs5, evs6, evs7, evs8, evs9, evs10, List.length_cons, List.length_nil, Nat.reduceAdd, Nat.reduceSub, ↓reduceIte, Nat.reduceLeDiff, Int.reduceEq, Int.reduceLT, Int.reduceLE, Option.isSome_some, Option.isSome_none, Option.getD_some, Option.getD_none]) (fun k => by simp -implicitDefEqProofs only [evs0, evs1, evs2, evs3, evs4, evs5, evs6, evs7, evs8, evs9, evs10, List.length_cons, List.length_nil, Nat.reduceAdd, Nat.reduceSub, ↓reduceIte, Nat.reduceLeDiff, Int.reduceEq, Int.reduceLT, Int.reduceLE, Option.isSome_some, Option.isSome_none, Option.getD_some, Option.getD_none])
  have b1 : n < 4611686018427387904 := by omega
  have b2 : -4611686018427387904 ≤ n := by omega
  have i0 : ixB (encF n L N) (.int 0) = some (encG n L) := rfl
  have i2 : ixB (encG n L) (.int 0) = some (.int n) := rfl
  have hb : (irange n).filter (fewB L n N A t) = bareL L n N A t := rfl
  rw [hb] at c
  have hz : (G.map encT).length < 16000000 := by rw [List.length_map]; omega
  unfold law_least_covers_b1 law_least_covers_c3
  cases hB : (bareL L n N A t).isEmpty with
  | true => simp -implicitDefEqProofs only [evs0, evs1, evs2, evs3, evs4, evs5, evs6, evs7, evs8, evs9, evs10, List.length_cons, List.length_nil, Nat.reduceAdd, Nat.reduceSub, ↓reduceIte, Nat.reduceLeDiff, Int.reduceEq, Int.reduceLT, Int.reduceLE, Option.isSome_some, Option.isSome_none, Option.getD_some, Option.getD_none, i0, i2, ev_rng1 b1 b2, c, List.length_map, len0, hB, ev_appK2 hz, List.map_append, List.map_cons, List.map_nil]
  | false => simp -implicitDefEqProofs only [evs0, evs1, evs2, evs3, evs4, evs5, evs6, evs7, evs8, evs9, evs10, List.length_cons, List.length_nil, Nat.reduceAdd, Nat.reduceSub, ↓reduceIte, Nat.reduceLeDiff, Int.reduceEq, Int.reduceLT, Int.reduceLE, Option.isSome_some, Option.isSome_none, Option.getD_some, Option.getD_none, i0, i2, ev_rng1 b1 b2, c, List.length_map, len0, hB, List.append_nil, Bool.false_eq_true]
theorem law_least_loop (h : FOk n L N) {t : Int} : ∀ (Z G : List (List Int)) (x5 : LV), (∀ A ∈ Z, A ∈ subsS (irange N.length)) → Z.length + G.length ≤ 1000 → nioK (some x5) = true → ∃ y5, forV (bN 5) law_least_covers_b1 (Z.map encT) [.val (encF n L N), .val (.int t), .val (.list (rowsL L n N)), .un, .own (.lst (G.map encT)) true, x5, .un, .un, .un, .un] =
    .next [.val (encF n L N), .val (.int t), .val (.list (rowsL L n N)), .un, .own (.lst ((G ++ Z.filter fun A => (bareL L n N A t).isEmpty).map encT)) true, y5, .un, .un, .un, .un]
  | [], G, x5, _, _, _ => ⟨x5, by simp only [List.filter_nil, List.append_nil]; rfl⟩
  | A :: Z, G, x5, hZ, hl, h5 => by
    rw [List.length_cons] at hl
    have e := law_least_turn h (t := t) (G := G) (hZ A (List.mem_cons_self ..)) (by omega)
    obtain ⟨y5, ih⟩ := law_least_loop h (t := t) Z (G ++ if (bareL L n N A t).isEmpty then [A] else []) (.val (encT A)) (fun B hB => hZ B (List.mem_cons_of_mem _ hB)) (by rw [List.length_append]; split <;> simp <;> omega) rfl
    refine ⟨y5, ?_⟩
    have e2 : G ++ (A :: Z).filter (fun A => (bareL L n N A t).isEmpty) = (G ++ if (bareL L n N A t).isEmpty then [A] else []) ++ Z.filter fun A => (bareL L n N A t).isEmpty := by
      rw [List.filter_cons, List.append_assoc]
      split <;> simp
    rw [e2, List.map_cons]
    unfold forV
    simp -implicitDefEqProofs only [evs0, evs1, evs2, evs3, evs4, evs5, evs6, evs7, evs8, evs9, evs10, List.length_cons, List.length_nil, Nat.reduceAdd, Nat.reduceSub, ↓reduceIte, Nat.reduceLeDiff, Int.reduceEq, Int.reduceLT, Int.reduceLE, Option.isSome_some, Option.isSome_none, Option.getD_some, Option.getD_none, h5]
    rw [e]
    exact ih
theorem law_least_ok (h : FOk n L N) {t : Int} : f_law_least_covers [.val (encF n L N), .val (.int t)] = .ok (.list ((leastL L n N t).map encT)) [] := by
  have hl := h.n8
  have c0 := comp_upto (bd := bN 3) (elt := law_least_covers_e1) (vs := [3]) (n := N.length) [.val (encF n L N), .val (.int t), .un, .un, .un, .un, .un, .un, .un, .un] (fun k => [.val (encF n L N), .val (.int t), .un, .val (.int k), .un, .un, .un, .un, .un, .un]) (fun k => .tuple ((sensL L n N k).map PyData.int)) (by omega) (fun k _ _ => by simp -implicitDefEqProofs only [evs0, evs1, evs2, evs3, evs4, evs5, evs6, evs7, evs8, evs9, evs10, List.length_cons, List.length_nil, Nat.reduceAdd, Nat.reduceSub, ↓reduceIte, Nat.reduceLeDiff, Int.reduceEq, Int.reduceLT, Int.reduceLE, Option.isSome_some, Option.isSome_none, Option.getD_some, Option.getD_none]) (fun k h0 h1 => by
    have e := law_sensed_okI h h0 h1
    unfold law_least_covers_e1
    simp -implicitDefEqProofs only [evs0, evs1, evs2, evs3, evs4, evs5, evs6, evs7, evs8, evs9, evs10, List.length_cons, List.length_nil, Nat.reduceAdd, Nat.reduceSub, ↓reduceIte, Nat.reduceLeDiff, Int.reduceEq, Int.reduceLT, Int.reduceLE, Option.isSome_some, Option.isSome_none, Option.getD_some, Option.getD_none, e]) (fun k => by simp -implicitDefEqProofs only [evs0, evs1, evs2, evs3, evs4, evs5, evs6, evs7, evs8, evs9, evs10, List.length_cons, List.length_nil, Nat.reduceAdd, Nat.reduceSub, ↓reduceIte, Nat.reduceLeDiff, Int.reduceEq, Int.reduceLT, Int.reduceLE, Option.isSome_some, Option.isSome_none, Option.getD_some, Option.getD_none])
  have hr : ((irange N.length).map fun k => PyData.tuple ((sensL L n N k).map PyData.int)) = rowsL L n N := rfl
  rw [hr] at c0
  have b1 : (N.length : Int) < 4611686018427387904 := by omega
  have b2 : -4611686018427387904 ≤ (N.length : Int) := by omega
  have r1 := rng1L_ok (j := (N.length : Int)) (by omega) (by omega)
  have r2 : rangeL 0 (N.length : Int) = (irange N.length).map PyData.int := rangeL_irange _
  have e2 := law_subsets_ok (A := irange N.length) (by rw [irange_len]; omega)
  rw [← r2] at e2
  have i1 : ixB (encF n L N) (.int 1) = some (.tuple (N.map encN)) := rfl
  have hn := subs_n h
  obtain ⟨y5, lp⟩ := law_least_loop h (t := t) (subsS (irange N.length)) [] .un (fun A hA => hA) (by simp; omega) rfl
  obtain ⟨S, hS⟩ : ∃ S : List (List Int), S = subsS (irange N.length) := ⟨_, rfl⟩
  have hg : [] ++ (subsS (irange N.length)).filter (fun A => (bareL L n N A t).isEmpty) = goodL L n N t := rfl
  rw [hg] at lp
  obtain ⟨G, hG⟩ : ∃ G : List (List Int), G = goodL L n N t := ⟨_, rfl⟩
  have hGl : G.length ≤ 512 := by
    rw [hG]
    exact Nat.le_trans (List.length_filter_le _ _) hn
  have c2 := comp_selT (bd := bN 8) (ifs := law_least_covers_t5) (elt := law_least_covers_e6) (vs := [8]) G [.val (encF n L N), .val (.int t), .val (.list (rowsL L n N)), .un, .val (.list (G.map encT)), y5, .un, .un, .un, .un] (fun A => [.val (encF n L N), .val (.int t), .val (.list (rowsL L n N)), .un, .val (.list (G.map encT)), y5, .un, .un, .val (encT A), .un]) (fun A => A.all fun k => !decide (outL A k ∈ G)) (by omega) (fun A _ => by simp -implicitDefEqProofs only [evs0, evs1, evs2, evs3, evs4, evs5, evs6, evs7, evs8, evs9, evs10, List.length_cons, List.length_nil, Nat.reduceAdd, Nat.reduceSub, ↓reduceIte, Nat.reduceLeDiff, Int.reduceEq, Int.reduceLT, Int.reduceLE, Option.isSome_some, Option.isSome_none, Option.getD_some, Option.getD_none]) (fun A hA => by
    have hA' : A ∈ subsS (irange N.length) := by
      rw [hG] at hA
      exact (List.mem_filter.mp hA).1
    obtain ⟨a1, a2⟩ := subs_at h hA'
    have c := comp_selL (bd := bN 7) (ifs := law_least_covers_t4) (elt := law_least_covers_e5) (vs := [7]) A [.val (encF n L N), .val (.int t), .val (.list (rowsL L n N)), .un, .val (.list (G.map encT)), y5, .un, .un, .val (encT A), .un] (fun k => [.val (encF n L N), .val (.int t), .val (.list (rowsL L n N)), .un, .val (.list (G.map encT)), y5, .un, .val (.int k), .val (encT A), .un]) (fun k => decide (outL A k ∈ G)) (by omega) (fun k _ => by simp -implicitDefEqProofs only [evs0, evs1, evs2, evs3, evs4, evs5, evs6, evs7, evs8, evs9, evs10, List.length_cons, List.length_nil, Nat.reduceAdd, Nat.reduceSub, ↓reduceIte, Nat.reduceLeDiff, Int.reduceEq, Int.reduceLT, Int.reduceLE, Option.isSome_some, Option.isSome_none, Option.getD_some, Option.getD_none]) (fun k _ => by
      have c3 := comp_selL (bd := bN 9) (ifs := law_least_covers_t3) (elt := law_least_covers_e4) (vs := [9]) A [.val (encF n L N), .val (.int t), .val (.list (rowsL L n N)), .un, .val (.list (G.map encT)), y5, .un, .val (.int k), .val (encT A), .un] (fun j => [.val (encF n L N), .val (.int t), .val (.list (rowsL L n N)), .un, .val (.list (G.map encT)), y5, .un, .val (.int k), .val (encT A), .val (.int j)]) (fun j => !decide (j = k)) (by omega) (fun j _ => by simp -implicitDefEqProofs only [evs0, evs1, evs2, evs3, evs4, evs5, evs6, evs7, evs8, evs9, evs10, List.length_cons, List.length_nil, Nat.reduceAdd, Nat.reduceSub, ↓reduceIte, Nat.reduceLeDiff, Int.reduceEq, Int.reduceLT, Int.reduceLE, Option.isSome_some, Option.isSome_none, Option.getD_some, Option.getD_none]) (fun j _ => by
        unfold law_least_covers_t3
        simp -implicitDefEqProofs only [evs0, evs1, evs2, evs3, evs4, evs5, evs6, evs7, evs8, evs9, evs10, List.length_cons, List.length_nil, Nat.reduceAdd, Nat.reduceSub, ↓reduceIte, Nat.reduceLeDiff, Int.reduceEq, Int.reduceLT, Int.reduceLE, Option.isSome_some, Option.isSome_none, Option.getD_some, Option.getD_none]) (fun j => by unfold law_least_covers_e4; simp -implicitDefEqProofs only [evs0, evs1, evs2, evs3, evs4, evs5, evs6, evs7, evs8, evs9, evs10, List.length_cons, List.length_nil, Nat.reduceAdd, Nat.reduceSub, ↓reduceIte, Nat.reduceLeDiff, Int.reduceEq, Int.reduceLT, Int.reduceLE, Option.isSome_some, Option.isSome_none, Option.getD_some, Option.getD_none]) (fun j => by simp -implicitDefEqProofs only [evs0, evs1, evs2, evs3, evs4, evs5, evs6, evs7, evs8, evs9, evs10, List.length_cons, List.length_nil, Nat.reduceAdd, Nat.reduceSub, ↓reduceIte, Nat.reduceLeDiff, Int.reduceEq, Int.reduceLT, Int.reduceLE, Option.isSome_some, Option.isSome_none, Option.getD_some, Option.getD_none])
      have m : toB inB (.tuple ((outL A k).map PyData.int)) (.list (G.map encT)) = _ := in_tupsB G (outL A k)
      have ho : A.filter (fun j => !decide (j = k)) = outL A k := rfl
      rw [ho] at c3
      unfold law_least_covers_t4 law_least_covers_c4
      simp -implicitDefEqProofs only [evs0, evs1, evs2, evs3, evs4, evs5, evs6, evs7, evs8, evs9, evs10, List.length_cons, List.length_nil, Nat.reduceAdd, Nat.reduceSub, ↓reduceIte, Nat.reduceLeDiff, Int.reduceEq, Int.reduceLT, Int.reduceLE, Option.isSome_some, Option.isSome_none, Option.getD_some, Option.getD_none, seq_encT, c3, m]) (fun k => by unfold law_least_covers_e5; simp -implicitDefEqProofs only [evs0, evs1, evs2, evs3, evs4, evs5, evs6, evs7, evs8, evs9, evs10, List.length_cons, List.length_nil, Nat.reduceAdd, Nat.reduceSub, ↓reduceIte, Nat.reduceLeDiff, Int.reduceEq, Int.reduceLT, Int.reduceLE, Option.isSome_some, Option.isSome_none, Option.getD_some, Option.getD_none]) (fun k => by simp -implicitDefEqProofs only [evs0, evs1, evs2, evs3, evs4, evs5, evs6, evs7, evs8, evs9, evs10, List.length_cons, List.length_nil, Nat.reduceAdd, Nat.reduceSub, ↓reduceIte, Nat.reduceLeDiff, Int.reduceEq, Int.reduceLT, Int.reduceLE, Option.isSome_some, Option.isSome_none, Option.getD_some, Option.getD_none])
    have hc : decide (((A.filter fun k => decide (outL A k ∈ G)).length : Int) = 0) = A.all fun k => !decide (outL A k ∈ G) := by
      rw [len0, Bool.eq_iff_iff, List.isEmpty_iff, List.filter_eq_nil_iff, List.all_eq_true]
      simp
    unfold law_least_covers_t5 law_least_covers_c5
    simp -implicitDefEqProofs only [evs0, evs1, evs2, evs3, evs4, evs5, evs6, evs7, evs8, evs9, evs10, List.length_cons, List.length_nil, Nat.reduceAdd, Nat.reduceSub, ↓reduceIte, Nat.reduceLeDiff, Int.reduceEq, Int.reduceLT, Int.reduceLE, Option.isSome_some, Option.isSome_none, Option.getD_some, Option.getD_none, seq_encT, c, List.length_map, hc]) (fun A => by unfold law_least_covers_e6; simp -implicitDefEqProofs only [evs0, evs1, evs2, evs3, evs4, evs5, evs6, evs7, evs8, evs9, evs10, List.length_cons, List.length_nil, Nat.reduceAdd, Nat.reduceSub, ↓reduceIte, Nat.reduceLeDiff, Int.reduceEq, Int.reduceLT, Int.reduceLE, Option.isSome_some, Option.isSome_none, Option.getD_some, Option.getD_none]) (fun A => by simp -implicitDefEqProofs only [evs0, evs1, evs2, evs3, evs4, evs5, evs6, evs7, evs8, evs9, evs10, List.length_cons, List.length_nil, Nat.reduceAdd, Nat.reduceSub, ↓reduceIte, Nat.reduceLeDiff, Int.reduceEq, Int.reduceLT, Int.reduceLE, Option.isSome_some, Option.isSome_none, Option.getD_some, Option.getD_none])
  have hl2 : G.filter (fun A => A.all fun k => !decide (outL A k ∈ G)) = leastL L n N t := by rw [hG]; rfl
  rw [hl2] at c2
  rw [← hG, ← hS] at lp
  rw [← hS] at e2
  have lp : forV (bN 5) law_least_covers_b1 (S.map encT) [.val (encF n L N), .val (.int t), .val (.list (rowsL L n N)), .un, .own (.lst []) true, .un, .un, .un, .un, .un] = .next [.val (encF n L N), .val (.int t), .val (.list (rowsL L n N)), .un, .own (.lst (G.map encT)) true, y5, .un, .un, .un, .un] := lp
  unfold f_law_least_covers b_law_least_covers law_least_covers_c1 law_least_covers_c6
  simp -implicitDefEqProofs only [evs0, evs1, evs2, evs3, evs4, evs5, evs6, evs7, evs8, evs9, evs10, List.length_cons, List.length_nil, Nat.reduceAdd, Nat.reduceSub, ↓reduceIte, Nat.reduceLeDiff, Int.reduceEq, Int.reduceLT, Int.reduceLE, Option.isSome_some, Option.isSome_none, Option.getD_some, Option.getD_none, i1, List.length_map, ev_rng1 b1 b2, c0, r1, e2, lp, c2]
theorem least_len (h : FOk n L N) {t : Int} : (leastL L n N t).length ≤ 512 ∧ ∀ A ∈ leastL L n N t, A.length ≤ 9 := by
  refine ⟨Nat.le_trans (List.length_filter_le _ _) (Nat.le_trans (List.length_filter_le _ _) (subs_n h)), fun A hA => ?_⟩
  exact (subs_at h (List.mem_filter.mp (List.mem_filter.mp hA).1).1).2
theorem least_same (h : FOk n L N) {t : Int} : f_law_same 12 [.val (.list ((leastL L n N t).map encT)), .val (.list ((leastL L n N t).map encT))] = .ok (.bool true) [] := by
  obtain ⟨h1, h2⟩ := least_len h (t := t)
  refine same_refl 12 _ (okD_rows (by rw [List.length_map]; omega) fun d hd => ?_)
  obtain ⟨A, hA, rfl⟩ := List.mem_map.mp hd
  have := h2 A hA
  exact okD_tup (n := 9) (by omega)
theorem k07_t2 {f1 : Cn} {f x0 : D} {Y l : List D} {t : Int} (e1 : f1 [.val f, .val (.int t)] = .ok (.list Y) []) : dCall f1 (aCons (aE (dV 2)) (aCons (aE (dV 3)) aNil)) [.val x0, .own (.lst l) true, .val f, .val (.int t)] = .ok (.list Y) [.val x0, .own (.lst l) true, .val f, .val (.int t)] := by
  simp -implicitDefEqProofs (decide := true) only [evs0, evs1, evs2, evs3, evs4, evs5, evs6, evs7, evs8, evs9, evs10, List.length_cons, List.length_nil, Nat.reduceAdd, Nat.reduceSub, ↓reduceIte, Nat.reduceLeDiff, Int.reduceEq, Int.reduceLT, Int.reduceLE, Option.isSome_some, Option.isSome_none, Option.getD_some, Option.getD_none, e1]
theorem k07_t3 {f1 : Cn} {f x0 : D} {Y l : List D} {t : Int} (e1 : f1 [.val f, .val (.int t)] = .ok (.list Y) []) : dCall f1 (aDef (aApp (aCons (aE (dV 2)) aNil) (aCons (aE (dV 3)) aNil)) []) [.val x0, .own (.lst l) true, .val f, .val (.int t)] = .ok (.list Y) [.val x0, .own (.lst l) true, .val f, .val (.int t)] := by
  simp -implicitDefEqProofs (decide := true) only [evs0, evs1, evs2, evs3, evs4, evs5, evs6, evs7, evs8, evs9, evs10, List.length_cons, List.length_nil, Nat.reduceAdd, Nat.reduceSub, ↓reduceIte, Nat.reduceLeDiff, Int.reduceEq, Int.reduceLT, Int.reduceLE, Option.isSome_some, Option.isSome_none, Option.getD_some, Option.getD_none, e1]
theorem k07_t4 {f1 : Cn} {f x0 : D} {Y l : List D} {t : Int} (e1 : f1 [.val (.list Y), .val (.list Y)] = .ok (.bool true) []) {d1 d2 : Dn} (h1 : d1 [.val x0, .own (.lst l) true, .val f, .val (.int t)] = .ok (.list Y) [.val x0, .own (.lst l) true, .val f, .val (.int t)]) (h2 : d2 [.val x0, .own (.lst l) true, .val f, .val (.int t)] = .ok (.list Y) [.val x0, .own (.lst l) true, .val f, .val (.int t)]) : sIf (tnNot (dTv (dCall f1 (aCons (aE d1) (aCons (aE d2) aNil))))) (sRet (dC (.bool false))) sSkip [.val x0, .own (.lst l) true, .val f, .val (.int t)] = .next [.val x0, .own (.lst l) true, .val f, .val (.int t)] := by
  simp -implicitDefEqProofs (decide := true) only [evs0, evs1, evs2, evs3, evs4, evs5, evs6, evs7, evs8, evs9, evs10, List.length_cons, List.length_nil, Nat.reduceAdd, Nat.reduceSub, ↓reduceIte, Nat.reduceLeDiff, Int.reduceEq, Int.reduceLT, Int.reduceLE, Option.isSome_some, Option.isSome_none, Option.getD_some, Option.getD_none, h1, h2, e1]
theorem k07_turnY {f x0 : D} {Y l : List D} {t : Int} (e1 : f_least_covers [.val f, .val (.int t)] = .ok (.list Y) []) (e2 : f_law_least_covers [.val f, .val (.int t)] = .ok (.list Y) []) (e3 : f_law_same 12 [.val (.list Y), .val (.list Y)] = .ok (.bool true) []) :
    law_k07_b1 [.val x0, .own (.lst l) true, .val f, .val (.int t)] = .next [.val x0, .own (.lst l) true, .val f, .val (.int t)] := by
  have a3 := k07_t3 (x0 := x0) (l := l) e1
  have a2 := k07_t2 (x0 := x0) (l := l) e2
  have := k07_t4 e3 a3 a2
  show sIf (tnNot (dTv (dCall (f_law_same 12) (aCons (aE (dCall f_least_covers (aDef (aApp (aCons (aE (dV 2)) aNil) (aCons (aE (dV 3)) aNil)) []))) (aCons (aE (dCall f_law_least_covers (aCons (aE (dV 2)) (aCons (aE (dV 3)) aNil)))) aNil))))) (sRet (dC (.bool false))) sSkip _ = _
  exact this
theorem k07_turn (h : FOk n L N) {t : Int} {l : List D} {x0 : D} :
    law_k07_b1 [.val x0, .own (.lst l) true, .val (encF n L N), .val (.int t)] = .next [.val x0, .own (.lst l) true, .val (encF n L N), .val (.int t)] :=
  k07_turnY (least_covers_ok h) (law_least_ok h) (least_same h)
theorem k07_step (h : FOk n L N) {t : Int} {l Z : List D} {x0 : D} {y : LV} (hy : nioK (some y) = true) : forV (bN 3) law_k07_b1 (.int t :: Z) [.val x0, .own (.lst l) true, .val (encF n L N), y] = forV (bN 3) law_k07_b1 Z [.val x0, .own (.lst l) true, .val (encF n L N), .val (.int t)] := by
  exact forV_next (by simp -implicitDefEqProofs only [evs0, evs1, evs2, evs3, evs4, evs5, evs6, evs7, evs8, evs9, evs10, List.length_cons, List.length_nil, Nat.reduceAdd, Nat.reduceSub, ↓reduceIte, Nat.reduceLeDiff, Int.reduceEq, Int.reduceLT, Int.reduceLE, Option.isSome_some, Option.isSome_none, Option.getD_some, Option.getD_none, hy]) (k07_turn h)
theorem k07_loop (h : FOk n L N) {l : List D} {x0 : D} : forV (bN 3) law_k07_b1 [.int 1, .int 2, .int 3] [.val x0, .own (.lst l) true, .val (encF n L N), .un] = .next [.val x0, .own (.lst l) true, .val (encF n L N), .val (.int 3)] := by
  rw [k07_step h rfl, k07_step h rfl, k07_step h rfl]
  rfl
theorem new_nd {n : Int} (h : 1 ≤ n) : NOk n 12 ⟨0, 6, 0⟩ := by
  unfold NOk
  dsimp only
  omega
end
theorem plain_law_k07 : LawP f_law_k07 := by
  intro ns _ _
  obtain ⟨l, e, hp⟩ := pool_ok ns
  obtain ⟨n, L, N, l1, e1, hp1, hg, hn, hN, hl0, hl1⟩ := field_ok hp (most := 8) (nodes := 8) (bat := 3) (by omega) (by omega) (by omega) (by omega) (by omega) (by omega)
  have wk : ∀ x : Nd, NOk n 3 x → NOk n 12 x := fun x q => ⟨q.1, q.2.1, q.2.2.1, by have := q.2.2.2; omega⟩
  have h : FOk n L N := ⟨hg, by omega, fun x hx => wk x (hN x hx), hl0, by omega⟩
  obtain ⟨r, l2, e2, r0, r1, hp2⟩ := draw_ok hp1 (m := 2) (by omega) (by omega)
  have i0 : ixB (encF n L N) (.int 0) = some (encG n L) := rfl
  have i1 : ixB (encF n L N) (.int 1) = some (.tuple (N.map encN)) := rfl
  have g1 := hg.pos
  by_cases hr : r = 0
  · subst hr
    by_cases h8 : (N.length : Int) < 8
    · have h' : FOk n L (N ++ [Nd.mk 0 6 0]) := ⟨hg, by omega, fun x hx => by
        rcases List.mem_append.mp hx with hx | hx
        · exact wk x (hN x hx)
        · rw [List.mem_singleton] at hx
          subst hx
          exact new_nd g1, by rw [List.length_append]; simp, by rw [List.length_append]; simp; omega⟩
      have lp := k07_loop h' (l := l2) (x0 := .list (ns.map PyData.int))
      have k1 := least_covers_ok h' (t := 1)
      have k2 := law_least_ok h' (t := 1)
      have k3 := least_same h' (t := 1)
      have hb : decide ((N.length : Int) < 8) = true := by simpa using h8
      have m1 : mulTC (.tuple [.tuple [.int 0, .int 6, .int 0]]) (.int 1) = some (.tuple [.tuple [.int 0, .int 6, .int 0]]) := by rfl
      have a1 : addB (.tuple (N.map encN)) (.tuple [.tuple [.int 0, .int 6, .int 0]]) = some (.tuple ((N ++ [Nd.mk 0 6 0]).map encN)) := by
        rw [addB_tuple (by simp; omega), List.map_append]; rfl
      have ib : intB [.bool true] = some (.int 1) := rfl
      have ef : PyData.tuple [encG n L, .tuple ((N ++ [Nd.mk 0 6 0]).map encN)] = encF n L (N ++ [Nd.mk 0 6 0]) := rfl
      unfold f_law_k07 b_law_k07
      simp -implicitDefEqProofs (decide := true) only [evs0, evs1, evs2, evs3, evs4, evs5, evs6, evs7, evs8, evs9, evs10, List.length_cons, List.length_nil, Nat.reduceAdd, Nat.reduceSub, ↓reduceIte, Nat.reduceLeDiff, Int.reduceEq, Int.reduceLT, Int.reduceLE, Option.isSome_some, Option.isSome_none, Option.getD_some, Option.getD_none, e, e1, e2, i0, i1, List.length_map, hb, ib, m1, a1, ef, lp, k1, k2, k3]
    · have lp := k07_loop h (l := l2) (x0 := .list (ns.map PyData.int))
      have k1 := least_covers_ok h (t := 1)
      have k2 := law_least_ok h (t := 1)
      have k3 := least_same h (t := 1)
      have hb : decide ((N.length : Int) < 8) = false := by simpa using h8
      have m1 : mulTC (.tuple [.tuple [.int 0, .int 6, .int 0]]) (.int 0) = some (.tuple []) := by rfl
      have a1 : addB (.tuple (N.map encN)) (.tuple []) = some (.tuple (N.map encN)) := by
        rw [addB_tuple (by simp; omega), List.append_nil]
      have ib : intB [.bool false] = some (.int 0) := rfl
      have ef : PyData.tuple [encG n L, .tuple (N.map encN)] = encF n L N := rfl
      unfold f_law_k07 b_law_k07
      simp -implicitDefEqProofs (decide := true) only [evs0, evs1, evs2, evs3, evs4, evs5, evs6, evs7, evs8, evs9, evs10, List.length_cons, List.length_nil, Nat.reduceAdd, Nat.reduceSub, ↓reduceIte, Nat.reduceLeDiff, Int.reduceEq, Int.reduceLT, Int.reduceLE, Option.isSome_some, Option.isSome_none, Option.getD_some, Option.getD_none, e, e1, e2, i0, i1, List.length_map, hb, ib, m1, a1, ef, lp, k1, k2, k3]
  · have lp := k07_loop h (l := l2) (x0 := .list (ns.map PyData.int))
    have k1 := least_covers_ok h (t := 1)
    have k2 := law_least_ok h (t := 1)
    have k3 := least_same h (t := 1)
    have hb : decide (r = 0) = false := by simpa using hr
    unfold f_law_k07 b_law_k07
    simp -implicitDefEqProofs (decide := true) only [evs0, evs1, evs2, evs3, evs4, evs5, evs6, evs7, evs8, evs9, evs10, List.length_cons, List.length_nil, Nat.reduceAdd, Nat.reduceSub, ↓reduceIte, Nat.reduceLeDiff, Int.reduceEq, Int.reduceLT, Int.reduceLE, Option.isSome_some, Option.isSome_none, Option.getD_some, Option.getD_none, e, e1, e2, hb, lp, k1, k2, k3]
end Ft
set_option maxHeartbeats 0
namespace Wk07
open PySem L2 Ft PyProof.Rows
def top (i : Nat) : Stmt := PySem.Challenge.pw_fieldtold_k07_least_covers_listed.main.body.getD i (.Pass ⟨0, 0, 0, 0⟩)
structure Txt (K : PySem.W.Frag) (mg : Str → Option Value) : Prop where
  g_all : mg "all" = none
  g_bool : mg "bool" = none
  g_int : mg "int" = none
  g_isinstance : mg "isinstance" = none
  g_len : mg "len" = none
  g_list : mg "list" = none
  g_max : mg "max" = none
  g_min : mg "min" = none
  g_range : mg "range" = none
  g_sorted : mg "sorted" = none
  g_str : mg "str" = none
  g_tuple : mg "tuple" = none
  d_subsets : Df K mg "subsets" (top 1)
  d_beside : Df K mg "beside" (top 3)
  d_distances : Df K mg "distances" (top 4)
  d_near : Df K mg "near" (top 5)
  d_sensed : Df K mg "sensed" (top 7)
  d_bare_by : Df K mg "bare_by" (top 8)
  d_rows_of : Df K mg "rows_of" (top 9)
  d_without : Df K mg "without" (top 10)
  d_least_covers : DfK K mg "least_covers" (top 11) [("times", .int (1))]
  d_law_same : Df K mg "_law_same" (top 13)
  d_law_pool : Df K mg "_law_pool" (top 14)
  d_law_spread : Df K mg "_law_spread" (top 15)
  d_law_draw : Df K mg "_law_draw" (top 16)
  d_law_subsets : Df K mg "_law_subsets" (top 17)
  d_law_ground : Df K mg "_law_ground" (top 18)
  d_law_beside : Df K mg "_law_beside" (top 19)
  d_law_steps : Df K mg "_law_steps" (top 20)
  d_law_near : Df K mg "_law_near" (top 21)
  d_law_field : Df K mg "_law_field" (top 22)
  d_law_sensed : Df K mg "_law_sensed" (top 23)
  d_law_least_covers : Df K mg "_law_least_covers" (top 25)
  d_law : Df K mg "law" (top 26)
section
variable {P : Program} {w : World} {K : PySem.W.Frag} {mg : Str → Option Value} {base : Heap} {xr : XR}
abbrev s_subsets : Stmt := top 1
theorem sc_subsets : FnScope ["items", "found", "item", "row"] ["items"] (defScope s_subsets) := ⟨rfl, rfl, rfl, by decide +kernel, rfl, by decide +kernel, by decide +kernel⟩
theorem ok_subsets (T : Txt K mg) : Cl P w K mg base 1 "subsets" 1 xr f_subsets :=
  cl_of (N := ["items", "found", "item", "row"]) (ps := ["items"]) (k := 0) T.d_subsets sc_subsets rfl rfl (by decide) (fun _ _ F => F.binds fun _ _ _ _ _ _ us hl => match us, hl with | [_], _ => rfl) (fun f cdv A outer s H E hr => by
    have nd := sc_subsets.nd
    exact (dss_cons (ds_new 1 nd (df_lst (dvs_cons (de_tup dvs_nil) dvs_nil))) (dss_cons (ds_for po rfl (di_seq (de_v 0)) (tg_n 2 nd) (dss_one (ds_ext 1 (pe_bm PySem.F.plainAttrs_list PySem.F.slot_list_extend PySem.F.type_list_extend mt_extB (pv 1) (pa_cons (de_fz (df_compO 1 [("row", 3)] rfl (by decide) rfl nd (blkOk_by (by kernel_rfl)) ⟨gName 3, fun _ _ _ _ _ => pg_name (i := 3) nd rfl (by first | exact Or.inl rfl | exact Or.inr rfl) (by first | exact .inl rfl | exact .inr rfl), tgr_n 3⟩ (by decide) (fun _ _ _ _ _ => dts_nil) (fun _ _ _ _ _ => (de_op op_addB p2_add (da_v 3) (da_e (de_tup (dvs_cons (de_v 2) dvs_nil))))))) pa_nil))))) (dss_one (ds_ret (de_fz (df_B (cr_sortD hr.units) pf_sort T.g_sorted (by decide +kernel) (das_cons (da_v 1) das_nil))))))))
abbrev s_beside : Stmt := top 3
theorem sc_beside : FnScope ["ground", "place", "a", "b"] ["ground", "place"] (defScope s_beside) := ⟨rfl, rfl, rfl, by decide +kernel, rfl, by decide +kernel, by decide +kernel⟩
theorem ok_beside (T : Txt K mg) : Cl P w K mg base 1 "beside" 2 xr f_beside :=
  cl_of (N := ["ground", "place", "a", "b"]) (ps := ["ground", "place"]) (k := 0) T.d_beside sc_beside rfl rfl (by decide) (fun _ _ F => F.binds fun _ _ _ _ _ _ us hl => match us, hl with | [_, _], _ => rfl) (fun f cdv A outer s H E hr => by
    have nd := sc_beside.nd
    exact (dss_one (ds_ret (de_fz (df_B (cr_sortD hr.units) pf_sort T.g_sorted (by decide +kernel) (das_cons (da_e (de_fz (df_comp [("a", 2), ("b", 3)] rfl rfl nd (di_seq (de_ix ix_seq p2_ix (da_v 0) (da_e de_int) (fun _ _ => rfl))) (blkOk_by (by kernel_rfl)) ⟨_, fun _ _ _ _ _ => pg_tup rfl (pgs_cons (pg_name (i := 2) nd rfl (by first | exact Or.inl rfl | exact Or.inr rfl) (by first | exact .inl rfl | exact .inr rfl)) (pgs_cons (pg_name (i := 3) nd rfl (by first | exact Or.inl rfl | exact Or.inr rfl) (by first | exact .inl rfl | exact .inr rfl)) pgs_nil)), tgr_t [2, 3] rfl⟩ (by decide) (fun _ _ _ _ _ => (dts_one (dt_cmp (op_inB hr.units) p2_B (da_v 1) (da_e (de_tup (dvs_cons (de_v 2) (dvs_cons (de_v 3) dvs_nil)))) (by rfl)))) (fun _ _ _ _ _ => (de_op op_sub p2_sub (da_e (de_op op_addB p2_add (da_v 2) (da_v 3))) (da_v 1)))))) das_nil))))))
abbrev s_distances : Stmt := top 4
theorem sc_distances : FnScope ["ground", "start", "found", "waiting", "here", "other"] ["ground", "start"] (defScope s_distances) := ⟨rfl, rfl, rfl, by decide +kernel, rfl, by decide +kernel, by decide +kernel⟩
theorem ok_distances (T : Txt K mg) : Cl P w K mg base 2 "distances" 2 xr f_distances :=
  cl_of (N := ["ground", "start", "found", "waiting", "here", "other"]) (ps := ["ground", "start"]) (k := 1) T.d_distances sc_distances rfl rfl (by decide) (fun _ _ F => F.binds fun _ _ _ _ _ _ us hl => match us, hl with | [_, _], _ => rfl) (fun f cdv A outer s H E hr => by
    have nd := sc_distances.nd
    exact (dss_cons (ds_new 2 nd (df_disp (ppv_cons (de_v 1) de_int ppv_nil) rfl rfl (by simp) (by decide))) (dss_cons (ds_new 3 nd (df_lst (dvs_cons (de_v 1) dvs_nil))) (dss_cons (ds_while po (dt_cmp (op_gtB hr.units) p2_B (da_e (de_B call_len pn_len T.g_len (by decide +kernel) (das_cons (da_v 3) das_nil))) (da_e de_int) (nomark _)) (dss_cons (ds_set 4 nd (de_pop 3 (pe_bm PySem.F.plainAttrs_list PySem.F.slot_list_pop PySem.F.type_list_pop mt_popAt (pv 3) (pa_cons de_int pa_nil)))) (dss_one (ds_for po rfl (di_seq (de_cl (ok_beside T) (hr.mono (by omega)) px (das_cons (da_e (de_v 0)) (das_cons (da_e (de_v 4)) das_nil)) (aLen_cons (aLen_cons aLen_nil)))) (tg_n 5 nd) (dss_one (ds_if (dt_niN 2 (Room.u1 hr) (de_v 5)) (dss_cons (ds_putN 2 (Room.u1 hr) (de_op op_addB p2_add (da_e (de_getN 2 (Room.u1 hr) (de_v 4))) (da_e de_int)) (de_v 5)) (dss_one (ds_app 3 (pe_bm PySem.F.plainAttrs_list PySem.F.slot_list_append PySem.F.type_list_append mt_append (pv 3) (pa_cons (de_v 5) pa_nil))))) dss_nil)))))) (dss_one (ds_ret (de_v 2)))))))
abbrev s_near : Stmt := top 5
theorem sc_near : FnScope ["ground", "place", "reach", "found", "other"] ["ground", "place", "reach"] (defScope s_near) := ⟨rfl, rfl, rfl, by decide +kernel, rfl, by decide +kernel, by decide +kernel⟩
theorem ok_near (T : Txt K mg) : Cl P w K mg base 3 "near" 3 xr f_near :=
  cl_of (N := ["ground", "place", "reach", "found", "other"]) (ps := ["ground", "place", "reach"]) (k := 2) T.d_near sc_near rfl rfl (by decide) (fun _ _ F => F.binds fun _ _ _ _ _ _ us hl => match us, hl with | [_, _, _], _ => rfl) (fun f cdv A outer s H E hr => by
    have nd := sc_near.nd
    exact (dss_cons (ds_set 3 nd (de_cl (ok_distances T) (hr.mono (by omega)) px (das_cons (da_e (de_v 0)) (das_cons (da_e (de_v 1)) das_nil)) (aLen_cons (aLen_cons aLen_nil)))) (dss_one (ds_ret (de_fz (df_B (cr_sortD hr.units) pf_sort T.g_sorted (by decide +kernel) (das_cons (da_e (de_fz (df_compD 3 [("other", 4)] rfl rfl nd (blkOk_by (by kernel_rfl)) ⟨gName 4, fun _ _ _ _ _ => pg_name (i := 4) nd rfl (by first | exact Or.inl rfl | exact Or.inr rfl) (by first | exact .inl rfl | exact .inr rfl), tgr_n 4⟩ (by decide) (fun _ _ _ _ _ => (dts_one (dt_cmp (op_leB hr.units) p2_B (da_e (de_getN 3 (Room.u1 hr) (de_v 4))) (da_v 2) (nomark _)))) (fun _ _ _ _ _ => (de_v 4))))) das_nil)))))))
abbrev s_sensed : Stmt := top 7
theorem sc_sensed : FnScope ["field", "node", "ground", "nodes"] ["field", "node"] (defScope s_sensed) := ⟨rfl, rfl, rfl, by decide +kernel, rfl, by decide +kernel, by decide +kernel⟩
theorem ok_sensed (T : Txt K mg) : Cl P w K mg base 4 "sensed" 2 xr f_sensed :=
  cl_of (N := ["field", "node", "ground", "nodes"]) (ps := ["field", "node"]) (k := 3) T.d_sensed sc_sensed rfl rfl (by decide) (fun _ _ F => F.binds fun _ _ _ _ _ _ us hl => match us, hl with | [_, _], _ => rfl) (fun f cdv A outer s H E hr => by
    have nd := sc_sensed.nd
    exact (dss_cons (ds_asg (de_v 0) (tg_t rfl (tgs_cons 2 nd (tgs_cons 3 nd tgs_nil)))) (dss_one (ds_ret (de_T call_tuple_of pn_tuple T.g_tuple (by decide +kernel) (das_cons (da_e (de_cl (ok_near T) (hr.mono (by omega)) px (das_cons (da_e (de_v 2)) (das_cons (da_e (de_ix ix_seq p2_ix (da_e (de_ix ix_seq p2_ix (da_v 3) (da_v 1) (fun _ _ => rfl))) (da_e de_int) (fun _ _ => rfl))) (das_cons (da_e (de_ix ix_seq p2_ix (da_e (de_ix ix_seq p2_ix (da_v 3) (da_v 1) (fun _ _ => rfl))) (da_e de_int) (fun _ _ => rfl))) das_nil))) (aLen_cons (aLen_cons (aLen_cons aLen_nil))))) das_nil))))))
abbrev s_bare_by : Stmt := top 8
theorem sc_bare_by : FnScope ["rows", "places", "awake", "times", "place", "node"] ["rows", "places", "awake", "times"] (defScope s_bare_by) := ⟨rfl, rfl, rfl, by decide +kernel, rfl, by decide +kernel, by decide +kernel⟩
theorem ok_bare_by (T : Txt K mg) : Cl P w K mg base 1 "bare_by" 4 xr f_bare_by :=
  cl_of (N := ["rows", "places", "awake", "times", "place", "node"]) (ps := ["rows", "places", "awake", "times"]) (k := 0) T.d_bare_by sc_bare_by rfl rfl (by decide) (fun _ _ F => F.binds fun _ _ _ _ _ _ us hl => match us, hl with | [_, _, _, _], _ => rfl) (fun f cdv A outer s H E hr => by
    have nd := sc_bare_by.nd
    exact (dss_one (ds_ret (de_fz (df_comp [("place", 4)] rfl rfl nd (di_range1 T.g_range (das_cons (da_v 1) das_nil)) (blkOk_by (by kernel_rfl)) ⟨gName 4, fun _ _ _ _ _ => pg_name (i := 4) nd rfl (by first | exact Or.inl rfl | exact Or.inr rfl) (by first | exact .inl rfl | exact .inr rfl), tgr_n 4⟩ (by decide) (fun _ _ _ _ _ => (dts_one (dt_cmp (op_ltB hr.units) p2_B (da_e (de_B call_len pn_len T.g_len (by decide +kernel) (das_cons (da_e (de_fz (df_comp [("node", 5)] rfl rfl nd (di_seq (de_v 2)) (blkOk_by (by kernel_rfl)) ⟨gName 5, fun _ _ _ _ _ => pg_name (i := 5) nd rfl (by first | exact Or.inl rfl | exact Or.inr rfl) (by first | exact .inl rfl | exact .inr rfl), tgr_n 5⟩ (by decide) (fun _ _ _ _ _ => (dts_one (dt_cmp (op_inB hr.units) p2_B (da_v 4) (da_e (de_ix ix_seq p2_ix (da_v 0) (da_v 5) (fun _ _ => rfl))) (by rfl)))) (fun _ _ _ _ _ => (de_v 5))))) das_nil))) (da_v 3) (nomark _)))) (fun _ _ _ _ _ => (de_v 4)))))))
abbrev s_rows_of : Stmt := top 9
theorem sc_rows_of : FnScope ["field", "node"] ["field"] (defScope s_rows_of) := ⟨rfl, rfl, rfl, by decide +kernel, rfl, by decide +kernel, by decide +kernel⟩
theorem ok_rows_of (T : Txt K mg) : Cl P w K mg base 5 "rows_of" 1 xr f_rows_of :=
  cl_of (N := ["field", "node"]) (ps := ["field"]) (k := 4) T.d_rows_of sc_rows_of rfl rfl (by decide) (fun _ _ F => F.binds fun _ _ _ _ _ _ us hl => match us, hl with | [_], _ => rfl) (fun f cdv A outer s H E hr => by
    have nd := sc_rows_of.nd
    exact (dss_one (ds_ret (de_fz (df_comp [("node", 1)] rfl rfl nd (di_range1 T.g_range (das_cons (da_e (de_B call_len pn_len T.g_len (by decide +kernel) (das_cons (da_e (de_ix ix_seq p2_ix (da_v 0) (da_e de_int) (fun _ _ => rfl))) das_nil))) das_nil)) (blkOk_by (by kernel_rfl)) ⟨gName 1, fun _ _ _ _ _ => pg_name (i := 1) nd rfl (by first | exact Or.inl rfl | exact Or.inr rfl) (by first | exact .inl rfl | exact .inr rfl), tgr_n 1⟩ (by decide) (fun _ _ _ _ _ => dts_nil) (fun _ _ _ _ _ => (de_cl (ok_sensed T) (hr.mono (by omega)) passL (das_cons (da_e (de_v 0)) (das_cons (da_e (de_v 1)) das_nil)) (aLen_cons (aLen_cons aLen_nil)))))))))
abbrev s_without : Stmt := top 10
theorem sc_without : FnScope ["nodes", "node", "other"] ["nodes", "node"] (defScope s_without) := ⟨rfl, rfl, rfl, by decide +kernel, rfl, by decide +kernel, by decide +kernel⟩
theorem ok_without (T : Txt K mg) : Cl P w K mg base 1 "without" 2 xr f_without :=
  cl_of (N := ["nodes", "node", "other"]) (ps := ["nodes", "node"]) (k := 0) T.d_without sc_without rfl rfl (by decide) (fun _ _ F => F.binds fun _ _ _ _ _ _ us hl => match us, hl with | [_, _], _ => rfl) (fun f cdv A outer s H E hr => by
    have nd := sc_without.nd
    exact (dss_one (ds_ret (de_T call_tuple_of pn_tuple T.g_tuple (by decide +kernel) (das_cons (da_e (de_fz (df_comp [("other", 2)] rfl rfl nd (di_seq (de_v 0)) (blkOk_by (by kernel_rfl)) ⟨gName 2, fun _ _ _ _ _ => pg_name (i := 2) nd rfl (by first | exact Or.inl rfl | exact Or.inr rfl) (by first | exact .inl rfl | exact .inr rfl), tgr_n 2⟩ (by decide) (fun _ _ _ _ _ => (dts_one (dt_cmp (op_neB hr.units) p2_B (da_v 2) (da_v 1) (nomark _)))) (fun _ _ _ _ _ => (de_v 2))))) das_nil)))))
abbrev s_least_covers : Stmt := top 11
theorem sc_least_covers : FnScope ["field", "times", "rows", "sets", "good", "awake", "node"] ["field", "times"] (defScope s_least_covers) := ⟨rfl, rfl, rfl, by decide +kernel, rfl, by decide +kernel, by decide +kernel⟩
theorem ok_least_covers (T : Txt K mg) : ClD P w K mg base 6 "least_covers" s_least_covers [("times", .int (1))] ["field", "times"] 2 xr f_least_covers :=
  cld_of (N := ["field", "times", "rows", "sets", "good", "awake", "node"]) (ps := ["field", "times"]) (k := 5) T.d_least_covers sc_least_covers rfl rfl (by decide) (fun f cdv A outer s H E hr => by
    have nd := sc_least_covers.nd
    exact (dss_cons (ds_set 2 nd (de_cl (ok_rows_of T) (hr.mono (by omega)) px (das_cons (da_e (de_v 0)) das_nil) (aLen_cons aLen_nil))) (dss_cons (ds_set 3 nd (de_cl (ok_subsets T) (hr.mono (by omega)) px (das_cons (da_e (de_fz (df_listRg1 rfl T.g_list T.g_range (da_e (de_B call_len pn_len T.g_len (by decide +kernel) (das_cons (da_e (de_ix ix_seq p2_ix (da_v 0) (da_e de_int) (fun _ _ => rfl))) das_nil)))))) das_nil) (aLen_cons aLen_nil))) (dss_cons (ds_set 4 nd (de_fz (df_comp [("awake", 5)] rfl rfl nd (di_seq (de_v 3)) (blkOk_by (by kernel_rfl)) ⟨gName 5, fun _ _ _ _ _ => pg_name (i := 5) nd rfl (by first | exact Or.inl rfl | exact Or.inr rfl) (by first | exact .inl rfl | exact .inr rfl), tgr_n 5⟩ (by decide) (fun _ _ _ _ _ => (dts_one (dt_cmp (op_eqB hr.units) p2_B (da_e (de_B call_len pn_len T.g_len (by decide +kernel) (das_cons (da_e (de_cl (ok_bare_by T) (hr.mono (by omega)) passL (das_cons (da_e (de_v 2)) (das_cons (da_e (de_ix ix_seq p2_ix (da_e (de_ix ix_seq p2_ix (da_v 0) (da_e de_int) (fun _ _ => rfl))) (da_e de_int) (fun _ _ => rfl))) (das_cons (da_e (de_v 5)) (das_cons (da_e (de_v 1)) das_nil)))) (aLen_cons (aLen_cons (aLen_cons (aLen_cons aLen_nil)))))) das_nil))) (da_e de_int) (nomark _)))) (fun _ _ _ _ _ => (de_v 5))))) (dss_one (ds_ret (de_fz (df_comp [("awake", 5)] rfl rfl nd (di_seq (de_v 4)) (blkOk_by (by kernel_rfl)) ⟨gName 5, fun _ _ _ _ _ => pg_name (i := 5) nd rfl (by first | exact Or.inl rfl | exact Or.inr rfl) (by first | exact .inl rfl | exact .inr rfl), tgr_n 5⟩ (by decide) (fun _ _ _ _ _ => (dts_one (dt_val (de_B (cr_all rfl) pn_all T.g_all (by decide +kernel) (das_cons (da_e (de_fz (df_comp [("node", 6)] rfl rfl nd (di_seq (de_v 5)) (blkOk_by (by kernel_rfl)) ⟨gName 6, fun _ _ _ _ _ => pg_name (i := 6) nd rfl (by first | exact Or.inl rfl | exact Or.inr rfl) (by first | exact .inl rfl | exact .inr rfl), tgr_n 6⟩ (by decide) (fun _ _ _ _ _ => dts_nil) (fun _ _ _ _ _ => (de_cmp (op_notInB hr.units) p2_B (da_e (de_cl (ok_without T) (hr.mono (by omega)) passL (das_cons (da_e (de_v 5)) (das_cons (da_e (de_v 6)) das_nil)) (aLen_cons (aLen_cons aLen_nil)))) (da_v 4) (by rfl)))))) das_nil))))) (fun _ _ _ _ _ => (de_v 5))))))))))
abbrev s_law_same : Stmt := top 13
theorem sc_law_same : FnScope ["actual", "due", "k"] ["actual", "due"] (defScope s_law_same) := ⟨rfl, rfl, rfl, by decide +kernel, rfl, by decide +kernel, by decide +kernel⟩
theorem ok_law_same (T : Txt K mg) : ∀ j : Nat, Cl P w K mg base (1 + j) "_law_same" 2 xr (f_law_same j)
  | 0 => cl_no (N := ["actual", "due", "k"]) (ps := ["actual", "due"]) (k := 0) T.d_law_same sc_law_same rfl (fun _ _ F => F.binds fun _ _ _ _ _ _ us hl => match us, hl with | [_, _], _ => rfl)
  | j + 1 => cl_of (N := ["actual", "due", "k"]) (ps := ["actual", "due"]) (k := 1 + j) T.d_law_same sc_law_same rfl rfl (by decide) (fun _ _ F => F.binds fun _ _ _ _ _ _ us hl => match us, hl with | [_, _], _ => rfl) (fun f cdv A outer s H E hr => by
    have nd := (sc_law_same).nd
    have ih := ok_law_same T j
    exact (dss_cons (ds_if (dt_w (dw_or (dt_val (de_isi isi_tuple T.g_isinstance T.g_tuple rfl (da_v 1))) (dw_or1 (dt_val (de_isi isi_list T.g_isinstance T.g_list rfl (da_v 1)))))) (dss_cons (ds_if (dt_w (dw_or (dt_cmp (op_neB hr.units) p2_B (da_e (de_isi isi_tuple T.g_isinstance T.g_tuple rfl (da_v 1))) (da_e (de_isi isi_tuple T.g_isinstance T.g_tuple rfl (da_v 0))) (nomark _)) (dw_or (dt_cmp (op_neB hr.units) p2_B (da_e (de_isi isi_list T.g_isinstance T.g_list rfl (da_v 1))) (da_e (de_isi isi_list T.g_isinstance T.g_list rfl (da_v 0))) (nomark _)) (dw_or1 (dt_cmp (op_neB hr.units) p2_B (da_e (de_B call_len pn_len T.g_len (by decide +kernel) (das_cons (da_v 0) das_nil))) (da_e (de_B call_len pn_len T.g_len (by decide +kernel) (das_cons (da_v 1) das_nil))) (nomark _)))))) (dss_one (ds_ret de_bl)) dss_nil) (dss_one (ds_ret (de_cmp (op_eqB hr.units) p2_B (da_e (de_B call_len pn_len T.g_len (by decide +kernel) (das_cons (da_e (de_fz (df_comp [("k", 2)] rfl rfl nd (di_range1 T.g_range (das_cons (da_e (de_B call_len pn_len T.g_len (by decide +kernel) (das_cons (da_v 1) das_nil))) das_nil)) (blkOk_by (by kernel_rfl)) ⟨gName 2, fun _ _ _ _ _ => pg_name (i := 2) nd rfl (by first | exact Or.inl rfl | exact Or.inr rfl) (by first | exact .inl rfl | exact .inr rfl), tgr_n 2⟩ (by decide) (fun _ _ _ _ _ => (dts_one (dt_not (dt_val (de_cl ih hr passL (das_cons (da_e (de_ix ix_seq p2_ix (da_v 0) (da_v 2) (fun _ _ => rfl))) (das_cons (da_e (de_ix ix_seq p2_ix (da_v 1) (da_v 2) (fun _ _ => rfl))) das_nil)) (aLen_cons (aLen_cons aLen_nil))))))) (fun _ _ _ _ _ => (de_v 2))))) das_nil))) (da_e de_int) (nomark _))))) dss_nil) (dss_cons (ds_if (dt_cmp op_isN p2_is (da_v 1) (da_e de_non) (nomark _)) (dss_one (ds_ret (de_cmp op_isN p2_is (da_v 0) (da_e de_non) (nomark _)))) dss_nil) (dss_cons (ds_if (dt_w (dw_or (dt_val (de_isi isi_bool T.g_isinstance T.g_bool rfl (da_v 1))) (dw_or1 (dt_val (de_isi isi_bool T.g_isinstance T.g_bool rfl (da_v 0)))))) (dss_one (ds_ret (de_and (de_isi isi_bool T.g_isinstance T.g_bool rfl (da_v 1)) (de_and (de_isi isi_bool T.g_isinstance T.g_bool rfl (da_v 0)) (de_one (de_cmp (op_eqB hr.units) p2_B (da_v 0) (da_v 1) (nomark _))))))) dss_nil) (dss_cons (ds_if (dt_val (de_isi isi_int T.g_isinstance T.g_int rfl (da_v 1))) (dss_one (ds_ret (de_and (de_isi isi_int T.g_isinstance T.g_int rfl (da_v 0)) (de_one (de_cmp (op_eqB hr.units) p2_B (da_v 0) (da_v 1) (nomark _)))))) dss_nil) (dss_one (ds_ret (de_and (de_isi isi_str T.g_isinstance T.g_str rfl (da_v 0)) (de_and (de_isi isi_str T.g_isinstance T.g_str rfl (da_v 1)) (de_one (de_cmp (op_eqB hr.units) p2_B (da_v 0) (da_v 1) (nomark _))))))))))))
abbrev s_law_pool : Stmt := top 14
theorem sc_law_pool : FnScope ["script", "salt", "cell"] ["script"] (defScope s_law_pool) := ⟨rfl, rfl, rfl, by decide +kernel, rfl, by decide +kernel, by decide +kernel⟩
theorem ok_law_pool (T : Txt K mg) : Cl P w K mg base 1 "_law_pool" 1 xr f_law_pool :=
  cl_of (N := ["script", "salt", "cell"]) (ps := ["script"]) (k := 0) T.d_law_pool sc_law_pool rfl rfl (by decide) (fun _ _ F => F.binds fun _ _ _ _ _ _ us hl => match us, hl with | [_], _ => rfl) (fun f cdv A outer s H E hr => by
    have nd := sc_law_pool.nd
    exact (dss_cons (ds_set 1 nd de_int) (dss_cons (ds_for po rfl (di_seq (de_sl (da_v 0) do_none (do_some de_int))) (tg_n 2 nd) (dss_one (ds_set 1 nd (de_op op_modN p2_mod (da_e (de_T call_int1 pn_int T.g_int (by decide +kernel) (das_cons (da_e (de_op op_addB p2_add (da_e (de_op op_mul p2_mul (da_v 1) (da_e de_int))) (da_v 2))) das_nil))) (da_e de_int))))) (dss_one (ds_retF (df_lst (dvs_cons (de_fz (df_T call_list_of pf_list T.g_list (by decide +kernel) (das_cons (da_v 0) das_nil))) (dvs_cons de_int (dvs_cons de_int (dvs_cons de_int (dvs_cons (de_v 1) dvs_nil)))))))))))
abbrev s_law_spread : Stmt := top 15
theorem sc_law_spread : FnScope ["cell", "mixed", "total", "k"] ["cell"] (defScope s_law_spread) := ⟨rfl, rfl, rfl, by decide +kernel, rfl, by decide +kernel, by decide +kernel⟩
theorem ok_law_spread (T : Txt K mg) : Cl P w K mg base 1 "_law_spread" 1 xr f_law_spread :=
  cl_of (N := ["cell", "mixed", "total", "k"]) (ps := ["cell"]) (k := 0) T.d_law_spread sc_law_spread rfl rfl (by decide) (fun _ _ F => F.binds fun _ _ _ _ _ _ us hl => match us, hl with | [_], _ => rfl) (fun f cdv A outer s H E hr => by
    have nd := sc_law_spread.nd
    exact (dss_cons (ds_set 1 nd (de_op op_modN p2_mod (da_e (de_T call_int1 pn_int T.g_int (by decide +kernel) (das_cons (da_v 0) das_nil))) (da_e de_int))) (dss_cons (ds_set 2 nd de_int) (dss_cons (ds_for po rfl (di_range1 T.g_range (das_cons (da_e de_int) das_nil)) (tg_n 3 nd) (dss_cons (ds_set 1 nd (de_op op_modN p2_mod (da_e (de_T call_int1 pn_int T.g_int (by decide +kernel) (das_cons (da_e (de_op op_addB p2_add (da_e (de_op op_addB p2_add (da_e (de_op op_mul p2_mul (da_v 1) (da_e de_int))) (da_e de_int))) (da_v 3))) das_nil))) (da_e de_int))) (dss_one (ds_set 2 nd (de_op op_addB p2_add (da_e (de_op op_mul p2_mul (da_v 2) (da_e de_int))) (da_v 1)))))) (dss_one (ds_ret (de_v 2)))))))
abbrev s_law_draw : Stmt := top 16
theorem sc_law_draw : FnScope ["pool", "many", "cell", "mixed", "value"] ["pool", "many"] (defScope s_law_draw) := ⟨rfl, rfl, rfl, by decide +kernel, rfl, by decide +kernel, by decide +kernel⟩
theorem ok_law_draw (T : Txt K mg) : Cl P w K mg base 2 "_law_draw" 2 xr f_law_draw :=
  cl_of (N := ["pool", "many", "cell", "mixed", "value"]) (ps := ["pool", "many"]) (k := 1) T.d_law_draw sc_law_draw rfl rfl (by decide) (fun _ _ F => F.binds fun _ _ _ _ _ _ us hl => match us, hl with | [_, _], _ => rfl) (fun f cdv A outer s H E hr => by
    have nd := sc_law_draw.nd
    exact (dss_cons (ds_if (dt_w (dw_and (dt_cmp (op_leB hr.units) p2_B (da_e (de_ix ix_seq p2_ix (da_v 0) (da_e de_int) (fun _ _ => rfl))) (da_e de_int) (nomark _)) (dw_and1 (dt_cmp (op_ltB hr.units) p2_B (da_e (de_ix ix_seq p2_ix (da_v 0) (da_e de_int) (fun _ _ => rfl))) (da_e (de_B call_len pn_len T.g_len (by decide +kernel) (das_cons (da_e (de_ix ix_seq p2_ix (da_v 0) (da_e de_int) (fun _ _ => rfl))) das_nil))) (nomark _))))) (dss_cons (ds_set 2 nd (de_ix ix_seq p2_ix (da_e (de_ix ix_seq p2_ix (da_v 0) (da_e de_int) (fun _ _ => rfl))) (da_e (de_ix ix_seq p2_ix (da_v 0) (da_e de_int) (fun _ _ => rfl))) (fun _ _ => rfl))) (dss_cons (ds_setix 0 (de_op op_addB p2_add (da_e (de_ix ix_seq p2_ix (da_v 0) (da_e de_int) (fun _ _ => rfl))) (da_e de_int)) de_int) (dss_cons (ds_setix 0 (de_v 2) de_int) (dss_one (ds_if (dt_cmp (op_ltB hr.units) p2_B (da_v 2) (da_e de_int) (nomark _)) (dss_one (ds_setix 0 (de_cl (ok_law_spread T) (hr.mono (by omega)) px (das_cons (da_e (de_v 2)) das_nil) (aLen_cons aLen_nil)) de_int)) dss_nil))))) dss_nil) (dss_cons (ds_setix 0 (de_op op_addB p2_add (da_e (de_ix ix_seq p2_ix (da_v 0) (da_e de_int) (fun _ _ => rfl))) (da_e de_int)) de_int) (dss_cons (ds_if (dt_cmp (op_leB hr.units) p2_B (da_e (de_ix ix_seq p2_ix (da_v 0) (da_e de_int) (fun _ _ => rfl))) (da_e de_int) (nomark _)) (dss_cons (ds_set 3 nd (de_op op_modN p2_mod (da_e (de_T call_int1 pn_int T.g_int (by decide +kernel) (das_cons (da_e (de_op op_addB p2_add (da_e (de_op op_addB p2_add (da_e (de_op op_mul p2_mul (da_e (de_ix ix_seq p2_ix (da_v 0) (da_e de_int) (fun _ _ => rfl))) (da_e de_int))) (da_e (de_op op_mul p2_mul (da_e (de_ix ix_seq p2_ix (da_v 0) (da_e de_int) (fun _ _ => rfl))) (da_e de_int))))) (da_e de_int))) das_nil))) (da_e de_int))) (dss_cons (ds_set 3 nd (de_op op_modN p2_mod (da_e (de_T call_int1 pn_int T.g_int (by decide +kernel) (das_cons (da_e (de_op op_addB p2_add (da_e (de_op op_mul p2_mul (da_v 3) (da_e de_int))) (da_e (de_ix ix_seq p2_ix (da_v 0) (da_e de_int) (fun _ _ => rfl))))) das_nil))) (da_e de_int))) (dss_one (ds_ret (de_op op_modN p2_mod (da_e (de_op op_fdivN p2_fdiv (da_v 3) (da_e de_int))) (da_v 1)))))) dss_nil) (dss_cons (ds_set 4 nd (de_op op_modN p2_mod (da_e (de_T call_int1 pn_int T.g_int (by decide +kernel) (das_cons (da_e (de_ix ix_seq p2_ix (da_v 0) (da_e de_int) (fun _ _ => rfl))) das_nil))) (da_v 1))) (dss_cons (ds_setix 0 (de_op op_fdivN p2_fdiv (da_e (de_ix ix_seq p2_ix (da_v 0) (da_e de_int) (fun _ _ => rfl))) (da_v 1)) de_int) (dss_one (ds_ret (de_v 4)))))))))
abbrev s_law_subsets : Stmt := top 17
theorem sc_law_subsets : FnScope ["items", "found", "item", "row"] ["items"] (defScope s_law_subsets) := ⟨rfl, rfl, rfl, by decide +kernel, rfl, by decide +kernel, by decide +kernel⟩
theorem ok_law_subsets (T : Txt K mg) : Cl P w K mg base 1 "_law_subsets" 1 xr f_law_subsets :=
  cl_of (N := ["items", "found", "item", "row"]) (ps := ["items"]) (k := 0) T.d_law_subsets sc_law_subsets rfl rfl (by decide) (fun _ _ F => F.binds fun _ _ _ _ _ _ us hl => match us, hl with | [_], _ => rfl) (fun f cdv A outer s H E hr => by
    have nd := sc_law_subsets.nd
    exact (dss_cons (ds_set 1 nd (de_fz (df_lst (dvs_cons (de_tup dvs_nil) dvs_nil)))) (dss_cons (ds_for po rfl (di_seq (de_v 0)) (tg_n 2 nd) (dss_one (ds_set 1 nd (de_op op_addB p2_add (da_v 1) (da_e (de_fz (df_comp [("row", 3)] rfl rfl nd (di_seq (de_v 1)) (blkOk_by (by kernel_rfl)) ⟨gName 3, fun _ _ _ _ _ => pg_name (i := 3) nd rfl (by first | exact Or.inl rfl | exact Or.inr rfl) (by first | exact .inl rfl | exact .inr rfl), tgr_n 3⟩ (by decide) (fun _ _ _ _ _ => dts_nil) (fun _ _ _ _ _ => (de_op op_addB p2_add (da_v 3) (da_e (de_tup (dvs_cons (de_v 2) dvs_nil)))))))))))) (dss_one (ds_ret (de_fz (df_B (cr_sortD hr.units) pf_sort T.g_sorted (by decide +kernel) (das_cons (da_v 1) das_nil))))))))
abbrev s_law_ground : Stmt := top 18
theorem sc_law_ground : FnScope ["pool", "most", "places", "turn", "lanes", "a", "b"] ["pool", "most"] (defScope s_law_ground) := ⟨rfl, rfl, rfl, by decide +kernel, rfl, by decide +kernel, by decide +kernel⟩
theorem ok_law_ground (T : Txt K mg) : Cl P w K mg base 3 "_law_ground" 2 xr f_law_ground :=
  cl_of (N := ["pool", "most", "places", "turn", "lanes", "a", "b"]) (ps := ["pool", "most"]) (k := 2) T.d_law_ground sc_law_ground rfl rfl (by decide) (fun _ _ F => F.binds fun _ _ _ _ _ _ us hl => match us, hl with | [_, _], _ => rfl) (fun f cdv A outer s H E hr => by
    have nd := sc_law_ground.nd
    exact (dss_cons (ds_set 2 nd (de_op op_addB p2_add (da_e de_int) (da_e (de_cl (ok_law_draw T) (hr.mono (by omega)) px (das_cons (da_r 0) (das_cons (da_e (de_v 1)) das_nil)) (aLen_cons (aLen_cons aLen_nil)))))) (dss_cons (ds_set 3 nd (de_cl (ok_law_draw T) (hr.mono (by omega)) px (das_cons (da_r 0) (das_cons (da_e de_int) das_nil)) (aLen_cons (aLen_cons aLen_nil)))) (dss_cons (ds_new 4 nd (df_lst dvs_nil)) (dss_cons (ds_for po rfl (di_range1 T.g_range (das_cons (da_v 2) das_nil)) (tg_n 5 nd) (dss_one (ds_for po rfl (di_range2 T.g_range (das_cons (da_e (de_op op_addB p2_add (da_v 5) (da_e de_int))) (das_cons (da_v 2) das_nil))) (tg_n 6 nd) (dss_one (ds_if (dt_w (dw_or (dt_w (dw_and (dt_cmp (op_eqB hr.units) p2_B (da_v 3) (da_e de_int) (nomark _)) (dw_and1 (dt_cmp (op_eqB hr.units) p2_B (da_v 6) (da_e (de_op op_addB p2_add (da_v 5) (da_e de_int))) (nomark _))))) (dw_or (dt_w (dw_and (dt_cmp (op_eqB hr.units) p2_B (da_v 3) (da_e de_int) (nomark _)) (dw_and1 (dt_cmp (op_eqB hr.units) p2_B (da_e (de_cl (ok_law_draw T) (hr.mono (by omega)) px (das_cons (da_r 0) (das_cons (da_e de_int) das_nil)) (aLen_cons (aLen_cons aLen_nil)))) (da_e de_int) (nomark _))))) (dw_or1 (dt_w (dw_and (dt_cmp (op_gtB hr.units) p2_B (da_v 3) (da_e de_int) (nomark _)) (dw_and1 (dt_w (dw_or (dt_cmp (op_eqB hr.units) p2_B (da_v 6) (da_e (de_op op_addB p2_add (da_v 5) (da_e de_int))) (nomark _)) (dw_or1 (dt_cmp (op_eqB hr.units) p2_B (da_e (de_cl (ok_law_draw T) (hr.mono (by omega)) px (das_cons (da_r 0) (das_cons (da_e de_int) das_nil)) (aLen_cons (aLen_cons aLen_nil)))) (da_e de_int) (nomark _)))))))))))) (dss_one (ds_app 4 (pe_bm PySem.F.plainAttrs_list PySem.F.slot_list_append PySem.F.type_list_append mt_append (pv 4) (pa_cons (de_tup (dvs_cons (de_v 5) (dvs_cons (de_v 6) dvs_nil))) pa_nil)))) dss_nil))))) (dss_one (ds_ret (de_tup (dvs_cons (de_v 2) (dvs_cons (de_T call_tuple_of pn_tuple T.g_tuple (by decide +kernel) (das_cons (da_v 4) das_nil)) dvs_nil))))))))))
abbrev s_law_beside : Stmt := top 19
theorem sc_law_beside : FnScope ["ground", "place", "other"] ["ground", "place"] (defScope s_law_beside) := ⟨rfl, rfl, rfl, by decide +kernel, rfl, by decide +kernel, by decide +kernel⟩
theorem ok_law_beside (T : Txt K mg) : Cl P w K mg base 1 "_law_beside" 2 xr f_law_beside :=
  cl_of (N := ["ground", "place", "other"]) (ps := ["ground", "place"]) (k := 0) T.d_law_beside sc_law_beside rfl rfl (by decide) (fun _ _ F => F.binds fun _ _ _ _ _ _ us hl => match us, hl with | [_, _], _ => rfl) (fun f cdv A outer s H E hr => by
    have nd := sc_law_beside.nd
    exact (dss_one (ds_ret (de_fz (df_comp [("other", 2)] rfl rfl nd (di_range1 T.g_range (das_cons (da_e (de_ix ix_seq p2_ix (da_v 0) (da_e de_int) (fun _ _ => rfl))) das_nil)) (blkOk_by (by kernel_rfl)) ⟨gName 2, fun _ _ _ _ _ => pg_name (i := 2) nd rfl (by first | exact Or.inl rfl | exact Or.inr rfl) (by first | exact .inl rfl | exact .inr rfl), tgr_n 2⟩ (by decide) (fun _ _ _ _ _ => (dts_one (dt_cmp (op_inB hr.units) p2_B (da_e (de_tup (dvs_cons (de_B (call_min2 rfl) pn_min2 T.g_min (by decide +kernel) (das_cons (da_v 1) (das_cons (da_v 2) das_nil))) (dvs_cons (de_B (call_max2 rfl) pn_max2 T.g_max (by decide +kernel) (das_cons (da_v 1) (das_cons (da_v 2) das_nil))) dvs_nil)))) (da_e (de_ix ix_seq p2_ix (da_v 0) (da_e de_int) (fun _ _ => rfl))) (by rfl)))) (fun _ _ _ _ _ => (de_v 2)))))))
abbrev s_law_steps : Stmt := top 20
theorem sc_law_steps : FnScope ["ground", "a", "level", "seen", "later", "place", "other"] ["ground", "a"] (defScope s_law_steps) := ⟨rfl, rfl, rfl, by decide +kernel, rfl, by decide +kernel, by decide +kernel⟩
theorem ok_law_steps (T : Txt K mg) : Cl P w K mg base 2 "_law_steps" 2 xr f_law_steps :=
  cl_of (N := ["ground", "a", "level", "seen", "later", "place", "other"]) (ps := ["ground", "a"]) (k := 1) T.d_law_steps sc_law_steps rfl rfl (by decide) (fun _ _ F => F.binds fun _ _ _ _ _ _ us hl => match us, hl with | [_, _], _ => rfl) (fun f cdv A outer s H E hr => by
    have nd := sc_law_steps.nd
    exact (dss_cons (ds_set 2 nd (de_fz (df_lst (dvs_cons (de_v 1) dvs_nil)))) (dss_cons (ds_new 3 nd (df_disp (ppv_cons (de_v 1) de_int ppv_nil) rfl rfl (by simp) (by decide))) (dss_cons (ds_while po (dt_cmp (op_neB hr.units) p2_B (da_v 2) (da_e (de_fz (df_lst dvs_nil))) (nomark _)) (dss_cons (ds_new 4 nd (df_lst dvs_nil)) (dss_cons (ds_for po rfl (di_seq (de_v 2)) (tg_n 5 nd) (dss_one (ds_for po rfl (di_seq (de_cl (ok_law_beside T) (hr.mono (by omega)) px (das_cons (da_e (de_v 0)) (das_cons (da_e (de_v 5)) das_nil)) (aLen_cons (aLen_cons aLen_nil)))) (tg_n 6 nd) (dss_one (ds_if (dt_niN 3 (Room.u1 hr) (de_v 6)) (dss_cons (ds_putN 3 (Room.u1 hr) (de_op op_addB p2_add (da_e (de_getN 3 (Room.u1 hr) (de_v 5))) (da_e de_int)) (de_v 6)) (dss_one (ds_app 4 (pe_bm PySem.F.plainAttrs_list PySem.F.slot_list_append PySem.F.type_list_append mt_append (pv 4) (pa_cons (de_v 6) pa_nil))))) dss_nil))))) (dss_one (ds_set 2 nd (de_v 4)))))) (dss_one (ds_ret (de_fz (df_comp [("place", 5)] rfl rfl nd (di_range1 T.g_range (das_cons (da_e (de_ix ix_seq p2_ix (da_v 0) (da_e de_int) (fun _ _ => rfl))) das_nil)) (blkOk_by (by kernel_rfl)) ⟨gName 5, fun _ _ _ _ _ => pg_name (i := 5) nd rfl (by first | exact Or.inl rfl | exact Or.inr rfl) (by first | exact .inl rfl | exact .inr rfl), tgr_n 5⟩ (by decide) (fun _ _ _ _ _ => dts_nil) (fun _ _ _ _ _ => (de_get1N 3 (Room.u1 hr) (de_v 5) ⟨rfl, rfl, rfl, rfl⟩))))))))))
abbrev s_law_near : Stmt := top 21
theorem sc_law_near : FnScope ["ground", "place", "reach", "row", "other"] ["ground", "place", "reach"] (defScope s_law_near) := ⟨rfl, rfl, rfl, by decide +kernel, rfl, by decide +kernel, by decide +kernel⟩
theorem ok_law_near (T : Txt K mg) : Cl P w K mg base 3 "_law_near" 3 xr f_law_near :=
  cl_of (N := ["ground", "place", "reach", "row", "other"]) (ps := ["ground", "place", "reach"]) (k := 2) T.d_law_near sc_law_near rfl rfl (by decide) (fun _ _ F => F.binds fun _ _ _ _ _ _ us hl => match us, hl with | [_, _, _], _ => rfl) (fun f cdv A outer s H E hr => by
    have nd := sc_law_near.nd
    exact (dss_cons (ds_set 3 nd (de_cl (ok_law_steps T) (hr.mono (by omega)) px (das_cons (da_e (de_v 0)) (das_cons (da_e (de_v 1)) das_nil)) (aLen_cons (aLen_cons aLen_nil)))) (dss_one (ds_ret (de_fz (df_comp [("other", 4)] rfl rfl nd (di_range1 T.g_range (das_cons (da_e (de_ix ix_seq p2_ix (da_v 0) (da_e de_int) (fun _ _ => rfl))) das_nil)) (blkOk_by (by kernel_rfl)) ⟨gName 4, fun _ _ _ _ _ => pg_name (i := 4) nd rfl (by first | exact Or.inl rfl | exact Or.inr rfl) (by first | exact .inl rfl | exact .inr rfl), tgr_n 4⟩ (by decide) (fun _ _ _ _ _ => (dts_one (dt_w (dw_and (dt_cmp op_notN p2_isNot (da_e (de_ix ix_seq p2_ix (da_v 3) (da_v 4) (fun _ _ => rfl))) (da_e de_non) (nomark _)) (dw_and1 (dt_cmp (op_leB hr.units) p2_B (da_e (de_ix ix_seq p2_ix (da_v 3) (da_v 4) (fun _ _ => rfl))) (da_v 2) (nomark _))))))) (fun _ _ _ _ _ => (de_v 4))))))))
abbrev s_law_field : Stmt := top 22
theorem sc_law_field : FnScope ["pool", "most", "nodes", "battery", "ground", "rows", "k"] ["pool", "most", "nodes", "battery"] (defScope s_law_field) := ⟨rfl, rfl, rfl, by decide +kernel, rfl, by decide +kernel, by decide +kernel⟩
theorem ok_law_field (T : Txt K mg) : Cl P w K mg base 4 "_law_field" 4 xr f_law_field :=
  cl_of (N := ["pool", "most", "nodes", "battery", "ground", "rows", "k"]) (ps := ["pool", "most", "nodes", "battery"]) (k := 3) T.d_law_field sc_law_field rfl rfl (by decide) (fun _ _ F => F.binds fun _ _ _ _ _ _ us hl => match us, hl with | [_, _, _, _], _ => rfl) (fun f cdv A outer s H E hr => by
    have nd := sc_law_field.nd
    exact (dss_cons (ds_set 4 nd (de_cl (ok_law_ground T) (hr.mono (by omega)) px (das_cons (da_r 0) (das_cons (da_e (de_v 1)) das_nil)) (aLen_cons (aLen_cons aLen_nil)))) (dss_cons (ds_new 5 nd (df_lst dvs_nil)) (dss_cons (ds_for po rfl (di_range1 T.g_range (das_cons (da_e (de_op op_addB p2_add (da_e de_int) (da_e (de_cl (ok_law_draw T) (hr.mono (by omega)) px (das_cons (da_r 0) (das_cons (da_e (de_v 2)) das_nil)) (aLen_cons (aLen_cons aLen_nil)))))) das_nil)) (tg_n 6 nd) (dss_one (ds_app 5 (pe_bm PySem.F.plainAttrs_list PySem.F.slot_list_append PySem.F.type_list_append mt_append (pv 5) (pa_cons (de_tup (dvs_cons (de_cl (ok_law_draw T) (hr.mono (by omega)) px (das_cons (da_r 0) (das_cons (da_e (de_ix ix_seq p2_ix (da_v 4) (da_e de_int) (fun _ _ => rfl))) das_nil)) (aLen_cons (aLen_cons aLen_nil))) (dvs_cons (de_ix ix_seq p2_ix (da_e (de_tup (dvs_cons de_int (dvs_cons de_int (dvs_cons de_int (dvs_cons de_int (dvs_cons (de_cl (ok_law_draw T) (hr.mono (by omega)) px (das_cons (da_r 0) (das_cons (da_e de_int) das_nil)) (aLen_cons (aLen_cons aLen_nil))) dvs_nil))))))) (da_e (de_cl (ok_law_draw T) (hr.mono (by omega)) px (das_cons (da_r 0) (das_cons (da_e de_int) das_nil)) (aLen_cons (aLen_cons aLen_nil)))) (fun _ _ => rfl)) (dvs_cons (de_cl (ok_law_draw T) (hr.mono (by omega)) px (das_cons (da_r 0) (das_cons (da_e (de_op op_addB p2_add (da_v 3) (da_e de_int))) das_nil)) (aLen_cons (aLen_cons aLen_nil))) dvs_nil)))) pa_nil))))) (dss_one (ds_ret (de_tup (dvs_cons (de_v 4) (dvs_cons (de_T call_tuple_of pn_tuple T.g_tuple (by decide +kernel) (das_cons (da_v 5) das_nil)) dvs_nil)))))))))
abbrev s_law_sensed : Stmt := top 23
theorem sc_law_sensed : FnScope ["field", "node"] ["field", "node"] (defScope s_law_sensed) := ⟨rfl, rfl, rfl, by decide +kernel, rfl, by decide +kernel, by decide +kernel⟩
theorem ok_law_sensed (T : Txt K mg) : Cl P w K mg base 4 "_law_sensed" 2 xr f_law_sensed :=
  cl_of (N := ["field", "node"]) (ps := ["field", "node"]) (k := 3) T.d_law_sensed sc_law_sensed rfl rfl (by decide) (fun _ _ F => F.binds fun _ _ _ _ _ _ us hl => match us, hl with | [_, _], _ => rfl) (fun f cdv A outer s H E hr => by
    have nd := sc_law_sensed.nd
    exact (dss_one (ds_ret (de_T call_tuple_of pn_tuple T.g_tuple (by decide +kernel) (das_cons (da_e (de_cl (ok_law_near T) (hr.mono (by omega)) px (das_cons (da_e (de_ix ix_seq p2_ix (da_v 0) (da_e de_int) (fun _ _ => rfl))) (das_cons (da_e (de_ix ix_seq p2_ix (da_e (de_ix ix_seq p2_ix (da_e (de_ix ix_seq p2_ix (da_v 0) (da_e de_int) (fun _ _ => rfl))) (da_v 1) (fun _ _ => rfl))) (da_e de_int) (fun _ _ => rfl))) (das_cons (da_e (de_ix ix_seq p2_ix (da_e (de_ix ix_seq p2_ix (da_e (de_ix ix_seq p2_ix (da_v 0) (da_e de_int) (fun _ _ => rfl))) (da_v 1) (fun _ _ => rfl))) (da_e de_int) (fun _ _ => rfl))) das_nil))) (aLen_cons (aLen_cons (aLen_cons aLen_nil))))) das_nil)))))
abbrev s_law_least_covers : Stmt := top 25
theorem sc_law_least_covers : FnScope ["field", "times", "rows", "node", "good", "awake", "p", "k", "row", "j"] ["field", "times"] (defScope s_law_least_covers) := ⟨rfl, rfl, rfl, by decide +kernel, rfl, by decide +kernel, by decide +kernel⟩
theorem ok_law_least_covers (T : Txt K mg) : Cl P w K mg base 5 "_law_least_covers" 2 xr f_law_least_covers :=
  cl_of (N := ["field", "times", "rows", "node", "good", "awake", "p", "k", "row", "j"]) (ps := ["field", "times"]) (k := 4) T.d_law_least_covers sc_law_least_covers rfl rfl (by decide) (fun _ _ F => F.binds fun _ _ _ _ _ _ us hl => match us, hl with | [_, _], _ => rfl) (fun f cdv A outer s H E hr => by
    have nd := sc_law_least_covers.nd
    exact (dss_cons (ds_set 2 nd (de_fz (df_comp [("node", 3)] rfl rfl nd (di_range1 T.g_range (das_cons (da_e (de_B call_len pn_len T.g_len (by decide +kernel) (das_cons (da_e (de_ix ix_seq p2_ix (da_v 0) (da_e de_int) (fun _ _ => rfl))) das_nil))) das_nil)) (blkOk_by (by kernel_rfl)) ⟨gName 3, fun _ _ _ _ _ => pg_name (i := 3) nd rfl (by first | exact Or.inl rfl | exact Or.inr rfl) (by first | exact .inl rfl | exact .inr rfl), tgr_n 3⟩ (by decide) (fun _ _ _ _ _ => dts_nil) (fun _ _ _ _ _ => (de_cl (ok_law_sensed T) (hr.mono (by omega)) passL (das_cons (da_e (de_v 0)) (das_cons (da_e (de_v 3)) das_nil)) (aLen_cons (aLen_cons aLen_nil))))))) (dss_cons (ds_new 4 nd (df_lst dvs_nil)) (dss_cons (ds_for po rfl (di_seq (de_cl (ok_law_subsets T) (hr.mono (by omega)) px (das_cons (da_e (de_fz (df_listRg1 rfl T.g_list T.g_range (da_e (de_B call_len pn_len T.g_len (by decide +kernel) (das_cons (da_e (de_ix ix_seq p2_ix (da_v 0) (da_e de_int) (fun _ _ => rfl))) das_nil)))))) das_nil) (aLen_cons aLen_nil))) (tg_n 5 nd) (dss_one (ds_if (dt_cmp (op_eqB hr.units) p2_B (da_e (de_B call_len pn_len T.g_len (by decide +kernel) (das_cons (da_e (de_fz (df_comp [("p", 6)] rfl rfl nd (di_range1 T.g_range (das_cons (da_e (de_ix ix_seq p2_ix (da_e (de_ix ix_seq p2_ix (da_v 0) (da_e de_int) (fun _ _ => rfl))) (da_e de_int) (fun _ _ => rfl))) das_nil)) (blkOk_by (by kernel_rfl)) ⟨gName 6, fun _ _ _ _ _ => pg_name (i := 6) nd rfl (by first | exact Or.inl rfl | exact Or.inr rfl) (by first | exact .inl rfl | exact .inr rfl), tgr_n 6⟩ (by decide) (fun _ _ _ _ _ => (dts_one (dt_cmp (op_ltB hr.units) p2_B (da_e (de_B call_len pn_len T.g_len (by decide +kernel) (das_cons (da_e (de_fz (df_comp [("k", 7)] rfl rfl nd (di_seq (de_v 5)) (blkOk_by (by kernel_rfl)) ⟨gName 7, fun _ _ _ _ _ => pg_name (i := 7) nd rfl (by first | exact Or.inl rfl | exact Or.inr rfl) (by first | exact .inl rfl | exact .inr rfl), tgr_n 7⟩ (by decide) (fun _ _ _ _ _ => (dts_one (dt_cmp (op_inB hr.units) p2_B (da_v 6) (da_e (de_ix ix_seq p2_ix (da_v 2) (da_v 7) (fun _ _ => rfl))) (by rfl)))) (fun _ _ _ _ _ => (de_v 7))))) das_nil))) (da_v 1) (nomark _)))) (fun _ _ _ _ _ => (de_v 6))))) das_nil))) (da_e de_int) (nomark _)) (dss_one (ds_app 4 (pe_bm PySem.F.plainAttrs_list PySem.F.slot_list_append PySem.F.type_list_append mt_append (pv 4) (pa_cons (de_v 5) pa_nil)))) dss_nil))) (dss_one (ds_ret (de_fz (df_comp [("row", 8)] rfl rfl nd (di_seq (de_v 4)) (blkOk_by (by kernel_rfl)) ⟨gName 8, fun _ _ _ _ _ => pg_name (i := 8) nd rfl (by first | exact Or.inl rfl | exact Or.inr rfl) (by first | exact .inl rfl | exact .inr rfl), tgr_n 8⟩ (by decide) (fun _ _ _ _ _ => (dts_one (dt_cmp (op_eqB hr.units) p2_B (da_e (de_B call_len pn_len T.g_len (by decide +kernel) (das_cons (da_e (de_fz (df_comp [("k", 7)] rfl rfl nd (di_seq (de_v 8)) (blkOk_by (by kernel_rfl)) ⟨gName 7, fun _ _ _ _ _ => pg_name (i := 7) nd rfl (by first | exact Or.inl rfl | exact Or.inr rfl) (by first | exact .inl rfl | exact .inr rfl), tgr_n 7⟩ (by decide) (fun _ _ _ _ _ => (dts_one (dt_cmp (op_inB hr.units) p2_B (da_e (de_T call_tuple_of pn_tuple T.g_tuple (by decide +kernel) (das_cons (da_e (de_fz (df_comp [("j", 9)] rfl rfl nd (di_seq (de_v 8)) (blkOk_by (by kernel_rfl)) ⟨gName 9, fun _ _ _ _ _ => pg_name (i := 9) nd rfl (by first | exact Or.inl rfl | exact Or.inr rfl) (by first | exact .inl rfl | exact .inr rfl), tgr_n 9⟩ (by decide) (fun _ _ _ _ _ => (dts_one (dt_cmp (op_neB hr.units) p2_B (da_v 9) (da_v 7) (nomark _)))) (fun _ _ _ _ _ => (de_v 9))))) das_nil))) (da_v 4) (by rfl)))) (fun _ _ _ _ _ => (de_v 7))))) das_nil))) (da_e de_int) (nomark _)))) (fun _ _ _ _ _ => (de_v 8))))))))))
abbrev s_law : Stmt := top 26
theorem sc_law : FnScope ["script", "pool", "field", "times"] ["script"] (defScope s_law) := ⟨rfl, rfl, rfl, by decide +kernel, rfl, by decide +kernel, by decide +kernel⟩
theorem ok_law (T : Txt K mg) {f : Addr} {fd : FuncData} (F : Fun K "law" "law" s_law f fd) : FnOk P w K mg base (L2.CX P w) 14 f fd ["script"] (SpOf K xr 1 f_law_k07) :=
  def_ok F sc_law rfl rfl (by decide) (fun cdv A outer s H E hr => by
    have nd := sc_law.nd
    exact (dss_cons (ds_new 1 nd (df_cl (ok_law_pool T) (hr.mono (by omega)) px (das_cons (da_e (de_v 0)) das_nil) (aLen_cons aLen_nil))) (dss_cons (ds_set 2 nd (de_cl (ok_law_field T) (hr.mono (by omega)) px (das_cons (da_r 1) (das_cons (da_e de_int) (das_cons (da_e de_int) (das_cons (da_e de_int) das_nil)))) (aLen_cons (aLen_cons (aLen_cons (aLen_cons aLen_nil)))))) (dss_cons (ds_if (dt_cmp (op_eqB hr.units) p2_B (da_e (de_cl (ok_law_draw T) (hr.mono (by omega)) px (das_cons (da_r 1) (das_cons (da_e de_int) das_nil)) (aLen_cons (aLen_cons aLen_nil)))) (da_e de_int) (nomark _)) (dss_one (ds_set 2 nd (de_tup (dvs_cons (de_ix ix_seq p2_ix (da_v 2) (da_e de_int) (fun _ _ => rfl)) (dvs_cons (de_op op_addB p2_add (da_e (de_ix ix_seq p2_ix (da_v 2) (da_e de_int) (fun _ _ => rfl))) (da_e (de_op op_repT1 p2_mulTC (da_e (de_tup (dvs_cons (de_tup (dvs_cons de_int (dvs_cons de_int (dvs_cons de_int dvs_nil)))) dvs_nil))) (da_e (de_T call_int1 pn_int T.g_int (by decide +kernel) (das_cons (da_e (de_cmp (op_ltB hr.units) p2_B (da_e (de_B call_len pn_len T.g_len (by decide +kernel) (das_cons (da_e (de_ix ix_seq p2_ix (da_v 2) (da_e de_int) (fun _ _ => rfl))) das_nil))) (da_e de_int) (nomark _))) das_nil)))))) dvs_nil))))) dss_nil) (dss_cons (ds_for po rfl (di_seq (de_tup (dvs_cons de_int (dvs_cons de_int (dvs_cons de_int dvs_nil))))) (tg_n 3 nd) (dss_one (ds_if (dt_not (dt_val (de_cl (ok_law_same T 12) (hr.mono (by omega)) px (das_cons (da_e (de_clK (ks := ["times"]) (ok_least_covers T) (hr.mono (by omega)) px [] repc_nil (by simp) (by simp) (fun _ _ _ _ _ _ us mv ws h1 h2 h3 => match us, mv, ws, h1, h2, h3 with | [_], [], [_], _, _, _ => rfl) (das_cons (da_e (de_v 2)) das_nil) (dks_cons (da_e (de_v 3)) dks_nil) (aLen_cons aLen_nil) (aLen_cons aLen_nil) (aLen_def (aLen_app (aLen_cons aLen_nil) (aLen_cons aLen_nil)) rfl))) (das_cons (da_e (de_cl (ok_law_least_covers T) (hr.mono (by omega)) px (das_cons (da_e (de_v 2)) (das_cons (da_e (de_v 3)) das_nil)) (aLen_cons (aLen_cons aLen_nil)))) das_nil)) (aLen_cons (aLen_cons aLen_nil))))) (dss_one (ds_ret de_bl)) dss_nil))) (dss_one (ds_ret (de_cl (ok_law_same T 12) (hr.mono (by omega)) px (das_cons (da_e (de_clD (ok_least_covers T) (hr.mono (by omega)) px (repc_int repc_nil) (by simp) rfl (fun _ _ _ _ _ _ us ks h1 h2 => match us, ks, h1, h2 with | [_], [_], _, _ => ⟨_, _, _, _, _, _, rfl, rfl, rfl⟩) (das_cons (da_e (de_v 2)) das_nil) (aLen_def (aLen_cons aLen_nil) rfl))) (das_cons (da_e (de_cl (ok_law_least_covers T) (hr.mono (by omega)) px (das_cons (da_e (de_v 2)) (das_cons (da_e de_int) das_nil)) (aLen_cons (aLen_cons aLen_nil)))) das_nil)) (aLen_cons (aLen_cons aLen_nil))))))))))
end
theorem txt_mk {K : PySem.W.Frag} {h : Heap} {mg : Str → Option Value} (X : K.In h) (G : h.Ns mainGlobals mg) (z_all : PySem.W.nsIn K mainGlobals "all" = some none)
    (z_bool : PySem.W.nsIn K mainGlobals "bool" = some none)
    (z_int : PySem.W.nsIn K mainGlobals "int" = some none)
    (z_isinstance : PySem.W.nsIn K mainGlobals "isinstance" = some none)
    (z_len : PySem.W.nsIn K mainGlobals "len" = some none)
    (z_list : PySem.W.nsIn K mainGlobals "list" = some none)
    (z_max : PySem.W.nsIn K mainGlobals "max" = some none)
    (z_min : PySem.W.nsIn K mainGlobals "min" = some none)
    (z_range : PySem.W.nsIn K mainGlobals "range" = some none)
    (z_sorted : PySem.W.nsIn K mainGlobals "sorted" = some none)
    (z_str : PySem.W.nsIn K mainGlobals "str" = some none)
    (z_tuple : PySem.W.nsIn K mainGlobals "tuple" = some none)
    {f0 : Addr} {oc0 kV0 dc0 pm0 cd0 ct0 : Value} {od0 an0 : Option Addr} {sl0 : Array (Option Value)} (a0 : PySem.W.nsIn K mainGlobals "subsets" = some (some (.ref f0))) (l0 : K.lookup f0 = some ⟨oc0, od0, .func (PySem.W.fnOf "subsets" "subsets" (defArgs (top 1)) (defBody (top 1)) (defScope (top 1)) .none kV0 dc0 pm0 an0 cd0 ct0), sl0⟩) (c0 : PySem.W.codeIn K cd0 "subsets" = true) (k0 : PySem.W.keepIn K (.ref f0) = true)
    {f1 : Addr} {oc1 kV1 dc1 pm1 cd1 ct1 : Value} {od1 an1 : Option Addr} {sl1 : Array (Option Value)} (a1 : PySem.W.nsIn K mainGlobals "beside" = some (some (.ref f1))) (l1 : K.lookup f1 = some ⟨oc1, od1, .func (PySem.W.fnOf "beside" "beside" (defArgs (top 3)) (defBody (top 3)) (defScope (top 3)) .none kV1 dc1 pm1 an1 cd1 ct1), sl1⟩) (c1 : PySem.W.codeIn K cd1 "beside" = true) (k1 : PySem.W.keepIn K (.ref f1) = true)
    {f2 : Addr} {oc2 kV2 dc2 pm2 cd2 ct2 : Value} {od2 an2 : Option Addr} {sl2 : Array (Option Value)} (a2 : PySem.W.nsIn K mainGlobals "distances" = some (some (.ref f2))) (l2 : K.lookup f2 = some ⟨oc2, od2, .func (PySem.W.fnOf "distances" "distances" (defArgs (top 4)) (defBody (top 4)) (defScope (top 4)) .none kV2 dc2 pm2 an2 cd2 ct2), sl2⟩) (c2 : PySem.W.codeIn K cd2 "distances" = true) (k2 : PySem.W.keepIn K (.ref f2) = true)
    {f3 : Addr} {oc3 kV3 dc3 pm3 cd3 ct3 : Value} {od3 an3 : Option Addr} {sl3 : Array (Option Value)} (a3 : PySem.W.nsIn K mainGlobals "near" = some (some (.ref f3))) (l3 : K.lookup f3 = some ⟨oc3, od3, .func (PySem.W.fnOf "near" "near" (defArgs (top 5)) (defBody (top 5)) (defScope (top 5)) .none kV3 dc3 pm3 an3 cd3 ct3), sl3⟩) (c3 : PySem.W.codeIn K cd3 "near" = true) (k3 : PySem.W.keepIn K (.ref f3) = true)
    {f4 : Addr} {oc4 kV4 dc4 pm4 cd4 ct4 : Value} {od4 an4 : Option Addr} {sl4 : Array (Option Value)} (a4 : PySem.W.nsIn K mainGlobals "sensed" = some (some (.ref f4))) (l4 : K.lookup f4 = some ⟨oc4, od4, .func (PySem.W.fnOf "sensed" "sensed" (defArgs (top 7)) (defBody (top 7)) (defScope (top 7)) .none kV4 dc4 pm4 an4 cd4 ct4), sl4⟩) (c4 : PySem.W.codeIn K cd4 "sensed" = true) (k4 : PySem.W.keepIn K (.ref f4) = true)
    {f5 : Addr} {oc5 kV5 dc5 pm5 cd5 ct5 : Value} {od5 an5 : Option Addr} {sl5 : Array (Option Value)} (a5 : PySem.W.nsIn K mainGlobals "bare_by" = some (some (.ref f5))) (l5 : K.lookup f5 = some ⟨oc5, od5, .func (PySem.W.fnOf "bare_by" "bare_by" (defArgs (top 8)) (defBody (top 8)) (defScope (top 8)) .none kV5 dc5 pm5 an5 cd5 ct5), sl5⟩) (c5 : PySem.W.codeIn K cd5 "bare_by" = true) (k5 : PySem.W.keepIn K (.ref f5) = true)
    {f6 : Addr} {oc6 kV6 dc6 pm6 cd6 ct6 : Value} {od6 an6 : Option Addr} {sl6 : Array (Option Value)} (a6 : PySem.W.nsIn K mainGlobals "rows_of" = some (some (.ref f6))) (l6 : K.lookup f6 = some ⟨oc6, od6, .func (PySem.W.fnOf "rows_of" "rows_of" (defArgs (top 9)) (defBody (top 9)) (defScope (top 9)) .none kV6 dc6 pm6 an6 cd6 ct6), sl6⟩) (c6 : PySem.W.codeIn K cd6 "rows_of" = true) (k6 : PySem.W.keepIn K (.ref f6) = true)
    {f7 : Addr} {oc7 kV7 dc7 pm7 cd7 ct7 : Value} {od7 an7 : Option Addr} {sl7 : Array (Option Value)} (a7 : PySem.W.nsIn K mainGlobals "without" = some (some (.ref f7))) (l7 : K.lookup f7 = some ⟨oc7, od7, .func (PySem.W.fnOf "without" "without" (defArgs (top 10)) (defBody (top 10)) (defScope (top 10)) .none kV7 dc7 pm7 an7 cd7 ct7), sl7⟩) (c7 : PySem.W.codeIn K cd7 "without" = true) (k7 : PySem.W.keepIn K (.ref f7) = true)
    {D8 : Addr} {f8 : Addr} {oc8 dc8 pm8 cd8 ct8 : Value} {od8 an8 : Option Addr} {sl8 : Array (Option Value)} (a8 : PySem.W.nsIn K mainGlobals "least_covers" = some (some (.ref f8))) (l8 : K.lookup f8 = some ⟨oc8, od8, .func (PySem.W.fnOf "least_covers" "least_covers" (defArgs (top 11)) (defBody (top 11)) (defScope (top 11)) .none (.ref D8) dc8 pm8 an8 cd8 ct8), sl8⟩) (c8 : PySem.W.codeIn K cd8 "least_covers" = true) (k8 : PySem.W.keepIn K (.ref f8) = true)
    {t8_0 : Tok} (w8_0 : PySem.W.nsIn K D8 "times" = some (some (.int (1) t8_0)))
    {f9 : Addr} {oc9 kV9 dc9 pm9 cd9 ct9 : Value} {od9 an9 : Option Addr} {sl9 : Array (Option Value)} (a9 : PySem.W.nsIn K mainGlobals "_law_same" = some (some (.ref f9))) (l9 : K.lookup f9 = some ⟨oc9, od9, .func (PySem.W.fnOf "_law_same" "_law_same" (defArgs (top 13)) (defBody (top 13)) (defScope (top 13)) .none kV9 dc9 pm9 an9 cd9 ct9), sl9⟩) (c9 : PySem.W.codeIn K cd9 "_law_same" = true) (k9 : PySem.W.keepIn K (.ref f9) = true)
    {f10 : Addr} {oc10 kV10 dc10 pm10 cd10 ct10 : Value} {od10 an10 : Option Addr} {sl10 : Array (Option Value)} (a10 : PySem.W.nsIn K mainGlobals "_law_pool" = some (some (.ref f10))) (l10 : K.lookup f10 = some ⟨oc10, od10, .func (PySem.W.fnOf "_law_pool" "_law_pool" (defArgs (top 14)) (defBody (top 14)) (defScope (top 14)) .none kV10 dc10 pm10 an10 cd10 ct10), sl10⟩) (c10 : PySem.W.codeIn K cd10 "_law_pool" = true) (k10 : PySem.W.keepIn K (.ref f10) = true)
    {f11 : Addr} {oc11 kV11 dc11 pm11 cd11 ct11 : Value} {od11 an11 : Option Addr} {sl11 : Array (Option Value)} (a11 : PySem.W.nsIn K mainGlobals "_law_spread" = some (some (.ref f11))) (l11 : K.lookup f11 = some ⟨oc11, od11, .func (PySem.W.fnOf "_law_spread" "_law_spread" (defArgs (top 15)) (defBody (top 15)) (defScope (top 15)) .none kV11 dc11 pm11 an11 cd11 ct11), sl11⟩) (c11 : PySem.W.codeIn K cd11 "_law_spread" = true) (k11 : PySem.W.keepIn K (.ref f11) = true)
    {f12 : Addr} {oc12 kV12 dc12 pm12 cd12 ct12 : Value} {od12 an12 : Option Addr} {sl12 : Array (Option Value)} (a12 : PySem.W.nsIn K mainGlobals "_law_draw" = some (some (.ref f12))) (l12 : K.lookup f12 = some ⟨oc12, od12, .func (PySem.W.fnOf "_law_draw" "_law_draw" (defArgs (top 16)) (defBody (top 16)) (defScope (top 16)) .none kV12 dc12 pm12 an12 cd12 ct12), sl12⟩) (c12 : PySem.W.codeIn K cd12 "_law_draw" = true) (k12 : PySem.W.keepIn K (.ref f12) = true)
    {f13 : Addr} {oc13 kV13 dc13 pm13 cd13 ct13 : Value} {od13 an13 : Option Addr} {sl13 : Array (Option Value)} (a13 : PySem.W.nsIn K mainGlobals "_law_subsets" = some (some (.ref f13))) (l13 : K.lookup f13 = some ⟨oc13, od13, .func (PySem.W.fnOf "_law_subsets" "_law_subsets" (defArgs (top 17)) (defBody (top 17)) (defScope (top 17)) .none kV13 dc13 pm13 an13 cd13 ct13), sl13⟩) (c13 : PySem.W.codeIn K cd13 "_law_subsets" = true) (k13 : PySem.W.keepIn K (.ref f13) = true)
    {f14 : Addr} {oc14 kV14 dc14 pm14 cd14 ct14 : Value} {od14 an14 : Option Addr} {sl14 : Array (Option Value)} (a14 : PySem.W.nsIn K mainGlobals "_law_ground" = some (some (.ref f14))) (l14 : K.lookup f14 = some ⟨oc14, od14, .func (PySem.W.fnOf "_law_ground" "_law_ground" (defArgs (top 18)) (defBody (top 18)) (defScope (top 18)) .none kV14 dc14 pm14 an14 cd14 ct14), sl14⟩) (c14 : PySem.W.codeIn K cd14 "_law_ground" = true) (k14 : PySem.W.keepIn K (.ref f14) = true)
    {f15 : Addr} {oc15 kV15 dc15 pm15 cd15 ct15 : Value} {od15 an15 : Option Addr} {sl15 : Array (Option Value)} (a15 : PySem.W.nsIn K mainGlobals "_law_beside" = some (some (.ref f15))) (l15 : K.lookup f15 = some ⟨oc15, od15, .func (PySem.W.fnOf "_law_beside" "_law_beside" (defArgs (top 19)) (defBody (top 19)) (defScope (top 19)) .none kV15 dc15 pm15 an15 cd15 ct15), sl15⟩) (c15 : PySem.W.codeIn K cd15 "_law_beside" = true) (k15 : PySem.W.keepIn K (.ref f15) = true)
    {f16 : Addr} {oc16 kV16 dc16 pm16 cd16 ct16 : Value} {od16 an16 : Option Addr} {sl16 : Array (Option Value)} (a16 : PySem.W.nsIn K mainGlobals "_law_steps" = some (some (.ref f16))) (l16 : K.lookup f16 = some ⟨oc16, od16, .func (PySem.W.fnOf "_law_steps" "_law_steps" (defArgs (top 20)) (defBody (top 20)) (defScope (top 20)) .none kV16 dc16 pm16 an16 cd16 ct16), sl16⟩) (c16 : PySem.W.codeIn K cd16 "_law_steps" = true) (k16 : PySem.W.keepIn K (.ref f16) = true)
    {f17 : Addr} {oc17 kV17 dc17 pm17 cd17 ct17 : Value} {od17 an17 : Option Addr} {sl17 : Array (Option Value)} (a17 : PySem.W.nsIn K mainGlobals "_law_near" = some (some (.ref f17))) (l17 : K.lookup f17 = some ⟨oc17, od17, .func (PySem.W.fnOf "_law_near" "_law_near" (defArgs (top 21)) (defBody (top 21)) (defScope (top 21)) .none kV17 dc17 pm17 an17 cd17 ct17), sl17⟩) (c17 : PySem.W.codeIn K cd17 "_law_near" = true) (k17 : PySem.W.keepIn K (.ref f17) = true)
    {f18 : Addr} {oc18 kV18 dc18 pm18 cd18 ct18 : Value} {od18 an18 : Option Addr} {sl18 : Array (Option Value)} (a18 : PySem.W.nsIn K mainGlobals "_law_field" = some (some (.ref f18))) (l18 : K.lookup f18 = some ⟨oc18, od18, .func (PySem.W.fnOf "_law_field" "_law_field" (defArgs (top 22)) (defBody (top 22)) (defScope (top 22)) .none kV18 dc18 pm18 an18 cd18 ct18), sl18⟩) (c18 : PySem.W.codeIn K cd18 "_law_field" = true) (k18 : PySem.W.keepIn K (.ref f18) = true)
    {f19 : Addr} {oc19 kV19 dc19 pm19 cd19 ct19 : Value} {od19 an19 : Option Addr} {sl19 : Array (Option Value)} (a19 : PySem.W.nsIn K mainGlobals "_law_sensed" = some (some (.ref f19))) (l19 : K.lookup f19 = some ⟨oc19, od19, .func (PySem.W.fnOf "_law_sensed" "_law_sensed" (defArgs (top 23)) (defBody (top 23)) (defScope (top 23)) .none kV19 dc19 pm19 an19 cd19 ct19), sl19⟩) (c19 : PySem.W.codeIn K cd19 "_law_sensed" = true) (k19 : PySem.W.keepIn K (.ref f19) = true)
    {f20 : Addr} {oc20 kV20 dc20 pm20 cd20 ct20 : Value} {od20 an20 : Option Addr} {sl20 : Array (Option Value)} (a20 : PySem.W.nsIn K mainGlobals "_law_least_covers" = some (some (.ref f20))) (l20 : K.lookup f20 = some ⟨oc20, od20, .func (PySem.W.fnOf "_law_least_covers" "_law_least_covers" (defArgs (top 25)) (defBody (top 25)) (defScope (top 25)) .none kV20 dc20 pm20 an20 cd20 ct20), sl20⟩) (c20 : PySem.W.codeIn K cd20 "_law_least_covers" = true) (k20 : PySem.W.keepIn K (.ref f20) = true)
    {f21 : Addr} {oc21 kV21 dc21 pm21 cd21 ct21 : Value} {od21 an21 : Option Addr} {sl21 : Array (Option Value)} (a21 : PySem.W.nsIn K mainGlobals "law" = some (some (.ref f21))) (l21 : K.lookup f21 = some ⟨oc21, od21, .func (PySem.W.fnOf "law" "law" (defArgs (top 26)) (defBody (top 26)) (defScope (top 26)) .none kV21 dc21 pm21 an21 cd21 ct21), sl21⟩) (c21 : PySem.W.codeIn K cd21 "law" = true) (k21 : PySem.W.keepIn K (.ref f21) = true) : Txt K mg :=
  { g_all := PySem.W.mg_none_of X G z_all,
    g_bool := PySem.W.mg_none_of X G z_bool,
    g_int := PySem.W.mg_none_of X G z_int,
    g_isinstance := PySem.W.mg_none_of X G z_isinstance,
    g_len := PySem.W.mg_none_of X G z_len,
    g_list := PySem.W.mg_none_of X G z_list,
    g_max := PySem.W.mg_none_of X G z_max,
    g_min := PySem.W.mg_none_of X G z_min,
    g_range := PySem.W.mg_none_of X G z_range,
    g_sorted := PySem.W.mg_none_of X G z_sorted,
    g_str := PySem.W.mg_none_of X G z_str,
    g_tuple := PySem.W.mg_none_of X G z_tuple,
    d_subsets := df_mk X G a0 l0 c0 k0,
    d_beside := df_mk X G a1 l1 c1 k1,
    d_distances := df_mk X G a2 l2 c2 k2,
    d_near := df_mk X G a3 l3 c3 k3,
    d_sensed := df_mk X G a4 l4 c4 k4,
    d_bare_by := df_mk X G a5 l5 c5 k5,
    d_rows_of := df_mk X G a6 l6 c6 k6,
    d_without := df_mk X G a7 l7 c7 k7,
    d_least_covers := dfk_mk X G a8 l8 c8 k8 (kwd_one w8_0 ⟨_, rfl⟩),
    d_law_same := df_mk X G a9 l9 c9 k9,
    d_law_pool := df_mk X G a10 l10 c10 k10,
    d_law_spread := df_mk X G a11 l11 c11 k11,
    d_law_draw := df_mk X G a12 l12 c12 k12,
    d_law_subsets := df_mk X G a13 l13 c13 k13,
    d_law_ground := df_mk X G a14 l14 c14 k14,
    d_law_beside := df_mk X G a15 l15 c15 k15,
    d_law_steps := df_mk X G a16 l16 c16 k16,
    d_law_near := df_mk X G a17 l17 c17 k17,
    d_law_field := df_mk X G a18 l18 c18 k18,
    d_law_sensed := df_mk X G a19 l19 c19 k19,
    d_law_least_covers := df_mk X G a20 l20 c20 k20,
    d_law := df_mk X G a21 l21 c21 k21 }
end Wk07
open PySem PySem.W PyProof.Rows
set_option maxRecDepth 100000 in
set_option maxHeartbeats 0 in
theorem PySem.Challenge.cw_fieldtold_k07_least_covers_listed_holds : PySem.Challenge.rw_fieldtold_k07_least_covers_listed.Holds := by
  w_on; o_law; k_head; (case hw => w_witness2)
  k_fill
  refine Ft.walk_law (l := PySem.Challenge.rw_fieldtold_k07_least_covers_listed) (k := 14) (g := Ft.f_law_k07) (xr := fun _ _ _ _ => False) rfl rfl ⟨rfl, by decide, by decide⟩ (fun w h Y => PySem.W.kIn_of Y) (fun w => by first | rfl | k_is) Ft.plain_law_k07 ?F
  case F =>
    intro w mg fa h KX G hmg
    have T := by
      refine' Wk07.txt_mk KX G ?z_all ?z_bool ?z_int ?z_isinstance ?z_len ?z_list ?z_max ?z_min ?z_range ?z_sorted ?z_str ?z_tuple ?a0 ?l0 ?c0 ?k0 ?a1 ?l1 ?c1 ?k1 ?a2 ?l2 ?c2 ?k2 ?a3 ?l3 ?c3 ?k3 ?a4 ?l4 ?c4 ?k4 ?a5 ?l5 ?c5 ?k5 ?a6 ?l6 ?c6 ?k6 ?a7 ?l7 ?c7 ?k7 ?a8 ?l8 ?c8 ?k8 ?w8_0 ?a9 ?l9 ?c9 ?k9 ?a10 ?l10 ?c10 ?k10 ?a11 ?l11 ?c11 ?k11 ?a12 ?l12 ?c12 ?k12 ?a13 ?l13 ?c13 ?k13 ?a14 ?l14 ?c14 ?k14 ?a15 ?l15 ?c15 ?k15 ?a16 ?l16 ?c16 ?k16 ?a17 ?l17 ?c17 ?k17 ?a18 ?l18 ?c18 ?k18 ?a19 ?l19 ?c19 ?k19 ?a20 ?l20 ?c20 ?k20 ?a21 ?l21 ?c21 ?k21
      (case z_all => k_is)
      (case z_bool => k_is)
      (case z_int => k_is)
      (case z_isinstance => k_is)
      (case z_len => k_is)
      (case z_list => k_is)
      (case z_max => k_is)
      (case z_min => k_is)
      (case z_range => k_is)
      (case z_sorted => k_is)
      (case z_str => k_is)
      (case z_tuple => k_is)
      (case a0 => k_is)
      (case l0 => k_is)
      (case c0 => k_is)
      (case k0 => k_is)
      (case a1 => k_is)
      (case l1 => k_is)
      (case c1 => k_is)
      (case k1 => k_is)
      (case a2 => k_is)
      (case l2 => k_is)
      (case c2 => k_is)
      (case k2 => k_is)
      (case a3 => k_is)
      (case l3 => k_is)
      (case c3 => k_is)
      (case k3 => k_is)
      (case a4 => k_is)
      (case l4 => k_is)
      (case c4 => k_is)
      (case k4 => k_is)
      (case a5 => k_is)
      (case l5 => k_is)
      (case c5 => k_is)
      (case k5 => k_is)
      (case a6 => k_is)
      (case l6 => k_is)
      (case c6 => k_is)
      (case k6 => k_is)
      (case a7 => k_is)
      (case l7 => k_is)
      (case c7 => k_is)
      (case k7 => k_is)
      (case a8 => k_is)
      (case l8 => k_is)
      (case c8 => k_is)
      (case k8 => k_is)
      (case w8_0 => k_is)
      (case a9 => k_is)
      (case l9 => k_is)
      (case c9 => k_is)
      (case k9 => k_is)
      (case a10 => k_is)
      (case l10 => k_is)
      (case c10 => k_is)
      (case k10 => k_is)
      (case a11 => k_is)
      (case l11 => k_is)
      (case c11 => k_is)
      (case k11 => k_is)
      (case a12 => k_is)
      (case l12 => k_is)
      (case c12 => k_is)
      (case k12 => k_is)
      (case a13 => k_is)
      (case l13 => k_is)
      (case c13 => k_is)
      (case k13 => k_is)
      (case a14 => k_is)
      (case l14 => k_is)
      (case c14 => k_is)
      (case k14 => k_is)
      (case a15 => k_is)
      (case l15 => k_is)
      (case c15 => k_is)
      (case k15 => k_is)
      (case a16 => k_is)
      (case l16 => k_is)
      (case c16 => k_is)
      (case k16 => k_is)
      (case a17 => k_is)
      (case l17 => k_is)
      (case c17 => k_is)
      (case k17 => k_is)
      (case a18 => k_is)
      (case l18 => k_is)
      (case c18 => k_is)
      (case k18 => k_is)
      (case a19 => k_is)
      (case l19 => k_is)
      (case c19 => k_is)
      (case k19 => k_is)
      (case a20 => k_is)
      (case l20 => k_is)
      (case c20 => k_is)
      (case k20 => k_is)
      (case a21 => k_is)
      (case l21 => k_is)
      (case c21 => k_is)
      (case k21 => k_is)
    exact Ft.law_fn (st := Wk07.top 26) T.d_law hmg (fun _ _ _ _ _ _ us hl => match us, hl with | [_], _ => rfl) (fun base _ _ f fd F => Wk07.ok_law T F)
#print axioms PySem.Challenge.cw_fieldtold_k07_least_covers_listed_holds
