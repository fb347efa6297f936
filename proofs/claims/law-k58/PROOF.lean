import PyProof.Rows.All
import Wide.All
import OpenK.AllK
import Wide.FinOn
import HandS.ForMost
import HandS.ForExc
import HandS.HotCalls
import HandS.Zip
import HandS.Conv
import HandS.Rev
import KE.DataEq
import KE.DataCmp
import KE.DataIsa
import KE.SortData
import KE.DataMinMax
import KE.DataAny
import HandS.TupAny
import HandS.IsInst
import HandS.EndBits
import KE.DataFind
import PyProof.SeqIndex
import HandS.Dict
import PyProof.ReprRoads
import HandS.TupMul
import HandS.Iter
import HandS.Defaults
import HandS.MakeKwOnly
import HandS.DictComp
import HandS.SetFor
import HandS.Strs
import HandS.Flt
import HandS.More
import HandS.ExcIs
import HandS.RaiseMore
import KE.KDictCopyH
import HandS.TupSets
import HandS.SetBool
import PySem.Challenge.RW_fieldtold_k58_fused_hours_of_clocks
set_option Elab.async false
set_option linter.all false
set_option maxRecDepth 100000
/-! Ft1: trees, slots, steps. -/
namespace Ft
open PySem L2 PySem.Spec PyProof.Rows

abbrev D := PyData
abbrev Sg := L2.St
def kD : Key → D
  | .inl i => .int i
  | .inr s => .str s

mutual
/-- v stands for the tree in the frozen heap F -/
def Rep (K : PySem.W.Frag) (F : Hp) : D → V → Prop
  | .none, v => v = .non
  | .bool b, v => v = .bl b
  | .int i, v => v = .int i
  | .str s, v => v = .str s
  | .list ds, v => ∃ a vs, v = .ref a ∧ Rd F a (.lst vs) ∧ Reps K F ds vs
  | .tuple ds, v => ∃ a vs, v = .ref a ∧ F a = some (.tup vs) ∧ Reps K F ds vs
  | .dict kvs, v => ∃ a vs, v = .ref a ∧ ((∃ es : List (Key × V), Rd F a (.dK es) ∧ kvs.map (·.1) = es.map (fun e => kD e.1) ∧ vs = es.map (·.2)) ∨
      (∃ es : List (List Key × V), Rd F a (.dT es) ∧ kvs.map (·.1) = es.map (fun e => PyData.tuple (e.1.map kD)) ∧ vs = es.map (·.2))) ∧ RepP K F kvs vs
def Reps (K : PySem.W.Frag) (F : Hp) : List D → List V → Prop
  | [], vs => vs = []
  | d :: ds, vs => ∃ v r, vs = v :: r ∧ Rep K F d v ∧ Reps K F ds r
def RepP (K : PySem.W.Frag) (F : Hp) : List (D × D) → List V → Prop
  | [], vs => vs = []
  | (_, d) :: ds, vs => ∃ v r, vs = v :: r ∧ Rep K F d v ∧ RepP K F ds r
end

theorem rdSame {F F' : Hp} {a : Addr} {u : HO} (e : Same F F') (h : Rd F a u) : Rd F' a u := h.imp (e _ _) fun ⟨o, z⟩ => ⟨o, e _ _ z⟩
theorem sameT {K : PySem.W.Frag} {F F' : Hp} {a : Addr} {xs : List V} (e : Same F F') (h : SqT K F a xs) : SqT K F' a xs := by
  rcases h with (h | ⟨o, h⟩) | h
  · exact .inl (.inl (e _ _ h))
  · exact .inl (.inr ⟨o, e _ _ h⟩)
  · exact .inr h
/-- what is read, and not locked -/
def Nf (u : HO) : Prop := ∀ o w, u ≠ .frz o w
/-- all that was read can be read -/
def Rds (F F' : Hp) : Prop := (∀ b u, Nf u → Rd F b u → Rd F' b u) ∧ ∀ b vs, F b = some (.tup vs) → F' b = some (.tup vs)
theorem Same.rds {F F' : Hp} (e : Same F F') : Rds F F' := ⟨fun _ _ _ h => rdSame e h, fun _ _ h => e _ _ h⟩
theorem nf_lst {l : List V} : Nf (.lst l) := fun _ _ h => by cases h
theorem nf_tup {l : List V} : Nf (.tup l) := fun _ _ h => by cases h
theorem nf_dK {l : List (Key × V)} : Nf (.dK l) := fun _ _ h => by cases h
theorem nf_dT {l : List (List Key × V)} : Nf (.dT l) := fun _ _ h => by cases h
mutual
theorem Rep.monoR {K : PySem.W.Frag} {F F' : Hp} (e : Rds F F') : ∀ (d : D) (v : V), Rep K F d v → Rep K F' d v
  | .none, v, h => by simpa only [Rep] using h
  | .bool b, v, h => by simpa only [Rep] using h
  | .int i, v, h => by simpa only [Rep] using h
  | .str s, v, h => by simpa only [Rep] using h
  | .list ds, v, h => by
    simp only [Rep] at h ⊢
    obtain ⟨a, vs, rfl, q, r⟩ := h
    exact ⟨a, vs, rfl, e.1 _ _ nf_lst q, Reps.monoR e ds vs r⟩
  | .tuple ds, v, h => by
    simp only [Rep] at h ⊢
    obtain ⟨a, vs, rfl, q, r⟩ := h
    exact ⟨a, vs, rfl, e.2 _ _ q, Reps.monoR e ds vs r⟩
  | .dict kvs, v, h => by
    simp only [Rep] at h ⊢
    obtain ⟨a, vs, rfl, q, r⟩ := h
    refine ⟨a, vs, rfl, ?_, RepP.monoR e kvs vs r⟩
    rcases q with ⟨es, q1, q2, q3⟩ | ⟨es, q1, q2, q3⟩
    · exact .inl ⟨es, e.1 _ _ nf_dK q1, q2, q3⟩
    · exact .inr ⟨es, e.1 _ _ nf_dT q1, q2, q3⟩
theorem Reps.monoR {K : PySem.W.Frag} {F F' : Hp} (e : Rds F F') : ∀ (ds : List D) (vs : List V), Reps K F ds vs → Reps K F' ds vs
  | [], vs, h => by simpa only [Reps] using h
  | d :: ds, vs, h => by
    simp only [Reps] at h ⊢
    obtain ⟨v, r, rfl, h1, h2⟩ := h
    exact ⟨v, r, rfl, Rep.monoR e d v h1, Reps.monoR e ds r h2⟩
theorem RepP.monoR {K : PySem.W.Frag} {F F' : Hp} (e : Rds F F') : ∀ (ds : List (D × D)) (vs : List V), RepP K F ds vs → RepP K F' ds vs
  | [], vs, h => by simpa only [RepP] using h
  | (k, d) :: ds, vs, h => by
    simp only [RepP] at h ⊢
    obtain ⟨v, r, rfl, h1, h2⟩ := h
    exact ⟨v, r, rfl, Rep.monoR e d v h1, RepP.monoR e ds r h2⟩
end
theorem Rep.mono {K : PySem.W.Frag} {F F' : Hp} (e : Same F F') (d : D) (v : V) (h : Rep K F d v) : Rep K F' d v := h.monoR (Same.rds e)
theorem Reps.mono {K : PySem.W.Frag} {F F' : Hp} (e : Same F F') (ds : List D) (vs : List V) (h : Reps K F ds vs) : Reps K F' ds vs := h.monoR (Same.rds e)
theorem RepP.mono {K : PySem.W.Frag} {F F' : Hp} (e : Same F F') (ds : List (D × D)) (vs : List V) (h : RepP K F ds vs) : RepP K F' ds vs := h.monoR (Same.rds e)
section
variable {K : PySem.W.Frag} {F F' H : Hp}
theorem reps_nil {vs : List V} : Reps K F [] vs ↔ vs = [] := by simp only [Reps]
theorem reps_cons {d : D} {ds : List D} {vs : List V} : Reps K F (d :: ds) vs ↔ ∃ v r, vs = v :: r ∧ Rep K F d v ∧ Reps K F ds r := by simp only [Reps]
theorem Reps.length : ∀ {ds : List D} {vs : List V}, Reps K F ds vs → ds.length = vs.length
  | [], vs, h => by rw [reps_nil.mp h]; rfl
  | d :: ds, vs, h => by
    obtain ⟨v, r, rfl, _, h2⟩ := reps_cons.mp h
    rw [List.length_cons, List.length_cons, Reps.length h2]
theorem Reps.nil : Reps K F [] [] := reps_nil.mpr rfl
theorem Reps.cons {d : D} {ds : List D} {v : V} {vs : List V} (h : Rep K F d v) (t : Reps K F ds vs) : Reps K F (d :: ds) (v :: vs) := reps_cons.mpr ⟨v, vs, rfl, h, t⟩
theorem Reps.append : ∀ {ds es : List D} {vs ws : List V}, Reps K F ds vs → Reps K F es ws → Reps K F (ds ++ es) (vs ++ ws)
  | [], _, vs, _, h, t => by rw [reps_nil.mp h]; exact t
  | d :: ds, _, vs, _, h, t => by
    obtain ⟨v, r, rfl, h1, h2⟩ := reps_cons.mp h
    exact .cons h1 (Reps.append h2 t)
theorem Reps.get : ∀ {ds : List D} {vs : List V} {i : Nat} {d : D}, Reps K F ds vs → ds[i]? = some d → ∃ v, vs[i]? = some v ∧ Rep K F d v
  | [], _, _, _, _, e => by simp at e
  | d :: ds, vs, 0, x, h, e => by
    obtain ⟨v, r, rfl, h1, h2⟩ := reps_cons.mp h
    simp at e; subst e
    exact ⟨v, rfl, h1⟩
  | d :: ds, vs, i + 1, x, h, e => by
    obtain ⟨v, r, rfl, h1, h2⟩ := reps_cons.mp h
    simpa using Reps.get (i := i) h2 (by simpa using e)
theorem Reps.getV {ds : List D} {vs : List V} {i : Nat} {v : V} (h : Reps K F ds vs) (e : vs[i]? = some v) : ∃ d, ds[i]? = some d ∧ Rep K F d v := by
  obtain ⟨hi, _⟩ := List.getElem?_eq_some_iff.mp e
  have hd : i < ds.length := by rw [h.length]; exact hi
  obtain ⟨v', e', r⟩ := h.get (List.getElem?_eq_getElem hd)
  rw [e] at e'; cases e'
  exact ⟨_, List.getElem?_eq_getElem hd, r⟩
theorem Reps.take : ∀ {ds : List D} {vs : List V} (n : Nat), Reps K F ds vs → Reps K F (ds.take n) (vs.take n)
  | _, _, 0, _ => .nil
  | [], vs, n + 1, h => by rw [reps_nil.mp h]; exact .nil
  | d :: ds, vs, n + 1, h => by
    obtain ⟨v, r, rfl, h1, h2⟩ := reps_cons.mp h
    exact .cons h1 (Reps.take n h2)
theorem Reps.drop : ∀ {ds : List D} {vs : List V} (n : Nat), Reps K F ds vs → Reps K F (ds.drop n) (vs.drop n)
  | _, _, 0, h => h
  | [], vs, n + 1, h => by rw [reps_nil.mp h]; exact .nil
  | d :: ds, vs, n + 1, h => by
    obtain ⟨v, r, rfl, h1, h2⟩ := reps_cons.mp h
    exact Reps.drop n h2
theorem Reps.set : ∀ {ds : List D} {vs : List V} {d : D} {v : V} (n : Nat), Reps K F ds vs → Rep K F d v → Reps K F (ds.set n d) (vs.set n v)
  | [], vs, _, _, _, h, _ => by rw [reps_nil.mp h]; exact .nil
  | d :: ds, vs, _, _, 0, h, q => by
    obtain ⟨v, r, rfl, h1, h2⟩ := reps_cons.mp h
    exact .cons q h2
  | d :: ds, vs, _, _, n + 1, h, q => by
    obtain ⟨v, r, rfl, h1, h2⟩ := reps_cons.mp h
    exact .cons h1 (Reps.set n h2 q)
theorem Reps.eraseIdx : ∀ {ds : List D} {vs : List V} (n : Nat), Reps K F ds vs → Reps K F (ds.eraseIdx n) (vs.eraseIdx n)
  | [], vs, _, h => by rw [reps_nil.mp h]; exact .nil
  | d :: ds, vs, 0, h => by
    obtain ⟨v, r, rfl, h1, h2⟩ := reps_cons.mp h
    exact h2
  | d :: ds, vs, n + 1, h => by
    obtain ⟨v, r, rfl, h1, h2⟩ := reps_cons.mp h
    exact .cons h1 (Reps.eraseIdx n h2)
theorem Reps.reverse : ∀ {ds : List D} {vs : List V}, Reps K F ds vs → Reps K F ds.reverse vs.reverse
  | [], vs, h => by rw [reps_nil.mp h]; exact .nil
  | d :: ds, vs, h => by
    obtain ⟨v, r, rfl, h1, h2⟩ := reps_cons.mp h
    rw [List.reverse_cons, List.reverse_cons]
    exact (Reps.reverse h2).append (.cons h1 .nil)
theorem Reps.ints : ∀ {ns : List Int} {vs : List V}, Reps K F (ns.map PyData.int) vs → vs = ns.map V.int
  | [], vs, h => reps_nil.mp h
  | n :: ns, vs, h => by
    obtain ⟨v, r, rfl, h1, h2⟩ := reps_cons.mp h
    simp only [Rep] at h1
    rw [h1, Reps.ints h2]; rfl
theorem Reps.of_ints : ∀ (ns : List Int), Reps K F (ns.map PyData.int) (ns.map V.int)
  | [] => .nil
  | n :: ns => .cons (by simp only [Rep]) (Reps.of_ints ns)
theorem Reps.bools : ∀ {ns : List Bool} {vs : List V}, Reps K F (ns.map PyData.bool) vs → vs = ns.map V.bl
  | [], vs, h => reps_nil.mp h
  | n :: ns, vs, h => by
    obtain ⟨v, r, rfl, h1, h2⟩ := reps_cons.mp h
    simp only [Rep] at h1
    rw [h1, Reps.bools h2]; rfl
end

/-! ### slots -/
inductive Mo where
  | lst (l : List D)
  | dK (l : List (D × D))
  | dT (l : List (D × D))
def Mo.toD : Mo → D
  | .lst l => .list l
  | .dK l => .dict l
  | .dT l => .dict l
inductive LV where
  | un
  | val (d : D)
  | own (m : Mo) (mine : Bool)
abbrev Rho := List LV

/-- at a stands an object that is not frozen, of these trees -/
def OwnAt (K : PySem.W.Frag) (F H : Hp) (a : Addr) : Mo → Prop
  | .lst l => F a = none ∧ ∃ vs, H a = some (.lst vs) ∧ Reps K F l vs
  | .dK l => F a = none ∧ ∃ es : List (Key × V), H a = some (.dK es) ∧ l.map (·.1) = es.map (fun e => kD e.1) ∧ RepP K F l (es.map (·.2))
  | .dT l => F a = none ∧ ∃ es : List (List Key × V), H a = some (.dT es) ∧ l.map (·.1) = es.map (fun e => PyData.tuple (e.1.map kD)) ∧ RepP K F l (es.map (·.2))
theorem OwnAt.free {K : PySem.W.Frag} {F H : Hp} {a : Addr} {m : Mo} (h : OwnAt K F H a m) : F a = none := by
  cases m <;> exact h.1
theorem OwnAt.there {K : PySem.W.Frag} {F H : Hp} {a : Addr} {m : Mo} (h : OwnAt K F H a m) : ∃ o, H a = some o := by
  cases m <;> (obtain ⟨_, vs, e, _⟩ := h; exact ⟨_, e⟩)
theorem OwnAt.move {K : PySem.W.Frag} {F H F' H' : Hp} {a : Addr} {m : Mo} (h : OwnAt K F H a m) (e : Same F F') (f : F' a = none) (k : ∀ o, H a = some o → H' a = some o) : OwnAt K F' H' a m := by
  cases m with
  | lst l => obtain ⟨_, vs, q, r⟩ := h; exact ⟨f, vs, k _ q, Reps.mono e _ _ r⟩
  | dK l => obtain ⟨_, es, q, z, r⟩ := h; exact ⟨f, es, k _ q, z, RepP.mono e _ _ r⟩
  | dT l => obtain ⟨_, es, q, z, r⟩ := h; exact ⟨f, es, k _ q, z, RepP.mono e _ _ r⟩
/-- frozen, it is a tree -/
theorem OwnAt.rep {K : PySem.W.Frag} {F H F' : Hp} {a : Addr} {m : Mo} (h : OwnAt K F H a m) (e : Same F F') (k : F' a = H a) : Rep K F' m.toD (.ref a) := by
  cases m with
  | lst l => obtain ⟨_, vs, q, r⟩ := h; simp only [Mo.toD, Rep]; exact ⟨a, vs, rfl, .inl (by rw [k]; exact q), Reps.mono e _ _ r⟩
  | dK l => obtain ⟨_, es, q, z, r⟩ := h; simp only [Mo.toD, Rep]; exact ⟨a, _, rfl, .inl ⟨es, .inl (by rw [k]; exact q), z, rfl⟩, RepP.mono e _ _ r⟩
  | dT l => obtain ⟨_, es, q, z, r⟩ := h; simp only [Mo.toD, Rep]; exact ⟨a, _, rfl, .inr ⟨es, .inl (by rw [k]; exact q), z, rfl⟩, RepP.mono e _ _ r⟩

def Own (ρ : Rho) (σ : Sg) (a : Addr) : Prop := ∃ (i : Nat) (m : Mo) (b : Bool), ρ[i]? = some (.own m b) ∧ σ[i]? = some (some (.ref a))

/-- the slots stand for the trees -/
structure SR (K : PySem.W.Frag) (ρ : Rho) (σ : Sg) (F H : Hp) : Prop where
  sub : Same F H
  len : σ.length = ρ.length
  val : ∀ (i : Nat) d, ρ[i]? = some (.val d) → ∃ v, σ[i]? = some (some v) ∧ Rep K F d v
  own : ∀ (i : Nat) m b, ρ[i]? = some (.own m b) → ∃ a, σ[i]? = some (some (.ref a)) ∧ OwnAt K F H a m
  inj : ∀ (i j : Nat) m b m' b' a, ρ[i]? = some (.own m b) → ρ[j]? = some (.own m' b') → σ[i]? = some (some (.ref a)) → σ[j]? = some (some (.ref a)) → i = j
/-- no tuple -/
def NT (o : HO) : Prop := ∀ vs, o ≠ .tup vs
theorem OwnAt.nt {K : PySem.W.Frag} {F H : Hp} {a : Addr} {m : Mo} {o : HO} (h : OwnAt K F H a m) (e : H a = some o) : NT o := fun vs z => by
  subst z
  cases m <;> (obtain ⟨_, ws, q, _⟩ := h; rw [e] at q; cases q)
/-- from a state to a later one of the same frame -/
structure Go (K : PySem.W.Frag) (ρ : Rho) (σ : Sg) (F H : Hp) (ρ' : Rho) (σ' : Sg) (F' H' : Hp) : Prop where
  sub : Same F F'
  keep : ∀ a o, H a = some o → ¬ Own ρ σ a → H' a = some o ∧ (NT o → F a = none → F' a = none) ∧ ¬ Own ρ' σ' a
  sr : SR K ρ' σ' F' H'
  there : ∀ a o, H a = some o → ∃ o', H' a = some o'
  io : ∀ (j : Nat) m, ρ[j]? = some (.own m false) → ∃ m', ρ'[j]? = some (.own m' false) ∧ σ'[j]? = σ[j]?
section
variable {K : PySem.W.Frag} {ρ ρ' ρ₂ : Rho} {σ σ' σ₂ : Sg} {F H F' H' F₂ H₂ : Hp} {a : Addr}
theorem Own.there (s : SR K ρ σ F H) (h : Own ρ σ a) : ∃ o, H a = some o := by
  obtain ⟨i, m, b, e1, e2⟩ := h
  obtain ⟨a', e3, q⟩ := s.own i m b e1
  rw [e2] at e3; cases e3
  exact q.there
theorem Own.free (s : SR K ρ σ F H) (h : Own ρ σ a) : F a = none := by
  obtain ⟨i, m, b, e1, e2⟩ := h
  obtain ⟨a', e3, q⟩ := s.own i m b e1
  rw [e2] at e3; cases e3
  exact q.free
theorem Go.refl (s : SR K ρ σ F H) : Go K ρ σ F H ρ σ F H := ⟨Same.refl _, fun a o e n => ⟨e, fun _ => id, n⟩, s, fun a o e => ⟨o, e⟩, fun j m e => ⟨m, e, rfl⟩⟩
theorem Go.trans (g : Go K ρ σ F H ρ' σ' F' H') (g2 : Go K ρ' σ' F' H' ρ₂ σ₂ F₂ H₂) : Go K ρ σ F H ρ₂ σ₂ F₂ H₂ where
  sub := g.sub.trans g2.sub
  keep := fun a o e n => by
    obtain ⟨h1, h2, h3⟩ := g.keep a o e n
    obtain ⟨k1, k2, k3⟩ := g2.keep a o h1 h3
    exact ⟨k1, fun nt z => k2 nt (h2 nt z), k3⟩
  sr := g2.sr
  there := fun a o e => by
    obtain ⟨o1, e1⟩ := g.there a o e
    exact g2.there a o1 e1
  io := fun j m e => by
    obtain ⟨m1, e1, s1⟩ := g.io j m e
    obtain ⟨m2, e2, s2⟩ := g2.io j m1 e1
    exact ⟨m2, e2, s2.trans s1⟩
/-- new objects alone -/
structure Fr (F H F' H' : Hp) : Prop where
  sub : Same F F'
  all : Same H H'
  fr : Same F' H'
  new : ∀ a o, H a = some o → F a = none → F' a = none
theorem Fr.refl (h : Same F H) : Fr F H F H := ⟨Same.refl _, Same.refl _, h, fun _ _ _ e => e⟩
theorem Fr.trans (a : Fr F H F' H') (b : Fr F' H' F₂ H₂) : Fr F H F₂ H₂ := ⟨a.sub.trans b.sub, a.all.trans b.all, b.fr, fun x o e n => b.new x o (a.all _ _ e) (a.new x o e n)⟩
theorem upd_same' {H : Hp} {a : Addr} {o : HO} (n : H a = none) : Same H (upd H a o) := fun b u e => by
  rw [upd_ne (ne_of_none e n)]; exact e
theorem sub_none (s : Same F H) (n : H a = none) : F a = none := s.free n
/-- a new frozen object -/
theorem Fr.new1 {o : HO} (s : Same F H) (n : H a = none) : Fr F H (upd F a o) (upd H a o) := by
  refine ⟨upd_same' (sub_none s n), upd_same' n, fun b u e => ?_, fun b u e z => ?_⟩
  · by_cases hb : b = a
    · subst hb; rw [upd_same] at e ⊢; exact e
    · rw [upd_ne hb] at e ⊢; exact s _ _ e
  · rw [upd_ne (ne_of_none e n)]; exact z
/-- a new object that is not frozen -/
theorem Fr.own1 {o : HO} (s : Same F H) (n : H a = none) : Fr F H F (upd H a o) := ⟨Same.refl _, upd_same' n, fun b u e => upd_same' n _ _ (s _ _ e), fun _ _ _ z => z⟩
theorem SR.fr (s : SR K ρ σ F H) (f : Fr F H F' H') : SR K ρ σ F' H' where
  sub := f.fr
  len := s.len
  val := fun i d e => by
    obtain ⟨v, h1, h2⟩ := s.val i d e
    exact ⟨v, h1, h2.mono f.sub⟩
  own := fun i m b e => by
    obtain ⟨a, h1, h2⟩ := s.own i m b e
    obtain ⟨o, ho⟩ := h2.there
    exact ⟨a, h1, h2.move f.sub (f.new a o ho h2.free) fun o e => f.all _ _ e⟩
  inj := s.inj
theorem Fr.go (f : Fr F H F' H') (s : SR K ρ σ F H) : Go K ρ σ F H ρ σ F' H' := ⟨f.sub, fun a o e n => ⟨f.all _ _ e, fun _ z => f.new a o e z, n⟩, s.fr f, fun a o e => ⟨o, f.all _ _ e⟩, fun j m e => ⟨m, e, rfl⟩⟩
end

section
variable {K : PySem.W.Frag} {ρ ρ' : Rho} {σ σ' : Sg} {F H F' H' : Hp} {a : Addr}
/-- an object that no slot owns is frozen -/
theorem SR.freeze {o : HO} (s : SR K ρ σ F H) (n : F a = none) (h : H a = some o) (no : ¬ Own ρ σ a) : SR K ρ σ (upd F a o) H where
  sub := fun b u e => by
    by_cases hb : b = a
    · subst hb; rw [upd_same] at e; cases e; exact h
    · rw [upd_ne hb] at e; exact s.sub _ _ e
  len := s.len
  val := fun i d e => by
    obtain ⟨v, h1, h2⟩ := s.val i d e
    exact ⟨v, h1, h2.mono (upd_same' n)⟩
  own := fun i m b e => by
    obtain ⟨c, h1, h2⟩ := s.own i m b e
    have hc : c ≠ a := fun z => no ⟨i, m, b, e, z ▸ h1⟩
    exact ⟨c, h1, h2.move (upd_same' n) (by rw [upd_ne hc]; exact h2.free) fun o e => e⟩
  inj := s.inj
theorem Go.freeze {o : HO} (g : Go K ρ σ F H ρ' σ' F' H') (n0 : H a = none) (n : F' a = none) (h : H' a = some o) (no : ¬ Own ρ' σ' a) : Go K ρ σ F H ρ' σ' (upd F' a o) H' where
  sub := g.sub.trans (upd_same' n)
  keep := fun b u e hn => by
    obtain ⟨h1, h2, h3⟩ := g.keep b u e hn
    exact ⟨h1, fun nt z => by rw [upd_ne (ne_of_none e n0)]; exact h2 nt z, h3⟩
  sr := g.sr.freeze n h no
  there := g.there
  io := g.io
/-- a slot of mine is frozen -/
theorem SR.mov {i : Nat} {m : Mo} (s : SR K ρ σ F H) (e : ρ[i]? = some (.own m true)) : ∃ a F', σ[i]? = some (some (.ref a)) ∧ Rep K F' m.toD (.ref a) ∧ Go K ρ σ F H (ρ.set i (.val m.toD)) σ F' H := by
  obtain ⟨a, h1, h2⟩ := s.own i m true e
  obtain ⟨o, ho⟩ := h2.there
  have hi : i < ρ.length := (List.getElem?_eq_some_iff.mp e).1
  have get : ∀ j x, (ρ.set i (.val m.toD))[j]? = some x → (j = i ∧ x = .val m.toD) ∨ (j ≠ i ∧ ρ[j]? = some x) := fun j x z => by
    by_cases hj : i = j
    · subst hj; rw [List.getElem?_set_self hi] at z; cases z; exact .inl ⟨rfl, rfl⟩
    · rw [List.getElem?_set_ne hj] at z; exact .inr ⟨fun q => hj q.symm, z⟩
  have sub : ∀ b, Own (ρ.set i (.val m.toD)) σ b → Own ρ σ b ∧ b ≠ a := fun b ⟨j, m', k, e1, e2⟩ => by
    rcases get j _ e1 with ⟨_, z⟩ | ⟨hj, z⟩
    · cases z
    · exact ⟨⟨j, m', k, z, e2⟩, fun q => hj (s.inj j i m' k m true a z e (q ▸ e2) h1)⟩
  have hr : Rep K (upd F a o) m.toD (.ref a) := h2.rep (upd_same' h2.free) (by rw [upd_same, ho])
  refine ⟨a, upd F a o, h1, hr, ⟨upd_same' h2.free, fun b u eb hn => ⟨eb, fun _ z => ?_, fun q => hn (sub b q).1⟩, ⟨fun b u q => ?_, by rw [List.length_set]; exact s.len, fun j d z => ?_, fun j m' k z => ?_, fun j1 j2 m1 k1 m2 k2 c z1 z2 q1 q2 => ?_⟩, fun b u z => ⟨u, z⟩, fun j m' z => ?_⟩⟩
  · have : b ≠ a := fun q => hn ⟨i, m, true, e, q ▸ h1⟩
    rw [upd_ne this]; exact z
  · by_cases hb : b = a
    · subst hb; rw [upd_same] at q; cases q; exact ho
    · rw [upd_ne hb] at q; exact s.sub _ _ q
  · rcases get j _ z with ⟨hj, y⟩ | ⟨hj, y⟩
    · cases y; exact ⟨_, hj ▸ h1, hr⟩
    · obtain ⟨v, q1, q2⟩ := s.val j d y
      exact ⟨v, q1, q2.mono (upd_same' h2.free)⟩
  · rcases get j _ z with ⟨hj, y⟩ | ⟨hj, y⟩
    · cases y
    · obtain ⟨c, q1, q2⟩ := s.own j m' k y
      have hc : c ≠ a := fun q => hj (s.inj j i m' k m true a y e (q ▸ q1) h1)
      exact ⟨c, q1, q2.move (upd_same' h2.free) (by rw [upd_ne hc]; exact q2.free) fun o e => e⟩
  · rcases get j1 _ z1 with ⟨hj1, y1⟩ | ⟨hj1, y1⟩
    · cases y1
    · rcases get j2 _ z2 with ⟨hj2, y2⟩ | ⟨hj2, y2⟩
      · cases y2
      · exact s.inj j1 j2 _ _ _ _ c y1 y2 q1 q2
  · have hj : i ≠ j := fun q => by subst q; rw [e] at z; cases z
    exact ⟨m', by rw [List.getElem?_set_ne hj]; exact z, rfl⟩
end

/-! ### objects of mine -/
/-- new since the state, or one of its own objects -/
def Mine (ρ : Rho) (σ : Sg) (H : Hp) (a : Addr) : Prop := H a = none ∨ ∃ (i : Nat) (m : Mo), ρ[i]? = some (.own m true) ∧ σ[i]? = some (some (.ref a))
theorem Go.mine {K : PySem.W.Frag} {ρ ρ' : Rho} {σ σ' : Sg} {F H F' H' : Hp} {a : Addr} (g : Go K ρ σ F H ρ' σ' F' H') (h : Mine ρ' σ' H' a) : Mine ρ σ H a := by
  cases e : H a with
  | none => exact .inl e
  | some o =>
    rcases h with h | ⟨i, m, h1, h2⟩
    · obtain ⟨o', e'⟩ := g.there a o e
      rw [h] at e'; cases e'
    · by_cases ow : Own ρ σ a
      · obtain ⟨j, m', b, e1, e2⟩ := ow
        cases b with
        | true => exact .inr ⟨j, m', e1, e2⟩
        | false =>
          obtain ⟨m2, q1, q2⟩ := g.io j m' e1
          rw [e2] at q2
          have := g.sr.inj i j _ _ _ _ a h1 q1 h2 q2
          subst this
          rw [h1] at q1; cases q1
      · exact absurd ⟨i, m, true, h1, h2⟩ (g.keep a o e ow).2.2

/-! ### results -/
structure Xn where
  cls : Nat
  pay : List D
inductive RE (α : Type) where
  | ok (a : α) (ρ : Rho)
  | ex (x : Xn) (ρ : Rho)
  | no
inductive RS where
  | next (ρ : Rho)
  | ret (d : D) (ρ : Rho)
  | new (m : Mo) (ρ : Rho)
  | brk (ρ : Rho)
  | cnt (ρ : Rho)
  | ex (x : Xn) (ρ : Rho)
  | no
inductive RC where
  | ok (d : D) (outs : List Mo)
  | new (m : Mo) (outs : List Mo)
  | ex (x : Xn) (outs : List Mo)
  | no
@[simp] def RE.bind {α β : Type} : RE α → (α → Rho → RE β) → RE β
  | .ok a ρ, f => f a ρ
  | .ex x ρ, _ => .ex x ρ
  | .no, _ => .no
abbrev Dn := Rho → RE D
abbrev Tn := Rho → RE Bool
abbrev Sn := Rho → RS
/-- how exceptions are told: an exception of mine, its class, its own dict, the heap -/
abbrev XR := Xn → Value → Option Addr → Hp → Prop
/-- the readings -/
structure Wt where
  xr : XR
  E : XK
section
variable (K : PySem.W.Frag) (W : Wt)
/-- what is wanted behind a result that was found from here -/
def Af {α β : Type} (R : Sg → Hp → α → β → Prop) (ρ : Rho) (σ : Sg) (F H : Hp) (Q : β → Hp → Prop) : RE α → Prop
  | .ok a ρ' => ∀ v F' H', Go K ρ σ F H ρ' σ F' H' → R σ F' a v → Q v H'
  | .ex x ρ' => ∀ c dx F' H', Go K ρ σ F H ρ' σ F' H' → W.xr x c dx H' → W.E c dx H'
  | .no => False
def tG {α β : Type} (R : Sg → Hp → α → β → Prop) (d : Rho → RE α) : Sg → Hp → (β → Hp → Prop) → Prop := fun σ H Q => ∃ ρ F, SR K ρ σ F H ∧ Af K W R ρ σ F H Q (d ρ)
abbrev RD : Sg → Hp → D → V → Prop := fun _ F d v => Rep K F d v
abbrev RB : Sg → Hp → Bool → Bool → Prop := fun _ _ a b => b = a
def tE (d : Dn) : TE := tG K W (RD K) d
def tT (d : Tn) : TT := tG K W RB d
def AfS (ρ : Rho) (σ : Sg) (F H : Hp) (D : Ends) : RS → Prop
  | .next ρ' => ∀ σ' F' H', Go K ρ σ F H ρ' σ' F' H' → D.nx σ' H'
  | .ret a ρ' => ∀ v σ' F' H', Go K ρ σ F H ρ' σ' F' H' → Rep K F' a v → D.rt v H'
  | .new m ρ' => ∀ a σ' F' H', Go K ρ σ F H ρ' σ' F' H' → OwnAt K F' H' a m → ¬ Own ρ' σ' a → Mine ρ σ H a → D.rt (.ref a) H'
  | .brk ρ' => ∀ σ' F' H', Go K ρ σ F H ρ' σ' F' H' → D.bk σ' H'
  | .cnt ρ' => ∀ σ' F' H', Go K ρ σ F H ρ' σ' F' H' → D.ct σ' H'
  | .ex x ρ' => ∀ c dx σ' F' H', Go K ρ σ F H ρ' σ' F' H' → W.xr x c dx H' → W.E c dx H'
  | .no => False
def tS (d : Sn) : TS := fun D σ H => ∃ ρ F, SR K ρ σ F H ∧ AfS K W ρ σ F H D (d ρ)
end
section
variable {K : PySem.W.Frag} {W : Wt} {α β γ δ : Type} {R : Sg → Hp → α → β → Prop} {R2 : Sg → Hp → γ → δ → Prop} {ρ ρ' : Rho} {σ σ' : Sg} {F H F' H' : Hp} {Q : β → Hp → Prop} {Q2 : δ → Hp → Prop}
theorem Af.at (g : Go K ρ σ F H ρ' σ F' H') : ∀ {r : RE α}, Af K W R ρ σ F H Q r → Af K W R ρ' σ F' H' Q r
  | .ok a _, q => fun v F2 H2 g2 r => q v F2 H2 (g.trans g2) r
  | .ex x _, q => fun c dx F2 H2 g2 z => q c dx F2 H2 (g.trans g2) z
  | .no, q => q
theorem AfS.at {D : Ends} (g : Go K ρ σ F H ρ' σ' F' H') : ∀ {r : RS}, AfS K W ρ σ F H D r → AfS K W ρ' σ' F' H' D r
  | .next _, q => fun s2 F2 H2 g2 => q s2 F2 H2 (g.trans g2)
  | .ret _ _, q => fun v s2 F2 H2 g2 r => q v s2 F2 H2 (g.trans g2) r
  | .new _ _, q => fun a s2 F2 H2 g2 o n m => q a s2 F2 H2 (g.trans g2) o n (g.mine m)
  | .brk _, q => fun s2 F2 H2 g2 => q s2 F2 H2 (g.trans g2)
  | .cnt _, q => fun s2 F2 H2 g2 => q s2 F2 H2 (g.trans g2)
  | .ex x _, q => fun c dx s2 F2 H2 g2 z => q c dx s2 F2 H2 (g.trans g2) z
  | .no, q => q
/-- one after the other -/
theorem Af.bind {d : Rho → RE α} {f : α → Rho → RE γ} (s : SR K ρ σ F H) (q : Af K W R2 ρ σ F H Q2 ((d ρ).bind f)) {P : β → Hp → Prop}
    (k : ∀ a v ρ1 F1 H1, Go K ρ σ F H ρ1 σ F1 H1 → R σ F1 a v → Af K W R2 ρ1 σ F1 H1 Q2 (f a ρ1) → P v H1) : tG K W R d σ H P := by
  refine ⟨ρ, F, s, ?_⟩
  cases hd : d ρ with
  | no => simp only [hd, RE.bind] at q; exact q
  | ex x ρ' => simp only [hd, RE.bind] at q; exact q
  | ok a ρ1 =>
    simp only [hd, RE.bind] at q
    exact fun v F1 H1 g r => k a v ρ1 F1 H1 g r (q.at g)
theorem tG.of {d : Rho → RE α} (s : SR K ρ σ F H) (q : Af K W R ρ σ F H Q (d ρ)) : tG K W R d σ H Q := ⟨ρ, F, s, q⟩
theorem Af.okk {a : α} {v : β} (s : SR K ρ σ F H) (q : Af K W R ρ σ F H Q (.ok a ρ)) (r : R σ F a v) : Q v H := q v F H (Go.refl s) r
theorem Af.okf {a : α} {v : β} (s : SR K ρ σ F H) (q : Af K W R ρ σ F H Q (.ok a ρ)) (f : Fr F H F' H') (r : R σ F' a v) : Q v H' := q v F' H' (f.go s) r
end
/-- a new object that nobody owns yet -/
def AfF (K : PySem.W.Frag) (W : Wt) (ρ : Rho) (σ : Sg) (F H : Hp) (Q : VK) : RE Mo → Prop
  | .ok m ρ' => ∀ a F' H', Go K ρ σ F H ρ' σ F' H' → OwnAt K F' H' a m → H a = none → ¬ Own ρ' σ a → Q (.ref a) H'
  | .ex x ρ' => ∀ c dx F' H', Go K ρ σ F H ρ' σ F' H' → W.xr x c dx H' → W.E c dx H'
  | .no => False
abbrev Fn := Rho → RE Mo
def tF (K : PySem.W.Frag) (W : Wt) (d : Fn) : TE := fun σ H Q => ∃ ρ F, SR K ρ σ F H ∧ AfF K W ρ σ F H Q (d ρ)
section
variable {K : PySem.W.Frag} {W : Wt} {α β : Type} {R : Sg → Hp → α → β → Prop} {ρ ρ' : Rho} {σ : Sg} {F H F' H' : Hp} {Q : VK}
theorem AfF.at (g : Go K ρ σ F H ρ' σ F' H') : ∀ {r : RE Mo}, AfF K W ρ σ F H Q r → AfF K W ρ' σ F' H' Q r
  | .ok m _, q => fun a F2 H2 g2 r n no => q a F2 H2 (g.trans g2) r (by
      cases e : H a with
      | none => rfl
      | some o =>
        obtain ⟨o', z⟩ := g.there a o e
        rw [n] at z; cases z) no
  | .ex x _, q => fun c dx F2 H2 g2 z => q c dx F2 H2 (g.trans g2) z
  | .no, q => q
theorem AfF.bind {d : Rho → RE α} {f : α → Rho → RE Mo} (s : SR K ρ σ F H) (q : AfF K W ρ σ F H Q ((d ρ).bind f)) {P : β → Hp → Prop}
    (k : ∀ a v ρ1 F1 H1, Go K ρ σ F H ρ1 σ F1 H1 → R σ F1 a v → AfF K W ρ1 σ F1 H1 Q (f a ρ1) → P v H1) : tG K W R d σ H P := by
  refine ⟨ρ, F, s, ?_⟩
  cases hd : d ρ with
  | no => simp only [hd, RE.bind] at q; exact q
  | ex x ρ' => simp only [hd, RE.bind] at q; exact q
  | ok a ρ1 =>
    simp only [hd, RE.bind] at q
    exact fun v F1 H1 g r => k a v ρ1 F1 H1 g r (q.at g)
/-- a list that is new here -/
theorem AfF.new {a : Addr} {l : List D} {vs : List V} (s : SR K ρ σ F H) (q : AfF K W ρ σ F H Q (.ok (.lst l) ρ)) (n : H a = none) (r : Reps K F l vs) : Q (.ref a) (upd H a (.lst vs)) :=
  q a F _ ((Fr.own1 s.sub n).go s) ⟨sub_none s.sub n, vs, upd_same, r⟩ n fun h => by
    obtain ⟨o, e⟩ := h.there s
    rw [n] at e; cases e
def dFz (d : Fn) : Dn := fun ρ => (d ρ).bind fun m ρ' => .ok m.toD ρ'
theorem fz_imp {d : Fn} {H : Hp} {Q : VK} (q : tE K W (dFz d) σ H Q) : tF K W d σ H Q := by
  obtain ⟨ρ, F, s, q⟩ := q
  refine ⟨ρ, F, s, ?_⟩
  unfold dFz at q
  cases hd : d ρ with
  | no => rw [hd] at q; exact q
  | ex x ρ' => rw [hd] at q; exact q
  | ok m ρ1 =>
    rw [hd] at q
    intro a F' H' g o n no
    obtain ⟨u, hu⟩ := o.there
    exact q _ _ _ (g.freeze n o.free hu no) (o.rep (upd_same' o.free) (by rw [upd_same, hu]))
end
/-- weaker readings -/
theorem PE.imp {X : Cx} {e : Expr} {t t' : TE} (h : PE X e t) (i : ∀ σ H Q, t' σ H Q → t σ H Q) : PE X e t' := ⟨fun pins s σ H Q I q => h.run pins s σ H Q I (i σ H Q q)⟩
theorem PT.imp {X : Cx} {e : Expr} {t t' : TT} (h : PT X e t) (i : ∀ σ H Q, t' σ H Q → t σ H Q) : PT X e t' := ⟨fun pins s σ H Q I q => h.run pins s σ H Q I (i σ H Q q)⟩
theorem PA.imp {X : Cx} {e : List Expr} {t t' : TA} (h : PA X e t) (i : ∀ σ H Q, t' σ H Q → t σ H Q) : PA X e t' := ⟨fun pos pins s σ H Q I q => h.run pos pins s σ H Q I (i σ H Q q)⟩
theorem PS.imp {X : Cx} {e : Stmt} {t t' : TS} (h : PS X e t) (i : ∀ D σ H, t' D σ H → t D σ H) : PS X e t' := ⟨fun pins s σ H D I q => h.run pins s σ H D I (i D σ H q)⟩
theorem PSs.imp {X : Cx} {e : List Stmt} {t t' : TS} (h : PSs X e t) (i : ∀ D σ H, t' D σ H → t D σ H) : PSs X e t' := ⟨fun pins s σ H D I q => h.run pins s σ H D I (i D σ H q)⟩
end Ft
/-! Ft2: expressions. -/
namespace Ft
open PySem L2 PySem.Spec PyProof.Rows

inductive Hd where
  | v (d : D)
  | s (i : Nat)
abbrev An := Rho → RE Hd
abbrev Ans := Rho → RE (List Hd)
def RepH (K : PySem.W.Frag) (σ : Sg) (F : Hp) : Hd → V → Prop
  | .v d, x => Rep K F d x
  | .s i, x => σ[i]? = some (some x)
inductive RepHs (K : PySem.W.Frag) (σ : Sg) (F : Hp) : List Hd → List V → Prop where
  | nil : RepHs K σ F [] []
  | cons {h : Hd} {v : V} {hs : List Hd} {vs : List V} : RepH K σ F h v → RepHs K σ F hs vs → RepHs K σ F (h :: hs) (v :: vs)
def look (ρ : Rho) : Hd → Option D
  | .v d => some d
  | .s i => match ρ[i]? with
    | some (.own m _) => some m.toD
    | _ => none
def looks (ρ : Rho) : List Hd → Option (List D)
  | [] => some []
  | h :: hs => match look ρ h with
    | some d => match looks ρ hs with
      | some ds => some (d :: ds)
      | none => none
    | none => none
/-- a tree that may be read now: frozen, or an own object -/
def RepB (K : PySem.W.Frag) (F H : Hp) (d : D) (v : V) : Prop := Rep K F d v ∨ ∃ a m, v = .ref a ∧ d = m.toD ∧ OwnAt K F H a m
inductive RepBs (K : PySem.W.Frag) (F H : Hp) : List D → List V → Prop where
  | nil : RepBs K F H [] []
  | cons {d : D} {v : V} {ds : List D} {vs : List V} : RepB K F H d v → RepBs K F H ds vs → RepBs K F H (d :: ds) (v :: vs)
section
variable {K : PySem.W.Frag} {ρ ρ' : Rho} {σ σ' : Sg} {F H F' H' : Hp}
theorem RepH.mono (e : Same F F') : ∀ {h : Hd} {v : V}, RepH K σ F h v → RepH K σ F' h v
  | .v d, v, h => Rep.mono e d v h
  | .s i, v, h => h
theorem RepHs.mono (e : Same F F') : ∀ {h : List Hd} {v : List V}, RepHs K σ F h v → RepHs K σ F' h v
  | _, _, .nil => .nil
  | _, _, .cons a t => .cons (a.mono e) (RepHs.mono e t)
theorem look_rep (s : SR K ρ σ F H) : ∀ {h : Hd} {v : V} {d : D}, RepH K σ F h v → look ρ h = some d → RepB K F H d v
  | .v d, v, d', h, e => by cases e; exact .inl h
  | .s i, v, d', h, e => by
    simp only [look] at e
    split at e
    · rename_i m b hm
      cases e
      obtain ⟨a, h1, h2⟩ := s.own i m b hm
      have : σ[i]? = some (some v) := h
      rw [h1] at this; cases this
      exact .inr ⟨a, m, rfl, rfl, h2⟩
    · cases e
theorem looks_rep (s : SR K ρ σ F H) : ∀ {h : List Hd} {v : List V} {d : List D}, RepHs K σ F h v → looks ρ h = some d → RepBs K F H d v
  | [], _, d', .nil, e => by cases e; exact .nil
  | h :: hs, _, d', .cons a t, e => by
    simp only [looks] at e
    split at e
    · rename_i d hd
      split at e
      · rename_i ds hds
        cases e
        exact .cons (look_rep s a hd) (looks_rep s t hds)
      · cases e
    · cases e
/-- read where it stands -/
theorem RepB.here (s : Same F H) {d : D} {v : V} (h : RepB K F H d v) : Rep K H d v := by
  rcases h with h | ⟨a, m, rfl, rfl, h⟩
  · exact h.mono s
  · exact h.rep s rfl
theorem RepB.fr {d : D} {v : V} (h : RepB K F H d v) (f : Fr F H F' H') : RepB K F' H' d v := by
  rcases h with h | ⟨a, m, rfl, rfl, h⟩
  · exact .inl (h.mono f.sub)
  · obtain ⟨o, ho⟩ := h.there
    exact .inr ⟨a, m, rfl, rfl, h.move f.sub (f.new a o ho h.free) fun o e => f.all _ _ e⟩
theorem RepBs.one {d : D} {vs : List V} (h : RepBs K F H [d] vs) : ∃ v, vs = [v] ∧ RepB K F H d v := by
  cases h with | cons a t => cases t; exact ⟨_, rfl, a⟩
theorem RepBs.two {d e : D} {vs : List V} (h : RepBs K F H [d, e] vs) : ∃ v w, vs = [v, w] ∧ RepB K F H d v ∧ RepB K F H e w := by
  cases h with | cons a t => cases t with | cons b u => cases u; exact ⟨_, _, rfl, a, b⟩
theorem RepBs.three {d e f : D} {vs : List V} (h : RepBs K F H [d, e, f] vs) : ∃ v w x, vs = [v, w, x] ∧ RepB K F H d v ∧ RepB K F H e w ∧ RepB K F H f x := by
  cases h with | cons a t => cases t with | cons b u => cases u with | cons c z => cases z; exact ⟨_, _, _, rfl, a, b, c⟩
/-- the items of a list that may be read: trees of the frozen heap -/
theorem RepB.list (s : Same F H) {ds : List D} {v : V} (h : RepB K F H (.list ds) v) : ∃ a vs, v = .ref a ∧ Rd H a (.lst vs) ∧ Reps K F ds vs := by
  rcases h with h | ⟨a, m, rfl, e, h⟩
  · simp only [Rep] at h
    obtain ⟨a, vs, rfl, q, r⟩ := h
    exact ⟨a, vs, rfl, rdSame s q, r⟩
  · cases m with
    | lst l =>
      simp only [Mo.toD, PyData.list.injEq] at e; subst e
      obtain ⟨_, vs, q, r⟩ := h
      exact ⟨a, vs, rfl, .inl q, r⟩
    | dK l => simp [Mo.toD] at e
    | dT l => simp [Mo.toD] at e
theorem RepB.tuple (s : Same F H) {ds : List D} {v : V} (h : RepB K F H (.tuple ds) v) : ∃ a vs, v = .ref a ∧ SqT K H a vs ∧ Reps K F ds vs := by
  rcases h with h | ⟨a, m, rfl, e, h⟩
  · simp only [Rep] at h
    obtain ⟨a, vs, rfl, q, r⟩ := h
    exact ⟨a, vs, rfl, SqT.of (s _ _ q), r⟩
  · cases m <;> simp [Mo.toD] at e
theorem RepB.int {i : Int} {v : V} (h : RepB K F H (.int i) v) : v = .int i := by
  rcases h with h | ⟨a, m, rfl, e, h⟩
  · simpa only [Rep] using h
  · cases m <;> simp [Mo.toD] at e
theorem RepB.bool {i : Bool} {v : V} (h : RepB K F H (.bool i) v) : v = .bl i := by
  rcases h with h | ⟨a, m, rfl, e, h⟩
  · simpa only [Rep] using h
  · cases m <;> simp [Mo.toD] at e
theorem RepB.str {i : Str} {v : V} (h : RepB K F H (.str i) v) : v = .str i := by
  rcases h with h | ⟨a, m, rfl, e, h⟩
  · simpa only [Rep] using h
  · cases m <;> simp [Mo.toD] at e
theorem RepB.none {v : V} (h : RepB K F H .none v) : v = .non := by
  rcases h with h | ⟨a, m, rfl, e, h⟩
  · simpa only [Rep] using h
  · cases m <;> simp [Mo.toD] at e
theorem rep_int {i : Int} : Rep K F (.int i) (.int i) := by simp only [Rep]
theorem rep_bool {i : Bool} : Rep K F (.bool i) (.bl i) := by simp only [Rep]
theorem rep_str {i : Str} : Rep K F (.str i) (.str i) := by simp only [Rep]
theorem rep_none : Rep K F .none .non := by simp only [Rep]
theorem rep_list {a : Addr} {ds : List D} {vs : List V} (h : F a = some (.lst vs)) (r : Reps K F ds vs) : Rep K F (.list ds) (.ref a) := by
  simp only [Rep]; exact ⟨a, vs, rfl, .inl h, r⟩
theorem rep_tuple {a : Addr} {ds : List D} {vs : List V} (h : F a = some (.tup vs)) (r : Reps K F ds vs) : Rep K F (.tuple ds) (.ref a) := by
  simp only [Rep]; exact ⟨a, vs, rfl, h, r⟩
/-- a new frozen tuple, list -/
theorem new_tuple {a : Addr} {ds : List D} {vs : List V} (s : Same F H) (n : H a = none) (r : Reps K F ds vs) : Fr F H (upd F a (.tup vs)) (upd H a (.tup vs)) ∧ Rep K (upd F a (.tup vs)) (.tuple ds) (.ref a) :=
  ⟨Fr.new1 s n, rep_tuple upd_same (Reps.mono (upd_same' (sub_none s n)) _ _ r)⟩
theorem new_list {a : Addr} {ds : List D} {vs : List V} (s : Same F H) (n : H a = none) (r : Reps K F ds vs) : Fr F H (upd F a (.lst vs)) (upd H a (.lst vs)) ∧ Rep K (upd F a (.lst vs)) (.list ds) (.ref a) :=
  ⟨Fr.new1 s n, rep_list upd_same (Reps.mono (upd_same' (sub_none s n)) _ _ r)⟩
end

/-! ### readings of arguments -/
section
variable (K : PySem.W.Frag) (W : Wt)
abbrev RH : Sg → Hp → Hd → V → Prop := fun σ F d v => RepH K σ F d v
abbrev RHs : Sg → Hp → List Hd → List V → Prop := fun σ F d v => RepHs K σ F d v
def tA (d : An) : TE := tG K W (RH K) d
def tAs (d : Ans) : TA := tG K W (RHs K) d
end
def aE (d : Dn) : An := fun ρ => (d ρ).bind fun a ρ' => .ok (.v a) ρ'
def aR (i : Nat) : An := fun ρ => match ρ[i]? with
  | some (.own _ _) => .ok (.s i) ρ
  | _ => .no
def aNil : Ans := fun ρ => .ok [] ρ
def aCons (a : An) (t : Ans) : Ans := fun ρ => (a ρ).bind fun h ρ1 => (t ρ1).bind fun hs ρ2 => .ok (h :: hs) ρ2

section
variable {X : Cx} {W : Wt} {e e2 : Expr} {es : List Expr} {d d2 : Dn} {a b : An} {as : Ans} {pos : Pos}
theorem da_e (h : PE X e (tE X.K W d)) : PE X e (tA X.K W (aE d)) := PE.imp h fun σ H Q ⟨ρ, F, s, q⟩ =>
  Af.bind s q fun a v ρ1 F1 H1 g r z => z.okk g.sr r
theorem da_r (i : Nat) {x : Str} (hN : X.N[i]? = some x := by rfl) (hv : Vis X.env.scope x := by first | exact Or.inl rfl | exact Or.inr (Or.inl rfl) | exact Or.inr (Or.inr rfl)) (hd : (x == ("__debug__" : Str)) = false := by decide)
    (hcd : (x == ("__classdict__" : Str)) = false := by decide) : PE X (.Name x pos) (tA X.K W (aR i)) := PE.imp (pe_var hN hv hd hcd) fun σ H Q ⟨ρ, F, s, q⟩ => by
  cases hr : ρ[i]? with
  | none => simp only [aR, hr] at q; exact q.elim
  | some l =>
    cases l with
    | un => simp only [aR, hr] at q; exact q.elim
    | val d => simp only [aR, hr] at q; exact q.elim
    | own m b =>
      simp only [aR, hr] at q
      obtain ⟨a, h1, h2⟩ := s.own i m b hr
      exact ⟨_, h1, q.okk s h1⟩
theorem das_nil : PA X [] (tAs X.K W aNil) := PA.imp pa_nil fun σ H Q ⟨ρ, F, s, q⟩ => Af.okk s q .nil
theorem das_cons (h : PE X e (tA X.K W a)) (t : PA X es (tAs X.K W as)) (hs : starEach (e :: es) X.env = (false, eval e X.env) :: starEach es X.env := by rfl) : PA X (e :: es) (tAs X.K W (aCons a as)) :=
  PA.imp (pa_cons h t hs) fun σ H Q ⟨ρ, F, s, q⟩ => Af.bind s q fun h v ρ1 F1 H1 g1 r1 z1 =>
    Af.bind g1.sr z1 fun hs vs ρ2 F2 H2 g2 r2 z2 => z2.okk g2.sr (.cons (r1.mono g2.sub) r2)
end

/-! ### operators by trees -/
def P1 (K : PySem.W.Frag) (r : V → Hp → VK → Prop) (p : D → Option D) : Prop :=
  ∀ F H x d e Q, Same F H → RepB K F H d x → p d = some e → (∀ v F' H', Fr F H F' H' → Rep K F' e v → Q v H') → r x H Q
def P2 (K : PySem.W.Frag) (r : R2) (p : D → D → Option D) : Prop :=
  ∀ F H x y d d2 e Q, Same F H → RepB K F H d x → RepB K F H d2 y → p d d2 = some e → (∀ v F' H', Fr F H F' H' → Rep K F' e v → Q v H') → r x y H Q
def PN (K : PySem.W.Frag) (r : List V → Hp → VK → Prop) (p : List D → Option D) : Prop :=
  ∀ F H xs ds e Q, Same F H → RepBs K F H ds xs → p ds = some e → (∀ v F' H', Fr F H F' H' → Rep K F' e v → Q v H') → r xs H Q
/-- the answer by one option -/
def ans {α : Type} (o : Option α) (ρ : Rho) : RE α := match o with
  | some d => .ok d ρ
  | none => .no
def dOp1 (p : D → Option D) (a : An) : Dn := fun ρ => (a ρ).bind fun h ρ1 => ans ((look ρ1 h).bind p) ρ1
def dOp2 (p : D → D → Option D) (a b : An) : Dn := fun ρ => (a ρ).bind fun h ρ1 => (b ρ1).bind fun k ρ2 => ans ((look ρ2 h).bind fun d => (look ρ2 k).bind fun e => p d e) ρ2
def dOpN (p : List D → Option D) (a : Ans) : Dn := fun ρ => (a ρ).bind fun h ρ1 => ans ((looks ρ1 h).bind p) ρ1
theorem ans_some {K : PySem.W.Frag} {W : Wt} {α β : Type} {R : Sg → Hp → α → β → Prop} {ρ ρ' : Rho} {σ : Sg} {F H : Hp} {Q : β → Hp → Prop} {o : Option α} (q : Af K W R ρ σ F H Q (ans o ρ')) : ∃ z, o = some z ∧ Af K W R ρ σ F H Q (.ok z ρ') := by
  cases o with
  | none => exact q.elim
  | some z => exact ⟨z, rfl, q⟩
section
variable {X : Cx} {W : Wt} {e e2 : Expr} {es : List Expr} {d d2 : Dn} {a b : An} {as : Ans} {pos : Pos}
/-- from the readings of two parts and a rule by values to the reading of the whole -/
theorem op2_imp {r : R2} {p : D → D → Option D} (hp : P2 X.K r p) {σ : Sg} {H : Hp} {Q : VK} (q : tE X.K W (dOp2 p a b) σ H Q) : tOp r (tA X.K W a) (tA X.K W b) σ H Q := by
  obtain ⟨ρ, F, s, q⟩ := q
  refine Af.bind s q fun h v ρ1 F1 H1 g1 r1 z1 => Af.bind g1.sr z1 fun k w ρ2 F2 H2 g2 r2 z2 => ?_
  obtain ⟨z, e, q⟩ := ans_some z2
  obtain ⟨x, hx, e⟩ := Option.bind_eq_some_iff.mp e
  obtain ⟨y, hy, e⟩ := Option.bind_eq_some_iff.mp e
  exact hp F2 H2 v w x y z Q g2.sr.sub (look_rep g2.sr (r1.mono g2.sub) hx) (look_rep g2.sr r2 hy) e fun u F' H' f ru => q.okf g2.sr f ru
theorem op1_imp {r : V → Hp → VK → Prop} {p : D → Option D} (hp : P1 X.K r p) {σ : Sg} {H : Hp} {Q : VK} (q : tE X.K W (dOp1 p a) σ H Q) : tUn r (tA X.K W a) σ H Q := by
  obtain ⟨ρ, F, s, q⟩ := q
  refine Af.bind s q fun h v ρ1 F1 H1 g1 r1 z1 => ?_
  obtain ⟨z, e, q⟩ := ans_some z1
  obtain ⟨x, hx, e⟩ := Option.bind_eq_some_iff.mp e
  exact hp F1 H1 v x z Q g1.sr.sub (look_rep g1.sr r1 hx) e fun u F' H' f ru => q.okf g1.sr f ru
theorem opN_imp {r : List V → Hp → VK → Prop} {p : List D → Option D} (hp : PN X.K r p) {σ : Sg} {H : Hp} {Q : VK} (q : tE X.K W (dOpN p as) σ H Q) : tCB r (tAs X.K W as) σ H Q := by
  obtain ⟨ρ, F, s, q⟩ := q
  refine Af.bind s q fun h v ρ1 F1 H1 g1 r1 z1 => ?_
  obtain ⟨z, e, q⟩ := ans_some z1
  obtain ⟨x, hx, e⟩ := Option.bind_eq_some_iff.mp e
  exact hp F1 H1 v x z Q g1.sr.sub (looks_rep g1.sr r1 hx) e fun u F' H' f ru => q.okf g1.sr f ru

theorem de_op {op : Operator} {r : R2} {p : D → D → Option D} (ho : OpR X (binaryOp op) r) (hp : P2 X.K r p) (ha : PE X e (tA X.K W a)) (hb : PE X e2 (tA X.K W b)) : PE X (.BinOp e op e2 pos) (tE X.K W (dOp2 p a b)) :=
  PE.imp (pe_op ho ha hb) fun _ _ _ q => op2_imp hp q
theorem de_cmp {op : CmpOp} {r : R2} {p : D → D → Option D} (ho : OpR X (compareOp op) r) (hp : P2 X.K r p) (ha : PE X e (tA X.K W a)) (hb : PE X e2 (tA X.K W b)) (hm : behindInMarks op e2 = false) : PE X (.Compare e [op] [e2] pos) (tE X.K W (dOp2 p a b)) :=
  PE.imp (pe_cmpR ho ha hb hm) fun _ _ _ q => op2_imp hp q
theorem de_un {op : UnaryOp} {r : V → Hp → VK → Prop} {p : D → Option D} (ho : UnR X (unaryOp op) r) (hp : P1 X.K r p) (ha : PE X e (tA X.K W a)) : PE X (.UnaryOp op e pos) (tE X.K W (dOp1 p a)) :=
  PE.imp (pe_un ho ha) fun _ _ _ q => op1_imp hp q
theorem de_ix {r : R2} {p : D → D → Option D} (ho : IxR X r) (hp : P2 X.K r p) (ha : PE X e (tA X.K W a)) (hb : PE X e2 (tA X.K W b)) (hs : PlainIx e2) : PE X (.Subscript e e2 pos) (tE X.K W (dOp2 p a b)) :=
  PE.imp (pe_ix ho ha hb hs) fun _ _ _ q => op2_imp hp q
end
/-! ### tests -/
def dTv (d : Dn) : Tn := fun ρ => (d ρ).bind fun x ρ' => match x with
  | .bool b => .ok b ρ'
  | _ => .no
def tnNot (t : Tn) : Tn := fun ρ => (t ρ).bind fun b ρ' => .ok (!b) ρ'
def tnAnd (t u : Tn) : Tn := fun ρ => (t ρ).bind fun b ρ' => if b = true then u ρ' else .ok false ρ'
def tnOr (t u : Tn) : Tn := fun ρ => (t ρ).bind fun b ρ' => if b = true then .ok true ρ' else u ρ'
/-- as values -/
def dAnd (d : Dn) (u : Dn) : Dn := fun ρ => (dTv d ρ).bind fun b ρ' => if b = true then u ρ' else .ok (.bool false) ρ'
def dOr (d : Dn) (u : Dn) : Dn := fun ρ => (dTv d ρ).bind fun b ρ' => if b = true then .ok (.bool true) ρ' else u ρ'
def dNot (d : Dn) : Dn := fun ρ => (dTv d ρ).bind fun b ρ' => .ok (.bool (!b)) ρ'
def dIf (t : Tn) (d u : Dn) : Dn := fun ρ => (t ρ).bind fun b ρ' => if b = true then d ρ' else u ρ'
section
variable {X : Cx} {W : Wt} {e e2 e3 : Expr} {es rest : List Expr} {d d2 : Dn} {a b : An} {as : Ans} {pos : Pos} {t u : Tn}
/-- a value that is a truth value -/
theorem tv_bind {γ δ : Type} {R2 : Sg → Hp → γ → δ → Prop} {Q2 : δ → Hp → Prop} {ρ : Rho} {σ : Sg} {F H : Hp} {f : Bool → Rho → RE γ} {t : TE} (i : ∀ σ H Q, tE X.K W d σ H Q → t σ H Q) (s : SR X.K ρ σ F H) (q : Af X.K W R2 ρ σ F H Q2 ((dTv d ρ).bind f)) {P : Bool → Hp → Prop}
    (k : ∀ b ρ1 F1 H1, Go X.K ρ σ F H ρ1 σ F1 H1 → Af X.K W R2 ρ1 σ F1 H1 Q2 (f b ρ1) → P b H1) : t σ H fun x H1 => ∃ c, x = .bl c ∧ P c H1 := by
  have q' : Af X.K W R2 ρ σ F H Q2 ((d ρ).bind fun x ρ' => (match x with | .bool b => RE.ok b ρ' | _ => .no : RE Bool).bind f) := by
    unfold dTv at q
    cases hd : d ρ with
    | no => rw [hd] at q; exact q
    | ex x ρ' => rw [hd] at q; exact q
    | ok x ρ1 => rw [hd] at q; exact q
  refine i _ _ _ (Af.bind s q' fun x v ρ1 F1 H1 g r z => ?_)
  cases x with
  | bool b => exact ⟨b, by simpa only [Rep] using r, k b ρ1 F1 H1 g z⟩
  | none => exact z.elim
  | int _ => exact z.elim
  | str _ => exact z.elim
  | list _ => exact z.elim
  | tuple _ => exact z.elim
  | dict _ => exact z.elim
theorem RE.bind_ok {α : Type} (r : RE α) : (r.bind fun a ρ => .ok a ρ) = r := by cases r <;> rfl
theorem tv_imp {t : TE} (i : ∀ σ H Q, tE X.K W d σ H Q → t σ H Q) {σ : Sg} {H : Hp} {Q : Bool → Hp → Prop} (q : tT X.K W (dTv d) σ H Q) : t σ H fun x H1 => ∃ c, x = .bl c ∧ Q c H1 := by
  obtain ⟨ρ, F, s, q⟩ := q
  exact tv_bind (f := fun b ρ => .ok b ρ) i s (by rw [RE.bind_ok]; exact q) fun b ρ1 F1 H1 g z => z.okk g.sr rfl
theorem dt_cmp {op : CmpOp} {r : R2} {p : D → D → Option D} (ho : OpR X (compareOp op) r) (hp : P2 X.K r p) (ha : PE X e (tA X.K W a)) (hb : PE X e2 (tA X.K W b)) (hm : behindInMarks op e2 = false) : PT X (.Compare e [op] [e2] pos) (tT X.K W (dTv (dOp2 p a b))) :=
  PT.imp (pt_cmpR ho ha hb hm) fun _ _ _ q => tv_imp (fun _ _ _ z => op2_imp hp z) q
/-- an expression that is a call, a name, an item -/
theorem dt_val (h : PE X e (tE X.K W d)) (he : ∀ whole, isTrue e X.env whole = (do let v ← whole; standAt e.pos; holding [v] (truthy v)) := by intro _; rfl) : PT X e (tT X.K W (dTv d)) :=
  PT.imp (pt_val h he) fun _ _ _ q => tv_imp (fun _ _ _ z => z) q
theorem dt_not (h : PT X e (tT X.K W t)) : PT X (.UnaryOp .Not e pos) (tT X.K W (tnNot t)) := PT.imp (pt_not h) fun σ H Q ⟨ρ, F, s, q⟩ =>
  Af.bind s q fun b c ρ1 F1 H1 g r z => z.okk g.sr (by rw [r])
theorem and_imp {σ : Sg} {H : Hp} {Q : Bool → Hp → Prop} (q : tT X.K W (tnAnd t u) σ H Q) : tAnd (tT X.K W t) (tT X.K W u) σ H Q := by
  obtain ⟨ρ, F, s, q⟩ := q
  refine Af.bind s q fun b c ρ1 F1 H1 g r z => ?_
  subst r
  cases c with
  | false => rw [if_neg Bool.false_ne_true] at z ⊢; exact z.okk g.sr rfl
  | true => rw [if_pos rfl] at z ⊢; exact tG.of g.sr z
theorem or_imp {σ : Sg} {H : Hp} {Q : Bool → Hp → Prop} (q : tT X.K W (tnOr t u) σ H Q) : tOr (tT X.K W t) (tT X.K W u) σ H Q := by
  obtain ⟨ρ, F, s, q⟩ := q
  refine Af.bind s q fun b c ρ1 F1 H1 g r z => ?_
  subst r
  cases c with
  | true => rw [if_pos rfl] at z ⊢; exact z.okk g.sr rfl
  | false => rw [if_neg Bool.false_ne_true] at z ⊢; exact tG.of g.sr z
theorem dw_and1 (h : PT X e (tT X.K W t)) : PW X (.BoolOp .And [e] pos) (tT X.K W t) := pw_and1 h
theorem dw_or1 (h : PT X e (tT X.K W t)) : PW X (.BoolOp .Or [e] pos) (tT X.K W t) := pw_or1 h
theorem dw_and (h : PT X e (tT X.K W t)) (h2 : PW X (.BoolOp .And (e2 :: rest) pos) (tT X.K W u)) : PW X (.BoolOp .And (e :: e2 :: rest) pos) (tT X.K W (tnAnd t u)) :=
  ⟨fun wh pins s σ H Q I q => (pw_and h h2).run wh pins s σ H Q I (and_imp q)⟩
theorem dw_or (h : PT X e (tT X.K W t)) (h2 : PW X (.BoolOp .Or (e2 :: rest) pos) (tT X.K W u)) : PW X (.BoolOp .Or (e :: e2 :: rest) pos) (tT X.K W (tnOr t u)) :=
  ⟨fun wh pins s σ H Q I q => (pw_or h h2).run wh pins s σ H Q I (or_imp q)⟩
theorem dt_w (h : PW X e (tT X.K W t)) : PT X e (tT X.K W t) := h.pt
theorem de_one {op} (h : PE X e (tE X.K W d)) : PE X (.BoolOp op [e] pos) (tE X.K W d) := pe_one h
theorem de_and (h : PE X e (tE X.K W d)) (h2 : PE X (.BoolOp .And (e2 :: rest) pos) (tE X.K W d2)) : PE X (.BoolOp .And (e :: e2 :: rest) pos) (tE X.K W (dAnd d d2)) :=
  PE.imp (pe_and h h2) fun σ H Q ⟨ρ, F, s, q⟩ => by
    refine tv_bind (fun _ _ _ z => z) s q fun b ρ1 F1 H1 g z => ?_
    cases b with
    | false => rw [if_neg Bool.false_ne_true] at z ⊢; exact z.okk g.sr rep_bool
    | true => rw [if_pos rfl] at z ⊢; exact tG.of g.sr z
theorem de_or (h : PE X e (tE X.K W d)) (h2 : PE X (.BoolOp .Or (e2 :: rest) pos) (tE X.K W d2)) : PE X (.BoolOp .Or (e :: e2 :: rest) pos) (tE X.K W (dOr d d2)) :=
  PE.imp (pe_or h h2) fun σ H Q ⟨ρ, F, s, q⟩ => by
    refine tv_bind (fun _ _ _ z => z) s q fun b ρ1 F1 H1 g z => ?_
    cases b with
    | true => rw [if_pos rfl] at z ⊢; exact z.okk g.sr rep_bool
    | false => rw [if_neg Bool.false_ne_true] at z ⊢; exact tG.of g.sr z
theorem de_not (h : PE X e (tE X.K W d)) : PE X (.UnaryOp .Not e pos) (tE X.K W (dNot d)) :=
  PE.imp (pe_not h) fun σ H Q ⟨ρ, F, s, q⟩ => tv_bind (fun _ _ _ z => z) s q fun b ρ1 F1 H1 g z => z.okk g.sr rep_bool
theorem de_if (hc : PT X e (tT X.K W t)) (ha : PE X e2 (tE X.K W d)) (hb : PE X e3 (tE X.K W d2)) : PE X (.IfExp e e2 e3 pos) (tE X.K W (dIf t d d2)) :=
  PE.imp (pe_ifExp hc ha hb) fun σ H Q ⟨ρ, F, s, q⟩ => by
    refine Af.bind s q fun b c ρ1 F1 H1 g r z => ?_
    subst r
    cases c with
    | true => rw [if_pos rfl] at z ⊢; exact tG.of g.sr z
    | false => rw [if_neg Bool.false_ne_true] at z ⊢; exact tG.of g.sr z
end
/-! ### names, constants, tuples, lists -/
def dVar (i : Nat) : Dn := fun ρ => match ρ[i]? with
  | some (.val d) => .ok d ρ
  | _ => .no
def dC (d : D) : Dn := fun ρ => .ok d ρ
/-- an own object of mine is frozen -/
def dMov (i : Nat) : Dn := fun ρ => match ρ[i]? with
  | some (.own m true) => .ok m.toD (ρ.set i (.val m.toD))
  | _ => .no
theorem de_fz {X : Cx} {W : Wt} {e : Expr} {d : Fn} (h : PE X e (tF X.K W d)) : PE X e (tE X.K W (dFz d)) := PE.imp h fun _ _ _ q => fz_imp q
/-- values of a display -/
abbrev Vn := Rho → RE (List D)
abbrev RV (K : PySem.W.Frag) : Sg → Hp → List D → List V → Prop := fun _ F d v => Reps K F d v
def tV (K : PySem.W.Frag) (W : Wt) (d : Vn) : TA := tG K W (RV K) d
def vNil : Vn := fun ρ => .ok [] ρ
def vCons (a : Dn) (t : Vn) : Vn := fun ρ => (a ρ).bind fun h ρ1 => (t ρ1).bind fun hs ρ2 => .ok (h :: hs) ρ2
def dTup (a : Vn) : Dn := fun ρ => (a ρ).bind fun l ρ1 => ans (if l.length ≤ sizeLine then some (.tuple l) else none) ρ1
def fLst (a : Vn) : Fn := fun ρ => (a ρ).bind fun l ρ1 => ans (if l.length ≤ sizeLine then some (.lst l) else none) ρ1
section
variable {X : Cx} {W : Wt} {e e2 e3 : Expr} {es rest : List Expr} {d d2 : Dn} {pos : Pos} {v : Vn}
theorem de_var (i : Nat) {x : Str} (hN : X.N[i]? = some x := by rfl) (hv : Vis X.env.scope x := by first | exact Or.inl rfl | exact Or.inr (Or.inl rfl) | exact Or.inr (Or.inr rfl)) (hd : (x == ("__debug__" : Str)) = false := by decide)
    (hcd : (x == ("__classdict__" : Str)) = false := by decide) : PE X (.Name x pos) (tE X.K W (dVar i)) := PE.imp (pe_var hN hv hd hcd) fun σ H Q ⟨ρ, F, s, q⟩ => by
  cases hr : ρ[i]? with
  | none => simp only [dVar, hr] at q; exact q.elim
  | some l =>
    cases l with
    | un => simp only [dVar, hr] at q; exact q.elim
    | own m b => simp only [dVar, hr] at q; exact q.elim
    | val d =>
      simp only [dVar, hr] at q
      obtain ⟨a, h1, h2⟩ := s.val i d hr
      exact ⟨_, h1, q.okk s h2⟩
theorem de_mov (i : Nat) {x : Str} (hN : X.N[i]? = some x := by rfl) (hv : Vis X.env.scope x := by first | exact Or.inl rfl | exact Or.inr (Or.inl rfl) | exact Or.inr (Or.inr rfl)) (hd : (x == ("__debug__" : Str)) = false := by decide)
    (hcd : (x == ("__classdict__" : Str)) = false := by decide) : PE X (.Name x pos) (tE X.K W (dMov i)) := PE.imp (pe_var hN hv hd hcd) fun σ H Q ⟨ρ, F, s, q⟩ => by
  cases hr : ρ[i]? with
  | none => simp only [dMov, hr] at q; exact q.elim
  | some l =>
    cases l with
    | un => simp only [dMov, hr] at q; exact q.elim
    | val d => simp only [dMov, hr] at q; exact q.elim
    | own m b =>
      cases b with
      | false => simp only [dMov, hr] at q; exact q.elim
      | true =>
        simp only [dMov, hr] at q
        obtain ⟨a, F', h1, h2, g⟩ := s.mov hr
        exact ⟨_, h1, q _ _ _ g h2⟩
theorem de_c {p : D} {x : V} (h : PE X e (tC x)) (r : Rep X.K (fun _ => none) p x) : PE X e (tE X.K W (dC p)) := PE.imp h fun σ H Q ⟨ρ, F, s, q⟩ => q.okk s (Rep.mono (fun _ _ z => by cases z) _ _ r)
theorem de_int {i k} : PE X (.Constant (.int i) k pos) (tE X.K W (dC (.int i))) := de_c pe_int rep_int
theorem de_bl {i k} : PE X (.Constant (.bool i) k pos) (tE X.K W (dC (.bool i))) := de_c pe_bl rep_bool
theorem de_str {i k} : PE X (.Constant (.str i) k pos) (tE X.K W (dC (.str i))) := de_c pe_str rep_str
theorem de_non {k} : PE X (.Constant .none k pos) (tE X.K W (dC .none)) := de_c pe_non rep_none
theorem dvs_nil : PA X [] (tV X.K W vNil) := PA.imp pa_nil fun σ H Q ⟨ρ, F, s, q⟩ => Af.okk s q .nil
theorem dvs_cons (h : PE X e (tE X.K W d)) (t : PA X es (tV X.K W v)) (hs : starEach (e :: es) X.env = (false, eval e X.env) :: starEach es X.env := by rfl) : PA X (e :: es) (tV X.K W (vCons d v)) :=
  PA.imp (pa_cons h t hs) fun σ H Q ⟨ρ, F, s, q⟩ => Af.bind s q fun h v ρ1 F1 H1 g1 r1 z1 =>
    Af.bind g1.sr z1 fun hs vs ρ2 F2 H2 g2 r2 z2 => z2.okk g2.sr (.cons (Rep.mono g2.sub _ _ r1) r2)
theorem de_tup {x1} (h : PA X es (tV X.K W v)) : PE X (.Tuple es x1 pos) (tE X.K W (dTup v)) :=
  PE.imp (pe_tup h) fun σ H Q ⟨ρ, F, s, q⟩ => Af.bind s q fun l vs ρ1 F1 H1 g1 r1 z1 => by
    obtain ⟨z, e, q⟩ := ans_some z1
    by_cases hl : l.length ≤ sizeLine
    · rw [if_pos hl] at e; cases e
      refine ⟨by rw [← r1.length]; exact hl, fun p hp => ?_⟩
      obtain ⟨f, r⟩ := new_tuple g1.sr.sub hp r1
      exact q.okf g1.sr f r
    · rw [if_neg hl] at e; cases e
theorem df_lst (h : PA X es (tV X.K W v)) : PE X (.List es pos) (tF X.K W (fLst v)) :=
  PE.imp (pe_lst h) fun σ H Q ⟨ρ, F, s, q⟩ => AfF.bind s q fun l vs ρ1 F1 H1 g1 r1 z1 => by
    by_cases hl : l.length ≤ sizeLine
    · rw [if_pos hl] at z1
      exact ⟨by rw [← r1.length]; exact hl, fun p hp => AfF.new g1.sr z1 hp r1⟩
    · rw [if_neg hl] at z1; exact z1.elim
end
end Ft
/-! Ft3: statements. -/
namespace Ft
open PySem L2 PySem.Spec PyProof.Rows

def notIo (ρ : Rho) (i : Nat) : Bool := match ρ[i]? with
  | some (.own _ false) => false
  | some _ => true
  | none => false
section
variable {K : PySem.W.Frag} {ρ ρ' ρ0 : Rho} {σ σ' σ0 : Sg} {F H F' H' F0 H0 : Hp} {a : Addr}
theorem notIo_lt {i : Nat} (h : notIo ρ i = true) : i < ρ.length := by
  unfold notIo at h
  cases e : ρ[i]? with
  | none => rw [e] at h; cases h
  | some x => exact (List.getElem?_eq_some_iff.mp e).1
theorem notIo_ne {i : Nat} (h : notIo ρ i = true) (m : Mo) : ρ[i]? ≠ some (.own m false) := fun e => by
  unfold notIo at h
  rw [e] at h; cases h
theorem get_set {ρ : List α} {i j : Nat} {y x : α} (hi : i < ρ.length) (z : (ρ.set i y)[j]? = some x) : (j = i ∧ x = y) ∨ (j ≠ i ∧ ρ[j]? = some x) := by
  by_cases hj : i = j
  · subst hj; rw [List.getElem?_set_self hi] at z; exact .inl ⟨rfl, (Option.some.inj z).symm⟩
  · rw [List.getElem?_set_ne hj] at z; exact .inr ⟨fun q => hj q.symm, z⟩
/-- a slot gets a value -/
theorem SR.setV {i : Nat} {d : D} {v : V} (s : SR K ρ σ F H) (h : notIo ρ i = true) (r : Rep K F d v) : Go K ρ σ F H (ρ.set i (.val d)) (σ.set i (some v)) F H := by
  have hi := notIo_lt h
  have hs : i < σ.length := by rw [s.len]; exact hi
  have sub : ∀ b, Own (ρ.set i (.val d)) (σ.set i (some v)) b → Own ρ σ b := fun b ⟨j, m', k, e1, e2⟩ => by
    rcases get_set hi e1 with ⟨hj, z⟩ | ⟨hj, z⟩
    · cases z
    · rw [List.getElem?_set_ne (Ne.symm hj)] at e2
      exact ⟨j, m', k, z, e2⟩
  refine ⟨Same.refl _, fun b u e n => ⟨e, fun _ => id, fun q => n (sub b q)⟩, ⟨s.sub, by rw [List.length_set, List.length_set]; exact s.len, fun j d' z => ?_, fun j m' k z => ?_, fun j1 j2 m1 k1 m2 k2 c z1 z2 q1 q2 => ?_⟩, fun b u z => ⟨u, z⟩, fun j m' z => ?_⟩
  · rcases get_set hi z with ⟨hj, y⟩ | ⟨hj, y⟩
    · cases y; subst hj; exact ⟨v, by rw [List.getElem?_set_self hs], r⟩
    · rw [List.getElem?_set_ne (Ne.symm hj)]; exact s.val j d' y
  · rcases get_set hi z with ⟨hj, y⟩ | ⟨hj, y⟩
    · cases y
    · rw [List.getElem?_set_ne (Ne.symm hj)]; exact s.own j m' k y
  · rcases get_set hi z1 with ⟨hj1, y1⟩ | ⟨hj1, y1⟩
    · cases y1
    · rcases get_set hi z2 with ⟨hj2, y2⟩ | ⟨hj2, y2⟩
      · cases y2
      · rw [List.getElem?_set_ne (Ne.symm hj1)] at q1
        rw [List.getElem?_set_ne (Ne.symm hj2)] at q2
        exact s.inj j1 j2 _ _ _ _ c y1 y2 q1 q2
  · have hj : i ≠ j := fun q => by subst q; exact notIo_ne h m' z
    exact ⟨m', by rw [List.getElem?_set_ne hj]; exact z, by rw [List.getElem?_set_ne hj]⟩
/-- a slot gets a new object -/
theorem Go.setO {i : Nat} {m : Mo} (g : Go K ρ0 σ0 F0 H0 ρ σ F H) (h : notIo ρ i = true) (o : OwnAt K F H a m) (n0 : H0 a = none) (no : ¬ Own ρ σ a) : Go K ρ0 σ0 F0 H0 (ρ.set i (.own m true)) (σ.set i (some (.ref a))) F H := by
  have hi := notIo_lt h
  have s := g.sr
  have hs : i < σ.length := by rw [s.len]; exact hi
  have sub : ∀ b, Own (ρ.set i (.own m true)) (σ.set i (some (.ref a))) b → Own ρ σ b ∨ b = a := fun b ⟨j, m', k, e1, e2⟩ => by
    rcases get_set hi e1 with ⟨hj, z⟩ | ⟨hj, z⟩
    · subst hj; rw [List.getElem?_set_self hs] at e2; cases e2; exact .inr rfl
    · rw [List.getElem?_set_ne (Ne.symm hj)] at e2
      exact .inl ⟨j, m', k, z, e2⟩
  refine ⟨g.sub, fun b u e n => ?_, ⟨s.sub, by rw [List.length_set, List.length_set]; exact s.len, fun j d' z => ?_, fun j m' k z => ?_, fun j1 j2 m1 k1 m2 k2 c z1 z2 q1 q2 => ?_⟩, g.there, fun j m' z => ?_⟩
  · obtain ⟨h1, h2, h3⟩ := g.keep b u e n
    exact ⟨h1, h2, fun q => (sub b q).elim h3 fun z => by subst z; rw [n0] at e; cases e⟩
  · rcases get_set hi z with ⟨hj, y⟩ | ⟨hj, y⟩
    · cases y
    · rw [List.getElem?_set_ne (Ne.symm hj)]; exact s.val j d' y
  · rcases get_set hi z with ⟨hj, y⟩ | ⟨hj, y⟩
    · cases y; subst hj; exact ⟨a, by rw [List.getElem?_set_self hs], o⟩
    · rw [List.getElem?_set_ne (Ne.symm hj)]; exact s.own j m' k y
  · rcases get_set hi z1 with ⟨hj1, y1⟩ | ⟨hj1, y1⟩
    · rcases get_set hi z2 with ⟨hj2, y2⟩ | ⟨hj2, y2⟩
      · rw [hj1, hj2]
      · subst hj1
        rw [List.getElem?_set_self hs] at q1
        rw [List.getElem?_set_ne (Ne.symm hj2)] at q2
        cases q1
        exact absurd ⟨j2, _, _, y2, q2⟩ no
    · rcases get_set hi z2 with ⟨hj2, y2⟩ | ⟨hj2, y2⟩
      · subst hj2
        rw [List.getElem?_set_self hs] at q2
        rw [List.getElem?_set_ne (Ne.symm hj1)] at q1
        cases q2
        exact absurd ⟨j1, _, _, y1, q1⟩ no
      · rw [List.getElem?_set_ne (Ne.symm hj1)] at q1
        rw [List.getElem?_set_ne (Ne.symm hj2)] at q2
        exact s.inj j1 j2 _ _ _ _ c y1 y2 q1 q2
  · obtain ⟨m2, e1, e2⟩ := g.io j m' z
    have hj : i ≠ j := fun q => by subst q; exact notIo_ne h m2 e1
    exact ⟨m2, by rw [List.getElem?_set_ne hj]; exact e1, by rw [List.getElem?_set_ne hj]; exact e2⟩
/-- the object of a slot is changed -/
theorem SR.change {i : Nat} {m m' : Mo} {k : Bool} {o' : HO} (s : SR K ρ σ F H) (e : ρ[i]? = some (.own m k)) (ha : σ[i]? = some (some (.ref a))) (n : OwnAt K F (upd H a o') a m') : Go K ρ σ F H (ρ.set i (.own m' k)) σ F (upd H a o') := by
  have hi : i < ρ.length := (List.getElem?_eq_some_iff.mp e).1
  have own : Own ρ σ a := ⟨i, m, k, e, ha⟩
  have sub : ∀ b, Own (ρ.set i (.own m' k)) σ b → Own ρ σ b := fun b ⟨j, m2, k2, e1, e2⟩ => by
    rcases get_set hi e1 with ⟨hj, z⟩ | ⟨hj, z⟩
    · subst hj; exact ⟨j, m, k, e, e2⟩
    · exact ⟨j, m2, k2, z, e2⟩
  refine ⟨Same.refl _, fun b u eb hn => ⟨by rw [upd_ne (show b ≠ a from fun z => hn (by rw [z]; exact own))]; exact eb, fun _ => id, fun q => hn (sub b q)⟩, ⟨fun b u q => ?_, by rw [List.length_set]; exact s.len, fun j d z => ?_, fun j m2 k2 z => ?_, fun j1 j2 m1 k1 m2 k2 c z1 z2 q1 q2 => ?_⟩, fun b u z => ?_, fun j m2 z => ?_⟩
  · have : b ≠ a := fun z => by rw [z, n.free] at q; cases q
    rw [upd_ne this]; exact s.sub _ _ q
  · rcases get_set hi z with ⟨hj, y⟩ | ⟨hj, y⟩
    · cases y
    · exact s.val j d y
  · rcases get_set hi z with ⟨hj, y⟩ | ⟨hj, y⟩
    · cases y; subst hj; exact ⟨a, ha, n⟩
    · obtain ⟨c, q1, q2⟩ := s.own j m2 k2 y
      have hc : c ≠ a := fun q => hj (s.inj j i _ _ _ _ a y e (q ▸ q1) ha)
      exact ⟨c, q1, q2.move (Same.refl _) q2.free fun o eo => by rw [upd_ne hc]; exact eo⟩
  · rcases get_set hi z1 with ⟨hj1, y1⟩ | ⟨hj1, y1⟩
    · rcases get_set hi z2 with ⟨hj2, y2⟩ | ⟨hj2, y2⟩
      · rw [hj1, hj2]
      · subst hj1; exact s.inj j1 j2 _ _ _ _ c e y2 q1 q2
    · rcases get_set hi z2 with ⟨hj2, y2⟩ | ⟨hj2, y2⟩
      · subst hj2; exact s.inj j1 j2 _ _ _ _ c y1 e q1 q2
      · exact s.inj j1 j2 _ _ _ _ c y1 y2 q1 q2
  · by_cases hb : b = a
    · subst hb; exact ⟨_, upd_same⟩
    · exact ⟨u, by rw [upd_ne hb]; exact z⟩
  · by_cases hj : i = j
    · subst hj; rw [e] at z; cases z; exact ⟨m', by rw [List.getElem?_set_self hi], rfl⟩
    · exact ⟨m2, by rw [List.getElem?_set_ne hj]; exact z, rfl⟩
end

/-- an own object's slot is forgotten -/
theorem Go.drop {K : PySem.W.Frag} {ρ : Rho} {σ : Sg} {F H : Hp} {i : Nat} {m : Mo} (s : SR K ρ σ F H) (e : ρ[i]? = some (.own m true)) : Go K ρ σ F H (ρ.set i .un) σ F H := by
  have hi : i < ρ.length := (List.getElem?_eq_some_iff.mp e).1
  have sub : ∀ a, Own (ρ.set i .un) σ a → Own ρ σ a := fun a ⟨j, m', b, e1, e2⟩ => by
    rcases get_set hi e1 with ⟨hj, y⟩ | ⟨hj, y⟩
    · cases y
    · exact ⟨j, m', b, y, e2⟩
  refine ⟨Same.refl _, fun a o ea n => ⟨ea, fun _ => id, fun z => n (sub a z)⟩, ⟨s.sub, by rw [List.length_set]; exact s.len, fun j d z => ?_, fun j m' k z => ?_, fun j1 j2 m1 k1 m2 k2 c z1 z2 q1 q2 => ?_⟩, fun a o ea => ⟨o, ea⟩, fun j m' z => ?_⟩
  · rcases get_set hi z with ⟨hj, y⟩ | ⟨hj, y⟩
    · cases y
    · exact s.val j d y
  · rcases get_set hi z with ⟨hj, y⟩ | ⟨hj, y⟩
    · cases y
    · exact s.own j m' k y
  · rcases get_set hi z1 with ⟨hj1, y1⟩ | ⟨hj1, y1⟩
    · cases y1
    · rcases get_set hi z2 with ⟨hj2, y2⟩ | ⟨hj2, y2⟩
      · cases y2
      · exact s.inj j1 j2 _ _ _ _ c y1 y2 q1 q2
  · by_cases hj : i = j
    · subst hj; rw [e] at z; cases z
    · exact ⟨m', by rw [List.getElem?_set_ne hj]; exact z, rfl⟩

def RE.st {α : Type} : RE α → (α → Rho → RS) → RS
  | .ok a ρ, f => f a ρ
  | .ex x ρ, _ => .ex x ρ
  | .no, _ => .no
def sSkip : Sn := fun ρ => .next ρ
def sSeq (a b : Sn) : Sn := fun ρ => match a ρ with
  | .next ρ' => b ρ'
  | r => r
def sIf (t : Tn) (a b : Sn) : Sn := fun ρ => (t ρ).st fun c ρ' => if c = true then a ρ' else b ρ'
def sSet (i : Nat) (d : Dn) : Sn := fun ρ => (d ρ).st fun x ρ' => if notIo ρ' i = true then .next (ρ'.set i (.val x)) else .no
def sNew (i : Nat) (d : Fn) : Sn := fun ρ => (d ρ).st fun m ρ' => if notIo ρ' i = true then .next (ρ'.set i (.own m true)) else .no
def sRet (d : Dn) : Sn := fun ρ => (d ρ).st fun x ρ' => .ret x ρ'
/-- a new object is handed out, an own one -/
def sRetF (d : Fn) : Sn := fun ρ => (d ρ).st fun m ρ' => .new m ρ'
def sRetM (i : Nat) : Sn := fun ρ => match ρ[i]? with
  | some (.own m true) => .new m (ρ.set i .un)
  | some (.val d) => .ret d ρ
  | _ => .no
def sRetN : Sn := fun ρ => .ret .none ρ
def sExpr (d : Dn) : Sn := fun ρ => (d ρ).st fun _ ρ' => .next ρ'
section
variable {K : PySem.W.Frag} {W : Wt} {α β : Type} {R : Sg → Hp → α → β → Prop} {ρ ρ' : Rho} {σ : Sg} {F H F' H' : Hp} {E : Ends}
theorem AfS.bind {d : Rho → RE α} {f : α → Rho → RS} (s : SR K ρ σ F H) (q : AfS K W ρ σ F H E ((d ρ).st f)) {P : β → Hp → Prop}
    (k : ∀ a v ρ1 F1 H1, Go K ρ σ F H ρ1 σ F1 H1 → R σ F1 a v → AfS K W ρ1 σ F1 H1 E (f a ρ1) → P v H1) : tG K W R d σ H P := by
  refine ⟨ρ, F, s, ?_⟩
  cases hd : d ρ with
  | no => simp only [hd, RE.st] at q; exact q
  | ex x ρ' => simp only [hd, RE.st] at q; exact fun c dx F' H' g z => q c dx σ F' H' g z
  | ok a ρ1 =>
    simp only [hd, RE.st] at q
    exact fun v F1 H1 g r => k a v ρ1 F1 H1 g r (q.at g)
theorem AfS.bindF {d : Fn} {f : Mo → Rho → RS} (s : SR K ρ σ F H) (q : AfS K W ρ σ F H E ((d ρ).st f)) {P : VK}
    (k : ∀ m a ρ1 F1 H1, Go K ρ σ F H ρ1 σ F1 H1 → OwnAt K F1 H1 a m → H a = none → ¬ Own ρ1 σ a → AfS K W ρ σ F H E (f m ρ1) → P (.ref a) H1) : tF K W d σ H P := by
  refine ⟨ρ, F, s, ?_⟩
  cases hd : d ρ with
  | no => simp only [hd, RE.st] at q; exact q
  | ex x ρ' => simp only [hd, RE.st] at q; exact fun c dx F' H' g z => q c dx σ F' H' g z
  | ok m ρ1 =>
    simp only [hd, RE.st] at q
    exact fun a F1 H1 g o n no => k m a ρ1 F1 H1 g o n no q
end
section
variable {X : Cx} {W : Wt} {e e2 e3 : Expr} {es rest : List Expr} {st st2 : Stmt} {sts sts2 : List Stmt} {d d2 : Dn} {fd : Fn} {pos pos' : Pos} {v : Vn} {t : Tn} {a b : Sn}
theorem dss_nil : PSs X [] (tS X.K W sSkip) := PSs.imp pss_nil fun D σ H ⟨ρ, F, s, q⟩ => q σ F H (Go.refl s)
theorem dss_cons (h : PS X st (tS X.K W a)) (h2 : PSs X sts (tS X.K W b)) : PSs X (st :: sts) (tS X.K W (sSeq a b)) := PSs.imp (pss_cons h h2) fun D σ H ⟨ρ, F, s, q⟩ => by
  refine ⟨ρ, F, s, ?_⟩
  simp only [sSeq] at q
  cases ha : a ρ with
  | next ρ1 => rw [ha] at q; exact fun σ' F' H' g => ⟨ρ1, F', g.sr, AfS.at g q⟩
  | ret x ρ1 => rw [ha] at q; exact q
  | new x ρ1 => rw [ha] at q; exact q
  | brk ρ1 => rw [ha] at q; exact q
  | cnt ρ1 => rw [ha] at q; exact q
  | ex x ρ1 => rw [ha] at q; exact q
  | no => rw [ha] at q; exact q
theorem dss_one (h : PS X st (tS X.K W a)) : PSs X [st] (tS X.K W a) := pss_one h
theorem ds_pass : PS X (.Pass pos) (tS X.K W sSkip) := PS.imp ps_pass fun D σ H ⟨ρ, F, s, q⟩ => q σ F H (Go.refl s)
theorem ds_break : PS X (.Break pos) (tS X.K W fun ρ => .brk ρ) := PS.imp ps_break fun D σ H ⟨ρ, F, s, q⟩ => q σ F H (Go.refl s)
theorem ds_continue : PS X (.Continue pos) (tS X.K W fun ρ => .cnt ρ) := PS.imp ps_continue fun D σ H ⟨ρ, F, s, q⟩ => q σ F H (Go.refl s)
theorem ds_if (hc : PT X e (tT X.K W t)) (ha : PSs X sts (tS X.K W a)) (hb : PSs X sts2 (tS X.K W b)) : PS X (.If e sts sts2 pos) (tS X.K W (sIf t a b)) := PS.imp (ps_if hc ha hb) fun D σ H ⟨ρ, F, s, q⟩ => by
  refine AfS.bind s q fun c v ρ1 F1 H1 g r z => ?_
  subst r
  cases v with
  | true => rw [if_pos rfl] at z ⊢; exact ⟨ρ1, F1, g.sr, z⟩
  | false => rw [if_neg Bool.false_ne_true] at z ⊢; exact ⟨ρ1, F1, g.sr, z⟩
theorem ds_ret (h : PE X e (tE X.K W d)) : PS X (.Return (some e) pos) (tS X.K W (sRet d)) := PS.imp (ps_ret h) fun D σ H ⟨ρ, F, s, q⟩ =>
  AfS.bind s q fun c v ρ1 F1 H1 g r z => z v σ F1 H1 (Go.refl g.sr) r
theorem ds_retF {fd : Fn} (h : PE X e (tF X.K W fd)) : PS X (.Return (some e) pos) (tS X.K W (sRetF fd)) := PS.imp (ps_ret h) fun D σ H ⟨ρ, F, s, q⟩ =>
  AfS.bindF s q fun m a ρ1 F1 H1 g o n no z => z a σ F1 H1 g o no (.inl n)
theorem ds_retM (i : Nat) {x : Str} (hN : X.N[i]? = some x := by rfl) (hv : Vis X.env.scope x := by first | exact Or.inl rfl | exact Or.inr (Or.inl rfl) | exact Or.inr (Or.inr rfl)) (hd : (x == ("__debug__" : Str)) = false := by decide)
    (hcd : (x == ("__classdict__" : Str)) = false := by decide) : PS X (.Return (some (.Name x pos')) pos) (tS X.K W (sRetM i)) := PS.imp (ps_ret (pe_var hN hv hd hcd)) fun D σ H ⟨ρ, F, s, q⟩ => by
  cases hr : ρ[i]? with
  | none => simp only [sRetM, hr] at q; exact q.elim
  | some l =>
    cases l with
    | un => simp only [sRetM, hr] at q; exact q.elim
    | val d =>
      simp only [sRetM, hr] at q
      obtain ⟨v, h1, h2⟩ := s.val i d hr
      exact ⟨v, h1, q v σ F H (Go.refl s) h2⟩
    | own m b =>
      cases b with
      | false => simp only [sRetM, hr] at q; exact q.elim
      | true =>
        simp only [sRetM, hr] at q
        obtain ⟨a, h1, h2⟩ := s.own i m true hr
        have no : ¬ Own (ρ.set i .un) σ a := fun ⟨j, m', b', e1, e2⟩ => by
          have hi : i < ρ.length := (List.getElem?_eq_some_iff.mp hr).1
          rcases get_set hi e1 with ⟨hj, y⟩ | ⟨hj, y⟩
          · cases y
          · exact hj (s.inj j i _ _ _ _ a y hr e2 h1)
        exact ⟨_, h1, q a σ F H (Go.drop s hr) h2 no (.inr ⟨i, m, hr, h1⟩)⟩
theorem ds_retN : PS X (.Return none pos) (tS X.K W sRetN) := PS.imp ps_retN fun D σ H ⟨ρ, F, s, q⟩ => q _ σ F H (Go.refl s) rep_none
theorem ds_expr (h : PE X e (tE X.K W d)) (hs : swapsWith e none pos.line X.env = pure false := by rfl) : PS X (.Expr e pos) (tS X.K W (sExpr d)) := PS.imp (ps_expr h hs) fun D σ H ⟨ρ, F, s, q⟩ =>
  AfS.bind s q fun c v ρ1 F1 H1 g r z => z σ F1 H1 (Go.refl g.sr)
theorem ds_set (i : Nat) {x : Str} (hN : X.N.Nodup) (h : PE X e (tE X.K W d)) (hi : X.N[i]? = some x := by rfl) (hx : Loc X.env.scope x := by first | exact Or.inl rfl | exact Or.inr rfl) (hs : swapsWith e (some (.Name x pos')) pos.line X.env = pure false := by rfl)
    (hf : X.fn x = true ∨ X.env.scope.names.lookup x = some .local := by first | exact .inl rfl | exact .inr rfl | assumption) : PS X (.Assign [.Name x pos'] e pos) (tS X.K W (sSet i d)) :=
  PS.imp (ps_set hN hi hx h hs hf) fun D σ H ⟨ρ, F, s, q⟩ => AfS.bind s q fun c v ρ1 F1 H1 g r z => by
    by_cases hn : notIo ρ1 i = true
    · rw [if_pos hn] at z; exact z _ _ _ (g.sr.setV hn r)
    · rw [if_neg hn] at z; exact z.elim
theorem ds_new (i : Nat) {x : Str} (hN : X.N.Nodup) (h : PE X e (tF X.K W fd)) (hi : X.N[i]? = some x := by rfl) (hx : Loc X.env.scope x := by first | exact Or.inl rfl | exact Or.inr rfl) (hs : swapsWith e (some (.Name x pos')) pos.line X.env = pure false := by rfl)
    (hf : X.fn x = true ∨ X.env.scope.names.lookup x = some .local := by first | exact .inl rfl | exact .inr rfl | assumption) : PS X (.Assign [.Name x pos'] e pos) (tS X.K W (sNew i fd)) :=
  PS.imp (ps_set hN hi hx h hs hf) fun D σ H ⟨ρ, F, s, q⟩ => AfS.bindF s q fun m a ρ1 F1 H1 g o n no z => by
    by_cases hn : notIo ρ1 i = true
    · rw [if_pos hn] at z; exact z _ _ _ (g.setO hn o n no)
    · rw [if_neg hn] at z; exact z.elim
end

/-! ### targets -/
abbrev Bd := D → Rho → Option Rho
/-- other slots than these are as they were -/
def Kp (ts : List Nat) (σ σ' : Sg) : Prop := σ'.length = σ.length ∧ ∀ j : Nat, j ∉ ts → σ'[j]? = σ[j]?
def TgR (K : PySem.W.Frag) (g : TG) (bd : Bd) (ts : List Nat) : Prop := ∀ ρ σ F H v d ρ' (Q : Sg → Hp → Prop), SR K ρ σ F H → Rep K F d v → bd d ρ = some ρ' → (∀ σ', Go K ρ σ F H ρ' σ' F H → Kp ts σ σ' → Q σ' H) → g v σ H Q
def bN (i : Nat) : Bd := fun d ρ => if notIo ρ i = true then some (ρ.set i (.val d)) else none
def bindAll : List Nat → List D → Rho → Option Rho
  | [], [], ρ => some ρ
  | i :: is, d :: ds, ρ => if notIo ρ i = true then bindAll is ds (ρ.set i (.val d)) else none
  | _, _, _ => none
def bT (is : List Nat) : Bd := fun d ρ => match d with
  | .tuple ds => bindAll is ds ρ
  | _ => none
structure Tg (X : Cx) (tg : Expr) (bd : Bd) (ts : List Nat) : Prop where
  ex : ∃ g, PG X tg g ∧ TgR X.K g bd ts
structure Tgs (X : Cx) (ts : List Expr) (is : List Nat) : Prop where
  ex : ∃ g, PGs X ts g ∧ ∀ ρ σ F H vs ds ρ' (Q : Sg → Hp → Prop), SR X.K ρ σ F H → Reps X.K F ds vs → bindAll is ds ρ = some ρ' → (∀ σ', Go X.K ρ σ F H ρ' σ' F H → Kp is σ σ' → Q σ' H) → g vs σ H Q
section
variable {X : Cx} {pos : Pos} {e : Expr} {es : List Expr} {is : List Nat}
theorem tg_n (i : Nat) {x : Str} (hN : X.N.Nodup) (hi : X.N[i]? = some x := by rfl) (hx : Loc X.env.scope x := by first | exact Or.inl rfl | exact Or.inr rfl)
    (hf : X.fn x = true ∨ X.env.scope.names.lookup x = some .local := by first | exact .inl rfl | exact .inr rfl | assumption) : Tg X (.Name x pos) (bN i) [i] :=
  ⟨gName i, pg_name hN hi hx hf, fun ρ σ F H v d ρ' Q s r h k => by
    unfold bN at h
    by_cases hn : notIo ρ i = true
    · rw [if_pos hn] at h; cases h; exact k _ (s.setV hn r) ⟨List.length_set, fun j hj => List.getElem?_set_ne (by simpa using fun z : i = j => hj (by simp [z]))⟩
    · rw [if_neg hn] at h; cases h⟩
theorem tgs_nil : Tgs X [] [] := ⟨gNil, pgs_nil, fun ρ σ F H vs ds ρ' Q s r h k => by
  cases ds with
  | nil => cases h; exact ⟨reps_nil.mp r, k _ (Go.refl s) ⟨rfl, fun j hj => rfl⟩⟩
  | cons d ds => cases h⟩
theorem tgs_cons (i : Nat) {x : Str} (hN : X.N.Nodup) (t : Tgs X es is) (hi : X.N[i]? = some x := by rfl) (hx : Loc X.env.scope x := by first | exact Or.inl rfl | exact Or.inr rfl)
    (hf : X.fn x = true ∨ X.env.scope.names.lookup x = some .local := by first | exact .inl rfl | exact .inr rfl | assumption)
    (hs : (assignEach (.Name x pos :: es) X.env).map (·.2) = assign (.Name x pos) X.env :: (assignEach es X.env).map (·.2) := by rfl) : Tgs X (.Name x pos :: es) (i :: is) := by
  obtain ⟨g, hg, hr⟩ := t.ex
  refine ⟨gCons (gName i) g, pgs_cons (pg_name hN hi hx hf) hg hs, fun ρ σ F H vs ds ρ' Q s r h k => ?_⟩
  cases ds with
  | nil => cases h
  | cons d ds =>
    obtain ⟨v, w, rfl, r1, r2⟩ := reps_cons.mp r
    unfold bindAll at h
    by_cases hn : notIo ρ i = true
    · rw [if_pos hn] at h
      have g1 := s.setV hn r1
      exact ⟨v, w, rfl, hr _ _ _ _ _ _ _ _ g1.sr r2 h fun σ' g2 kp => k σ' (g1.trans g2) ⟨by rw [kp.1, List.length_set], fun j hj => by
        rw [kp.2 j (fun z => hj (List.mem_cons_of_mem _ z)), List.getElem?_set_ne (fun z : i = j => hj (by simp [z]))]⟩⟩
    · rw [if_neg hn] at h; cases h
theorem tg_t {k : Nat} {n : Nat} (hc : X.calm = true) (t : Tgs X es is) (hn : (assignEach es X.env).length = n := by rfl) (hst : (assignEach es X.env).findIdx? (·.1) = none := by rfl) (hl : is.length = n := by rfl) : Tg X (.Tuple es k pos) (bT is) is := by
  obtain ⟨g, hg, hr⟩ := t.ex
  refine ⟨_, pg_tup hc hg hn hst, fun ρ σ F H v d ρ' Q s r h k => ?_⟩
  cases d with
  | tuple ds =>
    simp only [Rep] at r
    obtain ⟨a, vs, rfl, q, r⟩ := r
    have len : ∀ (is : List Nat) (ds : List D) (ρ : Rho), bindAll is ds ρ = some ρ' → is.length = ds.length := fun is => by
      induction is with
      | nil => intro ds ρ h; cases ds with
        | nil => rfl
        | cons d ds => cases h
      | cons i is ih => intro ds ρ h; cases ds with
        | nil => cases h
        | cons d ds =>
          unfold bindAll at h
          by_cases hn : notIo ρ i = true
          · rw [if_pos hn] at h; rw [List.length_cons, List.length_cons, ih ds _ h]
          · rw [if_neg hn] at h; cases h
    exact ⟨a, vs, rfl, SqT.of (s.sub _ _ q), by rw [← r.length, ← len is ds ρ h, hl], hr _ _ _ _ _ _ _ _ s r h k⟩
  | none => cases h
  | bool _ => cases h
  | int _ => cases h
  | str _ => cases h
  | list _ => cases h
  | dict _ => cases h
end
def sAsg (bd : Bd) (d : Dn) : Sn := fun ρ => (d ρ).st fun x ρ' => match bd x ρ' with
  | some ρ2 => .next ρ2
  | none => .no
theorem ds_asg {X : Cx} {W : Wt} {tg e : Expr} {d : Dn} {bd : Bd} {ts : List Nat} {pos : Pos} (h : PE X e (tE X.K W d)) (t : Tg X tg bd ts) (hs : swapsWithSole [tg] e pos.line X.env = pure false := by rfl) (hw : swappedStores [tg] e X.env = pure none := by rfl)
    (h1 : (assignEach [tg] X.env).map (·.2) = [assign tg X.env] := by rfl) : PS X (.Assign [tg] e pos) (tS X.K W (sAsg bd d)) := by
  obtain ⟨g, hg, hr⟩ := t.ex
  refine PS.imp (ps_asg h hg hs hw h1) fun D σ H ⟨ρ, F, s, q⟩ => AfS.bind s q fun c v ρ1 F1 H1 g r z => ?_
  cases hb : bd c ρ1 with
  | none => rw [hb] at z; exact z.elim
  | some ρ2 => rw [hb] at z; exact hr _ _ _ _ _ _ _ _ g.sr r hb fun σ' g2 _ => z _ _ _ g2

/-! ### loops -/
/-- it walks the trees l in every later state -/
structure Walk (K : PySem.W.Frag) (J : It) (l : List D) (F0 : Hp) : Prop where
  go : ∀ (i : Nat) F H, Same F0 F → Same F H → i < l.length → J.go i H ∧ ∀ x H', J.yld i H x H' → ∃ F' d, Fr F H F' H' ∧ l[i]? = some d ∧ Rep K F' d x
  stop : ∀ (i : Nat) F H, Same F0 F → Same F H → l.length ≤ i → J.stop i H
abbrev In := Rho → RE (List D)
abbrev RI (K : PySem.W.Frag) : Sg → Hp → List D → It → Prop := fun _ F l J => Walk K J l F
def tI (K : PySem.W.Frag) (W : Wt) (d : In) : TI := tG K W (RI K) d
def forV (bd : Bd) (body : Sn) : List D → Rho → RS
  | [], ρ => .next ρ
  | d :: l, ρ => match bd d ρ with
    | none => .no
    | some ρ1 => match body ρ1 with
      | .next ρ2 => forV bd body l ρ2
      | .cnt ρ2 => forV bd body l ρ2
      | .brk ρ2 => .next ρ2
      | .ret x ρ2 => .ret x ρ2
      | .new x ρ2 => .new x ρ2
      | .ex x ρ2 => .ex x ρ2
      | .no => .no
def sFor (src : In) (bd : Bd) (body : Sn) : Sn := fun ρ => (src ρ).st fun l ρ' => forV bd body l ρ'
theorem ds_for {X : Cx} {W : Wt} {tg iter : Expr} {body : List Stmt} {src : In} {bd : Bd} {ts : List Nat} {b : Sn} {pos : Pos} (hp : PassesOwn (model X.prog X.w) X.A X.env X.xe) (hc : X.calm = true) (hi : PI X tg iter (tI X.K W src)) (t : Tg X tg bd ts) (hb : PSs X body (tS X.K W b))
    (hs : ∀ x, foldedSetIterable iter X.env x = pure x := by intro _; rfl) : PS X (.For tg iter body [] pos) (tS X.K W (sFor src bd b)) := by
  obtain ⟨g, hg, hr⟩ := t.ex
  refine PS.imp (ps_for hp hc hi hg hb hs) fun D σ H ⟨ρ, F, s, q⟩ => AfS.bind s q fun l J ρ1 F1 H1 g1 wk z => ?_
  refine ⟨fun i m σ' H' => ∃ ρi Fi, SR X.K ρi σ' Fi H' ∧ Same F1 Fi ∧ i ≤ l.length ∧ m = l.length - i ∧ AfS X.K W ρi σ' Fi H' D (forV bd b (l.drop i) ρi),
    ⟨l.length, ρ1, F1, g1.sr, Same.refl _, Nat.zero_le _, rfl, z⟩, ?_⟩
  rintro i m σ2 H2 ⟨ρ2, F2, s2, sm, hi, rfl, q2⟩
  by_cases hl : i < l.length
  · obtain ⟨go, yd⟩ := wk.go i F2 H2 sm s2.sub hl
    refine .inr ⟨go, fun σ' H' => ∃ ρi Fi, SR X.K ρi σ' Fi H' ∧ Same F1 Fi ∧ AfS X.K W ρi σ' Fi H' D (forV bd b (l.drop (i + 1)) ρi), fun σ' H' ⟨ρi, Fi, a1, a2, a3⟩ => ⟨l.length - (i + 1), by omega, ρi, Fi, a1, a2, hl, rfl, a3⟩, fun x H3 y => ?_⟩
    obtain ⟨F3, d, f, hd, r⟩ := yd x H3 y
    have s3 := s2.fr f
    have q3 : AfS X.K W ρ2 σ2 F3 H3 D (forV bd b (l.drop i) ρ2) := AfS.at (f.go s2) q2
    have hd' : l.drop i = d :: l.drop (i + 1) := by
      obtain ⟨h1, h2⟩ := List.getElem?_eq_some_iff.mp hd
      rw [← h2]; exact List.drop_eq_getElem_cons h1
    rw [hd'] at q3
    unfold forV at q3
    cases hb : bd d ρ2 with
    | none => rw [hb] at q3; exact q3.elim
    | some ρ4 =>
      rw [hb] at q3
      refine hr _ _ _ _ _ _ _ _ s3 r hb fun σ4 g4 _ => ⟨ρ4, F3, g4.sr, ?_⟩
      have q4 := AfS.at g4 q3
      cases hbd : b ρ4 with
      | next ρ5 => simp only [hbd] at q4; exact fun σ' F' H' g5 => ⟨ρ5, F', g5.sr, (sm.trans f.sub).trans g5.sub, AfS.at g5 q4⟩
      | cnt ρ5 => simp only [hbd] at q4; exact fun σ' F' H' g5 => ⟨ρ5, F', g5.sr, (sm.trans f.sub).trans g5.sub, AfS.at g5 q4⟩
      | brk ρ5 => simp only [hbd] at q4; exact q4
      | ret x ρ5 => simp only [hbd] at q4; exact q4
      | new x ρ5 => simp only [hbd] at q4; exact q4
      | ex x ρ5 => simp only [hbd] at q4; exact q4
      | no => simp only [hbd] at q4; exact q4
  · refine .inl ⟨wk.stop i F2 H2 sm s2.sub (by omega), ?_⟩
    rw [List.drop_eq_nil_of_le (by omega)] at q2
    exact q2 _ _ _ (Go.refl s2)

def whileF (c : Tn) (b : Sn) : Nat → Rho → RS
  | 0, _ => .no
  | n + 1, ρ => (c ρ).st fun k ρ1 => if k = true then (match b ρ1 with
      | .next ρ2 => whileF c b n ρ2
      | .cnt ρ2 => whileF c b n ρ2
      | .brk ρ2 => .next ρ2
      | .ret x ρ2 => .ret x ρ2
      | .new x ρ2 => .new x ρ2
      | .ex x ρ2 => .ex x ρ2
      | .no => .no) else .next ρ1
/-- turns that are tried: more than any loop here takes -/
def WF : Nat := 1000000000000
def sWhile (c : Tn) (b : Sn) : Sn := fun ρ => whileF c b WF ρ
theorem ds_while {X : Cx} {W : Wt} {e : Expr} {body : List Stmt} {c : Tn} {b : Sn} {pos : Pos} (hp : PassesOwn (model X.prog X.w) X.A X.env X.xe) (hc : PT X e (tT X.K W c)) (hb : PSs X body (tS X.K W b)) : PS X (.While e body [] pos) (tS X.K W (sWhile c b)) := by
  refine PS.imp (ps_while hp hc hb) fun D σ H ⟨ρ, F, s, q⟩ => ?_
  refine ⟨fun m σ' H' => ∃ ρi Fi, SR X.K ρi σ' Fi H' ∧ AfS X.K W ρi σ' Fi H' D (whileF c b m ρi), ⟨WF, ρ, F, s, q⟩, ?_⟩
  rintro m σ2 H2 ⟨ρ2, F2, s2, q2⟩
  cases m with
  | zero => exact q2.elim
  | succ m =>
    unfold whileF at q2
    refine AfS.bind s2 q2 fun k v ρ3 F3 H3 g3 r z => ?_
    subst r
    cases v with
    | false => rw [if_neg Bool.false_ne_true] at z ⊢; exact z _ _ _ (Go.refl g3.sr)
    | true =>
      rw [if_pos rfl] at z ⊢
      refine ⟨fun σ' H' => ∃ ρi Fi, SR X.K ρi σ' Fi H' ∧ AfS X.K W ρi σ' Fi H' D (whileF c b m ρi), fun σ' H' ⟨ρi, Fi, a1, a2⟩ => ⟨m, Nat.lt_succ_self _, ρi, Fi, a1, a2⟩, ρ3, F3, g3.sr, ?_⟩
      cases hbd : b ρ3 with
      | next ρ5 => rw [hbd] at z; exact fun σ' F' H' g5 => ⟨ρ5, F', g5.sr, AfS.at g5 z⟩
      | cnt ρ5 => rw [hbd] at z; exact fun σ' F' H' g5 => ⟨ρ5, F', g5.sr, AfS.at g5 z⟩
      | brk ρ5 => rw [hbd] at z; exact z
      | ret x ρ5 => rw [hbd] at z; exact z
      | new x ρ5 => rw [hbd] at z; exact z
      | ex x ρ5 => rw [hbd] at z; exact z
      | no => rw [hbd] at z; exact z
end Ft
/-! Ft4: calls and defs. -/
namespace Ft
open PySem L2 PySem.Spec PyProof.Rows

def mkIns (ρ : Rho) : List Hd → Option (List LV)
  | [] => some []
  | .v d :: r => match mkIns ρ r with
    | some l => some (.val d :: l)
    | none => none
  | .s i :: r => match ρ[i]? with
    | some (.own m _) => match mkIns ρ r with
      | some l => some (.own m false :: l)
      | none => none
    | _ => none
def setOuts : List LV → List Mo → Option (List LV)
  | [], [] => some []
  | [], _ :: _ => none
  | .own _ b :: r, m :: ms => match setOuts r ms with
    | some l => some (.own m b :: l)
    | none => none
  | .own _ _ :: _, [] => none
  | .val d :: r, ms => match setOuts r ms with
    | some l => some (.val d :: l)
    | none => none
  | .un :: _, _ => none
def putBack : List Hd → List LV → Rho → Option Rho
  | [], [], ρ => some ρ
  | .v _ :: r, _ :: q, ρ => putBack r q ρ
  | .s i :: r, .own m _ :: q, ρ => match ρ[i]? with
    | some (.own _ k) => putBack r q (ρ.set i (.own m k))
    | _ => none
  | _, _, _ => none
def noS (i : Nat) : List Hd → Bool
  | [] => true
  | .v _ :: r => noS i r
  | .s j :: r => i != j && noS i r
def apartB : List Hd → Bool
  | [] => true
  | .v _ :: r => apartB r
  | .s i :: r => noS i r && apartB r
abbrev Cn := List LV → RC
def dCall (g : Cn) (a : Ans) : Dn := fun ρ => (a ρ).bind fun hs ρ1 => match (if apartB hs = true then mkIns ρ1 hs else none) with
  | none => .no
  | some ins => match g ins with
    | .no => .no
    | .ok d outs => match (setOuts ins outs).bind fun l => putBack hs l ρ1 with
      | some ρ2 => .ok d ρ2
      | none => .no
    | .new m outs => match (setOuts ins outs).bind fun l => putBack hs l ρ1 with
      | some ρ2 => .ok m.toD ρ2
      | none => .no
    | .ex x outs => match (setOuts ins outs).bind fun l => putBack hs l ρ1 with
      | some ρ2 => .ex x ρ2
      | none => .no
/-- the same where the def hands out a new object -/
def fCall (g : Cn) (a : Ans) : Fn := fun ρ => (a ρ).bind fun hs ρ1 => match (if apartB hs = true then mkIns ρ1 hs else none) with
  | none => .no
  | some ins => match g ins with
    | .no => .no
    | .ok _ _ => .no
    | .new m outs => match (setOuts ins outs).bind fun l => putBack hs l ρ1 with
      | some ρ2 => .ok m ρ2
      | none => .no
    | .ex x outs => match (setOuts ins outs).bind fun l => putBack hs l ρ1 with
      | some ρ2 => .ex x ρ2
      | none => .no
section
variable {K : PySem.W.Frag} {W : Wt} {ρ ρ' : Rho} {σ : Sg} {F H F' H' : Hp} {Q : VK}
/-- what is wanted behind a call -/
def AfC (K : PySem.W.Frag) (W : Wt) (ins : List LV) (σ : Sg) (F H : Hp) (Q : VK) : RC → Prop
  | .ok d outs => ∃ l, setOuts ins outs = some l ∧ ∀ v F' H', Go K ins σ F H l σ F' H' → Rep K F' d v → Q v H'
  | .new m outs => ∃ l, setOuts ins outs = some l ∧ ∀ a F' H', Go K ins σ F H l σ F' H' → OwnAt K F' H' a m → ¬ Own l σ a → H a = none → Q (.ref a) H'
  | .ex x outs => ∃ l, setOuts ins outs = some l ∧ ∀ c dx F' H', Go K ins σ F H l σ F' H' → W.xr x c dx H' → W.E c dx H'
  | .no => False
def SpOf (K : PySem.W.Frag) (xr : XR) (n : Nat) (g : Cn) : Sp := fun vs H Q E => vs.length = n ∧ ∃ F ins, SR K ins (vs.map some) F H ∧ AfC K ⟨xr, E⟩ ins (vs.map some) F H Q (g ins)
theorem noS_at {i : Nat} : ∀ {hs : List Hd} {p : Nat} {j : Nat}, noS i hs = true → hs[p]? = some (.s j) → i ≠ j
  | [], _, _, _, e => by simp at e
  | .v _ :: r, 0, _, _, e => by simp at e
  | .v _ :: r, p + 1, j, h, e => noS_at (hs := r) (p := p) h (by simpa using e)
  | .s k :: r, 0, j, h, e => by
    simp at e; subst e
    simp [noS] at h; exact h.1
  | .s k :: r, p + 1, j, h, e => by
    simp [noS] at h; exact noS_at (hs := r) (p := p) h.2 (by simpa using e)
theorem apart_at : ∀ {hs : List Hd} {p q : Nat} {i : Nat}, apartB hs = true → hs[p]? = some (.s i) → hs[q]? = some (.s i) → p = q
  | [], _, _, _, _, e, _ => by simp at e
  | .v _ :: r, 0, _, _, _, e, _ => by simp at e
  | .v _ :: r, _ + 1, 0, _, _, _, e => by simp at e
  | .v _ :: r, p + 1, q + 1, i, h, e1, e2 => congrArg (· + 1) (apart_at (hs := r) (p := p) (q := q) (i := i) h (by simpa using e1) (by simpa using e2))
  | .s k :: r, 0, 0, _, _, _, _ => rfl
  | .s k :: r, 0, q + 1, i, h, e1, e2 => by
    simp at e1; subst e1
    simp [apartB] at h
    exact absurd rfl (noS_at (hs := r) (p := q) h.1 (by simpa using e2))
  | .s k :: r, p + 1, 0, i, h, e1, e2 => by
    simp at e2; subst e2
    simp [apartB] at h
    exact absurd rfl (noS_at (hs := r) (p := p) h.1 (by simpa using e1))
  | .s k :: r, p + 1, q + 1, i, h, e1, e2 => by
    simp [apartB] at h
    exact congrArg (· + 1) (apart_at (hs := r) (p := p) (q := q) (i := i) h.2 (by simpa using e1) (by simpa using e2))
/-- the argument at a place -/
theorem mkIns_at : ∀ {hs : List Hd} {l : List LV} {p : Nat} {x : LV}, mkIns ρ hs = some l → l[p]? = some x →
    (∃ d, hs[p]? = some (.v d) ∧ x = .val d) ∨ (∃ i m b, hs[p]? = some (.s i) ∧ ρ[i]? = some (.own m b) ∧ x = .own m false)
  | [], l, p, x, h, e => by simp only [mkIns] at h; cases h; simp at e
  | .v d :: r, l, p, x, h, e => by
    simp only [mkIns] at h
    cases hr : mkIns ρ r with
    | none => rw [hr] at h; cases h
    | some l' =>
      rw [hr] at h; cases h
      cases p with
      | zero => simp at e; exact .inl ⟨d, rfl, e.symm⟩
      | succ p => simpa using mkIns_at hr (p := p) (by simpa using e)
  | .s i :: r, l, p, x, h, e => by
    simp only [mkIns] at h
    cases hi : ρ[i]? with
    | none => rw [hi] at h; cases h
    | some y =>
      cases y with
      | un => rw [hi] at h; cases h
      | val d => rw [hi] at h; cases h
      | own m b =>
        rw [hi] at h
        simp only at h
        cases hr : mkIns ρ r with
        | none => rw [hr] at h; cases h
        | some l' =>
          rw [hr] at h; cases h
          cases p with
          | zero => simp at e; exact .inr ⟨i, m, b, rfl, hi, e.symm⟩
          | succ p => simpa using mkIns_at hr (p := p) (by simpa using e)
theorem mkIns_len : ∀ {hs : List Hd} {l : List LV}, mkIns ρ hs = some l → l.length = hs.length
  | [], l, h => by simp only [mkIns] at h; cases h; rfl
  | .v d :: r, l, h => by
    simp only [mkIns] at h
    cases hr : mkIns ρ r with
    | none => rw [hr] at h; cases h
    | some l' => rw [hr] at h; cases h; simp [mkIns_len hr]
  | .s i :: r, l, h => by
    simp only [mkIns] at h
    cases hi : ρ[i]? with
    | none => rw [hi] at h; cases h
    | some y =>
      cases y with
      | un => rw [hi] at h; cases h
      | val d => rw [hi] at h; cases h
      | own m b =>
        rw [hi] at h
        simp only at h
        cases hr : mkIns ρ r with
        | none => rw [hr] at h; cases h
        | some l' => rw [hr] at h; cases h; simp [mkIns_len hr]
theorem RepHs.at : ∀ {hs : List Hd} {vs : List V} {p : Nat} {h : Hd}, RepHs K σ F hs vs → hs[p]? = some h → ∃ v, vs[p]? = some v ∧ RepH K σ F h v
  | [], _, _, _, .nil, e => by simp at e
  | _ :: _, _, 0, _, .cons a t, e => by simp at e; subst e; exact ⟨_, rfl, a⟩
  | _ :: _, _, p + 1, _, .cons a t, e => by simpa using RepHs.at t (p := p) (by simpa using e)
theorem RepHs.len : ∀ {hs : List Hd} {vs : List V}, RepHs K σ F hs vs → hs.length = vs.length
  | [], _, .nil => rfl
  | _ :: _, _, .cons a t => by simp [RepHs.len t]
/-- the parameters stand for the arguments -/
theorem SR.ins {hs : List Hd} {vs : List V} {l : List LV} (s : SR K ρ σ F H) (r : RepHs K σ F hs vs) (m : mkIns ρ hs = some l) (ap : apartB hs = true) : SR K l (vs.map some) F H ∧ ∀ a, Own l (vs.map some) a → Own ρ σ a := by
  have vat : ∀ {p : Nat} {v : V}, vs[p]? = some v → (vs.map some)[p]? = some (some v) := fun {p v} e => by rw [List.getElem?_map, e]; rfl
  have own : ∀ {p : Nat} {mo : Mo} {b : Bool}, l[p]? = some (.own mo b) → ∃ i k a, hs[p]? = some (.s i) ∧ ρ[i]? = some (.own mo k) ∧ b = false ∧ vs[p]? = some (.ref a) ∧ σ[i]? = some (some (.ref a)) ∧ OwnAt K F H a mo := fun {p mo b} e => by
    rcases mkIns_at m e with ⟨d, h1, h2⟩ | ⟨i, m', k, h1, h2, h3⟩
    · cases h2
    · cases h3
      obtain ⟨v, hv, rv⟩ := r.at h1
      obtain ⟨a, q1, q2⟩ := s.own i _ k h2
      have rv : σ[i]? = some (some v) := rv
      rw [q1] at rv; cases rv
      exact ⟨i, k, a, h1, h2, rfl, hv, q1, q2⟩
  refine ⟨⟨s.sub, by rw [List.length_map, mkIns_len m, r.len], fun p d e => ?_, fun p mo b e => ?_, fun p q m1 b1 m2 b2 a e1 e2 q1 q2 => ?_⟩, fun a ⟨p, mo, b, e1, e2⟩ => ?_⟩
  · rcases mkIns_at m e with ⟨d', h1, h2⟩ | ⟨i, m', k, h1, h2, h3⟩
    · cases h2
      obtain ⟨v, hv, rv⟩ := r.at h1
      exact ⟨v, vat hv, rv⟩
    · cases h3
  · obtain ⟨i, k, a, h1, h2, h3, h4, h5, h6⟩ := own e
    exact ⟨a, vat h4, h6⟩
  · obtain ⟨i, k, c, h1, h2, h3, h4, h5, h6⟩ := own e1
    obtain ⟨i', k', c', h1', h2', h3', h4', h5', h6'⟩ := own e2
    rw [vat h4] at q1; cases q1
    rw [vat h4'] at q2; cases q2
    have := s.inj i i' _ _ _ _ _ h2 h2' h5 h5'
    subst this
    exact apart_at ap h1 h1'
  · obtain ⟨i, k, c, h1, h2, h3, h4, h5, h6⟩ := own e1
    rw [vat h4] at e2; cases e2
    exact ⟨i, _, _, h2, h5⟩
theorem setOuts_at : ∀ {l l' : List LV} {ms : List Mo} {p : Nat}, setOuts l ms = some l' → (∀ d, l[p]? = some (.val d) → l'[p]? = some (.val d)) ∧ (∀ m b, l[p]? = some (.own m b) → ∃ m', l'[p]? = some (.own m' b)) ∧ (∀ m b, l'[p]? = some (.own m b) → ∃ m', l[p]? = some (.own m' b)) ∧ (∀ d, l'[p]? = some (.val d) → l[p]? = some (.val d)) ∧ l'.length = l.length
  | [], l', [], p, h => by simp only [setOuts] at h; cases h; simp
  | [], l', _ :: _, p, h => by simp only [setOuts] at h; cases h
  | .un :: r, l', ms, p, h => by simp only [setOuts] at h; cases h
  | .own _ _ :: r, l', [], p, h => by simp only [setOuts] at h; cases h
  | .own m0 b0 :: r, l', m :: ms, p, h => by
    simp only [setOuts] at h
    cases hr : setOuts r ms with
    | none => rw [hr] at h; cases h
    | some q =>
      rw [hr] at h; cases h
      cases p with
      | zero => simpa using (setOuts_at (p := 0) hr).2.2.2.2
      | succ p => simpa using setOuts_at (p := p) hr
  | .val d0 :: r, l', ms, p, h => by
    simp only [setOuts] at h
    cases hr : setOuts r ms with
    | none => rw [hr] at h; cases h
    | some q =>
      rw [hr] at h; cases h
      cases p with
      | zero => simpa using (setOuts_at (p := 0) hr).2.2.2.2
      | succ p => simpa using setOuts_at (p := p) hr
theorem putBack_at : ∀ {hs : List Hd} {l : List LV} {ρ ρ2 : Rho} {j : Nat}, putBack hs l ρ = some ρ2 → apartB hs = true →
    ((∀ p : Nat, hs[p]? ≠ some (.s j)) → ρ2[j]? = ρ[j]?) ∧ (∀ p : Nat, hs[p]? = some (.s j) → ∃ m m' k b, ρ[j]? = some (.own m k) ∧ l[p]? = some (.own m' b) ∧ ρ2[j]? = some (.own m' k)) ∧ ρ2.length = ρ.length
  | [], [], ρ, ρ2, j, h, _ => by simp only [putBack] at h; cases h; simp
  | [], _ :: _, ρ, ρ2, j, h, _ => by simp only [putBack] at h; cases h
  | .v d :: r, [], ρ, ρ2, j, h, _ => by simp only [putBack] at h; cases h
  | .s i :: r, [], ρ, ρ2, j, h, _ => by simp only [putBack] at h; cases h
  | .s i :: r, .un :: q, ρ, ρ2, j, h, _ => by simp only [putBack] at h; cases h
  | .s i :: r, .val d :: q, ρ, ρ2, j, h, _ => by simp only [putBack] at h; cases h
  | .v d :: r, x :: q, ρ, ρ2, j, h, ap => by
    simp only [putBack] at h
    obtain ⟨h1, h2, h3⟩ := putBack_at (j := j) h (by simpa [apartB] using ap)
    refine ⟨fun n => h1 fun p => by simpa using n (p + 1), fun p e => ?_, h3⟩
    cases p with
    | zero => simp at e
    | succ p => simpa using h2 p (by simpa using e)
  | .s i :: r, .own m b :: q, ρ, ρ2, j, h, ap => by
    simp only [putBack] at h
    simp only [apartB, Bool.and_eq_true] at ap
    cases hi : ρ[i]? with
    | none => rw [hi] at h; cases h
    | some y =>
      cases y with
      | un => rw [hi] at h; cases h
      | val d => rw [hi] at h; cases h
      | own m0 k =>
        rw [hi] at h
        simp only at h
        have hl : i < ρ.length := (List.getElem?_eq_some_iff.mp hi).1
        obtain ⟨h1, h2, h3⟩ := putBack_at (j := j) h ap.2
        refine ⟨fun n => ?_, fun p e => ?_, by rw [h3, List.length_set]⟩
        · have hj : i ≠ j := fun z => n 0 (by rw [z]; rfl)
          rw [h1 fun p => by simpa using n (p + 1), List.getElem?_set_ne hj]
        · cases p with
          | zero =>
            have hj : i = j := by simpa using e
            subst hj
            refine ⟨m0, m, k, b, hi, rfl, ?_⟩
            rw [h1 fun p z => noS_at ap.1 z rfl, List.getElem?_set_self hl]
          | succ p =>
            have e' : r[p]? = some (.s j) := by simpa using e
            have hj : i ≠ j := noS_at ap.1 e'
            obtain ⟨a1, a2, a3, a4, q1, q2, q3⟩ := h2 p e'
            rw [List.getElem?_set_ne hj] at q1
            exact ⟨a1, a2, a3, a4, q1, by simpa using q2, q3⟩
/-- back from a call -/
theorem Go.back {hs : List Hd} {vs : List V} {l l2 : List LV} {ρ2 : Rho} {outs : List Mo} (s : SR K ρ σ F H) (r : RepHs K σ F hs vs) (m : mkIns ρ hs = some l) (ap : apartB hs = true) (so : setOuts l outs = some l2)
    (g : Go K l (vs.map some) F H l2 (vs.map some) F' H') (pb : putBack hs l2 ρ = some ρ2) : Go K ρ σ F H ρ2 σ F' H' ∧ ∀ a, Own ρ2 σ a → Own ρ σ a := by
  obtain ⟨si, ow⟩ := s.ins r m ap
  have vat : ∀ {p : Nat} {v : V}, vs[p]? = some v → (vs.map some)[p]? = some (some v) := fun {p v} e => by rw [List.getElem?_map, e]; rfl
  -- a slot that is passed, one that isn't
  have cs : ∀ j, (∃ p : Nat, hs[p]? = some (.s j)) ∨ (∀ p : Nat, hs[p]? ≠ some (.s j)) := fun j => (Classical.em _).imp id fun n p e => n ⟨p, e⟩
  have inn : ∀ {j p : Nat}, hs[p]? = some (.s j) → ∃ m0 m1 k a, ρ[j]? = some (.own m0 k) ∧ ρ2[j]? = some (.own m1 k) ∧ σ[j]? = some (some (.ref a)) ∧ OwnAt K F' H' a m1 := fun {j p} e => by
    obtain ⟨m0, m1, k, b, q1, q2, q3⟩ := (putBack_at (j := j) pb ap).2.1 p e
    obtain ⟨a, h1, h2⟩ := s.own j m0 k q1
    obtain ⟨v, hv, rv⟩ := r.at e
    have rv : σ[j]? = some (some v) := rv
    rw [h1] at rv; cases rv
    obtain ⟨a', h3, h4⟩ := g.sr.own p m1 b q2
    rw [vat hv] at h3; cases h3
    exact ⟨m0, m1, k, a, q1, q3, h1, h4⟩
  have out : ∀ {j : Nat} {m0 : Mo} {k : Bool} {a : Addr}, (∀ p : Nat, hs[p]? ≠ some (.s j)) → ρ[j]? = some (.own m0 k) → σ[j]? = some (some (.ref a)) → ¬ Own l (vs.map some) a := fun {j m0 k a} n e ha ⟨p, mo, b, e1, e2⟩ => by
    rcases mkIns_at m e1 with ⟨d, h1, h2⟩ | ⟨i, m', k', h1, h2, h3⟩
    · cases h2
    · obtain ⟨v, hv, rv⟩ := r.at h1
      have rv : σ[i]? = some (some v) := rv
      rw [vat hv] at e2; cases e2
      have := s.inj j i _ _ _ _ a e h2 ha rv
      subst this
      exact n p h1
  have own2 : ∀ a, Own ρ2 σ a → Own ρ σ a := fun a ⟨j, mo, b, e1, e2⟩ => by
    rcases cs j with ⟨p, hp⟩ | n
    · obtain ⟨m0, m1, k, a', q1, q2, q3, q4⟩ := inn hp
      exact ⟨j, m0, k, q1, e2⟩
    · rw [(putBack_at (j := j) pb ap).1 n] at e1
      exact ⟨j, mo, b, e1, e2⟩
  refine ⟨⟨g.sub, fun a o e n => ?_, ⟨g.sr.sub, by rw [(putBack_at (j := 0) pb ap).2.2]; exact s.len, fun j d e => ?_, fun j mo b e => ?_, fun j1 j2 m1 k1 m2 k2 c z1 z2 q1 q2 => ?_⟩, g.there, fun j mo e => ?_⟩, own2⟩
  · obtain ⟨h1, h2, _⟩ := g.keep a o e fun z => n (ow a z)
    exact ⟨h1, h2, fun z => n (own2 a z)⟩
  · rcases cs j with ⟨p, hp⟩ | n
    · obtain ⟨m0, m1, k, a', q1, q2, q3, q4⟩ := inn hp
      rw [q2] at e; cases e
    · rw [(putBack_at (j := j) pb ap).1 n] at e
      obtain ⟨v, h1, h2⟩ := s.val j d e
      exact ⟨v, h1, h2.mono g.sub⟩
  · rcases cs j with ⟨p, hp⟩ | n
    · obtain ⟨m0, m1, k, a', q1, q2, q3, q4⟩ := inn hp
      rw [q2] at e; cases e
      exact ⟨a', q3, q4⟩
    · rw [(putBack_at (j := j) pb ap).1 n] at e
      obtain ⟨a, h1, h2⟩ := s.own j mo b e
      obtain ⟨o, ho⟩ := h2.there
      obtain ⟨k1, k2, _⟩ := g.keep a o ho (out n e h1)
      exact ⟨a, h1, h2.move g.sub (k2 (h2.nt ho) h2.free) fun o' eo => by rw [ho] at eo; cases eo; exact k1⟩
  · have own1 : ∀ {j : Nat} {mo : Mo} {b : Bool}, ρ2[j]? = some (.own mo b) → ∃ m', ρ[j]? = some (.own m' b) := fun {j mo b} e => by
      rcases cs j with ⟨p, hp⟩ | n
      · obtain ⟨m0, m1, k, a', q1, q2, q3, q4⟩ := inn hp
        rw [q2] at e; cases e
        exact ⟨m0, q1⟩
      · rw [(putBack_at (j := j) pb ap).1 n] at e
        exact ⟨mo, e⟩
    obtain ⟨m1', e1⟩ := own1 z1
    obtain ⟨m2', e2⟩ := own1 z2
    exact s.inj j1 j2 _ _ _ _ c e1 e2 q1 q2
  · rcases cs j with ⟨p, hp⟩ | n
    · obtain ⟨m0, m1, k, a', q1, q2, q3, q4⟩ := inn hp
      rw [q1] at e; cases e
      exact ⟨m1, q2, rfl⟩
    · exact ⟨mo, by rw [(putBack_at (j := j) pb ap).1 n]; exact e, rfl⟩
/-- the reading of a call -/
theorem call_imp {g : Cn} {a : Ans} {n : Nat} (hn : ∀ ρ hs ρ1, a ρ = .ok hs ρ1 → hs.length = n) {dvs : List V} {q : tE K W (dCall g a) σ H Q} : tAs K W a σ H fun vs H1 => SpOf K W.xr n g vs H1 Q W.E := by
  obtain ⟨ρ, F, s, q⟩ := q
  refine ⟨ρ, F, s, ?_⟩
  unfold dCall at q
  cases ha : a ρ with
  | no => rw [ha] at q; exact q
  | ex x ρ1 => rw [ha] at q; exact q
  | ok hs ρ1 =>
    rw [ha] at q
    simp only [RE.bind] at q
    intro vs F1 H1 g1 r1
    refine ⟨by rw [← r1.len]; exact hn _ _ _ ha, F1, ?_⟩
    by_cases ap : apartB hs = true
    · rw [if_pos ap] at q
      cases hi : mkIns ρ1 hs with
      | none => rw [hi] at q; exact q.elim
      | some ins =>
        rw [hi] at q
        refine ⟨ins, (g1.sr.ins r1 hi ap).1, ?_⟩
        cases hg : g ins with
        | no => simp only [hg] at q; exact q.elim
        | ok d outs =>
          simp only [hg] at q
          cases hso : setOuts ins outs with
          | none => simp only [hso, Option.bind_none] at q; exact q.elim
          | some l2 =>
            simp only [hso, Option.bind_some] at q
            cases hpb : putBack hs l2 ρ1 with
            | none => simp only [hpb] at q; exact q.elim
            | some ρ2 =>
              simp only [hpb] at q
              exact ⟨l2, hso, fun v F' H' g2 r2 => q v F' H' (g1.trans (Go.back g1.sr r1 hi ap hso g2 hpb).1) r2⟩
        | new m outs =>
          simp only [hg] at q
          cases hso : setOuts ins outs with
          | none => simp only [hso, Option.bind_none] at q; exact q.elim
          | some l2 =>
            simp only [hso, Option.bind_some] at q
            cases hpb : putBack hs l2 ρ1 with
            | none => simp only [hpb] at q; exact q.elim
            | some ρ2 =>
              simp only [hpb] at q
              refine ⟨l2, hso, fun a F' H' g2 o no n => ?_⟩
              obtain ⟨gb, ob⟩ := Go.back g1.sr r1 hi ap hso g2 hpb
              obtain ⟨u, hu⟩ := o.there
              have n0 : ¬ Own ρ2 σ a := fun z => by
                obtain ⟨u', e'⟩ := (ob a z).there g1.sr
                rw [n] at e'; cases e'
              exact q _ _ _ (g1.trans (gb.freeze n o.free hu n0)) (o.rep (upd_same' o.free) (by rw [upd_same, hu]))
        | ex x outs =>
          simp only [hg] at q
          cases hso : setOuts ins outs with
          | none => simp only [hso, Option.bind_none] at q; exact q.elim
          | some l2 =>
            simp only [hso, Option.bind_some] at q
            cases hpb : putBack hs l2 ρ1 with
            | none => simp only [hpb] at q; exact q.elim
            | some ρ2 =>
              simp only [hpb] at q
              exact ⟨l2, hso, fun c dx F' H' g2 r2 => q c dx F' H' (g1.trans (Go.back g1.sr r1 hi ap hso g2 hpb).1) r2⟩
    · rw [if_neg ap] at q; exact q.elim
end
theorem fcall_imp {K : PySem.W.Frag} {W : Wt} {σ : Sg} {H : Hp} {Q : VK} {g : Cn} {a : Ans} {n : Nat} (hn : ∀ ρ hs ρ1, a ρ = .ok hs ρ1 → hs.length = n) {q : tF K W (fCall g a) σ H Q} : tAs K W a σ H fun vs H1 => SpOf K W.xr n g vs H1 Q W.E := by
  obtain ⟨ρ, F, s, q⟩ := q
  refine ⟨ρ, F, s, ?_⟩
  unfold fCall at q
  cases ha : a ρ with
  | no => rw [ha] at q; exact q
  | ex x ρ1 => rw [ha] at q; exact q
  | ok hs ρ1 =>
    rw [ha] at q
    simp only [RE.bind] at q
    intro vs F1 H1 g1 r1
    refine ⟨by rw [← r1.len]; exact hn _ _ _ ha, F1, ?_⟩
    by_cases ap : apartB hs = true
    · rw [if_pos ap] at q
      cases hi : mkIns ρ1 hs with
      | none => rw [hi] at q; exact q.elim
      | some ins =>
        rw [hi] at q
        refine ⟨ins, (g1.sr.ins r1 hi ap).1, ?_⟩
        cases hg : g ins with
        | no => simp only [hg] at q; exact q.elim
        | ok d outs => simp only [hg] at q; exact q.elim
        | new m outs =>
          simp only [hg] at q
          cases hso : setOuts ins outs with
          | none => simp only [hso, Option.bind_none] at q; exact q.elim
          | some l2 =>
            simp only [hso, Option.bind_some] at q
            cases hpb : putBack hs l2 ρ1 with
            | none => simp only [hpb] at q; exact q.elim
            | some ρ2 =>
              simp only [hpb] at q
              refine ⟨l2, hso, fun a F' H' g2 o no n => ?_⟩
              obtain ⟨gb, ob⟩ := Go.back g1.sr r1 hi ap hso g2 hpb
              have n0 : H a = none := by
                cases e : H a with
                | none => rfl
                | some u =>
                  obtain ⟨u', e'⟩ := g1.there a u e
                  rw [n] at e'; cases e'
              exact q a F' H' (g1.trans gb) o n0 fun z => by
                obtain ⟨u', e'⟩ := (ob a z).there g1.sr
                rw [n] at e'; cases e'
        | ex x outs =>
          simp only [hg] at q
          cases hso : setOuts ins outs with
          | none => simp only [hso, Option.bind_none] at q; exact q.elim
          | some l2 =>
            simp only [hso, Option.bind_some] at q
            cases hpb : putBack hs l2 ρ1 with
            | none => simp only [hpb] at q; exact q.elim
            | some ρ2 =>
              simp only [hpb] at q
              exact ⟨l2, hso, fun c dx F' H' g2 r2 => q c dx F' H' (g1.trans (Go.back g1.sr r1 hi ap hso g2 hpb).1) r2⟩
    · rw [if_neg ap] at q; exact q.elim
/-- the number of arguments -/
def aLen (a : Ans) (n : Nat) : Prop := ∀ ρ hs ρ1, a ρ = .ok hs ρ1 → hs.length = n
theorem aLen_nil : aLen aNil 0 := fun ρ hs ρ1 h => by cases h; rfl
theorem aLen_cons {a : An} {t : Ans} {n : Nat} (h : aLen t n) : aLen (aCons a t) (n + 1) := fun ρ hs ρ1 e => by
  unfold aCons at e
  cases ha : a ρ with
  | no => rw [ha] at e; cases e
  | ex x ρ1 => rw [ha] at e; cases e
  | ok h1 ρ2 =>
    rw [ha] at e
    simp only [RE.bind] at e
    cases ht : t ρ2 with
    | no => rw [ht] at e; cases e
    | ex x ρ1 => rw [ht] at e; cases e
    | ok hs2 ρ3 =>
      rw [ht] at e
      simp only [RE.bind] at e
      cases e
      rw [List.length_cons, h _ _ _ ht]
section
variable {X : Cx} {W : Wt} {CX : CXT} {k : Nat} {f : Addr} {fd : FuncData} {ps : List Str} {x : Str} {p pos : Pos} {e : Expr} {es : List Expr} {a : Ans} {g : Cn} {n : Nat}
theorem de_call (Fk : FnOk X.prog X.w X.K X.mg X.base CX k f fd ps (SpOf X.K W.xr n g)) (hr : Room k X.A) (hm : X.mg x = some (.ref f)) (hk : PySem.W.keepIn X.K (.ref f) = true) (hb : Binds X.K fd ps []) (hx : Passes CX X W.E)
    (ha : PA X (e :: es) (tAs X.K W a)) (hn : aLen a n) (hg : Gl X x := by rfl) (hdb : (x == ("__debug__" : Str)) = false := by decide) (he : starEach (e :: es) X.env = (false, eval e X.env) :: starEach es X.env := by rfl) (hpl : (backTo pos (starEach es X.env)).any (·.1) = false := by rfl) :
    PE X (.Call (.Name x p) (e :: es) [] pos) (tE X.K W (dCall g a)) :=
  PE.imp (pe_call (dvs := []) (ds := []) Fk hr hg hm hk hb .nil hx ha hdb he hpl) fun σ H Q q => by
    show tAs X.K W a σ H fun vs H1 => SpOf X.K W.xr n g (vs ++ []) H1 Q W.E
    simp only [List.append_nil]
    exact call_imp (dvs := []) hn (q := q)
theorem df_call (Fk : FnOk X.prog X.w X.K X.mg X.base CX k f fd ps (SpOf X.K W.xr n g)) (hr : Room k X.A) (hm : X.mg x = some (.ref f)) (hk : PySem.W.keepIn X.K (.ref f) = true) (hb : Binds X.K fd ps []) (hx : Passes CX X W.E)
    (ha : PA X (e :: es) (tAs X.K W a)) (hn : aLen a n) (hg : Gl X x := by rfl) (hdb : (x == ("__debug__" : Str)) = false := by decide) (he : starEach (e :: es) X.env = (false, eval e X.env) :: starEach es X.env := by rfl) (hpl : (backTo pos (starEach es X.env)).any (·.1) = false := by rfl) :
    PE X (.Call (.Name x p) (e :: es) [] pos) (tF X.K W (fCall g a)) :=
  PE.imp (pe_call (dvs := []) (ds := []) Fk hr hg hm hk hb .nil hx ha hdb he hpl) fun σ H Q q => by
    show tAs X.K W a σ H fun vs H1 => SpOf X.K W.xr n g (vs ++ []) H1 Q W.E
    simp only [List.append_nil]
    exact fcall_imp hn (q := q)
theorem df_call0 (Fk : FnOk X.prog X.w X.K X.mg X.base CX k f fd ps (SpOf X.K W.xr 0 g)) (hr : Room k X.A) (hm : X.mg x = some (.ref f)) (hk : PySem.W.keepIn X.K (.ref f) = true) (hb : Binds X.K fd ps []) (hx : Passes CX X W.E)
    (hg : Gl X x := by rfl) (hdb : (x == ("__debug__" : Str)) = false := by decide) : PE X (.Call (.Name x p) [] [] pos) (tF X.K W (fCall g aNil)) :=
  PE.imp (pe_call0 (dvs := []) (ds := []) Fk hr hg hm hk hb .nil hx hdb) fun σ H Q q => by
    obtain ⟨ρ, F, s, z⟩ := fcall_imp aLen_nil (q := q)
    exact z [] F H (Go.refl s) .nil
theorem de_call0 (Fk : FnOk X.prog X.w X.K X.mg X.base CX k f fd ps (SpOf X.K W.xr 0 g)) (hr : Room k X.A) (hm : X.mg x = some (.ref f)) (hk : PySem.W.keepIn X.K (.ref f) = true) (hb : Binds X.K fd ps []) (hx : Passes CX X W.E)
    (hg : Gl X x := by rfl) (hdb : (x == ("__debug__" : Str)) = false := by decide) : PE X (.Call (.Name x p) [] [] pos) (tE X.K W (dCall g aNil)) :=
  PE.imp (pe_call0 (dvs := []) (ds := []) Fk hr hg hm hk hb .nil hx hdb) fun σ H Q q => by
    obtain ⟨ρ, F, s, z⟩ := call_imp (dvs := []) aLen_nil (q := q)
    exact z [] F H (Go.refl s) .nil
end
/-! ### defs -/
def outsOf : List LV → Rho → Option (List Mo)
  | [], _ => some []
  | .val _ :: r, _ :: q => outsOf r q
  | .own _ _ :: r, .own m _ :: q => match outsOf r q with
    | some l => some (m :: l)
    | none => none
  | _, _ => none
/-- a def: n parameters, N slots -/
def app (N : Nat) (body : Sn) : Cn := fun ins => match body (ins ++ List.replicate (N - ins.length) .un) with
  | .ret d ρ => match outsOf ins ρ with
    | some l => .ok d l
    | none => .no
  | .new m ρ => match outsOf ins ρ with
    | some l => .new m l
    | none => .no
  | .next ρ => match outsOf ins ρ with
    | some l => .ok .none l
    | none => .no
  | .ex x ρ => match outsOf ins ρ with
    | some l => .ex x l
    | none => .no
  | _ => .no
section
variable {K : PySem.W.Frag} {W : Wt} {ρ ρ' : Rho} {σ : Sg} {F H F' H' : Hp} {Q : VK}
theorem outs_at : ∀ {ins : List LV} {ρ : Rho} {l : List Mo}, outsOf ins ρ = some l → (∀ (j : Nat) m b, ins[j]? = some (.own m b) → b = false) → ∃ l2, setOuts ins l = some l2 ∧ ∀ (j : Nat) m b, l2[j]? = some (.own m b) → ∃ b', ρ[j]? = some (.own m b')
  | [], ρ, l, h, _ => by simp only [outsOf] at h; cases h; exact ⟨[], rfl, fun j m b e => by simp at e⟩
  | .un :: r, [], l, h, _ => by simp only [outsOf] at h; cases h
  | .un :: r, _ :: _, l, h, _ => by simp only [outsOf] at h; cases h
  | .val d :: r, [], l, h, _ => by simp only [outsOf] at h; cases h
  | .own m b :: r, [], l, h, _ => by simp only [outsOf] at h; cases h
  | .own m b :: r, .un :: q, l, h, _ => by simp only [outsOf] at h; cases h
  | .own m b :: r, .val d :: q, l, h, _ => by simp only [outsOf] at h; cases h
  | .val d :: r, x :: q, l, h, hf => by
    simp only [outsOf] at h
    obtain ⟨l2, h1, h2⟩ := outs_at h fun j m b e => hf (j + 1) m b (by simpa using e)
    refine ⟨.val d :: l2, by simp only [setOuts, h1], fun j m b e => ?_⟩
    cases j with
    | zero => simp at e
    | succ j => simpa using h2 j m b (by simpa using e)
  | .own m b :: r, .own m' b' :: q, l, h, hf => by
    simp only [outsOf] at h
    cases hr : outsOf r q with
    | none => rw [hr] at h; cases h
    | some l1 =>
      rw [hr] at h; cases h
      obtain ⟨l2, h1, h2⟩ := outs_at hr fun j m b e => hf (j + 1) m b (by simpa using e)
      refine ⟨.own m' b :: l2, by simp only [setOuts, h1], fun j m2 b2 e => ?_⟩
      cases j with
      | zero => simp at e; exact ⟨b', by simp [e.1]⟩
      | succ j => simpa using h2 j m2 b2 (by simpa using e)
/-- the parameters are the slots at the entry -/
theorem SR.start {ins : List LV} {vs : List V} {N : Nat} {names : List Str} (s : SR K ins (vs.map some) F H) (hN : names.length = N) (hl : ins.length ≤ N) : SR K (ins ++ List.replicate (N - ins.length) .un) (L2.start names vs) F H := by
  have e0 : vs.length = ins.length := by have := s.len; rw [List.length_map] at this; exact this
  have lt : ∀ {j : Nat} {x : LV}, (ins ++ List.replicate (N - ins.length) LV.un)[j]? = some x → x ≠ .un → j < ins.length ∧ ins[j]? = some x := fun {j x} e nx => by
    by_cases hj : j < ins.length
    · rw [List.getElem?_append_left hj] at e; exact ⟨hj, e⟩
    · rw [List.getElem?_append_right (by omega), List.getElem?_replicate] at e
      split at e
      · cases e; exact absurd rfl nx
      · cases e
  have sl : ∀ {j : Nat} {v : Option V}, j < ins.length → ((vs.map some)[j]? = some v ↔ (L2.start names vs)[j]? = some v) := fun {j v} hj => by
    unfold L2.start
    rw [List.getElem?_append_left (by rw [List.length_map]; omega)]
  refine ⟨s.sub, ?_, fun j d e => ?_, fun j m b e => ?_, fun j1 j2 m1 k1 m2 k2 c z1 z2 q1 q2 => ?_⟩
  · unfold L2.start
    rw [List.length_append, List.length_map, List.length_replicate, List.length_append, List.length_replicate]; omega
  · obtain ⟨hj, e⟩ := lt e (by intro z; cases z)
    obtain ⟨v, h1, h2⟩ := s.val j d e
    exact ⟨v, (sl hj).mp h1, h2⟩
  · obtain ⟨hj, e⟩ := lt e (by intro z; cases z)
    obtain ⟨v, h1, h2⟩ := s.own j m b e
    exact ⟨v, (sl hj).mp h1, h2⟩
  · obtain ⟨hj1, e1⟩ := lt z1 (by intro z; cases z)
    obtain ⟨hj2, e2⟩ := lt z2 (by intro z; cases z)
    exact s.inj j1 j2 _ _ _ _ c e1 e2 ((sl hj1).mpr q1) ((sl hj2).mpr q2)
/-- leaving a def -/
theorem Go.leave {ins : List LV} {vs : List V} {N : Nat} {names : List Str} {l : List Mo} {σ' : Sg} (s : SR K ins (vs.map some) F H) (hl : ins.length ≤ N) (hf : ∀ (j : Nat) m b, ins[j]? = some (.own m b) → b = false) (ho : outsOf ins ρ' = some l)
    (g : Go K (ins ++ List.replicate (N - ins.length) .un) (L2.start names vs) F H ρ' σ' F' H') : ∃ l2, setOuts ins l = some l2 ∧ Go K ins (vs.map some) F H l2 (vs.map some) F' H' := by
  obtain ⟨l2, h1, h2⟩ := outs_at ho hf
  have e0 : vs.length = ins.length := by have := s.len; rw [List.length_map] at this; exact this
  have lt : ∀ {j : Nat} {x : LV}, (ins ++ List.replicate (N - ins.length) LV.un)[j]? = some x → x ≠ .un → j < ins.length ∧ ins[j]? = some x := fun {j x} e nx => by
    by_cases hj : j < ins.length
    · rw [List.getElem?_append_left hj] at e; exact ⟨hj, e⟩
    · rw [List.getElem?_append_right (by omega), List.getElem?_replicate] at e
      split at e
      · cases e; exact absurd rfl nx
      · cases e
  have up : ∀ {j : Nat} {x : LV}, ins[j]? = some x → (ins ++ List.replicate (N - ins.length) LV.un)[j]? = some x := fun {j x} e => by
    rw [List.getElem?_append_left (List.getElem?_eq_some_iff.mp e).1]; exact e
  have sl : ∀ {j : Nat} {v : Option V}, j < ins.length → ((vs.map some)[j]? = some v ↔ (L2.start names vs)[j]? = some v) := fun {j v} hj => by
    unfold L2.start
    rw [List.getElem?_append_left (by rw [List.length_map]; omega)]
  have own0 : ∀ a, Own (ins ++ List.replicate (N - ins.length) .un) (L2.start names vs) a → Own ins (vs.map some) a := fun a ⟨j, m, b, e1, e2⟩ => by
    obtain ⟨hj, e1⟩ := lt e1 (by intro z; cases z)
    exact ⟨j, m, b, e1, (sl hj).mpr e2⟩
  have own2 : ∀ a, Own l2 (vs.map some) a → Own ins (vs.map some) a := fun a ⟨j, m, b, e1, e2⟩ => by
    obtain ⟨m', e⟩ := (setOuts_at (p := j) h1).2.2.1 m b e1
    exact ⟨j, m', b, e, e2⟩
  refine ⟨l2, h1, g.sub, fun a o e n => ?_, ⟨g.sr.sub, by rw [(setOuts_at (p := 0) h1).2.2.2.2]; exact s.len, fun j d e => ?_, fun j m b e => ?_, fun j1 j2 m1 k1 m2 k2 c z1 z2 q1 q2 => ?_⟩, g.there, fun j m e => ?_⟩
  · obtain ⟨k1, k2, _⟩ := g.keep a o e fun z => n (own0 a z)
    exact ⟨k1, k2, fun z => n (own2 a z)⟩
  · obtain ⟨v, q1, q2⟩ := s.val j d ((setOuts_at (p := j) h1).2.2.2.1 d e)
    exact ⟨v, q1, q2.mono g.sub⟩
  · obtain ⟨m', e'⟩ := (setOuts_at (p := j) h1).2.2.1 m b e
    have hb := hf j m' b e'
    subst hb
    obtain ⟨a, q1, q2⟩ := s.own j m' false e'
    obtain ⟨m2, r1, r2⟩ := g.io j m' (up e')
    obtain ⟨b', r3⟩ := h2 j m false e
    rw [r1] at r3; cases r3
    obtain ⟨a', r4, r5⟩ := g.sr.own j m false r1
    have hj : j < ins.length := (List.getElem?_eq_some_iff.mp e').1
    rw [r2, (sl hj).mp q1] at r4; cases r4
    exact ⟨a, q1, r5⟩
  · obtain ⟨m1', e1⟩ := (setOuts_at (p := j1) h1).2.2.1 _ _ z1
    obtain ⟨m2', e2⟩ := (setOuts_at (p := j2) h1).2.2.1 _ _ z2
    exact s.inj j1 j2 _ _ _ _ c e1 e2 q1 q2
  · obtain ⟨m', e'⟩ := (setOuts_at (p := j) h1).2.1 m false e
    exact ⟨m', e', rfl⟩
end
/-- only trees and objects for the caller are handed in -/
def insOk : List LV → Bool
  | [] => true
  | .val _ :: r => insOk r
  | .own _ b :: r => !b && insOk r
  | .un :: _ => false
theorem insOk_at : ∀ {l : List LV} {j : Nat} {m : Mo} {b : Bool}, insOk l = true → l[j]? = some (.own m b) → b = false
  | [], _, _, _, _, e => by simp at e
  | .val _ :: r, 0, _, _, _, e => by simp at e
  | .val _ :: r, j + 1, m, b, h, e => insOk_at (l := r) (j := j) h (by simpa using e)
  | .own _ _ :: r, 0, m, b, h, e => by simp [insOk] at h e; rw [← e.2]; exact h.1
  | .own _ _ :: r, j + 1, m, b, h, e => insOk_at (l := r) (j := j) (by simp [insOk] at h; exact h.2) (by simpa using e)
def fn (n N : Nat) (body : Sn) : Cn := fun ins => if ins.length = n ∧ insOk ins = true then app N body ins else .no
/-- a def's body keeps what the Lean function says -/
theorem body_ok {K : PySem.W.Frag} {xr : XR} {n N : Nat} {names : List Str} {body : Sn} {vs : List V} {H : Hp} {Q : VK} {E : XK} (hN : names.length = N) (hn : n ≤ N) (h : SpOf K xr n (fn n N body) vs H Q E) :
    tS K ⟨xr, E⟩ body { nx := fun _ H' => Q .non H', rt := Q } (L2.start names vs) H := by
  obtain ⟨hv, F, ins, s, q⟩ := h
  unfold fn at q
  by_cases c : ins.length = n ∧ insOk ins = true
  · rw [if_pos c] at q
    have hl : ins.length ≤ N := by omega
    have hf : ∀ (j : Nat) m b, ins[j]? = some (.own m b) → b = false := fun j m b e => insOk_at c.2 e
    refine ⟨_, F, s.start hN hl, ?_⟩
    unfold app at q
    cases hb : body (ins ++ List.replicate (N - ins.length) LV.un) with
    | next ρ =>
      rw [hb] at q
      simp only at q
      cases ho : outsOf ins ρ with
      | none => rw [ho] at q; exact q.elim
      | some l =>
        rw [ho] at q
        obtain ⟨l1, e1, q⟩ := q
        intro σ' F' H' g
        obtain ⟨l2, e2, g2⟩ := Go.leave s hl hf ho g
        rw [e2] at e1; cases e1
        exact q _ F' H' g2 rep_none
    | ret d ρ =>
      rw [hb] at q
      simp only at q
      cases ho : outsOf ins ρ with
      | none => rw [ho] at q; exact q.elim
      | some l =>
        rw [ho] at q
        obtain ⟨l1, e1, q⟩ := q
        intro v σ' F' H' g r
        obtain ⟨l2, e2, g2⟩ := Go.leave s hl hf ho g
        rw [e2] at e1; cases e1
        exact q _ F' H' g2 r
    | new m ρ =>
      rw [hb] at q
      simp only at q
      cases ho : outsOf ins ρ with
      | none => rw [ho] at q; exact q.elim
      | some l =>
        rw [ho] at q
        obtain ⟨l1, e1, q⟩ := q
        intro a σ' F' H' g o no mi
        obtain ⟨l2, e2, g2⟩ := Go.leave s hl hf ho g
        rw [e2] at e1; cases e1
        have hn : H a = none := by
          rcases mi with z | ⟨i, m', z1, z2⟩
          · exact z
          · by_cases hj : i < ins.length
            · rw [List.getElem?_append_left hj] at z1
              cases hf _ _ _ z1
            · rw [List.getElem?_append_right (by omega), List.getElem?_replicate] at z1
              split at z1 <;> cases z1
        refine q a F' H' g2 o (fun ⟨j, m', b, y1, y2⟩ => ?_) hn
        obtain ⟨m2, y3⟩ := (setOuts_at (p := j) e2).2.2.1 m' b y1
        obtain ⟨u, eu⟩ := Own.there s ⟨j, m2, b, y3, y2⟩
        rw [hn] at eu; cases eu
    | ex x ρ =>
      rw [hb] at q
      simp only at q
      cases ho : outsOf ins ρ with
      | none => rw [ho] at q; exact q.elim
      | some l =>
        rw [ho] at q
        obtain ⟨l1, e1, q⟩ := q
        intro c dx σ' F' H' g r
        obtain ⟨l2, e2, g2⟩ := Go.leave s hl hf ho g
        rw [e2] at e1; cases e1
        exact q _ _ F' H' g2 r
    | brk ρ => rw [hb] at q; exact q.elim
    | cnt ρ => rw [hb] at q; exact q.elim
    | no => rw [hb] at q; exact q.elim
  · rw [if_neg c] at q; exact q.elim
section
variable {P : Program} {w : World} {K : PySem.W.Frag} {mg : Str → Option Value} {base : Heap}
/-- as Fun.okX, for exceptions whose context is None -/
theorem okN {x qual : Str} {st : Stmt} {f : Addr} {fd : FuncData} {N ps : List Str} {k : Nat} {sp : Sp} (F : Fun K x qual st f fd) (S : FnScope N ps (defScope st)) (len : ∀ vs H Q E, sp vs H Q E → vs.length = ps.length)
    (hbody : ∀ (cdv : Value) (A : Around) (outer : List Env) (s : Shared) (H : Hp) (vs : List V) (Q : VK) (E : XK), Room k (A.deeper (envOfC qual (defScope st) s.heap.objs.size f cdv)) → sp vs H Q E →
      ∃ t, PSs (cxOf (L2N.CX P w) P w K mg base N qual (defScope st) f cdv A outer s H E) (defBody st) t ∧ t { nx := fun _ H' => Q .non H', rt := Q } (L2.start N vs) H) : FnOk P w K mg base (L2N.CX P w) (k + 1) f fd ps sp := by
  obtain ⟨oc, od, kV, doc, pm, an, cdv, ct, osl, rfl, lk, hcd⟩ := F.ex
  exact fn_of lk hcd S len fun A outer s H vs Q E hr hsp => hbody cdv A outer s H vs Q E hr hsp
theorem def_ok {xr : XR} {x qual : Str} {st : Stmt} {f : Addr} {fd : FuncData} {N ps : List Str} {k n m : Nat} {body : Sn} (Fx : Fun K x qual st f fd) (S : FnScope N ps (defScope st)) (hp : ps.length = n) (hN : N.length = m) (hnm : n ≤ m)
    (hbody : ∀ (cdv : Value) (A : Around) (outer : List Env) (s : Shared) (H : Hp) (E : XK), Room k (A.deeper (envOfC qual (defScope st) s.heap.objs.size f cdv)) →
      PSs (cxOf (L2N.CX P w) P w K mg base N qual (defScope st) f cdv A outer s H E) (defBody st) (tS K ⟨xr, E⟩ body)) : FnOk P w K mg base (L2N.CX P w) (k + 1) f fd ps (SpOf K xr n (fn n m body)) :=
  okN Fx S (fun vs H Q E h => h.1.trans hp.symm) fun cdv A outer s H vs Q E hr h => ⟨_, hbody cdv A outer s H E hr, body_ok hN hnm h⟩
end
end Ft
/-! Ft5: what is walked; comprehensions. -/
namespace Ft
open PySem L2 PySem.Spec PyProof.Rows

/-! ### sources -/
def items : D → Option (List D)
  | .list l => some l
  | .tuple l => some l
  | .str x => some (x.cps.toList.map fun c => PyData.str ⟨#[c]⟩)
  | _ => none
def iSeq (d : Dn) : In := fun ρ => (d ρ).bind fun x ρ' => ans (items x) ρ'
section
variable {K : PySem.W.Frag} {F H : Hp}
theorem walk_list {a : Addr} {l : List D} {vs : List V} (q : SqL K F a vs) (r : Reps K F l vs) : Walk K (Itl K a) l F where
  go := fun i F1 H1 s1 s2 hi => by
    obtain ⟨v, hv, rv⟩ := r.get (List.getElem?_eq_getElem hi)
    have q1 : SqL K H1 a vs := (s1.trans s2).seq q
    refine ⟨⟨vs, v, q1, hv⟩, fun x H' ⟨e, y⟩ => ?_⟩
    subst e
    have e2 := y vs q1
    rw [hv] at e2; cases e2
    exact ⟨F1, l[i], Fr.refl s2, List.getElem?_eq_getElem hi, rv.mono s1⟩
  stop := fun i F1 H1 s1 s2 hi => ⟨vs, (s1.trans s2).seq q, by rw [← r.length]; exact hi⟩
theorem walk_tuple {a : Addr} {l : List D} {vs : List V} (q : SqT K F a vs) (r : Reps K F l vs) : Walk K (Itt K a) l F where
  go := fun i F1 H1 s1 s2 hi => by
    obtain ⟨v, hv, rv⟩ := r.get (List.getElem?_eq_getElem hi)
    have q1 : SqT K H1 a vs := sameT (s1.trans s2) q
    refine ⟨⟨vs, v, q1, hv⟩, fun x H' ⟨e, y⟩ => ?_⟩
    subst e
    have e2 := y vs q1
    rw [hv] at e2; cases e2
    exact ⟨F1, l[i], Fr.refl s2, List.getElem?_eq_getElem hi, rv.mono s1⟩
  stop := fun i F1 H1 s1 s2 hi => ⟨vs, sameT (s1.trans s2) q, by rw [← r.length]; exact hi⟩
theorem walk_str {x : Str} : Walk K (Its x) (x.cps.toList.map fun c => PyData.str ⟨#[c]⟩) F where
  go := fun i F1 H1 s1 s2 hi => by
    rw [List.length_map, Array.length_toList] at hi
    refine ⟨hi, fun v H' ⟨e, c, hc, hv⟩ => ?_⟩
    subst e hv
    refine ⟨F1, .str ⟨#[c]⟩, Fr.refl s2, ?_, rep_str⟩
    rw [List.getElem?_map, Array.getElem?_toList, hc]; rfl
  stop := fun i F1 H1 s1 s2 hi => by rw [List.length_map, Array.length_toList] at hi; exact hi
theorem walk_range {lo : Int} {n : Nat} : Walk K (Itr lo n) ((List.range n).map fun (i : Nat) => PyData.int (lo + i)) F where
  go := fun i F1 H1 s1 s2 hi => by
    rw [List.length_map, List.length_range] at hi
    refine ⟨hi, fun v H' ⟨e, hv⟩ => ?_⟩
    subst e hv
    refine ⟨F1, .int (lo + i), Fr.refl s2, ?_, rep_int⟩
    rw [List.getElem?_map, List.getElem?_range hi]; rfl
  stop := fun i F1 H1 s1 s2 hi => by rw [List.length_map, List.length_range] at hi; exact hi
end
section
variable {X : Cx} {W : Wt} {tg e e2 e3 : Expr} {d d2 : Dn} {pos p : Pos} {v : Vn}
theorem PI.imp {wi wi' : TI} (h : PI X tg e wi) (i : ∀ σ H R, wi' σ H R → wi σ H R) : PI X tg e wi' := ⟨fun pins s σ H R I q => h.run pins s σ H R I (i σ H R q)⟩
theorem di_seq (h : PE X e (tE X.K W d)) : PI X tg e (tI X.K W (iSeq d)) := by
  refine ⟨fun pins s σ H R I ⟨ρ, F, sr, q⟩ => ?_⟩
  unfold iSeq at q
  cases hd : d ρ with
  | no => rw [hd] at q; exact q.elim
  | ex x ρ1 =>
    rw [hd] at q
    exact (pi_list h).run pins s σ H R I ⟨ρ, F, sr, by rw [hd]; exact q⟩
  | ok x ρ1 =>
    rw [hd] at q
    have q : Af X.K W (RI X.K) ρ σ F H R (ans (items x) ρ1) := q
    obtain ⟨l, el, q⟩ := ans_some q
    cases x with
    | list l' =>
      cases el
      refine (pi_list h).run pins s σ H R I ⟨ρ, F, sr, ?_⟩
      rw [hd]
      intro v F' H' g r
      obtain ⟨a, vs, e1, e2, e3⟩ := by simpa only [Rep] using r
      exact ⟨a, e1, ⟨vs, .inl (rdSame g.sr.sub e2)⟩, q _ _ _ g (walk_list (.inl e2) e3)⟩
    | tuple l' =>
      cases el
      refine (pi_tup h).run pins s σ H R I ⟨ρ, F, sr, ?_⟩
      rw [hd]
      intro v F' H' g r
      obtain ⟨a, vs, e1, e2, e3⟩ := by simpa only [Rep] using r
      exact ⟨a, e1, ⟨vs, SqT.of (g.sr.sub _ _ e2)⟩, q _ _ _ g (walk_tuple (SqT.of e2) e3)⟩
    | str z =>
      cases el
      refine (pi_str h).run pins s σ H R I ⟨ρ, F, sr, ?_⟩
      rw [hd]
      intro v F' H' g r
      exact ⟨z, by simpa only [Rep] using r, q _ _ _ g walk_str⟩
    | none => cases el
    | bool _ => cases el
    | int _ => cases el
    | dict _ => cases el
def rangeL (a b : Int) : List D := (List.range (b - a).toNat).map fun (i : Nat) => PyData.int (a + i)
def rng1 : List D → Option (List D)
  | [.int j] => if -(2 ^ 62) ≤ j ∧ j < 2 ^ 62 then some (rangeL 0 j) else none
  | _ => none
def rng2 : List D → Option (List D)
  | [.int i, .int j] => if -(2 ^ 62) ≤ i ∧ i < 2 ^ 62 ∧ -(2 ^ 62) ≤ j ∧ j < 2 ^ 62 then some (rangeL i j) else none
  | _ => none
def iOn (f : List D → Option (List D)) (a : Ans) : In := fun ρ => (a ρ).bind fun hs ρ1 => ans ((looks ρ1 hs).bind f) ρ1
variable {a : Ans}
theorem di_range1 (hm : X.mg "range" = none) (ha : PA X [e] (tAs X.K W a)) (hg : Gl X "range" := by rfl) (hs : starEach [e] X.env = [(false, eval e X.env)] := by rfl) : PI X tg (.Call (.Name "range" p) [e] [] pos) (tI X.K W (iOn rng1 a)) :=
  PI.imp (pi_range1 hg hm ha hs) fun σ H R ⟨ρ, F, s, q⟩ => Af.bind s q fun hs vs ρ1 F1 H1 g r z => by
    obtain ⟨l, el, q⟩ := ans_some z
    obtain ⟨ds, hd, el⟩ := Option.bind_eq_some_iff.mp el
    have rb := looks_rep g.sr r hd
    unfold rng1 at el
    split at el
    · rename_i j
      by_cases hj : -(2 ^ 62) ≤ j ∧ j < 2 ^ 62
      · rw [if_pos hj] at el; cases el
        obtain ⟨v, rfl, rv⟩ := rb.one
        refine ⟨j, by rw [rv.int], hj.1, hj.2, q _ _ _ (Go.refl g.sr) ?_⟩
        have := walk_range (K := X.K) (F := F1) (lo := 0) (n := j.toNat)
        unfold rangeL
        simpa using this
      · rw [if_neg hj] at el; cases el
    · cases el
theorem di_range2 (hm : X.mg "range" = none) (ha : PA X [e, e2] (tAs X.K W a)) (hg : Gl X "range" := by rfl) (hs : starEach [e, e2] X.env = [(false, eval e X.env), (false, eval e2 X.env)] := by rfl) (hs2 : starEach [e2] X.env = [(false, eval e2 X.env)] := by rfl) : PI X tg (.Call (.Name "range" p) [e, e2] [] pos) (tI X.K W (iOn rng2 a)) :=
  PI.imp (pi_range2 hg hm ha hs hs2) fun σ H R ⟨ρ, F, s, q⟩ => Af.bind s q fun hs vs ρ1 F1 H1 g r z => by
    obtain ⟨l, el, q⟩ := ans_some z
    obtain ⟨ds, hd, el⟩ := Option.bind_eq_some_iff.mp el
    have rb := looks_rep g.sr r hd
    unfold rng2 at el
    split at el
    · rename_i i j
      by_cases hj : -(2 ^ 62) ≤ i ∧ i < 2 ^ 62 ∧ -(2 ^ 62) ≤ j ∧ j < 2 ^ 62
      · rw [if_pos hj] at el; cases el
        obtain ⟨v, w, rfl, rv, rw_⟩ := rb.two
        exact ⟨i, j, by rw [rv.int, rw_.int], hj, q _ _ _ (Go.refl g.sr) walk_range⟩
      · rw [if_neg hj] at el; cases el
    · cases el
end

/-! ### comprehensions -/
def wipeR (ρ : Rho) : List Nat → Rho
  | [] => ρ
  | v :: vs => (wipeR ρ vs).set v .un
def restore (ρ ρ2 : Rho) : List Nat → Rho
  | [] => ρ2
  | v :: vs => match ρ[v]? with
    | some x => (restore ρ ρ2 vs).set v x
    | none => restore ρ ρ2 vs
theorem wipeR_len (ρ : Rho) : ∀ vs, (wipeR ρ vs).length = ρ.length
  | [] => rfl
  | v :: vs => by unfold wipeR; rw [List.length_set, wipeR_len ρ vs]
theorem restore_len (ρ ρ2 : Rho) : ∀ vs, (restore ρ ρ2 vs).length = ρ2.length
  | [] => rfl
  | v :: vs => by
    unfold restore
    cases ρ[v]? with
    | none => exact restore_len ρ ρ2 vs
    | some x => rw [List.length_set, restore_len ρ ρ2 vs]
theorem wipeR_in {ρ : Rho} {j : Nat} : ∀ {vs : List Nat}, j ∈ vs → ∀ x, (wipeR ρ vs)[j]? = some x → x = .un
  | v :: vs, h, x, e => by
    unfold wipeR at e
    by_cases hj : v = j
    · subst hj
      have hl : v < (wipeR ρ vs).length := by
        have := (List.getElem?_eq_some_iff.mp e).1
        rwa [List.length_set] at this
      rw [List.getElem?_set_self hl] at e; cases e; rfl
    · rw [List.getElem?_set_ne hj] at e
      exact wipeR_in ((List.mem_cons.mp h).resolve_left fun z => hj z.symm) x e
theorem wipeR_out {ρ : Rho} {j : Nat} : ∀ {vs : List Nat}, j ∉ vs → (wipeR ρ vs)[j]? = ρ[j]?
  | [], _ => rfl
  | v :: vs, h => by
    unfold wipeR
    rw [List.getElem?_set_ne fun z => h (by simp [z]), wipeR_out fun z => h (List.mem_cons_of_mem _ z)]
theorem wipe_get {σ : Sg} {j : Nat} : ∀ {vs : List Nat}, j ∉ vs → (wipe σ vs)[j]? = σ[j]?
  | [], _ => rfl
  | v :: vs, h => by
    unfold wipe
    rw [List.getElem?_set_ne fun z => h (by simp [z]), wipe_get fun z => h (List.mem_cons_of_mem _ z)]
theorem wipe_in {σ : Sg} {j : Nat} (hl : j < σ.length) : ∀ {vs : List Nat}, j ∈ vs → (wipe σ vs)[j]? = some none
  | v :: vs, h => by
    unfold wipe
    by_cases hj : v = j
    · subst hj; rw [List.getElem?_set_self (by rw [wipe_length]; exact hl)]
    · rw [List.getElem?_set_ne hj]
      exact wipe_in hl ((List.mem_cons.mp h).resolve_left fun z => hj z.symm)
theorem restore_out {ρ ρ2 : Rho} {j : Nat} : ∀ {vs : List Nat}, j ∉ vs → (restore ρ ρ2 vs)[j]? = ρ2[j]?
  | [], _ => rfl
  | v :: vs, h => by
    unfold restore
    cases ρ[v]? with
    | none => exact restore_out fun z => h (List.mem_cons_of_mem _ z)
    | some x => simp only; rw [List.getElem?_set_ne fun z => h (by simp [z]), restore_out fun z => h (List.mem_cons_of_mem _ z)]
theorem restore_in {ρ ρ2 : Rho} {j : Nat} (hl : ρ2.length = ρ.length) : ∀ {vs : List Nat}, j ∈ vs → (restore ρ ρ2 vs)[j]? = ρ[j]?
  | v :: vs, h => by
    unfold restore
    by_cases hj : v = j
    · subst hj
      cases e : ρ[v]? with
      | none =>
        simp only
        rw [List.getElem?_eq_none_iff] at e ⊢
        rw [restore_len, hl]; exact e
      | some x =>
        simp only
        rw [List.getElem?_set_self (by rw [restore_len, hl]; exact (List.getElem?_eq_some_iff.mp e).1)]
    · have ih := restore_in hl ((List.mem_cons.mp h).resolve_left fun z => hj z.symm)
      cases e : ρ[v]? with
      | none => exact ih
      | some x => simp only; rw [List.getElem?_set_ne hj]; exact ih
section
variable {K : PySem.W.Frag} {W : Wt} {ρ ρ' : Rho} {σ σ' : Sg} {F H F' H' : Hp} {vs ts : List Nat} {a : Addr}
theorem wipe_keep (k : Kp ts (wipe σ vs) σ') (sub : ∀ i ∈ ts, i ∈ vs) : wipe σ' vs = wipe σ vs := by
  have hl : σ'.length = σ.length := by rw [k.1, wipe_length]
  apply List.ext_getElem?
  intro j
  by_cases hj : j ∈ vs
  · by_cases h : j < σ.length
    · rw [wipe_in (by omega) hj, wipe_in h hj]
    · rw [List.getElem?_eq_none (by rw [wipe_length]; omega), List.getElem?_eq_none (by rw [wipe_length]; omega)]
  · rw [wipe_get hj, wipe_get hj, k.2 j fun z => hj (sub j z), wipe_get hj]
theorem own_wipe (h : Own (wipeR ρ vs) (wipe σ vs) a) : Own ρ σ a := by
  obtain ⟨j, m, b, e1, e2⟩ := h
  by_cases hj : j ∈ vs
  · have := wipeR_in hj _ e1; cases this
  · rw [wipeR_out hj] at e1
    rw [wipe_get hj] at e2
    exact ⟨j, m, b, e1, e2⟩
theorem SR.wipe (s : SR K ρ σ F H) : SR K (wipeR ρ vs) (L2.wipe σ vs) F H where
  sub := s.sub
  len := by rw [wipe_length, wipeR_len, s.len]
  val := fun j d e => by
    by_cases hj : j ∈ vs
    · have := wipeR_in hj _ e; cases this
    · rw [wipeR_out hj] at e; rw [wipe_get hj]; exact s.val j d e
  own := fun j m b e => by
    by_cases hj : j ∈ vs
    · have := wipeR_in hj _ e; cases this
    · rw [wipeR_out hj] at e; rw [wipe_get hj]; exact s.own j m b e
  inj := fun j1 j2 m1 b1 m2 b2 c z1 z2 q1 q2 => by
    by_cases h1 : j1 ∈ vs
    · have := wipeR_in h1 _ z1; cases this
    · by_cases h2 : j2 ∈ vs
      · have := wipeR_in h2 _ z2; cases this
      · rw [wipeR_out h1] at z1; rw [wipeR_out h2] at z2; rw [wipe_get h1] at q1; rw [wipe_get h2] at q2
        exact s.inj j1 j2 _ _ _ _ c z1 z2 q1 q2
/-- within a block: the block's own names forgotten at a turn's end -/
theorem Go.wiped {ρ0 : Rho} {F0 H0 : Hp} {σ2 : Sg} (g : Go K ρ0 (L2.wipe σ vs) F0 H0 ρ' σ2 F' H') (e : L2.wipe σ2 vs = L2.wipe σ vs) (h0 : ∀ j ∈ vs, ∀ m, ρ0[j]? ≠ some (.own m false)) : Go K ρ0 (L2.wipe σ vs) F0 H0 (wipeR ρ' vs) (L2.wipe σ vs) F' H' where
  sub := g.sub
  keep := fun b o eb n => by
    obtain ⟨h1, h2, h3⟩ := g.keep b o eb n
    exact ⟨h1, h2, fun z => h3 (own_wipe (vs := vs) (by rw [e]; exact z))⟩
  sr := by rw [← e]; exact g.sr.wipe
  there := g.there
  io := fun j m em => by
    have hj : j ∉ vs := fun z => h0 j z m em
    obtain ⟨m', h1, h2⟩ := g.io j m em
    exact ⟨m', by rw [wipeR_out hj]; exact h1, rfl⟩
/-- out of a block -/
theorem Go.unwipe {ρ1 : Rho} {F1 H1 : Hp} (s : SR K ρ1 σ F1 H1) (g : Go K (wipeR ρ1 vs) (L2.wipe σ vs) F1 H1 ρ' (L2.wipe σ vs) F' H') : Go K ρ1 σ F1 H1 (restore ρ1 ρ' vs) σ F' H' ∧ (∀ b, Own (restore ρ1 ρ' vs) σ b → Own ρ' (L2.wipe σ vs) b ∨ Own ρ1 σ b) := by
  have hl : ρ'.length = ρ1.length := by rw [← g.sr.len, wipe_length, s.len]
  -- an own slot of the result: one of the block's, or one that was put aside
  have inn : ∀ {j m b}, (restore ρ1 ρ' vs)[j]? = some (.own m b) → (j ∉ vs ∧ ρ'[j]? = some (.own m b)) ∨ (j ∈ vs ∧ ρ1[j]? = some (.own m b)) := fun {j m b} e => by
    by_cases hj : j ∈ vs
    · rw [restore_in hl hj] at e; exact .inr ⟨hj, e⟩
    · rw [restore_out hj] at e; exact .inl ⟨hj, e⟩
  have aside : ∀ {j m b a}, j ∈ vs → ρ1[j]? = some (.own m b) → σ[j]? = some (some (.ref a)) → ¬ Own (wipeR ρ1 vs) (L2.wipe σ vs) a := fun {j m b a} hj e ha ⟨i, m', b', e1, e2⟩ => by
    by_cases hi : i ∈ vs
    · have := wipeR_in hi _ e1; cases this
    · rw [wipeR_out hi] at e1; rw [wipe_get hi] at e2
      exact hi (s.inj j i _ _ _ _ a e e1 ha e2 ▸ hj)
  have own2 : ∀ b, Own (restore ρ1 ρ' vs) σ b → Own ρ' (L2.wipe σ vs) b ∨ Own ρ1 σ b := fun b ⟨j, m, k, e1, e2⟩ => by
    rcases inn e1 with ⟨hj, q⟩ | ⟨hj, q⟩
    · exact .inl ⟨j, m, k, q, by rw [wipe_get hj]; exact e2⟩
    · exact .inr ⟨j, m, k, q, e2⟩
  refine ⟨⟨g.sub, fun b o eb n => ?_, ⟨g.sr.sub, by rw [restore_len, hl]; exact s.len, fun j d e => ?_, fun j m b e => ?_, fun j1 j2 m1 k1 m2 k2 c z1 z2 q1 q2 => ?_⟩, g.there, fun j m e => ?_⟩, own2⟩
  · obtain ⟨h1, h2, h3⟩ := g.keep b o eb fun z => n (own_wipe z)
    exact ⟨h1, h2, fun z => (own2 b z).elim h3 n⟩
  · by_cases hj : j ∈ vs
    · rw [restore_in hl hj] at e
      obtain ⟨v, h1, h2⟩ := s.val j d e
      exact ⟨v, h1, h2.mono g.sub⟩
    · rw [restore_out hj] at e
      obtain ⟨v, h1, h2⟩ := g.sr.val j d e
      rw [wipe_get hj] at h1
      exact ⟨v, h1, h2⟩
  · rcases inn e with ⟨hj, q⟩ | ⟨hj, q⟩
    · obtain ⟨c, h1, h2⟩ := g.sr.own j m b q
      rw [wipe_get hj] at h1
      exact ⟨c, h1, h2⟩
    · obtain ⟨c, h1, h2⟩ := s.own j m b q
      obtain ⟨o, ho⟩ := h2.there
      obtain ⟨k1, k2, _⟩ := g.keep c o ho (aside hj q h1)
      exact ⟨c, h1, h2.move g.sub (k2 (h2.nt ho) h2.free) fun o' eo => by rw [ho] at eo; cases eo; exact k1⟩
  · rcases inn z1 with ⟨h1, y1⟩ | ⟨h1, y1⟩ <;> rcases inn z2 with ⟨h2, y2⟩ | ⟨h2, y2⟩
    · exact g.sr.inj j1 j2 _ _ _ _ c y1 y2 (by rw [wipe_get h1]; exact q1) (by rw [wipe_get h2]; exact q2)
    · obtain ⟨c', h3, h4⟩ := s.own j2 _ _ y2
      rw [q2] at h3; cases h3
      obtain ⟨o, ho⟩ := h4.there
      exact absurd ⟨j1, _, _, y1, by rw [wipe_get h1]; exact q1⟩ (g.keep c o ho (aside h2 y2 q2)).2.2
    · obtain ⟨c', h3, h4⟩ := s.own j1 _ _ y1
      rw [q1] at h3; cases h3
      obtain ⟨o, ho⟩ := h4.there
      exact absurd ⟨j2, _, _, y2, by rw [wipe_get h2]; exact q2⟩ (g.keep c o ho (aside h1 y1 q1)).2.2
    · exact s.inj j1 j2 _ _ _ _ c y1 y2 q1 q2
  · by_cases hj : j ∈ vs
    · exact ⟨m, by rw [restore_in hl hj]; exact e, rfl⟩
    · obtain ⟨m', h1, h2⟩ := g.io j m (by rw [wipeR_out hj]; exact e)
      exact ⟨m', by rw [restore_out hj]; exact h1, rfl⟩
/-- an object that is new since the start is changed -/
theorem Go.grow {ρ0 : Rho} {σ0 : Sg} {F0 H0 : Hp} {o : HO} (g : Go K ρ0 σ0 F0 H0 ρ σ F H) (n0 : H0 a = none) (n : F a = none) (no : ¬ Own ρ σ a) : Go K ρ0 σ0 F0 H0 ρ σ F (upd H a o) where
  sub := g.sub
  keep := fun b u e hn => by
    obtain ⟨h1, h2, h3⟩ := g.keep b u e hn
    exact ⟨by rw [upd_ne (ne_of_none e n0)]; exact h1, h2, h3⟩
  sr := ⟨fun b u e => by rw [upd_ne (ne_of_none e n)]; exact g.sr.sub _ _ e, g.sr.len, g.sr.val, fun j m b e => by
    obtain ⟨c, h1, h2⟩ := g.sr.own j m b e
    have hc : c ≠ a := fun z => no ⟨j, m, b, e, z ▸ h1⟩
    exact ⟨c, h1, h2.move (Same.refl _) h2.free fun o eo => by rw [upd_ne hc]; exact eo⟩, g.sr.inj⟩
  there := fun b u e => by
    obtain ⟨u', e'⟩ := g.there b u e
    by_cases hb : b = a
    · subst hb; exact ⟨_, upd_same⟩
    · exact ⟨u', by rw [upd_ne hb]; exact e'⟩
  io := g.io
end
/-- an object that no slot owns stays -/
theorem OwnAt.go {K : PySem.W.Frag} {ρ ρ' : Rho} {σ σ' : Sg} {F H F' H' : Hp} {a : Addr} {m : Mo} (g : Go K ρ σ F H ρ' σ' F' H') (o : OwnAt K F H a m) (n : ¬ Own ρ σ a) : OwnAt K F' H' a m ∧ ¬ Own ρ' σ' a := by
  obtain ⟨u, hu⟩ := o.there
  obtain ⟨h1, h2, h3⟩ := g.keep a u hu n
  exact ⟨o.move g.sub (h2 (o.nt hu) o.free) fun o' eo => by rw [hu] at eo; cases eo; exact h1, h3⟩
def compL (bd : Bd) (ifs : Tn) (elt : Dn) (vs : List Nat) : List D → List D → Rho → RE (List D)
  | [], acc, ρ => .ok acc ρ
  | d :: l, acc, ρ => match bd d ρ with
    | none => .no
    | some ρ1 => match ifs ρ1 with
      | .ok false ρ2 => compL bd ifs elt vs l acc (wipeR ρ2 vs)
      | .ok true ρ2 => match elt ρ2 with
        | .ok x ρ3 => if acc.length < sizeLine then compL bd ifs elt vs l (acc ++ [x]) (wipeR ρ3 vs) else .no
        | _ => .no
      | _ => .no
def fComp (src : In) (bd : Bd) (ifs : Tn) (elt : Dn) (vs : List Nat) : Fn := fun ρ => (src ρ).bind fun l ρ1 => match compL bd ifs elt vs l [] (wipeR ρ1 vs) with
  | .ok r ρ2 => .ok (.lst r) (restore ρ1 ρ2 vs)
  | _ => .no
def tnYes : Tn := fun ρ => .ok true ρ
section
variable {X : Cx} {W : Wt} {tg e e2 e3 : Expr} {d d2 : Dn} {pos p : Pos} {v : Vn} {es : List Expr} {t : Tn}
theorem dts_nil : PTs X [] (tT X.K W tnYes) := ⟨fun pins s σ H Q I ⟨ρ, F, sr, q⟩ => pts_nil.run pins s σ H Q I (q.okk sr rfl)⟩
theorem dts_one (h : PT X e (tT X.K W t)) : PTs X [e] (tT X.K W t) := pts_one h
theorem comp_tail {bd : Bd} {ts vs : List Nat} {ifs : Tn} {elt : Dn} {g : TG} {σ : Sg} {H1 : Hp} {Q : VK} {J : It} {l : List D} {ρ1 : Rho} {F1 : Hp} (hr : TgR X.K g bd ts) (sub : ∀ i ∈ ts, i ∈ vs) (s1 : SR X.K ρ1 σ F1 H1) (wk : Walk X.K J l F1)
    (q1 : AfF X.K W ρ1 σ F1 H1 Q (match compL bd ifs elt vs l [] (wipeR ρ1 vs) with | .ok r ρ2 => .ok (.lst r) (restore ρ1 ρ2 vs) | _ => .no)) :
    tLc (fun _ H R => R J H) g (tT X.K ⟨W.xr, E0⟩ ifs) (tE X.K ⟨W.xr, E0⟩ elt) vs σ H1 Q := by
  intro D hD
  have h0 : ∀ j ∈ vs, ∀ m, (wipeR ρ1 vs)[j]? ≠ some (.own m false) := fun j hj m e => by have := wipeR_in hj _ e; cases this
  have noD : ¬ Own ρ1 σ D := fun z => by
    obtain ⟨o, eo⟩ := z.there s1
    rw [hD] at eo; cases eo
  have FD : F1 D = none := sub_none s1.sub hD
  refine ⟨fun i m H' => ∃ ρb Fb acc, Go X.K (wipeR ρ1 vs) (wipe σ vs) F1 H1 ρb (wipe σ vs) Fb H' ∧ OwnAt X.K Fb H' D (.lst acc) ∧ ¬ Own ρb (wipe σ vs) D ∧ i ≤ l.length ∧ m = l.length - i ∧
      AfF X.K W ρ1 σ F1 H1 Q (match compL bd ifs elt vs (l.drop i) acc ρb with | .ok r ρ2 => .ok (.lst r) (restore ρ1 ρ2 vs) | _ => .no),
    ⟨l.length, wipeR ρ1 vs, F1, [], (Go.refl s1.wipe).grow hD FD fun z => noD (own_wipe z), ⟨FD, [], upd_same, .nil⟩, fun z => noD (own_wipe z), Nat.zero_le _, rfl, q1⟩, ?_⟩
  rintro i m H2 ⟨ρb, Fb, acc, gb, ob, nb, hi, rfl, q2⟩
  by_cases hl : i < l.length
  · obtain ⟨go, yd⟩ := wk.go i Fb H2 gb.sub gb.sr.sub hl
    refine .inr ⟨go, fun H' => ∃ ρb Fb acc, Go X.K (wipeR ρ1 vs) (wipe σ vs) F1 H1 ρb (wipe σ vs) Fb H' ∧ OwnAt X.K Fb H' D (.lst acc) ∧ ¬ Own ρb (wipe σ vs) D ∧
      AfF X.K W ρ1 σ F1 H1 Q (match compL bd ifs elt vs (l.drop (i + 1)) acc ρb with | .ok r ρ2 => .ok (.lst r) (restore ρ1 ρ2 vs) | _ => .no), fun H' ⟨a1, a2, a3, a4, a5, a6, a7⟩ => ⟨l.length - (i + 1), by omega, a1, a2, a3, a4, a5, a6, hl, rfl, a7⟩, fun x H3 y => ?_⟩
    obtain ⟨F3, dd, f, hd, r⟩ := yd x H3 y
    have g3 := gb.trans (f.go gb.sr)
    have hd' : l.drop i = dd :: l.drop (i + 1) := by
      obtain ⟨h1, h2⟩ := List.getElem?_eq_some_iff.mp hd
      rw [← h2]; exact List.drop_eq_getElem_cons h1
    rw [hd'] at q2
    unfold compL at q2
    cases hb : bd dd ρb with
    | none => rw [hb] at q2; exact q2.elim
    | some ρ4 =>
      simp only [hb] at q2
      refine hr _ _ _ _ _ _ _ _ g3.sr r hb fun σ4 g4 kp => ?_
      have we := wipe_keep kp sub
      obtain ⟨o3, n3⟩ := OwnAt.go ((f.go gb.sr).trans g4) ob nb
      have g5 := g3.trans g4
      refine ⟨we, ρ4, F3, g4.sr, ?_⟩
      cases hif : ifs ρ4 with
      | no => simp only [hif] at q2; exact q2.elim
      | ex x ρ5 => simp only [hif] at q2; exact q2.elim
      | ok b ρ5 =>
        intro b' F5 H5 g6 eb
        subst eb
        obtain ⟨o5, n5⟩ := OwnAt.go g6 o3 n3
        cases b' with
        | false =>
          simp only [hif] at q2
          rw [if_neg Bool.false_ne_true]
          exact ⟨wipeR ρ5 vs, F5, acc, (g5.trans g6).wiped we h0, o5, fun z => n5 (own_wipe (vs := vs) (by rw [we]; exact z)), q2⟩
        | true =>
          simp only [hif] at q2
          rw [if_pos rfl]
          refine ⟨ρ5, F5, g6.sr, ?_⟩
          cases hel : elt ρ5 with
          | no => simp only [hel] at q2; exact q2.elim
          | ex x ρ6 => simp only [hel] at q2; exact q2.elim
          | ok x ρ6 =>
            intro yv F6 H6 g7 ry
            obtain ⟨o6, n6⟩ := OwnAt.go g7 o5 n5
            obtain ⟨fD, ac, eD, rD⟩ := o6
            simp only [hel] at q2
            by_cases hz : acc.length < sizeLine
            · rw [if_pos hz] at q2
              refine ⟨ac, eD, by rw [← rD.length]; exact hz, wipeR ρ6 vs, F6, acc ++ [x], ?_, ⟨fD, _, upd_same, rD.append (.cons ry .nil)⟩, fun z => n6 (own_wipe (vs := vs) (by rw [we]; exact z)), q2⟩
              exact (((g5.trans g6).trans g7).wiped we h0).grow hD fD fun z => n6 (own_wipe (vs := vs) (by rw [we]; exact z))
            · rw [if_neg hz] at q2; exact q2.elim
  · refine .inl ⟨wk.stop i Fb H2 gb.sub gb.sr.sub (by omega), ?_⟩
    rw [List.drop_eq_nil_of_le (by omega)] at q2
    obtain ⟨g2, o2⟩ := Go.unwipe s1 gb
    exact q2 D Fb H2 g2 ob hD fun z => (o2 D z).elim nb noD
theorem comp_imp {src : In} {bd : Bd} {ts vs : List Nat} {ifs : Tn} {elt : Dn} {g : TG} {σ : Sg} {H : Hp} {Q : VK} (hr : TgR X.K g bd ts) (sub : ∀ i ∈ ts, i ∈ vs) (q : tF X.K W (fComp src bd ifs elt vs) σ H Q) :
    tLc (tI X.K W src) g (tT X.K ⟨W.xr, E0⟩ ifs) (tE X.K ⟨W.xr, E0⟩ elt) vs σ H Q := by
  obtain ⟨ρ, F, s, q⟩ := q
  exact AfF.bind s q fun l J ρ1 F1 H1 g1 wk q1 => comp_tail hr sub g1.sr wk q1
theorem df_comp {elt iter : Expr} {ifs : List Expr} {scope : Scope} {src : In} {bd : Bd} {ts vs : List Nat} {tn : Tn} {de : Dn} (own : List (Str × Nat)) (hv : vs = own.map (·.2)) (hc : X.calm = true) (hN : X.N.Nodup) (hi : PI X tg iter (tI X.K W src)) (ok : BlkOk X.N X.env.scope scope own)
    (hg : ∃ g, (∀ (s : Shared) (H : Hp) (C : Addr) (cl : List (Str × Addr)) (fp : List Addr), PG (X.blk s H scope (compEnvC scope cl C X.env) fp) tg g) ∧ TgR X.K g bd ts) (sub : ∀ i ∈ ts, i ∈ vs)
    (ht : ∀ (s : Shared) (H : Hp) (C : Addr) (cl : List (Str × Addr)) (fp : List Addr), PTs (X.blk s H scope (compEnvC scope cl C X.env) fp) ifs (tT X.K ⟨W.xr, E0⟩ tn))
    (he : ∀ (s : Shared) (H : Hp) (C : Addr) (cl : List (Str × Addr)) (fp : List Addr), PE (X.blk s H scope (compEnvC scope cl C X.env) fp) elt (tE X.K ⟨W.xr, E0⟩ de))
    (hs : ∀ x, foldedSetIterable iter X.env x = pure x := by intro _; rfl) :
    PE X (.ListComp elt [⟨tg, iter, ifs, 0⟩] scope pos) (tF X.K W (fComp src bd tn de vs)) := by
  obtain ⟨g, hg, hr⟩ := hg
  subst hv
  exact PE.imp (pe_lc hc hN hi ok hg ht he hs) fun _ _ _ q => comp_imp hr sub q
end
end Ft
/-! Ft6: built-in operators by trees. -/
namespace Ft
open PySem L2 PySem.Spec PyProof.Rows
open PySem.W (alike dataLt)

section
variable {X : Cx} {pins : List (Addr × Obj)} {σ : Sg} {H : Hp} {s : Shared}
theorem key_reads {h : Heap} {k : Key} {u : Value} (e : keyIs k u = true) : Reads h u (kD k) [] := by
  rcases keyIs_shape e with ⟨i, t, rfl, rfl⟩ | ⟨x, t, rfl, rfl⟩
  · exact .int i t
  · exact .str x t
theorem dk_keys {P : Program} {w : World} {h : Heap} : ∀ {es : List (Key × V)} {ws : List (Key × Value)} {en : List DictEntry}, KV es ws → Pairs (mixKind P w) en ws → (∃ as, ReadsAll h (en.map (·.key)) (es.map fun e => kD e.1) as) ∧ Vals (es.map (·.2)) (en.map (·.val))
  | [], _, _, .nil, .nil => ⟨⟨_, .nil⟩, .nil⟩
  | e :: es, _, _, .cons r t, .cons p1 p2 p3 => by
    obtain ⟨⟨as, ih⟩, ih2⟩ := dk_keys t p3
    refine ⟨⟨_, .cons (key_reads (by rw [r.1]; exact p1)) ih⟩, .cons ?_ ih2⟩
    show RelV e.2 _
    simp only [p2]; exact r.2
theorem keys_reads {h : Heap} : ∀ {ks : List Key} {us : List Value}, Vals (ks.map kV) us → ∃ as, ReadsAll h us (ks.map kD) as
  | [], _, .nil => ⟨_, .nil⟩
  | k :: ks, _, .cons r t => by
    obtain ⟨as, ih⟩ := keys_reads t
    cases k with
    | inl i => obtain ⟨tk, rfl⟩ := r; exact ⟨_, .cons (.int i tk) ih⟩
    | inr x => obtain ⟨tk, rfl⟩ := r; exact ⟨_, .cons (.str x tk) ih⟩
theorem dt_keys {P : Program} {w : World} {h : Heap} (ok : HOk P w H h) : ∀ {es : List (List Key × V)} {xs : List (List Key × Addr × Value)}, KT H es xs →
    (∃ as, ReadsAll h ((xs.map (entryOfKey (tupleKind (mixKind P w)))).map (·.key)) (es.map fun e => PyData.tuple (e.1.map kD)) as) ∧ Vals (es.map (·.2)) ((xs.map (entryOfKey (tupleKind (mixKind P w)))).map (·.val))
  | [], _, .nil => ⟨⟨_, .nil⟩, .nil⟩
  | e :: es, _, .cons r t => by
    obtain ⟨⟨as, ih⟩, ih2⟩ := dt_keys ok t
    obtain ⟨_, its, rv, o, e1, e2, n, e3⟩ := (show ObjOk P w H h _ (.tup (e.1.map kV)) from ok _ _ r.2.1)
    obtain ⟨bs, hb⟩ := keys_reads (h := h) rv
    exact ⟨⟨_, .cons (.tuple e1 e2 e3 (by simpa using hb)) ih⟩, .cons r.2.2 ih2⟩
mutual
/-- the library's reading of a tree -/
theorem Rep.reads (I : Inv X pins σ H s) : ∀ (d : D) (v : V) (u : Value), Rep X.K H d v → RelV v u → ∃ as, Reads s.heap u d as
  | .none, v, u, h, r => by
    simp only [Rep] at h; subst h; cases r
    exact ⟨_, .none⟩
  | .bool b, v, u, h, r => by
    simp only [Rep] at h; subst h; cases r
    exact ⟨_, .bool b⟩
  | .int i, v, u, h, r => by
    simp only [Rep] at h; subst h
    obtain ⟨t, rfl⟩ := r
    exact ⟨_, .int i t⟩
  | .str x, v, u, h, r => by
    simp only [Rep] at h; subst h
    obtain ⟨t, rfl⟩ := r
    exact ⟨_, .str x t⟩
  | .list ds, v, u, h, r => by
    simp only [Rep] at h
    obtain ⟨a, vs, rfl, q, q2⟩ := h
    cases r
    obtain ⟨its, rv, ⟨o, n, e1, e2, e3, e4⟩, _⟩ := I.list (.inl q)
    obtain ⟨as, z⟩ := Reps.reads I ds vs its q2 rv
    exact ⟨_, .list e1 e2 e4 (by simpa using z)⟩
  | .tuple ds, v, u, h, r => by
    simp only [Rep] at h
    obtain ⟨a, vs, rfl, q, q2⟩ := h
    cases r
    obtain ⟨its, rv, ⟨o, e1, e2, n, e3⟩, _⟩ := I.tuple (SqT.of q)
    obtain ⟨as, z⟩ := Reps.reads I ds vs its q2 rv
    exact ⟨_, .tuple e1 e2 e3 (by simpa using z)⟩
  | .dict kvs, v, u, h, r => by
    simp only [Rep] at h
    obtain ⟨a, vs, rfl, q, q2⟩ := h
    cases r
    rcases q with ⟨es, e1, e2, rfl⟩ | ⟨es, e1, e2, rfl⟩
    · obtain ⟨_, _, ws, kv, o, en, ep, h1, h2, h3, _, h4, _⟩ := dk_rd I.hok e1
      obtain ⟨⟨as, ha⟩, hv⟩ := dk_keys (h := s.heap) kv h4
      rw [← e2] at ha
      obtain ⟨bs, hb⟩ := RepP.reads I kvs _ _ q2 hv
      exact ⟨_, .dict h1 h2.1 h3 ha hb⟩
    · obtain ⟨_, _, ws, kv, o, en, ep, h1, h2, h3, h4, h5⟩ := dt_rd I.hok e1
      obtain ⟨⟨as, ha⟩, hv⟩ := dt_keys I.hok kv
      rw [← e2, ← h4] at ha
      rw [← h4] at hv
      obtain ⟨bs, hb⟩ := RepP.reads I kvs _ _ q2 hv
      exact ⟨_, .dict h1 h2.1 h3 ha hb⟩
theorem Reps.reads (I : Inv X pins σ H s) : ∀ (ds : List D) (vs : List V) (us : List Value), Reps X.K H ds vs → Vals vs us → ∃ as, ReadsAll s.heap us ds as
  | [], vs, us, h, r => by
    rw [reps_nil.mp h] at r; cases r
    exact ⟨_, .nil⟩
  | d :: ds, vs, us, h, r => by
    obtain ⟨v, w, rfl, h1, h2⟩ := reps_cons.mp h
    cases r with
    | cons r1 r2 =>
      obtain ⟨as, z1⟩ := Rep.reads I d v _ h1 r1
      obtain ⟨bs, z2⟩ := Reps.reads I ds w _ h2 r2
      exact ⟨_, .cons z1 z2⟩
theorem RepP.reads (I : Inv X pins σ H s) : ∀ (ds : List (D × D)) (vs : List V) (us : List Value), RepP X.K H ds vs → Vals vs us → ∃ as, ReadsAll s.heap us (ds.map (·.2)) as
  | [], vs, us, h, r => by
    simp only [RepP] at h
    subst h; cases r
    exact ⟨_, .nil⟩
  | (k, d) :: ds, vs, us, h, r => by
    simp only [RepP] at h
    obtain ⟨v, w, rfl, h1, h2⟩ := h
    cases r with
    | cons r1 r2 =>
      obtain ⟨as, z1⟩ := Rep.reads I d v _ h1 r1
      obtain ⟨bs, z2⟩ := RepP.reads I ds w _ h2 r2
      exact ⟨_, .cons z1 z2⟩
end
end

/-! ### truth values from trees -/
/-- the trees are read where they stand; the answer is a truth value -/
def rB (K : PySem.W.Frag) (p : D → D → Option Bool) : R2 := fun x y H Q => ∃ d e b, Rep K H d x ∧ Rep K H e y ∧ p d e = some b ∧ Q (.bl b) H
def toB (p : D → D → Option Bool) : D → D → Option D := fun d e => (p d e).map PyData.bool
theorem p2_B {K : PySem.W.Frag} {p : D → D → Option Bool} : P2 K (rB K p) (toB p) := fun F H x y d e z Q s h1 h2 hz q => by
  obtain ⟨b, hb, rfl⟩ := Option.map_eq_some_iff.mp hz
  exact ⟨d, e, b, h1.here s, h2.here s, hb, q _ F H (Fr.refl s) rep_bool⟩
section
variable {X : Cx}
/-- an operator whose answer the library tells of the trees -/
theorem opB_of {f : Value → Value → Sem Value} {p : D → D → Option Bool}
    (rule : ∀ (s : Shared) (u v : Value) (d e : D) (as bs : List Addr) (b : Bool) (Q : Value → Shared → Prop), Reads s.heap u d as → Reads s.heap v e bs → p d e = some b → Q (.bool b) s → wpAny (model X.prog X.w) X.A (f u v) Q X.xe s) : OpR X f (rB X.K p) := by
  intro pins s σ H x y v u Q I rx ry h
  obtain ⟨d, e, b, hd, he, hb, q⟩ := h
  obtain ⟨as, r1⟩ := Rep.reads I d x v hd rx
  obtain ⟨bs, r2⟩ := Rep.reads I e y u he ry
  exact rule s v u d e as bs b _ r1 r2 hb ⟨.bl b, H, I, rfl, q⟩
/-- not None -/
def some' : D → Bool
  | .none => false
  | _ => true
theorem some'_ne {d : D} (h : some' d = true) : d ≠ .none := fun e => by subst e; cases h
def flat2 (d e : D) : Bool := d.plain && e.plain && decide (min d.depth e.depth ≤ 60)
def cmp2 (d e : D) : Bool := alike d e && some' d && decide (min d.depth e.depth ≤ 60)
def eqB : D → D → Option Bool
  | .int i, .int j => some (decide (i = j))
  | .str i, .str j => some (decide (i = j))
  | d, e => if flat2 d e = true then some (PyData.eqv d e) else none
def neB : D → D → Option Bool
  | .int i, .int j => some (!decide (i = j))
  | .str i, .str j => some (!decide (i = j))
  | d, e => if flat2 d e = true then some (!PyData.eqv d e) else none
def ltB : D → D → Option Bool
  | .int i, .int j => some (decide (i < j))
  | d, e => if cmp2 d e = true then some (dataLt d e) else none
def gtB : D → D → Option Bool
  | .int i, .int j => some (decide (j < i))
  | d, e => if cmp2 d e = true then some (dataLt e d) else none
def leB : D → D → Option Bool
  | .int i, .int j => some (decide (i ≤ j))
  | d, e => if cmp2 d e = true then some (!dataLt e d) else none
def geB : D → D → Option Bool
  | .int i, .int j => some (decide (j ≤ i))
  | d, e => if cmp2 d e = true then some (!dataLt d e) else none
theorem not_decide_lt {i j : Int} : (!decide (j < i)) = decide (i ≤ j) := by
  by_cases h : j < i
  · simp [h]
  · simp only [h, decide_false, Bool.not_false]; exact (decide_eq_true (by omega)).symm
theorem eqB_all {d e : D} {b : Bool} (h : eqB d e = some b) : flat2 d e = true ∧ b = PyData.eqv d e := by
  unfold eqB at h
  split at h
  · cases h; exact ⟨rfl, by simp [PyData.eqv, Bool.beq_eq_decide_eq]⟩
  · cases h; exact ⟨rfl, by simp [PyData.eqv, Bool.beq_eq_decide_eq]⟩
  · split at h
    · rename_i h1; cases h; exact ⟨h1, rfl⟩
    · cases h
theorem neB_all {d e : D} {b : Bool} (h : neB d e = some b) : flat2 d e = true ∧ b = !PyData.eqv d e := by
  unfold neB at h
  split at h
  · cases h; exact ⟨rfl, by simp [PyData.eqv, Bool.beq_eq_decide_eq]⟩
  · cases h; exact ⟨rfl, by simp [PyData.eqv, Bool.beq_eq_decide_eq]⟩
  · split at h
    · rename_i h1; cases h; exact ⟨h1, rfl⟩
    · cases h
theorem cmp2_int {i j : Int} : cmp2 (.int i) (.int j) = true := by simp [cmp2, alike, some', PyData.depth]
theorem ltB_all {d e : D} {b : Bool} (h : ltB d e = some b) : cmp2 d e = true ∧ b = dataLt d e := by
  unfold ltB at h
  split at h
  · cases h; exact ⟨cmp2_int, by rw [PySem.W.dataLt_int]⟩
  · split at h
    · rename_i h1; cases h; exact ⟨h1, rfl⟩
    · cases h
theorem gtB_all {d e : D} {b : Bool} (h : gtB d e = some b) : cmp2 d e = true ∧ b = dataLt e d := by
  unfold gtB at h
  split at h
  · cases h; exact ⟨cmp2_int, by rw [PySem.W.dataLt_int]⟩
  · split at h
    · rename_i h1; cases h; exact ⟨h1, rfl⟩
    · cases h
theorem leB_all {d e : D} {b : Bool} (h : leB d e = some b) : cmp2 d e = true ∧ b = !dataLt e d := by
  unfold leB at h
  split at h
  · cases h; exact ⟨cmp2_int, by rw [PySem.W.dataLt_int, not_decide_lt]⟩
  · split at h
    · rename_i h1; cases h; exact ⟨h1, rfl⟩
    · cases h
theorem geB_all {d e : D} {b : Bool} (h : geB d e = some b) : cmp2 d e = true ∧ b = !dataLt d e := by
  unfold geB at h
  split at h
  · cases h; exact ⟨cmp2_int, by rw [PySem.W.dataLt_int, not_decide_lt]⟩
  · split at h
    · rename_i h1; cases h; exact ⟨h1, rfl⟩
    · cases h
theorem flat2_at {d e : D} (h : flat2 d e = true) : d.plain = true ∧ e.plain = true ∧ min d.depth e.depth ≤ 60 := by
  simp only [flat2, Bool.and_eq_true, decide_eq_true_eq] at h
  exact ⟨h.1.1, h.1.2, h.2⟩
theorem cmp2_at {d e : D} (h : cmp2 d e = true) : alike d e = true ∧ d ≠ .none ∧ min d.depth e.depth ≤ 60 := by
  simp only [cmp2, Bool.and_eq_true, decide_eq_true_eq] at h
  exact ⟨h.1.1, some'_ne h.1.2, h.2⟩
variable (hu : X.A.units + 64 < cLine)
include hu
theorem op_eqB : OpR X (compareOp .Eq) (rB X.K eqB) := opB_of fun s u v d e as bs b Q r1 r2 h q => by
  obtain ⟨c, rfl⟩ := eqB_all h
  obtain ⟨c1, c2, c3⟩ := flat2_at c
  exact SeqAt.eq_plain r1 r2 c1 c2 (by omega) q
theorem op_neB : OpR X (compareOp .NotEq) (rB X.K neB) := opB_of fun s u v d e as bs b Q r1 r2 h q => by
  obtain ⟨c, rfl⟩ := neB_all h
  obtain ⟨c1, c2, c3⟩ := flat2_at c
  exact SeqAt.ne_plain r1 r2 c1 c2 (by omega) q
theorem op_ltB : OpR X (compareOp .Lt) (rB X.K ltB) := opB_of fun s u v d e as bs b Q r1 r2 h q => by
  obtain ⟨c, rfl⟩ := ltB_all h
  obtain ⟨c1, c2, c3⟩ := cmp2_at c
  exact PySem.W.lt_data r1 r2 c1 c2 (by omega) q
theorem op_gtB : OpR X (compareOp .Gt) (rB X.K gtB) := opB_of fun s u v d e as bs b Q r1 r2 h q => by
  obtain ⟨c, rfl⟩ := gtB_all h
  obtain ⟨c1, c2, c3⟩ := cmp2_at c
  exact PySem.W.gt_data r1 r2 c1 c2 (by omega) q
theorem op_leB : OpR X (compareOp .LtE) (rB X.K leB) := opB_of fun s u v d e as bs b Q r1 r2 h q => by
  obtain ⟨c, rfl⟩ := leB_all h
  obtain ⟨c1, c2, c3⟩ := cmp2_at c
  exact PySem.W.le_data r1 r2 c1 c2 (by omega) q
theorem op_geB : OpR X (compareOp .GtE) (rB X.K geB) := opB_of fun s u v d e as bs b Q r1 r2 h q => by
  obtain ⟨c, rfl⟩ := geB_all h
  obtain ⟨c1, c2, c3⟩ := cmp2_at c
  exact PySem.W.ge_data r1 r2 c1 c2 (by omega) q
/-- in a list, a tuple -/
def inB (d e : D) : Option Bool := match e with
  | .list l => if PyData.plainAll l && d.plain && decide (min (PyData.depthAll l) d.depth ≤ 60) then some (l.any fun y => PyData.eqv y d) else none
  | .tuple l => if PyData.plainAll l && d.plain && decide (min (PyData.depthAll l) d.depth ≤ 60) then some (l.any fun y => PyData.eqv y d) else none
  | _ => none
def notInB (d e : D) : Option Bool := (inB d e).map fun b => !b
omit hu in
theorem inB_all {d e : D} {b : Bool} (h : inB d e = some b) : ∃ l, (e = .list l ∨ e = .tuple l) ∧ PyData.plainAll l = true ∧ d.plain = true ∧ min (PyData.depthAll l) d.depth ≤ 60 ∧ b = l.any fun y => PyData.eqv y d := by
  unfold inB at h
  split at h
  · rename_i l
    split at h
    · rename_i c
      simp only [Bool.and_eq_true, decide_eq_true_eq] at c
      cases h; exact ⟨l, .inl rfl, c.1.1, c.1.2, c.2, rfl⟩
    · cases h
  · rename_i l
    split at h
    · rename_i c
      simp only [Bool.and_eq_true, decide_eq_true_eq] at c
      cases h; exact ⟨l, .inr rfl, c.1.1, c.1.2, c.2, rfl⟩
    · cases h
  · cases h
theorem op_inB : OpR X (compareOp .In) (rB X.K inB) := opB_of fun s u v d e as bs b Q r1 r2 h q => by
  obtain ⟨l, c, c1, c2, c3, rfl⟩ := inB_all h
  rcases c with rfl | rfl
  · exact SeqAt.in_list_data r2 r1 c1 c2 (by omega) q
  · exact SeqAt.in_tuple_data r2 r1 c1 c2 (by omega) q
theorem op_notInB : OpR X (compareOp .NotIn) (rB X.K notInB) := opB_of fun s u v d e as bs b Q r1 r2 h q => by
  unfold notInB at h
  obtain ⟨b', h1, rfl⟩ := Option.map_eq_some_iff.mp h
  obtain ⟨l, c, c1, c2, c3, rfl⟩ := inB_all h1
  rcases c with rfl | rfl
  · exact SeqAt.notIn_list_data r2 r1 c1 c2 (by omega) q
  · exact SeqAt.notIn_tuple_data r2 r1 c1 c2 (by omega) q
end
/-- is None -/
def isNone : D → Bool
  | .none => true
  | _ => false
theorem rep_isNone {K : PySem.W.Frag} {H : Hp} : ∀ {d : D} {x : V}, Rep K H d x → decide (x = .non) = isNone d
  | .none, x, h => by simp only [Rep] at h; subst h; rfl
  | .bool _, x, h => by simp only [Rep] at h; subst h; rfl
  | .int _, x, h => by simp only [Rep] at h; subst h; rfl
  | .str _, x, h => by simp only [Rep] at h; subst h; rfl
  | .list _, x, h => by simp only [Rep] at h; obtain ⟨a, _, rfl, _⟩ := h; rfl
  | .tuple _, x, h => by simp only [Rep] at h; obtain ⟨a, _, rfl, _⟩ := h; rfl
  | .dict _, x, h => by simp only [Rep] at h; obtain ⟨a, _, rfl, _⟩ := h; rfl
def isB (d e : D) : Option D := match e with
  | .none => some (.bool (isNone d))
  | _ => none
def isNotB (d e : D) : Option D := match e with
  | .none => some (.bool (!isNone d))
  | _ => none
theorem p2_is {K : PySem.W.Frag} : P2 K (fun x y H Q => y = .non ∧ Q (.bl (decide (x = .non))) H) isB := fun F H x y d e z Q s h1 h2 hz q => by
  unfold isB at hz
  split at hz
  · cases hz
    exact ⟨h2.none, by rw [rep_isNone (h1.here s)]; exact q _ F H (Fr.refl s) rep_bool⟩
  · cases hz
theorem p2_isNot {K : PySem.W.Frag} : P2 K (fun x y H Q => y = .non ∧ Q (.bl (!decide (x = .non))) H) isNotB := fun F H x y d e z Q s h1 h2 hz q => by
  unfold isNotB at hz
  split at hz
  · cases hz
    exact ⟨h2.none, by rw [rep_isNone (h1.here s)]; exact q _ F H (Fr.refl s) rep_bool⟩
  · cases hz
/-! ### arithmetic -/
def mulB : D → D → Option D
  | .int i, .int j => if (decide (-(2 ^ 64) < i) && decide (i < 2 ^ 64)) || (decide (-(2 ^ 64) < j) && decide (j < 2 ^ 64)) then some (.int (i * j)) else none
  | _, _ => none
def subB : D → D → Option D
  | .int i, .int j => some (.int (i - j))
  | _, _ => none
def fdivB : D → D → Option D
  | .int i, .int j => if decide (j ≠ 0) && decide (j.natAbs < 1073741824) then some (.int (i.fdiv j)) else none
  | _, _ => none
def modB : D → D → Option D
  | .int i, .int j => if decide (j ≠ 0) then some (.int (i.fmod j)) else none
  | _, _ => none
def powB : D → D → Option D
  | .int i, .int j => if decide (0 ≤ j) && decide (j ≤ 1000000) && decide (i.natAbs < 2 ^ 64) then some (.int (i ^ j.toNat)) else none
  | _, _ => none
def negB : D → Option D
  | .int i => some (.int (-i))
  | _ => none
section
variable {K : PySem.W.Frag}
theorem p2_I {C : Int → Int → Prop} {g : Int → Int → Int} {p : D → D → Option D} (h : ∀ d e z, p d e = some z → ∃ i j, d = .int i ∧ e = .int j ∧ C i j ∧ z = .int (g i j)) : P2 K (rI C fun i j => .int (g i j)) p := fun F H x y d e z Q s h1 h2 hz q => by
  obtain ⟨i, j, rfl, rfl, c, rfl⟩ := h d e z hz
  exact ⟨i, j, h1.int, h2.int, c, q _ F H (Fr.refl s) rep_int⟩
theorem p2_mul : P2 K (rI CMul fun i j => .int (i * j)) mulB := p2_I fun d e z h => by
  unfold mulB at h
  split at h
  · split at h
    · rename_i c
      simp only [Bool.or_eq_true, Bool.and_eq_true, decide_eq_true_eq] at c
      cases h; exact ⟨_, _, rfl, rfl, c, rfl⟩
    · cases h
  · cases h
theorem p2_fdiv : P2 K (rI CDivN fun i j => .int (i.fdiv j)) fdivB := p2_I fun d e z h => by
  unfold fdivB at h
  split at h
  · split at h
    · rename_i c
      simp only [Bool.and_eq_true, decide_eq_true_eq] at c
      cases h; exact ⟨_, _, rfl, rfl, c, rfl⟩
    · cases h
  · cases h
theorem p2_mod : P2 K (rI (fun _ j => j ≠ 0) fun i j => .int (i.fmod j)) modB := p2_I fun d e z h => by
  unfold modB at h
  split at h
  · split at h
    · rename_i c
      cases h; exact ⟨_, _, rfl, rfl, of_decide_eq_true c, rfl⟩
    · cases h
  · cases h
theorem p2_pow : P2 K (rI CPow fun i j => .int (i ^ j.toNat)) powB := p2_I fun d e z h => by
  unfold powB at h
  split at h
  · split at h
    · rename_i c
      simp only [Bool.and_eq_true, decide_eq_true_eq] at c
      cases h; exact ⟨_, _, rfl, rfl, ⟨c.1.1, c.1.2, c.2⟩, rfl⟩
    · cases h
  · cases h
theorem p2_sub : P2 K (rI0 fun i j => .int (i - j)) subB := fun F H x y d e z Q s h1 h2 hz q => by
  unfold subB at hz
  split at hz
  · cases hz
    exact ⟨_, _, h1.int, h2.int, q _ F H (Fr.refl s) rep_int⟩
  · cases hz
theorem p1_neg : P1 K (rU fun i => .int (-i)) negB := fun F H x d z Q s h1 hz q => by
  unfold negB at hz
  split at hz
  · cases hz
    exact ⟨_, h1.int, q _ F H (Fr.refl s) rep_int⟩
  · cases hz
end
/-! ### + -/
def addB : D → D → Option D
  | .int i, .int j => some (.int (i + j))
  | .str i, .str j => if i.length + j.length ≤ sizeLine then some (.str (i ++ j)) else none
  | .tuple i, .tuple j => if i.length + j.length ≤ sizeLine then some (.tuple (i ++ j)) else none
  | .list i, .list j => if i.length + j.length ≤ sizeLine then some (.list (i ++ j)) else none
  | _, _ => none
section
variable {X : Cx}
/-- two lists that are read -/
def rCatL : R2 := fun x y H Q => ∃ a b xs ys, x = .ref a ∧ y = .ref b ∧ Rd H a (.lst xs) ∧ Rd H b (.lst ys) ∧ xs.length + ys.length ≤ sizeLine ∧ ∀ p, H p = none → Q (.ref p) (upd H p (.lst (xs ++ ys)))
theorem Inv.rdL {pins : List (Addr × Obj)} {σ : Sg} {H : Hp} {s : Shared} {a : Addr} {xs : List V} (I : Inv X pins σ H s) (h : Rd H a (.lst xs)) : ∃ (its : List Value) (n : Nat), Vals xs its ∧ s.heap.get? a = some { cls := .type "list", data := .seq its.toArray n } := by
  obtain ⟨_, its, n, r, e⟩ := h.ok I.hok
  exact ⟨its, n, r, e⟩
theorem op_catL : OpR X (binaryOp .Add) rCatL := by
  intro pins s σ H x y v u Q I rx ry h
  obtain ⟨a, b, xs, ys, rfl, rfl, ha, hb, hz, q⟩ := h
  cases rx
  cases ry
  obtain ⟨its, n, r, e⟩ := Inv.rdL I ha
  obtain ⟨its2, n2, r2, e2⟩ := Inv.rdL I hb
  have l1 := r.length
  have l2 := r2.length
  refine PySem.P.add_list e e2 ?_ (by rw [List.size_toArray, List.size_toArray]; omega)
  have ea : its.toArray ++ its2.toArray = (its ++ its2).toArray := by simp
  rw [ea]
  exact ⟨.ref _, _, I.lnew (t' := s.toks) (r.append r2) (by rw [List.length_append]; omega), rfl, q _ I.fresh⟩
def rAdd (K : PySem.W.Frag) : R2 := fun x y H Q => rI0 (fun i j => .int (i + j)) x y H Q ∨ (∃ i j, x = .str i ∧ y = .str j ∧ i.length + j.length ≤ sizeLine ∧ Q (.str (i ++ j)) H) ∨ rCatA K x y H Q ∨ rCatL x y H Q
theorem op_addB : OpR X (binaryOp .Add) (rAdd X.K) := op_add.or (op_add_str.or (op_catA.or op_catL))
theorem p2_add {K : PySem.W.Frag} : P2 K (rAdd K) addB := fun F H x y d e z Q s h1 h2 hz q => by
  unfold addB at hz
  split at hz
  · cases hz
    exact .inl ⟨_, _, h1.int, h2.int, q _ F H (Fr.refl s) rep_int⟩
  · rename_i i j
    by_cases c : i.length + j.length ≤ sizeLine
    · rw [if_pos c] at hz; cases hz
      exact .inr (.inl ⟨i, j, h1.str, h2.str, c, q _ F H (Fr.refl s) rep_str⟩)
    · rw [if_neg c] at hz; cases hz
  · rename_i i j
    by_cases c : i.length + j.length ≤ sizeLine
    · rw [if_pos c] at hz; cases hz
      obtain ⟨a, vs, rfl, q1, r1⟩ := h1.tuple s
      obtain ⟨b, ws, rfl, q2, r2⟩ := h2.tuple s
      have l1 := r1.length
      have l2 := r2.length
      refine .inr (.inr (.inl ⟨a, b, vs, ws, rfl, rfl, q1, q2, by omega, fun e => ?_, fun _ e => ?_, fun _ _ p hp => ?_⟩))
      · subst e
        rw [List.length_nil] at l1
        have : i = [] := List.eq_nil_of_length_eq_zero l1
        subst this
        rcases h2 with h2 | ⟨a', m, e', e2, _⟩
        · exact q _ F H (Fr.refl s) h2
        · cases m <;> simp [Mo.toD] at e2
      · subst e
        rw [List.length_nil] at l2
        have : j = [] := List.eq_nil_of_length_eq_zero l2
        subst this
        rw [List.append_nil] at q
        rcases h1 with h1 | ⟨a', m, e', e2, _⟩
        · exact q _ F H (Fr.refl s) h1
        · cases m <;> simp [Mo.toD] at e2
      · obtain ⟨f, r⟩ := new_tuple s hp (r1.append r2)
        exact q _ _ _ f r
    · rw [if_neg c] at hz; cases hz
  · rename_i i j
    by_cases c : i.length + j.length ≤ sizeLine
    · rw [if_pos c] at hz; cases hz
      obtain ⟨a, vs, rfl, q1, r1⟩ := h1.list s
      obtain ⟨b, ws, rfl, q2, r2⟩ := h2.list s
      have l1 := r1.length
      have l2 := r2.length
      refine .inr (.inr (.inr ⟨a, b, vs, ws, rfl, rfl, q1, q2, by omega, fun p hp => ?_⟩))
      obtain ⟨f, r⟩ := new_list s hp (r1.append r2)
      exact q _ _ _ f r
    · rw [if_neg c] at hz; cases hz
  · cases hz
end
/-! ### items -/
def ixB : D → D → Option D
  | .list l, .int i => atI l i
  | .tuple l, .int i => atI l i
  | .str x, .int i => if x.length ≤ sizeLine then (atI x.cps.toList i).map fun c => .str ⟨#[c]⟩ else none
  | _, _ => none
theorem Reps.atI {K : PySem.W.Frag} {F : Hp} {l : List D} {vs : List V} {i : Int} {d : D} (r : Reps K F l vs) (h : L2.atI l i = some d) : ∃ v, L2.atI vs i = some v ∧ Rep K F d v := by
  unfold L2.atI at h ⊢
  obtain ⟨j, hj, hd⟩ := Option.bind_eq_some_iff.mp h
  obtain ⟨v, hv, rv⟩ := r.get hd
  exact ⟨v, by rw [← r.length, hj]; exact hv, rv⟩
theorem p2_ix {K : PySem.W.Frag} : P2 K (rIx K) ixB := fun F H x y d e z Q s h1 h2 hz q => by
  unfold ixB at hz
  split at hz
  · obtain ⟨a, vs, rfl, q1, r1⟩ := h1.list s
    obtain ⟨v, hv, rv⟩ := r1.atI hz
    exact .inl ⟨a, vs, _, v, rfl, h2.int, .inl q1, hv, q _ F H (Fr.refl s) rv⟩
  · obtain ⟨a, vs, rfl, q1, r1⟩ := h1.tuple s
    obtain ⟨v, hv, rv⟩ := r1.atI hz
    exact .inr (.inl ⟨a, vs, _, v, rfl, h2.int, q1, hv, q _ F H (Fr.refl s) rv⟩)
  · rename_i w i
    by_cases c : w.length ≤ sizeLine
    · rw [if_pos c] at hz
      obtain ⟨k, hk, rfl⟩ := Option.map_eq_some_iff.mp hz
      exact .inr (.inr ⟨w, i, k, h1.str, h2.int, c, hk, q _ F H (Fr.refl s) rep_str⟩)
    · rw [if_neg c] at hz; cases hz
  · cases hz
/-! ### built-in functions -/
section
variable {X : Cx} {W : Wt} {e e2 : Expr} {es : List Expr} {as : Ans} {a : An} {pos p p2 : Pos} {x : Str} {id T : String} {r : List V → Hp → VK → Prop} {pr : List D → Option D}
/-- a built-in function by its name -/
theorem de_B (hc : CallR X (.builtin id) r) (hp : PN X.K r pr) (hm : X.mg x = none) (hv : bootBuiltins x = some (.builtin id)) (ha : PA X (e :: es) (tAs X.K W as)) (hg : Gl X x := by rfl) (hn : x ≠ "__name__" := by decide) (hdb : (x == ("__debug__" : Str)) = false := by decide)
    (he : starEach (e :: es) X.env = (false, eval e X.env) :: starEach es X.env := by rfl) (hpl : (backTo pos (starEach es X.env)).any (·.1) = false := by rfl) : PE X (.Call (.Name x p) (e :: es) [] pos) (tE X.K W (dOpN pr as)) :=
  PE.imp (pe_callB hc hg hm hv ha hn hdb he hpl) fun _ _ _ q => opN_imp hp q
/-- a built-in class by its name -/
theorem de_T (hc : CallR X (.type T) r) (hp : PN X.K r pr) (hm : X.mg x = none) (hv : bootBuiltins x = some (.type T)) (ha : PA X (e :: es) (tAs X.K W as)) (hg : Gl X x := by rfl) (hn : x ≠ "__name__" := by decide) (hdb : (x == ("__debug__" : Str)) = false := by decide)
    (he : starEach (e :: es) X.env = (false, eval e X.env) :: starEach es X.env := by rfl) (hpl : (backTo pos (starEach es X.env)).any (·.1) = false := by rfl) : PE X (.Call (.Name x p) (e :: es) [] pos) (tE X.K W (dOpN pr as)) :=
  PE.imp (pe_callTy hc hg hm hv ha hn hdb he hpl) fun _ _ _ q => opN_imp hp q
end
/-- one that reads one tree and gives a flat value -/
def r1D (K : PySem.W.Frag) (f : D → Option V) : List V → Hp → VK → Prop := fun xs H Q => ∃ x d v, xs = [x] ∧ Rep K H d x ∧ f d = some v ∧ Q v H
section
variable {X : Cx}
theorem callR1_of {g : Value} {f : D → Option V} (rule : ∀ (s : Shared) (u : Value) (d : D) (as : List Addr) (v : V) (Q : Value → Shared → Prop), Reads s.heap u d as → f d = some v → (∀ u tk, RelV v u → Q u { s with toks := tk }) → wpAny (model X.prog X.w) X.A (call g [u]) Q X.xe s) : CallR X g (r1D X.K f) := by
  intro pins s σ H xs us Q I r h
  obtain ⟨x, d, v, rfl, hd, hv, q⟩ := h
  obtain ⟨u, rfl, ru⟩ := vals1 r
  obtain ⟨as, z⟩ := Rep.reads I d x u hd ru
  exact rule s u d as v _ z hv fun u tk ru => ⟨v, H, I.tok tk, ru, q⟩
end
def lenD : D → Option Nat
  | .list l => some l.length
  | .tuple l => some l.length
  | .str x => if x.length ≤ sizeLine then some x.length else none
  | _ => none
def lenB : List D → Option D
  | [d] => (lenD d).map fun (n : Nat) => PyData.int (n : Int)
  | _ => none
theorem pn_len {K : PySem.W.Frag} : PN K (fun xs H Q => ∃ x, ∃ n : Nat, xs = [x] ∧ LenV K x H n ∧ Q (.int n) H) lenB := fun F H xs ds z Q s h hz q => by
  unfold lenB at hz
  split at hz
  · rename_i d
    obtain ⟨n, hn, rfl⟩ := Option.map_eq_some_iff.mp hz
    obtain ⟨v, rfl, rv⟩ := h.one
    refine ⟨v, n, rfl, ?_, q _ F H (Fr.refl s) rep_int⟩
    unfold lenD at hn
    split at hn
    · cases hn
      obtain ⟨a, vs, rfl, q1, r1⟩ := rv.list s
      exact .inl ⟨vs, .inl q1, r1.length⟩
    · cases hn
      obtain ⟨a, vs, rfl, q1, r1⟩ := rv.tuple s
      exact .inr ⟨vs, q1, r1.length⟩
    · rename_i w
      by_cases c : w.length ≤ sizeLine
      · rw [if_pos c] at hn; cases hn
        rw [rv.str]; exact ⟨c, rfl⟩
      · rw [if_neg c] at hn; cases hn
    · cases hn
  · cases hz
end Ft
/-! Ft7: more built-ins by trees. -/
namespace Ft
open PySem L2 PySem.Spec PyProof.Rows
open PySem.W (alike dataLt)

/-! ### isinstance -/
def rIsD (K : PySem.W.Frag) (f : D → Bool) (T : String) : List V → Hp → VK → Prop := fun xs H Q => ∃ x d, xs = [x, .ty T] ∧ Rep K H d x ∧ Q (.bl (f d)) H
def isiB (f : D → Bool) : D → Option D := fun d => some (.bool (f d))
section
variable {X : Cx} {W : Wt} {e e2 : Expr} {es : List Expr} {as : Ans} {a : An} {pos p p2 p3 : Pos} {x : Str} {id T : String} {f : D → Bool}
theorem call_isD (rule : ∀ (s : Shared) (u : Value) (d : D) (as : List Addr) (Q : Value → Shared → Prop), Reads s.heap u d as → (∀ tk, s.toks ≤ tk → Q (.bool (f d)) { s with toks := tk }) → wpAny (model X.prog X.w) X.A (call (.builtin "isinstance") [u, .type T]) Q X.xe s) :
    CallR X (.builtin "isinstance") (rIsD X.K f T) := by
  intro pins s σ H xs us Q I r h
  obtain ⟨x, d, rfl, hd, q⟩ := h
  obtain ⟨u, u2, rfl, r1, r2⟩ := vals2 r
  cases (show u2 = Value.type T from r2)
  obtain ⟨bs, z⟩ := Rep.reads I d x u hd r1
  exact rule s u d bs _ z fun tk _ => ⟨.bl (f d), H, I.tok tk, rfl, q⟩
theorem isi_int : CallR X (.builtin "isinstance") (rIsD X.K PyData.isInt "int") := call_isD fun s u d bs Q z h => PySem.W.isinstance_int_data z h
theorem isi_bool : CallR X (.builtin "isinstance") (rIsD X.K PyData.isBool "bool") := call_isD fun s u d bs Q z h => PySem.W.isinstance_bool_data z h
theorem isi_str : CallR X (.builtin "isinstance") (rIsD X.K PyData.isStr "str") := call_isD fun s u d bs Q z h => PySem.W.isinstance_str_data z h
theorem isi_tuple : CallR X (.builtin "isinstance") (rIsD X.K PyData.isTuple "tuple") := call_isD fun s u d bs Q z h => PySem.W.isinstance_tuple_data z h
theorem isi_list : CallR X (.builtin "isinstance") (rIsD X.K PyData.isList "list") := call_isD fun s u d bs Q z h => PySem.W.isinstance_list_data z h
theorem isi_dict : CallR X (.builtin "isinstance") (rIsD X.K PyData.isDict "dict") := call_isD fun s u d bs Q z h => PySem.W.isinstance_dict_data z h
theorem de_isi (hc : CallR X (.builtin "isinstance") (rIsD X.K f T)) (hm : X.mg "isinstance" = none) (hm2 : X.mg x = none) (hv2 : bootBuiltins x = some (.type T)) (ha : PE X e (tA X.K W a)) (hg : Gl X "isinstance" := by rfl) (hg2 : Gl X x := by rfl) (hn : x ≠ "__name__" := by decide) (hdb : (x == ("__debug__" : Str)) = false := by decide)
    (hv : bootBuiltins "isinstance" = some (.builtin "isinstance") := by decide +kernel)
    (he : starEach (e :: [.Name x p2]) X.env = (false, eval e X.env) :: starEach [.Name x p2] X.env := by rfl) (he2 : starEach [.Name x p2] X.env = (false, eval (.Name x p2) X.env) :: starEach [] X.env := by rfl) (hpl : (backTo pos (starEach [.Name x p2] X.env)).any (·.1) = false := by rfl) :
    PE X (.Call (.Name "isinstance" p) [e, .Name x p2] [] pos) (tE X.K W (dOp1 (isiB f) a)) :=
  PE.imp (pe_callB hc hg hm hv (pa_cons ha (pa_cons (pe_bltn (v := .ty T) hg2 hm2 hv2 rfl hn hdb) pa_nil he2) he) (by decide) (by decide) he hpl) fun σ H Q ⟨ρ, F, s, q⟩ =>
    Af.bind s q fun h v ρ1 F1 H1 g r z => by
      obtain ⟨w, ew, q⟩ := ans_some z
      obtain ⟨d, hd, ew⟩ := Option.bind_eq_some_iff.mp ew
      cases ew
      exact ⟨v, d, rfl, (look_rep g.sr r hd).here g.sr.sub, q.okk g.sr rep_bool⟩
end
/-! ### int, bool, tuple, list -/
def intB : List D → Option D
  | [.int i] => some (.int i)
  | [.bool b] => some (.int (if b then 1 else 0))
  | _ => none
def tupB : List D → Option D
  | [.tuple l] => some (.tuple l)
  | [.list l] => some (.tuple l)
  | _ => none
section
variable {K : PySem.W.Frag}
theorem pn_int : PN K (fun xs H Q => (∃ i, xs = [.int i] ∧ Q (.int i) H) ∨ ∃ k, xs = [.bl k] ∧ Q (.int (if k then 1 else 0)) H) intB := fun F H xs ds z Q s h hz q => by
  unfold intB at hz
  split at hz
  · cases hz
    obtain ⟨v, rfl, rv⟩ := h.one
    exact .inl ⟨_, by rw [rv.int], q _ F H (Fr.refl s) rep_int⟩
  · cases hz
    obtain ⟨v, rfl, rv⟩ := h.one
    exact .inr ⟨_, by rw [rv.bool], q _ F H (Fr.refl s) rep_int⟩
  · cases hz
theorem pn_tuple : PN K (fun xs H Q => ∃ p ys, xs = [.ref p] ∧ ((SqL K H p ys ∧ ∀ l, H l = none → Q (.ref l) (upd H l (.tup ys))) ∨ (SqT K H p ys ∧ Q (.ref p) H))) tupB := fun F H xs ds z Q s h hz q => by
  unfold tupB at hz
  split at hz
  · cases hz
    obtain ⟨v, rfl, rv⟩ := h.one
    obtain ⟨a, vs, rfl, q1, r1⟩ := rv.tuple s
    rcases rv with rv | ⟨a', m, e', e2, _⟩
    · exact ⟨a, vs, rfl, .inr ⟨q1, q _ F H (Fr.refl s) rv⟩⟩
    · cases m <;> simp [Mo.toD] at e2
  · cases hz
    obtain ⟨v, rfl, rv⟩ := h.one
    obtain ⟨a, vs, rfl, q1, r1⟩ := rv.list s
    refine ⟨a, vs, rfl, .inl ⟨.inl q1, fun l hl => ?_⟩⟩
    obtain ⟨f, r⟩ := new_tuple s hl r1
    exact q _ _ _ f r
  · cases hz
end
/-! ### new lists -/
/-- a rule by values whose answer is a new list -/
def PF (K : PySem.W.Frag) (r : List V → Hp → VK → Prop) (p : List D → Option (List D)) : Prop :=
  ∀ F H xs ds l Q, Same F H → RepBs K F H ds xs → p ds = some l → (∀ a vs, H a = none → Reps K F l vs → Q (.ref a) (upd H a (.lst vs))) → r xs H Q
def fOpN (p : List D → Option (List D)) (a : Ans) : Fn := fun ρ => (a ρ).bind fun h ρ1 => ans (((looks ρ1 h).bind p).map Mo.lst) ρ1
def lstB : List D → Option (List D)
  | [.tuple l] => some l
  | [.list l] => some l
  | _ => none
section
variable {X : Cx} {W : Wt} {e e2 : Expr} {es : List Expr} {as : Ans} {a : An} {pos p p2 p3 : Pos} {x : Str} {id T : String} {r : List V → Hp → VK → Prop} {pr : List D → Option (List D)}
theorem ansF_some {K : PySem.W.Frag} {W : Wt} {ρ ρ' : Rho} {σ : Sg} {F H : Hp} {Q : VK} {o : Option Mo} (q : AfF K W ρ σ F H Q (ans o ρ')) : ∃ z, o = some z ∧ AfF K W ρ σ F H Q (.ok z ρ') := by
  cases o with
  | none => exact q.elim
  | some z => exact ⟨z, rfl, q⟩
theorem fN_imp (hp : PF X.K r pr) {σ : Sg} {H : Hp} {Q : VK} (q : tF X.K W (fOpN pr as) σ H Q) : tCB r (tAs X.K W as) σ H Q := by
  obtain ⟨ρ, F, s, q⟩ := q
  refine AfF.bind s q fun h v ρ1 F1 H1 g1 r1 z1 => ?_
  obtain ⟨z, e, q⟩ := ansF_some z1
  obtain ⟨l, e1, rfl⟩ := Option.map_eq_some_iff.mp e
  obtain ⟨x, hx, e2⟩ := Option.bind_eq_some_iff.mp e1
  exact hp F1 H1 v x l Q g1.sr.sub (looks_rep g1.sr r1 hx) e2 fun b vs n rv => AfF.new g1.sr q n rv
theorem df_B (hc : CallR X (.builtin id) r) (hp : PF X.K r pr) (hm : X.mg x = none) (hv : bootBuiltins x = some (.builtin id)) (ha : PA X (e :: es) (tAs X.K W as)) (hg : Gl X x := by rfl) (hn : x ≠ "__name__" := by decide) (hdb : (x == ("__debug__" : Str)) = false := by decide)
    (he : starEach (e :: es) X.env = (false, eval e X.env) :: starEach es X.env := by rfl) (hpl : (backTo pos (starEach es X.env)).any (·.1) = false := by rfl) : PE X (.Call (.Name x p) (e :: es) [] pos) (tF X.K W (fOpN pr as)) :=
  PE.imp (pe_callB hc hg hm hv ha hn hdb he hpl) fun _ _ _ q => fN_imp hp q
theorem df_T (hc : CallR X (.type T) r) (hp : PF X.K r pr) (hm : X.mg x = none) (hv : bootBuiltins x = some (.type T)) (ha : PA X (e :: es) (tAs X.K W as)) (hg : Gl X x := by rfl) (hn : x ≠ "__name__" := by decide) (hdb : (x == ("__debug__" : Str)) = false := by decide)
    (he : starEach (e :: es) X.env = (false, eval e X.env) :: starEach es X.env := by rfl) (hpl : (backTo pos (starEach es X.env)).any (·.1) = false := by rfl) : PE X (.Call (.Name x p) (e :: es) [] pos) (tF X.K W (fOpN pr as)) :=
  PE.imp (pe_callTy hc hg hm hv ha hn hdb he hpl) fun _ _ _ q => fN_imp hp q
theorem pf_list {K : PySem.W.Frag} : PF K (fun xs H Q => ∃ p ys, xs = [.ref p] ∧ (SqL K H p ys ∨ SqT K H p ys) ∧ ∀ l, H l = none → Q (.ref l) (upd H l (.lst ys))) lstB := fun F H xs ds z Q s h hz q => by
  unfold lstB at hz
  split at hz
  · cases hz
    obtain ⟨v, rfl, rv⟩ := h.one
    obtain ⟨a, vs, rfl, q1, r1⟩ := rv.tuple s
    exact ⟨a, vs, rfl, .inr q1, fun l hl => q l vs hl r1⟩
  · cases hz
    obtain ⟨v, rfl, rv⟩ := h.one
    obtain ⟨a, vs, rfl, q1, r1⟩ := rv.list s
    exact ⟨a, vs, rfl, .inl (.inl q1), fun l hl => q l vs hl r1⟩
  · cases hz
end
/-! ### slices -/
abbrev On := Rho → RE (Option Int)
abbrev RO : Sg → Hp → Option Int → Option Int → Prop := fun _ _ a b => b = a
def tOo (K : PySem.W.Frag) (W : Wt) (d : On) : TO := tG K W RO d
def oNone : On := fun ρ => .ok none ρ
def oSome (d : Dn) : On := fun ρ => (d ρ).bind fun x ρ' => match x with
  | .int i => .ok (some i) ρ'
  | _ => .no
def cutD (l : List D) (lo hi : Option Int) : List D := (l.drop (HT.sIx l.length 0 lo)).take (HT.sIx l.length l.length hi - HT.sIx l.length 0 lo)
theorem cutD_whole {l : List D} {lo hi : Option Int} (h1 : HT.sIx l.length 0 lo = 0) (h2 : HT.sIx l.length l.length hi = l.length) : cutD l lo hi = l := by
  unfold cutD
  rw [h1, h2, List.drop_zero, Nat.sub_zero, List.take_length]
theorem Reps.cut {K : PySem.W.Frag} {F : Hp} {l : List D} {vs : List V} (r : Reps K F l vs) (lo hi : Option Int) : Reps K F (cutD l lo hi) (cutV vs lo hi) := by
  unfold cutD cutV
  rw [r.length]
  exact (r.drop _).take _
/-- a slice of a tuple -/
def slB (d : D) (lo hi : Option Int) : Option D := match d with
  | .tuple l => some (.tuple (cutD l lo hi))
  | .list l => some (.list (cutD l lo hi))
  | .str x => if x.length ≤ sizeLine then some (.str (cutS x lo hi)) else none
  | _ => none
def dSl (a : An) (lo hi : On) : Dn := fun ρ => (a ρ).bind fun h ρ1 => (lo ρ1).bind fun i ρ2 => (hi ρ2).bind fun j ρ3 => ans ((look ρ3 h).bind fun d => slB d i j) ρ3
def fSl (a : An) (lo hi : On) : Fn := fun ρ => (a ρ).bind fun h ρ1 => (lo ρ1).bind fun i ρ2 => (hi ρ2).bind fun j ρ3 => ans ((look ρ3 h).bind fun d => match d with | .list l => some (Mo.lst (cutD l i j)) | _ => none) ρ3
section
variable {X : Cx} {W : Wt} {e e2 e3 : Expr} {d : Dn} {a : An} {pos p p2 p3 : Pos} {lo hi : On} {l u : Option Expr}
theorem do_none : PO X none (tOo X.K W oNone) := ⟨fun pins s σ H Q I ⟨ρ, F, sr, q⟩ => po_none.run pins s σ H Q I (Af.okk sr q rfl)⟩
theorem do_some (h : PE X e (tE X.K W d)) : PO X (some e) (tOo X.K W (oSome d)) := ⟨fun pins s σ H Q I ⟨ρ, F, sr, q⟩ => (po_some h).run pins s σ H Q I (Af.bind sr q fun x v ρ1 F1 H1 g r z => by
  cases x with
  | int i => exact ⟨i, by simpa only [Rep] using r, z.okk g.sr rfl⟩
  | none => exact z.elim
  | bool _ => exact z.elim
  | str _ => exact z.elim
  | list _ => exact z.elim
  | tuple _ => exact z.elim
  | dict _ => exact z.elim)⟩
theorem de_sl (ha : PE X e (tA X.K W a)) (hl : PO X l (tOo X.K W lo)) (hh : PO X u (tOo X.K W hi)) : PE X (.Subscript e (.Slice l u none p2) pos) (tE X.K W (dSl a lo hi)) :=
  PE.imp (pe_slice (sl_tupA.or (sl_list.or sl_str)) ha hl hh) fun σ H Q ⟨ρ, F, s, q⟩ => Af.bind s q fun h v ρ1 F1 H1 g1 r1 z1 => Af.bind g1.sr z1 fun i i' ρ2 F2 H2 g2 r2 z2 => Af.bind g2.sr z2 fun j j' ρ3 F3 H3 g3 r3 z3 => by
    subst r2 r3
    obtain ⟨w, ew, q⟩ := ans_some z3
    obtain ⟨d, hd, ew⟩ := Option.bind_eq_some_iff.mp ew
    have rb := look_rep g3.sr ((r1.mono g2.sub).mono g3.sub) hd
    unfold slB at ew
    split at ew
    · cases ew
      obtain ⟨b, vs, rfl, q1, rr⟩ := rb.tuple g3.sr.sub
      rcases rb with rb | ⟨_, m, _, em, _⟩
      · refine .inl ⟨b, vs, rfl, q1, fun w => ?_, fun _ p hp => ?_⟩
        · rw [← rr.length] at w
          rw [cutD_whole w.1 w.2] at q
          exact q.okk g3.sr rb
        · obtain ⟨f, r⟩ := new_tuple g3.sr.sub hp (rr.cut i' j')
          exact q.okf g3.sr f r
      · cases m <;> simp [Mo.toD] at em
    · cases ew
      obtain ⟨b, vs, rfl, q1, rr⟩ := rb.list g3.sr.sub
      refine .inr (.inl ⟨b, vs, rfl, .inl q1, fun p hp => ?_⟩)
      obtain ⟨f, r⟩ := new_list g3.sr.sub hp (rr.cut i' j')
      exact q.okf g3.sr f r
    · rename_i z
      by_cases c : z.length ≤ sizeLine
      · rw [if_pos c] at ew; cases ew
        exact .inr (.inr ⟨z, rb.str, c, q.okk g3.sr rep_str⟩)
      · rw [if_neg c] at ew; cases ew
    · cases ew
theorem df_sl (ha : PE X e (tA X.K W a)) (hl : PO X l (tOo X.K W lo)) (hh : PO X u (tOo X.K W hi)) : PE X (.Subscript e (.Slice l u none p2) pos) (tF X.K W (fSl a lo hi)) :=
  PE.imp (pe_slice sl_list ha hl hh) fun σ H Q ⟨ρ, F, s, q⟩ => AfF.bind s q fun h v ρ1 F1 H1 g1 r1 z1 => AfF.bind g1.sr z1 fun i i' ρ2 F2 H2 g2 r2 z2 => AfF.bind g2.sr z2 fun j j' ρ3 F3 H3 g3 r3 z3 => by
    subst r2 r3
    obtain ⟨w, ew, q⟩ := ansF_some z3
    obtain ⟨d, hd, ew⟩ := Option.bind_eq_some_iff.mp ew
    have rb := look_rep g3.sr ((r1.mono g2.sub).mono g3.sub) hd
    split at ew
    · cases ew
      obtain ⟨b, vs, rfl, q1, rr⟩ := rb.list g3.sr.sub
      exact ⟨b, vs, rfl, .inl q1, fun p hp => AfF.new g3.sr q hp (rr.cut i' j')⟩
    · cases ew
end
end Ft
/-! Ft8: own lists changed; folds of lists. -/
namespace Ft
open PySem L2 PySem.Spec PyProof.Rows

def st' {α : Type} (o : Option α) (f : α → RS) : RS := match o with
  | some a => f a
  | none => .no
/-- the own list of a slot -/
def ownL (ρ : Rho) (i : Nat) : Option (List D × Bool) := match ρ[i]? with
  | some (.own (.lst l) b) => some (l, b)
  | _ => none
theorem ownL_at {ρ : Rho} {i : Nat} {l : List D} {b : Bool} (h : ownL ρ i = some (l, b)) : ρ[i]? = some (.own (.lst l) b) := by
  unfold ownL at h
  split at h
  · rename_i l' b' e
    cases h; exact e
  · cases h
/-- x[k] = e for a list of this frame -/
def sSetIx (i : Nat) (k e : Dn) : Sn := fun ρ => (e ρ).st fun x ρ1 => st' (ownL ρ1 i) fun _ => (k ρ1).st fun y ρ2 => st' (ownL ρ2 i) fun (l, b) => match y with
  | .int z => st' (ixN l.length z) fun j => .next (ρ2.set i (.own (.lst (l.set j x)) b))
  | _ => .no
/-- x.append(e) -/
def sApp (i : Nat) (e : Dn) : Sn := fun ρ => st' (ownL ρ i) fun _ => (e ρ).st fun x ρ1 => st' (ownL ρ1 i) fun (l, b) => if l.length < sizeLine then .next (ρ1.set i (.own (.lst (l ++ [x])) b)) else .no
/-- x.extend(e) -/
def sExt (i : Nat) (e : Dn) : Sn := fun ρ => st' (ownL ρ i) fun _ => (e ρ).st fun x ρ1 => st' (ownL ρ1 i) fun (l, b) => match x with
  | .list m => if l.length + m.length ≤ sizeLine then .next (ρ1.set i (.own (.lst (l ++ m)) b)) else .no
  | _ => .no
section
variable {K : PySem.W.Frag} {W : Wt} {ρ ρ' : Rho} {σ : Sg} {F H F' H' : Hp} {E : Ends}
theorem st'_some {α : Type} {o : Option α} {f : α → RS} (q : AfS K W ρ σ F H E (st' o f)) : ∃ a, o = some a ∧ AfS K W ρ σ F H E (f a) := by
  cases o with
  | none => exact q.elim
  | some a => exact ⟨a, rfl, q⟩
/-- the list of a slot is rewritten -/
theorem lst_write {i : Nat} {l m : List D} {b : Bool} (s : SR K ρ σ F H) (h : ownL ρ i = some (l, b)) : ∃ a vs, σ[i]? = some (some (.ref a)) ∧ H a = some (.lst vs) ∧ Reps K F l vs ∧ ∀ ws, Reps K F m ws → Go K ρ σ F H (ρ.set i (.own (.lst m) b)) σ F (upd H a (.lst ws)) := by
  have e := ownL_at h
  obtain ⟨a, h1, h2, vs, h3, h4⟩ := s.own i _ b e
  exact ⟨a, vs, h1, h3, h4, fun ws r => s.change e h1 ⟨h2, ws, upd_same, r⟩⟩
end
section
variable {X : Cx} {W : Wt} {e e2 : Expr} {d d2 : Dn} {pos p p2 p3 p4 : Pos} {x : Str}
theorem ds_setix (i : Nat) (he : PE X e (tE X.K W d)) (hk : PE X e2 (tE X.K W d2)) (hN : X.N[i]? = some x := by rfl) (hv : Vis X.env.scope x := by first | exact Or.inl rfl | exact Or.inr (Or.inl rfl) | exact Or.inr (Or.inr rfl)) (hd : (x == ("__debug__" : Str)) = false := by decide)
    (hcd : (x == ("__classdict__" : Str)) = false := by decide) (hs : swapsWithSole [.Subscript (.Name x p) e2 p2] e pos.line X.env = pure false := by rfl) (hw : swappedStores [.Subscript (.Name x p) e2 p2] e X.env = pure none := by rfl)
    (h1 : (assignEach [.Subscript (.Name x p) e2 p2] X.env).map (·.2) = [assign (.Subscript (.Name x p) e2 p2) X.env] := by rfl)
    (ha : ∀ v, assign (.Subscript (.Name x p) e2 p2) X.env v = (do
      let ov ← holding [v] (eval (.Name x p) X.env)
      let iv ← holding [v, ov] (eval e2 X.env)
      standAt p2
      holding [v, ov, iv] (setItem ov iv v)
      release [v, ov, iv] []) := by intro _; rfl) : PS X (.Assign [.Subscript (.Name x p) e2 p2] e pos) (tS X.K W (sSetIx i d2 d)) :=
  PS.imp (ps_asg he (pg_sub (pe_var hN hv hd hcd) hk set_list ha) hs hw h1) fun D σ H ⟨ρ, F, s, q⟩ => AfS.bind s q fun z v ρ1 F1 H1 g1 r1 q1 => by
    obtain ⟨⟨l0, b0⟩, ho0, q2⟩ := st'_some q1
    obtain ⟨a0, vs0, e0, _⟩ := lst_write (m := []) g1.sr ho0
    refine ⟨_, e0, AfS.bind g1.sr q2 fun y w ρ3 F3 H3 g3 r3 q3 => ?_⟩
    obtain ⟨⟨l, b⟩, ho, q4⟩ := st'_some q3
    cases y with
    | int k =>
      obtain ⟨j, hj, q5⟩ := st'_some q4
      obtain ⟨a, vs, e1, e2, e3, wr⟩ := lst_write (m := l.set j z) g3.sr ho
      rw [e0] at e1; cases e1
      exact ⟨_, vs, k, j, rfl, by simpa only [Rep] using r3, e2, by rw [← e3.length]; exact hj, q5 _ _ _ (wr _ (e3.set j (Rep.mono g3.sub _ _ r1)))⟩
    | none => exact q4.elim
    | bool _ => exact q4.elim
    | str _ => exact q4.elim
    | list _ => exact q4.elim
    | tuple _ => exact q4.elim
    | dict _ => exact q4.elim
theorem ds_app (i : Nat) (hc : PE X (.Call (.Attribute (.Name x p) "append" p2) [e] [] p3) (tBM X.K "list" rAppend (tVar i) (tCons (tE X.K W d) tNil)))
    (hs : swapsWith (.Call (.Attribute (.Name x p) "append" p2) [e] [] p3) none pos.line X.env = pure false := by rfl) : PS X (.Expr (.Call (.Attribute (.Name x p) "append" p2) [e] [] p3) pos) (tS X.K W (sApp i d)) :=
  PS.imp (ps_expr hc hs) fun D σ H ⟨ρ, F, s, q⟩ => by
    obtain ⟨⟨l0, b0⟩, ho0, q2⟩ := st'_some q
    obtain ⟨a0, vs0, e0, h0, _⟩ := lst_write (m := []) s ho0
    refine ⟨_, e0, Or.inl ⟨rfl, _, Or.inl (Or.inl h0)⟩, AfS.bind s q2 fun y w ρ3 F3 H3 g3 r3 q3 => ?_⟩
    obtain ⟨⟨l, b⟩, ho, q4⟩ := st'_some q3
    obtain ⟨a, vs, e1, e2, e3, wr⟩ := lst_write (m := l ++ [y]) g3.sr ho
    rw [e0] at e1; cases e1
    by_cases c : l.length < sizeLine
    · simp only [if_pos c] at q4
      exact ⟨_, vs, w, rfl, rfl, e2, by rw [← e3.length]; exact c, q4 _ _ _ (wr _ (e3.append (.cons r3 .nil)))⟩
    · simp only [if_neg c] at q4; exact q4.elim
/-- extend by a list that is read -/
def rExtB : V → List V → Hp → VK → Prop := fun x vs H Q => ∃ l b xs zs, x = .ref l ∧ vs = [.ref b] ∧ H l = some (.lst xs) ∧ Rd H b (.lst zs) ∧ l ≠ b ∧ xs.length + zs.length ≤ sizeLine ∧ Q .non (upd H l (.lst (xs ++ zs)))
theorem mt_extB : MtR X "list.extend" rExtB := by
  intro pins s σ H x vs v us Q I rx rv h
  obtain ⟨l, b, xs, zs, rfl, rfl, hH, hB, nlb, hz, q⟩ := h
  cases rx
  obtain ⟨u, rfl, ru⟩ := rv.one
  cases ru
  obtain ⟨i1, n, r, e⟩ := Inv.rdL I (.inl hH)
  obtain ⟨i2, n2, r2, e2⟩ := Inv.rdL I hB
  have l1 := r.length
  have l2 := r2.length
  have hy : ¬ (!i1.toArray.isEmpty && Builtin.List.listTooLong (i1.toArray.size + i2.toArray.size)) = true := by
    rw [notLongL (by rw [List.size_toArray, List.size_toArray]; omega), Bool.and_false]; decide
  refine call_meets F.slot_list_extend ⟨_, e, rfl⟩ F.entry_list_extend (F.args_list_extend_2 _ _) (AutoSeq1.list_extend_list_list_0 l i1.toArray n b i2.toArray n2 hy (by rw [List.size_toArray]; omega) (by rw [List.size_toArray, List.size_toArray]; omega)) ⟨e, e2, ?_⟩
  exact ⟨.non, _, I.lset (its' := i1 ++ i2) hH e (by simp) (r.append r2) (by rw [List.length_append]; omega), rfl, q⟩
theorem ds_ext (i : Nat) (hc : PE X (.Call (.Attribute (.Name x p) "extend" p2) [e] [] p3) (tBM X.K "list" rExtB (tVar i) (tCons (tE X.K W d) tNil)))
    (hs : swapsWith (.Call (.Attribute (.Name x p) "extend" p2) [e] [] p3) none pos.line X.env = pure false := by rfl) : PS X (.Expr (.Call (.Attribute (.Name x p) "extend" p2) [e] [] p3) pos) (tS X.K W (sExt i d)) :=
  PS.imp (ps_expr hc hs) fun D σ H ⟨ρ, F, s, q⟩ => by
    obtain ⟨⟨l0, b0⟩, ho0, q2⟩ := st'_some q
    obtain ⟨a0, vs0, e0, h0, _⟩ := lst_write (m := []) s ho0
    refine ⟨_, e0, Or.inl ⟨rfl, _, Or.inl (Or.inl h0)⟩, AfS.bind s q2 fun y w ρ3 F3 H3 g3 r3 q3 => ?_⟩
    obtain ⟨⟨l, b⟩, ho, q4⟩ := st'_some q3
    cases y with
    | list m =>
      obtain ⟨a, vs, e1, e2, e3, wr⟩ := lst_write (m := l ++ m) g3.sr ho
      have ow := (g3.sr.own i _ _ (ownL_at ho))
      rw [e0] at e1; cases e1
      by_cases c : l.length + m.length ≤ sizeLine
      · simp only [if_pos c] at q4
        obtain ⟨b2, ws, rfl, q5, r5⟩ := by simpa only [Rep] using r3
        have q6 := rdSame g3.sr.sub q5
        have ne : a0 ≠ b2 := by
          obtain ⟨a', z1, z2⟩ := ow
          rw [e0] at z1; cases z1
          rintro rfl
          rcases q5 with z | ⟨o, z⟩
          · rw [z2.1] at z; cases z
          · rw [z2.1] at z; cases z
        exact ⟨_, b2, vs, ws, rfl, rfl, e2, q6, ne, by rw [← e3.length, ← r5.length]; exact c, q4 _ _ _ (wr _ (e3.append r5))⟩
      · simp only [if_neg c] at q4; exact q4.elim
    | none => exact q4.elim
    | bool _ => exact q4.elim
    | str _ => exact q4.elim
    | int _ => exact q4.elim
    | tuple _ => exact q4.elim
    | dict _ => exact q4.elim
end
/-! ### all, any, sum, min, max -/
def boolsOf : List D → Option (List Bool)
  | [] => some []
  | .bool b :: r => match boolsOf r with
    | some l => some (b :: l)
    | none => none
  | _ => none
def intsOf : List D → Option (List Int)
  | [] => some []
  | .int b :: r => match intsOf r with
    | some l => some (b :: l)
    | none => none
  | _ => none
theorem boolsOf_map : ∀ {l : List D} {bs : List Bool}, boolsOf l = some bs → l = bs.map PyData.bool
  | [], _, h => by simp only [boolsOf] at h; cases h; rfl
  | d :: r, bs, h => by
    unfold boolsOf at h
    split at h
    · rename_i e; cases e
    · rename_i b r' e
      cases e
      split at h
      · rename_i l hl
        cases h
        rw [boolsOf_map hl]; rfl
      · cases h
    · cases h
theorem intsOf_map : ∀ {l : List D} {bs : List Int}, intsOf l = some bs → l = bs.map PyData.int
  | [], _, h => by simp only [intsOf] at h; cases h; rfl
  | d :: r, bs, h => by
    unfold intsOf at h
    split at h
    · rename_i e; cases e
    · rename_i b r' e
      cases e
      split at h
      · rename_i l hl
        cases h
        rw [intsOf_map hl]; rfl
      · cases h
    · cases h
@[simp] theorem boolsOf_of : ∀ bs : List Bool, boolsOf (bs.map PyData.bool) = some bs
  | [] => rfl
  | b :: bs => by simp only [List.map_cons, boolsOf, boolsOf_of bs]
@[simp] theorem intsOf_of : ∀ bs : List Int, intsOf (bs.map PyData.int) = some bs
  | [] => rfl
  | b :: bs => by simp only [List.map_cons, intsOf, intsOf_of bs]
def allB : List D → Option D
  | [.list l] => (boolsOf l).map fun bs => .bool (bs.all id)
  | _ => none
def anyB : List D → Option D
  | [.list l] => (boolsOf l).map fun bs => .bool (bs.any id)
  | _ => none
def sumB : List D → Option D
  | [.list l] => (intsOf l).map fun bs => .int bs.sum
  | _ => none
section
variable {K : PySem.W.Frag}
theorem pn_all : PN K (rAll K) allB := fun F H xs ds z Q s h hz q => by
  unfold allB at hz
  split at hz
  · obtain ⟨bs, hb, rfl⟩ := Option.map_eq_some_iff.mp hz
    obtain ⟨v, rfl, rv⟩ := h.one
    obtain ⟨a, vs, rfl, q1, r1⟩ := rv.list s
    rw [boolsOf_map hb] at r1
    exact ⟨a, bs, rfl, .inl (by rw [← r1.bools]; exact q1), q _ F H (Fr.refl s) rep_bool⟩
  · cases hz
theorem pn_any : PN K (rAny K) anyB := fun F H xs ds z Q s h hz q => by
  unfold anyB at hz
  split at hz
  · obtain ⟨bs, hb, rfl⟩ := Option.map_eq_some_iff.mp hz
    obtain ⟨v, rfl, rv⟩ := h.one
    obtain ⟨a, vs, rfl, q1, r1⟩ := rv.list s
    rw [boolsOf_map hb] at r1
    exact ⟨a, bs, rfl, .inl (by rw [← r1.bools]; exact q1), q _ F H (Fr.refl s) rep_bool⟩
  · cases hz
theorem pn_sum : PN K (rSum K) sumB := fun F H xs ds z Q s h hz q => by
  unfold sumB at hz
  split at hz
  · obtain ⟨bs, hb, rfl⟩ := Option.map_eq_some_iff.mp hz
    obtain ⟨v, rfl, rv⟩ := h.one
    obtain ⟨a, vs, rfl, q1, r1⟩ := rv.list s
    rw [intsOf_map hb] at r1
    exact ⟨a, bs, rfl, .inl (by rw [← r1.ints]; exact q1), q _ F H (Fr.refl s) rep_int⟩
  · cases hz
end
/-! ### chains of comparisons -/
def dChain (p p' : D → D → Option D) (a b c : An) : Dn := fun ρ => (a ρ).bind fun h ρ1 => (b ρ1).bind fun k ρ2 =>
  (ans ((look ρ2 h).bind fun d => (look ρ2 k).bind fun e => p d e) ρ2).bind fun z ρ2 => match z with
  | .bool true => (c ρ2).bind fun m ρ3 => ans ((look ρ3 k).bind fun d => (look ρ3 m).bind fun e => p' d e) ρ3
  | .bool false => .ok (.bool false) ρ2
  | _ => .no
theorem p2_bool_Fr {K : PySem.W.Frag} {p : D → D → Option Bool} {F H : Hp} {x y : V} {d e : D} {b : Bool} {Q : VK} (s : Same F H) (h1 : RepB K F H d x) (h2 : RepB K F H e y) (hb : p d e = some b) (q : Q (.bl b) H) : rB K p x y H Q := ⟨d, e, b, h1.here s, h2.here s, hb, q⟩
section
variable {X : Cx} {W : Wt} {e e2 e3 : Expr} {a b c : An} {pos : Pos}
theorem chain_imp {p p' : D → D → Option Bool} {σ : Sg} {H : Hp} {Q : VK} (q : tE X.K W (dChain (toB p) (toB p') a b c) σ H Q) : tChain (rB X.K p) (rB X.K p') (tA X.K W a) (tA X.K W b) (tA X.K W c) σ H Q := by
  obtain ⟨ρ, F, s, q⟩ := q
  refine Af.bind s q fun h v ρ1 F1 H1 g1 r1 z1 => Af.bind g1.sr z1 fun k w ρ2 F2 H2 g2 r2 z2 => ?_
  cases ho : ((look ρ2 h).bind fun d => (look ρ2 k).bind fun e => toB p d e) with
  | none => rw [ho] at z2; exact z2.elim
  | some z =>
    rw [ho] at z2
    obtain ⟨x, hx, e1⟩ := Option.bind_eq_some_iff.mp ho
    obtain ⟨y, hy, e2⟩ := Option.bind_eq_some_iff.mp e1
    obtain ⟨b1, hb, rfl⟩ := Option.map_eq_some_iff.mp e2
    have rx := look_rep g2.sr (r1.mono g2.sub) hx
    have ry := look_rep g2.sr r2 hy
    refine p2_bool_Fr g2.sr.sub rx ry hb ⟨b1, rfl, ?_⟩
    cases b1 with
    | false => rw [if_neg Bool.false_ne_true]; exact z2.okk g2.sr rep_bool
    | true =>
      rw [if_pos rfl]
      have z2 : Af X.K W (RD X.K) ρ2 σ F2 H2 Q ((c ρ2).bind fun m ρ3 => ans ((look ρ3 k).bind fun d => (look ρ3 m).bind fun e => toB p' d e) ρ3) := z2
      refine Af.bind g2.sr z2 fun m u ρ3 F3 H3 g3 r3 z3 => ?_
      obtain ⟨z, e, q⟩ := ans_some z3
      obtain ⟨x', hx', e⟩ := Option.bind_eq_some_iff.mp e
      obtain ⟨y', hy', e⟩ := Option.bind_eq_some_iff.mp e
      obtain ⟨b2, hb2, rfl⟩ := Option.map_eq_some_iff.mp e
      exact p2_bool_Fr g3.sr.sub (look_rep g3.sr (r2.mono g3.sub) hx') (look_rep g3.sr r3 hy') hb2 (q.okk g3.sr rep_bool)
theorem de_chain {op op' : CmpOp} {p p' : D → D → Option Bool} (ho : OpR X (compareOp op) (rB X.K p)) (ho' : OpR X (compareOp op') (rB X.K p')) (ha : PE X e (tA X.K W a)) (hb : PE X e2 (tA X.K W b)) (hc : PE X e3 (tA X.K W c))
    (hm : lastMarks [op, op'] [e2, e3] = false := by with_unfolding_all rfl) : PE X (.Compare e [op, op'] [e2, e3] pos) (tE X.K W (dChain (toB p) (toB p') a b c)) := PE.imp (pe_chain ho ho' ha hb hc hm) fun _ _ _ q => chain_imp q
theorem dt_chain {op op' : CmpOp} {p p' : D → D → Option Bool} (ho : OpR X (compareOp op) (rB X.K p)) (ho' : OpR X (compareOp op') (rB X.K p')) (ha : PE X e (tA X.K W a)) (hb : PE X e2 (tA X.K W b)) (hc : PE X e3 (tA X.K W c))
    (hm : lastMarks [op, op'] [e2, e3] = false := by with_unfolding_all rfl) : PT X (.Compare e [op, op'] [e2, e3] pos) (tT X.K W (dTv (dChain (toB p) (toB p') a b c))) := PT.imp (pt_chain ho ho' ha hb hc hm) fun _ _ _ q => tv_imp (fun _ _ _ z => chain_imp z) q
end
/-! ### a comprehension to a name -/
section
variable {X : Cx} {W : Wt} {tg e : Expr} {d : Dn} {pos : Pos}
theorem setLc_imp {i : Nat} {te : TE} {d : Fn} (h : ∀ σ H Q, tF X.K W d σ H Q → te σ H Q) {D : Ends} {σ : Sg} {H : Hp} (q : tS X.K W (sSet i (dFz d)) D σ H) : tAsg te (gName i) D σ H := by
  obtain ⟨ρ, F, s, q⟩ := q
  exact h _ _ _ (fz_imp (AfS.bind s q fun c v ρ1 F1 H1 g r z => by
    by_cases hn : notIo ρ1 i = true
    · rw [if_pos hn] at z; exact z _ _ _ (g.sr.setV hn r)
    · rw [if_neg hn] at z; exact z.elim))
theorem newLc_imp {i : Nat} {te : TE} {d : Fn} (h : ∀ σ H Q, tF X.K W d σ H Q → te σ H Q) {D : Ends} {σ : Sg} {H : Hp} (q : tS X.K W (sNew i d) D σ H) : tAsg te (gName i) D σ H := by
  obtain ⟨ρ, F, s, q⟩ := q
  exact h _ _ _ (AfS.bindF s q fun m a ρ1 F1 H1 g o n no z => by
    by_cases hn : notIo ρ1 i = true
    · rw [if_pos hn] at z; exact z _ _ _ (g.setO hn o n no)
    · rw [if_neg hn] at z; exact z.elim)
theorem ds_setLc (i : Nat) {y : Str} {py : Pos} {elt iter : Expr} {ifs : List Expr} {scope : Scope} {spos : Pos} {src : In} {bd : Bd} {ts vs : List Nat} {tn : Tn} {de : Dn} (own : List (Str × Nat)) (hv : vs = own.map (·.2)) (hc : X.calm = true) (hN : X.N.Nodup) (hi : PI X tg iter (tI X.K W src)) (ok : BlkOk X.N X.env.scope scope own)
    (hg : ∃ g, (∀ (s : Shared) (H : Hp) (C : Addr) (cl : List (Str × Addr)) (fp : List Addr), PG (X.blk s H scope (compEnvC scope cl C X.env) fp) tg g) ∧ TgR X.K g bd ts) (sub : ∀ i ∈ ts, i ∈ vs)
    (ht : ∀ (s : Shared) (H : Hp) (C : Addr) (cl : List (Str × Addr)) (fp : List Addr), PTs (X.blk s H scope (compEnvC scope cl C X.env) fp) ifs (tT X.K ⟨W.xr, E0⟩ tn))
    (he : ∀ (s : Shared) (H : Hp) (C : Addr) (cl : List (Str × Addr)) (fp : List Addr), PE (X.blk s H scope (compEnvC scope cl C X.env) fp) elt (tE X.K ⟨W.xr, E0⟩ de))
    (hsw : swapsWith (.ListComp elt [⟨tg, iter, ifs, 0⟩] scope pos) (some (.Name y py)) spos.line X.env = pure true) (hy : X.N[i]? = some y := by rfl) (hyl : X.env.scope.names.lookup y = some .local := by rfl)
    (hs : ∀ x, foldedSetIterable iter X.env x = pure x := by intro _; rfl) :
    PS X (.Assign [.Name y py] (.ListComp elt [⟨tg, iter, ifs, 0⟩] scope pos) spos) (tS X.K W (sSet i (dFz (fComp src bd tn de vs)))) := by
  obtain ⟨g, hg, hr⟩ := hg
  subst hv
  exact PS.imp (ps_setLc hc hN hy hyl hsw hi ok hg ht he hs) fun _ _ _ q => setLc_imp (fun _ _ _ z => comp_imp hr sub z) q
theorem ds_newLc (i : Nat) {y : Str} {py : Pos} {elt iter : Expr} {ifs : List Expr} {scope : Scope} {spos : Pos} {src : In} {bd : Bd} {ts vs : List Nat} {tn : Tn} {de : Dn} (own : List (Str × Nat)) (hv : vs = own.map (·.2)) (hc : X.calm = true) (hN : X.N.Nodup) (hi : PI X tg iter (tI X.K W src)) (ok : BlkOk X.N X.env.scope scope own)
    (hg : ∃ g, (∀ (s : Shared) (H : Hp) (C : Addr) (cl : List (Str × Addr)) (fp : List Addr), PG (X.blk s H scope (compEnvC scope cl C X.env) fp) tg g) ∧ TgR X.K g bd ts) (sub : ∀ i ∈ ts, i ∈ vs)
    (ht : ∀ (s : Shared) (H : Hp) (C : Addr) (cl : List (Str × Addr)) (fp : List Addr), PTs (X.blk s H scope (compEnvC scope cl C X.env) fp) ifs (tT X.K ⟨W.xr, E0⟩ tn))
    (he : ∀ (s : Shared) (H : Hp) (C : Addr) (cl : List (Str × Addr)) (fp : List Addr), PE (X.blk s H scope (compEnvC scope cl C X.env) fp) elt (tE X.K ⟨W.xr, E0⟩ de))
    (hsw : swapsWith (.ListComp elt [⟨tg, iter, ifs, 0⟩] scope pos) (some (.Name y py)) spos.line X.env = pure true) (hy : X.N[i]? = some y := by rfl) (hyl : X.env.scope.names.lookup y = some .local := by rfl)
    (hs : ∀ x, foldedSetIterable iter X.env x = pure x := by intro _; rfl) :
    PS X (.Assign [.Name y py] (.ListComp elt [⟨tg, iter, ifs, 0⟩] scope pos) spos) (tS X.K W (sNew i (fComp src bd tn de vs))) := by
  obtain ⟨g, hg, hr⟩ := hg
  subst hv
  exact PS.imp (ps_setLc hc hN hy hyl hsw hi ok hg ht he hs) fun _ _ _ q => newLc_imp (fun _ _ _ z => comp_imp hr sub z) q
end
/-! ### targets of a block -/
def gAll : List Nat → TGs
  | [] => gNil
  | i :: is => gCons (gName i) (gAll is)
theorem tgr_n {K : PySem.W.Frag} (i : Nat) : TgR K (gName i) (bN i) [i] := fun ρ σ F H v d ρ' Q s r h k => by
  unfold bN at h
  by_cases hn : notIo ρ i = true
  · rw [if_pos hn] at h; cases h
    exact k _ (s.setV hn r) ⟨List.length_set, fun j hj => List.getElem?_set_ne (by simpa using fun z : i = j => hj (by simp [z]))⟩
  · rw [if_neg hn] at h; cases h
theorem gAll_ok {K : PySem.W.Frag} : ∀ (is : List Nat) ρ σ F H vs ds ρ' (Q : Sg → Hp → Prop), SR K ρ σ F H → Reps K F ds vs → bindAll is ds ρ = some ρ' → (∀ σ', Go K ρ σ F H ρ' σ' F H → Kp is σ σ' → Q σ' H) → gAll is vs σ H Q
  | [], ρ, σ, F, H, vs, ds, ρ', Q, s, r, h, k => by
    cases ds with
    | nil => cases h; exact ⟨reps_nil.mp r, k _ (Go.refl s) ⟨rfl, fun j hj => rfl⟩⟩
    | cons d ds => cases h
  | i :: is, ρ, σ, F, H, vs, ds, ρ', Q, s, r, h, k => by
    cases ds with
    | nil => cases h
    | cons d ds =>
      obtain ⟨v, w, rfl, r1, r2⟩ := reps_cons.mp r
      unfold bindAll at h
      by_cases hn : notIo ρ i = true
      · rw [if_pos hn] at h
        have g1 := s.setV hn r1
        exact ⟨v, w, rfl, gAll_ok is _ _ _ _ _ _ _ _ g1.sr r2 h fun σ' g2 kp => k σ' (g1.trans g2) ⟨by rw [kp.1, List.length_set], fun j hj => by
          rw [kp.2 j (fun z => hj (List.mem_cons_of_mem _ z)), List.getElem?_set_ne (fun z : i = j => hj (by simp [z]))]⟩⟩
      · rw [if_neg hn] at h; cases h
theorem bindAll_len : ∀ (is : List Nat) (ds : List D) (ρ ρ' : Rho), bindAll is ds ρ = some ρ' → is.length = ds.length
  | [], [], _, _, _ => rfl
  | [], _ :: _, _, _, h => by cases h
  | _ :: _, [], _, _, h => by cases h
  | i :: is, d :: ds, ρ, ρ', h => by
    unfold bindAll at h
    by_cases hn : notIo ρ i = true
    · rw [if_pos hn] at h; rw [List.length_cons, List.length_cons, bindAll_len is ds _ _ h]
    · rw [if_neg hn] at h; cases h
theorem tgr_t {K : PySem.W.Frag} {n : Nat} (is : List Nat) (hl : is.length = n) : TgR K (gTup K n (gAll is)) (bT is) is := fun ρ σ F H v d ρ' Q s r h k => by
  cases d with
  | tuple ds =>
    simp only [Rep] at r
    obtain ⟨a, vs, rfl, q, r⟩ := r
    exact ⟨a, vs, rfl, SqT.of (s.sub _ _ q), by rw [← r.length, ← bindAll_len is ds ρ _ h, hl], gAll_ok is _ _ _ _ _ _ _ _ s r h k⟩
  | none => cases h
  | bool _ => cases h
  | int _ => cases h
  | str _ => cases h
  | list _ => cases h
  | dict _ => cases h
end Ft
/-! Ft9: names of either kind; defs by name. -/
namespace Ft
open PySem L2 PySem.Spec PyProof.Rows
/-- a name: its tree; an own object of mine is frozen -/
def dV (i : Nat) : Dn := fun ρ => match ρ[i]? with
  | some (.val d) => .ok d ρ
  | some (.own m true) => .ok m.toD (ρ.set i (.val m.toD))
  | _ => .no
/-- a name as an operand: its tree, or the own object -/
def aV (i : Nat) : An := fun ρ => match ρ[i]? with
  | some (.val d) => .ok (.v d) ρ
  | some (.own _ _) => .ok (.s i) ρ
  | _ => .no
section
variable {X : Cx} {W : Wt} {pos : Pos}
theorem de_v (i : Nat) {x : Str} (hN : X.N[i]? = some x := by rfl) (hv : Vis X.env.scope x := by first | exact Or.inl rfl | exact Or.inr (Or.inl rfl) | exact Or.inr (Or.inr rfl)) (hd : (x == ("__debug__" : Str)) = false := by decide)
    (hcd : (x == ("__classdict__" : Str)) = false := by decide) : PE X (.Name x pos) (tE X.K W (dV i)) := PE.imp (pe_var hN hv hd hcd) fun σ H Q ⟨ρ, F, s, q⟩ => by
  cases hr : ρ[i]? with
  | none => simp only [dV, hr] at q; exact q.elim
  | some l =>
    cases l with
    | un => simp only [dV, hr] at q; exact q.elim
    | val d =>
      simp only [dV, hr] at q
      obtain ⟨a, h1, h2⟩ := s.val i d hr
      exact ⟨_, h1, q.okk s h2⟩
    | own m b =>
      cases b with
      | false => simp only [dV, hr] at q; exact q.elim
      | true =>
        simp only [dV, hr] at q
        obtain ⟨a, F', h1, h2, g⟩ := s.mov hr
        exact ⟨_, h1, q _ _ _ g h2⟩
theorem da_v (i : Nat) {x : Str} (hN : X.N[i]? = some x := by rfl) (hv : Vis X.env.scope x := by first | exact Or.inl rfl | exact Or.inr (Or.inl rfl) | exact Or.inr (Or.inr rfl)) (hd : (x == ("__debug__" : Str)) = false := by decide)
    (hcd : (x == ("__classdict__" : Str)) = false := by decide) : PE X (.Name x pos) (tA X.K W (aV i)) := PE.imp (pe_var hN hv hd hcd) fun σ H Q ⟨ρ, F, s, q⟩ => by
  cases hr : ρ[i]? with
  | none => simp only [aV, hr] at q; exact q.elim
  | some l =>
    cases l with
    | un => simp only [aV, hr] at q; exact q.elim
    | val d =>
      simp only [aV, hr] at q
      obtain ⟨a, h1, h2⟩ := s.val i d hr
      exact ⟨_, h1, q.okk s h2⟩
    | own m b =>
      simp only [aV, hr] at q
      obtain ⟨a, h1, h2⟩ := s.own i m b hr
      exact ⟨_, h1, q.okk s h1⟩
end
/-- a def of the top: where it stands -/
structure Df (K : PySem.W.Frag) (mg : Str → Option Value) (x : Str) (st : Stmt) : Prop where
  ex : ∃ (f : Addr) (fd : FuncData), Fun K x x st f fd ∧ mg x = some (.ref f) ∧ PySem.W.keepIn K (.ref f) = true
/-- a def by its name, with what it computes -/
structure Cl (P : Program) (w : World) (K : PySem.W.Frag) (mg : Str → Option Value) (base : Heap) (k : Nat) (x : Str) (n : Nat) (xr : XR) (g : Cn) : Prop where
  ex : ∃ (f : Addr) (fd : FuncData) (ps : List Str), FnOk P w K mg base (L2N.CX P w) k f fd ps (SpOf K xr n g) ∧ mg x = some (.ref f) ∧ PySem.W.keepIn K (.ref f) = true ∧ Binds K fd ps []
section
variable {P : Program} {w : World} {K : PySem.W.Frag} {mg : Str → Option Value} {base : Heap}
theorem cl_of {xr : XR} {x : Str} {st : Stmt} {N ps : List Str} {k n m : Nat} {body : Sn} (d : Df K mg x st) (S : FnScope N ps (defScope st)) (hp : ps.length = n) (hN : N.length = m) (hnm : n ≤ m)
    (hb : ∀ (f : Addr) (fd : FuncData), Fun K x x st f fd → Binds K fd ps [])
    (hbody : ∀ (f : Addr) (cdv : Value) (A : Around) (outer : List Env) (s : Shared) (H : Hp) (E : XK), Room k (A.deeper (envOfC x (defScope st) s.heap.objs.size f cdv)) →
      PSs (cxOf (L2N.CX P w) P w K mg base N x (defScope st) f cdv A outer s H E) (defBody st) (tS K ⟨xr, E⟩ body)) : Cl P w K mg base (k + 1) x n xr (fn n m body) := by
  obtain ⟨f, fd, F, h1, h2⟩ := d.ex
  exact ⟨f, fd, ps, def_ok F S hp hN hnm (hbody f), h1, h2, hb f fd F⟩
end
section
variable {X : Cx} {W : Wt} {k : Nat} {x : Str} {p pos : Pos} {e : Expr} {es : List Expr} {a : Ans} {g : Cn} {n : Nat}
theorem de_cl (c : Cl X.prog X.w X.K X.mg X.base k x n W.xr g) (hr : Room k X.A) (hx : Passes (L2N.CX X.prog X.w) X W.E)
    (ha : PA X (e :: es) (tAs X.K W a)) (hn : aLen a n) (hg : Gl X x := by rfl) (hdb : (x == ("__debug__" : Str)) = false := by decide) (he : starEach (e :: es) X.env = (false, eval e X.env) :: starEach es X.env := by rfl) (hpl : (backTo pos (starEach es X.env)).any (·.1) = false := by rfl) :
    PE X (.Call (.Name x p) (e :: es) [] pos) (tE X.K W (dCall g a)) := by
  obtain ⟨f, fd, ps, h1, h2, h3, h4⟩ := c.ex
  exact de_call h1 hr h2 h3 h4 hx ha hn hg hdb he hpl
theorem df_cl (c : Cl X.prog X.w X.K X.mg X.base k x n W.xr g) (hr : Room k X.A) (hx : Passes (L2N.CX X.prog X.w) X W.E)
    (ha : PA X (e :: es) (tAs X.K W a)) (hn : aLen a n) (hg : Gl X x := by rfl) (hdb : (x == ("__debug__" : Str)) = false := by decide) (he : starEach (e :: es) X.env = (false, eval e X.env) :: starEach es X.env := by rfl) (hpl : (backTo pos (starEach es X.env)).any (·.1) = false := by rfl) :
    PE X (.Call (.Name x p) (e :: es) [] pos) (tF X.K W (fCall g a)) := by
  obtain ⟨f, fd, ps, h1, h2, h3, h4⟩ := c.ex
  exact df_call h1 hr h2 h3 h4 hx ha hn hg hdb he hpl
theorem df_cl0 (c : Cl X.prog X.w X.K X.mg X.base k x 0 W.xr g) (hr : Room k X.A) (hx : Passes (L2N.CX X.prog X.w) X W.E)
    (hg : Gl X x := by rfl) (hdb : (x == ("__debug__" : Str)) = false := by decide) : PE X (.Call (.Name x p) [] [] pos) (tF X.K W (fCall g aNil)) := by
  obtain ⟨f, fd, ps, h1, h2, h3, h4⟩ := c.ex
  exact df_call0 h1 hr h2 h3 h4 hx hg hdb
theorem de_cl0 (c : Cl X.prog X.w X.K X.mg X.base k x 0 W.xr g) (hr : Room k X.A) (hx : Passes (L2N.CX X.prog X.w) X W.E)
    (hg : Gl X x := by rfl) (hdb : (x == ("__debug__" : Str)) = false := by decide) : PE X (.Call (.Name x p) [] [] pos) (tE X.K W (dCall g aNil)) := by
  obtain ⟨f, fd, ps, h1, h2, h3, h4⟩ := c.ex
  exact de_call0 h1 hr h2 h3 h4 hx hg hdb
end
section
variable {P : Program} {w : World} {K : PySem.W.Frag} {mg : Str → Option Value} {base : Heap} {N : List Str} {x : Str} {sc : Scope} {f : Addr} {cdv : Value} {A : Around} {outer : List Env} {s : Shared} {H : Hp} {E : XK}
theorem px : Passes (L2N.CX P w) (cxOf (L2N.CX P w) P w K mg base N x sc f cdv A outer s H E) E := L2N.passes_call (L2N.takes_of rfl rfl rfl rfl) (fun _ _ _ _ h => h)
/-- nothing is let out of a comprehension -/
theorem passN {X : Cx} : Passes (L2N.CX X.prog X.w) X E0 := fun _ _ _ _ _ _ _ h => by
  obtain ⟨_, _, _, _, _, _, _, _, _, _, _, _, z⟩ := h
  exact z.elim
theorem po : PassesOwn (model P w) (cxOf (L2N.CX P w) P w K mg base N x sc f cdv A outer s H E).A (cxOf (L2N.CX P w) P w K mg base N x sc f cdv A outer s H E).env (cxOf (L2N.CX P w) P w K mg base N x sc f cdv A outer s H E).xe := passes_of rfl
/-- nothing is promised of a call that is deeper than it was told -/
theorem cl_no {xr : XR} {st : Stmt} {N ps : List Str} {k n : Nat} (d : Df K mg x st) (S : FnScope N ps (defScope st)) (hp : ps.length = n) (hb : ∀ (f : Addr) (fd : FuncData), Fun K x x st f fd → Binds K fd ps []) : Cl P w K mg base (k + 1) x n xr (fun _ => .no) := by
  obtain ⟨f, fd, F, h1, h2⟩ := d.ex
  exact ⟨f, fd, ps, okN F S (fun vs H Q E h => h.1.trans hp.symm) fun cdv A outer s H vs Q E hr h => by obtain ⟨_, F', ins, _, z⟩ := h; exact z.elim, h1, h2, hb f fd F⟩
theorem df_mk {st : Stmt} {h : Heap} {oc : Value} {od an : Option Addr} {osl : Array (Option Value)} {kV doc pm cdv ct : Value} (X : K.In h) (G : h.Ns mainGlobals mg) (a : PySem.W.nsIn K mainGlobals x = some (some (.ref f)))
    (l : K.lookup f = some ⟨oc, od, .func (PySem.W.fnOf x x (defArgs st) (defBody st) (defScope st) .none kV doc pm an cdv ct), osl⟩) (c : PySem.W.codeIn K cdv x = true) (k : PySem.W.keepIn K (.ref f) = true) : Df K mg x st :=
  ⟨f, _, fun_mk l c k, PySem.W.mg_of X G a, k⟩
end
/-- what a law promises: True of each list of at most 63 ints -/
def spLaw (K : PySem.W.Frag) : Sp := fun vs H Q _ => ∃ (a : Addr) (ns : List Int), vs = [.ref a] ∧ SqL K H a (ns.map V.int) ∧ ns.length ≤ 63 ∧ ∀ H', Q (.bl true) H'
end Ft
/-! Ft10: the end of a law. -/
namespace Ft
open PySem L2 PySem.Spec PyProof.Rows
/-- no list among the objects that the top has written -/
def noL (K : PySem.W.Frag) : Bool := K.all fun p => match p.2.cls with
  | .type "list" => false
  | _ => true
theorem noL_at {K : PySem.W.Frag} (h : noL K = true) {a : Addr} {o : Obj} (e : K.lookup a = some o) : o.cls ≠ .type "list" := fun z => by
  have m : (a, o) ∈ K := PySem.W.mem_of_lookupK e
  have := List.all_eq_true.mp h _ m
  simp only [z] at this
  cases this
/-- the plain law -/
def LawP (g : Cn) : Prop := ∀ ns : List Int, ns.length ≤ 63 → (∀ z ∈ ns, Builtin.Int.intBits z ≤ 1048576) → g [.val (.list (ns.map PyData.int))] = .ok (.bool true) []
theorem sp_law {K : PySem.W.Frag} {xr : XR} {g : Cn} (h : LawP g) (nl : noL K = true) {H : Hp} {a : Addr} {ns : List Int} (hl : ns.length ≤ 63) (hb : ∀ z ∈ ns, Builtin.Int.intBits z ≤ 1048576) (hS : SqL K H a (ns.map V.int)) :
    SpOf K xr 1 g [.ref a] H (fun v _ => v = .bl true) fun _ _ _ => False := by
  have hR : Rd H a (.lst (ns.map V.int)) := by
    rcases hS with z | ⟨o, its, n, e, c, _⟩
    · exact z
    · exact absurd c (noL_at nl e)
  refine ⟨rfl, H, [.val (.list (ns.map PyData.int))], ⟨Same.refl _, rfl, fun i d e => ?_, fun i m b e => ?_, fun i j m1 b1 m2 b2 c e => ?_⟩, ?_⟩
  · match i, e with
    | 0, e => cases e; exact ⟨.ref a, rfl, by simp only [Rep]; exact ⟨a, _, rfl, hR, Reps.of_ints ns⟩⟩
    | i + 1, e => simp at e
  · match i, e with
    | 0, e => cases e
    | i + 1, e => simp at e
  · match i, e with
    | 0, e => cases e
    | i + 1, e => simp at e
  · rw [h ns hl hb]
    exact ⟨_, rfl, fun v F' H' _ r => by simpa only [Rep] using r⟩
/-- the law's own def: its promise, by its place and what it binds -/
theorem law_fn {P : Program} {w : World} {K : PySem.W.Frag} {mg : Str → Option Value} {fa : Addr} {xr : XR} {st : Stmt} {k : Nat} {g : Cn} (d : Df K mg "law" st) (hfa : mg "law" = some (.ref fa))
    (hb : ∀ (kV doc pm : Value) (an : Option Addr) (cdv ct : Value) (us : List Value), us.length = 1 → bindArgs (PySem.W.fnOf "law" "law" (defArgs st) (defBody st) (defScope st) .none kV doc pm an cdv ct) ⟨us, []⟩ = pure ((["script"] : List Str).zip us))
    (F : ∀ base : Heap, K.In base → base.Ns mainGlobals mg → ∀ (f : Addr) (fd : FuncData), Fun K "law" "law" st f fd → FnOk P w K mg base (L2N.CX P w) k f fd ["script"] (SpOf K xr 1 g)) :
    ∃ fd : FuncData, (∀ (s : Shared) (v : Value), BindsTo s fd ⟨[v], []⟩ [("script", v)]) ∧ ∀ base : Heap, K.In base → base.Ns mainGlobals mg → FnOk P w K mg base (L2N.CX P w) k fa fd ["script"] (SpOf K xr 1 g) := by
  obtain ⟨f, fd, Fx, h1, h2⟩ := d.ex
  cases hfa.symm.trans h1
  refine ⟨fd, fun s v => ?_, fun base h3 h4 => F base h3 h4 _ fd Fx⟩
  obtain ⟨oc, od, kV, doc, pm, an, cdv, ct, osl, rfl, lk, hcd⟩ := Fx.ex
  exact .of_eq (hb kV doc pm an cdv ct [v] rfl)
theorem walk_law {l : PySem.W.OpenLaw} {q : Program} {loose : List Str} {XP : (Str → Option Value) → Heap → Prop} {YP : World → Heap → Prop} {d : DefRec} {K : Params → PySem.W.Frag} {k : Nat} {g : Cn} {xr : PySem.W.Frag → XR} (hn : l.most = some 63) (hdf : d.params.defaults = []) (hr : Room k callerA)
    (hY : ∀ (w : World) (h : Heap), YP w h → (K w.params).In h) (nl : ∀ w : World, noL (K w.params) = true) (pl : LawP g)
    (F : ∀ (w : World) (mg : Str → Option Value) (fa : Addr) (h : Heap), (K w.params).In h → h.Ns mainGlobals mg → mg d.name = some (.ref fa) →
      ∃ fd : FuncData, (∀ (s : Shared) (u : Value), BindsTo s fd ⟨[u], []⟩ [("script", u)]) ∧ ∀ base : Heap, (K w.params).In base → base.Ns mainGlobals mg → FnOk l.prog w (K w.params) mg base (L2N.CX l.prog w) k fa fd ["script"] (SpOf (K w.params) (xr (K w.params)) 1 g)) :
    PySem.W.WalkO q loose XP YP l.row.toRowW d [] (fun f vs => PySem.call f vs) :=
  L2.walk_ofB (n := 63) (k := k) (x := "script") (CX := fun w => L2N.CX l.prog w) (sp := fun w => SpOf (K w.params) (xr (K w.params)) 1 g) hn (by decide) hdf hr hY F (fun w H a ns h1 h2 _ h4 => sp_law pl (nl w) h1 h2 h4) fun w H s e s' h => by
    obtain ⟨_, _, _, _, _, _, _, _, _, _, _, _, z⟩ := h
    exact z
end Ft
/-! Ft11: the combinators step by step (for simp only). -/
namespace Ft
open PySem L2
section
variable {α β : Type} {ρ ρ1 ρ' : Rho} {i j : Nat} {d e : Dn} {a b c : An} {as : Ans} {v : Vn} {t u : Tn} {s s2 : Sn} {x y z : D} {m : Mo} {l : List D}
theorem bind_ext {r : RE α} {f g : α → Rho → RE β} (h : ∀ a ρ, f a ρ = g a ρ) : r.bind f = r.bind g := by
  cases r with
  | ok a ρ => exact h a ρ
  | ex x ρ => rfl
  | no => rfl
theorem st_ext {r : RE α} {f g : α → Rho → RS} (h : ∀ a ρ, f a ρ = g a ρ) : r.st f = r.st g := by
  cases r with
  | ok a ρ => exact h a ρ
  | ex x ρ => rfl
  | no => rfl
theorem st'_ext {o : Option α} {f g : α → RS} (h : ∀ a, f a = g a) : st' o f = st' o g := by
  cases o with
  | none => rfl
  | some a => exact h a
theorem ev_bind {a : α} {f : α → Rho → RE β} : RE.bind (.ok a ρ) f = f a ρ := rfl
theorem ev_st {a : α} {f : α → Rho → RS} : RE.st (.ok a ρ) f = f a ρ := rfl
-- names
def lvV : Option LV → Nat → Rho → RE D
  | some (.val d), _, ρ => .ok d ρ
  | some (.own m true), i, ρ => .ok m.toD (ρ.set i (.val m.toD))
  | _, _, _ => .no
theorem ev_dV : dV i ρ = lvV (ρ[i]?) i ρ := by unfold dV lvV; cases ρ[i]? with | none => rfl | some l => cases l with | un => rfl | val _ => rfl | own _ b => cases b <;> rfl
theorem ev_lvV1 : lvV (some (.val x)) i ρ = .ok x ρ := rfl
theorem ev_lvV2 : lvV (some (.own m true)) i ρ = .ok m.toD (ρ.set i (.val m.toD)) := rfl
theorem ev_toD : Mo.toD (.lst l) = .list l := rfl
def lvA : Option LV → Nat → Rho → RE Hd
  | some (.val d), _, ρ => .ok (.v d) ρ
  | some (.own _ _), i, ρ => .ok (.s i) ρ
  | _, _, _ => .no
theorem ev_aV : aV i ρ = lvA (ρ[i]?) i ρ := by unfold aV lvA; cases ρ[i]? with | none => rfl | some l => cases l <;> rfl
theorem ev_lvA1 : lvA (some (.val x)) i ρ = .ok (.v x) ρ := rfl
theorem ev_lvA2 {k : Bool} : lvA (some (.own m k)) i ρ = .ok (.s i) ρ := rfl
def lvR : Option LV → Nat → Rho → RE Hd
  | some (.own _ _), i, ρ => .ok (.s i) ρ
  | _, _, _ => .no
theorem ev_aR : aR i ρ = lvR (ρ[i]?) i ρ := by unfold aR lvR; cases ρ[i]? with | none => rfl | some l => cases l <;> rfl
theorem ev_lvR {k : Bool} : lvR (some (.own m k)) i ρ = .ok (.s i) ρ := rfl
theorem ev_dC : dC x ρ = .ok x ρ := rfl
def mkV (x : D) (ρ : Rho) : RE Hd := .ok (.v x) ρ
theorem ev_aE : aE d ρ = (d ρ).bind mkV := rfl
theorem ev_mkV : mkV x ρ = .ok (.v x) ρ := rfl
theorem ev_aNil : aNil ρ = .ok [] ρ := rfl
def consK2 (h : Hd) (hs : List Hd) (ρ : Rho) : RE (List Hd) := .ok (h :: hs) ρ
def consK (t : Ans) (h : Hd) (ρ : Rho) : RE (List Hd) := (t ρ).bind (consK2 h)
theorem ev_aCons : aCons a as ρ = (a ρ).bind (consK as) := rfl
theorem ev_consK {h : Hd} : consK as h ρ = (as ρ).bind (consK2 h) := rfl
theorem ev_consK2 {h : Hd} {hs : List Hd} : consK2 h hs ρ = .ok (h :: hs) ρ := rfl
theorem ev_vNil : vNil ρ = .ok [] ρ := rfl
def vconsK2 (h : D) (hs : List D) (ρ : Rho) : RE (List D) := .ok (h :: hs) ρ
def vconsK (t : Vn) (h : D) (ρ : Rho) : RE (List D) := (t ρ).bind (vconsK2 h)
theorem ev_vCons : vCons d v ρ = (d ρ).bind (vconsK v) := rfl
theorem ev_vconsK {h : D} : vconsK v h ρ = (v ρ).bind (vconsK2 h) := rfl
theorem ev_vconsK2 {h : D} {hs : List D} : vconsK2 h hs ρ = .ok (h :: hs) ρ := rfl
-- what stands there
def lookK : Option LV → Option D
  | some (.own m _) => some m.toD
  | _ => none
theorem ev_look1 : look ρ (.v x) = some x := rfl
theorem ev_look2 : look ρ (.s i) = lookK (ρ[i]?) := by
  show (match ρ[i]? with | some (.own m _) => some m.toD | _ => none) = _
  unfold lookK
  cases ρ[i]? with
  | none => rfl
  | some l => cases l <;> rfl
theorem ev_lookK {k : Bool} : lookK (some (.own m k)) = some m.toD := rfl
def looksK : Option D → Option (List D) → Option (List D)
  | some d, some ds => some (d :: ds)
  | _, _ => none
theorem ev_looks0 : looks ρ [] = some [] := rfl
theorem ev_looks1 {h : Hd} {hs : List Hd} : looks ρ (h :: hs) = looksK (look ρ h) (looks ρ hs) := by
  show (match look ρ h with | some d => _ | none => none) = _
  unfold looksK
  cases look ρ h with
  | none => rfl
  | some d => cases looks ρ hs <;> rfl
theorem ev_looksK {ds : List D} : looksK (some x) (some ds) = some (x :: ds) := rfl
theorem ev_ob {a : α} {f : α → Option β} : Option.bind (some a) f = f a := rfl
theorem ev_om {a : α} {f : α → β} : Option.map f (some a) = some (f a) := rfl
theorem ev_ans {a : α} : ans (some a) ρ = .ok a ρ := rfl
-- operators
def op1K (p : D → Option D) (h : Hd) (ρ : Rho) : RE D := ans ((look ρ h).bind p) ρ
theorem ev_dOp1 {p : D → Option D} : dOp1 p a ρ = (a ρ).bind (op1K p) := rfl
theorem ev_op1K {p : D → Option D} {h : Hd} : op1K p h ρ = ans ((look ρ h).bind p) ρ := rfl
def ap2 (p : D → D → Option D) : Option D → Option D → Option D
  | some d, some e => p d e
  | _, _ => none
def op2L (p : D → D → Option D) (h k : Hd) (ρ : Rho) : RE D := ans (ap2 p (look ρ h) (look ρ k)) ρ
def op2K (p : D → D → Option D) (b : An) (h : Hd) (ρ : Rho) : RE D := (b ρ).bind (op2L p h)
theorem ev_dOp2 {p : D → D → Option D} : dOp2 p a b ρ = (a ρ).bind (op2K p b) := by
  unfold dOp2 op2K
  first | refine bind_ext fun h ρ1 => ?_ | refine st_ext fun h ρ1 => ?_
  first | refine bind_ext fun k ρ2 => ?_ | refine st_ext fun k ρ2 => ?_
  unfold op2L ap2
  cases look ρ2 h with
  | none => rfl
  | some d => cases look ρ2 k <;> rfl
theorem ev_op2K {p : D → D → Option D} {h : Hd} : op2K p b h ρ = (b ρ).bind (op2L p h) := rfl
theorem ev_op2L {p : D → D → Option D} {h k : Hd} : op2L p h k ρ = ans (ap2 p (look ρ h) (look ρ k)) ρ := rfl
theorem ev_ap2 {p : D → D → Option D} : ap2 p (some x) (some y) = p x y := rfl
def opNK (p : List D → Option D) (hs : List Hd) (ρ : Rho) : RE D := ans ((looks ρ hs).bind p) ρ
theorem ev_dOpN {p : List D → Option D} : dOpN p as ρ = (as ρ).bind (opNK p) := rfl
theorem ev_opNK {p : List D → Option D} {hs : List Hd} : opNK p hs ρ = ans ((looks ρ hs).bind p) ρ := rfl
def fopNK (p : List D → Option (List D)) (hs : List Hd) (ρ : Rho) : RE Mo := ans (((looks ρ hs).bind p).map Mo.lst) ρ
theorem ev_fOpN {p : List D → Option (List D)} : fOpN p as ρ = (as ρ).bind (fopNK p) := rfl
theorem ev_fopNK {p : List D → Option (List D)} {hs : List Hd} : fopNK p hs ρ = ans (((looks ρ hs).bind p).map Mo.lst) ρ := rfl
-- numbers
theorem ev_add {i j : Int} : addB (.int i) (.int j) = some (.int (i + j)) := rfl
theorem ev_sub {i j : Int} : subB (.int i) (.int j) = some (.int (i - j)) := rfl
theorem ev_neg {i : Int} : negB (.int i) = some (.int (-i)) := rfl
def Small (i : Int) : Prop := -18446744073709551616 < i ∧ i < 18446744073709551616
theorem ev_small {i : Int} : Small i ↔ (-18446744073709551616 < i ∧ i < 18446744073709551616) := ⟨fun h => h, fun h => h⟩
theorem ev_mul1 {i j : Int} (h : Small i) : mulB (.int i) (.int j) = some (.int (i * j)) := if_pos (by unfold Small at h; simp [h.1, h.2])
theorem ev_mul2 {i j : Int} (h : Small j) : mulB (.int i) (.int j) = some (.int (i * j)) := if_pos (by unfold Small at h; simp [h.1, h.2])
theorem ev_fdiv {i j : Int} (h : 0 < j) (h2 : j < 1073741824) : fdivB (.int i) (.int j) = some (.int (i / j)) := by
  show (if (decide (j ≠ 0) && decide (j.natAbs < 1073741824)) = true then some (PyData.int (i.fdiv j)) else none) = _
  rw [if_pos (by simp; omega), Int.fdiv_eq_ediv_of_nonneg _ (by omega)]
theorem ev_mod {i j : Int} (h : 0 < j) : modB (.int i) (.int j) = some (.int (i % j)) := by
  show (if decide (j ≠ 0) = true then some (PyData.int (i.fmod j)) else none) = _
  rw [if_pos (by simp; omega), Int.fmod_eq_emod_of_nonneg _ (by omega)]
theorem ev_eq {i j : Int} : toB eqB (.int i) (.int j) = some (.bool (decide (i = j))) := rfl
theorem ev_ne {i j : Int} : toB neB (.int i) (.int j) = some (.bool (!decide (i = j))) := rfl
theorem ev_lt {i j : Int} : toB ltB (.int i) (.int j) = some (.bool (decide (i < j))) := rfl
theorem ev_gt {i j : Int} : toB gtB (.int i) (.int j) = some (.bool (decide (j < i))) := rfl
theorem ev_le {i j : Int} : toB leB (.int i) (.int j) = some (.bool (decide (i ≤ j))) := rfl
theorem ev_ge {i j : Int} : toB geB (.int i) (.int j) = some (.bool (decide (j ≤ i))) := rfl
theorem ev_eqb {i j : Bool} : toB eqB (.bool i) (.bool j) = some (.bool (i == j)) := by cases i <;> cases j <;> rfl
theorem ev_neb {i j : Bool} : toB neB (.bool i) (.bool j) = some (.bool (i != j)) := by cases i <;> cases j <;> rfl
theorem ev_isB : isB x .none = some (.bool (isNone x)) := rfl
theorem ev_isNotB : isNotB x .none = some (.bool (!isNone x)) := rfl
theorem ev_isi {f : D → Bool} : isiB f x = some (.bool (f x)) := rfl
theorem ev_len1 : lenB [.list l] = some (.int (l.length : Int)) := rfl
theorem ev_len2 : lenB [.tuple l] = some (.int (l.length : Int)) := rfl
theorem ev_int1 {i : Int} : intB [.int i] = some (.int i) := rfl
theorem ev_tup1 : tupB [.list l] = some (.tuple l) := rfl
theorem ev_tup2 : tupB [.tuple l] = some (.tuple l) := rfl
theorem ev_lst1 : lstB [.list l] = some l := rfl
theorem ev_lst2 : lstB [.tuple l] = some l := rfl
theorem ev_ix1 {i : Int} : ixB (.list l) (.int i) = atI l i := rfl
theorem ev_ix2 {i : Int} : ixB (.tuple l) (.int i) = atI l i := rfl
theorem atI_nat {l : List α} {n : Nat} : atI l (n : Int) = l[n]? := by
  unfold atI ixN
  by_cases h : n < l.length
  · simp [h]
  · simp [h]
theorem ev_at0 {a : α} {l : List α} : atI (a :: l) 0 = some a := atI_nat (n := 0)
theorem ev_at1 {a b : α} {l : List α} : atI (a :: b :: l) 1 = some b := atI_nat (n := 1)
theorem ev_at2 {a b c : α} {l : List α} : atI (a :: b :: c :: l) 2 = some c := atI_nat (n := 2)
theorem ev_at3 {a b c d : α} {l : List α} : atI (a :: b :: c :: d :: l) 3 = some d := atI_nat (n := 3)
theorem ev_at4 {a b c d e : α} {l : List α} : atI (a :: b :: c :: d :: e :: l) 4 = some e := atI_nat (n := 4)
theorem ev_at5 {a b c d e f : α} {l : List α} : atI (a :: b :: c :: d :: e :: f :: l) 5 = some f := atI_nat (n := 5)
theorem atI_last {l : List α} (h : l ≠ []) : atI l (-1) = some (l.getLast h) := by
  unfold atI ixN
  have : 0 < l.length := List.length_pos_iff.mpr h
  rw [if_neg (by omega), if_pos (by omega)]
  have e : ((-1 : Int) + (l.length : Int)).toNat = l.length - 1 := by omega
  simp only [Option.bind_some, e]
  rw [List.getLast_eq_getElem, List.getElem?_eq_getElem (by omega)]
theorem atI_get {l : List α} {i : Int} {a : α} (h0 : 0 ≤ i) (h : l[i.toNat]? = some a) : atI l i = some a := by
  have := atI_nat (l := l) (n := i.toNat)
  rw [show ((i.toNat : Nat) : Int) = i by omega] at this
  rw [this, h]
-- tests
def tvK : D → Rho → RE Bool
  | .bool b, ρ => .ok b ρ
  | _, _ => .no
theorem ev_dTv : dTv d ρ = (d ρ).bind tvK := by unfold dTv; refine bind_ext fun x ρ1 => ?_; cases x <;> rfl
theorem ev_tvK {b : Bool} : tvK (.bool b) ρ = .ok b ρ := rfl
def notK (b : Bool) (ρ : Rho) : RE Bool := .ok (!b) ρ
theorem ev_tnNot : tnNot t ρ = (t ρ).bind notK := rfl
theorem ev_notK {b : Bool} : notK b ρ = .ok (!b) ρ := rfl
def andK (u : Tn) (b : Bool) (ρ : Rho) : RE Bool := if b = true then u ρ else .ok false ρ
theorem ev_tnAnd : tnAnd t u ρ = (t ρ).bind (andK u) := rfl
theorem ev_andT : andK u true ρ = u ρ := rfl
theorem ev_andF : andK u false ρ = .ok false ρ := rfl
def orK (u : Tn) (b : Bool) (ρ : Rho) : RE Bool := if b = true then .ok true ρ else u ρ
theorem ev_tnOr : tnOr t u ρ = (t ρ).bind (orK u) := rfl
theorem ev_orT : orK u true ρ = .ok true ρ := rfl
theorem ev_orF : orK u false ρ = u ρ := rfl
theorem ev_tnYes : tnYes ρ = .ok true ρ := rfl
def dandK (u : Dn) (b : Bool) (ρ : Rho) : RE D := if b = true then u ρ else .ok (.bool false) ρ
theorem ev_dAnd : dAnd d e ρ = (dTv d ρ).bind (dandK e) := rfl
theorem ev_dandT : dandK d true ρ = d ρ := rfl
theorem ev_dandF : dandK d false ρ = .ok (.bool false) ρ := rfl
def dorK (u : Dn) (b : Bool) (ρ : Rho) : RE D := if b = true then .ok (.bool true) ρ else u ρ
theorem ev_dOr : dOr d e ρ = (dTv d ρ).bind (dorK e) := rfl
theorem ev_dorT : dorK d true ρ = .ok (.bool true) ρ := rfl
theorem ev_dorF : dorK d false ρ = d ρ := rfl
def dnotK (b : Bool) (ρ : Rho) : RE D := .ok (.bool (!b)) ρ
theorem ev_dNot : dNot d ρ = (dTv d ρ).bind dnotK := rfl
theorem ev_dnotK {b : Bool} : dnotK b ρ = .ok (.bool (!b)) ρ := rfl
def difK (d e : Dn) (b : Bool) (ρ : Rho) : RE D := if b = true then d ρ else e ρ
theorem ev_dIf : dIf t d e ρ = (t ρ).bind (difK d e) := rfl
theorem ev_difT : difK d e true ρ = d ρ := rfl
theorem ev_difF : difK d e false ρ = e ρ := rfl
-- displays
def tupK (l : List D) (ρ : Rho) : RE D := ans (if l.length ≤ sizeLine then some (.tuple l) else none) ρ
theorem ev_dTup : dTup v ρ = (v ρ).bind tupK := rfl
theorem ev_tupK (h : l.length ≤ 1000) : tupK l ρ = .ok (.tuple l) ρ := by unfold tupK; rw [if_pos (Nat.le_trans h (by decide))]; rfl
def lstK (l : List D) (ρ : Rho) : RE Mo := ans (if l.length ≤ sizeLine then some (.lst l) else none) ρ
theorem ev_fLst : fLst v ρ = (v ρ).bind lstK := rfl
theorem ev_lstK (h : l.length ≤ 1000) : lstK l ρ = .ok (.lst l) ρ := by unfold lstK; rw [if_pos (Nat.le_trans h (by decide))]; rfl
def fzK (m : Mo) (ρ : Rho) : RE D := .ok m.toD ρ
theorem ev_dFz {f : Fn} : dFz f ρ = (f ρ).bind fzK := rfl
theorem ev_fzK : fzK m ρ = .ok m.toD ρ := rfl
-- slices
theorem ev_oNone : oNone ρ = .ok none ρ := rfl
def osK : D → Rho → RE (Option Int)
  | .int i, ρ => .ok (some i) ρ
  | _, _ => .no
theorem ev_oSome : oSome d ρ = (d ρ).bind fun x ρ' => match x with | .int i => .ok (some i) ρ' | _ => .no := rfl
def slK2 (h : Hd) (i : Option Int) (j : Option Int) (ρ : Rho) : RE D := ans ((look ρ h).bind fun d => slB d i j) ρ
def slK1 (hi : On) (h : Hd) (i : Option Int) (ρ : Rho) : RE D := (hi ρ).bind (slK2 h i)
def slK0 (lo hi : On) (h : Hd) (ρ : Rho) : RE D := (lo ρ).bind (slK1 hi h)
theorem ev_dSl {lo hi : On} : dSl a lo hi ρ = (a ρ).bind (slK0 lo hi) := rfl
theorem ev_slK0 {lo hi : On} {h : Hd} : slK0 lo hi h ρ = (lo ρ).bind (slK1 hi h) := rfl
theorem ev_slK1 {hi : On} {h : Hd} {k : Option Int} : slK1 hi h k ρ = (hi ρ).bind (slK2 h k) := rfl
theorem ev_slK2 {h : Hd} {k k2 : Option Int} : slK2 h k k2 ρ = ans ((look ρ h).bind fun d => slB d k k2) ρ := rfl
-- statements
def seqR : RS → Sn → RS
  | .next ρ, b => b ρ
  | r, _ => r
theorem ev_sSeq : sSeq s s2 ρ = seqR (s ρ) s2 := by unfold sSeq seqR; cases s ρ <;> rfl
theorem ev_seqN : seqR (.next ρ) s = s ρ := rfl
theorem ev_seqR : seqR (.ret x ρ) s = .ret x ρ := rfl
theorem ev_seqB : seqR (.brk ρ) s = .brk ρ := rfl
theorem ev_seqC : seqR (.cnt ρ) s = .cnt ρ := rfl
theorem ev_sSkip : sSkip ρ = .next ρ := rfl
def sifK (a b : Sn) (c : Bool) (ρ : Rho) : RS := if c = true then a ρ else b ρ
theorem ev_sIf : sIf t s s2 ρ = (t ρ).st (sifK s s2) := rfl
theorem ev_sifT : sifK s s2 true ρ = s ρ := rfl
theorem ev_sifF : sifK s s2 false ρ = s2 ρ := rfl
def nioK : Option LV → Bool
  | some (.val _) => true
  | some .un => true
  | some (.own _ true) => true
  | _ => false
theorem ev_notIo : notIo ρ i = nioK (ρ[i]?) := by unfold notIo nioK; cases ρ[i]? with | none => rfl | some l => cases l with | un => rfl | val _ => rfl | own _ b => cases b <;> rfl
theorem ev_nio1 : nioK (some (.val x)) = true := rfl
theorem ev_nio2 : nioK (some .un) = true := rfl
theorem ev_nio3 : nioK (some (.own m true)) = true := rfl
def putK2 (b : Bool) (i : Nat) (v : LV) (ρ : Rho) : RS := if b = true then .next (ρ.set i v) else .no
theorem ev_putK : putK2 true i (.val x) ρ = .next (ρ.set i (.val x)) := rfl
theorem ev_putO : putK2 true i (.own m true) ρ = .next (ρ.set i (.own m true)) := rfl
def setK (i : Nat) (x : D) (ρ : Rho) : RS := putK2 (notIo ρ i) i (.val x) ρ
theorem ev_sSet : sSet i d ρ = (d ρ).st (setK i) := rfl
theorem ev_setK : setK i x ρ = putK2 (notIo ρ i) i (.val x) ρ := rfl
def newK (i : Nat) (m : Mo) (ρ : Rho) : RS := putK2 (notIo ρ i) i (.own m true) ρ
theorem ev_sNew {f : Fn} : sNew i f ρ = (f ρ).st (newK i) := rfl
theorem ev_newK : newK i m ρ = putK2 (notIo ρ i) i (.own m true) ρ := rfl
def retK (x : D) (ρ : Rho) : RS := .ret x ρ
theorem ev_sRet : sRet d ρ = (d ρ).st retK := rfl
theorem ev_retK : retK x ρ = .ret x ρ := rfl
theorem ev_sRetN : sRetN ρ = .ret .none ρ := rfl
def retFK (m : Mo) (ρ : Rho) : RS := .new m ρ
theorem ev_sRetF {f : Fn} : sRetF f ρ = (f ρ).st retFK := rfl
theorem ev_retFK : retFK m ρ = .new m ρ := rfl
def exprK (_ : D) (ρ : Rho) : RS := .next ρ
theorem ev_sExpr : sExpr d ρ = (d ρ).st exprK := rfl
theorem ev_exprK : exprK x ρ = .next ρ := rfl
def forK (bd : Bd) (body : Sn) (l : List D) (ρ : Rho) : RS := forV bd body l ρ
theorem ev_sFor {src : In} {bd : Bd} : sFor src bd s ρ = (src ρ).st (forK bd s) := rfl
theorem ev_forK {bd : Bd} : forK bd s l ρ = forV bd s l ρ := rfl
theorem ev_for0 {bd : Bd} : forV bd s [] ρ = .next ρ := rfl
def iseqK (x : D) (ρ : Rho) : RE (List D) := ans (items x) ρ
theorem ev_iSeq : iSeq d ρ = (d ρ).bind iseqK := rfl
theorem ev_iseqK : iseqK x ρ = ans (items x) ρ := rfl
theorem ev_items1 : items (.list l) = some l := rfl
theorem ev_items2 : items (.tuple l) = some l := rfl
def ionK (f : List D → Option (List D)) (hs : List Hd) (ρ : Rho) : RE (List D) := ans ((looks ρ hs).bind f) ρ
theorem ev_iOn {f : List D → Option (List D)} : iOn f as ρ = (as ρ).bind (ionK f) := rfl
theorem ev_ionK {f : List D → Option (List D)} {hs : List Hd} : ionK f hs ρ = ans ((looks ρ hs).bind f) ρ := rfl
theorem ev_rng1 {j : Int} (h : j < 4611686018427387904) (h2 : -4611686018427387904 ≤ j) : rng1 [.int j] = some (rangeL 0 j) := if_pos ⟨h2, h⟩
theorem ev_rng2 {i j : Int} (h : j < 4611686018427387904) (h2 : -4611686018427387904 ≤ j) (h3 : i < 4611686018427387904) (h4 : -4611686018427387904 ≤ i) : rng2 [.int i, .int j] = some (rangeL i j) := if_pos ⟨h4, h3, h2, h⟩
theorem ev_bN : bN i x ρ = if notIo ρ i = true then some (ρ.set i (.val x)) else none := rfl
-- lists of this frame
def stxK {α : Type} (o : Option α) (f : α → RS) : RS := st' o f
def ownK : Option LV → Option (List D × Bool)
  | some (.own (.lst l) b) => some (l, b)
  | _ => none
theorem ev_ownL : ownL ρ i = ownK (ρ[i]?) := by
  unfold ownL ownK
  cases ρ[i]? with
  | none => rfl
  | some l => cases l with
    | un => rfl
    | val _ => rfl
    | own m b => cases m <;> rfl
theorem ev_ownK {k : Bool} : ownK (some (.own (.lst l) k)) = some (l, k) := rfl
theorem ev_st' {a : α} {f : α → RS} : st' (some a) f = f a := rfl
def sixK3 (i : Nat) (x y : D) (ρ : Rho) : Option (List D × Bool) → RS
  | some (l, b) => match y with
    | .int z => st' (ixN l.length z) fun j => .next (ρ.set i (.own (.lst (l.set j x)) b))
    | _ => .no
  | none => .no
def sixK2 (i : Nat) (x y : D) (ρ : Rho) : RS := sixK3 i x y ρ (ownL ρ i)
def sixK1 (i : Nat) (k : Dn) (x : D) (ρ : Rho) : RS := st' (ownL ρ i) fun _ => (k ρ).st (sixK2 i x)
theorem ev_sSetIx : sSetIx i d e ρ = (e ρ).st (sixK1 i d) := by
  unfold sSetIx sixK1
  first | refine bind_ext fun x ρ1 => ?_ | refine st_ext fun x ρ1 => ?_
  refine st'_ext fun _ => ?_
  first | refine bind_ext fun y ρ2 => ?_ | refine st_ext fun y ρ2 => ?_
  unfold sixK2 sixK3
  cases ownL ρ2 i with
  | none => rfl
  | some p => rfl
theorem ev_sixK1 : sixK1 i d x ρ = st' (ownL ρ i) fun _ => (d ρ).st (sixK2 i x) := rfl
theorem ev_sixK2 : sixK2 i x y ρ = sixK3 i x y ρ (ownL ρ i) := rfl
theorem ev_sixK3 {k : Bool} {z : Int} : sixK3 i x (.int z) ρ (some (l, k)) = st' (ixN l.length z) fun j => .next (ρ.set i (.own (.lst (l.set j x)) k)) := rfl
theorem ev_ixN50 : ixN 5 0 = some 0 := rfl
theorem ev_ixN51 : ixN 5 1 = some 1 := rfl
theorem ev_ixN52 : ixN 5 2 = some 2 := rfl
theorem ev_ixN53 : ixN 5 3 = some 3 := rfl
theorem ev_ixN54 : ixN 5 4 = some 4 := rfl
theorem ixN_nat {n m : Nat} (h : m < n) : ixN n (m : Int) = some m := by unfold ixN; simp [h]
def appK2 (i : Nat) (x : D) (ρ : Rho) : Option (List D × Bool) → RS
  | some (l, b) => if l.length < sizeLine then .next (ρ.set i (.own (.lst (l ++ [x])) b)) else .no
  | none => .no
def appK1 (i : Nat) (x : D) (ρ : Rho) : RS := appK2 i x ρ (ownL ρ i)
theorem ev_sApp : sApp i d ρ = st' (ownL ρ i) fun _ => (d ρ).st (appK1 i) := by
  unfold sApp
  refine st'_ext fun _ => ?_
  first | refine bind_ext fun x ρ1 => ?_ | refine st_ext fun x ρ1 => ?_
  unfold appK1 appK2
  cases ownL ρ1 i with
  | none => rfl
  | some p => rfl
theorem ev_appK1 : appK1 i x ρ = appK2 i x ρ (ownL ρ i) := rfl
theorem ev_appK2 {k : Bool} (h : l.length < 16000000) : appK2 i x ρ (some (l, k)) = .next (ρ.set i (.own (.lst (l ++ [x])) k)) := if_pos (Nat.lt_trans h (by decide))
-- several names
def asgR : Option Rho → RS
  | some ρ => .next ρ
  | none => .no
def asgK (bd : Bd) (x : D) (ρ : Rho) : RS := asgR (bd x ρ)
theorem ev_sAsg {bd : Bd} : sAsg bd d ρ = (d ρ).st (asgK bd) := by
  unfold sAsg
  first | refine bind_ext fun x ρ1 => ?_ | refine st_ext fun x ρ1 => ?_
  unfold asgK asgR
  cases bd x ρ1 <;> rfl
theorem ev_asgK {bd : Bd} : asgK bd x ρ = asgR (bd x ρ) := rfl
theorem ev_asgR : asgR (some ρ) = .next ρ := rfl
theorem ev_bT {is : List Nat} {ds : List D} : bT is (.tuple ds) ρ = bindAll is ds ρ := rfl
theorem ev_ba0 : bindAll [] [] ρ = some ρ := rfl
def baK (is : List Nat) (ds : List D) (i : Nat) (x : D) (ρ : Rho) : Bool → Option Rho
  | true => bindAll is ds (ρ.set i (.val x))
  | false => none
theorem ev_ba1 {is : List Nat} {ds : List D} : bindAll (i :: is) (x :: ds) ρ = baK is ds i x ρ (notIo ρ i) := by
  show (if notIo ρ i = true then bindAll is ds (ρ.set i (.val x)) else none) = _
  cases notIo ρ i <;> rfl
theorem ev_baK {is : List Nat} {ds : List D} : baK is ds i x ρ true = bindAll is ds (ρ.set i (.val x)) := rfl
-- chains
def chK4 (p : D → D → Option D) (k m : Hd) (ρ : Rho) : RE D := ans (ap2 p (look ρ k) (look ρ m)) ρ
def chK3 (p : D → D → Option D) (c : An) (k : Hd) : D → Rho → RE D
  | .bool true, ρ => (c ρ).bind (chK4 p k)
  | .bool false, ρ => .ok (.bool false) ρ
  | _, _ => .no
def chK2 (p p' : D → D → Option D) (c : An) (h k : Hd) (ρ : Rho) : RE D := (ans (ap2 p (look ρ h) (look ρ k)) ρ).bind (chK3 p' c k)
def chK1 (p p' : D → D → Option D) (b c : An) (h : Hd) (ρ : Rho) : RE D := (b ρ).bind (chK2 p p' c h)
theorem ap2_eq {p : D → D → Option D} {o o' : Option D} : (o.bind fun d => o'.bind fun e => p d e) = ap2 p o o' := by
  cases o with
  | none => rfl
  | some d => cases o' <;> rfl
theorem ev_dChain {p p' : D → D → Option D} : dChain p p' a b c ρ = (a ρ).bind (chK1 p p' b c) := by
  unfold dChain
  first | refine bind_ext fun h ρ1 => ?_ | refine st_ext fun h ρ1 => ?_
  unfold chK1
  first | refine bind_ext fun k ρ2 => ?_ | refine st_ext fun k ρ2 => ?_
  unfold chK2
  rw [ap2_eq]
  first | refine bind_ext fun z ρ3 => ?_ | refine st_ext fun z ρ3 => ?_
  unfold chK3
  cases z with
  | bool z =>
    cases z with
    | false => rfl
    | true =>
      simp only
      first | refine bind_ext fun m ρ4 => ?_ | refine st_ext fun m ρ4 => ?_
      unfold chK4
      rw [ap2_eq]
  | none => rfl
  | int _ => rfl
  | str _ => rfl
  | list _ => rfl
  | tuple _ => rfl
  | dict _ => rfl
theorem ev_chK1 {p p' : D → D → Option D} {h : Hd} : chK1 p p' b c h ρ = (b ρ).bind (chK2 p p' c h) := rfl
theorem ev_chK2 {p p' : D → D → Option D} {h k : Hd} : chK2 p p' c h k ρ = (ans (ap2 p (look ρ h) (look ρ k)) ρ).bind (chK3 p' c k) := rfl
theorem ev_chT {p : D → D → Option D} {k : Hd} : chK3 p c k (.bool true) ρ = (c ρ).bind (chK4 p k) := rfl
theorem ev_chF {p : D → D → Option D} {k : Hd} : chK3 p c k (.bool false) ρ = .ok (.bool false) ρ := rfl
theorem ev_chK4 {p : D → D → Option D} {k m : Hd} : chK4 p k m ρ = ans (ap2 p (look ρ k) (look ρ m)) ρ := rfl
-- extend, return of an own name, slices that are new
def extK2 (i : Nat) (x : D) (ρ : Rho) : Option (List D × Bool) → RS
  | some (l, b) => match x with
    | .list m => if l.length + m.length ≤ sizeLine then .next (ρ.set i (.own (.lst (l ++ m)) b)) else .no
    | _ => .no
  | none => .no
def extK1 (i : Nat) (x : D) (ρ : Rho) : RS := extK2 i x ρ (ownL ρ i)
theorem ev_sExt : sExt i d ρ = st' (ownL ρ i) fun _ => (d ρ).st (extK1 i) := by
  unfold sExt
  refine st'_ext fun _ => ?_
  first | refine bind_ext fun x ρ1 => ?_ | refine st_ext fun x ρ1 => ?_
  unfold extK1 extK2
  cases ownL ρ1 i with
  | none => rfl
  | some p => rfl
theorem ev_extK1 : extK1 i x ρ = extK2 i x ρ (ownL ρ i) := rfl
theorem ev_extK2 {k : Bool} {m : List D} (h : l.length + m.length ≤ 16000000) : extK2 i (.list m) ρ (some (l, k)) = .next (ρ.set i (.own (.lst (l ++ m)) k)) := if_pos (Nat.le_trans h (by decide))
def retMK (i : Nat) (ρ : Rho) : Option LV → RS
  | some (.own m true) => .new m (ρ.set i .un)
  | some (.val d) => .ret d ρ
  | _ => .no
theorem ev_sRetM : sRetM i ρ = retMK i ρ (ρ[i]?) := by
  unfold sRetM retMK
  cases ρ[i]? with
  | none => rfl
  | some l => cases l with
    | un => rfl
    | val _ => rfl
    | own _ b => cases b <;> rfl
theorem ev_retM1 : retMK i ρ (some (.own m true)) = .new m (ρ.set i .un) := rfl
theorem ev_retM2 : retMK i ρ (some (.val x)) = .ret x ρ := rfl
-- calls
def callR : RC → List LV → List Hd → Rho → RE D
  | .ok d outs, ins, hs, ρ => match (setOuts ins outs).bind fun l => putBack hs l ρ with
    | some ρ2 => .ok d ρ2
    | none => .no
  | .new m outs, ins, hs, ρ => match (setOuts ins outs).bind fun l => putBack hs l ρ with
    | some ρ2 => .ok m.toD ρ2
    | none => .no
  | .ex x outs, ins, hs, ρ => match (setOuts ins outs).bind fun l => putBack hs l ρ with
    | some ρ2 => .ex x ρ2
    | none => .no
  | .no, _, _, _ => .no
def callI (g : Cn) (hs : List Hd) (ρ : Rho) : Option (List LV) → RE D
  | some ins => callR (g ins) ins hs ρ
  | none => .no
def callK (g : Cn) (hs : List Hd) (ρ : Rho) : RE D := callI g hs ρ (if apartB hs = true then mkIns ρ hs else none)
theorem ev_dCall {g : Cn} : dCall g as ρ = (as ρ).bind (callK g) := by
  unfold dCall
  first | refine bind_ext fun hs ρ1 => ?_ | refine st_ext fun hs ρ1 => ?_
  unfold callK
  cases (if apartB hs = true then mkIns ρ1 hs else none) with
  | none => rfl
  | some ins =>
    show (match g ins with | .no => RE.no | .ok d outs => _ | .new m outs => _ | .ex x outs => _) = callR (g ins) ins hs ρ1
    cases g ins <;> rfl
theorem ev_callK {g : Cn} {hs : List Hd} : callK g hs ρ = callI g hs ρ (if apartB hs = true then mkIns ρ hs else none) := rfl
theorem ev_callI {g : Cn} {hs : List Hd} {ins : List LV} : callI g hs ρ (some ins) = callR (g ins) ins hs ρ := rfl
theorem ev_callR {hs : List Hd} {ins l2 : List LV} {outs : List Mo} {ρ2 : Rho} (h : setOuts ins outs = some l2) (h2 : putBack hs l2 ρ = some ρ2) : callR (.ok x outs) ins hs ρ = .ok x ρ2 := by
  show (match (setOuts ins outs).bind fun l => putBack hs l ρ with | some ρ2 => RE.ok x ρ2 | none => .no) = _
  rw [h]; show (match putBack hs l2 ρ with | some ρ2 => RE.ok x ρ2 | none => .no) = _
  rw [h2]
def backR (x : D) : Option Rho → RE D
  | some ρ => .ok x ρ
  | none => .no
theorem ev_callOk {hs : List Hd} {ins : List LV} {outs : List Mo} : callR (.ok x outs) ins hs ρ = backR x ((setOuts ins outs).bind fun l => putBack hs l ρ) := by
  show (match (setOuts ins outs).bind fun l => putBack hs l ρ with | some ρ2 => RE.ok x ρ2 | none => .no) = _
  cases (setOuts ins outs).bind fun l => putBack hs l ρ <;> rfl
theorem ev_callNew {hs : List Hd} {ins : List LV} {outs : List Mo} : callR (.new m outs) ins hs ρ = backR m.toD ((setOuts ins outs).bind fun l => putBack hs l ρ) := by
  show (match (setOuts ins outs).bind fun l => putBack hs l ρ with | some ρ2 => RE.ok m.toD ρ2 | none => .no) = _
  cases (setOuts ins outs).bind fun l => putBack hs l ρ <;> rfl
theorem ev_backR : backR x (some ρ) = .ok x ρ := rfl
def fcallR : RC → List LV → List Hd → Rho → RE Mo
  | .new m outs, ins, hs, ρ => match (setOuts ins outs).bind fun l => putBack hs l ρ with
    | some ρ2 => .ok m ρ2
    | none => .no
  | .ex x outs, ins, hs, ρ => match (setOuts ins outs).bind fun l => putBack hs l ρ with
    | some ρ2 => .ex x ρ2
    | none => .no
  | _, _, _, _ => .no
def fcallI (g : Cn) (hs : List Hd) (ρ : Rho) : Option (List LV) → RE Mo
  | some ins => fcallR (g ins) ins hs ρ
  | none => .no
def fcallK (g : Cn) (hs : List Hd) (ρ : Rho) : RE Mo := fcallI g hs ρ (if apartB hs = true then mkIns ρ hs else none)
theorem ev_fCall {g : Cn} : fCall g as ρ = (as ρ).bind (fcallK g) := by
  unfold fCall
  first | refine bind_ext fun hs ρ1 => ?_ | refine st_ext fun hs ρ1 => ?_
  unfold fcallK
  cases (if apartB hs = true then mkIns ρ1 hs else none) with
  | none => rfl
  | some ins =>
    show (match g ins with | .no => RE.no | .ok d outs => _ | .new m outs => _ | .ex x outs => _) = fcallR (g ins) ins hs ρ1
    cases g ins <;> rfl
theorem ev_fcallK {g : Cn} {hs : List Hd} : fcallK g hs ρ = fcallI g hs ρ (if apartB hs = true then mkIns ρ hs else none) := rfl
theorem ev_fcallI {g : Cn} {hs : List Hd} {ins : List LV} : fcallI g hs ρ (some ins) = fcallR (g ins) ins hs ρ := rfl
def fbackR (m : Mo) : Option Rho → RE Mo
  | some ρ => .ok m ρ
  | none => .no
theorem ev_fcallNew {hs : List Hd} {ins : List LV} {outs : List Mo} : fcallR (.new m outs) ins hs ρ = fbackR m ((setOuts ins outs).bind fun l => putBack hs l ρ) := by
  show (match (setOuts ins outs).bind fun l => putBack hs l ρ with | some ρ2 => RE.ok m ρ2 | none => .no) = _
  cases (setOuts ins outs).bind fun l => putBack hs l ρ <;> rfl
theorem ev_fbackR : fbackR m (some ρ) = .ok m ρ := rfl
theorem ev_apart0 : apartB [] = true := rfl
theorem ev_apart1 {hs : List Hd} : apartB (.v x :: hs) = apartB hs := rfl
theorem ev_apart2 {hs : List Hd} : apartB (.s i :: hs) = (noS i hs && apartB hs) := rfl
theorem ev_noS0 : noS i [] = true := rfl
theorem ev_noS1 {hs : List Hd} : noS i (.v x :: hs) = noS i hs := rfl
theorem ev_noS2 {hs : List Hd} : noS i (.s j :: hs) = (i != j && noS i hs) := rfl
def consO (x : LV) : Option (List LV) → Option (List LV)
  | some l => some (x :: l)
  | none => none
theorem ev_consO {l : List LV} {x : LV} : consO x (some l) = some (x :: l) := rfl
def insK : Option LV → Option (List LV) → Option (List LV)
  | some (.own m _), o => consO (.own m false) o
  | _, _ => none
theorem ev_insK {k : Bool} {o : Option (List LV)} : insK (some (.own m k)) o = consO (.own m false) o := rfl
theorem ev_mkIns0 : mkIns ρ [] = some [] := rfl
theorem ev_mkIns1 {hs : List Hd} : mkIns ρ (.v x :: hs) = consO (.val x) (mkIns ρ hs) := by
  show (match mkIns ρ hs with | some l => some (LV.val x :: l) | none => none) = _
  cases mkIns ρ hs <;> rfl
theorem ev_mkIns2 {hs : List Hd} : mkIns ρ (.s i :: hs) = insK (ρ[i]?) (mkIns ρ hs) := by
  show (match ρ[i]? with | some (.own m _) => (match mkIns ρ hs with | some l => some (LV.own m false :: l) | none => none) | _ => none) = _
  cases ρ[i]? with
  | none => rfl
  | some q => cases q with
    | un => rfl
    | val _ => rfl
    | own m b => show _ = consO _ _; cases mkIns ρ hs <;> rfl
theorem ev_so0 : setOuts [] [] = some [] := rfl
theorem ev_so1 {r : List LV} {ms : List Mo} : setOuts (.val x :: r) ms = consO (.val x) (setOuts r ms) := by
  have : setOuts (.val x :: r) ms = (match setOuts r ms with | some l => some (LV.val x :: l) | none => none) := by cases ms <;> rfl
  rw [this]; cases setOuts r ms <;> rfl
theorem ev_so2 {r : List LV} {m' : Mo} {ms : List Mo} {k : Bool} : setOuts (.own m' k :: r) (m :: ms) = consO (.own m k) (setOuts r ms) := by
  have : setOuts (.own m' k :: r) (m :: ms) = (match setOuts r ms with | some l => some (LV.own m k :: l) | none => none) := rfl
  rw [this]; cases setOuts r ms <;> rfl
theorem ev_pb0 : putBack [] [] ρ = some ρ := rfl
theorem ev_pb1 {hs : List Hd} {w : LV} {q : List LV} : putBack (.v x :: hs) (w :: q) ρ = putBack hs q ρ := by cases w <;> rfl
def pbK (m : Mo) (i : Nat) (hs : List Hd) (q : List LV) (ρ : Rho) : Option LV → Option Rho
  | some (.own _ k) => putBack hs q (ρ.set i (.own m k))
  | _ => none
theorem ev_pb2 {hs : List Hd} {k : Bool} {q : List LV} : putBack (.s i :: hs) (.own m k :: q) ρ = pbK m i hs q ρ (ρ[i]?) := by
  show (match ρ[i]? with | some (.own _ k) => putBack hs q (ρ.set i (.own m k)) | _ => none) = _
  cases ρ[i]? with
  | none => rfl
  | some q => cases q <;> rfl
theorem ev_pbK {hs : List Hd} {k : Bool} {q : List LV} {m' : Mo} : pbK m i hs q ρ (some (.own m' k)) = putBack hs q (ρ.set i (.own m k)) := rfl
-- defs
def outK (f : List Mo → RC) : Option (List Mo) → RC
  | some l => f l
  | none => .no
theorem ev_outK {f : List Mo → RC} {l : List Mo} : outK f (some l) = f l := rfl
def appR (ins : List LV) : RS → RC
  | .ret d ρ => outK (.ok d) (outsOf ins ρ)
  | .new m ρ => outK (.new m) (outsOf ins ρ)
  | .next ρ => outK (.ok .none) (outsOf ins ρ)
  | .ex x ρ => outK (.ex x) (outsOf ins ρ)
  | _ => .no
def unL : Nat → List LV
  | 0 => []
  | n + 1 => .un :: unL n
theorem unL_eq : ∀ n, List.replicate n LV.un = unL n
  | 0 => rfl
  | n + 1 => by unfold unL; rw [List.replicate_succ, unL_eq n]
theorem ev_unL0 : unL 0 = [] := rfl
theorem ev_unLs {n : Nat} : unL (n + 1) = .un :: unL n := rfl
def fnA (n N : Nat) (s : Sn) (ins : List LV) : Bool → RC
  | true => appR ins (s (ins ++ unL (N - n)))
  | false => .no
theorem fn_at {n N : Nat} {ins : List LV} (h : ins.length = n) : fn n N s ins = fnA n N s ins (insOk ins) := by
  unfold fn
  cases hi : insOk ins with
  | false => rw [if_neg (by simp)]; rfl
  | true =>
    rw [if_pos ⟨h, rfl⟩]
    unfold app fnA
    simp only
    have e : ins ++ List.replicate (N - ins.length) LV.un = ins ++ unL (N - n) := by rw [unL_eq, h]
    generalize ins ++ List.replicate (N - ins.length) LV.un = u at e ⊢
    subst e
    generalize s (ins ++ unL (N - n)) = w
    cases w with
    | ret d ρ => show (match outsOf ins ρ with | some l => RC.ok d l | none => .no) = outK (.ok d) (outsOf ins ρ); cases outsOf ins ρ <;> rfl
    | new d ρ => show (match outsOf ins ρ with | some l => RC.new d l | none => .no) = outK (.new d) (outsOf ins ρ); cases outsOf ins ρ <;> rfl
    | next ρ => show (match outsOf ins ρ with | some l => RC.ok .none l | none => .no) = outK (.ok .none) (outsOf ins ρ); cases outsOf ins ρ <;> rfl
    | ex x ρ => show (match outsOf ins ρ with | some l => RC.ex x l | none => .no) = outK (.ex x) (outsOf ins ρ); cases outsOf ins ρ <;> rfl
    | brk ρ => rfl
    | cnt ρ => rfl
    | no => rfl
theorem ev_fn0 {N : Nat} : fn 0 N s [] = fnA 0 N s [] (insOk []) := fn_at rfl
theorem ev_fnA0 {N : Nat} : fnA 0 N s [] true = appR [] (s (unL (N - 0))) := rfl
theorem ev_fn1 {N : Nat} {a0 : LV} : fn 1 N s [a0] = fnA 1 N s [a0] (insOk [a0]) := fn_at rfl
theorem ev_fnA1 {N : Nat} {a0 : LV} : fnA 1 N s [a0] true = appR [a0] (s (a0 :: unL (N - 1))) := rfl
theorem ev_fn2 {N : Nat} {a0 a1 : LV} : fn 2 N s [a0, a1] = fnA 2 N s [a0, a1] (insOk [a0, a1]) := fn_at rfl
theorem ev_fnA2 {N : Nat} {a0 a1 : LV} : fnA 2 N s [a0, a1] true = appR [a0, a1] (s (a0 :: a1 :: unL (N - 2))) := rfl
theorem ev_fn3 {N : Nat} {a0 a1 a2 : LV} : fn 3 N s [a0, a1, a2] = fnA 3 N s [a0, a1, a2] (insOk [a0, a1, a2]) := fn_at rfl
theorem ev_fnA3 {N : Nat} {a0 a1 a2 : LV} : fnA 3 N s [a0, a1, a2] true = appR [a0, a1, a2] (s (a0 :: a1 :: a2 :: unL (N - 3))) := rfl
theorem ev_fn4 {N : Nat} {a0 a1 a2 a3 : LV} : fn 4 N s [a0, a1, a2, a3] = fnA 4 N s [a0, a1, a2, a3] (insOk [a0, a1, a2, a3]) := fn_at rfl
theorem ev_fnA4 {N : Nat} {a0 a1 a2 a3 : LV} : fnA 4 N s [a0, a1, a2, a3] true = appR [a0, a1, a2, a3] (s (a0 :: a1 :: a2 :: a3 :: unL (N - 4))) := rfl
theorem ev_fn5 {N : Nat} {a0 a1 a2 a3 a4 : LV} : fn 5 N s [a0, a1, a2, a3, a4] = fnA 5 N s [a0, a1, a2, a3, a4] (insOk [a0, a1, a2, a3, a4]) := fn_at rfl
theorem ev_fnA5 {N : Nat} {a0 a1 a2 a3 a4 : LV} : fnA 5 N s [a0, a1, a2, a3, a4] true = appR [a0, a1, a2, a3, a4] (s (a0 :: a1 :: a2 :: a3 :: a4 :: unL (N - 5))) := rfl
theorem ev_fn6 {N : Nat} {a0 a1 a2 a3 a4 a5 : LV} : fn 6 N s [a0, a1, a2, a3, a4, a5] = fnA 6 N s [a0, a1, a2, a3, a4, a5] (insOk [a0, a1, a2, a3, a4, a5]) := fn_at rfl
theorem ev_fnA6 {N : Nat} {a0 a1 a2 a3 a4 a5 : LV} : fnA 6 N s [a0, a1, a2, a3, a4, a5] true = appR [a0, a1, a2, a3, a4, a5] (s (a0 :: a1 :: a2 :: a3 :: a4 :: a5 :: unL (N - 6))) := rfl
theorem ev_fn7 {N : Nat} {a0 a1 a2 a3 a4 a5 a6 : LV} : fn 7 N s [a0, a1, a2, a3, a4, a5, a6] = fnA 7 N s [a0, a1, a2, a3, a4, a5, a6] (insOk [a0, a1, a2, a3, a4, a5, a6]) := fn_at rfl
theorem ev_fnA7 {N : Nat} {a0 a1 a2 a3 a4 a5 a6 : LV} : fnA 7 N s [a0, a1, a2, a3, a4, a5, a6] true = appR [a0, a1, a2, a3, a4, a5, a6] (s (a0 :: a1 :: a2 :: a3 :: a4 :: a5 :: a6 :: unL (N - 7))) := rfl
theorem ev_fn8 {N : Nat} {a0 a1 a2 a3 a4 a5 a6 a7 : LV} : fn 8 N s [a0, a1, a2, a3, a4, a5, a6, a7] = fnA 8 N s [a0, a1, a2, a3, a4, a5, a6, a7] (insOk [a0, a1, a2, a3, a4, a5, a6, a7]) := fn_at rfl
theorem ev_fnA8 {N : Nat} {a0 a1 a2 a3 a4 a5 a6 a7 : LV} : fnA 8 N s [a0, a1, a2, a3, a4, a5, a6, a7] true = appR [a0, a1, a2, a3, a4, a5, a6, a7] (s (a0 :: a1 :: a2 :: a3 :: a4 :: a5 :: a6 :: a7 :: unL (N - 8))) := rfl
theorem ev_appR {ins : List LV} : appR ins (.ret x ρ) = outK (.ok x) (outsOf ins ρ) := rfl
theorem ev_appNew {ins : List LV} : appR ins (.new m ρ) = outK (.new m) (outsOf ins ρ) := rfl
theorem ev_appN {ins : List LV} : appR ins (.next ρ) = outK (.ok .none) (outsOf ins ρ) := rfl
theorem ev_io0 : insOk [] = true := rfl
theorem ev_io1 {r : List LV} : insOk (.val x :: r) = insOk r := rfl
theorem ev_io2 {r : List LV} : insOk (.own m false :: r) = insOk r := rfl
theorem ev_oo0 : outsOf [] ρ = some [] := by cases ρ <;> rfl
theorem ev_oo1 {r : List LV} {w : LV} {q : Rho} : outsOf (.val x :: r) (w :: q) = outsOf r q := by cases w <;> rfl
def consM (m : Mo) : Option (List Mo) → Option (List Mo)
  | some l => some (m :: l)
  | none => none
theorem ev_consM {l : List Mo} : consM m (some l) = some (m :: l) := rfl
theorem ev_oo2 {r : List LV} {m' : Mo} {k k2 : Bool} {q : Rho} : outsOf (.own m' k :: r) (.own m k2 :: q) = consM m (outsOf r q) := by
  show (match outsOf r q with | some l => some (m :: l) | none => none) = _
  cases outsOf r q <;> rfl
theorem ev_g0 {x : LV} {l : List LV} : (x :: l)[0]? = some x := rfl
theorem ev_gs {x : LV} {l : List LV} {n : Nat} : (x :: l)[n + 1]? = l[n]? := rfl
theorem ev_s0 {α : Type} {x y : α} {l : List α} : (x :: l).set 0 y = y :: l := rfl
theorem ev_ss {α : Type} {x y : α} {l : List α} {n : Nat} : (x :: l).set (n + 1) y = x :: l.set n y := rfl
theorem ev_isInt_none : PyData.isInt (.none) = false := rfl
theorem ev_isInt_bool {b : Bool} : PyData.isInt (.bool b) = true := rfl
theorem ev_isInt_int {i : Int} : PyData.isInt (.int i) = true := rfl
theorem ev_isInt_str {c : Str} : PyData.isInt (.str c) = false := rfl
theorem ev_isInt_list {l : List D} : PyData.isInt (.list l) = false := rfl
theorem ev_isInt_tuple {l : List D} : PyData.isInt (.tuple l) = false := rfl
theorem ev_isInt_dict {k : List (D × D)} : PyData.isInt (.dict k) = false := rfl
theorem ev_isBool_none : PyData.isBool (.none) = false := rfl
theorem ev_isBool_bool {b : Bool} : PyData.isBool (.bool b) = true := rfl
theorem ev_isBool_int {i : Int} : PyData.isBool (.int i) = false := rfl
theorem ev_isBool_str {c : Str} : PyData.isBool (.str c) = false := rfl
theorem ev_isBool_list {l : List D} : PyData.isBool (.list l) = false := rfl
theorem ev_isBool_tuple {l : List D} : PyData.isBool (.tuple l) = false := rfl
theorem ev_isBool_dict {k : List (D × D)} : PyData.isBool (.dict k) = false := rfl
theorem ev_isStr_none : PyData.isStr (.none) = false := rfl
theorem ev_isStr_bool {b : Bool} : PyData.isStr (.bool b) = false := rfl
theorem ev_isStr_int {i : Int} : PyData.isStr (.int i) = false := rfl
theorem ev_isStr_str {c : Str} : PyData.isStr (.str c) = true := rfl
theorem ev_isStr_list {l : List D} : PyData.isStr (.list l) = false := rfl
theorem ev_isStr_tuple {l : List D} : PyData.isStr (.tuple l) = false := rfl
theorem ev_isStr_dict {k : List (D × D)} : PyData.isStr (.dict k) = false := rfl
theorem ev_isTuple_none : PyData.isTuple (.none) = false := rfl
theorem ev_isTuple_bool {b : Bool} : PyData.isTuple (.bool b) = false := rfl
theorem ev_isTuple_int {i : Int} : PyData.isTuple (.int i) = false := rfl
theorem ev_isTuple_str {c : Str} : PyData.isTuple (.str c) = false := rfl
theorem ev_isTuple_list {l : List D} : PyData.isTuple (.list l) = false := rfl
theorem ev_isTuple_tuple {l : List D} : PyData.isTuple (.tuple l) = true := rfl
theorem ev_isTuple_dict {k : List (D × D)} : PyData.isTuple (.dict k) = false := rfl
theorem ev_isList_none : PyData.isList (.none) = false := rfl
theorem ev_isList_bool {b : Bool} : PyData.isList (.bool b) = false := rfl
theorem ev_isList_int {i : Int} : PyData.isList (.int i) = false := rfl
theorem ev_isList_str {c : Str} : PyData.isList (.str c) = false := rfl
theorem ev_isList_list {l : List D} : PyData.isList (.list l) = true := rfl
theorem ev_isList_tuple {l : List D} : PyData.isList (.tuple l) = false := rfl
theorem ev_isList_dict {k : List (D × D)} : PyData.isList (.dict k) = false := rfl
theorem ev_isDict_none : PyData.isDict (.none) = false := rfl
theorem ev_isDict_bool {b : Bool} : PyData.isDict (.bool b) = false := rfl
theorem ev_isDict_int {i : Int} : PyData.isDict (.int i) = false := rfl
theorem ev_isDict_str {c : Str} : PyData.isDict (.str c) = false := rfl
theorem ev_isDict_list {l : List D} : PyData.isDict (.list l) = false := rfl
theorem ev_isDict_tuple {l : List D} : PyData.isDict (.tuple l) = false := rfl
theorem ev_isDict_dict {k : List (D × D)} : PyData.isDict (.dict k) = true := rfl
theorem ev_isNone_none : isNone (.none) = true := rfl
theorem ev_isNone_bool {b : Bool} : isNone (.bool b) = false := rfl
theorem ev_isNone_int {i : Int} : isNone (.int i) = false := rfl
theorem ev_isNone_str {c : Str} : isNone (.str c) = false := rfl
theorem ev_isNone_list {l : List D} : isNone (.list l) = false := rfl
theorem ev_isNone_tuple {l : List D} : isNone (.tuple l) = false := rfl
theorem ev_isNone_dict {k : List (D × D)} : isNone (.dict k) = false := rfl
theorem ev_eqs {i j : Str} : toB eqB (.str i) (.str j) = some (.bool (decide (i = j))) := rfl
theorem ev_nes {i j : Str} : toB neB (.str i) (.str j) = some (.bool (!decide (i = j))) := rfl
theorem ev_beq {b : Bool} : (b == b) = true := by cases b <;> rfl
theorem ev_bne {b : Bool} : (b != b) = false := by cases b <;> rfl
-- comprehensions
def compR (ρ : Rho) (vs : List Nat) : RE (List D) → RE Mo
  | .ok r ρ2 => .ok (.lst r) (restore ρ ρ2 vs)
  | _ => .no
def compK (bd : Bd) (ifs : Tn) (elt : Dn) (vs : List Nat) (l : List D) (ρ : Rho) : RE Mo := compR ρ vs (compL bd ifs elt vs l [] (wipeR ρ vs))
theorem ev_fComp {src : In} {bd : Bd} {vs : List Nat} : fComp src bd t d vs ρ = (src ρ).bind (compK bd t d vs) := rfl
theorem ev_compK {bd : Bd} {vs : List Nat} : compK bd t d vs l ρ = compR ρ vs (compL bd t d vs l [] (wipeR ρ vs)) := rfl
theorem ev_compR {vs : List Nat} : compR ρ vs (.ok l ρ1) = .ok (.lst l) (restore ρ ρ1 vs) := rfl
theorem ev_wipe0 : wipeR ρ [] = ρ := rfl
theorem ev_wipe1 {vs : List Nat} : wipeR ρ (i :: vs) = (wipeR ρ vs).set i .un := rfl
def restK : Option LV → Nat → Rho → Rho
  | some x, v, ρ => ρ.set v x
  | none, _, ρ => ρ
theorem ev_rest0 : restore ρ ρ1 [] = ρ1 := rfl
theorem ev_rest1 {vs : List Nat} : restore ρ ρ1 (i :: vs) = restK (ρ[i]?) i (restore ρ ρ1 vs) := by
  unfold restK
  show (match ρ[i]? with | some x => (restore ρ ρ1 vs).set i x | none => restore ρ ρ1 vs) = _
  cases ρ[i]? <;> rfl
theorem ev_restK {w : LV} : restK (some w) i ρ = ρ.set i w := rfl
theorem ev_cast {n : Nat} : ((no_index (OfNat.ofNat n) : Nat) : Int) = (OfNat.ofNat n : Int) := rfl
theorem ev_decT {h : Decidable True} : @decide True h = true := by cases h with | isTrue _ => rfl | isFalse z => exact absurd trivial z
theorem ev_decF {h : Decidable False} : @decide False h = false := by cases h with | isFalse _ => rfl | isTrue z => exact z.elim
theorem ev_nt : (!true) = false := rfl
theorem ev_nf : (!false) = true := rfl
theorem ev_aT {b : Bool} : (true && b) = b := by cases b <;> rfl
theorem ev_aF {b : Bool} : (false && b) = false := rfl
theorem ev_if1 {α : Type} {x y : α} : (if true = true then x else y) = x := rfl
end
end Ft
/-! Ft12: rules for loops and comprehensions. -/
namespace Ft
open PySem L2
/-- a loop by its invariant -/
def Turn (N : Rho → Prop) (P : RS → Prop) : RS → Prop
  | .next ρ => N ρ
  | .cnt ρ => N ρ
  | .brk ρ => P (.next ρ)
  | .ret x ρ => P (.ret x ρ)
  | .new m ρ => P (.new m ρ)
  | .ex x ρ => P (.ex x ρ)
  | .no => False
theorem for_rule {bd : Bd} {s : Sn} {P : RS → Prop} : ∀ (l : List D) (I : Nat → Rho → Prop) (ρ : Rho), I 0 ρ → (∀ i d ρ, l[i]? = some d → I i ρ → ∃ ρ1, bd d ρ = some ρ1 ∧ Turn (I (i + 1)) P (s ρ1)) → (∀ ρ, I l.length ρ → P (.next ρ)) → P (forV bd s l ρ)
  | [], I, ρ, h0, _, hd => hd ρ h0
  | d :: l, I, ρ, h0, hs, hd => by
    obtain ⟨ρ1, e1, t⟩ := hs 0 d ρ rfl h0
    unfold forV
    rw [e1]
    simp only
    have ih := fun ρ' (h : I 1 ρ') => for_rule (P := P) (bd := bd) (s := s) l (fun i => I (i + 1)) ρ' h (fun i d ρ e hi => hs (i + 1) d ρ (by simpa using e) hi) (fun ρ hi => hd ρ (by simpa using hi))
    revert t
    cases s ρ1 with
    | next ρ2 => exact fun t => ih ρ2 t
    | cnt ρ2 => exact fun t => ih ρ2 t
    | brk ρ2 => exact fun t => t
    | ret x ρ2 => exact fun t => t
    | new x ρ2 => exact fun t => t
    | ex x ρ2 => exact fun t => t
    | no => exact fun t => t.elim
/-- while: an invariant with a number that falls -/
theorem while_rule {c : Tn} {s : Sn} {P : RS → Prop} (I : Nat → Rho → Prop) (hs : ∀ m ρ, I m ρ → ∃ b ρ1, c ρ = .ok b ρ1 ∧ (b = false → P (.next ρ1)) ∧ (b = true → Turn (fun ρ2 => ∃ m', m' < m ∧ I m' ρ2) P (s ρ1))) : ∀ (n m : Nat) (ρ : Rho), m < n → I m ρ → P (whileF c s n ρ)
  | 0, m, ρ, hm, _ => absurd hm (Nat.not_lt_zero _)
  | n + 1, m, ρ, hm, hI => by
    obtain ⟨b, ρ1, e, h1, h2⟩ := hs m ρ hI
    unfold whileF
    rw [e]
    show P (if b = true then _ else _)
    cases b with
    | false => rw [if_neg Bool.false_ne_true]; exact h1 rfl
    | true =>
      rw [if_pos rfl]
      have t := h2 rfl
      have ih := fun ρ' (h : ∃ m', m' < m ∧ I m' ρ') => let ⟨m', h3, h4⟩ := h; while_rule (P := P) (c := c) (s := s) I hs n m' ρ' (by omega) h4
      revert t
      cases s ρ1 with
      | next ρ2 => exact fun t => ih ρ2 t
      | cnt ρ2 => exact fun t => ih ρ2 t
      | brk ρ2 => exact fun t => t
      | ret x ρ2 => exact fun t => t
      | new x ρ2 => exact fun t => t
      | ex x ρ2 => exact fun t => t
      | no => exact fun t => t.elim
theorem rangeL_len {a b : Int} : (rangeL a b).length = (b - a).toNat := by unfold rangeL; simp
theorem rangeL_at {a b : Int} {i : Nat} {d : D} (h : (rangeL a b)[i]? = some d) : d = .int (a + i) ∧ (i : Int) < b - a := by
  unfold rangeL at h
  simp only [List.getElem?_map, Option.map_eq_some_iff] at h
  obtain ⟨j, hj, rfl⟩ := h
  obtain ⟨h1, h2⟩ := List.getElem?_eq_some_iff.mp hj
  simp only [List.length_range] at h1
  simp only [List.getElem_range] at h2
  subst h2
  exact ⟨rfl, by omega⟩
/-! ### comprehensions -/
section
variable {bd : Bd} {ifs : Tn} {elt : Dn} {vs : List Nat}
/-- one that leaves the state as it was -/
theorem comp_pure {p : D → Bool} {f : D → D} : ∀ (l acc : List D) (ρ : Rho), acc.length + l.length ≤ 16777216 →
    (∀ d ∈ l, ∃ ρ1 ρ2, bd d ρ = some ρ1 ∧ ifs ρ1 = .ok (p d) ρ2 ∧ (p d = false → wipeR ρ2 vs = ρ) ∧ (p d = true → ∃ ρ3, elt ρ2 = .ok (f d) ρ3 ∧ wipeR ρ3 vs = ρ)) → compL bd ifs elt vs l acc ρ = .ok (acc ++ (l.filter p).map f) ρ
  | [], acc, ρ, _, _ => by simp [compL]
  | d :: l, acc, ρ, hz, h => by
    obtain ⟨ρ1, ρ2, e1, e2, h1, h2⟩ := h d (List.mem_cons_self ..)
    rw [List.length_cons] at hz
    unfold compL
    simp only [e1, e2]
    cases hp : p d with
    | false =>
      simp only
      rw [h1 hp, comp_pure l acc ρ (by omega) fun d hd => h d (List.mem_cons_of_mem _ hd)]
      simp [hp]
    | true =>
      obtain ⟨ρ3, e3, e4⟩ := h2 hp
      simp only [e3]
      rw [if_pos (show acc.length < PySem.sizeLine by unfold PySem.sizeLine; omega), e4, comp_pure l (acc ++ [f d]) ρ (by rw [List.length_append]; simp; omega) fun d hd => h d (List.mem_cons_of_mem _ hd)]
      simp [hp]
/-- one that keeps nothing -/
theorem comp_none : ∀ (l acc : List D) (ρ : Rho), (∀ d ∈ l, ∃ ρ1 ρ2, bd d ρ = some ρ1 ∧ ifs ρ1 = .ok false ρ2 ∧ wipeR ρ2 vs = ρ) → compL bd ifs elt vs l acc ρ = .ok acc ρ
  | [], acc, ρ, _ => by simp [compL]
  | d :: l, acc, ρ, h => by
    obtain ⟨ρ1, ρ2, e1, e2, h1⟩ := h d (List.mem_cons_self ..)
    unfold compL
    simp only [e1, e2]
    rw [h1]
    exact comp_none l acc ρ fun d hd => h d (List.mem_cons_of_mem _ hd)
/-- one by an invariant of the turn, the list so far, the state -/
theorem comp_rule : ∀ (l : List D) (I : Nat → List D → Rho → Prop) (acc : List D) (ρ : Rho), acc.length + l.length ≤ 16777216 → I 0 acc ρ →
    (∀ i d acc ρ, l[i]? = some d → I i acc ρ → ∃ ρ1 b ρ2, bd d ρ = some ρ1 ∧ ifs ρ1 = .ok b ρ2 ∧ (b = false → I (i + 1) acc (wipeR ρ2 vs)) ∧ (b = true → ∃ x ρ3, elt ρ2 = .ok x ρ3 ∧ I (i + 1) (acc ++ [x]) (wipeR ρ3 vs))) →
    ∃ r ρ', compL bd ifs elt vs l acc ρ = .ok r ρ' ∧ I l.length r ρ'
  | [], I, acc, ρ, _, h0, _ => ⟨acc, ρ, rfl, h0⟩
  | d :: l, I, acc, ρ, hz, h0, hs => by
    obtain ⟨ρ1, b, ρ2, e1, e2, h1, h2⟩ := hs 0 d acc ρ rfl h0
    rw [List.length_cons] at hz
    have ih := fun acc' ρ' (hz' : acc'.length + l.length ≤ 16777216) (h : I 1 acc' ρ') => comp_rule l (fun i => I (i + 1)) acc' ρ' hz' h fun i d acc ρ e hi => hs (i + 1) d acc ρ (by simpa using e) hi
    unfold compL
    simp only [e1, e2]
    cases b with
    | false => exact ih acc _ (by omega) (h1 rfl)
    | true =>
      obtain ⟨x, ρ3, e3, h3⟩ := h2 rfl
      simp only [e3]
      rw [if_pos (show acc.length < PySem.sizeLine by unfold PySem.sizeLine; omega)]
      exact ih _ _ (by rw [List.length_append]; simp; omega) h3
end
end Ft
/-! Ft13: sorted, list(range), max and min, index and count, += , constants of the top. -/
namespace Ft
open PySem L2 PySem.Spec PyProof.Rows
open PySem.W (alike alikeAll dataLt dataLe AllAlike Sortable EachIs)
/-! ### sorted, where the items are tuples and some of them are empty -/
section
open PySem.W PySem.SeqAt PySem.Calls
variable {prog : Program} {w : World} {A : Around} {s : Shared} {E : Value → Shared → Prop}
def isTup : D → Bool
  | .tuple _ => true
  | _ => false
def isTup0 : D → Bool
  | .tuple [] => true
  | _ => false
theorem tup_lt {Q : Value → Shared → Prop} {l b : Addr} {items items2 : Array Value} {e r : Nat → Bool} (hl : s.heap.IsTuple l items) (hb : s.heap.IsTuple b items2)
    (he : ∀ j (h1 : j < items.size) (h2 : j < items2.size), EqAt A.in1 s items[j] items2[j] (e j)) (hr : ∀ j (h1 : j < items.size) (h2 : j < items2.size), e j = false → RcLt A.in1 s items[j] items2[j] (r j))
    (h : Q (.bool (firstLt e r (decide (items.size < items2.size)) (List.range (min items.size items2.size)))) s) : wpAny (model prog w) A (call (.builtin "tuple.__lt__") [.ref l, .ref b]) Q E s := by
  obtain ⟨⟨cls, dd, data, sl⟩, ho, hc, n, hd⟩ := id hl
  obtain ⟨⟨cls2, dd2, data2, sl2⟩, ho2, hc2, n2, hd2⟩ := id hb
  simp only at hc hd hc2 hd2
  subst hc hd hc2 hd2
  exact call_meets F.slot_tuple_lt ⟨_, ho, rfl⟩ F.entry_tuple_lt (F.args_tuple_lt_2 _ _) (tuple_ltAt l b items items2 n n2 dd dd2 sl sl2 e r) ⟨ho, ho2, he, hr, h⟩
theorem tup_oneLt {xs ys : List D} {a b : Value} {as bs : List Addr} {Q : Bool → Shared → Prop} (ra : Reads s.heap a (.tuple xs) as) (rb : Reads s.heap b (.tuple ys) bs) (hal : alikeAll xs ys = true)
    (hu : A.units + min (PyData.tuple xs).depth (PyData.tuple ys).depth < cLine) (hq : Q (dataLt (.tuple xs) (.tuple ys)) s) : wpAny (model prog w) A (oneLt' true a b) Q E s := by
  cases ra with
  | @tuple l o vs n _ as₁ h1 h2 h3 h4 =>
    cases rb with
    | @tuple l' o' vs' n' _ bs₁ k1 k2 k3 k4 =>
      have n1 : vs.size = xs.length := by simpa using ReadsAll.length _ _ _ h4
      have n2 : vs'.size = ys.length := by simpa using ReadsAll.length _ _ _ k4
      rw [dataLt_tuple, ← firstLt_toks xs ys hal, ← n1, ← n2] at hq
      rw [oneLt'_eq]
      simp only [if_true]
      refine wpAny_bind (wpAny_cRoomFor (room_here hu) ?_)
      refine wpAny_bind (wpAny_callSpecialIfBound?_slot (T := "tuple") ⟨_, h1, h2⟩ F.slot_tuple_lt (tup_lt (e := pairEq xs ys) (r := fun j => dataLt (xs.getD j .none) (ys.getD j .none)) ⟨_, h1, h2, _, h3⟩ ⟨_, k1, k2, _, k3⟩ (fun j j1 j2 => ?_) (fun j j1 j2 hj => ?_) ?_))
      · have := eqAt_alikeAll xs ys A.in1 s vs.toList vs'.toList _ _ h4 k4 hal (room_in hu) j (by simpa using j1) (by simpa using j2)
        simpa using this
      · have := rcLt_alikeAll xs ys A.in1 s vs.toList vs'.toList _ _ h4 k4 hal (room_in hu) j (by simpa using j1) (by simpa using j2) hj
        simpa using this
      · exact wpAny_truthy_bool hq
theorem firsts_at : ∀ (vs : List Value) (ds : List D) {Q : List (Option Value) → Shared → Prop}, EachIs (fun v d => ∃ as, Reads s.heap v d as) vs ds → (∀ d ∈ ds, isTup d = true) →
    (∀ fs : List (Option Value), fs.length = ds.length → (∀ (i : Nat) (d : D), ds[i]? = some d → ∃ f : Option Value, fs[i]? = some f ∧ f.isSome = !isTup0 d) → Q fs s) → wpAny (model prog w) A (vs.mapM firstOfTuple') Q E s
  | _, _, Q, .nil, _, h => by
    rw [List.mapM_nil]
    exact wpAny_pure (h [] rfl fun i d hd => by simp at hd)
  | v :: vs, d :: ds, Q, .cons ⟨as, r⟩ t, ht, h => by
    have h0 := ht d (.head _)
    match d, h0, r, h with
    | .tuple xs, _, r, h =>
      cases r with
      | @tuple a o its n _ _ ho hc hd hr =>
        have hlen : its.size = xs.length := by simpa using ReadsAll.length _ _ _ hr
        rw [List.mapM_cons]
        refine wpAny_bind ?_
        rw [kas_first_eq]
        refine wpAny_bind (Looks.here (show Looks (model prog w) s.heap (typeOf (.ref a)) o.cls from (Looks.ld ho).andThen .now) ?_)
        rw [hc, if_neg (by first | decide | simp)]
        refine wpAny_bind (listItems_at ho hd (wpAny_pure ?_))
        refine wpAny_bind (firsts_at vs ds t (fun d hd => ht d (.tail _ hd)) fun fs hl hf => wpAny_pure (h _ (by simp [hl]) fun i d hd => ?_))
        cases i with
        | zero =>
          simp at hd
          subst hd
          refine ⟨its[0]?, rfl, ?_⟩
          match xs, hlen with
          | [], hlen => simp at hlen; simp [isTup0, hlen]
          | x :: xs, hlen => simp [isTup0, hlen]
        | succ i => exact hf i d (by simpa using hd)
theorem types_at : ∀ (vs : List Value) (ds : List D) {Q : List Value → Shared → Prop}, EachIs (fun v d => ∃ as, Reads s.heap v d as) vs ds → (∀ d ∈ ds, isTup d = true) →
    Q (vs.map fun _ => Value.type "tuple") s → wpAny (model prog w) A (vs.mapM typeOf) Q E s := fun vs ds Q e ht h => by
  refine kas_mapM _ (fun v hv Q' hq => ?_) h
  obtain ⟨d, hd, as, r⟩ := e.left v hv
  have h0 := ht d hd
  match d, h0, r with
  | .tuple xs, _, r =>
    have : Looks (model prog w) s.heap (typeOf v) (dataType (.tuple xs)) := looks_reads r
    exact this.here hq
theorem kind_at {vs : List Value} {ds : List D} {Q : SortKind → Shared → Prop} (e : EachIs (fun v d => ∃ as, Reads s.heap v d as) vs ds) (ht : ∀ d ∈ ds, isTup d = true) (h0 : ∃ d ∈ ds, isTup0 d = true)
    (h : Q (if (ds[0]?.map isTup0) = some true then oneType' else general') s) : wpAny (model prog w) A (keyKind' vs.toArray) Q E s := by
  rw [keyKind'_eq, List.mapM_toArray, map_eq_pure_bind]
  refine wpAny_bind (wpAny_bind (firsts_at vs ds e ht fun fs hl hf => wpAny_pure ?_))
  have hall : ¬ (fs.toArray.all fun x => x.isSome) = true := by
    obtain ⟨d, hd, hd0⟩ := h0
    obtain ⟨i, hi, rfl⟩ := List.mem_iff_getElem.mp hd
    obtain ⟨f, hf1, hf2⟩ := hf i _ (List.getElem?_eq_getElem hi)
    intro hc
    simp only [List.all_toArray, List.all_eq_true] at hc
    have := hc f (List.mem_of_getElem? hf1)
    rw [hf2, hd0] at this
    cases this
  rw [if_neg hall]
  match ds, h, hf, h0 with
  | [], _, _, ⟨d, hd, _⟩ => simp at hd
  | d :: ds, h, hf, _ =>
    obtain ⟨f, hf1, hf2⟩ := hf 0 d rfl
    have e0 : fs.toArray[0]? = some f := by simpa using hf1
    rw [e0]
    show wpAny _ _ (if ((some f).bind id).isSome = true then _ else _) _ _ _
    by_cases hc : isTup0 d = true
    · rw [hc] at hf2
      rw [if_neg (by show ¬ f.isSome = true; rw [hf2]; decide)]
      have : Q oneType' s := by simpa [hc] using h
      rw [oneTypeOnly'_eq, List.mapM_toArray, map_eq_pure_bind]
      refine wpAny_bind (wpAny_bind (wpAny_bind (types_at vs _ e ht (wpAny_pure ?_))))
      cases e with
      | @cons v _ vs _ r t =>
        have hall : ((List.map (fun _ => Value.type "tuple") (v :: vs)).toArray.all fun x => x == Value.type "tuple") = true := by
          simp only [List.all_toArray, List.all_map, List.all_eq_true]
          intro _ _
          rfl
        have h0 : (List.map (fun _ => Value.type "tuple") (v :: vs)).toArray[0]? = some (Value.type "tuple") := by simp
        rw [h0]
        simp only [hall, if_true]
        exact wpAny_pure (wpAny_pure this)
    · have hf3 : f.isSome = true := by rw [hf2]; simp [hc]
      rw [if_pos (by show f.isSome = true; exact hf3)]
      have hne : (((d :: ds)[0]?).map isTup0) ≠ some true := by simp [hc]
      rw [if_neg hne] at h
      exact wpAny_pure h
theorem keyLt'_general (x y : Value) : keyLt' general' x y = oneLt' false x y := rfl
theorem SortsAt.tups {vs : List Value} {ds : List D} (e : EachIs (fun v d => ∃ as, Reads s.heap v d as) vs ds) (hal : AllAlike ds) (ht : ∀ d ∈ ds, isTup d = true) (h0 : ∃ d ∈ ds, isTup0 d = true) (hu : ∀ d, d ∈ ds → A.units + d.depth < cLine) : SortsAt prog w A s (dataKind s.heap ds) vs := by
  have room : ∀ {d d' : D}, d ∈ ds → A.units + min d.depth d'.depth < cLine := fun {d d'} hd => Nat.lt_of_le_of_lt (Nat.add_le_add_left (Nat.min_le_left _ _) _) (hu d hd)
  refine ⟨fun v hv => ?_, (if (ds[0]?.map isTup0) = some true then oneType' else general'), ?_, fun h2 E Q hq => kind_at e ht h0 hq⟩
  · obtain ⟨d, hd, as, r⟩ := e.left v hv
    exact ⟨_, dataKind_some hal hd r⟩
  · intro E x y a b Q ha hb hq
    obtain ⟨d, as, hd, ra, rfl⟩ := dataKind_inv ha
    obtain ⟨d', as', hd', rb, rfl⟩ := dataKind_inv hb
    have hdd := hal d hd d' hd'
    have hroom := room (d' := d') hd
    have h1 := ht d hd
    have h2 := ht d' hd'
    match d, d', h1, h2, ra, rb, hdd, hroom, hq with
    | .tuple xs, .tuple ys, _, _, ra, rb, hdd, hroom, hq =>
      have hal2 : alikeAll xs ys = true := by simpa [alike] using hdd
      split
      · rw [keyLt'_oneType]
        exact tup_oneLt ra rb hal2 hroom hq
      · rw [keyLt'_general]
        exact oneLt_alike (fun hf => Bool.noConfusion hf) ra rb hdd (fun x => nomatch x) hroom hq
theorem sorts_both {h' : Heap} {vs : List Value} {ds : List D} (e : EachIs (fun v d => ∃ as, Reads h' v d as) vs ds) (hal : AllAlike ds) (hk : Sortable ds ∨ ((∀ d ∈ ds, isTup d = true) ∧ ∃ d ∈ ds, isTup0 d = true)) (hu : ∀ d, d ∈ ds → A.units + d.depth < cLine) :
    SortsAt prog w A { s with heap := h' } (dataKind h' ds) vs := by
  rcases hk with hk | ⟨ht, h0⟩
  · exact SortsAt.data (s := { s with heap := h' }) e hal hk hu
  · exact SortsAt.tups (s := { s with heap := h' }) e hal ht h0 hu
/-- what is gathered from a list or a tuple; no object goes -/
theorem gather {Q : List Value → Shared → Prop} {l : Addr} {T : String} {o : Obj} {items : Array Value} {n : Nat} (hT : T = "list" ∨ T = "tuple") (ho : s.heap.get? l = some o) (hc : o.cls = .type T) (hd : o.data = .seq items n) (hsz : items.size ≤ sizeLine)
    (h : ∀ h1 : Heap, (∀ b o, s.heap.get? b = some o → h1.get? b = some o) → s.heap.objs.size ≤ h1.objs.size → Q items.toList { s with heap := h1 }) : wpAny (model prog w) A (collect (.ref l)) Q E s := by
  have new : (s.heap.push { cls := .type "list", data := .seq ([] : List Value).toArray }).get? s.heap.objs.size = some { cls := .type "list", data := .seq #[] 0 } := Heap.get?_push_size _ rfl
  have full := Heap.get?_update_self (Obj.mapSeq (· ++ items)) new rfl
  have last : wpAny (model prog w) A (load s.heap.objs.size >>= fun o => match o.data with
      | Data.seq xs _ => pure xs.toList
      | _ => unsupported "internal:collect") Q E { s with heap := (s.heap.push { cls := .type "list", data := .seq ([] : List Value).toArray }).update s.heap.objs.size (Obj.mapSeq (· ++ items)) } := by
    refine wpAny_bind (wpAny_load full (wpAny_pure ?_))
    have e : ((#[] : Array Value) ++ items).toList = items.toList := by simp
    show Q ((#[] : Array Value) ++ items).toList _
    rw [e]
    refine h _ (fun b o' hb => (Heap.get?_update_other _ _ (Nat.ne_of_gt (Heap.lt_size hb))).trans (Heap.get?_push_of_some _ hb)) ?_
    rw [Heap.size_update, Heap.size_push]
    exact Nat.le_succ _
  unfold collect
  refine wpAny_bind (wpAny_runValue (codeAny_builtin F.entry_proto_collect ?_))
  rw [Around.under_plainId F.plain_proto_collect _]
  refine wpAny_bind (wpAny_newObj_type ?_)
  refine wpAny_pure ⟨plainId_quiet F.plain_list_iadd _, codeAny_builtin F.entry_list_iadd ?_⟩
  rw [Around.under_plainId F.plain_list_iadd _]
  refine wpAny_mono (wpAny_extend_seq (hsz := hsz) (A := A) (R := fun r s' => r = .ok (.ret (.ref s.heap.objs.size)) ∧ s' = { s with heap := (s.heap.push { cls := .type "list", data := .seq ([] : List Value).toArray }).update s.heap.objs.size (Obj.mapSeq (· ++ items)) })
    (s := { s with heap := s.heap.push { cls := .type "list", data := .seq ([] : List Value).toArray } }) _ l _ 0 hT new (Heap.get?_push_of_some _ ho) hc hd ⟨rfl, rfl⟩) (fun fin s' q => ?_) fun e s' q => absurd q.1 (by simp)
  cases fin with
  | done f =>
    obtain ⟨e, rfl⟩ := q
    cases e
    exact last
  | again c => exact ⟨q.1, codeAny_mono q.2 fun r s'' hr => by obtain ⟨rfl, rfl⟩ := hr; exact last⟩
/-- sorted(xs), xs a list or a tuple -/
theorem sorted_seq {β : Type} {enc : β → D} {R : Value → β → Prop} {vs : List Value} {bs : List β} {l : Addr} {T : String} {o : Obj} {n : Nat} {Q : Value → Shared → Prop} (hT : T = "list" ∨ T = "tuple") (ho : s.heap.get? l = some o) (hc : o.cls = .type T) (hd : o.data = .seq vs.toArray n)
    (e : EachIs R vs bs) (er : EachIs (fun v b => ∃ as, Reads s.heap v (enc b) as) vs bs) (hal : AllAlike (bs.map enc)) (hk : Sortable (bs.map enc) ∨ ((∀ d ∈ bs.map enc, isTup d = true) ∧ ∃ d ∈ bs.map enc, isTup0 d = true)) (hL : bs.length ≤ sizeLine)
    (hu : ∀ b, b ∈ bs → A.units + 2 + (enc b).depth < cLine) (h : ∀ (out : List Value) (h' : Heap) (p : Addr), out.length = bs.length → EachIs R out (bs.mergeSort (dataLe false enc)) → (∀ b o, s.heap.get? b = some o → h'.get? b = some o) → s.heap.objs.size ≤ p → (∃ c, h'.get? p = some (seqObj "list" out.toArray c)) → Q (.ref p) { s with heap := h' }) :
    wpAny (model prog w) A (call (.builtin "sorted") [.ref l]) Q E s := by
  have hvl : vs.length ≤ sizeLine := by rw [e.length]; exact hL
  refine call_function_entry kind_sorted plain_sorted entry_sorted (args_sorted1 _) ?_
  unfold Builtin.«sorted»
  refine wpAny_bind (m := checkCount "sorted" 1 1 _) (wpAny_pure ?_)
  refine wpAny_bind (gather (A := A.in1) hT ho hc hd (by rw [List.size_toArray]; exact hvl) fun h1 k1 z1 => ?_)
  refine wpAny_bind (wpAny_newList ?_ hvl)
  have hoL : (h1.push (seqObj "list" vs.toArray 0)).get? h1.objs.size = some (seqObj "list" vs.toArray 0) := Heap.get?_push_size _ rfl
  have old : ∀ b o, s.heap.get? b = some o → (sortingHeap (h1.push (seqObj "list" vs.toArray 0)) h1.objs.size vs).get? b = some o := fun b o q => by
    have q1 := k1 b o q
    exact sortingHeap_old (Nat.ne_of_lt (Heap.lt_size q1)) (Heap.get?_push_of_some _ q1)
  have er' : EachIs (fun v b => ∃ as, Reads (sortingHeap (h1.push (seqObj "list" vs.toArray 0)) h1.objs.size vs) v (enc b) as) vs bs := er.mono fun _ _ ⟨as, r⟩ => ⟨as, PyProof.Rows.Reads.keeps old r⟩
  have S := sorts_both (prog := prog) (w := w) (A := A.in1.in1) (s := s) (each_map (R := fun v d => ∃ as, Reads (sortingHeap (h1.push (seqObj "list" vs.toArray 0)) h1.objs.size vs) v d as) enc er') hal hk (bound_map hu)
  refine wpAny_bind (wpAny_holding (wpAny_call_entry slot_list_sort ⟨_, hoL, rfl⟩ entry_list_sort (list_sort_vals (s := { s with heap := h1.push (seqObj "list" vs.toArray 0) }) hoL S hvl ⟨_, rfl, ?_⟩) (args_list_sort _)))
  obtain ⟨c, hcc⟩ := sortedHeap_at (vs := vs) (out := (sortVals (dataKind (sortingHeap (h1.push (seqObj "list" vs.toArray 0)) h1.objs.size vs) (bs.map enc)) false vs vs).toArray) hoL
  refine wpAny_pure ⟨_, rfl, h _ _ _ (by rw [sortVals_length false rfl]; exact e.length) (sortVals_data false e er' hal) (fun b o q => ?_) z1 ⟨c, hcc⟩⟩
  have q1 := k1 b o q
  rw [sortedHeap_old (Nat.ne_of_lt (Heap.lt_size q1)) (by rw [size_push']; exact Nat.lt_succ_of_lt (Heap.lt_size q1))]
  exact Heap.get?_push_of_some _ q1
end
/-! ### sorted -/
def dLe : D → D → Bool := dataLe false id
def isTup1 : D → Bool
  | .tuple (_ :: _) => true
  | _ => false
def notTup : D → Bool
  | .tuple _ => false
  | .none => false
  | _ => true
def sortOk (l : List D) : Bool := (l.all fun d => l.all fun e => alike d e) && (l.all isTup1 || (l.all notTup || (l.all isTup && l.any isTup0))) && (l.all fun d => decide (d.depth ≤ 60)) && decide (l.length ≤ 16777216)
def sortB : List D → Option (List D)
  | [.list l] => if sortOk l = true then some (l.mergeSort dLe) else none
  | [.tuple l] => if sortOk l = true then some (l.mergeSort dLe) else none
  | _ => none
theorem sortOk_at {l : List D} (h : sortOk l = true) : AllAlike (l.map id) ∧ (Sortable (l.map id) ∨ ((∀ d ∈ l.map id, isTup d = true) ∧ ∃ d ∈ l.map id, isTup0 d = true)) ∧ (∀ d ∈ l, d.depth ≤ 60) ∧ l.length ≤ 16777216 := by
  unfold sortOk at h
  simp only [Bool.and_eq_true, List.all_eq_true, List.any_eq_true, Bool.or_eq_true, decide_eq_true_eq] at h
  obtain ⟨⟨⟨h1, h2⟩, h3⟩, h4⟩ := h
  rw [List.map_id]
  refine ⟨fun d hd e he => h1 d hd e he, ?_, h3, h4⟩
  rcases h2 with h2 | h2 | h2
  · left
    left
    intro d hd
    have := h2 d hd
    match d, this with
    | .tuple (x :: r), _ => exact ⟨x, r, rfl⟩
  · left
    right
    intro d hd
    have := h2 d hd
    constructor
    · rintro rfl; cases this
    · rintro xs rfl; cases this
  · right
    obtain ⟨h2, x, hx, hx0⟩ := h2
    exact ⟨h2, x, hx, hx0⟩
section
variable {X : Cx} {pins : List (Addr × Obj)} {σ : Sg} {H F : Hp} {s : Shared}
theorem each_rep : ∀ {ds : List D} {vs : List V} {us : List Value}, Reps X.K F ds vs → Vals vs us → EachIs (fun u d => ∃ v, RelV v u ∧ Rep X.K F d v) us ds
  | [], _, _, r, w => by
    rw [reps_nil] at r; subst r; cases w; exact .nil
  | d :: ds, _, _, r, w => by
    obtain ⟨v, vs, rfl, h1, h2⟩ := reps_cons.mp r
    cases w with
    | cons w1 w2 => exact .cons ⟨v, w1, h1⟩ (each_rep h2 w2)
theorem rep_each : ∀ {ds : List D} {us : List Value}, EachIs (fun u d => ∃ v, RelV v u ∧ Rep X.K F d v) us ds → ∃ vs, Reps X.K F ds vs ∧ Vals vs us
  | [], _, .nil => ⟨[], .nil, .nil⟩
  | d :: ds, _, .cons ⟨v, h1, h2⟩ t => by
    obtain ⟨vs, h3, h4⟩ := rep_each t
    exact ⟨v :: vs, .cons h2 h3, .cons h1 h4⟩
end
section
variable {X : Cx}
def rSortD (K : PySem.W.Frag) : List V → Hp → VK → Prop := fun vs H Q => ∃ F a ds ws, vs = [V.ref a] ∧ Same F H ∧ (SqL K H a ws ∨ SqT K H a ws) ∧ Reps K F ds ws ∧ sortOk ds = true ∧ ∀ ws' p, Reps K F (ds.mergeSort dLe) ws' → H p = none → Q (.ref p) (upd H p (.lst ws'))
theorem cr_sortD (hu : X.A.units + 64 < cLine) : CallR X (.builtin "sorted") (rSortD X.K) := by
  intro pins s σ H vs us Q I r h
  obtain ⟨F, a, ds, ws, rfl, sm, hs, hr, ok, q⟩ := h
  obtain ⟨its, T, o, n, rv, hT, ho, hc, hd⟩ : ∃ (its : List Value) (T : String) (o : Obj) (n : Nat), Vals ws its ∧ (T = "list" ∨ T = "tuple") ∧ s.heap.get? a = some o ∧ o.cls = .type T ∧ o.data = .seq its.toArray n := by
    rcases hs with hs | hs
    · obtain ⟨its, rv, hl, _⟩ := I.list hs
      obtain ⟨o, ho, hc, n, hd⟩ := hl.isList
      exact ⟨its, _, o, n, rv, .inl rfl, ho, hc, hd⟩
    · obtain ⟨its, rv, ⟨o, ho, hc, n, hd⟩, _⟩ := I.tuple hs
      exact ⟨its, _, o, n, rv, .inr rfl, ho, hc, hd⟩
  rw [Vals.ref1 r]
  obtain ⟨o1, o2, o3, o4⟩ := sortOk_at ok
  have e1 := each_rep (X := X) hr rv
  have e2 : EachIs (fun u d => ∃ as, Reads s.heap u (id d) as) its ds := e1.mono fun u d ⟨v, h1, h2⟩ => Rep.reads I d v u (Rep.mono sm _ _ h2) h1
  refine sorted_seq (β := D) (enc := id) (R := fun u d => ∃ v, RelV v u ∧ Rep X.K F d v) hT ho hc hd e1 e2 o1 o2 (Nat.le_trans o4 (by decide)) (fun b hb => by have := o3 b hb; show _ + (id b).depth < _; simp only [id]; omega) fun out h' p hlen ho kp hp ⟨c, hc⟩ => ?_
  obtain ⟨ws', h1, h2⟩ := rep_each (X := X) ho
  have hlen' : ws'.length ≤ sizeLine := by
    rw [← h1.length, List.length_mergeSort]
    exact Nat.le_trans o4 (by decide)
  exact ⟨.ref _, upd H p (.lst ws'), I.laid (t' := s.toks) kp hp ⟨hlen', out, c, h2, hc⟩, rfl, q ws' _ h1 (I.hok.fresh hp)⟩
theorem pf_sort {K : PySem.W.Frag} : PF K (rSortD K) sortB := fun F H xs ds z Q s h hz q => by
  unfold sortB at hz
  split at hz
  · rename_i l
    split at hz
    · rename_i c
      cases hz
      obtain ⟨v, rfl, rv⟩ := h.one
      obtain ⟨a, vs, rfl, q1, r1⟩ := rv.list s
      exact ⟨F, a, l, vs, rfl, s, .inl (.inl q1), r1, c, fun ws' p r hp => q p ws' hp r⟩
    · cases hz
  · rename_i l
    split at hz
    · rename_i c
      cases hz
      obtain ⟨v, rfl, rv⟩ := h.one
      obtain ⟨a, vs, rfl, q1, r1⟩ := rv.tuple s
      exact ⟨F, a, l, vs, rfl, s, .inr q1, r1, c, fun ws' p r hp => q p ws' hp r⟩
    · cases hz
  · cases hz
end
/-! ### list(range(..)), tuple(range(..)) -/
def rng1L (ds : List D) : Option (List D) := (rng1 ds).bind fun l => if l.length ≤ 16777216 then some l else none
def rng2L (ds : List D) : Option (List D) := (rng2 ds).bind fun l => if l.length ≤ 16777216 then some l else none
theorem reps_rg {K : PySem.W.Frag} {F : Hp} {a b : Int} : Reps K F (rangeL a b) (rgV a b) := by
  unfold rangeL rgV
  have : ∀ l : List Nat, Reps K F (l.map fun (i : Nat) => PyData.int (a + i)) (l.map fun i => V.int (a + (i : Nat))) := fun l => by
    induction l with
    | nil => exact .nil
    | cons x l ih => exact .cons rep_int ih
  exact this _
section
variable {X : Cx} {W : Wt} {e e2 : Expr} {a b : An} {pos p p2 pos2 : Pos}
theorem rng1L_at {ds l : List D} (h : rng1L ds = some l) : ∃ j : Int, ds = [.int j] ∧ -(2 ^ 62) ≤ j ∧ j < 2 ^ 62 ∧ l = rangeL 0 j ∧ (j - 0).toNat ≤ 2 ^ 24 := by
  unfold rng1L at h
  obtain ⟨m, h1, h2⟩ := Option.bind_eq_some_iff.mp h
  split at h2
  · cases h2
    rename_i hz
    unfold rng1 at h1
    split at h1
    · split at h1
      · rename_i j c
        cases h1
        refine ⟨j, rfl, c.1, c.2, rfl, ?_⟩
        unfold rangeL at hz
        rw [List.length_map, List.length_range] at hz
        exact hz
      · cases h1
    · cases h1
  · cases h2
theorem rng2L_at {ds l : List D} (h : rng2L ds = some l) : ∃ i j : Int, ds = [.int i, .int j] ∧ RgOk i j ∧ l = rangeL i j := by
  unfold rng2L at h
  obtain ⟨m, h1, h2⟩ := Option.bind_eq_some_iff.mp h
  split at h2
  · cases h2
    rename_i hz
    unfold rng2 at h1
    split at h1
    · split at h1
      · rename_i i j c
        cases h1
        refine ⟨i, j, rfl, ⟨c.1, c.2.1, c.2.2.1, c.2.2.2, ?_⟩, rfl⟩
        unfold rangeL at hz
        rw [List.length_map, List.length_range] at hz
        exact hz
      · cases h1
    · cases h1
  · cases h2
theorem df_listRg1 (hc : X.calm = true) (hm : X.mg "list" = none) (hm2 : X.mg "range" = none) (ha : PE X e (tA X.K W a)) (hg : Gl X "list" := by rfl) (hg2 : Gl X "range" := by rfl) (na : starEach [e] X.env = (false, eval e X.env) :: starEach [] X.env := by rfl)
    (nb : starEach [.Call (.Name "range" p2) [e] [] pos2] X.env = (false, eval (.Call (.Name "range" p2) [e] [] pos2) X.env) :: starEach [] X.env := by rfl) :
    PE X (.Call (.Name "list" p) [.Call (.Name "range" p2) [e] [] pos2] [] pos) (tF X.K W (fOpN rng1L (aCons a aNil))) :=
  PE.imp (pe_listRg hc hg hm (prg_1 hg2 hm2 ha na) nb) fun σ H Q ⟨ρ, F, s, q⟩ => by
    have e1 : fOpN rng1L (aCons a aNil) ρ = (a ρ).bind fun h ρ1 => ans (((looks ρ1 [h]).bind rng1L).map Mo.lst) ρ1 := by
      unfold fOpN aCons aNil
      cases a ρ <;> rfl
    rw [e1] at q
    refine AfF.bind s q fun h v ρ1 F1 H1 g r q1 => ?_
    obtain ⟨m, e, q⟩ := ansF_some q1
    obtain ⟨l, e1, rfl⟩ := Option.map_eq_some_iff.mp e
    obtain ⟨ds, hd, e2⟩ := Option.bind_eq_some_iff.mp e1
    have rb := looks_rep g.sr (.cons r .nil) hd
    obtain ⟨j, rfl, h1, h2, rfl, h3⟩ := rng1L_at e2
    obtain ⟨w, ew, rw_⟩ := rb.one
    cases ew
    exact ⟨j, rw_.int, ⟨by decide, by decide, h1, h2, h3⟩, fun p hp => AfF.new g.sr q hp reps_rg⟩
theorem df_listRg2 (hc : X.calm = true) (hm : X.mg "list" = none) (hm2 : X.mg "range" = none) (ha : PE X e (tA X.K W a)) (hb : PE X e2 (tA X.K W b)) (hg : Gl X "list" := by rfl) (hg2 : Gl X "range" := by rfl) (na : starEach [e, e2] X.env = (false, eval e X.env) :: starEach [e2] X.env := by rfl)
    (na2 : starEach [e2] X.env = (false, eval e2 X.env) :: starEach [] X.env := by rfl) (hp : (backTo pos2 (starEach [e2] X.env)).any (·.1) = false := by rfl)
    (nb : starEach [.Call (.Name "range" p2) [e, e2] [] pos2] X.env = (false, eval (.Call (.Name "range" p2) [e, e2] [] pos2) X.env) :: starEach [] X.env := by rfl) :
    PE X (.Call (.Name "list" p) [.Call (.Name "range" p2) [e, e2] [] pos2] [] pos) (tF X.K W (fOpN rng2L (aCons a (aCons b aNil)))) :=
  PE.imp (pe_listRg hc hg hm (prg_2 hg2 hm2 ha hb na na2 hp) nb) fun σ H Q ⟨ρ, F, s, q⟩ => by
    have e1 : fOpN rng2L (aCons a (aCons b aNil)) ρ = (a ρ).bind fun h ρ1 => (b ρ1).bind fun k ρ2 => ans (((looks ρ2 [h, k]).bind rng2L).map Mo.lst) ρ2 := by
      unfold fOpN aCons aNil
      cases a ρ with
      | no => rfl
      | ex x ρ1 => rfl
      | ok h ρ1 => simp only [RE.bind]; cases b ρ1 <;> rfl
    rw [e1] at q
    refine AfF.bind s q fun h v ρ1 F1 H1 g r q1 => AfF.bind g.sr q1 fun k w ρ2 F2 H2 g2 r2 q2 => ?_
    obtain ⟨m, e, q⟩ := ansF_some q2
    obtain ⟨l, e1, rfl⟩ := Option.map_eq_some_iff.mp e
    obtain ⟨ds, hd, e2⟩ := Option.bind_eq_some_iff.mp e1
    have rb := looks_rep g2.sr (.cons (r.mono g2.sub) (.cons r2 .nil)) hd
    obtain ⟨i, j, rfl, h1, rfl⟩ := rng2L_at e2
    obtain ⟨u, u2, eu, ru, ru2⟩ := rb.two
    cases eu
    exact ⟨i, j, ru.int, ru2.int, h1, fun p hp => AfF.new g2.sr q hp reps_rg⟩
end
/-! ### max, min -/
def max2B : List D → Option D
  | [.int i, .int j] => some (.int (if j > i then j else i))
  | _ => none
def min2B : List D → Option D
  | [.int i, .int j] => some (.int (if j < i then j else i))
  | _ => none
def maxI : List Int → Int
  | [] => 0
  | [x] => x
  | x :: xs => let m := maxI xs; if x < m then m else x
def minI : List Int → Int
  | [] => 0
  | [x] => x
  | x :: xs => let m := minI xs; if m < x then m else x
theorem maxI_is : ∀ {l : List Int}, l ≠ [] → maxI l ∈ l ∧ ∀ y ∈ l, y ≤ maxI l
  | [], h => absurd rfl h
  | [x], _ => ⟨List.mem_singleton.mpr rfl, fun y hy => by rw [List.mem_singleton.mp hy]; exact Int.le_refl _⟩
  | x :: y :: l, _ => by
    obtain ⟨h1, h2⟩ := maxI_is (l := y :: l) (List.cons_ne_nil _ _)
    show (if x < maxI (y :: l) then maxI (y :: l) else x) ∈ _ ∧ ∀ z ∈ _, z ≤ (if x < maxI (y :: l) then maxI (y :: l) else x)
    split
    · exact ⟨List.mem_cons_of_mem _ h1, fun z hz => by rcases List.mem_cons.mp hz with rfl | hz; omega; exact h2 z hz⟩
    · exact ⟨List.mem_cons_self .., fun z hz => by rcases List.mem_cons.mp hz with rfl | hz; omega; have := h2 z hz; omega⟩
theorem minI_is : ∀ {l : List Int}, l ≠ [] → minI l ∈ l ∧ ∀ y ∈ l, minI l ≤ y
  | [], h => absurd rfl h
  | [x], _ => ⟨List.mem_singleton.mpr rfl, fun y hy => by rw [List.mem_singleton.mp hy]; exact Int.le_refl _⟩
  | x :: y :: l, _ => by
    obtain ⟨h1, h2⟩ := minI_is (l := y :: l) (List.cons_ne_nil _ _)
    show (if minI (y :: l) < x then minI (y :: l) else x) ∈ _ ∧ ∀ z ∈ _, (if minI (y :: l) < x then minI (y :: l) else x) ≤ z
    split
    · exact ⟨List.mem_cons_of_mem _ h1, fun z hz => by rcases List.mem_cons.mp hz with rfl | hz; omega; exact h2 z hz⟩
    · exact ⟨List.mem_cons_self .., fun z hz => by rcases List.mem_cons.mp hz with rfl | hz; omega; have := h2 z hz; omega⟩
def maxLB : List D → Option D
  | [.list l] => match intsOf l with
    | some (x :: xs) => some (.int (maxI (x :: xs)))
    | _ => none
  | _ => none
def minLB : List D → Option D
  | [.list l] => match intsOf l with
    | some (x :: xs) => some (.int (minI (x :: xs)))
    | _ => none
  | _ => none
section
variable {K : PySem.W.Frag}
theorem pn_max2 : PN K (fun xs H Q => ∃ i j, xs = [.int i, .int j] ∧ Q (.int (if j > i then j else i)) H) max2B := fun F H xs ds z Q s h hz q => by
  unfold max2B at hz
  split at hz
  · cases hz
    obtain ⟨v, w, rfl, h1, h2⟩ := h.two
    exact ⟨_, _, by rw [h1.int, h2.int], q _ F H (Fr.refl s) rep_int⟩
  · cases hz
theorem pn_min2 : PN K (fun xs H Q => ∃ i j, xs = [.int i, .int j] ∧ Q (.int (if j < i then j else i)) H) min2B := fun F H xs ds z Q s h hz q => by
  unfold min2B at hz
  split at hz
  · cases hz
    obtain ⟨v, w, rfl, h1, h2⟩ := h.two
    exact ⟨_, _, by rw [h1.int, h2.int], q _ F H (Fr.refl s) rep_int⟩
  · cases hz
theorem pn_maxL : PN K (rMax K) maxLB := fun F H xs ds z Q s h hz q => by
  unfold maxLB at hz
  split at hz
  · split at hz
    · rename_i l x xs hl
      cases hz
      obtain ⟨v, rfl, rv⟩ := h.one
      obtain ⟨a, vs, rfl, q1, r1⟩ := rv.list s
      rw [intsOf_map hl] at r1
      refine ⟨a, x :: xs, rfl, .inl (by rw [← r1.ints]; exact q1), by simp, fun m hm hy => ?_⟩
      obtain ⟨h1, h2⟩ := maxI_is (l := x :: xs) (List.cons_ne_nil _ _)
      have : m = maxI (x :: xs) := Int.le_antisymm (h2 m hm) (hy _ h1)
      rw [this]
      exact q _ F H (Fr.refl s) rep_int
    · cases hz
  · cases hz
theorem pn_minL : PN K (rMin K) minLB := fun F H xs ds z Q s h hz q => by
  unfold minLB at hz
  split at hz
  · split at hz
    · rename_i l x xs hl
      cases hz
      obtain ⟨v, rfl, rv⟩ := h.one
      obtain ⟨a, vs, rfl, q1, r1⟩ := rv.list s
      rw [intsOf_map hl] at r1
      refine ⟨a, x :: xs, rfl, .inl (by rw [← r1.ints]; exact q1), by simp, fun m hm hy => ?_⟩
      obtain ⟨h1, h2⟩ := minI_is (l := x :: xs) (List.cons_ne_nil _ _)
      have : m = minI (x :: xs) := Int.le_antisymm (hy _ h1) (h2 m hm)
      rw [this]
      exact q _ F H (Fr.refl s) rep_int
    · cases hz
  · cases hz
end
/-! ### methods of lists that are read -/
def dMl (p : List D → List D → Option D) (a : An) (as : Ans) : Dn := fun ρ => (a ρ).bind fun h ρ1 => match look ρ1 h with
  | some (.list _) => (as ρ1).bind fun hs ρ2 => ans ((look ρ2 h).bind fun d => (looks ρ2 hs).bind fun ds => match d with
    | .list l => p l ds
    | _ => none) ρ2
  | _ => .no
/-- a rule of a list's method by trees -/
def PM (K : PySem.W.Frag) (r : V → List V → Hp → VK → Prop) (p : List D → List D → Option D) : Prop :=
  ∀ F H x xs l ds e Q, Same F H → RepB K F H (.list l) x → RepBs K F H ds xs → p l ds = some e → (∀ v F' H', Fr F H F' H' → Rep K F' e v → Q v H') → r x xs H Q
theorem ty_list {K : PySem.W.Frag} {F H : Hp} {l : List D} {v : V} (s : Same F H) (h : RepB K F H (.list l) v) : tyV K "list" v H := by
  obtain ⟨a, vs, rfl, q, _⟩ := h.list s
  exact .inl ⟨rfl, vs, .inl q⟩
theorem ml_imp {K : PySem.W.Frag} {W : Wt} {r : V → List V → Hp → VK → Prop} {p : List D → List D → Option D} {a : An} {as : Ans} (hp : PM K r p) {σ : Sg} {H : Hp} {Q : VK} (q : tE K W (dMl p a as) σ H Q) : tBM K "list" r (tA K W a) (tAs K W as) σ H Q := by
  obtain ⟨ρ, F, s, q⟩ := q
  refine Af.bind s q fun h v ρ1 F1 H1 g1 r1 z1 => ?_
  cases hl : look ρ1 h with
  | none => rw [hl] at z1; exact z1.elim
  | some d =>
    rw [hl] at z1
    cases d with
    | list l =>
      refine ⟨ty_list g1.sr.sub (look_rep g1.sr r1 hl), Af.bind g1.sr z1 fun hs vs ρ2 F2 H2 g2 r2 z2 => ?_⟩
      obtain ⟨z, e, q⟩ := ans_some z2
      obtain ⟨d, hd, e⟩ := Option.bind_eq_some_iff.mp e
      obtain ⟨ds, hds, e⟩ := Option.bind_eq_some_iff.mp e
      cases d with
      | list l2 => exact hp F2 H2 v vs l2 ds z Q g2.sr.sub (look_rep g2.sr (r1.mono g2.sub) hd) (looks_rep g2.sr r2 hds) e fun u F' H' f ru => q.okf g2.sr f ru
      | none => cases e
      | bool _ => cases e
      | int _ => cases e
      | str _ => cases e
      | tuple _ => cases e
      | dict _ => cases e
    | none => exact z1.elim
    | bool _ => exact z1.elim
    | int _ => exact z1.elim
    | str _ => exact z1.elim
    | tuple _ => exact z1.elim
    | dict _ => exact z1.elim
def rFindD (K : PySem.W.Frag) (ok : List D → D → Option Int) : V → List V → Hp → VK → Prop := fun x xs H Q => ∃ a ws ds y d k, x = .ref a ∧ xs = [y] ∧ SqL K H a ws ∧ Reps K H ds ws ∧ Rep K H d y ∧ ok ds d = some k ∧ Q (.int k) H
def findOk (l : List D) (d : D) : Bool := PyData.plainAll l && d.plain && decide (min (PyData.depthAll l) d.depth ≤ 60) && decide (l.length ≤ 16777216)
def idxD (l : List D) (d : D) : Option Int := if findOk l d = true then (SeqAt.dataPlace l d).map fun (j : Nat) => (j : Int) else none
def cntD (l : List D) (d : D) : Option Int := if findOk l d = true then some ((l.countP fun y => PyData.eqv y d : Nat) : Int) else none
def findB (ok : List D → D → Option Int) (l : List D) : List D → Option D
  | [d] => (ok l d).map PyData.int
  | _ => none
theorem findOk_at {l : List D} {d : D} (h : findOk l d = true) : PyData.plainAll l = true ∧ d.plain = true ∧ min (PyData.depthAll l) d.depth ≤ 60 ∧ l.length ≤ 16777216 := by
  unfold findOk at h
  simp only [Bool.and_eq_true, decide_eq_true_eq] at h
  exact ⟨h.1.1.1, h.1.1.2, h.1.2, h.2⟩
theorem RepBs.here {K : PySem.W.Frag} {F H : Hp} (s : Same F H) {l : List D} {vs : List V} (h : Reps K F l vs) : Reps K H l vs := Reps.mono s _ _ h
theorem pm_find {K : PySem.W.Frag} {ok : List D → D → Option Int} : PM K (rFindD K ok) (findB ok) := fun F H x xs l ds e Q s h1 h2 hz q => by
  unfold findB at hz
  split at hz
  · rename_i d
    obtain ⟨k, hk, rfl⟩ := Option.map_eq_some_iff.mp hz
    obtain ⟨a, ws, rfl, q1, r1⟩ := h1.list s
    obtain ⟨y, rfl, ry⟩ := h2.one
    exact ⟨a, ws, l, y, d, k, rfl, rfl, .inl q1, Reps.mono s _ _ r1, ry.here s, hk, q _ F H (Fr.refl s) rep_int⟩
  · cases hz
section
variable {X : Cx}
theorem mt_idxD (hu : X.A.units + 64 < cLine) : MtR X "list.index" (rFindD X.K idxD) := by
  intro pins s σ H x xs v us Q I rx rxs h
  obtain ⟨a, ws, ds, y, d, k, rfl, rfl, hs, hr, hy, hk, q⟩ := h
  cases rx
  obtain ⟨uy, rfl, ry⟩ := vals1 rxs
  obtain ⟨bs, r1⟩ := Rep.reads I d y uy hy ry
  obtain ⟨its, rv, hl, hz⟩ := I.list hs
  obtain ⟨as, r2⟩ := Reps.reads I ds ws its hr rv
  unfold idxD at hk
  split at hk
  · rename_i ok
    obtain ⟨o1, o2, o3, o4⟩ := findOk_at ok
    obtain ⟨j, hj, rfl⟩ := Option.map_eq_some_iff.mp hk
    have r2' : ReadsAll s.heap its.toArray.toList ds as := by simpa using r2
    obtain ⟨hj1, hit, hno⟩ := SeqAt.hit_at r2' o1 hj
    have hlen := SeqAt.len_at r2'
    obtain ⟨⟨cls, dd, data, sl⟩, ho, hc, n, hd'⟩ := id hl.isList
    simp only at hc hd'
    subst hc hd'
    refine PySem.call_meets PySem.F.slot_list_index ⟨_, ho, rfl⟩ PySem.F.entry_list_index (PySem.F.args_list_index_2 _ _)
      (SeqAt.list_index2_found a its.toArray n dd sl uy (fun m => if hm : m < its.toArray.size then PyData.eqv (SeqAt.readOf s.heap its.toArray[m]) d else false) j hj1 (Nat.zero_le _) (by omega) ?_ ?_) ⟨ho, fun m hm => ?_, ?_⟩
    · simp only [hj1, dif_pos]; exact hit
    · intro m hm _ hlt; simp only [hm, dif_pos]; exact hno m hm hlt
    · simp only [hm, dif_pos]
      exact SeqAt.items_plain r2' r1 o1 o2 (by omega) _ (Array.getElem_mem hm)
    · exact ⟨.int j, H, I.tok _, ⟨_, rfl⟩, q⟩
  · cases hk
theorem mt_cntD (hu : X.A.units + 64 < cLine) : MtR X "list.count" (rFindD X.K cntD) := by
  intro pins s σ H x xs v us Q I rx rxs h
  obtain ⟨a, ws, ds, y, d, k, rfl, rfl, hs, hr, hy, hk, q⟩ := h
  cases rx
  obtain ⟨uy, rfl, ry⟩ := vals1 rxs
  obtain ⟨bs, r1⟩ := Rep.reads I d y uy hy ry
  obtain ⟨its, rv, hl, hz⟩ := I.list hs
  obtain ⟨as, r2⟩ := Reps.reads I ds ws its hr rv
  unfold cntD at hk
  split at hk
  · rename_i ok
    obtain ⟨o1, o2, o3, o4⟩ := findOk_at ok
    cases hk
    refine SeqAt.count_list_data (vs := its.toArray) hl.isList (by simpa using r2) r1 o1 o2 (by omega) ?_
    exact ⟨.int _, H, I.tok _, ⟨_, rfl⟩, q⟩
  · cases hk
end
/-! ### += of numbers -/
def sAug (i : Nat) (p : D → D → Option D) (e : Dn) : Sn := fun ρ => match ρ[i]? with
  | some (.val d) => (e ρ).st fun x ρ1 => match p d x with
    | some z => if notIo ρ1 i = true then .next (ρ1.set i (.val z)) else .no
    | none => .no
  | _ => .no
theorem ds_aug {X : Cx} {W : Wt} (i : Nat) {x : Str} {e : Expr} {d : Dn} {op : Operator} {f : Int → Int → Int} {p : D → D → Option D} {pos pos' : Pos} (hN : X.N.Nodup) (ho : PIp X op (ipI f)) (hp : ∀ a b z, p a b = some z → ∃ i j, a = .int i ∧ b = .int j ∧ z = .int (f i j)) (h : PE X e (tE X.K W d)) (hi : X.N[i]? = some x := by rfl) (hx : Loc X.env.scope x := by first | exact Or.inl rfl | exact Or.inr rfl)
    (hf : X.fn x = true ∨ X.env.scope.names.lookup x = some .local := by first | exact .inl rfl | exact .inr rfl | assumption) : PS X (.AugAssign (.Name x pos') op e pos) (tS X.K W (sAug i p d)) :=
  PS.imp (ps_aug hN hi hx h ho hf) fun D σ H ⟨ρ, F, s, q⟩ => by
    cases hr : ρ[i]? with
    | none => simp only [sAug, hr] at q; exact q.elim
    | some l =>
      cases l with
      | un => simp only [sAug, hr] at q; exact q.elim
      | own m b => simp only [sAug, hr] at q; exact q.elim
      | val d0 =>
        simp only [sAug, hr] at q
        obtain ⟨v, h1, h2⟩ := s.val i d0 hr
        refine ⟨v, h1, AfS.bind s q fun y w ρ1 F1 H1 g r z => ?_⟩
        cases hz : p d0 y with
        | none => simp only [hz] at z; exact z.elim
        | some t =>
          simp only [hz] at z
          obtain ⟨i', j', rfl, rfl, rfl⟩ := hp d0 y t hz
          by_cases hn : notIo ρ1 i = true
          · rw [if_pos hn] at z
            refine ⟨i', j', by simpa only [Rep] using h2, by simpa only [Rep] using r, z _ _ _ (g.sr.setV hn rep_int)⟩
          · rw [if_neg hn] at z; exact z.elim
def addI : D → D → Option D
  | .int i, .int j => some (.int (i + j))
  | _, _ => none
theorem addI_at (a b z : D) (h : addI a b = some z) : ∃ i j, a = .int i ∧ b = .int j ∧ z = .int (i + j) := by
  unfold addI at h
  split at h
  · cases h; exact ⟨_, _, rfl, rfl, rfl⟩
  · cases h
theorem subI_at (a b z : D) (h : subB a b = some z) : ∃ i j, a = .int i ∧ b = .int j ∧ z = .int (i - j) := by
  unfold subB at h
  split at h
  · cases h; exact ⟨_, _, rfl, rfl, rfl⟩
  · cases h
/-! ### new lists by operators -/
def PF2 (K : PySem.W.Frag) (r : R2) (p : D → D → Option (List D)) : Prop :=
  ∀ F H x y d d2 l Q, Same F H → RepB K F H d x → RepB K F H d2 y → p d d2 = some l → (∀ b vs, H b = none → Reps K F l vs → Q (.ref b) (upd H b (.lst vs))) → r x y H Q
def fOp2 (p : D → D → Option (List D)) (a b : An) : Fn := fun ρ => (a ρ).bind fun h ρ1 => (b ρ1).bind fun k ρ2 => ans (((look ρ2 h).bind fun d => (look ρ2 k).bind fun e => p d e).map Mo.lst) ρ2
def catB : D → D → Option (List D)
  | .list i, .list j => if i.length + j.length ≤ sizeLine then some (i ++ j) else none
  | _, _ => none
def repB : D → D → Option (List D)
  | .list l, .int k => if decide (0 ≤ k) && decide (k < 2 ^ 62) && decide (l.length * k.toNat ≤ sizeLine) then some (List.replicate k.toNat l).flatten else none
  | _, _ => none
def rRepL : R2 := fun x y H Q => ∃ l k xs, x = .ref l ∧ y = .int k ∧ Rd H l (.lst xs) ∧ 0 ≤ k ∧ k < 2 ^ 62 ∧ xs.length * k.toNat ≤ sizeLine ∧ ∀ p, H p = none → Q (.ref p) (upd H p (.lst (List.replicate k.toNat xs).flatten))
section
variable {X : Cx} {W : Wt} {e e2 : Expr} {a b : An} {pos : Pos}
theorem f2_imp {r : R2} {p : D → D → Option (List D)} (hp : PF2 X.K r p) {σ : Sg} {H : Hp} {Q : VK} (q : tF X.K W (fOp2 p a b) σ H Q) : tOp r (tA X.K W a) (tA X.K W b) σ H Q := by
  obtain ⟨ρ, F, s, q⟩ := q
  refine AfF.bind s q fun h v ρ1 F1 H1 g1 r1 z1 => AfF.bind g1.sr z1 fun k w ρ2 F2 H2 g2 r2 z2 => ?_
  obtain ⟨m, e0, q⟩ := ansF_some z2
  obtain ⟨l, e1, rfl⟩ := Option.map_eq_some_iff.mp e0
  obtain ⟨x, hx, e2⟩ := Option.bind_eq_some_iff.mp e1
  obtain ⟨y, hy, e3⟩ := Option.bind_eq_some_iff.mp e2
  exact hp F2 H2 v w x y l Q g2.sr.sub (look_rep g2.sr (r1.mono g2.sub) hx) (look_rep g2.sr r2 hy) e3 fun c vs n rv => AfF.new g2.sr q n rv
theorem df_op {op : Operator} {r : R2} {p : D → D → Option (List D)} (ho : OpR X (binaryOp op) r) (hp : PF2 X.K r p) (ha : PE X e (tA X.K W a)) (hb : PE X e2 (tA X.K W b)) : PE X (.BinOp e op e2 pos) (tF X.K W (fOp2 p a b)) :=
  PE.imp (pe_op ho ha hb) fun _ _ _ q => f2_imp hp q
theorem pf_cat {K : PySem.W.Frag} : PF2 K rCatL catB := fun F H x y d e z Q s h1 h2 hz q => by
  unfold catB at hz
  split at hz
  · split at hz
    · rename_i i j c
      cases hz
      obtain ⟨a, vs, rfl, q1, r1⟩ := h1.list s
      obtain ⟨b, ws, rfl, q2, r2⟩ := h2.list s
      have l1 := r1.length
      have l2 := r2.length
      exact ⟨a, b, vs, ws, rfl, rfl, q1, q2, by omega, fun p hp => q p _ hp (r1.append r2)⟩
    · cases hz
  · cases hz
theorem reps_rep {K : PySem.W.Frag} {F : Hp} {l : List D} {vs : List V} (h : Reps K F l vs) : ∀ n : Nat, Reps K F (List.replicate n l).flatten (List.replicate n vs).flatten
  | 0 => .nil
  | n + 1 => by
    rw [List.replicate_succ, List.replicate_succ, List.flatten_cons, List.flatten_cons]
    exact h.append (reps_rep h n)
theorem pf_rep {K : PySem.W.Frag} : PF2 K rRepL repB := fun F H x y d e z Q s h1 h2 hz q => by
  unfold repB at hz
  split at hz
  · split at hz
    · rename_i l k c
      cases hz
      simp only [Bool.and_eq_true, decide_eq_true_eq] at c
      obtain ⟨a, vs, rfl, q1, r1⟩ := h1.list s
      have l1 := r1.length
      exact ⟨a, k, vs, rfl, h2.int, q1, c.1.1, c.1.2, by rw [← l1]; exact c.2, fun p hp => q p _ hp (reps_rep r1 _)⟩
    · cases hz
  · cases hz
theorem op_repL : OpR X (binaryOp .Mult) rRepL := by
  intro pins s σ H x y v u Q I rx ry h
  obtain ⟨l, k, xs, rfl, rfl, hR, k0, k1, hz, q⟩ := h
  cases rx
  obtain ⟨tk, rfl⟩ := ry
  obtain ⟨us, cap, rv, eo⟩ := Inv.rdL I hR
  have hl := rv.length
  have z0 : us.toArray.size * k.toNat ≤ sizeLine := by rw [List.size_toArray, ← hl]; exact hz
  have zc : ¬ us.toArray.size * k.toNat > (2 ^ 63 - 1) / 8 := by
    have : sizeLine ≤ (2 ^ 63 - 1) / 8 := by decide
    omega
  have zf : ¬ (!Builtin.List.listFitsIndex k) = true := by rw [fitsIndex_both (by omega) (by omega)]; exact Bool.false_ne_true
  have zl : ¬ Builtin.List.listTooLong (us.toArray.size * k.toNat) = true := by rw [notLongL z0]; exact Bool.false_ne_true
  have en : List.foldl (fun c1 c2 => c1 ++ c2) #[] (List.replicate (if us.toArray.isEmpty = true then 0 else k.toNat) us.toArray) = (List.replicate k.toNat us).flatten.toArray := by
    have g0 : ∀ m : Nat, List.foldl (fun c1 c2 => c1 ++ c2) #[] (List.replicate m us.toArray) = (List.replicate m us).flatten.toArray := fun m => by
      have w0 := foldl_rep us m []
      rwa [List.nil_append] at w0
    rw [g0]
    cases us with
    | nil => simp
    | cons c us => rw [if_neg (by simp)]
  refine wpAny_binaryOp_repeat_ref (U := "int") (T := "list") (by decide) ⟨_, eo, rfl⟩ (fun s' => typeIs_int s' k tk) noFill_list_mul F.fills_int_mul F.slot_int_rmul repeat_list F.slot_int_index.lookup
    (call_meets F.slot_int_rmul (typeIs_int s k tk) F.entry_int_rmul (F.args_int_rmul_2 _ _) (int___rmul___int_list k tk l us.toArray cap)
      ⟨eo, rfl, ⟨_, eo, rfl⟩, call_meets F.slot_list_mul ⟨_, eo, rfl⟩ F.entry_list_mul (F.args_list_mul_2 _ _) (AutoListH.list___mul___list_int_3 l us.toArray cap k tk zf zc zl) ⟨eo, ?_⟩⟩)
  rw [en]
  exact ⟨.ref _, _, I.lnew (t' := s.toks) (rv.rep k.toNat) (by rw [PyProof.Rows.lm_len_rep_flat, Nat.mul_comm]; exact hz), rfl, q _ I.fresh⟩
end
/-! ### what is not reached -/
def sNo : Sn := fun _ => .no
def dNo : Dn := fun _ => .no
theorem ds_no {X : Cx} {W : Wt} {st : Stmt} : PS X st (tS X.K W sNo) := ⟨fun _ _ _ _ _ _ ⟨_, _, _, q⟩ => q.elim⟩
theorem de_no {X : Cx} {W : Wt} {e : Expr} : PE X e (tE X.K W dNo) := ⟨fun _ _ _ _ _ _ ⟨_, _, _, q⟩ => q.elim⟩
/-! ### tuple(range(..)) -/
def rng1T (ds : List D) : Option D := (rng1L ds).map PyData.tuple
def rng2T (ds : List D) : Option D := (rng2L ds).map PyData.tuple
section
variable {X : Cx} {W : Wt} {e e2 : Expr} {a b : An} {pos p p2 pos2 : Pos}
theorem de_tupRg1 (hc : X.calm = true) (hm : X.mg "tuple" = none) (hm2 : X.mg "range" = none) (ha : PE X e (tA X.K W a)) (hg : Gl X "tuple" := by rfl) (hg2 : Gl X "range" := by rfl) (na : starEach [e] X.env = (false, eval e X.env) :: starEach [] X.env := by rfl)
    (nb : starEach [.Call (.Name "range" p2) [e] [] pos2] X.env = (false, eval (.Call (.Name "range" p2) [e] [] pos2) X.env) :: starEach [] X.env := by rfl) :
    PE X (.Call (.Name "tuple" p) [.Call (.Name "range" p2) [e] [] pos2] [] pos) (tE X.K W (dOpN rng1T (aCons a aNil))) :=
  PE.imp (pe_tupRg hc hg hm (prg_1 hg2 hm2 ha na) nb) fun σ H Q ⟨ρ, F, s, q⟩ => by
    have e1 : dOpN rng1T (aCons a aNil) ρ = (a ρ).bind fun h ρ1 => ans ((looks ρ1 [h]).bind rng1T) ρ1 := by
      unfold dOpN aCons aNil
      cases a ρ <;> rfl
    rw [e1] at q
    refine Af.bind s q fun h v ρ1 F1 H1 g r q1 => ?_
    obtain ⟨z, e, q⟩ := ans_some q1
    obtain ⟨ds, hd, e2⟩ := Option.bind_eq_some_iff.mp e
    obtain ⟨l, e3, rfl⟩ := Option.map_eq_some_iff.mp e2
    have rb := looks_rep g.sr (.cons r .nil) hd
    obtain ⟨j, rfl, h1, h2, rfl, h3⟩ := rng1L_at e3
    obtain ⟨w, ew, rw_⟩ := rb.one
    cases ew
    refine ⟨j, rw_.int, ⟨by decide, by decide, h1, h2, h3⟩, fun p hp => ?_⟩
    obtain ⟨f, ru⟩ := new_tuple (K := X.K) g.sr.sub hp reps_rg
    exact q.okf g.sr f ru
end
/-! ### the top's constants -/
structure GC (mg : Str → Option Value) (x : Str) (d : D) : Prop where
  ex : ∃ u, mg x = some u ∧ ((∃ i t, d = .int i ∧ u = .int i t) ∨ ∃ c t, d = .str c ∧ u = .str c t)
theorem de_glob {X : Cx} {W : Wt} {x : Str} {d : D} {pos : Pos} (c : GC X.mg x d) (hg : Gl X x := by rfl) (hd : (x == ("__debug__" : Str)) = false := by decide) : PE X (.Name x pos) (tE X.K W (dC d)) := by
  obtain ⟨u, h1, h2⟩ := c.ex
  rcases h2 with ⟨i, t, rfl, rfl⟩ | ⟨i, t, rfl, rfl⟩
  · exact de_c (pe_glob (v := .int i) hg h1 ⟨t, rfl⟩ hd) rep_int
  · exact de_c (pe_glob (v := .str i) hg h1 ⟨t, rfl⟩ hd) rep_str
end Ft
/-! Ft14: steps of Ft13's combinators. -/
namespace Ft
open PySem L2
open PySem.W (alike alikeAll dataLt dataLe)
section
variable {ρ : Rho} {i : Nat} {d e : Dn} {a : An} {as : Ans} {x y z : D} {l ds : List D}
def mlK3 (p : List D → List D → Option D) : Option D → Option (List D) → Option D
  | some (.list l), some ds => p l ds
  | _, _ => none
def mlK2 (p : List D → List D → Option D) (h : Hd) (hs : List Hd) (ρ : Rho) : RE D := ans (mlK3 p (look ρ h) (looks ρ hs)) ρ
def mlK1 (p : List D → List D → Option D) (as : Ans) (h : Hd) (ρ : Rho) : Option D → RE D
  | some (.list _) => (as ρ).bind (mlK2 p h)
  | _ => .no
def mlK (p : List D → List D → Option D) (as : Ans) (h : Hd) (ρ : Rho) : RE D := mlK1 p as h ρ (look ρ h)
theorem ev_dMl {p : List D → List D → Option D} : dMl p a as ρ = (a ρ).bind (mlK p as) := by
  unfold dMl
  refine bind_ext fun h ρ1 => ?_
  unfold mlK
  cases look ρ1 h with
  | none => rfl
  | some d =>
    cases d with
    | list l =>
      show (as ρ1).bind _ = (as ρ1).bind _
      refine bind_ext fun hs ρ2 => ?_
      unfold mlK2 mlK3
      cases look ρ2 h with
      | none => rfl
      | some d =>
        cases looks ρ2 hs with
        | none => cases d <;> rfl
        | some ds => cases d <;> rfl
    | none => rfl
    | bool _ => rfl
    | int _ => rfl
    | str _ => rfl
    | tuple _ => rfl
    | dict _ => rfl
theorem ev_mlK {p : List D → List D → Option D} {h : Hd} : mlK p as h ρ = mlK1 p as h ρ (look ρ h) := rfl
theorem ev_mlK1 {p : List D → List D → Option D} {h : Hd} : mlK1 p as h ρ (some (.list l)) = (as ρ).bind (mlK2 p h) := rfl
theorem ev_mlK2 {p : List D → List D → Option D} {h : Hd} {hs : List Hd} : mlK2 p h hs ρ = ans (mlK3 p (look ρ h) (looks ρ hs)) ρ := rfl
theorem ev_mlK3 {p : List D → List D → Option D} : mlK3 p (some (.list l)) (some ds) = p l ds := rfl
def augK3 (i : Nat) (ρ : Rho) : Option D → RS
  | some z => putK2 (notIo ρ i) i (.val z) ρ
  | none => .no
def augK2 (i : Nat) (p : D → D → Option D) (d : D) (x : D) (ρ : Rho) : RS := augK3 i ρ (p d x)
def augK (i : Nat) (p : D → D → Option D) (e : Dn) (ρ : Rho) : Option LV → RS
  | some (.val d) => (e ρ).st (augK2 i p d)
  | _ => .no
theorem ev_sAug {p : D → D → Option D} : sAug i p e ρ = augK i p e ρ (ρ[i]?) := by
  unfold sAug augK
  cases ρ[i]? with
  | none => rfl
  | some w =>
    cases w with
    | un => rfl
    | own _ _ => rfl
    | val d =>
      show (e ρ).st _ = (e ρ).st _
      refine st_ext fun x ρ1 => ?_
      unfold augK2 augK3
      cases p d x <;> rfl
theorem ev_augK {p : D → D → Option D} : augK i p e ρ (some (.val x)) = (e ρ).st (augK2 i p x) := rfl
theorem ev_augK2 {p : D → D → Option D} : augK2 i p x y ρ = augK3 i ρ (p x y) := rfl
theorem ev_augK3 : augK3 i ρ (some z) = putK2 (notIo ρ i) i (.val z) ρ := rfl
theorem ev_addI {i j : Int} : addI (.int i) (.int j) = some (.int (i + j)) := rfl
theorem ev_rng1T {o : List D} : rng1T o = (rng1L o).map PyData.tuple := rfl
def apF (p : D → D → Option (List D)) : Option D → Option D → Option (List D)
  | some d, some e => p d e
  | _, _ => none
def fop2L (p : D → D → Option (List D)) (h k : Hd) (ρ : Rho) : RE Mo := ans ((apF p (look ρ h) (look ρ k)).map Mo.lst) ρ
def fop2K (p : D → D → Option (List D)) (b : An) (h : Hd) (ρ : Rho) : RE Mo := (b ρ).bind (fop2L p h)
theorem ev_fOp2 {p : D → D → Option (List D)} {b : An} : fOp2 p a b ρ = (a ρ).bind (fop2K p b) := by
  unfold fOp2
  refine bind_ext fun h ρ1 => ?_
  unfold fop2K
  refine bind_ext fun k ρ2 => ?_
  unfold fop2L apF
  cases look ρ2 h with
  | none => rfl
  | some d => cases look ρ2 k <;> rfl
theorem ev_fop2K {p : D → D → Option (List D)} {b : An} {h : Hd} : fop2K p b h ρ = (b ρ).bind (fop2L p h) := rfl
theorem ev_fop2L {p : D → D → Option (List D)} {h k : Hd} : fop2L p h k ρ = ans ((apF p (look ρ h) (look ρ k)).map Mo.lst) ρ := rfl
theorem ev_apF {p : D → D → Option (List D)} : apF p (some x) (some y) = p x y := rfl
theorem ev_cat {l m : List D} (h : l.length + m.length ≤ 16000000) : catB (.list l) (.list m) = some (l ++ m) := if_pos (Nat.le_trans h (by decide))
theorem rep_flat {v : D} : ∀ n : Nat, (List.replicate n [v]).flatten = List.replicate n v
  | 0 => rfl
  | n + 1 => by rw [List.replicate_succ, List.flatten_cons, rep_flat n, List.replicate_succ]; rfl
theorem rep_ok {v : D} {n : Nat} (h : n ≤ 16000000) : repB (.list [v]) (.int n) = some (List.replicate n v) := by
  have e1 : (n : Int).toNat = n := Int.toNat_natCast n
  have c : (decide ((0 : Int) ≤ n) && decide ((n : Int) < 2 ^ 62) && decide ([v].length * (n : Int).toNat ≤ sizeLine)) = true := by
    have a1 : decide ((0 : Int) ≤ n) = true := decide_eq_true (by omega)
    have a2 : decide ((n : Int) < 2 ^ 62) = true := decide_eq_true (by omega)
    have a3 : decide ([v].length * (n : Int).toNat ≤ sizeLine) = true := decide_eq_true (by rw [e1, List.length_singleton, Nat.one_mul]; exact Nat.le_trans h (by unfold sizeLine; omega))
    rw [a1, a2, a3]; rfl
  unfold repB
  simp only
  rw [c, e1, rep_flat]
  rfl
theorem ev_max2 {i j : Int} : max2B [.int i, .int j] = some (.int (if j > i then j else i)) := rfl
theorem ev_min2 {i j : Int} : min2B [.int i, .int j] = some (.int (if j < i then j else i)) := rfl
theorem ev_find {ok : List D → D → Option Int} : findB ok l [x] = (ok l x).map PyData.int := rfl
end
/-! ### sorted integers -/
def srt (l : List Int) : List Int := l.mergeSort fun a b => decide (a ≤ b)
theorem dLe_int {i j : Int} : dLe (.int i) (.int j) = decide (i ≤ j) := by
  have := congrFun (congrFun (PySem.W.dataLe_int (β := Int) id) i) j
  exact this
theorem srt_perm (l : List Int) : (srt l).Perm l := List.mergeSort_perm _ _
theorem srt_sorted (l : List Int) : (srt l).Pairwise (· ≤ ·) := by
  have := List.pairwise_mergeSort (le := fun a b : Int => decide (a ≤ b)) (fun a b c => by simp; omega) (fun a b => by simp; omega) l
  exact this.imp fun h => by simpa using h
theorem map_mergeSort {l : List Int} : (l.map PyData.int).mergeSort dLe = (srt l).map PyData.int := by
  unfold srt
  rw [List.map_mergeSort]
  intro a _ b _
  exact dLe_int.symm
theorem alike_ii : ∀ {l : List Int}, ((l.map PyData.int).all fun d => (l.map PyData.int).all fun e => alike d e) = true := by
  intro l
  simp only [List.all_eq_true, List.mem_map]
  rintro _ ⟨a, _, rfl⟩ _ ⟨b, _, rfl⟩
  simp [PySem.W.alike]
theorem sort_ints {l : List Int} (h : l.length ≤ 16777216) : sortB [.list (l.map PyData.int)] = some ((srt l).map PyData.int) := by
  show (if sortOk (l.map PyData.int) = true then some ((l.map PyData.int).mergeSort dLe) else none) = _
  rw [if_pos, map_mergeSort]
  unfold sortOk
  simp only [Bool.and_eq_true, alike_ii, true_and, Bool.or_eq_true, decide_eq_true_eq, List.length_map]
  refine ⟨⟨.inr (.inl ?_), ?_⟩, h⟩
  · simp only [List.all_eq_true, List.mem_map]
    rintro _ ⟨a, _, rfl⟩
    rfl
  · simp only [List.all_eq_true, List.mem_map, decide_eq_true_eq]
    rintro _ ⟨a, _, rfl⟩
    simp [PyData.depth]
theorem rng1L_ok {j : Int} (h : j ≤ 16777216) (h2 : -1000000 ≤ j) : rng1L [.int j] = some (rangeL 0 j) := by
  unfold rng1L
  rw [ev_rng1 (by omega) (by omega)]
  show (if (rangeL 0 j).length ≤ 16777216 then some (rangeL 0 j) else none) = _
  rw [if_pos (by rw [rangeL_len]; omega)]
end Ft
/-! Ft16: dict displays that are never changed. -/
namespace Ft
open PySem L2 PySem.Spec PyProof.Rows
def vL : List Dn → Vn
  | [] => vNil
  | d :: ds => vCons d (vL ds)
/-- a display with constant keys: a tree -/
def dDict (ks : List Key) (ds : List Dn) : Dn := fun ρ => (vL ds ρ).bind fun l ρ1 => ans (if decide ks.Nodup && decide (ks.length = l.length) && decide (ks.length ≤ 15) then some (.dict ((ks.map kD).zip l)) else none) ρ1
def trs (K : PySem.W.Frag) (W : Wt) : List Key → List Dn → List (TE × TE)
  | k :: ks, d :: ds => (tC (kV k), tE K W d) :: trs K W ks ds
  | _, _ => []
theorem mergeK_nodup : ∀ (kvs acc : List (Key × V)), ((acc ++ kvs).map (·.1)).Nodup → mergeK acc kvs = acc ++ kvs
  | [], acc, _ => by simp [mergeK]
  | (k, v) :: kvs, acc, h => by
    have hk : valV acc k = none := by
      cases e : valV acc k with
      | none => rfl
      | some w =>
        have : k ∈ acc.map (·.1) := by
          have h2 : (acc.any fun kv => decide (kv.1 = k)) = true := by rw [valV_any, e]; rfl
          obtain ⟨p, hp, hq⟩ := List.any_eq_true.mp h2
          exact List.mem_map.mpr ⟨p, hp, by simpa using hq⟩
        rw [List.map_append, List.map_cons] at h
        have := (List.nodup_append.mp h).2.2 _ this _ (List.mem_cons_self ..)
        exact absurd rfl this
    show mergeK (putK acc k v) kvs = _
    rw [putK_new v hk, mergeK_nodup kvs (acc ++ [(k, v)]) (by simpa using h)]
    simp
section
variable {K : PySem.W.Frag} {W : Wt}
theorem pairs_imp : ∀ (ks : List Key) (ds : List Dn), ks.length = ds.length → ∀ {ρ : Rho} {σ : Sg} {F H : Hp} {R : List (V × V) → Hp → Prop}, SR K ρ σ F H → Af K W (RV K) ρ σ F H (fun vs H3 => R ((ks.map kV).zip vs) H3) (vL ds ρ) → tPairs (trs K W ks ds) σ H R
  | [], [], _, ρ, σ, F, H, R, s, q => by
    exact q [] F H (Go.refl s) .nil
  | k :: ks, d :: ds, hl, ρ, σ, F, H, R, s, q => by
    refine Af.bind (R2 := RV K) (Q2 := fun vs H3 => R (((k :: ks).map kV).zip vs) H3) s q fun x v ρ1 F1 H1 g r z => ?_
    refine pairs_imp ks ds (by simpa using hl) g.sr ?_
    cases hv : vL ds ρ1 with
    | no => rw [hv] at z; exact z
    | ex x ρ2 => rw [hv] at z; exact z
    | ok l ρ2 =>
      rw [hv] at z
      exact fun vs F2 H2 g2 r2 => z (v :: vs) F2 H2 g2 (.cons (Rep.mono g2.sub _ _ r) r2)
  | [], _ :: _, hl, _, _, _, _, _, _, _ => by cases hl
  | _ :: _, [], hl, _, _, _, _, _, _, _ => by cases hl
theorem repP_zip : ∀ {ks : List D} {ds : List D} {vs : List V} {F : Hp}, ks.length = ds.length → Reps K F ds vs → RepP K F (ks.zip ds) vs
  | [], [], vs, F, _, h => by
    rw [reps_nil] at h
    subst h
    simp [RepP]
  | k :: ks, d :: ds, vs, F, hl, h => by
    obtain ⟨v, r, rfl, h1, h2⟩ := reps_cons.mp h
    simp only [List.zip_cons_cons, RepP]
    exact ⟨v, r, rfl, h1, repP_zip (by simpa using hl) h2⟩
  | [], _ :: _, _, _, hl, _ => by cases hl
  | _ :: _, [], _, _, hl, _ => by cases hl
end
section
variable {X : Cx} {W : Wt} {pos : Pos}
theorem zip_kV : ∀ (ks : List Key) (vs : List V), (ks.map kV).zip vs = (ks.zip vs).map fun kv => (kV kv.1, kv.2)
  | [], _ => by simp
  | _ :: _, [] => by simp
  | k :: ks, v :: vs => by simp [zip_kV ks vs]
theorem disp_imp {ks : List Key} {ds : List Dn} (hl : ks.length = ds.length) {σ : Sg} {H : Hp} {Q : VK} (q : tE X.K W (dDict ks ds) σ H Q) : tDisp (trs X.K W ks ds) σ H Q := by
  obtain ⟨ρ, F, s, q⟩ := q
  intro p hp
  have f : Fr F H F (upd H p (.dK [])) := Fr.own1 s.sub hp
  have s1 := s.fr f
  refine pairs_imp ks ds hl s1 ?_
  unfold dDict at q
  cases hv : vL ds ρ with
  | no => rw [hv] at q; exact q
  | ex x ρ1 => rw [hv] at q; exact fun c dx F' H' g z => q c dx F' H' ((f.go s).trans g) z
  | ok l ρ1 =>
    rw [hv] at q
    intro vs F3 H3 g r
    obtain ⟨z, e, q⟩ := ans_some q
    split at e
    · rename_i c
      cases e
      simp only [Bool.and_eq_true, decide_eq_true_eq] at c
      obtain ⟨⟨c1, c2⟩, c3⟩ := c
      have lv := r.length
      have np : ¬ Own ρ σ p := fun z => by
        obtain ⟨o, e⟩ := z.there s
        rw [hp] at e; cases e
      obtain ⟨k1, k2, k3⟩ := g.keep p _ upd_same np
      have k2 := k2 (fun _ h => by cases h) (sub_none s.sub hp)
      have hz : (ks.zip vs).length = ks.length := by rw [List.length_zip]; omega
      have hm : mergeK [] (ks.zip vs) = ks.zip vs := by
        have := mergeK_nodup (ks.zip vs) [] (by
          rw [List.nil_append, List.map_fst_zip (by omega)]; exact c1)
        rwa [List.nil_append] at this
      refine ⟨k1, ks.zip vs, zip_kV ks vs, by omega, ?_⟩
      rw [hm]
      have g2 := ((f.go s).trans g).grow (o := .dK (ks.zip vs)) hp k2 k3
      have g3 := g2.freeze hp k2 upd_same k3
      refine q _ _ _ g3 ?_
      have sm : Same F3 (upd F3 p (.dK (ks.zip vs))) := upd_same' k2
      show Rep X.K (upd F3 p (.dK (ks.zip vs))) (.dict ((ks.map kD).zip l)) (.ref p)
      simp only [Rep]
      refine ⟨p, vs, rfl, .inl ⟨ks.zip vs, .inl upd_same, ?_, ?_⟩, repP_zip (by rw [List.length_map]; exact c2) (Reps.mono sm _ _ r)⟩
      · have e2 : (ks.zip vs).map (fun e => kD e.1) = ((ks.zip vs).map (·.1)).map kD := by rw [List.map_map]; rfl
        rw [List.map_fst_zip (by rw [List.length_map]; omega), e2, List.map_fst_zip (by omega)]
      · rw [List.map_snd_zip (by omega)]
    · cases e
theorem de_dict {keys : List (Option Expr)} {values : List Expr} {ks : List Key} {ds : List Dn} (h : PPs X pos keys values (trs X.K W ks ds)) (hl : ks.length = ds.length) (hall : keys.all (·.isSome) = true) (hkv : keys.length = values.length) (h0 : keys ≠ []) (h15 : keys.length ≤ 15) : PE X (.Dict keys values pos) (tE X.K W (dDict ks ds)) :=
  PE.imp (pe_disp h hall hkv h0 h15) fun _ _ _ q => disp_imp hl q
theorem de_dict0 : PE X (.Dict [] [] pos) (tE X.K W (dDict [] [])) := PE.imp pe_dnewK fun σ H Q ⟨ρ, F, s, q⟩ => by
  intro p hp
  have q : Af X.K W (RD X.K) ρ σ F H Q (.ok (.dict []) ρ) := q
  have f := Fr.new1 (o := .dK []) s.sub hp
  refine q.okf s f ?_
  show Rep X.K (upd F p (.dK [])) (.dict []) (.ref p)
  simp only [Rep]
  exact ⟨p, [], rfl, .inl ⟨[], .inl upd_same, rfl, rfl⟩, by simp [RepP]⟩
theorem pps_nilD : PPs X pos [] [] (trs X.K W [] []) := pps_nil
theorem pps_str {x : Str} {v : Expr} {p2 : Pos} {ks : List (Option Expr)} {vs : List Expr} {kl : List Key} {d : Dn} {ds : List Dn} {n : Nat} (hv : PE X v (tE X.K W d)) (hr : PPs X pos ks vs (trs X.K W kl ds)) : PPs X pos (some (.Constant (.str x) n p2) :: ks) (v :: vs) (trs X.K W (.inr x :: kl) (d :: ds)) := pps_cons pe_str hv hr
theorem pps_int {x : Int} {v : Expr} {p2 : Pos} {ks : List (Option Expr)} {vs : List Expr} {kl : List Key} {d : Dn} {ds : List Dn} {n : Nat} (hv : PE X v (tE X.K W d)) (hr : PPs X pos ks vs (trs X.K W kl ds)) : PPs X pos (some (.Constant (.int x) n p2) :: ks) (v :: vs) (trs X.K W (.inl x :: kl) (d :: ds)) := pps_cons pe_int hv hr
end
/-! ### steps -/
def dictK (ks : List Key) (l : List D) (ρ : Rho) : RE D := ans (if decide ks.Nodup && decide (ks.length = l.length) && decide (ks.length ≤ 15) then some (.dict ((ks.map kD).zip l)) else none) ρ
theorem ev_dDict {ks : List Key} {ds : List Dn} {ρ : Rho} : dDict ks ds ρ = (vL ds ρ).bind (dictK ks) := rfl
theorem ev_dictK0 {ρ : Rho} : dictK [] [] ρ = .ok (.dict []) ρ := rfl
theorem ev_dictK1 {k : Key} {x : D} {ρ : Rho} : dictK [k] [x] ρ = .ok (.dict [(kD k, x)]) ρ := by
  unfold dictK
  rw [if_pos (by simp)]
  rfl
theorem ev_vL0 {ρ : Rho} : vL [] ρ = vNil ρ := rfl
theorem ev_vL1 {d : Dn} {ds : List Dn} {ρ : Rho} : vL (d :: ds) ρ = vCons d (vL ds) ρ := rfl
end Ft
/-! Ft17: the law's own def where nothing is being shown (for repr). -/
namespace Ft
open PySem L2 PySem.Spec PyProof.Rows
/-- the promise of a def, where no repr is under way -/
structure FnG (P : Program) (w : World) (K : PySem.W.Frag) (mg : Str → Option Value) (base : Heap) (CX : CXT) (k : Nat) (f : Addr) (fd : FuncData) (ps : List Str) (sp : Sp) : Prop where
  go : ∀ (A : Around) (outer : List Env) (s : Shared) (H : Hp) (as : Args) (us : List Value) (vs : List V) (Q : VK) (E : XK), A.guards = some [] → Room k A → Env0 P w K mg base A outer s H → BindsTo s fd as (ps.zip us) → Vals vs us → sp vs H Q E →
    codeAny (model P w) A (.call (.ref f) as) (CR CX outer P w H s Q E) s
theorem fnG {CX : CXT} {P : Program} {w : World} {K : PySem.W.Frag} {mg : Str → Option Value} {base : Heap} {k : Nat} {f : Addr} {x qual : Str} {st : Stmt} {fd : FuncData} {N ps : List Str} {sp : Sp} (Fx : Fun K x qual st f fd) (S : FnScope N ps (defScope st))
    (len : ∀ vs H Q E, sp vs H Q E → vs.length = ps.length)
    (hb : ∀ (cdv : Value) (A : Around) (outer : List Env) (s : Shared) (H : Hp) (vs : List V) (Q : VK) (E : XK), A.guards = some [] → Room k (A.deeper (envOfC qual (defScope st) s.heap.objs.size f cdv)) → sp vs H Q E →
      ∃ t, PSs (cxOf CX P w K mg base N qual (defScope st) f cdv A outer s H E) (defBody st) t ∧ t { nx := fun _ H' => Q .non H', rt := Q } (L2.start N vs) H) : FnG P w K mg base CX (k + 1) f fd ps sp := by
  obtain ⟨oc, od, kV, doc, pm, an, cdv, ct, osl, rfl, lk, hcd⟩ := Fx.ex
  constructor
  intro A outer s H as us vs Q E hg hr e0 bd rv hsp
  have nl := len _ _ _ _ hsp
  have kin := e0.mod.kin.keeps fun b o e => (e0.bs b o e).1
  have lim := e0.mod.nolimit.keeps fun b o e => (e0.bs b o e).1
  refine codeAny_call_function hr.depth (kin _ _ lk) rfl S.co S.gen rfl (PySem.W.codeRec_of kin hcd) (bd _ _ _ _ ?_)
  refine wpAny_newFunctionEnv_cells S.kind ?_ fun env he s1 ic => ?_
  · rintro ⟨n, v⟩ hy
    exact (S.par n (List.of_mem_zip hy).1).imp id fun q => ⟨q, PySem.W.cellsFrom_some _ _ _ (.inl q)⟩
  · subst he
    refine ⟨lim.keeps ic.toInCall.keep, codeAny_func ?_⟩
    obtain ⟨t, ht, hq⟩ := hb cdv A outer s H vs Q E hg (hr.deeper _) hsp
    have I := inv_start (CX := CX) (P := P) (w := w) (K := K) (mg := mg) (base := base) (qual := qual) (f := f) (cd := cdv) (E := E) S hr.hd e0 nl rv ic
    refine wpAny_mono (ht.run [] s1 (L2.start N vs) H _ I hq) (fun fl s' z => ?_) fun _ _ z => z
    cases fl with
    | ret u =>
      obtain ⟨v, σ', H', J, r, q⟩ := z
      exact ⟨v, H', J.os, J.bare, J.base, J.hok, r, q⟩
    | next =>
      obtain ⟨σ', H', J, q⟩ := z
      exact ⟨.non, H', J.os, J.bare, J.base, J.hok, rfl, q⟩
    | brk => exact z.elim fun _ z => z.elim fun _ z => z.2.elim
    | cont => exact z.elim fun _ z => z.elim fun _ z => z.2.elim
/-- the head's call, where no repr is under way -/
theorem law_callG {P : Program} {w : World} {K : PySem.W.Frag} {mg mb : Str → Option Value} {CX : CXT} {k : Nat} {fa a : Addr} {fd : FuncData} {x : Str} {sp : Sp} {s₁ : Shared} {us : List Value} {ns : List Int} (KX : K.In s₁.heap) (h1 : s₁.heap.Ns mainGlobals mg) (h2 : s₁.heap.Ns builtinsNs mb)
    (h3 : ∀ x : Str, x ≠ "__name__" → mb x = bootBuiltins x) (h4 : s₁.heap.NoLimit) (h5 : s₁.gens = #[]) (ha : s₁.heap.get? a = some { cls := .type "list", data := .seq us.toArray }) (hi : IntsAre us ns) (hl : ns.length ≤ sizeLine) (hr : Room k callerA) (nl : noL K = true)
    (F : ∀ base : Heap, K.In base → base.Ns mainGlobals mg → FnG P w K mg base CX k fa fd [x] sp) (hbd : ∀ (s : Shared) (u : Value), BindsTo s fd ⟨[u], []⟩ [(x, u)])
    (hsp : ∀ H : Hp, Rd H a (.lst (ns.map V.int)) → sp [.ref a] H (fun v _ => v = .bl true) fun _ _ _ => False) (hCX : ∀ H e s', CX [] H s₁ (fun _ _ _ => False) e s' → False) :
    codeAny (model P w) callerA (.call (.ref fa) ⟨[.ref a], []⟩) (fun r s' => r = .ok (.ret (.bool true)) ∧ OldK s₁.heap s'.heap ∧ s'.os = s₁.os ∧ AllBare s'.gens) s₁ := by
  have nK : K.lookup a = none := by
    cases e : K.lookup a with
    | none => rfl
    | some o =>
      have e2 := KX a o e
      rw [ha] at e2
      cases e2
      exact absurd rfl (noL_at nl e)
  let oL : Obj := { cls := .type "list", data := .seq us.toArray }
  let H : Hp := fun b => if b = a then some (.frz oL (.lst (ns.map V.int))) else none
  have Ha : H a = some (.frz oL (.lst (ns.map V.int))) := if_pos rfl
  have Hn : ∀ {b : Addr}, b ≠ a → H b = none := fun n => if_neg n
  have rv := vals_ints hi
  have hok : HOk P w H s₁.heap := fun b u z => by
    by_cases hb : b = a
    · subst hb
      rw [Ha] at z
      cases z
      exact ⟨ha, by rw [List.length_map]; exact hl, us, _, rv, ha⟩
    · rw [Hn hb] at z
      cases z
  -- what isn't the script stays in the base
  have keep : ∀ {b : Addr} {o : Obj}, s₁.heap.get? b = some o → b ≠ a → (hidT s₁.heap H).get? b = some o := fun e n => hidT_get e (Hn n)
  have tab : ∀ {b : Addr} {m : Str → Option Value}, s₁.heap.Ns b m → (hidT s₁.heap H).Ns b m := fun {b m} ⟨o, es, ep, e, d, r⟩ => by
    refine ⟨o, es, ep, keep e (fun z => ?_), d, r⟩
    subst z
    rw [ha] at e
    cases e
    have d2 : Data.seq us.toArray _ = Data.dict es ep := d
    cases d2
  have Kb : K.In (hidT s₁.heap H) := fun b o e => keep (KX b o e) fun z => by
    subst z
    rw [nK] at e
    cases e
  obtain ⟨mc, l1, l2⟩ := h4
  have e0 : Env0 P w K mg (hidT s₁.heap H) callerA [] s₁ H :=
    { frames := rfl, mod := ⟨Kb, tab h1, ⟨mb, tab h2, h3⟩, ⟨mc, tab l1, l2⟩⟩, bs := (fun b o e => of_hidT e), bsz := Nat.le_of_eq (hidT_size _ _), funs := trivial, frf := (fun b hb => by cases hb), hok := hok, bare := .of_eq h5 }
  refine codeAny_mono ((F _ Kb (tab h1)).go callerA [] s₁ H ⟨[.ref a], []⟩ [.ref a] [.ref a] _ _ rfl hr e0 (hbd s₁ (.ref a)) (.cons rfl .nil) (hsp H (.inr ⟨oL, Ha⟩))) fun r s' h => ?_
  cases r with
  | error e => exact (hCX H e s' h).elim
  | ok fl =>
    cases fl with
    | next => exact h.elim
    | brk => exact h.elim
    | cont => exact h.elim
    | ret u =>
      obtain ⟨v, H', os, bare, un, hok', r', q⟩ := h
      obtain rfl : v = .bl true := q
      obtain rfl : u = Value.bool true := r'
      refine ⟨rfl, OldK.of_keep fun b o e => ?_, os, bare⟩
      by_cases hb : b = a
      · subst hb
        have z2 := un.frzs b oL _ Ha
        obtain ⟨e1, _⟩ := hok b _ Ha
        obtain ⟨e2, _⟩ := hok' b _ z2
        rw [e] at e1
        cases e1
        exact e2
      · exact un.keep b o e (Hn hb) (fun z => by cases z) (by simp)
theorem law_fnG {P : Program} {w : World} {K : PySem.W.Frag} {mg : Str → Option Value} {fa : Addr} {xr : XR} {st : Stmt} {k : Nat} {g : Cn} (d : Df K mg "law" st) (hfa : mg "law" = some (.ref fa))
    (hb : ∀ (kV doc pm : Value) (an : Option Addr) (cdv ct : Value) (us : List Value), us.length = 1 → bindArgs (PySem.W.fnOf "law" "law" (defArgs st) (defBody st) (defScope st) .none kV doc pm an cdv ct) ⟨us, []⟩ = pure ((["script"] : List Str).zip us))
    (F : ∀ base : Heap, K.In base → base.Ns mainGlobals mg → ∀ (f : Addr) (fd : FuncData), Fun K "law" "law" st f fd → FnG P w K mg base (L2N.CX P w) k f fd ["script"] (SpOf K xr 1 g)) :
    ∃ fd : FuncData, (∀ (s : Shared) (v : Value), BindsTo s fd ⟨[v], []⟩ [("script", v)]) ∧ ∀ base : Heap, K.In base → base.Ns mainGlobals mg → FnG P w K mg base (L2N.CX P w) k fa fd ["script"] (SpOf K xr 1 g) := by
  obtain ⟨f, fd, Fx, h1, h2⟩ := d.ex
  cases hfa.symm.trans h1
  refine ⟨fd, fun s v => ?_, fun base h3 h4 => F base h3 h4 _ fd Fx⟩
  obtain ⟨oc, od, kV, doc, pm, an, cdv, ct, osl, rfl, lk, hcd⟩ := Fx.ex
  exact .of_eq (hb kV doc pm an cdv ct [v] rfl)
theorem walk_lawG {l : PySem.W.OpenLaw} {q : Program} {loose : List Str} {XP : (Str → Option Value) → Heap → Prop} {YP : World → Heap → Prop} {d : DefRec} {K : Params → PySem.W.Frag} {k : Nat} {g : Cn} {xr : PySem.W.Frag → XR} (hn : l.most = some 63) (hdf : d.params.defaults = []) (hr : Room k callerA)
    (hY : ∀ (w : World) (h : Heap), YP w h → (K w.params).In h) (nl : ∀ w : World, noL (K w.params) = true) (pl : LawP g)
    (F : ∀ (w : World) (mg : Str → Option Value) (fa : Addr) (h : Heap), (K w.params).In h → h.Ns mainGlobals mg → mg d.name = some (.ref fa) →
      ∃ fd : FuncData, (∀ (s : Shared) (u : Value), BindsTo s fd ⟨[u], []⟩ [("script", u)]) ∧ ∀ base : Heap, (K w.params).In base → base.Ns mainGlobals mg → FnG l.prog w (K w.params) mg base (L2N.CX l.prog w) k fa fd ["script"] (SpOf (K w.params) (xr (K w.params)) 1 g)) :
    PySem.W.WalkO q loose XP YP l.row.toRowW d [] (fun f vs => PySem.call f vs) := by
  refine Att.attach_callB hn hdf fun w s₀ s₁ mg mb fa o pm cd doc a vs ns G Y ho hd hcd hmg hobj hints hlen hbits hg => ?_
  have kin := hY w _ Y
  obtain ⟨fd, b1, b2⟩ := F w mg fa _ kin G.T.g hmg
  refine law_callG kin G.T.g G.T.b G.T.builtins G.T.nolimit hg hobj hints (Nat.le_trans hlen (by decide)) hr (nl w) b2 b1 (fun H hR => sp_law pl (nl w) hlen hbits (.inl hR)) fun H e s' h => ?_
  obtain ⟨_, _, _, _, _, _, _, _, _, _, _, _, z⟩ := h
  exact z
/-- a def's body, where no repr is under way -/
theorem def_okG {P : Program} {w : World} {K : PySem.W.Frag} {mg : Str → Option Value} {base : Heap} {xr : XR} {x qual : Str} {st : Stmt} {f : Addr} {fd : FuncData} {N ps : List Str} {k n m : Nat} {body : Sn} (Fx : Fun K x qual st f fd) (S : FnScope N ps (defScope st)) (hp : ps.length = n) (hN : N.length = m) (hnm : n ≤ m)
    (hbody : ∀ (cdv : Value) (A : Around) (outer : List Env) (s : Shared) (H : Hp) (E : XK), A.guards = some [] → Room k (A.deeper (envOfC qual (defScope st) s.heap.objs.size f cdv)) →
      PSs (cxOf (L2N.CX P w) P w K mg base N qual (defScope st) f cdv A outer s H E) (defBody st) (tS K ⟨xr, E⟩ body)) : FnG P w K mg base (L2N.CX P w) (k + 1) f fd ps (SpOf K xr n (fn n m body)) :=
  fnG Fx S (fun vs H Q E h => h.1.trans hp.symm) fun cdv A outer s H vs Q E hg hr h => ⟨_, hbody cdv A outer s H E hg hr, body_ok hN hnm h⟩
end Ft
/-! Ft18: repr of trees. -/
namespace Ft
open PySem L2 PySem.Spec PyProof.Rows
theorem room200 {k : Nat} {A : Around} (r : Room k A) : A.units + 200 < cLine := by have := r.un; omega
def flatD : D → Bool
  | .none => true
  | .bool _ => true
  | .int _ => true
  | .str _ => true
  | _ => false
/-- a dict of flat values with flat keys -/
def flatDict : D → Bool
  | .dict kvs => kvs.all fun p => flatD p.1 && flatD p.2
  | _ => false
theorem flat_as {h : Heap} : ∀ (ds : List D) (vs : List Value) (as : List Addr), (∀ d ∈ ds, flatD d = true) → ReadsAll h vs ds as → as = []
  | [], _, _, _, r => by cases r; rfl
  | d :: ds, _, _, hf, r => by
    cases r with
    | cons h1 h2 =>
      have e2 := flat_as ds _ _ (fun x hx => hf x (List.mem_cons_of_mem _ hx)) h2
      subst e2
      have hd := hf d (List.mem_cons_self ..)
      cases h1 with
      | none => rfl
      | bool _ => rfl
      | int _ _ => rfl
      | str _ _ => rfl
      | list => cases hd
      | tuple => cases hd
      | dict => cases hd
def reprOk (d : D) : Bool := d.showable && (!d.hasDict || flatDict d) && decide (d.depth ≤ 150) && decide (d.shown.length + 64 ≤ sizeLine)
def reprB : List D → Option D
  | [d] => if reprOk d = true then some (.str d.shown) else none
  | _ => none
def rRepr (K : PySem.W.Frag) : List V → Hp → VK → Prop := fun xs H Q => ∃ x d, xs = [x] ∧ Rep K H d x ∧ reprOk d = true ∧ Q (.str d.shown) H
theorem reprOk_at {d : D} (h : reprOk d = true) : d.showable = true ∧ (d.hasDict = false ∨ flatDict d = true) ∧ d.depth ≤ 150 ∧ d.shown.length + 64 ≤ sizeLine := by
  unfold reprOk at h
  simp only [Bool.and_eq_true, decide_eq_true_eq, Bool.or_eq_true, Bool.not_eq_true'] at h
  exact ⟨h.1.1.1, h.1.1.2, h.1.2, h.2⟩
section
variable {X : Cx}
theorem cr_repr (hg : X.A.guards = some []) (hu : X.A.units + 200 < cLine) : CallR X (.builtin "repr") (rRepr X.K) := by
  intro pins s σ H xs us Q I r h
  obtain ⟨x, d, rfl, hd, ok, q⟩ := h
  obtain ⟨o1, o2, o3, o4⟩ := reprOk_at ok
  obtain ⟨u, rfl, ru⟩ := vals1 r
  obtain ⟨as, rd⟩ := Rep.reads I d x u hd ru
  have byRef : (d.hasDict = true → sysModules ∉ as) → ∀ a, u = .ref a → wpAny (model X.prog X.w) X.A (call (.builtin "repr") [u]) (EP X pins σ Q) X.xe s := fun no a e => by
    subst e
    refine repr_of_reads' (h₀ := s.heap) rd o1 no hg (by omega) (fun _ _ e => e) (fun h' t tk hk => ?_) (by omega)
    exact ⟨.str _, H, I.kept hk, ⟨_, rfl⟩, q⟩
  cases d with
  | none =>
    simp only [Rep] at hd
    subst hd
    cases ru
    exact PySem.P.repr_of_none ⟨.str _, H, I.tok _, ⟨_, rfl⟩, q⟩
  | bool b =>
    simp only [Rep] at hd
    subst hd
    cases ru
    exact PySem.P.repr_of_bool ⟨.str _, H, I.tok _, ⟨_, rfl⟩, q⟩
  | int i =>
    simp only [Rep] at hd
    subst hd
    obtain ⟨t, rfl⟩ := ru
    exact PySem.P.repr_of_int (by simpa [PyData.showable] using o1) ⟨.str _, H, I.tok _, ⟨_, rfl⟩, q⟩
  | str c =>
    simp only [Rep] at hd
    subst hd
    obtain ⟨t, rfl⟩ := ru
    refine PySem.P.repr_of_str ⟨.str _, H, I.tok _, ⟨_, rfl⟩, q⟩ ?_
    have : (PyData.str c).shown = reprText c := by simp only [PyData.shown]
    rw [this] at o4
    omega
  | list l =>
    simp only [Rep] at hd
    obtain ⟨a, vs, rfl, _, _⟩ := hd
    exact byRef (fun z => by rcases o2 with o2 | o2; · rw [o2] at z; cases z
                             · cases o2) a ru
  | tuple l =>
    simp only [Rep] at hd
    obtain ⟨a, vs, rfl, _, _⟩ := hd
    exact byRef (fun z => by rcases o2 with o2 | o2; · rw [o2] at z; cases z
                             · cases o2) a ru
  | dict l =>
    simp only [Rep] at hd
    obtain ⟨a, vs, rfl, hk, _⟩ := hd
    refine byRef (fun z => ?_) a ru
    have o2 : flatDict (.dict l) = true := by
      rcases o2 with o2 | o2
      · rw [o2] at z; cases z
      · exact o2
    have fl : ∀ p ∈ l, flatD p.1 = true ∧ flatD p.2 = true := fun p hp => by
      have := List.all_eq_true.mp o2 p hp
      simpa using this
    have na : (a == sysModules) = false := by
      rcases hk with ⟨es, h1, _⟩ | ⟨es, h1, _⟩
      · exact (dk_rd I.hok h1).2.1
      · exact (dt_rd I.hok h1).2.1
    cases ru
    cases rd with
    | dict h1 h2 h3 h4 h5 =>
      have e1 := flat_as _ _ _ (fun d hd => by obtain ⟨p, hp, rfl⟩ := List.mem_map.mp hd; exact (fl p hp).1) h4
      have e2 := flat_as _ _ _ (fun d hd => by obtain ⟨p, hp, rfl⟩ := List.mem_map.mp hd; exact (fl p hp).2) h5
      subst e1
      subst e2
      intro hm
      rw [List.append_nil, List.mem_singleton] at hm
      rw [← hm] at na
      simp at na
theorem pn_repr {K : PySem.W.Frag} : PN K (rRepr K) reprB := fun F H xs ds z Q s h hz q => by
  unfold reprB at hz
  split at hz
  · rename_i d
    split at hz
    · rename_i c
      cases hz
      obtain ⟨v, rfl, rv⟩ := h.one
      exact ⟨v, d, rfl, rv.here s, c, q _ F H (Fr.refl s) rep_str⟩
    · cases hz
  · cases hz
end
/-! ### a tuple times a number -/
def mulTB : D → D → Option D
  | .tuple l, .int k => if (!l.isEmpty) && decide (2 ≤ k) && decide (k ≤ 1000) && decide (l.length ≤ 1000) then some (.tuple (List.replicate k.toNat l).flatten) else none
  | _, _ => none
theorem p2_mulT {K : PySem.W.Frag} : P2 K (rRepT K) mulTB := fun F H x y d e z Q s h1 h2 hz q => by
  unfold mulTB at hz
  split at hz
  · split at hz
    · rename_i l k c
      cases hz
      simp only [Bool.and_eq_true, decide_eq_true_eq, Bool.not_eq_true'] at c
      obtain ⟨⟨⟨c1, c2⟩, c3⟩, c4⟩ := c
      obtain ⟨a, vs, rfl, q1, r1⟩ := h1.tuple s
      have l1 := r1.length
      have ne : vs ≠ [] := fun z => by
        subst z
        rw [List.length_nil] at l1
        rw [List.eq_nil_of_length_eq_zero l1] at c1
        cases c1
      refine ⟨a, k, vs, rfl, h2.int, q1, ne, c2, c3, by omega, fun p hp => ?_⟩
      obtain ⟨f, r⟩ := new_tuple (K := K) s hp (reps_rep r1 k.toNat)
      exact q _ _ _ f r
    · cases hz
  · cases hz
end Ft
/-! Ft19: dicts of this frame. -/
namespace Ft
open PySem L2 PySem.Spec PyProof.Rows
def keyD : D → Option Key
  | .int i => some (.inl i)
  | .str s => some (.inr s)
  | _ => none
def keysL : List D → Option (List Key)
  | [] => some []
  | d :: l => match keyD d, keysL l with
    | some k, some ks => some (k :: ks)
    | _, _ => none
def keysD : D → Option (List Key)
  | .tuple l => keysL l
  | _ => none
def tD (ks : List Key) : D := .tuple (ks.map kD)
theorem keyD_kD (k : Key) : keyD (kD k) = some k := by cases k <;> rfl
theorem keysL_kD : ∀ ks : List Key, keysL (ks.map kD) = some ks
  | [] => rfl
  | k :: ks => by simp only [List.map_cons, keysL, keyD_kD, keysL_kD ks]
theorem keysD_tD (ks : List Key) : keysD (tD ks) = some ks := keysL_kD ks
theorem keyD_at {d : D} {k : Key} (h : keyD d = some k) : d = kD k := by
  cases d <;> simp [keyD] at h
  · subst h; rfl
  · subst h; rfl
theorem keysL_at : ∀ {l : List D} {ks : List Key}, keysL l = some ks → l = ks.map kD
  | [], ks, h => by simp [keysL] at h; subst h; rfl
  | d :: l, ks, h => by
    unfold keysL at h
    split at h
    · rename_i k r h1 h2
      cases h
      rw [keyD_at h1, keysL_at h2]; rfl
    · cases h
theorem keysD_at {d : D} {ks : List Key} (h : keysD d = some ks) : d = tD ks := by
  cases d <;> simp [keysD] at h
  rw [tD, keysL_at h]
/-! ### tables of trees -/
section
variable {κ : Type} [DecidableEq κ] (enc : κ → D) (dec : D → Option κ)
def gG : List (D × D) → κ → Option D
  | [], _ => none
  | (a, b) :: r, k => if dec a = some k then some b else gG r k
def pG (l : List (D × D)) (k : κ) (v : D) : List (D × D) :=
  if (gG dec l k).isSome = true then l.map (fun p => if dec p.1 = some k then (p.1, v) else p) else l ++ [(enc k, v)]
def RG (K : PySem.W.Frag) (F : Hp) : List (D × D) → List (κ × V) → Prop
  | [], es => es = []
  | (a, b) :: l, es => ∃ k v r, es = (k, v) :: r ∧ a = enc k ∧ Rep K F b v ∧ RG K F l r
variable {K : PySem.W.Frag} {F F' : Hp}
theorem rg_iff : ∀ {l : List (D × D)} {es : List (κ × V)}, RG enc K F l es ↔ l.map (·.1) = es.map (fun e => enc e.1) ∧ RepP K F l (es.map (·.2))
  | [], es => by
    simp only [RG, RepP, List.map_nil]
    constructor
    · rintro rfl; exact ⟨rfl, rfl⟩
    · rintro ⟨h, _⟩
      cases es with
      | nil => rfl
      | cons => cases h
  | (a, b) :: l, es => by
    simp only [RG, RepP, List.map_cons]
    constructor
    · rintro ⟨k, v, r, rfl, rfl, h1, h2⟩
      obtain ⟨h3, h4⟩ := rg_iff.mp h2
      exact ⟨by rw [h3]; rfl, v, r.map (·.2), rfl, h1, h4⟩
    · rintro ⟨h, v, r, e, h1, h2⟩
      cases es with
      | nil => cases h
      | cons p es =>
        obtain ⟨k, w⟩ := p
        simp only [List.map_cons, List.cons.injEq] at h e
        obtain ⟨rfl, rfl⟩ := e
        exact ⟨k, w, es, rfl, h.1, h1, rg_iff.mpr ⟨h.2, h2⟩⟩
theorem RG.mono (e : Same F F') {l : List (D × D)} {es : List (κ × V)} (h : RG enc K F l es) : RG enc K F' l es := by
  obtain ⟨h1, h2⟩ := (rg_iff enc).mp h
  exact (rg_iff enc).mpr ⟨h1, RepP.mono e _ _ h2⟩
theorem RG.len : ∀ {l : List (D × D)} {es : List (κ × V)}, RG enc K F l es → l.length = es.length
  | [], es, h => by simp only [RG] at h; subst h; rfl
  | (a, b) :: l, es, h => by
    simp only [RG] at h
    obtain ⟨k, v, r, rfl, _, _, h⟩ := h
    rw [List.length_cons, List.length_cons, RG.len h]
variable (hd : ∀ k, dec (enc k) = some k)
include hd
theorem RG.get : ∀ {l : List (D × D)} {es : List (κ × V)}, RG enc K F l es → ∀ k, (∀ d, gG dec l k = some d → ∃ v, valV es k = some v ∧ Rep K F d v) ∧ (gG dec l k = none → valV es k = none)
  | [], es, h, k => by
    simp only [RG] at h; subst h
    exact ⟨fun d h => (by cases h), fun _ => rfl⟩
  | (a, b) :: l, es, h, k => by
    simp only [RG] at h
    obtain ⟨k', v, r, rfl, rfl, h1, h2⟩ := h
    have ih := RG.get h2 k
    unfold gG
    rw [hd k']
    by_cases e : k' = k
    · subst e
      rw [if_pos rfl]
      exact ⟨fun d h => by cases h; exact ⟨v, valV_pos rfl, h1⟩, fun h => by cases h⟩
    · rw [if_neg (fun z => e (Option.some.inj z)), valV_neg (p := (k', v)) e]
      exact ih
theorem RG.has {l : List (D × D)} {es : List (κ × V)} (h : RG enc K F l es) (k : κ) : (gG dec l k).isSome = (valV es k).isSome := by
  have q := RG.get enc dec hd h k
  cases e : gG dec l k with
  | none => rw [q.2 e]; rfl
  | some d => obtain ⟨v, e2, _⟩ := q.1 d e; rw [e2]; rfl
theorem rg_repl : ∀ {l : List (D × D)} {es : List (κ × V)} {k : κ} {d : D} {v : V}, RG enc K F l es → Rep K F d v → RG enc K F (l.map (fun p => if dec p.1 = some k then (p.1, d) else p)) (es.map fun kv => if kv.1 = k then (kv.1, v) else kv)
  | [], es, k, d, v, h, r => by simp only [RG] at h; subst h; rfl
  | (a, b) :: l, es, k, d, v, h, r => by
    simp only [RG] at h
    obtain ⟨k', w, es', rfl, rfl, h1, h2⟩ := h
    have ih := rg_repl (k := k) h2 r
    rw [List.map_cons, List.map_cons]
    show RG enc K F ((if dec (enc k') = some k then (enc k', d) else (enc k', b)) :: _) _
    rw [hd k']
    by_cases e : k' = k
    · subst e
      rw [if_pos rfl, if_pos rfl]
      exact ⟨k', v, _, rfl, rfl, r, ih⟩
    · rw [if_neg (fun z => e (Option.some.inj z)), if_neg e]
      exact ⟨k', w, _, rfl, rfl, h1, ih⟩
omit hd in
theorem rg_snoc : ∀ {l : List (D × D)} {es : List (κ × V)} {k : κ} {d : D} {v : V}, RG enc K F l es → Rep K F d v → RG enc K F (l ++ [(enc k, d)]) (es ++ [(k, v)])
  | [], es, k, d, v, h, r => by simp only [RG] at h; subst h; exact ⟨k, v, [], rfl, rfl, r, rfl⟩
  | (a, b) :: l, es, k, d, v, h, r => by
    simp only [RG] at h
    obtain ⟨k', w, es', rfl, rfl, h1, h2⟩ := h
    exact ⟨k', w, _, rfl, rfl, h1, rg_snoc h2 r⟩
theorem RG.put {l : List (D × D)} {es : List (κ × V)} {k : κ} {d : D} {v : V} (h : RG enc K F l es) (r : Rep K F d v) : RG enc K F (pG enc dec l k d) (putK es k v) := by
  have e := RG.has enc dec hd h k
  unfold pG putK
  rw [valV_any, ← e]
  cases c : (gG dec l k).isSome with
  | true =>
    rw [if_pos rfl, if_pos rfl]
    exact rg_repl enc dec hd h r
  | false =>
    rw [if_neg Bool.false_ne_true, if_neg Bool.false_ne_true]
    exact rg_snoc enc h r
end
abbrev gK := gG keyD
abbrev gT := gG keysD
abbrev pK := pG kD keyD
abbrev pT := pG tD keysD
/-! ### the dict of a slot -/
def kindOf : List (D × D) → Option Bool
  | [] => none
  | (a, _) :: _ => if (keyD a).isSome = true then some false else if (keysD a).isSome = true then some true else none
/-- keys are tuples?, the pairs -/
def slotV : Option LV → Option (Bool × List (D × D))
  | some (.own (.dK l) _) => some (false, l)
  | some (.own (.dT l) _) => some (true, l)
  | some (.val (.dict l)) => (kindOf l).map fun b => (b, l)
  | _ => none
def slotD (ρ : Rho) (i : Nat) : Option (Bool × List (D × D)) := slotV (ρ[i]?)
def lookD (s : Bool × List (D × D)) (y : D) : Option (Option D) := match s.1 with
  | false => (keyD y).map (gK s.2)
  | true => (keysD y).map (gT s.2)
section
variable {K : PySem.W.Frag} {ρ : Rho} {σ : Sg} {F H : Hp}
theorem rep_kD {k : Key} {v : V} (h : Rep K F (kD k) v) : v = kV k := by
  cases k <;> (simp only [kD, Rep] at h; exact h)
theorem reps_kD : ∀ {ks : List Key} {vs : List V}, Reps K F (ks.map kD) vs → vs = ks.map kV
  | [], vs, h => reps_nil.mp h
  | k :: ks, vs, h => by
    obtain ⟨v, r, rfl, h1, h2⟩ := reps_cons.mp h
    rw [rep_kD h1, reps_kD h2]; rfl
theorem rep_tD {ks : List Key} {v : V} (h : Rep K F (tD ks) v) : ∃ b, v = .ref b ∧ F b = some (.tup (ks.map kV)) := by
  simp only [tD, Rep] at h
  obtain ⟨b, vs, rfl, q, r⟩ := h
  exact ⟨b, rfl, by rw [q, reps_kD r]⟩
/-- the dict of a slot, as it stands -/
theorem slot_at {i : Nat} {b : Bool} {l : List (D × D)} (s : SR K ρ σ F H) (h : slotD ρ i = some (b, l)) : ∃ a, σ[i]? = some (some (.ref a)) ∧
    ((b = false ∧ ∃ es : List (Key × V), Rd H a (.dK es) ∧ RG kD K F l es) ∨ (b = true ∧ ∃ es : List (List Key × V), Rd H a (.dT es) ∧ RG tD K F l es)) := by
  unfold slotD at h
  cases e : ρ[i]? with
  | none => rw [e] at h; cases h
  | some x =>
    rw [e] at h
    cases x with
    | un => cases h
    | own m k =>
      obtain ⟨a, h1, h2⟩ := s.own i m k e
      cases m with
      | lst _ => cases h
      | dK l' =>
        cases h
        obtain ⟨_, es, q, z, r⟩ := h2
        exact ⟨a, h1, .inl ⟨rfl, es, .inl q, (rg_iff kD).mpr ⟨z, r⟩⟩⟩
      | dT l' =>
        cases h
        obtain ⟨_, es, q, z, r⟩ := h2
        exact ⟨a, h1, .inr ⟨rfl, es, .inl q, (rg_iff tD).mpr ⟨z, r⟩⟩⟩
    | val d =>
      cases d with
      | dict l' =>
        obtain ⟨c, h3, h4⟩ := Option.map_eq_some_iff.mp h
        cases h4
        obtain ⟨v, h1, h2⟩ := s.val i _ e
        simp only [Rep] at h2
        obtain ⟨a, vs, rfl, q, r⟩ := h2
        refine ⟨a, h1, ?_⟩
        cases l with
        | nil => cases h3
        | cons p l =>
          obtain ⟨x, y⟩ := p
          simp only [kindOf] at h3
          rcases q with ⟨es, q1, q2, q3⟩ | ⟨es, q1, q2, q3⟩
          · subst q3
            cases es with
            | nil => cases q2
            | cons e0 es =>
              have hx : x = kD e0.1 := by simp only [List.map_cons, List.cons.injEq] at q2; exact q2.1
              rw [hx, keyD_kD] at h3
              cases h3
              exact .inl ⟨rfl, _, rdSame s.sub q1, (rg_iff kD).mpr ⟨q2, r⟩⟩
          · subst q3
            cases es with
            | nil => cases q2
            | cons e0 es =>
              have hx : x = tD e0.1 := by simp only [List.map_cons, List.cons.injEq] at q2; exact q2.1
              have hn : keyD (tD e0.1) = none := rfl
              rw [hx, hn, keysD_tD] at h3
              cases h3
              exact .inr ⟨rfl, _, rdSame s.sub q1, (rg_iff tD).mpr ⟨q2, r⟩⟩
      | none => cases h
      | bool _ => cases h
      | int _ => cases h
      | str _ => cases h
      | list _ => cases h
      | tuple _ => cases h
theorem slot_get {i : Nat} {sl : Bool × List (D × D)} {y : D} {w : V} {r : Option D} (s : SR K ρ σ F H) (h : slotD ρ i = some sl) (hl : lookD sl y = some r) (ry : Rep K F y w) :
    ∃ a o, σ[i]? = some (some (.ref a)) ∧ IsD H a ∧ DGet H a w o ∧ ((r = none ∧ o = none) ∨ ∃ d v, r = some d ∧ o = some v ∧ Rep K F d v) := by
  obtain ⟨b, l⟩ := sl
  obtain ⟨a, ha, q⟩ := slot_at s h
  rcases q with ⟨rfl, es, q1, q2⟩ | ⟨rfl, es, q1, q2⟩
  · obtain ⟨k, hk, rfl⟩ := Option.map_eq_some_iff.mp (show (keyD y).map (gK l) = some r from hl)
    rw [keyD_at hk] at ry
    rw [rep_kD ry]
    have g := RG.get kD keyD keyD_kD q2 k
    refine ⟨a, _, ha, .inl ⟨es, q1⟩, .inl ⟨es, k, q1, rfl, rfl⟩, ?_⟩
    cases e : gK l k with
    | none => exact .inl ⟨rfl, g.2 e⟩
    | some d => obtain ⟨v, e1, e2⟩ := g.1 d e; exact .inr ⟨d, v, rfl, e1, e2⟩
  · obtain ⟨k, hk, rfl⟩ := Option.map_eq_some_iff.mp (show (keysD y).map (gT l) = some r from hl)
    rw [keysD_at hk] at ry
    obtain ⟨c, rfl, hc⟩ := rep_tD ry
    have g := RG.get tD keysD keysD_tD q2 k
    refine ⟨a, _, ha, .inr ⟨es, q1⟩, .inr ⟨es, k, c, q1, rfl, s.sub _ _ hc, rfl⟩, ?_⟩
    cases e : gT l k with
    | none => exact .inl ⟨rfl, g.2 e⟩
    | some d => obtain ⟨v, e1, e2⟩ := g.1 d e; exact .inr ⟨d, v, rfl, e1, e2⟩
end
/-! ### d[k], k in d, d.get(k) for a name -/
def dGetN (i : Nat) (k : Dn) : Dn := fun ρ => (ans (slotD ρ i) ρ).bind fun _ ρ0 => (k ρ0).bind fun y ρ1 => ans (((slotD ρ1 i).bind fun s => lookD s y).bind id) ρ1
def dInN (i : Nat) (k : Dn) : Dn := fun ρ => (k ρ).bind fun y ρ1 => ans (((slotD ρ1 i).bind fun s => lookD s y).map fun r => PyData.bool r.isSome) ρ1
def dNiN (i : Nat) (k : Dn) : Dn := fun ρ => (k ρ).bind fun y ρ1 => ans (((slotD ρ1 i).bind fun s => lookD s y).map fun r => PyData.bool (!r.isSome)) ρ1
def dGet1N (i : Nat) (k : Dn) : Dn := fun ρ => (ans (slotD ρ i) ρ).bind fun _ ρ0 => (k ρ0).bind fun y ρ1 => ans (((slotD ρ1 i).bind fun s => lookD s y).map fun r => r.getD .none) ρ1
def dGet2N (i : Nat) (k x : Dn) : Dn := fun ρ => (ans (slotD ρ i) ρ).bind fun _ ρ0 => (k ρ0).bind fun y ρ1 => (x ρ1).bind fun z ρ2 => ans (((slotD ρ2 i).bind fun s => lookD s y).map fun r => r.getD z) ρ2
/-- d[k] = e for a dict of this frame -/
def putD (l : Mo) (y x : D) : Option Mo := match l with
  | .dK l => if l.length < 16000000 then (keyD y).map fun k => .dK (pK l k x) else none
  | .dT l => if l.length < 16000000 then (keysD y).map fun k => .dT (pT l k x) else none
  | _ => none
def ownM (ρ : Rho) (i : Nat) : Option (Mo × Bool) := match ρ[i]? with
  | some (.own m b) => some (m, b)
  | _ => none
theorem ownM_at {ρ : Rho} {i : Nat} {l : Mo} {b : Bool} (h : ownM ρ i = some (l, b)) : ρ[i]? = some (.own l b) := by
  unfold ownM at h
  split at h
  · rename_i l' b' e
    cases h; exact e
  · cases h
def sPutN (i : Nat) (k e : Dn) : Sn := fun ρ => (e ρ).st fun x ρ1 => st' (ownM ρ1 i) fun _ => (k ρ1).st fun y ρ2 => st' (ownM ρ2 i) fun mb => st' (putD mb.1 y x) fun m' => .next (ρ2.set i (.own m' mb.2))
section
variable {X : Cx} {W : Wt} {e e2 e3 : Expr} {d d2 d3 : Dn} {pos p p2 p3 p4 : Pos} {x : Str}
theorem Room.u1 {k : Nat} {A : Around} (r : Room k A) : A.units + 1 < cLine := by have := r.un; omega
theorem nosl_of {i : Expr} (h : ∀ ov iv, subscripted i false ov iv = operate [ov, iv] (getItem ov iv)) : NoSl i := h
theorem de_getN (i : Nat) (hu : X.A.units + 1 < cLine) (he : PE X e (tE X.K W d)) (hN : X.N[i]? = some x := by rfl) (hv : Vis X.env.scope x := by first | exact Or.inl rfl | exact Or.inr (Or.inl rfl) | exact Or.inr (Or.inr rfl)) (hd : (x == ("__debug__" : Str)) = false := by decide)
    (hcd : (x == ("__classdict__" : Str)) = false := by decide) (hs : NoSl e := by intro _ _; rfl) : PE X (.Subscript (.Name x p) e pos) (tE X.K W (dGetN i d)) :=
  PE.imp (pe_dget hu (pe_var hN hv hd hcd) he hs) fun σ H Q ⟨ρ, F, s, q⟩ => by
    unfold dGetN at q
    cases hs0 : slotD ρ i with
    | none => rw [hs0] at q; exact q.elim
    | some sl0 =>
      rw [hs0] at q
      simp only [ans, RE.bind] at q
      obtain ⟨a0, ha0, _⟩ := slot_at (b := sl0.1) (l := sl0.2) s hs0
      refine ⟨_, ha0, Af.bind s q fun y w ρ1 F1 H1 g r q => ?_⟩
      obtain ⟨z, ez, q⟩ := ans_some q
      obtain ⟨r0, e1, e2⟩ := Option.bind_eq_some_iff.mp ez
      obtain ⟨sl, e3, e4⟩ := Option.bind_eq_some_iff.mp e1
      obtain ⟨a, o, h1, h2, h3, h4⟩ := slot_get g.sr e3 e4 r
      rw [ha0] at h1; cases h1
      simp only [id] at e2
      subst e2
      rcases h4 with ⟨h, _⟩ | ⟨dd, v, h, rfl, h5⟩
      · cases h
      · cases h
        exact ⟨a0, v, rfl, h3, q.okk g.sr h5⟩
theorem de_inN (i : Nat) (hu : X.A.units + 1 < cLine) (he : PE X e (tE X.K W d)) (hN : X.N[i]? = some x := by rfl) (hv : Vis X.env.scope x := by first | exact Or.inl rfl | exact Or.inr (Or.inl rfl) | exact Or.inr (Or.inr rfl)) (hd : (x == ("__debug__" : Str)) = false := by decide)
    (hcd : (x == ("__classdict__" : Str)) = false := by decide) : PE X (.Compare e [.In] [.Name x p] pos) (tE X.K W (dInN i d)) :=
  PE.imp (pe_cmp (pc_din hu he (pe_var hN hv hd hcd)) (by first | exact nobehind _ (by decide) (by decide) | rfl)) fun σ H Q ⟨ρ, F, s, q⟩ => Af.bind s q fun y w ρ1 F1 H1 g r q => by
    obtain ⟨z, ez, q⟩ := ans_some q
    obtain ⟨r0, e1, rfl⟩ := Option.map_eq_some_iff.mp ez
    obtain ⟨sl, e3, e4⟩ := Option.bind_eq_some_iff.mp e1
    obtain ⟨a, o, h1, h2, h3, h4⟩ := slot_get g.sr e3 e4 r
    refine ⟨_, h1, a, o, rfl, h3, ?_⟩
    rcases h4 with ⟨rfl, rfl⟩ | ⟨dd, v, rfl, rfl, h5⟩
    · exact q.okk g.sr rep_bool
    · exact q.okk g.sr rep_bool
theorem de_niN (i : Nat) (hu : X.A.units + 1 < cLine) (he : PE X e (tE X.K W d)) (hN : X.N[i]? = some x := by rfl) (hv : Vis X.env.scope x := by first | exact Or.inl rfl | exact Or.inr (Or.inl rfl) | exact Or.inr (Or.inr rfl)) (hd : (x == ("__debug__" : Str)) = false := by decide)
    (hcd : (x == ("__classdict__" : Str)) = false := by decide) : PE X (.Compare e [.NotIn] [.Name x p] pos) (tE X.K W (dNiN i d)) :=
  PE.imp (pe_cmp (pc_dnotin hu he (pe_var hN hv hd hcd)) (by first | exact nobehind _ (by decide) (by decide) | rfl)) fun σ H Q ⟨ρ, F, s, q⟩ => Af.bind s q fun y w ρ1 F1 H1 g r q => by
    obtain ⟨z, ez, q⟩ := ans_some q
    obtain ⟨r0, e1, rfl⟩ := Option.map_eq_some_iff.mp ez
    obtain ⟨sl, e3, e4⟩ := Option.bind_eq_some_iff.mp e1
    obtain ⟨a, o, h1, h2, h3, h4⟩ := slot_get g.sr e3 e4 r
    refine ⟨_, h1, a, o, rfl, h3, ?_⟩
    rcases h4 with ⟨rfl, rfl⟩ | ⟨dd, v, rfl, rfl, h5⟩
    · exact q.okk g.sr rep_bool
    · exact q.okk g.sr rep_bool
theorem dt_inN (i : Nat) (hu : X.A.units + 1 < cLine) (he : PE X e (tE X.K W d)) (hN : X.N[i]? = some x := by rfl) (hv : Vis X.env.scope x := by first | exact Or.inl rfl | exact Or.inr (Or.inl rfl) | exact Or.inr (Or.inr rfl)) (hd : (x == ("__debug__" : Str)) = false := by decide)
    (hcd : (x == ("__classdict__" : Str)) = false := by decide) : PT X (.Compare e [.In] [.Name x p] pos) (tT X.K W (dTv (dInN i d))) :=
  PT.imp (pt_cmp (pc_din hu he (pe_var hN hv hd hcd)) (by first | exact nobehind _ (by decide) (by decide) | rfl)) fun _ _ _ q => tv_imp (fun σ H Q ⟨ρ, F, s, q⟩ => Af.bind s q fun y w ρ1 F1 H1 g r q => by
    obtain ⟨z, ez, q⟩ := ans_some q
    obtain ⟨r0, e1, rfl⟩ := Option.map_eq_some_iff.mp ez
    obtain ⟨sl, e3, e4⟩ := Option.bind_eq_some_iff.mp e1
    obtain ⟨a, o, h1, h2, h3, h4⟩ := slot_get g.sr e3 e4 r
    refine ⟨_, h1, a, o, rfl, h3, ?_⟩
    rcases h4 with ⟨rfl, rfl⟩ | ⟨dd, v, rfl, rfl, h5⟩
    · exact q.okk g.sr rep_bool
    · exact q.okk g.sr rep_bool) q
theorem dt_niN (i : Nat) (hu : X.A.units + 1 < cLine) (he : PE X e (tE X.K W d)) (hN : X.N[i]? = some x := by rfl) (hv : Vis X.env.scope x := by first | exact Or.inl rfl | exact Or.inr (Or.inl rfl) | exact Or.inr (Or.inr rfl)) (hd : (x == ("__debug__" : Str)) = false := by decide)
    (hcd : (x == ("__classdict__" : Str)) = false := by decide) : PT X (.Compare e [.NotIn] [.Name x p] pos) (tT X.K W (dTv (dNiN i d))) :=
  PT.imp (pt_cmp (pc_dnotin hu he (pe_var hN hv hd hcd)) (by first | exact nobehind _ (by decide) (by decide) | rfl)) fun _ _ _ q => tv_imp (fun σ H Q ⟨ρ, F, s, q⟩ => Af.bind s q fun y w ρ1 F1 H1 g r q => by
    obtain ⟨z, ez, q⟩ := ans_some q
    obtain ⟨r0, e1, rfl⟩ := Option.map_eq_some_iff.mp ez
    obtain ⟨sl, e3, e4⟩ := Option.bind_eq_some_iff.mp e1
    obtain ⟨a, o, h1, h2, h3, h4⟩ := slot_get g.sr e3 e4 r
    refine ⟨_, h1, a, o, rfl, h3, ?_⟩
    rcases h4 with ⟨rfl, rfl⟩ | ⟨dd, v, rfl, rfl, h5⟩
    · exact q.okk g.sr rep_bool
    · exact q.okk g.sr rep_bool) q
theorem de_get1N (i : Nat) (hu : X.A.units + 1 < cLine) (he : PE X e (tE X.K W d)) (m : M1 X (.Name x p) "get" p2 e pos) (hN : X.N[i]? = some x := by rfl) (hv : Vis X.env.scope x := by first | exact Or.inl rfl | exact Or.inr (Or.inl rfl) | exact Or.inr (Or.inr rfl)) (hd : (x == ("__debug__" : Str)) = false := by decide)
    (hcd : (x == ("__classdict__" : Str)) = false := by decide) : PE X (.Call (.Attribute (.Name x p) "get" p2) [e] [] pos) (tE X.K W (dGet1N i d)) :=
  PE.imp (pe_dget1 hu (pe_var hN hv hd hcd) he m) fun σ H Q ⟨ρ, F, s, q⟩ => by
    unfold dGet1N at q
    cases hs0 : slotD ρ i with
    | none => rw [hs0] at q; exact q.elim
    | some sl0 =>
      rw [hs0] at q
      simp only [ans, RE.bind] at q
      obtain ⟨a0, ha0, kd⟩ := slot_at (b := sl0.1) (l := sl0.2) s hs0
      have isd : IsD H a0 := by
        rcases kd with ⟨_, es, q1, _⟩ | ⟨_, es, q1, _⟩
        · exact .inl ⟨es, q1⟩
        · exact .inr ⟨es, q1⟩
      refine ⟨_, ha0, a0, rfl, isd, Af.bind s q fun y w ρ1 F1 H1 g r q => ?_⟩
      obtain ⟨z, ez, q⟩ := ans_some q
      obtain ⟨r0, e1, rfl⟩ := Option.map_eq_some_iff.mp ez
      obtain ⟨sl, e3, e4⟩ := Option.bind_eq_some_iff.mp e1
      obtain ⟨a, o, h1, h2, h3, h4⟩ := slot_get g.sr e3 e4 r
      rw [ha0] at h1; cases h1
      refine ⟨o, h3, ?_⟩
      rcases h4 with ⟨rfl, rfl⟩ | ⟨dd, v, rfl, rfl, h5⟩
      · exact q.okk g.sr rep_none
      · exact q.okk g.sr h5
theorem de_get2N (i : Nat) (hu : X.A.units + 1 < cLine) (he : PE X e (tE X.K W d)) (he2 : PE X e2 (tE X.K W d2)) (m : M2 X (.Name x p) "get" p2 e e2 pos) (hN : X.N[i]? = some x := by rfl) (hv : Vis X.env.scope x := by first | exact Or.inl rfl | exact Or.inr (Or.inl rfl) | exact Or.inr (Or.inr rfl)) (hd : (x == ("__debug__" : Str)) = false := by decide)
    (hcd : (x == ("__classdict__" : Str)) = false := by decide) : PE X (.Call (.Attribute (.Name x p) "get" p2) [e, e2] [] pos) (tE X.K W (dGet2N i d d2)) :=
  PE.imp (pe_dget2 hu (pe_var hN hv hd hcd) he he2 m) fun σ H Q ⟨ρ, F, s, q⟩ => by
    unfold dGet2N at q
    cases hs0 : slotD ρ i with
    | none => rw [hs0] at q; exact q.elim
    | some sl0 =>
      rw [hs0] at q
      simp only [ans, RE.bind] at q
      obtain ⟨a0, ha0, kd⟩ := slot_at (b := sl0.1) (l := sl0.2) s hs0
      have isd : IsD H a0 := by
        rcases kd with ⟨_, es, q1, _⟩ | ⟨_, es, q1, _⟩
        · exact .inl ⟨es, q1⟩
        · exact .inr ⟨es, q1⟩
      refine ⟨_, ha0, a0, rfl, isd, Af.bind s q fun y w ρ1 F1 H1 g r q => Af.bind g.sr q fun y2 w2 ρ2 F2 H2 g2 r2 q => ?_⟩
      obtain ⟨z, ez, q⟩ := ans_some q
      obtain ⟨r0, e1, rfl⟩ := Option.map_eq_some_iff.mp ez
      obtain ⟨sl, e3, e4⟩ := Option.bind_eq_some_iff.mp e1
      obtain ⟨a, o, h1, h2, h3, h4⟩ := slot_get g2.sr e3 e4 (Rep.mono g2.sub _ _ r)
      rw [ha0] at h1; cases h1
      refine ⟨o, h3, ?_⟩
      rcases h4 with ⟨rfl, rfl⟩ | ⟨dd, v, rfl, rfl, h5⟩
      · exact q.okk g2.sr r2
      · exact q.okk g2.sr h5
theorem ds_putN (i : Nat) (hu : X.A.units + 1 < cLine) (he : PE X e (tE X.K W d)) (hk : PE X e2 (tE X.K W d2)) (hN : X.N[i]? = some x := by rfl) (hv : Vis X.env.scope x := by first | exact Or.inl rfl | exact Or.inr (Or.inl rfl) | exact Or.inr (Or.inr rfl)) (hd : (x == ("__debug__" : Str)) = false := by decide)
    (hcd : (x == ("__classdict__" : Str)) = false := by decide) (hs : swapsWith e (some (.Subscript (.Name x p) e2 p2)) pos.line X.env = pure false := by rfl) : PS X (.Assign [.Subscript (.Name x p) e2 p2] e pos) (tS X.K W (sPutN i d2 d)) :=
  PS.imp (ps_dput hu (pe_var hN hv hd hcd) hk he hs) fun D σ H ⟨ρ, F, s, q⟩ => AfS.bind s q fun z v ρ1 F1 H1 g1 r1 q1 => by
    obtain ⟨⟨l0, b0⟩, ho0, q2⟩ := st'_some q1
    obtain ⟨a0, e0, _⟩ := g1.sr.own i _ _ (ownM_at ho0)
    refine ⟨_, e0, AfS.bind g1.sr q2 fun y w ρ3 F3 H3 g3 r3 q3 => ?_⟩
    obtain ⟨⟨l, b⟩, ho, q4⟩ := st'_some q3
    obtain ⟨m', hm, q5⟩ := st'_some q4
    obtain ⟨a, e1, oa⟩ := g3.sr.own i _ _ (ownM_at ho)
    rw [e0] at e1; cases e1
    have r1' := Rep.mono g3.sub _ _ r1
    cases l with
    | lst _ => cases hm
    | dK l =>
      obtain ⟨f, es, h1, h2, h3⟩ := oa
      have rg := (rg_iff kD).mpr ⟨h2, h3⟩
      simp only [putD] at hm
      split at hm
      · rename_i c
        obtain ⟨k, hk, rfl⟩ := Option.map_eq_some_iff.mp hm
        rw [keyD_at hk] at r3
        rw [rep_kD r3]
        have rg2 := RG.put kD keyD keyD_kD (k := k) rg r1'
        have rg3 := (rg_iff kD).mp rg2
        have hl := RG.len kD rg
        refine ⟨a0, _, rfl, DPut.k h1 (by rw [← hl]; unfold PySem.sizeLine; omega), ?_⟩
        exact q5 _ _ _ (g3.sr.change (ownM_at ho) e0 ⟨f, _, upd_same, rg3.1, rg3.2⟩)
      · cases hm
    | dT l =>
      obtain ⟨f, es, h1, h2, h3⟩ := oa
      have rg := (rg_iff tD).mpr ⟨h2, h3⟩
      simp only [putD] at hm
      split at hm
      · rename_i c
        obtain ⟨k, hk, rfl⟩ := Option.map_eq_some_iff.mp hm
        rw [keysD_at hk] at r3
        obtain ⟨c, rfl, hc⟩ := rep_tD r3
        have rg2 := RG.put tD keysD keysD_tD (k := k) rg r1'
        have rg3 := (rg_iff tD).mp rg2
        have hl := RG.len tD rg
        refine ⟨a0, _, rfl, DPut.t h1 (g3.sr.sub _ _ hc) (by rw [← hl]; unfold PySem.sizeLine; omega), ?_⟩
        exact q5 _ _ _ (g3.sr.change (ownM_at ho) e0 ⟨f, _, upd_same, rg3.1, rg3.2⟩)
      · cases hm
end
end Ft
/-! Ft20: dict displays of this frame, walks over a dict, pop. -/
namespace Ft
open PySem L2 PySem.Spec PyProof.Rows
/-! ### displays -/
def pvL : List (Dn × Dn) → Rho → RE (List (D × D))
  | [], ρ => .ok [] ρ
  | (k, v) :: r, ρ => (k ρ).bind fun x ρ1 => (v ρ1).bind fun y ρ2 => (pvL r ρ2).bind fun ps ρ3 => .ok ((x, y) :: ps) ρ3
def keysOf : List (D × D) → Option (List Key)
  | [] => some []
  | (a, _) :: r => match keyD a, keysOf r with
    | some k, some ks => some (k :: ks)
    | _, _ => none
def dispB (l : List (D × D)) : Option Mo := match keysOf l with
  | some ks => if decide ks.Nodup && decide (l.length ≤ 15) then some (.dK l) else none
  | none => none
def fDisp (ps : List (Dn × Dn)) : Fn := fun ρ => (pvL ps ρ).bind fun l ρ1 => ans (dispB l) ρ1
def RPs (K : PySem.W.Frag) (F : Hp) : List (D × D) → List (V × V) → Prop
  | [], vs => vs = []
  | (a, b) :: l, vs => ∃ v w r, vs = (v, w) :: r ∧ Rep K F a v ∧ Rep K F b w ∧ RPs K F l r
def trP (K : PySem.W.Frag) (W : Wt) : List (Dn × Dn) → List (TE × TE)
  | [] => []
  | (k, v) :: r => (tE K W k, tE K W v) :: trP K W r
section
variable {K : PySem.W.Frag} {W : Wt}
theorem pv_imp : ∀ (ps : List (Dn × Dn)) {ρ : Rho} {σ : Sg} {F H : Hp} {R : List (V × V) → Hp → Prop}, SR K ρ σ F H → Af K W (fun _ F l vs => RPs K F l vs) ρ σ F H (fun vs H3 => R vs H3) (pvL ps ρ) → tPairs (trP K W ps) σ H R
  | [], ρ, σ, F, H, R, s, q => q [] F H (Go.refl s) rfl
  | (k, v) :: ps, ρ, σ, F, H, R, s, q => by
    refine Af.bind (R2 := fun _ F l vs => RPs K F l vs) s q fun x a ρ1 F1 H1 g r q => ?_
    refine Af.bind (R2 := fun _ F l vs => RPs K F l vs) g.sr q fun y b ρ2 F2 H2 g2 r2 q => ?_
    refine pv_imp ps g2.sr ?_
    cases hv : pvL ps ρ2 with
    | no => rw [hv] at q; exact q
    | ex x ρ2 => rw [hv] at q; exact q
    | ok l ρ3 =>
      rw [hv] at q
      exact fun vs F3 H3 g3 r3 => q ((a, b) :: vs) F3 H3 g3 ⟨a, b, vs, rfl, Rep.mono g3.sub _ _ (Rep.mono g2.sub _ _ r), Rep.mono g3.sub _ _ r2, r3⟩
theorem disp_rg : ∀ {l : List (D × D)} {ks : List Key} {vs : List (V × V)} {F : Hp}, keysOf l = some ks → RPs K F l vs → ∃ es : List (Key × V), vs = es.map (fun kv => (kV kv.1, kv.2)) ∧ es.map (·.1) = ks ∧ RG kD K F l es
  | [], ks, vs, F, h, r => by
    simp only [keysOf, Option.some.injEq] at h
    simp only [RPs] at r
    subst h r
    exact ⟨[], rfl, rfl, rfl⟩
  | (a, b) :: l, ks, vs, F, h, r => by
    unfold keysOf at h
    split at h
    · rename_i k ks' h1 h2
      cases h
      simp only [RPs] at r
      obtain ⟨v, w, r', rfl, ra, rb, rr⟩ := r
      obtain ⟨es, rfl, rfl, rg⟩ := disp_rg h2 rr
      rw [keyD_at h1] at ra
      exact ⟨(k, w) :: es, by rw [rep_kD ra]; rfl, rfl, k, w, es, rfl, keyD_at h1, rb, rg⟩
    · cases h
end
section
variable {X : Cx} {W : Wt} {pos : Pos}
theorem dispK_imp {ps : List (Dn × Dn)} {σ : Sg} {H : Hp} {Q : VK} (q : tF X.K W (fDisp ps) σ H Q) : tDisp (trP X.K W ps) σ H Q := by
  obtain ⟨ρ, F, s, q⟩ := q
  intro p hp
  have f : Fr F H F (upd H p (.dK [])) := Fr.own1 s.sub hp
  have s1 := s.fr f
  refine pv_imp ps s1 ?_
  unfold fDisp at q
  cases hv : pvL ps ρ with
  | no => rw [hv] at q; exact q
  | ex x ρ1 => rw [hv] at q; exact fun c dx F' H' g z => q c dx F' H' ((f.go s).trans g) z
  | ok l ρ1 =>
    rw [hv] at q
    intro vs F3 H3 g r
    obtain ⟨m, e, q⟩ := ansF_some q
    unfold dispB at e
    split at e
    · rename_i ks hk
      split at e
      · rename_i c
        cases e
        simp only [Bool.and_eq_true, decide_eq_true_eq] at c
        obtain ⟨c1, c2⟩ := c
        obtain ⟨es, rfl, rfl, rg⟩ := disp_rg hk r
        have np : ¬ Own ρ σ p := fun z => by
          obtain ⟨o, e⟩ := z.there s
          rw [hp] at e; cases e
        obtain ⟨k1, k2, k3⟩ := g.keep p _ upd_same np
        have k2 := k2 (fun _ h => by cases h) (sub_none s.sub hp)
        have hm : mergeK [] es = es := by
          have := mergeK_nodup es [] (by rw [List.nil_append]; exact c1)
          rwa [List.nil_append] at this
        refine ⟨k1, es, rfl, by rw [← RG.len kD rg]; exact c2, ?_⟩
        rw [hm]
        have g2 := ((f.go s).trans g).grow (o := .dK es) hp k2 k3
        have rg2 := (rg_iff kD).mp rg
        exact q _ _ _ g2 ⟨k2, es, upd_same, rg2.1, rg2.2⟩ hp k3
      · cases e
    · cases e
theorem df_disp {keys : List (Option Expr)} {values : List Expr} {ps : List (Dn × Dn)} (h : PPs X pos keys values (trP X.K W ps)) (hall : keys.all (·.isSome) = true) (hkv : keys.length = values.length) (h0 : keys ≠ []) (h15 : keys.length ≤ 15) : PE X (.Dict keys values pos) (tF X.K W (fDisp ps)) :=
  PE.imp (pe_disp h hall hkv h0 h15) fun _ _ _ q => dispK_imp q
theorem ppv_nil : PPs X pos [] [] (trP X.K W []) := pps_nil
theorem ppv_cons {k v : Expr} {ks : List (Option Expr)} {vs : List Expr} {d d2 : Dn} {ps : List (Dn × Dn)} (hk : PE X k (tE X.K W d)) (hv : PE X v (tE X.K W d2)) (hr : PPs X pos ks vs (trP X.K W ps)) : PPs X pos (some k :: ks) (v :: vs) (trP X.K W ((d, d2) :: ps)) := pps_cons hk hv hr
/-- {}, with keys that are whole numbers or texts; tuples of them -/
def fDict0K : Fn := fun ρ => .ok (.dK []) ρ
def fDict0T : Fn := fun ρ => .ok (.dT []) ρ
theorem own_new {K : PySem.W.Frag} {ρ : Rho} {σ : Sg} {F H : Hp} {p : Addr} (s : SR K ρ σ F H) (hp : H p = none) : ¬ Own ρ σ p := fun z => by
  obtain ⟨o, e⟩ := z.there s
  rw [hp] at e; cases e
theorem df_dict0K : PE X (.Dict [] [] pos) (tF X.K W fDict0K) := PE.imp pe_dnewK fun σ H Q ⟨ρ, F, s, q⟩ p hp =>
  q p F _ ((Fr.own1 s.sub hp).go s) ⟨sub_none s.sub hp, [], upd_same, rfl, by simp [RepP]⟩ hp (own_new s hp)
theorem df_dict0T : PE X (.Dict [] [] pos) (tF X.K W fDict0T) := PE.imp pe_dnewT fun σ H Q ⟨ρ, F, s, q⟩ p hp =>
  q p F _ ((Fr.own1 s.sub hp).go s) ⟨sub_none s.sub hp, [], upd_same, rfl, by simp [RepP]⟩ hp (own_new s hp)
end
/-! ### locked things -/
section
variable {K : PySem.W.Frag} {ρ ρ' : Rho} {σ σ' : Sg} {F H F' H' : Hp} {a : Addr} {o : Obj} {u : HO}
theorem rds_lock (nf : Nf u) (h : F a = some u) (nt : ∀ vs, u ≠ .tup vs) : Rds F (upd F a (.frz o u)) := by
  refine ⟨fun b w nw r => ?_, fun b vs e => ?_⟩
  · by_cases hb : b = a
    · subst hb
      rcases r with r | ⟨o', r⟩
      · rw [h] at r; cases r; exact .inr ⟨o, upd_same⟩
      · rw [h] at r; cases r; exact absurd rfl (nf o' w)
    · exact r.imp (fun z => by rw [upd_ne hb]; exact z) fun ⟨o', z⟩ => ⟨o', by rw [upd_ne hb]; exact z⟩
  · by_cases hb : b = a
    · subst hb; rw [h] at e; cases e; exact absurd rfl (nt vs)
    · rw [upd_ne hb]; exact e
theorem rds_unlock (nf : Nf u) (h : F a = some (.frz o u)) : Rds F (upd F a u) := by
  refine ⟨fun b w nw r => ?_, fun b vs e => ?_⟩
  · by_cases hb : b = a
    · subst hb
      rcases r with r | ⟨o', r⟩
      · rw [h] at r; cases r; exact absurd rfl (nw o u)
      · rw [h] at r; cases r; exact .inl upd_same
    · exact r.imp (fun z => by rw [upd_ne hb]; exact z) fun ⟨o', z⟩ => ⟨o', by rw [upd_ne hb]; exact z⟩
  · by_cases hb : b = a
    · subst hb; rw [h] at e; cases e
    · rw [upd_ne hb]; exact e
theorem OwnAt.moveR {b : Addr} {m : Mo} (h : OwnAt K F H b m) (e : Rds F F') (f : F' b = none) (k : ∀ o, H b = some o → H' b = some o) : OwnAt K F' H' b m := by
  cases m with
  | lst l => obtain ⟨_, vs, q, r⟩ := h; exact ⟨f, vs, k _ q, Reps.monoR e _ _ r⟩
  | dK l => obtain ⟨_, es, q, z, r⟩ := h; exact ⟨f, es, k _ q, z, RepP.monoR e _ _ r⟩
  | dT l => obtain ⟨_, es, q, z, r⟩ := h; exact ⟨f, es, k _ q, z, RepP.monoR e _ _ r⟩
/-- the same slots where a frozen thing is told anew -/
theorem SR.retell {w : HO} (s : SR K ρ σ F H) (h : F a = some u) (e : Rds F (upd F a w)) : SR K ρ σ (upd F a w) (upd H a w) where
  sub := fun b z q => by
    by_cases hb : b = a
    · subst hb; rw [upd_same] at q ⊢; exact q
    · rw [upd_ne hb] at q ⊢; exact s.sub _ _ q
  len := s.len
  val := fun i d q => by
    obtain ⟨v, h1, h2⟩ := s.val i d q
    exact ⟨v, h1, h2.monoR e⟩
  own := fun i m b q => by
    obtain ⟨c, h1, h2⟩ := s.own i m b q
    have hc : c ≠ a := fun z => by subst z; rw [h2.free] at h; cases h
    exact ⟨c, h1, h2.moveR e (by rw [upd_ne hc]; exact h2.free) fun o z => by rw [upd_ne hc]; exact z⟩
  inj := s.inj
theorem SR.own_not (s : SR K ρ σ F H) (h : F a = some u) : ¬ Own ρ σ a := fun z => by rw [z.free s] at h; cases h
theorem Go.unlock (s : SR K ρ σ F H) (nf : Nf u) (h : F a = some u) (g : Go K ρ σ (upd F a (.frz o u)) (upd H a (.frz o u)) ρ' σ' F' H') : Go K ρ σ F H ρ' σ' (upd F' a u) (upd H' a u) where
  sub := fun b z q => by
    by_cases hb : b = a
    · subst hb; rw [upd_same]; rw [h] at q; exact q
    · rw [upd_ne hb]; exact g.sub _ _ (by rw [upd_ne hb]; exact q)
  keep := fun b z q hn => by
    by_cases hb : b = a
    · subst hb
      have := s.sub _ _ h
      rw [this] at q; cases q
      obtain ⟨_, _, k3⟩ := g.keep b _ upd_same hn
      exact ⟨upd_same, (fun _ y => by rw [h] at y; cases y), k3⟩
    · obtain ⟨k1, k2, k3⟩ := g.keep b z (by rw [upd_ne hb]; exact q) hn
      exact ⟨by rw [upd_ne hb]; exact k1, fun nt y => by rw [upd_ne hb]; exact k2 nt (by rw [upd_ne hb]; exact y), k3⟩
  sr := g.sr.retell (g.sub _ _ upd_same) (rds_unlock nf (g.sub _ _ upd_same))
  there := fun b z q => by
    by_cases hb : b = a
    · subst hb; exact ⟨u, upd_same⟩
    · obtain ⟨z', q'⟩ := g.there b z (by rw [upd_ne hb]; exact q)
      exact ⟨z', by rw [upd_ne hb]; exact q'⟩
  io := g.io
theorem AfF.lock {W : Wt} {Q : VK} (s : SR K ρ σ F H) (nf : Nf u) (nt : ∀ vs, u ≠ .tup vs) (h : F a = some u) : ∀ {r : RE Mo}, (∀ x ρ', r ≠ .ex x ρ') → AfF K W ρ σ F H Q r →
    AfF K W ρ σ (upd F a (.frz o u)) (upd H a (.frz o u)) (fun v H' => H' a = some (.frz o u) ∧ Q v (upd H' a u)) r
  | .no, _, q => q
  | .ex x ρ', n, _ => absurd rfl (n x ρ')
  | .ok m ρ', _, q => fun b F' H' g ob n no => by
    have la := g.sub _ _ (upd_same (H := F) (a := a) (o := .frz o u))
    have hb : b ≠ a := fun z => by subst z; rw [ob.free] at la; cases la
    refine ⟨g.sr.sub _ _ la, q b _ _ (g.unlock s nf h) (ob.moveR (rds_unlock nf la) (by rw [upd_ne hb]; exact ob.free) fun o' z => by rw [upd_ne hb]; exact z) (by rw [upd_ne hb] at n; exact n) no⟩
end
/-! ### a walk over the keys of a dict -/
def dkeys : D → Option (List D)
  | .dict l => match kindOf l with
    | some false => some (l.map (·.1))
    | _ => none
  | _ => none
def iKeysV (i : Nat) : In := fun ρ => (dV i ρ).bind fun x ρ1 => ans (dkeys x) ρ1
theorem dV_at {K : PySem.W.Frag} {ρ ρ1 : Rho} {σ : Sg} {F H : Hp} {i : Nat} {x : D} (s : SR K ρ σ F H) (h : dV i ρ = .ok x ρ1) : ∃ v F1, σ[i]? = some (some v) ∧ Rep K F1 x v ∧ Go K ρ σ F H ρ1 σ F1 H := by
  cases hr : ρ[i]? with
  | none => simp only [dV, hr] at h; cases h
  | some l =>
    cases l with
    | un => simp only [dV, hr] at h; cases h
    | val d =>
      simp only [dV, hr] at h
      cases h
      obtain ⟨a, h1, h2⟩ := s.val i _ hr
      exact ⟨a, F, h1, h2, Go.refl s⟩
    | own m b =>
      cases b with
      | false => simp only [dV, hr] at h; cases h
      | true =>
        simp only [dV, hr] at h
        cases h
        obtain ⟨a, F', h1, h2, g⟩ := s.mov hr
        exact ⟨_, F', h1, h2, g⟩
theorem dV_noex {i : Nat} {ρ ρ1 : Rho} {x : Xn} : dV i ρ ≠ .ex x ρ1 := by
  unfold dV
  split <;> (intro h; cases h)
theorem rep_key {K : PySem.W.Frag} {F : Hp} (k : Key) : Rep K F (kD k) (kV k) := by cases k <;> simp only [kD, Rep] <;> rfl
theorem walk_dkeys {K : PySem.W.Frag} {F : Hp} {a : Addr} {o : Obj} {es : List (Key × V)} (h : F a = some (.frz o (.dK es))) : Walk K (Itk a o es) (es.map fun e => kD e.1) F where
  go := fun i F' H s1 s2 hi => by
    have e := s2 _ _ (s1 _ _ h)
    refine ⟨⟨e, by simpa using hi⟩, fun x H' y => ?_⟩
    obtain ⟨rfl, k, v, hk, rfl⟩ := y
    exact ⟨F', kD k, Fr.refl s2, by rw [List.getElem?_map, hk]; rfl, rep_key k⟩
  stop := fun i F' H s1 s2 hi => ⟨s2 _ _ (s1 _ _ h), by simpa using hi⟩
theorem PE.or2 {X : Cx} {e : Expr} {t t2 : TE} (h : PE X e t) (h2 : PE X e t2) : PE X e (fun σ H Q => t σ H Q ∨ t2 σ H Q) := ⟨fun pins s σ H Q I q => q.elim (h.run pins s σ H Q I) (h2.run pins s σ H Q I)⟩
section
variable {X : Cx} {W : Wt} {pos : Pos} {tg elt iter : Expr}
theorem compD_imp (i : Nat) {bd : Bd} {ts vs : List Nat} {ifs : Tn} {elt : Dn} {g : TG} {σ : Sg} {H : Hp} {Q : VK} (hr : TgR X.K g bd ts) (sub : ∀ i ∈ ts, i ∈ vs) (q : tF X.K W (fComp (iKeysV i) bd ifs elt vs) σ H Q) :
    tLockE (tLc (iKeys (tVar i)) g (tT X.K ⟨W.xr, E0⟩ ifs) (tE X.K ⟨W.xr, E0⟩ elt) vs) σ H Q ∨ tLc (iKeys (tVar i)) g (tT X.K ⟨W.xr, E0⟩ ifs) (tE X.K ⟨W.xr, E0⟩ elt) vs σ H Q := by
  obtain ⟨ρ, F, s, q⟩ := q
  unfold fComp iKeysV at q
  cases hd : dV i ρ with
  | no => rw [hd] at q; exact q.elim
  | ex x ρ1 => exact absurd hd dV_noex
  | ok x ρ1 =>
    rw [hd] at q
    obtain ⟨v, F1, h1, h2, g1⟩ := dV_at s hd
    cases hk : dkeys x with
    | none => rw [show ((RE.ok x ρ1).bind fun x ρ1 => ans (dkeys x) ρ1) = ans (dkeys x) ρ1 from rfl, hk] at q; exact q.elim
    | some l =>
      rw [show ((RE.ok x ρ1).bind fun x ρ1 => ans (dkeys x) ρ1) = ans (dkeys x) ρ1 from rfl, hk] at q
      have q1 := AfF.at g1 q
      cases x with
      | dict kvs =>
        simp only [dkeys] at hk
        split at hk
        · rename_i hkd
          cases hk
          simp only [Rep] at h2
          obtain ⟨a, vs', rfl, hx, rp⟩ := h2
          rcases hx with ⟨es, hx, hkeys, _⟩ | ⟨es, hx, hkeys, _⟩
          · have el : kvs.map (·.1) = es.map fun e => kD e.1 := hkeys
            rw [show (ans (some (kvs.map (·.1))) ρ1 : RE (List D)) = .ok (kvs.map (·.1)) ρ1 from rfl] at q1
            simp only [RE.bind] at q1
            rcases hx with hx | ⟨o, hx⟩
            · refine .inl ⟨a, .dK es, g1.sr.sub _ _ hx, True.intro, fun od => ?_⟩
              refine ⟨_, h1, a, od, rfl, .inl ⟨es, upd_same, ?_⟩⟩
              have sl := g1.sr.retell hx (rds_lock (o := od) nf_dK hx fun _ z => by cases z)
              refine comp_tail (W := W) (Q := fun v H' => H' a = some (.frz od (.dK es)) ∧ Q v (upd H' a (.dK es))) hr sub sl (l := kvs.map (·.1)) (by rw [el]; exact walk_dkeys upd_same) ?_
              refine AfF.lock g1.sr nf_dK (fun _ z => by cases z) hx ?_ q1
              intro y ρ' z
              split at z <;> cases z
            · refine .inr ⟨_, h1, a, o, rfl, .inl ⟨es, g1.sr.sub _ _ hx, ?_⟩⟩
              exact comp_tail (W := W) (Q := Q) hr sub g1.sr (l := kvs.map (·.1)) (by rw [el]; exact walk_dkeys hx) q1
          · exfalso
            cases kvs with
            | nil => cases hkd
            | cons p kvs =>
              obtain ⟨y, z⟩ := p
              cases es with
              | nil => cases hkeys
              | cons e0 es =>
                simp only [List.map_cons, List.cons.injEq] at hkeys
                simp only [kindOf] at hkd
                rw [hkeys.1, show keyD (PyData.tuple (e0.1.map kD)) = none from rfl] at hkd
                have : keysD (PyData.tuple (e0.1.map kD)) = some e0.1 := keysD_tD _
                rw [this] at hkd
                cases hkd
        · cases hk
      | none => cases hk
      | bool _ => cases hk
      | int _ => cases hk
      | str _ => cases hk
      | list _ => cases hk
      | tuple _ => cases hk
theorem df_compD (i : Nat) {x : Str} {p : Pos} {ifs : List Expr} {scope : Scope} {bd : Bd} {ts vs : List Nat} {tn : Tn} {de : Dn} (own : List (Str × Nat)) (hv : vs = own.map (·.2)) (hc : X.calm = true) (hN : X.N.Nodup) (ok : BlkOk X.N X.env.scope scope own)
    (hg : ∃ g, (∀ (s : Shared) (H : Hp) (C : Addr) (cl : List (Str × Addr)) (fp : List Addr), PG (X.blk s H scope (compEnvC scope cl C X.env) fp) tg g) ∧ TgR X.K g bd ts) (sub : ∀ i ∈ ts, i ∈ vs)
    (ht : ∀ (s : Shared) (H : Hp) (C : Addr) (cl : List (Str × Addr)) (fp : List Addr), PTs (X.blk s H scope (compEnvC scope cl C X.env) fp) ifs (tT X.K ⟨W.xr, E0⟩ tn))
    (he : ∀ (s : Shared) (H : Hp) (C : Addr) (cl : List (Str × Addr)) (fp : List Addr), PE (X.blk s H scope (compEnvC scope cl C X.env) fp) elt (tE X.K ⟨W.xr, E0⟩ de))
    (hs : ∀ y, foldedSetIterable (.Name x p) X.env y = pure y := by intro _; rfl)
    (hx : X.N[i]? = some x := by rfl) (hvs : Vis X.env.scope x := by first | exact Or.inl rfl | exact Or.inr (Or.inl rfl) | exact Or.inr (Or.inr rfl)) (hd : (x == ("__debug__" : Str)) = false := by decide) (hcd : (x == ("__classdict__" : Str)) = false := by decide) :
    PE X (.ListComp elt [⟨tg, .Name x p, ifs, 0⟩] scope pos) (tF X.K W (fComp (iKeysV i) bd tn de vs)) := by
  obtain ⟨g, hg, hr⟩ := hg
  subst hv
  have h0 := pe_lc (pos := pos) (wi := iKeys (tVar i)) hc hN (pi_keys (pe_var hx hvs hd hcd)) ok hg ht he hs
  exact PE.imp (PE.or2 (pe_lock h0) h0) fun _ _ _ q => compD_imp i hr sub q
end
/-! ### pop -/
def popK (i : Nat) (y : D) (ρ : Rho) : Option (List D × Bool) → RE D
  | some (l, b) => match y with
    | .int z => if -(2 ^ 63) ≤ z ∧ z < 2 ^ 63 then match seqIndex? z l.length with
        | some k => match l[k]? with
          | some x => .ok x (ρ.set i (.own (.lst (l.eraseIdx k)) b))
          | none => .no
        | none => .no
      else .no
    | _ => .no
  | none => .no
/-- x.pop(k) -/
def dPop (i : Nat) (k : Dn) : Dn := fun ρ => (ans (ownL ρ i) ρ).bind fun _ ρ0 => (k ρ0).bind fun y ρ1 => popK i y ρ1 (ownL ρ1 i)
def popE (i : Nat) (ρ : Rho) : Option (List D × Bool) → RE D
  | some (l, b) => match l[l.length - 1]? with
    | some x => .ok x (ρ.set i (.own (.lst l.dropLast) b))
    | none => .no
  | none => .no
/-- x.pop() -/
def dPop0 (i : Nat) : Dn := fun ρ => popE i ρ (ownL ρ i)
section
variable {X : Cx} {W : Wt} {e : Expr} {d : Dn} {pos p p2 p3 : Pos} {x : Str}
theorem Reps.dropLast {K : PySem.W.Frag} {F : Hp} : ∀ {ds : List D} {vs : List V}, Reps K F ds vs → Reps K F ds.dropLast vs.dropLast := fun {ds vs} h => by
  rw [List.dropLast_eq_take, List.dropLast_eq_take, h.length]
  exact h.take _
theorem de_pop (i : Nat) (hc : PE X (.Call (.Attribute (.Name x p) "pop" p2) [e] [] p3) (tBM X.K "list" rPopAt (tVar i) (tCons (tE X.K W d) tNil))) : PE X (.Call (.Attribute (.Name x p) "pop" p2) [e] [] p3) (tE X.K W (dPop i d)) :=
  PE.imp hc fun σ H Q ⟨ρ, F, s, q⟩ => by
    unfold dPop at q
    cases ho0 : ownL ρ i with
    | none => rw [ho0] at q; exact q.elim
    | some lb =>
      rw [ho0] at q
      simp only [ans, RE.bind] at q
      obtain ⟨l0, b0⟩ := lb
      obtain ⟨a0, vs0, e0, h0, _⟩ := lst_write (m := []) s ho0
      refine ⟨_, e0, Or.inl ⟨rfl, _, Or.inl (Or.inl h0)⟩, Af.bind s q fun y w ρ1 F1 H1 g1 r1 q => ?_⟩
      cases ho : ownL ρ1 i with
      | none => rw [ho] at q; exact q.elim
      | some lb =>
        rw [ho] at q
        obtain ⟨l, b⟩ := lb
        cases y with
        | int z =>
          simp only [popK] at q
          split at q
          · rename_i c
            split at q
            · rename_i k hk
              split at q
              · rename_i dd hdd
                obtain ⟨a, vs, e1, e2, e3, wr⟩ := lst_write (m := l.eraseIdx k) g1.sr ho
                rw [e0] at e1; cases e1
                obtain ⟨v, hv, rv⟩ := e3.get hdd
                have w1 : w = .int z := by simpa only [Rep] using r1
                subst w1
                exact ⟨_, vs, z, k, v, rfl, rfl, e2, c.1, c.2, by rw [← e3.length]; exact hk, hv, q v _ _ (wr _ (e3.eraseIdx k)) rv⟩
              · exact q.elim
            · exact q.elim
          · exact q.elim
        | none => exact q.elim
        | bool _ => exact q.elim
        | str _ => exact q.elim
        | list _ => exact q.elim
        | tuple _ => exact q.elim
        | dict _ => exact q.elim
theorem de_pop0 (i : Nat) (hc : PE X (.Call (.Attribute (.Name x p) "pop" p2) [] [] p3) (tBM0 X.K "list" rPop (tVar i))) : PE X (.Call (.Attribute (.Name x p) "pop" p2) [] [] p3) (tE X.K W (dPop0 i)) :=
  PE.imp hc fun σ H Q ⟨ρ, F, s, q⟩ => by
    unfold dPop0 at q
    cases ho : ownL ρ i with
    | none => rw [ho] at q; exact q.elim
    | some lb =>
      rw [ho] at q
      obtain ⟨l, b⟩ := lb
      simp only [popE] at q
      split at q
      · rename_i dd hdd
        obtain ⟨a, vs, e1, e2, e3, wr⟩ := lst_write (m := l.dropLast) s ho
        obtain ⟨v, hv, rv⟩ := e3.get hdd
        exact ⟨_, e1, Or.inl ⟨rfl, _, Or.inl (Or.inl e2)⟩, _, vs, v, rfl, rfl, e2, by rw [← e3.length]; exact hv, q v _ _ (wr _ e3.dropLast) rv⟩
      · exact q.elim
end
end Ft
/-! Ft21: the steps of Ft19 and Ft20. -/
namespace Ft
open PySem L2
section
variable {ρ ρ1 : Rho} {i : Nat} {k d e : Dn} {x y z : D} {l : List (D × D)} {m : Mo} {b : Bool}
theorem ev_toDK : Mo.toD (.dK l) = .dict l := rfl
theorem ev_toDT : Mo.toD (.dT l) = .dict l := rfl
theorem ev_slot1 : slotV (some (.own (.dK l) b)) = some (false, l) := rfl
theorem ev_slot2 : slotV (some (.own (.dT l) b)) = some (true, l) := rfl
theorem ev_slot3 : slotV (some (.val (.dict l))) = (kindOf l).map (fun b => (b, l)) := rfl
theorem ev_lookI : lookD (false, l) (.int j) = some (gK l (.inl j)) := rfl
theorem ev_lookS : lookD (false, l) (.str s) = some (gK l (.inr s)) := rfl
theorem ev_lookT {ks : List D} : lookD (true, l) (.tuple ks) = (keysL ks).map (gT l) := rfl
def lookO : Option (Bool × List (D × D)) → D → Option (Option D)
  | some s, y => lookD s y
  | none, _ => none
theorem ev_lookO {s : Bool × List (D × D)} : lookO (some s) y = lookD s y := rfl
theorem look_bind {o : Option (Bool × List (D × D))} : (o.bind fun s => lookD s y) = lookO o y := by cases o <;> rfl
def getN3 (ρ : Rho) : Option (Option D) → RE D
  | some (some d) => .ok d ρ
  | _ => .no
theorem ev_getN3 : getN3 ρ (some (some x)) = .ok x ρ := rfl
def getN1 (i : Nat) (y : D) (ρ : Rho) : RE D := getN3 ρ (lookO (slotV (ρ[i]?)) y)
theorem ev_getN1 : getN1 i y ρ = getN3 ρ (lookO (slotV (ρ[i]?)) y) := rfl
def slotS (k : Rho → RE D) (ρ : Rho) : Option (Bool × List (D × D)) → RE D
  | some _ => k ρ
  | none => .no
theorem ev_slotS {f : Rho → RE D} {s : Bool × List (D × D)} : slotS f ρ (some s) = f ρ := rfl
theorem ans_slot {f : Rho → RE D} : ((ans (slotD ρ i) ρ).bind fun _ ρ0 => f ρ0) = slotS f ρ (slotV (ρ[i]?)) := by
  unfold slotD
  cases slotV (ρ[i]?) <;> rfl
def thenB (k : Dn) (f : D → Rho → RE D) : Rho → RE D := fun ρ => (k ρ).bind f
theorem ev_thenB {f : D → Rho → RE D} : thenB k f ρ = (k ρ).bind f := rfl
theorem ev_dGetN : dGetN i k ρ = slotS (thenB k (getN1 i)) ρ (slotV (ρ[i]?)) := by
  unfold dGetN
  rw [ans_slot]
  congr 1
  funext ρ0
  unfold thenB
  refine bind_ext fun y ρ1 => ?_
  rw [look_bind]
  unfold getN1 slotD
  cases lookO (slotV (ρ1[i]?)) y with
  | none => rfl
  | some r => cases r <;> rfl
def inN2 (ρ : Rho) : Option (Option D) → RE D
  | some r => .ok (.bool r.isSome) ρ
  | none => .no
theorem ev_inN2 {r : Option D} : inN2 ρ (some r) = .ok (.bool r.isSome) ρ := rfl
def inN1 (i : Nat) (y : D) (ρ : Rho) : RE D := inN2 ρ (lookO (slotV (ρ[i]?)) y)
theorem ev_inN1 : inN1 i y ρ = inN2 ρ (lookO (slotV (ρ[i]?)) y) := rfl
theorem ev_dInN : dInN i k ρ = (k ρ).bind (inN1 i) := by
  unfold dInN
  refine bind_ext fun y ρ1 => ?_
  rw [look_bind]
  unfold inN1 slotD
  cases lookO (slotV (ρ1[i]?)) y <;> rfl
def niN2 (ρ : Rho) : Option (Option D) → RE D
  | some r => .ok (.bool (!r.isSome)) ρ
  | none => .no
theorem ev_niN2 {r : Option D} : niN2 ρ (some r) = .ok (.bool (!r.isSome)) ρ := rfl
def niN1 (i : Nat) (y : D) (ρ : Rho) : RE D := niN2 ρ (lookO (slotV (ρ[i]?)) y)
theorem ev_niN1 : niN1 i y ρ = niN2 ρ (lookO (slotV (ρ[i]?)) y) := rfl
theorem ev_dNiN : dNiN i k ρ = (k ρ).bind (niN1 i) := by
  unfold dNiN
  refine bind_ext fun y ρ1 => ?_
  rw [look_bind]
  unfold niN1 slotD
  cases lookO (slotV (ρ1[i]?)) y <;> rfl
def gdN2 (z : D) (ρ : Rho) : Option (Option D) → RE D
  | some r => .ok (r.getD z) ρ
  | none => .no
theorem ev_gdN2 {r : Option D} : gdN2 z ρ (some r) = .ok (r.getD z) ρ := rfl
def gdN1 (i : Nat) (y : D) (ρ : Rho) : RE D := gdN2 .none ρ (lookO (slotV (ρ[i]?)) y)
theorem ev_gdN1 : gdN1 i y ρ = gdN2 .none ρ (lookO (slotV (ρ[i]?)) y) := rfl
theorem ev_dGet1N : dGet1N i k ρ = slotS (thenB k (gdN1 i)) ρ (slotV (ρ[i]?)) := by
  unfold dGet1N
  rw [ans_slot]
  congr 1
  funext ρ0
  unfold thenB
  refine bind_ext fun y ρ1 => ?_
  rw [look_bind]
  unfold gdN1 slotD
  cases lookO (slotV (ρ1[i]?)) y <;> rfl
def gd2b (i : Nat) (y z : D) (ρ : Rho) : RE D := gdN2 z ρ (lookO (slotV (ρ[i]?)) y)
theorem ev_gd2b : gd2b i y z ρ = gdN2 z ρ (lookO (slotV (ρ[i]?)) y) := rfl
def gd2a (i : Nat) (e : Dn) (y : D) (ρ : Rho) : RE D := (e ρ).bind (gd2b i y)
theorem ev_gd2a : gd2a i e y ρ = (e ρ).bind (gd2b i y) := rfl
theorem ev_dGet2N : dGet2N i k e ρ = slotS (thenB k (gd2a i e)) ρ (slotV (ρ[i]?)) := by
  unfold dGet2N
  rw [ans_slot]
  congr 1
  funext ρ0
  unfold thenB
  refine bind_ext fun y ρ1 => ?_
  unfold gd2a
  refine bind_ext fun z ρ2 => ?_
  rw [look_bind]
  unfold gd2b slotD
  cases lookO (slotV (ρ2[i]?)) y <;> rfl
def ownMK : Option LV → Option (Mo × Bool)
  | some (.own m b) => some (m, b)
  | _ => none
theorem ev_ownMK : ownMK (some (.own m b)) = some (m, b) := rfl
theorem ownM_eq : ownM ρ i = ownMK (ρ[i]?) := by unfold ownM ownMK; cases ρ[i]? with | none => rfl | some l => cases l <;> rfl
def putN4 (i : Nat) (b : Bool) (ρ : Rho) : Option Mo → RS
  | some m => .next (ρ.set i (.own m b))
  | none => .no
theorem ev_putN4 : putN4 i b ρ (some m) = .next (ρ.set i (.own m b)) := rfl
def putN3 (i : Nat) (x y : D) (ρ : Rho) : Option (Mo × Bool) → RS
  | some (m, b) => putN4 i b ρ (putD m y x)
  | none => .no
theorem ev_putN3 : putN3 i x y ρ (some (m, b)) = putN4 i b ρ (putD m y x) := rfl
def putN2 (i : Nat) (x y : D) (ρ : Rho) : RS := putN3 i x y ρ (ownMK (ρ[i]?))
theorem ev_putN2 : putN2 i x y ρ = putN3 i x y ρ (ownMK (ρ[i]?)) := rfl
def putN0 (f : Rho → RS) (ρ : Rho) : Option (Mo × Bool) → RS
  | some _ => f ρ
  | none => .no
theorem ev_putN0 {f : Rho → RS} {s : Mo × Bool} : putN0 f ρ (some s) = f ρ := rfl
def thenS (k : Dn) (f : D → Rho → RS) : Rho → RS := fun ρ => (k ρ).st f
theorem ev_thenS {f : D → Rho → RS} : thenS k f ρ = (k ρ).st f := rfl
def putN1 (i : Nat) (k : Dn) (x : D) (ρ : Rho) : RS := putN0 (thenS k (putN2 i x)) ρ (ownMK (ρ[i]?))
theorem ev_putN1 : putN1 i k x ρ = putN0 (thenS k (putN2 i x)) ρ (ownMK (ρ[i]?)) := rfl
theorem ev_sPutN : sPutN i k e ρ = (e ρ).st (putN1 i k) := by
  unfold sPutN
  refine st_ext fun x ρ1 => ?_
  unfold putN1
  rw [ownM_eq]
  cases ownMK (ρ1[i]?) with
  | none => rfl
  | some s =>
    show (k ρ1).st _ = (k ρ1).st _
    refine st_ext fun y ρ2 => ?_
    unfold putN2
    rw [ownM_eq]
    cases ownMK (ρ2[i]?) with
    | none => rfl
    | some s =>
      obtain ⟨m, b⟩ := s
      show st' (putD m y x) _ = putN4 i b ρ2 (putD m y x)
      cases putD m y x <;> rfl
theorem ev_putD1 {j : Int} (h : l.length < 16000000) : putD (.dK l) (.int j) x = some (.dK (pK l (.inl j) x)) := by simp only [putD]; rw [if_pos h]; rfl
theorem ev_putD2 {s : Str} (h : l.length < 16000000) : putD (.dK l) (.str s) x = some (.dK (pK l (.inr s) x)) := by simp only [putD]; rw [if_pos h]; rfl
def pv3 (x y : D) (ps : List (D × D)) (ρ : Rho) : RE (List (D × D)) := .ok ((x, y) :: ps) ρ
theorem ev_pv3 {ps : List (D × D)} : pv3 x y ps ρ = .ok ((x, y) :: ps) ρ := rfl
def pv2 (r : List (Dn × Dn)) (x y : D) (ρ : Rho) : RE (List (D × D)) := (pvL r ρ).bind (pv3 x y)
theorem ev_pv2 {r : List (Dn × Dn)} : pv2 r x y ρ = (pvL r ρ).bind (pv3 x y) := rfl
def pv1 (v : Dn) (r : List (Dn × Dn)) (x : D) (ρ : Rho) : RE (List (D × D)) := (v ρ).bind (pv2 r x)
theorem ev_pv1 {r : List (Dn × Dn)} : pv1 e r x ρ = (e ρ).bind (pv2 r x) := rfl
theorem ev_pvL0 : pvL [] ρ = .ok [] ρ := rfl
theorem ev_pvLs {r : List (Dn × Dn)} : pvL ((k, e) :: r) ρ = (k ρ).bind (pv1 e r) := rfl
def dispK (l : List (D × D)) (ρ : Rho) : RE Mo := ans (dispB l) ρ
theorem ev_fDisp {ps : List (Dn × Dn)} : fDisp ps ρ = (pvL ps ρ).bind dispK := rfl
theorem ev_dispK : dispK l ρ = ans (dispB l) ρ := rfl
theorem ev_dispB1 {j : Int} : dispB [(.int j, x)] = some (.dK [(.int j, x)]) := by
  unfold dispB keysOf
  simp [keyD, keysOf]
theorem ev_fDict0K : fDict0K ρ = .ok (.dK []) ρ := rfl
theorem ev_fDict0T : fDict0T ρ = .ok (.dT []) ρ := rfl
def keysK (x : D) (ρ : Rho) : RE (List D) := ans (dkeys x) ρ
theorem ev_iKeysV : iKeysV i ρ = (dV i ρ).bind keysK := rfl
theorem ev_keysK : keysK x ρ = ans (dkeys x) ρ := rfl
theorem ev_dkeys (h : kindOf l = some false) : dkeys (.dict l) = some (l.map (·.1)) := by simp only [dkeys, h]
def popS (f : Rho → RE D) (ρ : Rho) : Option (List D × Bool) → RE D
  | some _ => f ρ
  | none => .no
theorem ev_popS {f : Rho → RE D} {s : List D × Bool} : popS f ρ (some s) = f ρ := rfl
def popJ (i : Nat) (y : D) (ρ : Rho) : RE D := popK i y ρ (ownL ρ i)
theorem ev_popJ : popJ i y ρ = popK i y ρ (ownL ρ i) := rfl
theorem ev_dPop : dPop i k ρ = popS (thenB k (popJ i)) ρ (ownL ρ i) := by
  unfold dPop
  cases ownL ρ i <;> rfl
theorem ev_popK0 {q : List D} : popK i (.int 0) ρ (some (x :: q, b)) = .ok x (ρ.set i (.own (.lst q) b)) := by
  unfold popK
  simp [seqIndex?]
end
/-! ### tables by whole numbers -/
theorem gG_put {l : List (D × D)} {k j : Key} {x : D} : gG keyD (pG kD keyD l k x) j = if j = k then some x else gG keyD l j := by
  unfold pG
  have hm : ∀ l : List (D × D), (gG keyD l k).isSome = true → gG keyD (l.map fun p => if keyD p.1 = some k then (p.1, x) else p) j = if j = k then some x else gG keyD l j := by
    intro l
    induction l with
    | nil => intro h; cases h
    | cons p l ih =>
      obtain ⟨a, c⟩ := p
      intro h
      rw [List.map_cons]
      by_cases e : keyD a = some k
      · rw [if_pos e]
        by_cases e2 : j = k
        · subst e2
          simp only [gG, e, if_true]
        · have e3 : ¬ keyD a = some j := fun z => e2 (by rw [e] at z; exact (Option.some.inj z).symm)
          simp only [gG, if_neg e3, if_neg e2]
          by_cases h2 : (gG keyD l k).isSome = true
          · rw [ih h2, if_neg e2]
          · have : ∀ l : List (D × D), gG keyD (l.map fun p => if keyD p.1 = some k then (p.1, x) else p) j = gG keyD l j := by
              intro l
              induction l with
              | nil => rfl
              | cons p l ih2 =>
                obtain ⟨a', c'⟩ := p
                rw [List.map_cons]
                by_cases e4 : keyD a' = some k
                · rw [if_pos e4]
                  have e5 : ¬ keyD a' = some j := fun z => e2 (by rw [e4] at z; exact (Option.some.inj z).symm)
                  simp only [gG, if_neg e5]
                  exact ih2
                · rw [if_neg e4]
                  simp only [gG]
                  rw [ih2]
            exact this l
      · rw [if_neg e]
        have h2 : (gG keyD l k).isSome = true := by simpa only [gG, if_neg e] using h
        simp only [gG]
        rw [ih h2]
        by_cases e2 : j = k
        · subst e2; rw [if_neg e]; simp
        · simp only [if_neg e2]
  by_cases h : (gG keyD l k).isSome = true
  · rw [if_pos h]
    exact hm l h
  · rw [if_neg h]
    have hs : ∀ l : List (D × D), (gG keyD l k).isSome ≠ true → gG keyD (l ++ [(kD k, x)]) j = if j = k then some x else gG keyD l j := by
      intro l
      induction l with
      | nil =>
        intro _
        simp only [List.nil_append, gG, keyD_kD]
        by_cases e : j = k
        · subst e; simp
        · rw [if_neg e, if_neg fun z => e (Option.some.inj z).symm]
      | cons p l ih =>
        obtain ⟨a, c⟩ := p
        intro h
        by_cases e : keyD a = some k
        · exfalso
          apply h
          simp only [gG, if_pos e, Option.isSome_some]
        · have h2 : (gG keyD l k).isSome ≠ true := by simpa only [gG, if_neg e] using h
          simp only [List.cons_append, gG]
          rw [ih h2]
          by_cases e2 : j = k
          · subst e2; rw [if_neg e]; simp
          · simp only [if_neg e2]
    exact hs l h
theorem gK_put {l : List (D × D)} {k j : Key} {x : D} : gK (pK l k x) j = if j = k then some x else gK l j := gG_put
theorem pK_len {l : List (D × D)} {k : Key} {x : D} : (pK l k x).length ≤ l.length + 1 := by
  unfold pK pG
  split
  · simp
  · simp
end Ft
/-! Ft22: defs with keyword-only parameters. -/
namespace Ft
open PySem L2 PySem.Spec PyProof.Rows
/-- further arguments: the defaults -/
def aDef (a : Ans) (ds : List D) : Ans := fun ρ => (a ρ).bind fun hs ρ1 => .ok (hs ++ ds.map Hd.v) ρ1
/-- one behind the other -/
def aApp (a b : Ans) : Ans := fun ρ => (a ρ).bind fun hs ρ1 => (b ρ1).bind fun ks ρ2 => .ok (hs ++ ks) ρ2
def RepC : List D → List V → Prop
  | [], vs => vs = []
  | d :: ds, vs => ∃ v r, vs = v :: r ∧ (∀ K F, Rep K F d v) ∧ RepC ds r
section
variable {K : PySem.W.Frag} {σ : Sg} {F F' : Hp}
theorem repHs_app : ∀ {hs : List Hd} {vs : List V} {ks : List Hd} {ws : List V}, RepHs K σ F hs vs → RepHs K σ F ks ws → RepHs K σ F (hs ++ ks) (vs ++ ws)
  | [], _, _, _, .nil, h2 => h2
  | _ :: _, _, _, _, .cons a b, h2 => .cons a (repHs_app b h2)
theorem repHs_def : ∀ {ds : List D} {vs : List V}, RepC ds vs → RepHs K σ F (ds.map Hd.v) vs
  | [], vs, h => by simp only [RepC] at h; subst h; exact .nil
  | d :: ds, vs, h => by
    simp only [RepC] at h
    obtain ⟨v, r, rfl, h1, h2⟩ := h
    exact .cons (h1 K F) (repHs_def h2)
end
theorem aLen_def {a : Ans} {n m : Nat} {ds : List D} (h : aLen a n) (hm : ds.length = m) : aLen (aDef a ds) (n + m) := fun ρ hs ρ1 e => by
  unfold aDef at e
  cases ha : a ρ with
  | ok l ρ2 =>
    rw [ha] at e
    simp only [RE.bind] at e
    cases e
    rw [List.length_append, List.length_map, h _ _ _ ha, hm]
  | ex x ρ2 => rw [ha] at e; cases e
  | no => rw [ha] at e; cases e
theorem aLen_app {a b : Ans} {n m : Nat} (h : aLen a n) (h2 : aLen b m) : aLen (aApp a b) (n + m) := fun ρ hs ρ1 e => by
  unfold aApp at e
  cases ha : a ρ with
  | ok l ρ2 =>
    rw [ha] at e
    simp only [RE.bind] at e
    cases hb : b ρ2 with
    | ok l2 ρ3 =>
      rw [hb] at e
      simp only [RE.bind] at e
      cases e
      rw [List.length_append, h _ _ _ ha, h2 _ _ _ hb]
    | ex x ρ3 => rw [hb] at e; cases e
    | no => rw [hb] at e; cases e
  | ex x ρ2 => rw [ha] at e; cases e
  | no => rw [ha] at e; cases e
/-- a def of the top with keyword-only parameters: where it stands -/
structure DfK (K : PySem.W.Frag) (mg : Str → Option Value) (x : Str) (st : Stmt) (kws : List (Str × V)) : Prop where
  ex : ∃ (f : Addr) (fd : FuncData), Fun K x x st f fd ∧ FunD K x x (defArgs st) (defBody st) (defScope st) [] kws f fd ∧ mg x = some (.ref f) ∧ PySem.W.keepIn K (.ref f) = true
structure ClD (P : Program) (w : World) (K : PySem.W.Frag) (mg : Str → Option Value) (base : Heap) (k : Nat) (x : Str) (st : Stmt) (kws : List (Str × V)) (ps : List Str) (n : Nat) (xr : XR) (g : Cn) : Prop where
  ex : ∃ (f : Addr) (fd : FuncData), FunD K x x (defArgs st) (defBody st) (defScope st) [] kws f fd ∧ FnOk P w K mg base (L2N.CX P w) k f fd ps (SpOf K xr n g) ∧ mg x = some (.ref f) ∧ PySem.W.keepIn K (.ref f) = true
section
variable {P : Program} {w : World} {K : PySem.W.Frag} {mg : Str → Option Value} {base : Heap}
theorem cld_of {xr : XR} {x : Str} {st : Stmt} {kws : List (Str × V)} {N ps : List Str} {k n m : Nat} {body : Sn} (d : DfK K mg x st kws) (S : FnScope N ps (defScope st)) (hp : ps.length = n) (hN : N.length = m) (hnm : n ≤ m)
    (hbody : ∀ (f : Addr) (cdv : Value) (A : Around) (outer : List Env) (s : Shared) (H : Hp) (E : XK), Room k (A.deeper (envOfC x (defScope st) s.heap.objs.size f cdv)) →
      PSs (cxOf (L2N.CX P w) P w K mg base N x (defScope st) f cdv A outer s H E) (defBody st) (tS K ⟨xr, E⟩ body)) : ClD P w K mg base (k + 1) x st kws ps n xr (fn n m body) := by
  obtain ⟨f, fd, F, FD, h1, h2⟩ := d.ex
  exact ⟨f, fd, FD, def_ok F S hp hN hnm (hbody f), h1, h2⟩
theorem dfk_mk {x : Str} {f : Addr} {st : Stmt} {kws : List (Str × V)} {h : Heap} {oc : Value} {od an : Option Addr} {osl : Array (Option Value)} {kV doc pm cdv ct : Value} (X : K.In h) (G : h.Ns mainGlobals mg) (a : PySem.W.nsIn K mainGlobals x = some (some (.ref f)))
    (l : K.lookup f = some ⟨oc, od, .func (PySem.W.fnOf x x (defArgs st) (defBody st) (defScope st) .none kV doc pm an cdv ct), osl⟩) (c : PySem.W.codeIn K cdv x = true) (k : PySem.W.keepIn K (.ref f) = true) (hk : KwdV K kV kws) : DfK K mg x st kws :=
  ⟨f, _, fun_mk l c k, ⟨⟨oc, od, .none, kV, doc, pm, an, cdv, ct, osl, rfl, l, c, .inl ⟨rfl, rfl⟩, hk⟩, k⟩, PySem.W.mg_of X G a, k⟩
theorem kwd_one {D : Addr} {x : Str} {v : V} {u : Value} (h : PySem.W.nsIn K D x = some (some u)) (r : RelV v u) : KwdV K (.ref D) [(x, v)] := .inr ⟨D, rfl, fun q hq => by
  rw [List.mem_singleton] at hq; subst hq; exact ⟨u, h, r⟩⟩
theorem kwd_two {D : Addr} {x y : Str} {v v2 : V} {u u2 : Value} (h : PySem.W.nsIn K D x = some (some u)) (r : RelV v u) (h2 : PySem.W.nsIn K D y = some (some u2)) (r2 : RelV v2 u2) : KwdV K (.ref D) [(x, v), (y, v2)] := .inr ⟨D, rfl, fun q hq => by
  rcases List.mem_cons.mp hq with rfl | hq
  · exact ⟨u, h, r⟩
  · rw [List.mem_singleton] at hq; subst hq; exact ⟨u2, h2, r2⟩⟩
end
section
variable {X : Cx} {W : Wt} {k np n : Nat} {x : Str} {p pos : Pos} {e : Expr} {es : List Expr} {kwe : List Keyword} {a b : Ans} {g : Cn} {st : Stmt} {kws : List (Str × V)} {ps ks : List Str} {ds : List D}
/-- f(e, ..): the keyword-only parameters have their defaults -/
theorem de_clD (c : ClD X.prog X.w X.K X.mg X.base k x st kws ps n W.xr g) (hr : Room k X.A) (hx : Passes (L2N.CX X.prog X.w) X W.E) (hds : RepC ds (kws.map (·.2))) (hk : kws ≠ []) (hn : np + kws.length = ps.length)
    (h : ∀ (D : Addr) (doc pm : Value) (an : Option Addr) (cdv ct : Value) (us ks : List Value), us.length = np → ks.length = kws.length →
      KwChain D ((kws.map (·.1)).zip ks) (bindArgs (PySem.W.fnOf x x (defArgs st) (defBody st) (defScope st) .none (.ref D) doc pm an cdv ct) ⟨us, []⟩) (ps.zip (us ++ ks)))
    (ha : PA X (e :: es) (tAs X.K W a)) (hl : aLen (aDef a ds) n) (hg : Gl X x := by rfl) (hdb : (x == ("__debug__" : Str)) = false := by decide) (he : starEach (e :: es) X.env = (false, eval e X.env) :: starEach es X.env := by rfl) (hpl : (backTo pos (starEach es X.env)).any (·.1) = false := by rfl) :
    PE X (.Call (.Name x p) (e :: es) [] pos) (tE X.K W (dCall g (aDef a ds))) := by
  obtain ⟨f, fd, FD, Fk, hm, hkp⟩ := c.ex
  obtain ⟨dv, hv, hb⟩ := FD.binds0 np hk hn h
  refine PE.imp (pe_call (dvs := kws.map (·.2)) (ds := dv) Fk hr hg hm hkp hb hv hx ha hdb he hpl) fun σ H Q q => ?_
  have q := call_imp (dvs := []) hl (q := q)
  obtain ⟨ρ, F, s, q⟩ := q
  refine Af.bind s q fun hs vs ρ1 F1 H1 g1 r z => ?_
  exact z.okk g1.sr (repHs_app r (repHs_def hds))
/-- f(e, .., k = v, ..): the first keyword-only parameters are written, in their order; the others have their defaults -/
theorem de_clK (c : ClD X.prog X.w X.K X.mg X.base k x st kws ps n W.xr g) (hr : Room k X.A) (hx : Passes (L2N.CX X.prog X.w) X W.E) (ms : List (Str × V)) (hds : RepC ds (ms.map (·.2))) (hk : kws ≠ []) (hms : ∀ q ∈ ms, q ∈ kws)
    (h : ∀ (D : Addr) (doc pm : Value) (an : Option Addr) (cdv ct : Value) (us mv ws : List Value), us.length = np → mv.length = ms.length → ws.length = ks.length →
      KwChain D ((ms.map (·.1)).zip mv) (bindArgs (PySem.W.fnOf x x (defArgs st) (defBody st) (defScope st) .none (.ref D) doc pm an cdv ct) ⟨us, ks.zip ws⟩) (ps.zip ((us ++ ws) ++ mv)))
    (ha : PA X (e :: es) (tAs X.K W a)) (hkw : PK X kwe (tAs X.K W b)) (hla : aLen a np) (hlb : aLen b ks.length) (hl : aLen (aDef (aApp a b) ds) n) (hg : Gl X x := by rfl)
    (hall : (backToKw pos (keywordEach kwe X.env)).all (·.1.isSome) = true := by rfl) (hks : (backToKw pos (keywordEach kwe X.env)).filterMap (·.1) = ks := by rfl)
    (hdb : (x == ("__debug__" : Str)) = false := by decide) (he : starEach (e :: es) X.env = (false, eval e X.env) :: starEach es X.env := by rfl)
    (hpl : ((backTo pos (starEach (e :: es) X.env)).any (·.1) || (backToKw pos (keywordEach kwe X.env)).any (·.1.isNone)) = false := by rfl) :
    PE X (.Call (.Name x p) (e :: es) kwe pos) (tE X.K W (dCall g (aDef (aApp a b) ds))) := by
  obtain ⟨f, fd, FD, Fk, hm, hkp⟩ := c.ex
  obtain ⟨mv, hb⟩ := FD.kbinds0 (ps := ps) np ks ms (fun us mv ws => (us ++ ws) ++ mv) hk hms (fun r1 r2 r3 => (r1.append r3).append r2) h
  refine PE.imp (pe_callN Fk hr hg hm hkp hb hx ha hkw hall hks hdb he hpl) fun σ H Q q => ?_
  have q := call_imp (dvs := []) hl (q := q)
  obtain ⟨ρ, F, s, q⟩ := q
  have e0 : aDef (aApp a b) ds ρ = (a ρ).bind fun hs ρ1 => (b ρ1).bind fun ks ρ2 => .ok ((hs ++ ks) ++ ds.map Hd.v) ρ2 := by
    unfold aDef aApp
    cases a ρ with
    | ok l ρ1 => simp only [RE.bind]; cases b ρ1 <;> rfl
    | ex _ _ => rfl
    | no => rfl
  rw [e0] at q
  refine ⟨ρ, F, s, ?_⟩
  cases hea : a ρ with
  | no => rw [hea] at q; exact q
  | ex y ρ1 => rw [hea] at q; exact q
  | ok hs ρ1 =>
    rw [hea] at q
    simp only [RE.bind] at q
    intro vs F1 H1 g1 r1
    have q1 := q.at g1
    refine ⟨ρ1, F1, g1.sr, ?_⟩
    cases heb : b ρ1 with
    | no => rw [heb] at q1; exact q1
    | ex y ρ2 => rw [heb] at q1; exact q1
    | ok hk2 ρ2 =>
      rw [heb] at q1
      simp only [RE.bind] at q1
      intro zs F2 H2 g2 r2
      refine ⟨by rw [← r1.len]; exact hla _ _ _ hea, by rw [← r2.len]; exact hlb _ _ _ heb, ?_⟩
      exact (q1.at g2).okk g2.sr (repHs_app (repHs_app (RepHs.mono g2.sub r1) r2) (repHs_def hds))
theorem dks_nil : PK X [] (tAs X.K W aNil) := ⟨fun pos pins s σ H Q I ⟨ρ, F, sr, q⟩ => pk_nil.run pos pins s σ H Q I (Af.okk sr q .nil)⟩
theorem dks_cons {nm : Option Str} {kpos : Pos} {a : An} {as : Ans} (h : PE X e (tA X.K W a)) (t : PK X kwe (tAs X.K W as)) : PK X (⟨nm, e, kpos⟩ :: kwe) (tAs X.K W (aCons a as)) :=
  ⟨fun pos pins s σ H Q I ⟨ρ, F, sr, q⟩ => (pk_cons h t).run pos pins s σ H Q I (Af.bind sr q fun h v ρ1 F1 H1 g1 r1 z1 => Af.bind g1.sr z1 fun hs vs ρ2 F2 H2 g2 r2 z2 => z2.okk g2.sr (.cons (r1.mono g2.sub) r2))⟩
end
theorem repc_nil : RepC [] [] := rfl
theorem repc_int {i : Int} {ds : List D} {vs : List V} (h : RepC ds vs) : RepC (.int i :: ds) (.int i :: vs) := ⟨_, _, rfl, fun _ _ => rep_int, h⟩
/-! ### steps -/
section
variable {a b : Ans} {ds : List D} {ρ : Rho} {hs ks : List Hd}
def defK (ds : List D) (hs : List Hd) (ρ : Rho) : RE (List Hd) := .ok (hs ++ ds.map Hd.v) ρ
theorem ev_aDef : aDef a ds ρ = (a ρ).bind (defK ds) := rfl
theorem ev_defK : defK ds hs ρ = .ok (hs ++ ds.map Hd.v) ρ := rfl
def appK3 (b : Ans) (hs : List Hd) (ρ : Rho) : RE (List Hd) := (b ρ).bind (appK4 hs)
where appK4 (hs ks : List Hd) (ρ : Rho) : RE (List Hd) := .ok (hs ++ ks) ρ
theorem ev_aApp : aApp a b ρ = (a ρ).bind (appK3 b) := rfl
theorem ev_appK3 : appK3 b hs ρ = (b ρ).bind (appK3.appK4 hs) := rfl
theorem ev_appK4 : appK3.appK4 hs ks ρ = .ok (hs ++ ks) ρ := rfl
theorem ev_appn0 : ([] : List Hd) ++ ks = ks := rfl
theorem ev_appns {h : Hd} : (h :: hs) ++ ks = h :: (hs ++ ks) := rfl
theorem ev_mapn0 : ([] : List D).map Hd.v = [] := rfl
theorem ev_mapns {d : D} : (d :: ds).map Hd.v = Hd.v d :: ds.map Hd.v := rfl
end
end Ft
/-! Ft23: a tuple times 0, 1 or more. -/
namespace Ft
open PySem L2 PySem.Spec PyProof.Rows
section
variable {X : Cx}
theorem tuple_mul1 (l : Addr) (items : Array Value) (n : Nat) (u : Tok) (sl : Array (Option Value)) (dd : Option Addr) :
    Meets (Builtin.«tuple.__mul__» ⟨[.ref l, .int 1 u], []⟩) (fun _ R s => s.heap.get? l = some { cls := .type "tuple", dict := dd, data := .seq items n, slots := sl } ∧ R (.ok (.ret (Value.ref l))) s) :=
  .of_wp fun prog w A R s h => by
    obtain ⟨hp, g, d, tk, os⟩ := s
    obtain ⟨hl, h⟩ := h
    have f1 := AutoSeq1.idx_int
    have c0 : ¬ ((1 : Int) < -(2 ^ 63) ∨ (1 : Int) ≥ 2 ^ 63) := by decide
    wp_walk using wpAny_loadPart' hl
    repeat (first
      | (refine wpAny_ite_false (by simp) ?_; wp_walk using wpAny_loadPart' hl)
      | (refine wpAny_ite_true (by simp) ?_; wp_walk using wpAny_loadPart' hl))
    exact ⟨_, rfl, h⟩
theorem tuple_mul0 (l : Addr) (items : Array Value) (n : Nat) (u : Tok) (sl : Array (Option Value)) (dd : Option Addr) (hi : items.isEmpty = false) :
    Meets (Builtin.«tuple.__mul__» ⟨[.ref l, .int 0 u], []⟩) (fun _ R s => s.heap.get? l = some { cls := .type "tuple", dict := dd, data := .seq items n, slots := sl } ∧
      R (.ok (.ret (Value.ref s.heap.objs.size))) { s with heap := s.heap.push { cls := Value.type "tuple", data := Data.seq #[] }, toks := s.toks }) :=
  .of_wp fun prog w A R s h => by
    obtain ⟨hp, g, d, tk, os⟩ := s
    obtain ⟨hl, h⟩ := h
    have f1 := AutoSeq1.idx_int
    wp_walk using wpAny_loadPart' hl
    repeat (first
      | (refine wpAny_ite_false (by simp [hi]) ?_; wp_walk using wpAny_loadPart' hl)
      | (refine wpAny_ite_true (by simp [hi]) ?_; wp_walk using wpAny_loadPart' hl))
    exact ⟨_, rfl, h⟩
def rRepT1 (K : PySem.W.Frag) : R2 := fun x y H Q => ∃ l k xs, x = .ref l ∧ y = .int k ∧ SqT K H l xs ∧ xs ≠ [] ∧ xs.length ≤ 1000 ∧ ((k = 1 ∧ Q (.ref l) H) ∨ (k = 0 ∧ ∀ p, H p = none → Q (.ref p) (upd H p (.tup []))) ∨
  (2 ≤ k ∧ k ≤ 1000 ∧ ∀ p, H p = none → Q (.ref p) (upd H p (.tup (List.replicate k.toNat xs).flatten))))
theorem op_repT1 : OpR X (binaryOp .Mult) (rRepT1 X.K) := by
  intro pins s σ H x y v u Q I rx ry h
  obtain ⟨l, k, xs, rfl, rfl, hT, hne, hz, h⟩ := h
  rcases h with ⟨rfl, q⟩ | ⟨rfl, q⟩ | ⟨h1, h2, q⟩
  · cases rx
    obtain ⟨t, rfl⟩ := ry
    obtain ⟨its, r, ⟨⟨cls, dd, data, sl⟩, ho, hc, n, hd⟩, hs⟩ := I.tuple hT
    simp only at hc hd
    subst hc hd
    exact wpAny_binaryOp_repeat_ref (T := "tuple") (U := "int") (by decide) ⟨_, ho, rfl⟩ (fun s' => typeIs_int s' 1 t) noFill_tuple_mul F.fills_int_mul F.slot_int_rmul repeat_tuple F.slot_int_index.lookup
      (call_meets F.slot_int_rmul (typeIs_int s 1 t) F.entry_int_rmul (F.args_int_rmul_2 _ _) (int_rmul_tuple 1 t l its.toArray n dd sl)
        ⟨ho, rfl, ⟨_, ho, rfl⟩, call_meets F.slot_tuple_mul ⟨_, ho, rfl⟩ F.entry_tuple_mul (F.args_tuple_mul_2 _ _) (tuple_mul1 l its.toArray n t sl dd) ⟨ho, ⟨.ref l, H, I, rfl, q⟩⟩⟩)
  · cases rx
    obtain ⟨t, rfl⟩ := ry
    obtain ⟨its, r, ⟨⟨cls, dd, data, sl⟩, ho, hc, n, hd⟩, hs⟩ := I.tuple hT
    simp only at hc hd
    subst hc hd
    have hn : its ≠ [] := fun e => hne (by
      have := r.length
      rw [e] at this
      exact List.eq_nil_of_length_eq_zero this)
    have hi : its.toArray.isEmpty = false := by
      cases its with
      | nil => exact absurd rfl hn
      | cons a b => rfl
    refine wpAny_binaryOp_repeat_ref (T := "tuple") (U := "int") (by decide) ⟨_, ho, rfl⟩ (fun s' => typeIs_int s' 0 t) noFill_tuple_mul F.fills_int_mul F.slot_int_rmul repeat_tuple F.slot_int_index.lookup
      (call_meets F.slot_int_rmul (typeIs_int s 0 t) F.entry_int_rmul (F.args_int_rmul_2 _ _) (int_rmul_tuple 0 t l its.toArray n dd sl)
        ⟨ho, rfl, ⟨_, ho, rfl⟩, call_meets F.slot_tuple_mul ⟨_, ho, rfl⟩ F.entry_tuple_mul (F.args_tuple_mul_2 _ _) (tuple_mul0 l its.toArray n t sl dd hi) ⟨ho, ?_⟩⟩)
    refine ⟨.ref s.heap.objs.size, _, I.laid (t' := s.toks) (o := .tup []) (fun b ob q => Heap.get?_push_of_some _ q) (Nat.le_refl _) ?_, rfl, q _ (I.hok.fresh (Nat.le_refl _))⟩
    exact ⟨by rw [sizeLine_eq]; decide, [], .nil, IsTup.new _ _⟩
  · exact op_repT pins s σ H _ _ v u Q I rx ry ⟨l, k, xs, rfl, rfl, hT, hne, h1, h2, hz, q⟩
def mulTC : D → D → Option D
  | .tuple l, .int k => if (!l.isEmpty) && decide (0 ≤ k) && decide (k ≤ 1000) && decide (l.length ≤ 1000) then some (.tuple (List.replicate k.toNat l).flatten) else none
  | _, _ => none
theorem p2_mulTC {K : PySem.W.Frag} : P2 K (rRepT1 K) mulTC := fun F H x y d e z Q s h1 h2 hz q => by
  unfold mulTC at hz
  split at hz
  · split at hz
    · rename_i l k c
      cases hz
      simp only [Bool.and_eq_true, decide_eq_true_eq, Bool.not_eq_true'] at c
      obtain ⟨⟨⟨c1, c2⟩, c3⟩, c4⟩ := c
      have hr : Rep K F (.tuple l) x := by
        rcases h1 with h | ⟨_, m, _, e, _⟩
        · exact h
        · cases m <;> cases e
      obtain ⟨a, vs, rfl, q1, r1⟩ := h1.tuple s
      have l1 := r1.length
      have ne : vs ≠ [] := fun z => by
        subst z
        rw [List.length_nil] at l1
        rw [List.eq_nil_of_length_eq_zero l1] at c1
        cases c1
      refine ⟨a, k, vs, rfl, h2.int, q1, ne, by omega, ?_⟩
      rcases (show k = 1 ∨ k = 0 ∨ 2 ≤ k by omega) with rfl | rfl | c5
      · refine .inl ⟨rfl, ?_⟩
        have : (List.replicate (1 : Int).toNat l).flatten = l := by simp
        rw [this] at q
        exact q _ F H (Fr.refl s) hr
      · refine .inr (.inl ⟨rfl, fun p hp => ?_⟩)
        obtain ⟨f, r⟩ := new_tuple (K := K) s hp (ds := []) (vs := []) .nil
        exact q _ _ _ f r
      · refine .inr (.inr ⟨c5, c3, fun p hp => ?_⟩)
        obtain ⟨f, r⟩ := new_tuple (K := K) s hp (reps_rep r1 k.toNat)
        exact q _ _ _ f r
    · cases hz
  · cases hz
end
end Ft
/-! Ft24: a comprehension over an own list that stays an own list. -/
namespace Ft
open PySem L2 PySem.Spec PyProof.Rows
def HasO (i : Nat) (l : List D) (ρ : Rho) : Prop := ∃ b, ρ[i]? = some (.own (.lst l) b)
open Classical in
noncomputable def compLO (i : Nat) (l0 : List D) (bd : Bd) (ifs : Tn) (elt : Dn) (vs : List Nat) : List D → List D → Rho → RE (List D)
  | [], acc, ρ => if HasO i l0 ρ then .ok acc ρ else .no
  | d :: l, acc, ρ => if HasO i l0 ρ then (match bd d ρ with
    | none => .no
    | some ρ1 => match ifs ρ1 with
      | .ok false ρ2 => compLO i l0 bd ifs elt vs l acc (wipeR ρ2 vs)
      | .ok true ρ2 => match elt ρ2 with
        | .ok x ρ3 => if acc.length < sizeLine then compLO i l0 bd ifs elt vs l (acc ++ [x]) (wipeR ρ3 vs) else .no
        | _ => .no
      | _ => .no) else .no
noncomputable def compKO (i : Nat) (bd : Bd) (ifs : Tn) (elt : Dn) (vs : List Nat) (ρ : Rho) : Option LV → RE Mo
  | some (.own (.lst l) _) => compR ρ vs (compLO i l bd ifs elt vs l [] (wipeR ρ vs))
  | _ => .no
noncomputable def fCompO (i : Nat) (bd : Bd) (ifs : Tn) (elt : Dn) (vs : List Nat) : Fn := fun ρ => compKO i bd ifs elt vs ρ (ρ[i]?)
section
variable {X : Cx} {W : Wt} {tg e e2 e3 : Expr} {d d2 : Dn} {pos p : Pos} {v : Vn} {es : List Expr} {t : Tn}
theorem comp_tailO {bd : Bd} {ts vs : List Nat} {ifs : Tn} {elt : Dn} {g : TG} {σ : Sg} {H1 : Hp} {Q : VK} {l : List D} {ρ1 : Rho} {F1 : Hp} {i0 : Nat} {a : Addr} (hr : TgR X.K g bd ts) (sub : ∀ i ∈ ts, i ∈ vs) (hiv : i0 ∉ vs) (s1 : SR X.K ρ1 σ F1 H1) (ha : σ[i0]? = some (some (.ref a)))
    (q1 : AfF X.K W ρ1 σ F1 H1 Q (compR ρ1 vs (compLO i0 l bd ifs elt vs l [] (wipeR ρ1 vs)))) :
    tLc (fun _ H R => R (Itl X.K a) H) g (tT X.K ⟨W.xr, E0⟩ ifs) (tE X.K ⟨W.xr, E0⟩ elt) vs σ H1 Q := by
  intro D hD
  have at_ : ∀ {ρb : Rho} {Fb H' : Hp}, SR X.K ρb (wipe σ vs) Fb H' → HasO i0 l ρb → ∃ ws, SqL X.K H' a ws ∧ Reps X.K Fb l ws := fun {ρb Fb H'} s ⟨b, e⟩ => by
    obtain ⟨c, h1, _, ws, h2, h3⟩ := s.own _ _ _ e
    rw [wipe_get hiv, ha] at h1
    cases h1
    exact ⟨ws, .inl (.inl h2), h3⟩
  have h0 : ∀ j ∈ vs, ∀ m, (wipeR ρ1 vs)[j]? ≠ some (.own m false) := fun j hj m e => by have := wipeR_in hj _ e; cases this
  have noD : ¬ Own ρ1 σ D := fun z => by
    obtain ⟨o, eo⟩ := z.there s1
    rw [hD] at eo; cases eo
  have FD : F1 D = none := sub_none s1.sub hD
  refine ⟨fun i m H' => ∃ ρb Fb acc, Go X.K (wipeR ρ1 vs) (wipe σ vs) F1 H1 ρb (wipe σ vs) Fb H' ∧ OwnAt X.K Fb H' D (.lst acc) ∧ ¬ Own ρb (wipe σ vs) D ∧ i ≤ l.length ∧ m = l.length - i ∧
      AfF X.K W ρ1 σ F1 H1 Q (compR ρ1 vs (compLO i0 l bd ifs elt vs (l.drop i) acc ρb)),
    ⟨l.length, wipeR ρ1 vs, F1, [], (Go.refl s1.wipe).grow hD FD fun z => noD (own_wipe z), ⟨FD, [], upd_same, .nil⟩, fun z => noD (own_wipe z), Nat.zero_le _, rfl, q1⟩, ?_⟩
  rintro i m H2 ⟨ρb, Fb, acc, gb, ob, nb, hi, rfl, q2⟩
  by_cases hl : i < l.length
  · have hd' : l.drop i = l[i] :: l.drop (i + 1) := List.drop_eq_getElem_cons hl
    rw [hd'] at q2
    unfold compLO at q2
    by_cases hP : HasO i0 l ρb
    · rw [if_pos hP] at q2
      obtain ⟨ws, hq, hrep⟩ := at_ gb.sr hP
      obtain ⟨w, hw, rw'⟩ := hrep.get (List.getElem?_eq_getElem hl)
      refine .inr ⟨⟨ws, w, hq, hw⟩, fun H' => ∃ ρb Fb acc, Go X.K (wipeR ρ1 vs) (wipe σ vs) F1 H1 ρb (wipe σ vs) Fb H' ∧ OwnAt X.K Fb H' D (.lst acc) ∧ ¬ Own ρb (wipe σ vs) D ∧
        AfF X.K W ρ1 σ F1 H1 Q (compR ρ1 vs (compLO i0 l bd ifs elt vs (l.drop (i + 1)) acc ρb)), fun H' ⟨a1, a2, a3, a4, a5, a6, a7⟩ => ⟨l.length - (i + 1), by omega, a1, a2, a3, a4, a5, a6, hl, rfl, a7⟩, fun x H3 y => ?_⟩
      obtain ⟨rfl, y⟩ := y
      have y2 := y ws hq
      rw [hw] at y2
      cases y2
      have g3 := gb
      cases hb : bd l[i] ρb with
      | none => rw [hb] at q2; exact q2.elim
      | some ρ4 =>
        simp only [hb] at q2
        refine hr _ _ _ _ _ _ _ _ g3.sr rw' hb fun σ4 g4 kp => ?_
        have we := wipe_keep kp sub
        obtain ⟨o3, n3⟩ := OwnAt.go g4 ob nb
        have g5 := g3.trans g4
        refine ⟨we, ρ4, Fb, g4.sr, ?_⟩
        cases hif : ifs ρ4 with
        | no => simp only [hif] at q2; exact q2.elim
        | ex x ρ5 => simp only [hif] at q2; exact q2.elim
        | ok b ρ5 =>
          intro b' F5 H5 g6 eb
          subst eb
          obtain ⟨o5, n5⟩ := OwnAt.go g6 o3 n3
          cases b' with
          | false =>
            simp only [hif] at q2
            rw [if_neg Bool.false_ne_true]
            exact ⟨wipeR ρ5 vs, F5, acc, (g5.trans g6).wiped we h0, o5, fun z => n5 (own_wipe (vs := vs) (by rw [we]; exact z)), q2⟩
          | true =>
            simp only [hif] at q2
            rw [if_pos rfl]
            refine ⟨ρ5, F5, g6.sr, ?_⟩
            cases hel : elt ρ5 with
            | no => simp only [hel] at q2; exact q2.elim
            | ex x ρ6 => simp only [hel] at q2; exact q2.elim
            | ok x ρ6 =>
              intro yv F6 H6 g7 ry
              obtain ⟨o6, n6⟩ := OwnAt.go g7 o5 n5
              obtain ⟨fD, ac, eD, rD⟩ := o6
              simp only [hel] at q2
              by_cases hz : acc.length < sizeLine
              · rw [if_pos hz] at q2
                refine ⟨ac, eD, by rw [← rD.length]; exact hz, wipeR ρ6 vs, F6, acc ++ [x], ?_, ⟨fD, _, upd_same, rD.append (.cons ry .nil)⟩, fun z => n6 (own_wipe (vs := vs) (by rw [we]; exact z)), q2⟩
                exact (((g5.trans g6).trans g7).wiped we h0).grow hD fD fun z => n6 (own_wipe (vs := vs) (by rw [we]; exact z))
              · rw [if_neg hz] at q2; exact q2.elim
    · rw [if_neg hP] at q2; exact q2.elim
  · rw [List.drop_eq_nil_of_le (by omega)] at q2
    unfold compLO at q2
    by_cases hP : HasO i0 l ρb
    · rw [if_pos hP] at q2
      obtain ⟨ws, hq, hrep⟩ := at_ gb.sr hP
      refine .inl ⟨⟨ws, hq, by rw [← hrep.length]; omega⟩, ?_⟩
      obtain ⟨g2, o2⟩ := Go.unwipe s1 gb
      exact q2 D Fb H2 g2 ob hD fun z => (o2 D z).elim nb noD
    · rw [if_neg hP] at q2; exact q2.elim
theorem compO_imp (i : Nat) {bd : Bd} {ts vs : List Nat} {ifs : Tn} {elt : Dn} {g : TG} {σ : Sg} {H : Hp} {Q : VK} (hr : TgR X.K g bd ts) (sub : ∀ i ∈ ts, i ∈ vs) (hiv : i ∉ vs) (q : tF X.K W (fCompO i bd ifs elt vs) σ H Q) :
    tLc (iList X.K (tVar i)) g (tT X.K ⟨W.xr, E0⟩ ifs) (tE X.K ⟨W.xr, E0⟩ elt) vs σ H Q := by
  obtain ⟨ρ, F, s, q⟩ := q
  unfold fCompO compKO at q
  cases hi : ρ[i]? with
  | none => rw [hi] at q; exact q.elim
  | some x =>
    rw [hi] at q
    cases x with
    | un => exact q.elim
    | val _ => exact q.elim
    | own m b =>
      cases m with
      | lst l =>
        obtain ⟨a, h1, _, ws, h2, h3⟩ := s.own _ _ _ hi
        exact ⟨_, h1, a, rfl, ⟨ws, .inl (.inl h2)⟩, comp_tailO hr sub hiv s h1 q⟩
      | dK _ => exact q.elim
      | dT _ => exact q.elim
theorem df_compO (i : Nat) {x : Str} {p : Pos} {ifs : List Expr} {scope : Scope} {bd : Bd} {ts vs : List Nat} {tn : Tn} {de : Dn} {elt : Expr} (own : List (Str × Nat)) (hv : vs = own.map (·.2)) (hiv : i ∉ vs) (hc : X.calm = true) (hN : X.N.Nodup) (ok : BlkOk X.N X.env.scope scope own)
    (hg : ∃ g, (∀ (s : Shared) (H : Hp) (C : Addr) (cl : List (Str × Addr)) (fp : List Addr), PG (X.blk s H scope (compEnvC scope cl C X.env) fp) tg g) ∧ TgR X.K g bd ts) (sub : ∀ i ∈ ts, i ∈ vs)
    (ht : ∀ (s : Shared) (H : Hp) (C : Addr) (cl : List (Str × Addr)) (fp : List Addr), PTs (X.blk s H scope (compEnvC scope cl C X.env) fp) ifs (tT X.K ⟨W.xr, E0⟩ tn))
    (he : ∀ (s : Shared) (H : Hp) (C : Addr) (cl : List (Str × Addr)) (fp : List Addr), PE (X.blk s H scope (compEnvC scope cl C X.env) fp) elt (tE X.K ⟨W.xr, E0⟩ de))
    (hs : ∀ y, foldedSetIterable (.Name x p) X.env y = pure y := by intro _; rfl)
    (hx : X.N[i]? = some x := by rfl) (hvs : Vis X.env.scope x := by first | exact Or.inl rfl | exact Or.inr (Or.inl rfl) | exact Or.inr (Or.inr rfl)) (hd : (x == ("__debug__" : Str)) = false := by decide) (hcd : (x == ("__classdict__" : Str)) = false := by decide) :
    PE X (.ListComp elt [⟨tg, .Name x p, ifs, 0⟩] scope pos) (tF X.K W (fCompO i bd tn de vs)) := by
  obtain ⟨g, hg, hr⟩ := hg
  subst hv
  exact PE.imp (pe_lc hc hN (pi_list (pe_var hx hvs hd hcd)) ok hg ht he hs) fun _ _ _ q => compO_imp i hr sub hiv q
end
section
variable {ρ : Rho} {bd : Bd} {ifs t : Tn} {elt d : Dn} {vs : List Nat} {i : Nat} {l : List D} {b : Bool}
theorem ev_fCompO : fCompO i bd t d vs ρ = compKO i bd t d vs ρ (ρ[i]?) := rfl
theorem ev_compKO : compKO i bd t d vs ρ (some (.own (.lst l) b)) = compR ρ vs (compLO i l bd t d vs l [] (wipeR ρ vs)) := rfl
/-- one that leaves the state as it was -/
theorem compO_pure {l0 : List D} {p : D → Bool} {f : D → D} : ∀ (l acc : List D) (ρ : Rho), HasO i l0 ρ → acc.length + l.length ≤ 16777216 →
    (∀ d ∈ l, ∃ ρ1 ρ2, bd d ρ = some ρ1 ∧ ifs ρ1 = .ok (p d) ρ2 ∧ (p d = false → wipeR ρ2 vs = ρ) ∧ (p d = true → ∃ ρ3, elt ρ2 = .ok (f d) ρ3 ∧ wipeR ρ3 vs = ρ)) → compLO i l0 bd ifs elt vs l acc ρ = .ok (acc ++ (l.filter p).map f) ρ
  | [], acc, ρ, ho, _, _ => by simp [compLO, ho]
  | d :: l, acc, ρ, ho, hz, h => by
    obtain ⟨ρ1, ρ2, e1, e2, h1, h2⟩ := h d (List.mem_cons_self ..)
    rw [List.length_cons] at hz
    unfold compLO
    rw [if_pos ho]
    simp only [e1, e2]
    cases hp : p d with
    | false =>
      simp only
      rw [h1 hp, compO_pure l acc ρ ho (by omega) fun d hd => h d (List.mem_cons_of_mem _ hd)]
      simp [hp]
    | true =>
      obtain ⟨ρ3, e3, e4⟩ := h2 hp
      simp only [e3]
      rw [if_pos (show acc.length < PySem.sizeLine by unfold PySem.sizeLine; omega), e4, compO_pure l (acc ++ [f d]) ρ ho (by rw [List.length_append]; simp; omega) fun d hd => h d (List.mem_cons_of_mem _ hd)]
      simp [hp]
end
end Ft
/-! Ft25: tuple(reversed(a tuple)). -/
namespace Ft
open PySem L2 RT PySem.Spec PyProof.Rows
theorem noLen_rt : typeLookup (.type "reversed") "__len__" = pure none := by rw [typeLookup_type, builtinLookup_eq_fast]; kernel_rfl
theorem slot_rt_hint : Slot "reversed" "__length_hint__" "reversed.__length_hint__" :=
  .of (owner := "reversed") (n := "__length_hint__") (by rw [typeLookup_type, builtinLookup_eq_fast]; kernel_rfl) (by decide +kernel) (by decide +kernel) (by decide +kernel)
    (by first | exact .inl (by decide +kernel) | exact .inr (by decide +kernel)) (by rw [isSubtype_type]; kernel_rfl)
theorem entry_rt_hint : entryFor table "reversed.__length_hint__" = some Builtin.«reversed.__length_hint__» := entryFor_of_tree (by kernel_rfl)
theorem args_rt_hint (a : Value) : argsOk "reversed.__length_hint__" ⟨[a], []⟩ := by
  unfold argsOk
  rw [signature?_of (id := "reversed.__length_hint__") (n := ['_', '_', 't', 'n', 'i', 'h', '_', 'h', 't', 'g', 'n', 'e', 'l', '_', '_']) (o := ['d', 'e', 's', 'r', 'e', 'v', 'e', 'r']) (by kernel_rfl) owner_rt]
  kernel_rfl
section
variable {prog : Program} {w : World} {A : Around} {E : Value → Shared → Prop} {s : Shared}
/-- what is left of reversed(t), at its start -/
theorem call_hint {it t : Addr} {items : Array Value} {Q : Value → Shared → Prop} (hit : IsRt s.heap it t ((items.size : Int) - 1)) (ht : IsTup s.heap t items) (hsz : items.size ≤ sizeLine)
    (hQ : ∀ tk u, Q (.int (items.size : Int) u) { s with toks := tk }) : wpAny (model prog w) A (call (.builtin "reversed.__length_hint__") [.ref it]) Q E s := by
  obtain ⟨o, ho, hc, hd⟩ := id hit
  refine wpAny_call_entry slot_rt_hint hit.typeIs entry_rt_hint ?_ (args_rt_hint _)
  unfold Builtin.«reversed.__length_hint__»
  refine wpAny_bind (wpAny_of_eq (a := Value.ref it) rfl ?_)
  try dsimp only
  refine wpAny_bind (wpAny_field ho hd (x := .ref t) rfl ?_)
  try dsimp only
  rw [if_neg (by simp)]
  refine wpAny_bind (len_tuple ht (by rw [sizeLine_eq] at hsz; omega) ?_)
  refine wpAny_bind (wpAny_of_eq (a := some ((items.size : Nat) : Int)) rfl ?_)
  try dsimp only
  refine wpAny_bind (wpAny_field (s := { s with toks := s.toks + 1 + 1 }) ho hd (x := rawInt ((items.size : Int) - 1)) rfl ?_)
  show wpAny _ _ (if ((items.size : Nat) : Int) < (items.size : Int) - 1 + 1 then _ else _) _ _ _
  rw [if_neg (by omega), show (items.size : Int) - 1 + 1 = (items.size : Int) by omega]
  show wpAny _ _ (mkInt (items.size : Int) >>= fun v => ret v) _ _ _
  refine wpAny_bind (wpAny_mkInt ?_)
  exact wpAny_pure ⟨_, rfl, hQ _ _⟩
theorem hint_at {it t : Addr} {items : Array Value} {Q : Bool → Shared → Prop} (hit : IsRt s.heap it t ((items.size : Int) - 1)) (ht : IsTup s.heap t items) (hsz : items.size ≤ sizeLine)
    (hQ : ∀ tk, Q ((items.size : Int) != 0) { s with toks := tk }) : wpAny (model prog w) A (Builtin.List.listLengthHint (.ref it)) Q E s := by
  unfold Builtin.List.listLengthHint
  refine wpAny_bind (wpAny_specialOf hit.typeIs noLen_rt ?_)
  show wpAny _ _ (specialOf (Value.ref it) (Str.ofString "__length_hint__") >>= _) _ _ _
  refine wpAny_bind (wpAny_specialOf hit.typeIs slot_rt_hint.lookup ?_)
  generalize hid : ("reversed.__length_hint__" : String) = id0
  wp_delta
  rw [show splitId id0 = some ("reversed", "__length_hint__") from by subst hid; decide +kernel]
  subst hid
  refine wpAny_bind (wpAny_isInstance (b := true) hit.typeIs (by rw [isSubtype_type]; kernel_rfl) ?_)
  try dsimp only
  rw [sizeLine_eq] at hsz
  rw [if_neg (by decide)]
  rw [if_neg (by decide +kernel)]
  refine wpAny_bind (wpAny_rule ?_)
  refine wpAny_bind (wpAny_of_eq (slot_rt_hint.bind (.ref it)) ?_)
  try dsimp only
  refine wpAny_bind (wpAny_attempt (call_hint hit ht (by rw [sizeLine_eq]; exact hsz) fun tk u => ?_))
  have ai : asInt? (Value.int (items.size : Int) u) = pure (some (items.size : Int)) := rfl
  show wpAny _ _ (asInt? (Value.int (items.size : Int) u) >>= _) _ _ _
  rw [ai, pure_bind]
  try dsimp only
  have h1 : Builtin.List.listFitsIndex (items.size : Int) = true := by
    have a1 : decide (-(2 ^ 63 : Int) ≤ (items.size : Int)) = true := decide_eq_true (by omega)
    have a2 : decide ((items.size : Int) < 2 ^ 63) = true := decide_eq_true (by omega)
    unfold Builtin.List.listFitsIndex
    rw [a1, a2]
    rfl
  have h2 : Builtin.List.listTooLong ((items.size : Int)).toNat = false := by
    unfold Builtin.List.listTooLong
    rw [sizeLine_eq]
    exact decide_eq_false (by omega)
  rw [h1, if_neg (by decide), if_neg (by omega), h2, if_neg (by decide)]
  exact wpAny_pure (hQ tk)
/-- the walk over reversed(t) -/
theorem walks_rt (hh : A.handled = none) (it t : Addr) (items : Array Value) (hne : t ≠ it) (hz : items.size ≤ sizeLine) :
    Walks prog w A it [it, t] [it] items.size (fun i v => items[items.size - 1 - i]? = some v) (fun i h => i ≤ items.size ∧ IsRt h it t ((items.size : Int) - 1 - (i : Nat)) ∧ IsTup h t items) where
  sub := fun b hb => by simp at hb; simp [hb]
  frame := fun i h h' st k => ⟨st.1, st.2.1.at fun o e => k it (by simp) o e, by
    obtain ⟨o, ho, r⟩ := st.2.2
    exact ⟨o, k t (by simp) o ho, r⟩⟩
  item := fun i s Q E hi st hQ => by
    obtain ⟨_, st, ht⟩ := st
    have e1 : (items.size : Int) - 1 - (i : Nat) = ((items.size - 1 - i : Nat) : Int) := by omega
    rw [e1] at st
    have hlt : items.size - 1 - i < items.size := by omega
    refine next_rt_item st ht (x := items[items.size - 1 - i]) (Array.getElem?_eq_getElem hlt) hz fun h' st' sb => ?_
    have e2 : ((items.size - 1 - i : Nat) : Int) - 1 = (items.size : Int) - 1 - ((i + 1 : Nat) : Int) := by omega
    rw [e2] at st'
    obtain ⟨o, ho, r⟩ := ht
    exact hQ _ h' (s.toks + 1) (Array.getElem?_eq_getElem hlt) ⟨hi, st', o, (sb.2 t hne).trans ho, r⟩ fun b o hb e => (sb.2 b (fun z => hb (by simp [z]))).trans e
  done := fun s Q E st hQ => by
    obtain ⟨_, st, _⟩ := st
    have e1 : (items.size : Int) - 1 - (items.size : Nat) = -1 := by omega
    rw [e1] at st
    exact next_rt_end hh st fun h' eb => hQ h' s.toks fun b o hb e => eb b o (fun z => hb (by simp [z])) e
  self := fun i s Q E st h => iter_rt st.2.1 h
/-- what is gathered from reversed(t) -/
theorem gather_rt {it t : Addr} {items : Array Value} {Q : List Value → Shared → Prop} (hh : A.handled = none) (hit : IsRt s.heap it t ((items.size : Int) - 1)) (ht : IsTup s.heap t items) (hne : t ≠ it) (hz : items.size ≤ sizeLine)
    (hQ : ∀ (h' : Heap) (tk : Nat) (acc : Array Value), (∀ b o, b ≠ it → s.heap.get? b = some o → h'.get? b = some o) → ItemsOf (fun i v => items[items.size - 1 - i]? = some v) acc items.size → Q acc.toList { s with heap := h', toks := tk }) :
    wpAny (model prog w) A (collect (.ref it)) Q E s := by
  have W := (walks_rt (prog := prog) (w := w) (A := A.in1) hh it t items hne hz).toS
  obtain ⟨oi, hoi, _⟩ := id hit
  obtain ⟨ol, hol, hlc⟩ := id ht
  have hSi : s.heap.objs.size ≠ it := Nat.ne_of_gt (Heap.lt_size hoi)
  have hSl : s.heap.objs.size ≠ t := Nat.ne_of_gt (Heap.lt_size hol)
  have hSf : s.heap.objs.size ∉ [it, t] := by simp [hSi, hSl]
  have new : (s.heap.push { cls := .type "list", data := .seq ([] : List Value).toArray }).get? s.heap.objs.size = some { cls := .type "list", data := .seq ([] : List Value).toArray } := Heap.get?_push_size _ rfl
  -- from a heap that holds the new list, still empty
  have fin : ∀ (h1 : Heap) (tk c : Nat), (∀ b o, b ≠ s.heap.objs.size → (s.heap.push { cls := .type "list", data := .seq ([] : List Value).toArray }).get? b = some o → h1.get? b = some o) → h1.get? s.heap.objs.size = some { cls := .type "list", dict := none, data := .seq #[] c, slots := #[] } →
      codeAny (model prog w) A (.builtin "list.extend.loop" ⟨[.ref s.heap.objs.size, .ref it, .ref s.heap.objs.size], []⟩) (fun r s' => ∃ a, r = .ok (.ret (.ref s.heap.objs.size)) ∧ s'.heap.get? s.heap.objs.size = some a ∧ ∃ (h' : Heap) (tk : Nat) (acc : Array Value) (c : Nat), s' = { s with heap := h', toks := tk } ∧ a.data = .seq acc c ∧
        (∀ b o, b ≠ it → s.heap.get? b = some o → h'.get? b = some o) ∧ ItemsOf (fun i v => items[items.size - 1 - i]? = some v) acc items.size) { s with heap := h1, toks := tk } := fun h1 tk c k1 hl => by
    have old : ∀ b o, b ≠ s.heap.objs.size → s.heap.get? b = some o → h1.get? b = some o := fun b o hb q => k1 b o hb (Heap.get?_push_of_some _ q)
    refine codeAny_extend_loopS W hz _ hSf _ items.size 0 _ #[] c rfl (Nat.zero_le _) ⟨Nat.zero_le _, ?_, ?_⟩ hl (ItemsOf.nil _) fun s' acc' c' hm hS' hacc => ?_
    · have e0 : ((items.size : Nat) : Int) - 1 - ((0 : Nat) : Int) = (items.size : Int) - 1 := by omega
      rw [e0]
      exact hit.at fun o q => old it o (Ne.symm hSi) q
    · exact ⟨ol, old t ol (Ne.symm hSl) hol, hlc⟩
    · have em := Moved.eq_with hm
      refine ⟨_, rfl, hS', s'.heap, s'.toks, acc', c', em, rfl, fun b o hb q => hm.heap b o (fun z => ?_) (old b o (Nat.ne_of_lt (Heap.lt_size q)) q), hacc⟩
      rcases List.mem_cons.mp z with z | z
      · exact absurd (Heap.lt_size q) (by rw [z]; exact Nat.lt_irrefl _)
      · exact hb (List.mem_singleton.mp z)
  unfold collect
  refine wpAny_bind (wpAny_runValue (codeAny_builtin F.entry_proto_collect ?_))
  rw [Around.under_plainId F.plain_proto_collect _]
  refine wpAny_bind (wpAny_newObj_type ?_)
  refine wpAny_pure ⟨plainId_quiet F.plain_list_iadd _, codeAny_builtin F.entry_list_iadd ?_⟩
  rw [Around.under_plainId F.plain_list_iadd _]
  show wpAny _ A.in1 (Builtin.List.listExtendWith (.ref s.heap.objs.size) (.ref it) (.ref s.heap.objs.size)) _ _ _
  unfold Builtin.List.listExtendWith
  have hit1 : IsRt (s.heap.push { cls := .type "list", data := .seq ([] : List Value).toArray }) it t ((items.size : Int) - 1) := hit.at fun o q => Heap.get?_push_of_some _ q
  have ht1 : IsTup (s.heap.push { cls := .type "list", data := .seq ([] : List Value).toArray }) t items := ⟨ol, Heap.get?_push_of_some _ hol, hlc⟩
  have hT : ({ s with heap := s.heap.push { cls := .type "list", data := .seq ([] : List Value).toArray } } : Shared).TypeIs (.ref it) "reversed" := IsRt.typeIs (s := { s with heap := s.heap.push { cls := .type "list", data := .seq ([] : List Value).toArray } }) hit1
  have h1 : Builtin.List.listSameRef (.ref s.heap.objs.size) (.ref it) = false := by simp [Builtin.List.listSameRef, hSi]
  refine wpAny_bind (wpAny_typeOf hT ?_)
  rw [if_neg (by rw [h1]; decide)]
  refine wpAny_bind (iter_rt (s := { s with heap := s.heap.push { cls := .type "list", data := .seq ([] : List Value).toArray } }) hit1 ?_)
  refine wpAny_bind (wpAny_holding (hint_at (s := { s with heap := s.heap.push { cls := .type "list", data := .seq ([] : List Value).toArray } }) hit1 ht1 hz fun tk => ?_))
  have last : ∀ (r : Result) (s' : Shared), (∃ a, r = .ok (.ret (.ref s.heap.objs.size)) ∧ s'.heap.get? s.heap.objs.size = some a ∧ ∃ (h' : Heap) (tk : Nat) (acc : Array Value) (c : Nat), s' = { s with heap := h', toks := tk } ∧ a.data = .seq acc c ∧
        (∀ b o, b ≠ it → s.heap.get? b = some o → h'.get? b = some o) ∧ ItemsOf (fun i v => items[items.size - 1 - i]? = some v) acc items.size) → ∃ v, r = .ok (.ret v) ∧ v = .ref s.heap.objs.size ∧ wpAny (model prog w) A (load s.heap.objs.size >>= fun o => match o.data with
      | .seq xs _ => pure xs.toList
      | _ => unsupported "internal:collect") Q E s' := by
    rintro r s' ⟨a, hr, ha, h', tk', acc, c', es, hd, kk, hacc⟩
    refine ⟨_, hr, rfl, wpAny_bind (wpAny_load ha ?_)⟩
    rw [hd, es]
    exact wpAny_pure (hQ h' tk' acc kk hacc)
  by_cases hn : items.size = 0
  · have e0 : ((items.size : Int) != 0) = false := by simp [hn]
    rw [e0, Bool.false_or, if_neg (by decide +kernel)]
    refine wpAny_pure ⟨plainId_quiet F.plain_extend_loop _, codeAny_mono (fin _ tk 0 (fun b o _ q => q) new) fun r s' h => ?_⟩
    obtain ⟨v, rfl, rfl, q⟩ := last r s' h
    exact q
  · have e0 : ((items.size : Int) != 0) = true := by simp [hn]
    rw [e0, Bool.true_or, if_pos rfl]
    refine wpAny_bind (wpAny_rule ?_)
    refine wpAny_bind ?_
    show wpAny _ A.in1 (updateSeq s.heap.objs.size (·.push .none) >>= fun _ => updateSeq s.heap.objs.size (·.pop)) _ _ _
    refine wpAny_bind (wpAny_updateSeq (s := { s with heap := s.heap.push { cls := .type "list", data := .seq ([] : List Value).toArray }, toks := tk }) new rfl ?_)
    have hS₂ := Heap.get?_update_self (Obj.mapSeq (·.push Value.none)) new rfl
    refine wpAny_updateSeq (s := { s with heap := (s.heap.push { cls := .type "list", data := .seq ([] : List Value).toArray }).update s.heap.objs.size (Obj.mapSeq (·.push Value.none)), toks := tk }) hS₂ rfl ?_
    have hS₃ := Heap.get?_update_self (Obj.mapSeq (·.pop)) hS₂ rfl
    refine wpAny_pure ⟨plainId_quiet F.plain_extend_loop _, codeAny_mono (fin _ tk _ (fun b o hb q => ?_) hS₃) fun r s' h => ?_⟩
    · exact (Heap.get?_update_other _ _ (Ne.symm hb)).trans ((Heap.get?_update_other _ _ (Ne.symm hb)).trans q)
    · obtain ⟨v, rfl, rfl, q⟩ := last r s' h
      exact q
theorem new_tuple_rt {it t : Addr} {items : Array Value} {Q₁ : Value → Shared → Prop} (hh : A.handled = none) (hit : IsRt s.heap it t ((items.size : Int) - 1)) (ht : IsTup s.heap t items) (hne : t ≠ it) (hz : items.size ≤ sizeLine)
    (h : ∀ (h' : Heap) (tk : Nat) (acc : Array Value), (∀ b o, b ≠ it → s.heap.get? b = some o → h'.get? b = some o) → ItemsOf (fun i v => items[items.size - 1 - i]? = some v) acc items.size →
      Q₁ (.ref h'.objs.size) { s with heap := h'.push { cls := .type "tuple", data := .seq acc }, toks := tk }) :
    codeAny (model prog w) A (.call (.builtin "tuple.__new__") ⟨[.type "tuple", .ref it], []⟩) (wants Q₁ E) s := by
  refine codeAny_of_tree ?_
  show wpAny _ A.in1 (do checkBuiltinCall "tuple.__new__" ⟨[.type "tuple", .ref it], []⟩; again (.builtin "tuple.__new__" ⟨[.type "tuple", .ref it], []⟩)) _ _ s
  refine wpAny_bind (wpAny_of_eq (F.newCall_tuple_1 _) (wpAny_pure ⟨plainId_quiet F.plain_tuple_new _, codeAny_builtin F.entry_tuple_new ?_⟩))
  rw [Around.under_plainId F.plain_tuple_new _]
  have hsub := sub_tuple_self
  have hinit := init_tuple_lookup
  have hmh := madeHere_tuple
  have hTI : s.TypeIs (.ref it) "reversed" := hit.typeIs
  have hh1 : A.in1.handled = none := hh
  wp_walk using wpAny_typeOf hTI, gather_rt (A := A.in1) hh1 hit ht hne hz
  intro h' tk acc hk hacc
  show wpAny _ _ (Builtin.Tuple.tupleExact acc.toList.toArray >>= fun v => ret v) _ _ _
  unfold Builtin.Tuple.tupleExact
  rw [Array.toArray_toList]
  exact wpAny_bind (wpAny_newObj_type (wpAny_pure (h h' tk acc hk hacc)) (by show acc.size ≤ sizeLine; rw [hacc.1]; exact hz))
theorem tuple_rt {it t : Addr} {items : Array Value} {Q : Value → Shared → Prop} (hh : A.handled = none) (hit : IsRt s.heap it t ((items.size : Int) - 1)) (ht : IsTup s.heap t items) (hne : t ≠ it) (hz : items.size ≤ sizeLine)
    (hQ : ∀ (h' : Heap) (tk : Nat) (acc : Array Value), (∀ b o, b ≠ it → s.heap.get? b = some o → h'.get? b = some o) → ItemsOf (fun i v => items[items.size - 1 - i]? = some v) acc items.size →
      Q (.ref h'.objs.size) { s with heap := h'.push { cls := .type "tuple", data := .seq acc }, toks := tk }) : wpAny (model prog w) A (call (.type "tuple") [.ref it]) Q E s := by
  refine callType_codes (Q₁ := fun obj s₁ => s₁.TypeIs obj "tuple" ∧ Q obj s₁) F.called_tuple (F.typeCall_tuple_1 _) F.entry_object_init
    (new_tuple_rt (A := A.in1) hh hit ht hne hz fun h' tk acc hk hacc => ⟨⟨_, Heap.get?_push_size _ rfl, rfl⟩, hQ h' tk acc hk hacc⟩) fun obj s₁ h₁ => ?_
  exact ⟨h₁.1, F.args_object_init_2 obj _, object_init_meets F.called_tuple.init.lookup F.called_tuple.made (by decide) prog w A.in1 _ s₁ ⟨h₁.1, rfl, h₁.2⟩⟩
end
section
variable {X : Cx} {W : Wt} {e : Expr} {a : An} {p p2 pos pos2 : Pos}
def tTupRevT (K : PySem.W.Frag) (te : TE) : TE := fun σ H Q => te σ H fun v H1 => ∃ (a : Addr) (xs : List V), v = .ref a ∧ SqT K H1 a xs ∧ ∀ q, H1 q = none → Q (.ref q) (upd H1 q (.tup xs.reverse))
theorem pe_tupRevT {te : TE} (hc : X.calm = true) (hg : Gl X "tuple") (hm : X.mg "tuple" = none) (hg2 : Gl X "reversed") (hm2 : X.mg "reversed" = none) (he : PE X e te)
    (hs : starEach [e] X.env = (false, eval e X.env) :: starEach [] X.env := by rfl)
    (hs2 : starEach [.Call (.Name "reversed" p2) [e] [] pos2] X.env = (false, eval (.Call (.Name "reversed" p2) [e] [] pos2) X.env) :: starEach [] X.env := by rfl) :
    PE X (.Call (.Name "tuple" p) [.Call (.Name "reversed" p2) [e] [] pos2] [] pos) (tTupRevT X.K te) := by
  refine ⟨fun pins s σ H Q I h => ?_⟩
  refine Call_ (ld_blt I hg hm boot_tuple (PyProof.Rows.callWith_type1 (args_cons (Call_ (ld_blt I hg2 hm2 PyProof.Rows.boot_reversed (PyProof.Rows.callWith_type1 (args_cons (thn (he.run pins s σ H _ I h) fun u s1 ⟨v, H1, I1, r1, q1⟩ => args_nil ?_) hs) hs rfl))) hs2) hs2 rfl))
  obtain ⟨t, xs, ev, hq, q⟩ := q1
  subst ev
  obtain rfl : u = Value.ref t := r1
  obtain ⟨its, rv, pt, hz⟩ := I1.tuple hq
  have hn : its.toArray.size ≤ sizeLine := by rw [List.size_toArray, ← rv.length]; exact hz
  have hn2 := hn
  rw [sizeLine_eq] at hn2
  refine call_reversed_tup pt (fun A E Q k => len_tuple pt (by omega) k) (args_nil ?_)
  have I2 : Inv X pins σ H1 { s1 with heap := s1.heap.push (rtObj t ((its.toArray.size : Int) - 1)), toks := s1.toks + 1 + 1 } := I1.kept (t' := s1.toks + 1 + 1) fun b o e => Heap.get?_push_of_some _ e
  obtain ⟨f0, f1, f2, f3, f4, f5⟩ := I1.fpOk (H' := H1) (b := s1.heap.objs.size) (Nat.le_refl _) (I1.hok.fresh (Nat.le_refl _))
  obtain ⟨ot, hot, htc⟩ := id pt
  refine tuple_rt (s := { s1 with heap := s1.heap.push (rtObj t ((its.toArray.size : Int) - 1)), toks := s1.toks + 1 + 1 }) (I1.ok.hd hc) ⟨_, Heap.get?_push_size _ rfl, rfl, rfl⟩ ⟨ot, Heap.get?_push_of_some _ hot, htc⟩ (Nat.ne_of_lt (Heap.lt_size hot)) hn fun h' tk acc hk hi => ?_
  have I3 : Inv X pins σ H1 { s1 with heap := h', toks := tk } := I2.turned (t' := tk) (fun b o hb e => hk b o hb e) f0 f1 f3 f4 f5
  refine ⟨.ref h'.objs.size, upd H1 h'.objs.size (.tup xs.reverse), I3.laid (t' := tk) (fun c o e => Heap.get?_push_of_some _ e) (Nat.le_refl _) (show ObjOk X.prog X.w _ _ _ (.tup xs.reverse) from ⟨by rw [List.length_reverse]; exact hz, acc.toList, vals_rev rv hi, ?_⟩), rfl, q _ (I3.hok.fresh (Nat.le_refl _))⟩
  rw [Array.toArray_toList]
  exact IsTup.new _ _
def revTB : List D → Option D
  | [.tuple l] => some (.tuple l.reverse)
  | _ => none
theorem reps_rev {K : PySem.W.Frag} {F : Hp} : ∀ {l : List D} {vs : List V}, Reps K F l vs → Reps K F l.reverse vs.reverse
  | [], _, h => by rw [reps_nil] at h; subst h; exact .nil
  | d :: l, _, h => by
    obtain ⟨v, vs, rfl, h1, h2⟩ := reps_cons.mp h
    rw [List.reverse_cons, List.reverse_cons]
    exact (reps_rev h2).append (.cons h1 .nil)
theorem de_tupRev (hc : X.calm = true) (hm : X.mg "tuple" = none) (hm2 : X.mg "reversed" = none) (ha : PE X e (tA X.K W a)) (hg : Gl X "tuple" := by rfl) (hg2 : Gl X "reversed" := by rfl) (na : starEach [e] X.env = (false, eval e X.env) :: starEach [] X.env := by rfl)
    (nb : starEach [.Call (.Name "reversed" p2) [e] [] pos2] X.env = (false, eval (.Call (.Name "reversed" p2) [e] [] pos2) X.env) :: starEach [] X.env := by rfl) :
    PE X (.Call (.Name "tuple" p) [.Call (.Name "reversed" p2) [e] [] pos2] [] pos) (tE X.K W (dOpN revTB (aCons a aNil))) :=
  PE.imp (pe_tupRevT hc hg hm hg2 hm2 ha na nb) fun σ H Q ⟨ρ, F, s, q⟩ => by
    have e1 : dOpN revTB (aCons a aNil) ρ = (a ρ).bind fun h ρ1 => ans ((looks ρ1 [h]).bind revTB) ρ1 := by
      unfold dOpN aCons aNil
      cases a ρ <;> rfl
    rw [e1] at q
    refine Af.bind s q fun h v ρ1 F1 H1 g r q1 => ?_
    obtain ⟨z, e, q⟩ := ans_some q1
    obtain ⟨ds, hd, e2⟩ := Option.bind_eq_some_iff.mp e
    have rb := looks_rep g.sr (.cons r .nil) hd
    unfold revTB at e2
    split at e2
    · rename_i l
      cases e2
      obtain ⟨w, ew, rw_⟩ := rb.one
      cases ew
      obtain ⟨t, vs, ew, q1, r1⟩ := rw_.tuple g.sr.sub
      refine ⟨t, vs, ew, q1, fun p hp => ?_⟩
      obtain ⟨f, ru⟩ := new_tuple (K := X.K) g.sr.sub hp (reps_rev r1)
      exact q.okf g.sr f ru
    · cases e2
end
theorem ev_revTB {l : List D} : revTB [.tuple l] = some (.tuple l.reverse) := rfl
end Ft
/-! Ft26: two clauses, dict comprehensions, zip. -/
namespace Ft
open PySem L2 PySem.Spec PyProof.Rows

section
variable {K : PySem.W.Frag} {W : Wt} {ρ ρ' : Rho} {σ σ' : Sg} {F H F' H' : Hp} {vs ts : List Nat} {a : Addr}
theorem Go.wipeAny {ρ0 : Rho} {σ0 : Sg} {F0 H0 : Hp} (g : Go K ρ0 σ0 F0 H0 ρ' σ' F' H') (h0 : ∀ j ∈ vs, ∀ m, ρ0[j]? ≠ some (.own m false)) : Go K ρ0 σ0 F0 H0 (wipeR ρ' vs) (L2.wipe σ' vs) F' H' where
  sub := g.sub
  keep := fun b o eb n => by
    obtain ⟨h1, h2, h3⟩ := g.keep b o eb n
    exact ⟨h1, h2, fun z => h3 (own_wipe z)⟩
  sr := g.sr.wipe
  there := g.there
  io := fun j m em => by
    have hj : j ∉ vs := fun z => h0 j z m em
    obtain ⟨m', h1, h2⟩ := g.io j m em
    exact ⟨m', by rw [wipeR_out hj]; exact h1, by rw [wipe_get hj]; exact h2⟩
theorem wipe_wipe {vs1 : List Nat} (hv : ∀ i ∈ vs1, i ∈ vs) : wipe (wipe σ vs1) vs = wipe σ vs := by
  apply List.ext_getElem?
  intro j
  by_cases h : j < σ.length
  · by_cases hj : j ∈ vs
    · rw [wipe_in (by rw [wipe_length]; exact h) hj, wipe_in h hj]
    · rw [wipe_get hj, wipe_get hj, wipe_get fun z => hj (hv j z)]
  · rw [List.getElem?_eq_none (by rw [wipe_length, wipe_length]; omega), List.getElem?_eq_none (by rw [wipe_length]; omega)]
end
/-! ### two clauses -/
def compL2 (bd : Bd) (ifs : Tn) (src1 : In) (bd1 : Bd) (ifs1 : Tn) (elt : Dn) (vs vs1 : List Nat) : List D → List D → Rho → RE (List D)
  | [], acc, ρ => .ok acc ρ
  | d :: l, acc, ρ => match bd d ρ with
    | none => .no
    | some ρ1 => match ifs ρ1 with
      | .ok false ρ2 => compL2 bd ifs src1 bd1 ifs1 elt vs vs1 l acc (wipeR ρ2 vs)
      | .ok true ρ2 => match src1 ρ2 with
        | .ok l1 ρ3 => match compL bd1 ifs1 elt vs1 l1 acc (wipeR ρ3 vs1) with
          | .ok acc' ρ4 => compL2 bd ifs src1 bd1 ifs1 elt vs vs1 l acc' (wipeR ρ4 vs)
          | _ => .no
        | _ => .no
      | _ => .no
def fComp2 (src : In) (bd : Bd) (ifs : Tn) (src1 : In) (bd1 : Bd) (ifs1 : Tn) (elt : Dn) (vs vs1 : List Nat) : Fn := fun ρ => (src ρ).bind fun l ρ1 => match compL2 bd ifs src1 bd1 ifs1 elt vs vs1 l [] (wipeR ρ1 vs) with
  | .ok r ρ2 => .ok (.lst r) (restore ρ1 ρ2 vs)
  | _ => .no
section
variable {X : Cx} {W : Wt} {tg e e2 e3 : Expr} {d d2 : Dn} {pos p : Pos} {v : Vn} {es : List Expr} {t : Tn}
theorem comp_in {bd : Bd} {ts vs1 : List Nat} {ifs : Tn} {elt : Dn} {g : TG} {σ0 σ2 : Sg} {ρ0 ρ3 ρE : Rho} {F0 H0 F3 H3 : Hp} {D : Addr} {J : It} {l acc accE : List PyData} {Nx : Hp → Prop} (hr : TgR X.K g bd ts) (sub : ∀ i ∈ ts, i ∈ vs1)
    (h0 : ∀ j ∈ vs1, ∀ m, ρ0[j]? ≠ some (.own m false)) (hD : H0 D = none) (g3 : Go X.K ρ0 σ0 F0 H0 ρ3 σ2 F3 H3) (o3 : OwnAt X.K F3 H3 D (.lst acc)) (n3 : ¬ Own ρ3 σ2 D) (wk : Walk X.K J l F3)
    (q : compL bd ifs elt vs1 l acc (wipeR ρ3 vs1) = .ok accE ρE)
    (k : ∀ F H, Go X.K ρ0 σ0 F0 H0 ρE (wipe σ2 vs1) F H → OwnAt X.K F H D (.lst accE) → ¬ Own ρE (wipe σ2 vs1) D → Nx H) :
    ∃ W1 : Nat → Nat → Hp → Prop, (∃ m, W1 0 m H3) ∧ ∀ j k H, W1 j k H → (J.stop j H ∧ Nx H) ∨ (J.go j H ∧ ∃ Nx1 : Hp → Prop, (∀ H', Nx1 H' → ∃ k', k' < k ∧ W1 (j + 1) k' H') ∧ ∀ x H', J.yld j H x H' → g x (wipe σ2 vs1) H' fun σ3 H5 => wipe σ3 vs1 = wipe σ2 vs1 ∧ tT X.K ⟨W.xr, E0⟩ ifs σ3 H5 fun b H6 =>
        if b = true then tE X.K ⟨W.xr, E0⟩ elt σ3 H6 fun y H7 => ∃ acc, H7 D = some (.lst acc) ∧ acc.length < sizeLine ∧ Nx1 (upd H7 D (.lst (acc ++ [y]))) else Nx1 H6) := by
  refine ⟨fun i m H' => ∃ ρb Fb acc, Go X.K ρ0 σ0 F0 H0 ρb (wipe σ2 vs1) Fb H' ∧ Same F3 Fb ∧ OwnAt X.K Fb H' D (.lst acc) ∧ ¬ Own ρb (wipe σ2 vs1) D ∧ i ≤ l.length ∧ m = l.length - i ∧ compL bd ifs elt vs1 (l.drop i) acc ρb = .ok accE ρE,
    ⟨l.length, wipeR ρ3 vs1, F3, acc, g3.wipeAny h0, Same.refl _, o3, fun z => n3 (own_wipe z), Nat.zero_le _, rfl, q⟩, ?_⟩
  rintro i m H2 ⟨ρb, Fb, acc, gb, sb, ob, nb, hi, rfl, q2⟩
  by_cases hl : i < l.length
  · obtain ⟨go, yd⟩ := wk.go i Fb H2 sb gb.sr.sub hl
    refine .inr ⟨go, fun H' => ∃ ρb Fb acc, Go X.K ρ0 σ0 F0 H0 ρb (wipe σ2 vs1) Fb H' ∧ Same F3 Fb ∧ OwnAt X.K Fb H' D (.lst acc) ∧ ¬ Own ρb (wipe σ2 vs1) D ∧
      compL bd ifs elt vs1 (l.drop (i + 1)) acc ρb = .ok accE ρE, fun H' ⟨a1, a2, a3, a4, a5, a6, a7, a8⟩ => ⟨l.length - (i + 1), by omega, a1, a2, a3, a4, a5, a6, a7, hl, rfl, a8⟩, fun x H3 y => ?_⟩
    obtain ⟨F4, dd, f, hd, r⟩ := yd x H3 y
    have g4 := gb.trans (f.go gb.sr)
    have hd' : l.drop i = dd :: l.drop (i + 1) := by
      obtain ⟨h1, h2⟩ := List.getElem?_eq_some_iff.mp hd
      rw [← h2]; exact List.drop_eq_getElem_cons h1
    rw [hd'] at q2
    unfold compL at q2
    cases hb : bd dd ρb with
    | none => rw [hb] at q2; cases q2
    | some ρ4 =>
      simp only [hb] at q2
      refine hr _ _ _ _ _ _ _ _ g4.sr r hb fun σ4 g5 kp => ?_
      have we := wipe_keep kp sub
      obtain ⟨o5, n5⟩ := OwnAt.go ((f.go gb.sr).trans g5) ob nb
      have g6 := g4.trans g5
      refine ⟨we, ρ4, F4, g5.sr, ?_⟩
      have cl : ∀ {ρ6 : Rho} {F6 H6 : Hp} {A : List PyData}, Go X.K ρ0 σ0 F0 H0 ρ6 σ4 F6 H6 → Same F4 F6 → OwnAt X.K F6 H6 D (.lst A) → ¬ Own ρ6 σ4 D → compL bd ifs elt vs1 (l.drop (i + 1)) A (wipeR ρ6 vs1) = .ok accE ρE →
          ∃ ρb Fb acc, Go X.K ρ0 σ0 F0 H0 ρb (wipe σ2 vs1) Fb H6 ∧ Same F3 Fb ∧ OwnAt X.K Fb H6 D (.lst acc) ∧ ¬ Own ρb (wipe σ2 vs1) D ∧ compL bd ifs elt vs1 (l.drop (i + 1)) acc ρb = .ok accE ρE := fun {ρ6 F6 H6 A} g s o n q => by
        have := g.wipeAny (vs := vs1) h0
        rw [we] at this
        exact ⟨wipeR ρ6 vs1, F6, A, this, (sb.trans f.sub).trans s, o, fun z => n (own_wipe (vs := vs1) (by rw [we]; exact z)), q⟩
      cases hif : ifs ρ4 with
      | no => simp only [hif] at q2; cases q2
      | ex x ρ5 => simp only [hif] at q2; cases q2
      | ok b ρ5 =>
        intro b' F5 H5 g7 eb
        subst eb
        obtain ⟨o7, n7⟩ := OwnAt.go g7 o5 n5
        cases b' with
        | false =>
          simp only [hif] at q2
          rw [if_neg Bool.false_ne_true]
          exact cl (g6.trans g7) g7.sub o7 n7 q2
        | true =>
          simp only [hif] at q2
          rw [if_pos rfl]
          refine ⟨ρ5, F5, g7.sr, ?_⟩
          cases hel : elt ρ5 with
          | no => simp only [hel] at q2; cases q2
          | ex x ρ6 => simp only [hel] at q2; cases q2
          | ok x ρ6 =>
            intro yv F6 H6 g8 ry
            obtain ⟨o8, n8⟩ := OwnAt.go g8 o7 n7
            obtain ⟨fD, ac, eD, rD⟩ := o8
            simp only [hel] at q2
            by_cases hz : acc.length < sizeLine
            · rw [if_pos hz] at q2
              refine ⟨ac, eD, by rw [← rD.length]; exact hz, ?_⟩
              exact cl (((g6.trans g7).trans g8).grow hD fD n8) (g7.sub.trans g8.sub) ⟨fD, _, upd_same, rD.append (.cons ry .nil)⟩ n8 q2
            · rw [if_neg hz] at q2; cases q2
  · refine .inl ⟨wk.stop i Fb H2 sb gb.sr.sub (by omega), ?_⟩
    rw [List.drop_eq_nil_of_le (by omega)] at q2
    cases q2
    exact k Fb H2 gb ob nb
theorem comp2_tail {bd bd1 : Bd} {ts ts1 vs vs1 : List Nat} {ifs ifs1 : Tn} {src1 : In} {elt : Dn} {g g1 : TG} {σ : Sg} {H1 : Hp} {Q : VK} {J : It} {l : List D} {ρ1 : Rho} {F1 : Hp} (hr : TgR X.K g bd ts) (sub : ∀ i ∈ ts, i ∈ vs) (hr1 : TgR X.K g1 bd1 ts1) (sub1 : ∀ i ∈ ts1, i ∈ vs1) (hv : ∀ i ∈ vs1, i ∈ vs)
    (s1 : SR X.K ρ1 σ F1 H1) (wk : Walk X.K J l F1)
    (q1 : AfF X.K W ρ1 σ F1 H1 Q (match compL2 bd ifs src1 bd1 ifs1 elt vs vs1 l [] (wipeR ρ1 vs) with | .ok r ρ2 => .ok (.lst r) (restore ρ1 ρ2 vs) | _ => .no)) :
    tLc2 (fun _ H R => R J H) g (tT X.K ⟨W.xr, E0⟩ ifs) (tI X.K ⟨W.xr, E0⟩ src1) g1 (tT X.K ⟨W.xr, E0⟩ ifs1) (tE X.K ⟨W.xr, E0⟩ elt) vs vs1 σ H1 Q := by
  intro D hD
  have h0 : ∀ j ∈ vs, ∀ m, (wipeR ρ1 vs)[j]? ≠ some (.own m false) := fun j hj m e => by have := wipeR_in hj _ e; cases this
  have noD : ¬ Own ρ1 σ D := fun z => by
    obtain ⟨o, eo⟩ := z.there s1
    rw [hD] at eo; cases eo
  have FD : F1 D = none := sub_none s1.sub hD
  refine ⟨fun i m H' => ∃ ρb Fb acc, Go X.K (wipeR ρ1 vs) (wipe σ vs) F1 H1 ρb (wipe σ vs) Fb H' ∧ OwnAt X.K Fb H' D (.lst acc) ∧ ¬ Own ρb (wipe σ vs) D ∧ i ≤ l.length ∧ m = l.length - i ∧
      AfF X.K W ρ1 σ F1 H1 Q (match compL2 bd ifs src1 bd1 ifs1 elt vs vs1 (l.drop i) acc ρb with | .ok r ρ2 => .ok (.lst r) (restore ρ1 ρ2 vs) | _ => .no),
    ⟨l.length, wipeR ρ1 vs, F1, [], (Go.refl s1.wipe).grow hD FD fun z => noD (own_wipe z), ⟨FD, [], upd_same, .nil⟩, fun z => noD (own_wipe z), Nat.zero_le _, rfl, q1⟩, ?_⟩
  rintro i m H2 ⟨ρb, Fb, acc, gb, ob, nb, hi, rfl, q2⟩
  by_cases hl : i < l.length
  · obtain ⟨go, yd⟩ := wk.go i Fb H2 gb.sub gb.sr.sub hl
    refine .inr ⟨go, fun H' => ∃ ρb Fb acc, Go X.K (wipeR ρ1 vs) (wipe σ vs) F1 H1 ρb (wipe σ vs) Fb H' ∧ OwnAt X.K Fb H' D (.lst acc) ∧ ¬ Own ρb (wipe σ vs) D ∧
      AfF X.K W ρ1 σ F1 H1 Q (match compL2 bd ifs src1 bd1 ifs1 elt vs vs1 (l.drop (i + 1)) acc ρb with | .ok r ρ2 => .ok (.lst r) (restore ρ1 ρ2 vs) | _ => .no), fun H' ⟨a1, a2, a3, a4, a5, a6, a7⟩ => ⟨l.length - (i + 1), by omega, a1, a2, a3, a4, a5, a6, hl, rfl, a7⟩, fun x H3 y => ?_⟩
    obtain ⟨F3, dd, f, hd, r⟩ := yd x H3 y
    have g3 := gb.trans (f.go gb.sr)
    have hd' : l.drop i = dd :: l.drop (i + 1) := by
      obtain ⟨h1, h2⟩ := List.getElem?_eq_some_iff.mp hd
      rw [← h2]; exact List.drop_eq_getElem_cons h1
    rw [hd'] at q2
    unfold compL2 at q2
    cases hb : bd dd ρb with
    | none => rw [hb] at q2; exact q2.elim
    | some ρ4 =>
      simp only [hb] at q2
      refine hr _ _ _ _ _ _ _ _ g3.sr r hb fun σ4 g4 kp => ?_
      have we := wipe_keep kp sub
      obtain ⟨o3, n3⟩ := OwnAt.go ((f.go gb.sr).trans g4) ob nb
      have g5 := g3.trans g4
      refine ⟨we, ρ4, F3, g4.sr, ?_⟩
      cases hif : ifs ρ4 with
      | no => simp only [hif] at q2; exact q2.elim
      | ex x ρ5 => simp only [hif] at q2; exact q2.elim
      | ok b ρ5 =>
        intro b' F5 H5 g6 eb
        subst eb
        obtain ⟨o5, n5⟩ := OwnAt.go g6 o3 n3
        cases b' with
        | false =>
          simp only [hif] at q2
          rw [if_neg Bool.false_ne_true]
          exact ⟨wipeR ρ5 vs, F5, acc, (g5.trans g6).wiped we h0, o5, fun z => n5 (own_wipe (vs := vs) (by rw [we]; exact z)), q2⟩
        | true =>
          simp only [hif] at q2
          rw [if_pos rfl]
          refine ⟨ρ5, F5, g6.sr, ?_⟩
          cases hsr : src1 ρ5 with
          | no => simp only [hsr] at q2; exact q2.elim
          | ex x ρ6 => simp only [hsr] at q2; exact q2.elim
          | ok l1 ρ6 =>
            intro J1 F6 H6 g7 wk1
            obtain ⟨o6, n6⟩ := OwnAt.go g7 o5 n5
            simp only [hsr] at q2
            cases hc : compL bd1 ifs1 elt vs1 l1 acc (wipeR ρ6 vs1) with
            | no => simp only [hc] at q2; exact q2.elim
            | ex x ρ7 => simp only [hc] at q2; exact q2.elim
            | ok acc' ρ7 =>
              simp only [hc] at q2
              refine comp_in hr1 sub1 (fun j hj => h0 j (hv j hj)) hD ((g5.trans g6).trans g7) o6 n6 wk1 hc fun F H g o n => ?_
              have we2 : wipe (wipe σ4 vs1) vs = wipe σ vs := by rw [wipe_wipe hv, we]
              have := g.wipeAny (vs := vs) h0
              rw [we2] at this
              exact ⟨wipeR ρ7 vs, F, acc', this, o, fun z => n (own_wipe (vs := vs) (by rw [we2]; exact z)), q2⟩
  · refine .inl ⟨wk.stop i Fb H2 gb.sub gb.sr.sub (by omega), ?_⟩
    rw [List.drop_eq_nil_of_le (by omega)] at q2
    obtain ⟨g2, o2⟩ := Go.unwipe s1 gb
    exact q2 D Fb H2 g2 ob hD fun z => (o2 D z).elim nb noD
theorem comp2_imp {src src1 : In} {bd bd1 : Bd} {ts ts1 vs vs1 : List Nat} {ifs ifs1 : Tn} {elt : Dn} {g g1 : TG} {σ : Sg} {H : Hp} {Q : VK} (hr : TgR X.K g bd ts) (sub : ∀ i ∈ ts, i ∈ vs) (hr1 : TgR X.K g1 bd1 ts1) (sub1 : ∀ i ∈ ts1, i ∈ vs1) (hv : ∀ i ∈ vs1, i ∈ vs)
    (q : tF X.K W (fComp2 src bd ifs src1 bd1 ifs1 elt vs vs1) σ H Q) :
    tLc2 (tI X.K W src) g (tT X.K ⟨W.xr, E0⟩ ifs) (tI X.K ⟨W.xr, E0⟩ src1) g1 (tT X.K ⟨W.xr, E0⟩ ifs1) (tE X.K ⟨W.xr, E0⟩ elt) vs vs1 σ H Q := by
  obtain ⟨ρ, F, s, q⟩ := q
  exact AfF.bind s q fun l J ρ1 F1 H1 g1 wk q1 => comp2_tail hr sub hr1 sub1 hv g1.sr wk q1
theorem df_comp2 {elt iter iter1 tg1 : Expr} {ifs ifs1 : List Expr} {scope : Scope} {src src1 : In} {bd bd1 : Bd} {ts ts1 vs vs1 : List Nat} {tn tn1 : Tn} {de : Dn} (own : List (Str × Nat)) (hv : vs = own.map (·.2)) (hc : X.calm = true) (hN : X.N.Nodup) (hi : PI X tg iter (tI X.K W src)) (ok : BlkOk X.N X.env.scope scope own)
    (hg : ∃ g, (∀ (s : Shared) (H : Hp) (C : Addr) (cl : List (Str × Addr)) (fp : List Addr), PG (X.blk s H scope (compEnvC scope cl C X.env) fp) tg g) ∧ TgR X.K g bd ts) (sub : ∀ i ∈ ts, i ∈ vs)
    (ht : ∀ (s : Shared) (H : Hp) (C : Addr) (cl : List (Str × Addr)) (fp : List Addr), PTs (X.blk s H scope (compEnvC scope cl C X.env) fp) ifs (tT X.K ⟨W.xr, E0⟩ tn))
    (hi1 : ∀ (s : Shared) (H : Hp) (C : Addr) (cl : List (Str × Addr)) (fp : List Addr), PI (X.blk s H scope (compEnvC scope cl C X.env) fp) tg1 iter1 (tI X.K ⟨W.xr, E0⟩ src1))
    (hg1 : ∃ g, (∀ (s : Shared) (H : Hp) (C : Addr) (cl : List (Str × Addr)) (fp : List Addr), PG (X.blk s H scope (compEnvC scope cl C X.env) fp) tg1 g) ∧ TgR X.K g bd1 ts1) (sub1 : ∀ i ∈ ts1, i ∈ vs1) (sub2 : ∀ i ∈ vs1, i ∈ vs)
    (ht1 : ∀ (s : Shared) (H : Hp) (C : Addr) (cl : List (Str × Addr)) (fp : List Addr), PTs (X.blk s H scope (compEnvC scope cl C X.env) fp) ifs1 (tT X.K ⟨W.xr, E0⟩ tn1))
    (he : ∀ (s : Shared) (H : Hp) (C : Addr) (cl : List (Str × Addr)) (fp : List Addr), PE (X.blk s H scope (compEnvC scope cl C X.env) fp) elt (tE X.K ⟨W.xr, E0⟩ de))
    (hs : ∀ x, foldedSetIterable iter X.env x = pure x := by intro _; rfl) (hs1 : ∀ env x, foldedSetIterable iter1 env x = pure x := by intro _ _; rfl) :
    PE X (.ListComp elt [⟨tg, iter, ifs, 0⟩, ⟨tg1, iter1, ifs1, 0⟩] scope pos) (tF X.K W (fComp2 src bd tn src1 bd1 tn1 de vs vs1)) := by
  obtain ⟨g, hg, hr⟩ := hg
  obtain ⟨g1, hg1, hr1⟩ := hg1
  subst hv
  exact PE.imp (pe_lc2 hc hN hi ok sub2 hg ht hi1 hg1 ht1 he hs hs1) fun _ _ _ q => comp2_imp hr sub hr1 sub1 sub2 q
theorem ds_setLc2 (i : Nat) {y : Str} {py spos : Pos} {elt iter iter1 tg1 : Expr} {ifs ifs1 : List Expr} {scope : Scope} {src src1 : In} {bd bd1 : Bd} {ts ts1 vs vs1 : List Nat} {tn tn1 : Tn} {de : Dn} (own : List (Str × Nat)) (hv : vs = own.map (·.2)) (hc : X.calm = true) (hN : X.N.Nodup) (hi : PI X tg iter (tI X.K W src)) (ok : BlkOk X.N X.env.scope scope own)
    (hg : ∃ g, (∀ (s : Shared) (H : Hp) (C : Addr) (cl : List (Str × Addr)) (fp : List Addr), PG (X.blk s H scope (compEnvC scope cl C X.env) fp) tg g) ∧ TgR X.K g bd ts) (sub : ∀ i ∈ ts, i ∈ vs)
    (ht : ∀ (s : Shared) (H : Hp) (C : Addr) (cl : List (Str × Addr)) (fp : List Addr), PTs (X.blk s H scope (compEnvC scope cl C X.env) fp) ifs (tT X.K ⟨W.xr, E0⟩ tn))
    (hi1 : ∀ (s : Shared) (H : Hp) (C : Addr) (cl : List (Str × Addr)) (fp : List Addr), PI (X.blk s H scope (compEnvC scope cl C X.env) fp) tg1 iter1 (tI X.K ⟨W.xr, E0⟩ src1))
    (hg1 : ∃ g, (∀ (s : Shared) (H : Hp) (C : Addr) (cl : List (Str × Addr)) (fp : List Addr), PG (X.blk s H scope (compEnvC scope cl C X.env) fp) tg1 g) ∧ TgR X.K g bd1 ts1) (sub1 : ∀ i ∈ ts1, i ∈ vs1) (sub2 : ∀ i ∈ vs1, i ∈ vs)
    (ht1 : ∀ (s : Shared) (H : Hp) (C : Addr) (cl : List (Str × Addr)) (fp : List Addr), PTs (X.blk s H scope (compEnvC scope cl C X.env) fp) ifs1 (tT X.K ⟨W.xr, E0⟩ tn1))
    (he : ∀ (s : Shared) (H : Hp) (C : Addr) (cl : List (Str × Addr)) (fp : List Addr), PE (X.blk s H scope (compEnvC scope cl C X.env) fp) elt (tE X.K ⟨W.xr, E0⟩ de))
    (hsw : swapsWith (.ListComp elt [⟨tg, iter, ifs, 0⟩, ⟨tg1, iter1, ifs1, 0⟩] scope pos) (some (.Name y py)) spos.line X.env = pure true)
    (hs : ∀ x, foldedSetIterable iter X.env x = pure x := by intro _; rfl) (hs1 : ∀ env x, foldedSetIterable iter1 env x = pure x := by intro _ _; rfl)
    (hy : X.N[i]? = some y := by rfl) (hyl : X.env.scope.names.lookup y = some .local := by rfl) :
    PS X (.Assign [.Name y py] (.ListComp elt [⟨tg, iter, ifs, 0⟩, ⟨tg1, iter1, ifs1, 0⟩] scope pos) spos) (tS X.K W (sSet i (dFz (fComp2 src bd tn src1 bd1 tn1 de vs vs1)))) := by
  obtain ⟨g, hg, hr⟩ := hg
  obtain ⟨g1, hg1, hr1⟩ := hg1
  subst hv
  exact PS.imp (ps_setLc2 hc hN hy hyl hsw hi ok sub2 hg ht hi1 hg1 ht1 he hs hs1) fun _ _ _ q => setLc_imp (fun _ _ _ z => comp2_imp hr sub hr1 sub1 sub2 z) q
end
/-! ### dict comprehensions -/
def compDK (bd : Bd) (ifs : Tn) (key elt : Dn) (vs : List Nat) : List D → List (D × D) → Rho → RE (List (D × D))
  | [], acc, ρ => .ok acc ρ
  | d :: l, acc, ρ => match bd d ρ with
    | none => .no
    | some ρ1 => match ifs ρ1 with
      | .ok false ρ2 => compDK bd ifs key elt vs l acc (wipeR ρ2 vs)
      | .ok true ρ2 => match key ρ2 with
        | .ok y ρ3 => match elt ρ3 with
          | .ok x ρ4 => match keyD y with
            | some k => if acc.length < sizeLine then compDK bd ifs key elt vs l (pK acc k x) (wipeR ρ4 vs) else .no
            | none => .no
          | _ => .no
        | _ => .no
      | _ => .no
def fCompDK (src : In) (bd : Bd) (ifs : Tn) (key elt : Dn) (vs : List Nat) : Fn := fun ρ => (src ρ).bind fun l ρ1 => match compDK bd ifs key elt vs l [] (wipeR ρ1 vs) with
  | .ok r ρ2 => .ok (.dK r) (restore ρ1 ρ2 vs)
  | _ => .no
section
variable {X : Cx} {W : Wt} {tg e e2 e3 : Expr} {d d2 : Dn} {pos p : Pos} {v : Vn} {es : List Expr} {t : Tn}
theorem compDK_tail {bd : Bd} {ts vs : List Nat} {ifs : Tn} {key elt : Dn} {g : TG} {σ : Sg} {H1 : Hp} {Q : VK} {J : It} {l : List D} {ρ1 : Rho} {F1 : Hp} (hr : TgR X.K g bd ts) (sub : ∀ i ∈ ts, i ∈ vs) (s1 : SR X.K ρ1 σ F1 H1) (wk : Walk X.K J l F1)
    (q1 : AfF X.K W ρ1 σ F1 H1 Q (match compDK bd ifs key elt vs l [] (wipeR ρ1 vs) with | .ok r ρ2 => .ok (.dK r) (restore ρ1 ρ2 vs) | _ => .no)) :
    tDc (fun _ H R => R J H) g (tT X.K ⟨W.xr, E0⟩ ifs) (tE X.K ⟨W.xr, E0⟩ key) (tE X.K ⟨W.xr, E0⟩ elt) vs σ H1 Q := by
  intro D hD
  have h0 : ∀ j ∈ vs, ∀ m, (wipeR ρ1 vs)[j]? ≠ some (.own m false) := fun j hj m e => by have := wipeR_in hj _ e; cases this
  have noD : ¬ Own ρ1 σ D := fun z => by
    obtain ⟨o, eo⟩ := z.there s1
    rw [hD] at eo; cases eo
  have FD : F1 D = none := sub_none s1.sub hD
  refine ⟨fun i m H' => ∃ ρb Fb acc, Go X.K (wipeR ρ1 vs) (wipe σ vs) F1 H1 ρb (wipe σ vs) Fb H' ∧ OwnAt X.K Fb H' D (.dK acc) ∧ ¬ Own ρb (wipe σ vs) D ∧ i ≤ l.length ∧ m = l.length - i ∧
      AfF X.K W ρ1 σ F1 H1 Q (match compDK bd ifs key elt vs (l.drop i) acc ρb with | .ok r ρ2 => .ok (.dK r) (restore ρ1 ρ2 vs) | _ => .no),
    ⟨l.length, wipeR ρ1 vs, F1, [], (Go.refl s1.wipe).grow hD FD fun z => noD (own_wipe z), ⟨FD, [], upd_same, rfl, by simp [RepP]⟩, fun z => noD (own_wipe z), Nat.zero_le _, rfl, q1⟩, ?_⟩
  rintro i m H2 ⟨ρb, Fb, acc, gb, ob, nb, hi, rfl, q2⟩
  by_cases hl : i < l.length
  · obtain ⟨go, yd⟩ := wk.go i Fb H2 gb.sub gb.sr.sub hl
    refine .inr ⟨go, fun H' => ∃ ρb Fb acc, Go X.K (wipeR ρ1 vs) (wipe σ vs) F1 H1 ρb (wipe σ vs) Fb H' ∧ OwnAt X.K Fb H' D (.dK acc) ∧ ¬ Own ρb (wipe σ vs) D ∧
      AfF X.K W ρ1 σ F1 H1 Q (match compDK bd ifs key elt vs (l.drop (i + 1)) acc ρb with | .ok r ρ2 => .ok (.dK r) (restore ρ1 ρ2 vs) | _ => .no), fun H' ⟨a1, a2, a3, a4, a5, a6, a7⟩ => ⟨l.length - (i + 1), by omega, a1, a2, a3, a4, a5, a6, hl, rfl, a7⟩, fun x H3 y => ?_⟩
    obtain ⟨F3, dd, f, hd, r⟩ := yd x H3 y
    have g3 := gb.trans (f.go gb.sr)
    have hd' : l.drop i = dd :: l.drop (i + 1) := by
      obtain ⟨h1, h2⟩ := List.getElem?_eq_some_iff.mp hd
      rw [← h2]; exact List.drop_eq_getElem_cons h1
    rw [hd'] at q2
    unfold compDK at q2
    cases hb : bd dd ρb with
    | none => rw [hb] at q2; exact q2.elim
    | some ρ4 =>
      simp only [hb] at q2
      refine hr _ _ _ _ _ _ _ _ g3.sr r hb fun σ4 g4 kp => ?_
      have we := wipe_keep kp sub
      obtain ⟨o3, n3⟩ := OwnAt.go ((f.go gb.sr).trans g4) ob nb
      have g5 := g3.trans g4
      refine ⟨we, ρ4, F3, g4.sr, ?_⟩
      cases hif : ifs ρ4 with
      | no => simp only [hif] at q2; exact q2.elim
      | ex x ρ5 => simp only [hif] at q2; exact q2.elim
      | ok b ρ5 =>
        intro b' F5 H5 g6 eb
        subst eb
        obtain ⟨o5, n5⟩ := OwnAt.go g6 o3 n3
        cases b' with
        | false =>
          simp only [hif] at q2
          rw [if_neg Bool.false_ne_true]
          exact ⟨wipeR ρ5 vs, F5, acc, (g5.trans g6).wiped we h0, o5, fun z => n5 (own_wipe (vs := vs) (by rw [we]; exact z)), q2⟩
        | true =>
          simp only [hif] at q2
          rw [if_pos rfl]
          refine ⟨ρ5, F5, g6.sr, ?_⟩
          cases hke : key ρ5 with
          | no => simp only [hke] at q2; exact q2.elim
          | ex x ρ6 => simp only [hke] at q2; exact q2.elim
          | ok y ρ6 =>
            intro yv F6 H6 g7 ry
            obtain ⟨o6, n6⟩ := OwnAt.go g7 o5 n5
            simp only [hke] at q2
            refine ⟨ρ6, F6, g7.sr, ?_⟩
            cases hel : elt ρ6 with
            | no => simp only [hel] at q2; exact q2.elim
            | ex x ρ7 => simp only [hel] at q2; exact q2.elim
            | ok x ρ7 =>
              intro zv F7 H7 g8 rz
              obtain ⟨o7, n7⟩ := OwnAt.go g8 o6 n6
              obtain ⟨fD, es, eD, eq, rD⟩ := o7
              simp only [hel] at q2
              cases hk : keyD y with
              | none => simp only [hk] at q2; exact q2.elim
              | some k =>
                simp only [hk] at q2
                by_cases hz : acc.length < sizeLine
                · rw [if_pos hz] at q2
                  have rg : RG kD X.K F7 acc es := (rg_iff kD).mpr ⟨eq, rD⟩
                  have rp := RG.put kD keyD keyD_kD (k := k) rg rz
                  obtain ⟨h1, h2⟩ := (rg_iff kD).mp rp
                  rw [keyD_at hk] at ry
                  refine ⟨es, k, rep_kD ry, eD, by rw [← rg.len]; exact hz, wipeR ρ7 vs, F7, pK acc k x, ?_, ⟨fD, _, upd_same, h1, h2⟩, fun z => n7 (own_wipe (vs := vs) (by rw [we]; exact z)), q2⟩
                  exact ((((g5.trans g6).trans g7).trans g8).wiped we h0).grow hD fD fun z => n7 (own_wipe (vs := vs) (by rw [we]; exact z))
                · rw [if_neg hz] at q2; exact q2.elim
  · refine .inl ⟨wk.stop i Fb H2 gb.sub gb.sr.sub (by omega), ?_⟩
    rw [List.drop_eq_nil_of_le (by omega)] at q2
    obtain ⟨g2, o2⟩ := Go.unwipe s1 gb
    exact q2 D Fb H2 g2 ob hD fun z => (o2 D z).elim nb noD
theorem df_compDK {kx elt iter : Expr} {ifs : List Expr} {scope : Scope} {src : In} {bd : Bd} {ts vs : List Nat} {tn : Tn} {dk de : Dn} (own : List (Str × Nat)) (hv : vs = own.map (·.2)) (hc : X.calm = true) (hN : X.N.Nodup) (hi : PI X tg iter (tI X.K W src)) (ok : BlkOk X.N X.env.scope scope own)
    (hg : ∃ g, (∀ (s : Shared) (H : Hp) (C : Addr) (cl : List (Str × Addr)) (fp : List Addr), PG (X.blk s H scope (compEnvC scope cl C X.env) fp) tg g) ∧ TgR X.K g bd ts) (sub : ∀ i ∈ ts, i ∈ vs)
    (ht : ∀ (s : Shared) (H : Hp) (C : Addr) (cl : List (Str × Addr)) (fp : List Addr), PTs (X.blk s H scope (compEnvC scope cl C X.env) fp) ifs (tT X.K ⟨W.xr, E0⟩ tn))
    (hk : ∀ (s : Shared) (H : Hp) (C : Addr) (cl : List (Str × Addr)) (fp : List Addr), PE (X.blk s H scope (compEnvC scope cl C X.env) fp) kx (tE X.K ⟨W.xr, E0⟩ dk))
    (he : ∀ (s : Shared) (H : Hp) (C : Addr) (cl : List (Str × Addr)) (fp : List Addr), PE (X.blk s H scope (compEnvC scope cl C X.env) fp) elt (tE X.K ⟨W.xr, E0⟩ de))
    (hs : ∀ x, foldedSetIterable iter X.env x = pure x := by intro _; rfl) :
    PE X (.DictComp kx elt [⟨tg, iter, ifs, 0⟩] scope pos) (tF X.K W (fCompDK src bd tn dk de vs)) := by
  obtain ⟨g, hg, hr⟩ := hg
  subst hv
  refine PE.imp (pe_dc hc hN hi ok hg ht hk he hs) fun σ H Q q => ?_
  obtain ⟨ρ, F, s, q⟩ := q
  exact AfF.bind s q fun l J ρ1 F1 H1 g1 wk q1 => compDK_tail hr sub g1.sr wk q1
end
/-! ### zip -/
def zipP (a b : D) : D := .tuple [a, b]
def zipB : List D → Option (List D)
  | [.list x, .list y] => some (List.zipWith zipP x y)
  | [.tuple x, .tuple y] => some (List.zipWith zipP x y)
  | _ => none
def iZip (v : Vn) : In := fun ρ => (v ρ).bind fun l ρ1 => ans (zipB l) ρ1
section
variable {K : PySem.W.Frag} {F H : Hp}
theorem zipWith_at {x y : List D} {i : Nat} (hi : i < (List.zipWith zipP x y).length) : ∃ d e, x[i]? = some d ∧ y[i]? = some e ∧ (List.zipWith zipP x y)[i]? = some (zipP d e) := by
  rw [List.length_zipWith] at hi
  have h1 : i < x.length := by omega
  have h2 : i < y.length := by omega
  exact ⟨x[i], y[i], List.getElem?_eq_getElem h1, List.getElem?_eq_getElem h2, by rw [List.getElem?_zipWith, List.getElem?_eq_getElem h1, List.getElem?_eq_getElem h2]⟩
theorem walk_zipL {a b : Addr} {l m : List D} {vs ws : List V} (q : SqL K F a vs) (r : Reps K F l vs) (q2 : SqL K F b ws) (r2 : Reps K F m ws) : Walk K (Itz K a b) (List.zipWith zipP l m) F where
  go := fun i F1 H1 s1 s2 hi => by
    obtain ⟨d, e, hd, he, hz⟩ := zipWith_at hi
    obtain ⟨v, hv, rv⟩ := r.get hd
    obtain ⟨w, hw, rw_⟩ := r2.get he
    have q1 : SqL K H1 a vs := (s1.trans s2).seq q
    have q3 : SqL K H1 b ws := (s1.trans s2).seq q2
    refine ⟨⟨vs, ws, v, w, q1, q3, hv, hw⟩, fun x H' y => ?_⟩
    obtain ⟨T, x', y', rfl, hT, rfl, f1, f2⟩ := y
    have e1 := f1 vs q1
    have e2 := f2 ws q3
    rw [hv] at e1; cases e1
    rw [hw] at e2; cases e2
    obtain ⟨fr, rr⟩ := new_tuple (K := K) s2 hT (.cons (rv.mono s1) (.cons (rw_.mono s1) .nil))
    exact ⟨_, _, fr, hz, rr⟩
  stop := fun i F1 H1 s1 s2 hi => ⟨vs, ws, (s1.trans s2).seq q, (s1.trans s2).seq q2, by
    rw [List.length_zipWith] at hi
    have := r.length; have := r2.length
    omega⟩
theorem walk_zipT {a b : Addr} {l m : List D} {vs ws : List V} (q : SqT K F a vs) (r : Reps K F l vs) (q2 : SqT K F b ws) (r2 : Reps K F m ws) : Walk K (RZ.ItzT K a b) (List.zipWith zipP l m) F where
  go := fun i F1 H1 s1 s2 hi => by
    obtain ⟨d, e, hd, he, hz⟩ := zipWith_at hi
    obtain ⟨v, hv, rv⟩ := r.get hd
    obtain ⟨w, hw, rw_⟩ := r2.get he
    have q1 : SqT K H1 a vs := sameT (s1.trans s2) q
    have q3 : SqT K H1 b ws := sameT (s1.trans s2) q2
    refine ⟨⟨vs, ws, v, w, q1, q3, hv, hw⟩, fun x H' y => ?_⟩
    obtain ⟨T, x', y', rfl, hT, rfl, f1, f2⟩ := y
    have e1 := f1 vs q1
    have e2 := f2 ws q3
    rw [hv] at e1; cases e1
    rw [hw] at e2; cases e2
    obtain ⟨fr, rr⟩ := new_tuple (K := K) s2 hT (.cons (rv.mono s1) (.cons (rw_.mono s1) .nil))
    exact ⟨_, _, fr, hz, rr⟩
  stop := fun i F1 H1 s1 s2 hi => ⟨vs, ws, sameT (s1.trans s2) q, sameT (s1.trans s2) q2, by
    rw [List.length_zipWith] at hi
    have := r.length; have := r2.length
    omega⟩
end
theorem di_zip {X : Cx} {W : Wt} {e e2 : Expr} {v : Vn} {p pos tpos : Pos} {elts : List Expr} {kk : Nat} (hm : X.mg "zip" = none) (ha : PA X [e, e2] (tV X.K W v)) (hg : Gl X "zip" := by rfl)
    (hs : starEach [e, e2] X.env = (false, eval e X.env) :: starEach [e2] X.env := by rfl) (hpl : (backTo pos (starEach [e2] X.env)).any (·.1) = false := by rfl) :
    PI X (.Tuple elts kk tpos) (.Call (.Name "zip" p) [e, e2] [] pos) (tI X.K W (iZip v)) :=
  PI.imp (RZ.pi_zipA hg hm ha hs hpl) fun σ H R ⟨ρ, F, s, q⟩ => Af.bind s q fun l vs ρ1 F1 H1 g r z => by
    obtain ⟨l2, el, q⟩ := ans_some z
    have r : Reps X.K F1 l vs := r
    unfold zipB at el
    split at el
    · rename_i x y
      cases el
      obtain ⟨v1, r1, rfl, h1, h2⟩ := reps_cons.mp r
      obtain ⟨v2, r2, rfl, h3, h4⟩ := reps_cons.mp h2
      rw [reps_nil.mp h4]
      simp only [Rep] at h1 h3
      obtain ⟨a, xs, rfl, qa, ra⟩ := h1
      obtain ⟨b, ys, rfl, qb, rb⟩ := h3
      exact ⟨a, b, xs, ys, rfl, .inl ⟨.inl (rdSame g.sr.sub qa), .inl (rdSame g.sr.sub qb), q _ _ _ (Go.refl g.sr) (walk_zipL (.inl qa) ra (.inl qb) rb)⟩⟩
    · rename_i x y
      cases el
      obtain ⟨v1, r1, rfl, h1, h2⟩ := reps_cons.mp r
      obtain ⟨v2, r2, rfl, h3, h4⟩ := reps_cons.mp h2
      rw [reps_nil.mp h4]
      simp only [Rep] at h1 h3
      obtain ⟨a, xs, rfl, qa, ra⟩ := h1
      obtain ⟨b, ys, rfl, qb, rb⟩ := h3
      exact ⟨a, b, xs, ys, rfl, .inr ⟨SqT.of (g.sr.sub _ _ qa), SqT.of (g.sr.sub _ _ qb), q _ _ _ (Go.refl g.sr) (walk_zipT (SqT.of qa) ra (SqT.of qb) rb)⟩⟩
    · cases el
/-! ### steps -/
section
variable {src src1 : In} {bd bd1 : Bd} {ifs ifs1 : Tn} {key elt : Dn} {vs vs1 : List Nat} {ρ ρ1 : Rho} {l : List D}
def compM2 (bd : Bd) (ifs : Tn) (src1 : In) (bd1 : Bd) (ifs1 : Tn) (elt : Dn) (vs vs1 : List Nat) (l : List D) (ρ : Rho) : RE Mo := compR ρ vs (compL2 bd ifs src1 bd1 ifs1 elt vs vs1 l [] (wipeR ρ vs))
theorem ev_fComp2 : fComp2 src bd ifs src1 bd1 ifs1 elt vs vs1 ρ = (src ρ).bind (compM2 bd ifs src1 bd1 ifs1 elt vs vs1) := rfl
theorem ev_compM2 : compM2 bd ifs src1 bd1 ifs1 elt vs vs1 l ρ = compR ρ vs (compL2 bd ifs src1 bd1 ifs1 elt vs vs1 l [] (wipeR ρ vs)) := rfl
def compRK (ρ : Rho) (vs : List Nat) : RE (List (D × D)) → RE Mo
  | .ok r ρ2 => .ok (.dK r) (restore ρ ρ2 vs)
  | _ => .no
def compMK (bd : Bd) (ifs : Tn) (key elt : Dn) (vs : List Nat) (l : List D) (ρ : Rho) : RE Mo := compRK ρ vs (compDK bd ifs key elt vs l [] (wipeR ρ vs))
theorem ev_fCompDK : fCompDK src bd ifs key elt vs ρ = (src ρ).bind (compMK bd ifs key elt vs) := rfl
theorem ev_compMK : compMK bd ifs key elt vs l ρ = compRK ρ vs (compDK bd ifs key elt vs l [] (wipeR ρ vs)) := rfl
theorem ev_compRK {r : List (D × D)} : compRK ρ vs (.ok r ρ1) = .ok (.dK r) (restore ρ ρ1 vs) := rfl
def zipK (l : List D) (ρ : Rho) : RE (List D) := ans (zipB l) ρ
theorem ev_iZip {v : Vn} : iZip v ρ = (v ρ).bind zipK := rfl
theorem ev_zipK : zipK l ρ = ans (zipB l) ρ := rfl
theorem ev_zipB1 {x y : List D} : zipB [.list x, .list y] = some (List.zipWith zipP x y) := rfl
theorem ev_zipB2 {x y : List D} : zipB [.tuple x, .tuple y] = some (List.zipWith zipP x y) := rfl
end
end Ft
/-! Ft27: sorted(set(..)) of whole numbers, min of three, lists of a dict's keys. -/
namespace Ft
open PySem L2 PySem.Spec PyProof.Rows
theorem setR_le {w : World} {h : Heap} {a : Addr} {S : Int → Bool} {n : Nat} (R : SetR w h a S n) {L : List Int} (hL : ∀ k, S k = true → k ∈ L) : n ≤ L.length := by
  obtain ⟨o, es, ep, t, ho, hx, hd, g, nd, hm, hb, hf, hn, _⟩ := R
  have sub : ∀ (l M : List Int), l.Nodup → (∀ k ∈ l, k ∈ M) → l.length ≤ M.length := fun l => by
    induction l with
    | nil => intro M _ _; exact Nat.zero_le _
    | cons x l ih =>
      intro M h1 h2
      obtain ⟨h3, h4⟩ := List.nodup_cons.mp h1
      have hx := h2 x (List.mem_cons_self ..)
      have := ih (M.erase x) h4 fun k hk => (List.mem_erase_of_ne (by rintro rfl; exact h3 hk)).mpr (h2 k (List.mem_cons_of_mem _ hk))
      rw [List.length_erase_of_mem hx] at this
      have hp : 0 < M.length := List.length_pos_of_mem hx
      rw [List.length_cons]; omega
  have := sub _ L nd fun k hk => hL k ((hm k).mpr hk)
  rw [List.length_map, Array.length_toList, hn] at this
  exact this
/-- set.update of whole numbers; the room is asked of what they are, not of how many stand there -/
theorem set_updS {P : Program} {w : World} {A : Around} {I S : Addr} {fp wr : List Addr} {G : Array GenState → Array GenState → Prop} {n : Nat} {Pv : Nat → Value → Prop} {St : Nat → Shared → Prop} {R : Result → Shared → Prop} (W : WalksS P w A.in1 I fp wr G n Pv St) (out : S ∉ fp) (ns : List Int) (hn : n = ns.length)
    (L : List Int) (cov : ∀ k ∈ ns, k ∈ L) (room : L.length + 1 < scanBound) (val : ∀ i v, Pv i v → ∃ k t, ns[i]? = some k ∧ v = .int k t) : ∀ (k i : Nat) (s : Shared), n - i = k → i ≤ n → St i s → (∃ c, c ≤ i ∧ SetR w s.heap S (fun j => decide (j ∈ ns.take i)) c) →
      (∀ t c, Moved (S :: wr) G s t → c ≤ n → SetR w t.heap S (fun j => decide (j ∈ ns)) c → R (.ok (.ret .none)) t) → codeAny (model P w) A (.builtin "set.update.loop" ⟨[.ref S, .ref I], []⟩) R s := by
  have out2 : S ∉ wr := fun h => out (W.sub _ h)
  have more : ∀ b ∈ wr, b ∈ S :: wr := fun b hb => List.mem_cons_of_mem _ hb
  intro k
  induction k with
  | zero =>
    intro i s hk hi st had fin
    obtain ⟨c, le, had⟩ := had
    obtain rfl : i = n := by omega
    refine codeAny_builtin F.entry_set_update_loop (by
      rw [Around.under_plainId F.plain_set_update_loop _]
      show wpAny _ A.in1 (pyNext (.ref I) >>= _) _ _ s
      refine wpAny_bind (W.done s _ _ st fun t mv => ?_)
      rw [List.take_of_length_le (by omega)] at had
      exact (show wpAny _ A.in1 (ret Value.none) _ _ t from wpAny_pure (fin t c (mv.mono more) le (had.at fun o e => mv.heap S o out2 e))))
  | succ k ih =>
    intro i s hk hi st had fin
    obtain ⟨c, le, had⟩ := had
    have lt : i < n := by omega
    refine codeAny_builtin F.entry_set_update_loop (by
      rw [Around.under_plainId F.plain_set_update_loop _]
      show wpAny _ A.in1 (pyNext (.ref I) >>= _) _ _ s
      refine wpAny_bind (W.item i s _ _ lt st fun v t hP st' mv => ?_)
      obtain ⟨z, tk, hz, rfl⟩ := val i v hP
      have had' : SetR w t.heap S (fun j => decide (j ∈ ns.take i)) c := had.at fun o e => mv.heap S o out2 e
      have few : c ≤ L.length := setR_le had' fun j hj => cov j (List.mem_of_mem_take (of_decide_eq_true hj))
      show wpAny _ A.in1 (holding [Value.int z tk] (setAdd S (.int z tk)) >>= _) _ _ t
      refine wpAny_bind (wpAny_holding (by
        unfold setAdd
        refine wpAny_holding (wpAny_bind ((intKind P w).pyHash (k := z) (intKind_is _ _ _ _) ?_))
        refine setR_add_hashed (s := { t with toks := t.toks + 1 }) had' (by omega) fun hp same had2 => ?_
        have had3 : SetR w hp S (fun j => decide (j ∈ ns.take (i + 1))) (if decide (z ∈ ns.take i) = true then c else c + 1) := had2.congr fun j => by rw [List.take_add_one, hz]; simp [List.mem_append]
        have le3 : (if decide (z ∈ ns.take i) = true then c else c + 1) ≤ i + 1 := by split <;> omega
        refine wpAny_pure ⟨plainId_quiet F.plain_set_update_loop _, ih (i + 1) _ (by omega) lt (W.frame _ t _ _ st' (Nat.le_succ _) fun b hb o e => (same.2 b (fun h => out (by rw [← h]; exact hb))).trans e) ⟨_, le3, had3⟩ fun u c2 mv2 le2 had4 => ?_⟩
        exact fin u c2 (Moved.trans W.gtrans ((mv.mono more).then_heap (Nat.le_succ _) fun b o hb e => (same.2 b (fun h => hb (by rw [h]; exact List.mem_cons_self))).trans e) mv2) le2 had4)))
section
variable {P : Program} {w : World} {A : Around} {E : Value → Shared → Prop} {s : Shared}
set_option maxRecDepth 100000 in
set_option maxHeartbeats 3200001 in
theorem call_set_lstI {l : Addr} {its : Array Value} (ks : List Int) {Pq : Value → Shared → Prop} (hHd : A.handled = none) (hLs : s.heap.IsList l its) (hIt : IntsAre its.toList ks) (L : List Int) (hCov : ∀ k ∈ ks, k ∈ L) (hBd : L.length + 1 < scanBound)
    (hFin : ∀ (g1 : Heap) (t1 m1 : Nat), SetR w g1 s.heap.objs.size (fun j => decide (j ∈ ks)) m1 → m1 ≤ ks.length → (∀ bA oA, s.heap.get? bA = some oA → g1.get? bA = some oA) → Pq (.ref s.heap.objs.size) { s with heap := g1, toks := t1 }) :
    wpAny (model P w) A (call (.type "set") [.ref l]) Pq E s := by
  have hSz : its.size = ks.length := by
    have qq := IntsAre.length hIt
    rw [Array.length_toList] at qq
    exact qq
  obtain ⟨m1, r1, eMro⟩ := F.called_set.mro
  have eMade := F.called_set.made
  have eSub := F.called_set.sub
  (refine wpAny_call (codeAny_of_tree ?_))
  (show wpAny _ _ (callAny (.type "set") _) _ _ _)
  (refine wpAny_pure ⟨Code.quiet_builtin _ (by decide +kernel), codeAny_builtin F.entry_type_call ?_⟩)
  (rw [Around.under_plain (weight_type_call_type "set" [.ref l] []) rfl])
  have eNt := F.called_set.notType
  have eCc := F.called_set.canCreate
  have eCt := F.typeCall_set_1 (.ref l)
  (repeat (any_goals (first | assumption | wp_step)))

  refine codeAny_mono (code_set_led1 (.ref l) (E := E) (Q₁ := fun ob1 sA => ob1 = .ref s.heap.objs.size ∧ sA = { s with heap := s.heap.push { cls := .type "set", dict := none, data := .set #[] 0 (.fresh 0 0 (!w.params.followText "set-order")) } }) ⟨rfl, rfl⟩) fun rA sA eR => ?_
  cases rA with
  | error eE => exact eR
  | ok fl1 =>
    cases fl1 with
    | ret ob1 =>
      obtain ⟨rfl, rfl⟩ := eR
      have eS : (s.heap.push { cls := .type "set", dict := none, data := .set #[] 0 (.fresh 0 0 (!w.params.followText "set-order")) }).get? s.heap.objs.size = some { cls := .type "set", dict := none, data := .set #[] 0 (.fresh 0 0 (!w.params.followText "set-order")) } := Heap.get?_push_size _ rfl
      have eT : Shared.TypeIs { s with heap := s.heap.push { cls := .type "set", dict := none, data := .set #[] 0 (.fresh 0 0 (!w.params.followText "set-order")) } } (.ref s.heap.objs.size) "set" := ⟨_, eS, rfl⟩
      have eLi := F.called_set.init.lookup
      have eBi := F.called_set.init.bind (.ref s.heap.objs.size)
      (repeat (any_goals (first | assumption | wp_step)))

      refine codeAny_mono (codeAny_call_builtin (R := wants (fun rA sB => rA = .none ∧ ∃ g1 t1 m1, sB = { s with heap := g1, toks := t1 } ∧ SetR w g1 s.heap.objs.size (fun j => decide (j ∈ ks)) m1 ∧ m1 ≤ ks.length ∧
          (∀ bA oA, s.heap.get? bA = some oA → g1.get? bA = some oA)) E) F.called_set.init.plain F.entry_set_init (check_set_init_1 eT ?_)) fun rB sB eR2 => ?_
      · obtain ⟨o1, eO, eCl, n1, eDl⟩ := hLs
        obtain ⟨oC, oD, oX, oS⟩ := o1
        simp only at eCl eDl
        subst eCl; subst eDl
        have eO2 : (s.heap.push { cls := .type "set", dict := none, data := .set #[] 0 (.fresh 0 0 (!w.params.followText "set-order")) }).get? l = some { cls := .type "list", dict := oD, data := .seq its n1, slots := oS } := Heap.get?_push_of_some _ eO
        have eSl := F.sub_list_set
        have eSf := F.sub_list_frozenset
        have eNe : (Value.type "list" == Value.type "dict") = false := by decide
        have eL1 : (s.heap.push { cls := .type "set", dict := none, data := .set #[] 0 (.fresh 0 0 (!w.params.followText "set-order")) }).IsList l its := ⟨_, eO2, rfl, n1, rfl⟩
        (unfold Builtin.«set.__init__» noKeywords Builtin.Frozenset.updateFrom)
        generalize ePI : pyIter = pI
        wp_walk
        subst ePI

        refine wpAny_pyIter_list eL1 ?_
        (refine wpAny_bind (wpAny_runValue ?_))
        have eLt : l < s.heap.objs.size := Heap.lt_size eO
        have eH3 : A.in1.in1.in1.handled = none := by simp [hHd]
        have eZ1 : (s.heap.push { cls := .type "set", dict := none, data := .set #[] 0 (.fresh 0 0 (!w.params.followText "set-order")) }).objs.size = s.heap.objs.size + 1 := Heap.size_push ..
        have eNi : l ≠ (s.heap.push { cls := .type "set", dict := none, data := .set #[] 0 (.fresh 0 0 (!w.params.followText "set-order")) }).objs.size := by
          rw [Heap.size_push]; exact Nat.ne_of_lt (Nat.lt_succ_of_lt eLt)
        have eSn : s.heap.objs.size ∉ [(s.heap.push { cls := .type "set", dict := none, data := .set #[] 0 (.fresh 0 0 (!w.params.followText "set-order")) }).objs.size, l] := by
          (rw [Heap.size_push]; simp only [List.mem_cons, List.mem_singleton, List.not_mem_nil, or_false, not_or])
          exact ⟨Nat.ne_of_lt (Nat.lt_succ_self _), Nat.ne_of_gt eLt⟩
        have eVal : ∀ (iN : Nat) (vV : Value), its[iN]? = some vV → ∃ kK tV, ks[iN]? = some kK ∧ vV = .int kK tV := fun iN vV eV => by
          have eI : iN < ks.length := by rw [← hSz]; exact (Array.getElem?_eq_some_iff.mp eV).1
          obtain ⟨tV, eE⟩ := PyProof.Rows.IntsAre.int_at hIt iN vV (by rw [Array.getElem?_toList]; exact eV)
          refine ⟨ks[iN], tV, List.getElem?_eq_getElem eI, ?_⟩
          rw [eE, List.getD_eq_getElem?_getD, List.getElem?_eq_getElem eI] <;> rfl
        refine set_updS ((Walks.list eH3 _ l eNi its).toS)
          eSn ks hSz L hCov hBd eVal (its.size - 0) 0 _ (by omega) (Nat.zero_le _)
          ⟨⟨_, Heap.get?_push_size _ rfl, rfl, rfl⟩, (eL1.push _)⟩ ?hS0 ?hR
        case hS0 =>
          have eGt : ((s.heap.push { cls := .type "set", dict := none, data := .set #[] 0 (.fresh 0 0 (!w.params.followText "set-order")) }).push { cls := .type "list_iterator", data := .fields #[.ref l, .int 0 0] }).get? s.heap.objs.size
              = some { cls := .type "set", dict := none, data := .set #[] 0 (.fresh 0 0 (!w.params.followText "set-order")) } := Heap.get?_push_of_some _ eS
          exact ⟨0, Nat.le_refl 0, setR_new_at eGt⟩
        case hR =>
          intro sC m2 eM eC2 eS3
          obtain ⟨g1, gG, dD, tT, oO⟩ := sC
          have zg : gG = s.gens := eM.gens
          have zd : dD = s.drawn := eM.drawn
          have zo : oO = s.os := eM.os
          subst zg; subst zd; subst zo
          show wpAny _ _ _ _ _ _
          refine wpAny_pure ?_
          (show wpAny _ _ (ret Value.none) _ _ _)
          rw [hSz] at eC2
          refine wpAny_pure ⟨rfl, g1, tT, m2, rfl, eS3, eC2, fun bA oA eE => ?_⟩
          have b0 : bA < s.heap.objs.size := Heap.lt_size eE
          have b1 : bA ≠ s.heap.objs.size := Nat.ne_of_lt b0
          have b2 : bA ≠ (s.heap.push { cls := .type "set", dict := none, data := .set #[] 0 (.fresh 0 0 (!w.params.followText "set-order")) }).objs.size := by
            rw [Heap.size_push]; exact Nat.ne_of_lt (Nat.lt_succ_of_lt b0)
          exact eM.heap bA oA (by simp only [List.mem_cons, List.mem_singleton, List.not_mem_nil, or_false, not_or]; exact ⟨b1, b2⟩) (Heap.get?_push_of_some _ (Heap.get?_push_of_some _ eE))

      · cases rB with
        | error eE => exact eR2
        | ok fl2 =>
          cases fl2 with
          | ret rA =>
            obtain ⟨rfl, g1, t1, m2, rfl, eS3, eC2, eK⟩ := eR2
            (repeat (any_goals (first | assumption | wp_step)))
            exact hFin _ _ _ eS3 eC2 eK
          | _ => exact eR2.elim
    | _ => exact eR.elim


end
/-! ### the rule -/
def rSetI (K : PySem.W.Frag) (w : World) : List V → Hp → VK → Prop := fun xs H Q => ∃ (l : Addr) (ks : List Int), xs = [.ref l] ∧ (SqL K H l (ks.map V.int) ∧ (∃ L : List Int, (∀ k ∈ ks, k ∈ L) ∧ L.length ≤ 1000) ∨ SqT K H l (ks.map V.int) ∧ ks.length ≤ 1000) ∧
  ∀ (p : Addr) (n : Nat), H p = none → (∀ L : List Int, (∀ k ∈ ks, k ∈ L) → n ≤ L.length) → Q (.ref p) (upd H p (SetO w p (fun j => decide (j ∈ ks)) n))
section
variable {X : Cx}
theorem cr_setI (hc : X.calm = true) : CallR X (.type "set") (rSetI X.K X.w) := by
  intro pins s σ H xs us Q I r h
  obtain ⟨l, ks, rfl, hq, q⟩ := h
  rw [Vals.ref1 r]
  have fin : ∀ (g1 : Heap) (t1 c1 : Nat), SetR X.w g1 s.heap.objs.size (fun j => decide (j ∈ ks)) c1 → (∀ b o, s.heap.get? b = some o → g1.get? b = some o) → Q (.ref s.heap.objs.size) (upd H s.heap.objs.size (SetO X.w s.heap.objs.size (fun j => decide (j ∈ ks)) c1)) ∧ Inv X pins σ (upd H s.heap.objs.size (SetO X.w s.heap.objs.size (fun j => decide (j ∈ ks)) c1)) { s with heap := g1, toks := t1 } := fun g1 t1 c1 R k =>
    ⟨q _ _ (I.hok.fresh (Nat.le_refl _)) fun L hL => setR_le R fun j hj => hL j (of_decide_eq_true hj), I.laid (t' := t1) k (Nat.le_refl _) (setO_new R)⟩
  rcases hq with ⟨hq, L, cov, hl⟩ | ⟨hq, hl⟩
  · obtain ⟨its, rv, p1, _⟩ := I.list hq
    exact call_set_lstI ks (I.ok.hd hc) p1.isList (ints_of_vals rv) L cov (by unfold scanBound; omega) fun g1 t1 c1 R _ k =>
      ⟨.ref s.heap.objs.size, _, (fin g1 t1 c1 R k).2, rfl, (fin g1 t1 c1 R k).1⟩
  · obtain ⟨its, rv, p1, _⟩ := I.tuple hq
    exact call_set_tupI ks (I.ok.hd hc) p1 (ints_of_vals rv) (by unfold scanBound; omega) fun g1 t1 c1 R _ k =>
      ⟨.ref s.heap.objs.size, _, (fin g1 t1 c1 R k).2, rfl, (fin g1 t1 c1 R k).1⟩
end
/-! ### the members, rising -/
def insS (x : Int) : List Int → List Int
  | [] => [x]
  | y :: l => if x < y then x :: y :: l else if x = y then y :: l else y :: insS x l
def setS (l : List Int) : List Int := l.foldr insS []
theorem mem_insS {x k : Int} : ∀ {l : List Int}, k ∈ insS x l ↔ k = x ∨ k ∈ l
  | [] => by simp [insS]
  | y :: l => by
    unfold insS
    split
    · simp
    · split
      · rename_i h; subst h; simp
      · rw [List.mem_cons, mem_insS, List.mem_cons]
        constructor
        · rintro (h | h | h)
          · exact .inr (.inl h)
          · exact .inl h
          · exact .inr (.inr h)
        · rintro (h | h | h)
          · exact .inr (.inl h)
          · exact .inl h
          · exact .inr (.inr h)
theorem pw_insS {x : Int} : ∀ {l : List Int}, l.Pairwise (· < ·) → (insS x l).Pairwise (· < ·)
  | [], _ => by simp [insS]
  | y :: l, h => by
    obtain ⟨h1, h2⟩ := List.pairwise_cons.mp h
    unfold insS
    split
    · rename_i hx
      refine List.pairwise_cons.mpr ⟨fun z hz => ?_, h⟩
      rcases List.mem_cons.mp hz with rfl | hz
      · exact hx
      · exact Int.lt_trans hx (h1 z hz)
    · split
      · exact h
      · refine List.pairwise_cons.mpr ⟨fun z hz => ?_, pw_insS h2⟩
        rcases mem_insS.mp hz with rfl | hz
        · omega
        · exact h1 z hz
theorem mem_setS {k : Int} : ∀ {l : List Int}, k ∈ setS l ↔ k ∈ l
  | [] => Iff.rfl
  | x :: l => by
    show k ∈ insS x (setS l) ↔ _
    rw [mem_insS, mem_setS, List.mem_cons]
theorem pw_setS : ∀ (l : List Int), (setS l).Pairwise (· < ·)
  | [] => List.Pairwise.nil
  | x :: l => pw_insS (pw_setS l)
theorem pw_eq : ∀ {l m : List Int}, l.Pairwise (· < ·) → m.Pairwise (· < ·) → (∀ k, k ∈ l ↔ k ∈ m) → l = m
  | [], [], _, _, _ => rfl
  | [], y :: m, _, _, h => by have := (h y).mpr (List.mem_cons_self ..); cases this
  | x :: l, [], _, _, h => by have := (h x).mp (List.mem_cons_self ..); cases this
  | x :: l, y :: m, h1, h2, h => by
    obtain ⟨a1, a2⟩ := List.pairwise_cons.mp h1
    obtain ⟨b1, b2⟩ := List.pairwise_cons.mp h2
    have e : x = y := by
      rcases List.mem_cons.mp ((h x).mp (List.mem_cons_self ..)) with e | e
      · exact e
      · rcases List.mem_cons.mp ((h y).mpr (List.mem_cons_self ..)) with e2 | e2
        · exact e2.symm
        · have := b1 x e; have := a1 y e2; omega
    subst e
    rw [pw_eq a2 b2 fun k => ?_]
    have := h k
    rw [List.mem_cons, List.mem_cons] at this
    constructor
    · intro hk
      rcases this.mp (.inr hk) with e | e
      · have := a1 k hk; omega
      · exact e
    · intro hk
      rcases this.mpr (.inr hk) with e | e
      · have := b1 k hk; omega
      · exact e
def setSL (l : List D) : Option (List D) := match intsOf l with
  | some ks => if (setS ks).length < 64 then some ((setS ks).map PyData.int) else none
  | none => none
def setSB (l : List D) : Option (List D) := match intsOf l with
  | some ks => if ks.length ≤ 1000 ∧ (setS ks).length < 64 then some ((setS ks).map PyData.int) else none
  | none => none
def sortSetB : List D → Option (List D)
  | [.list l] => setSL l
  | [.tuple l] => setSB l
  | _ => none
section
variable {X : Cx} {W : Wt} {e : Expr} {a : An} {p p2 pos pos2 : Pos}
theorem df_sortSet (hc : X.calm = true) (hm : X.mg "sorted" = none) (hm2 : X.mg "set" = none) (ha : PE X e (tA X.K W a)) (hg : Gl X "sorted" := by rfl) (hg2 : Gl X "set" := by rfl) (na : starEach [e] X.env = (false, eval e X.env) :: starEach [] X.env := by rfl)
    (nb : starEach [.Call (.Name "set" p2) [e] [] pos2] X.env = (false, eval (.Call (.Name "set" p2) [e] [] pos2) X.env) :: starEach [] X.env := by rfl) (hpl : (backTo pos (starEach [] X.env)).any (·.1) = false := by rfl) (hpl2 : (backTo pos2 (starEach [] X.env)).any (·.1) = false := by rfl) :
    PE X (.Call (.Name "sorted" p) [.Call (.Name "set" p2) [e] [] pos2] [] pos) (tF X.K W (fOpN sortSetB (aCons a aNil))) :=
  PE.imp (pe_callB (cr_sortedSet hc) hg hm (by decide +kernel) (pa_cons (pe_callTy (cr_setI hc) hg2 hm2 (by decide +kernel) (pa_cons ha pa_nil na) (by decide) (by decide) na hpl2) pa_nil nb) (by decide) (by decide) nb hpl) fun σ H Q ⟨ρ, F, s, q⟩ => by
    have e1 : fOpN sortSetB (aCons a aNil) ρ = (a ρ).bind fun h ρ1 => ans (((looks ρ1 [h]).bind sortSetB).map Mo.lst) ρ1 := by
      unfold fOpN aCons aNil
      cases a ρ <;> rfl
    rw [e1] at q
    refine AfF.bind s q fun h v ρ1 F1 H1 g r q1 => ?_
    obtain ⟨z, e, q⟩ := ansF_some q1
    obtain ⟨l1, e3, rfl⟩ := Option.map_eq_some_iff.mp e
    obtain ⟨ds, hd, e2⟩ := Option.bind_eq_some_iff.mp e3
    have rb := looks_rep g.sr (.cons r .nil) hd
    have fin : ∀ (t : Addr) (ks : List Int), (SqL X.K H1 t (ks.map V.int) ∨ SqT X.K H1 t (ks.map V.int) ∧ ks.length ≤ 1000) → (setS ks).length < 64 → l1 = (setS ks).map PyData.int →
        rSetI X.K X.w [.ref t] H1 (fun v H => rSortedSet X.w [v] H Q) := fun t ks hs h2 hl => by
      refine ⟨t, ks, rfl, hs.imp (fun z => ⟨z, setS ks, fun k hk => mem_setS.mpr hk, by omega⟩) id, fun p n hp hn => ⟨p, _, n, rfl, upd_same, Nat.lt_of_le_of_lt (hn (setS ks) fun k hk => mem_setS.mpr hk) h2, fun ns p' pw mem _ hp' => ?_⟩⟩
      have en : ns = setS ks := pw_eq pw (pw_setS ks) fun k => by rw [mem k, decide_eq_true_eq, mem_setS]
      subst hl
      rw [en]
      have f := Fr.own1 (o := SetO X.w p (fun j => decide (j ∈ ks)) n) g.sr.sub hp
      exact AfF.new (g.sr.fr f) (AfF.at (f.go g.sr) q) hp' (Reps.of_ints _)
    unfold sortSetB at e2
    split at e2
    · rename_i l
      unfold setSL at e2
      split at e2
      · rename_i ks hk
        split at e2
        · rename_i hh
          cases e2
          obtain ⟨w, ew, rw_⟩ := rb.one
          cases ew
          obtain ⟨t, vs, ew, q1, r1⟩ := rw_.list g.sr.sub
          rw [intsOf_map hk] at r1
          cases ew
          exact fin t ks (.inl (.inl (by rw [← r1.ints]; exact q1))) hh rfl
        · cases e2
      · cases e2
    · rename_i l
      unfold setSB at e2
      split at e2
      · rename_i ks hk
        split at e2
        · rename_i hh
          cases e2
          obtain ⟨w, ew, rw_⟩ := rb.one
          cases ew
          obtain ⟨t, vs, ew, q1, r1⟩ := rw_.tuple g.sr.sub
          rw [intsOf_map hk] at r1
          cases ew
          exact fin t ks (.inr ⟨by rw [← r1.ints]; exact q1, hh.1⟩) hh.2 rfl
        · cases e2
      · cases e2
    · cases e2
end
/-! ### min of three -/
def min3I (x y z : Int) : Int := if z < (if y < x then y else x) then z else if y < x then y else x
def min3B : List D → Option D
  | [.int x, .int y, .int z] => some (.int (min3I x y z))
  | _ => none
theorem pn_min3 {K : PySem.W.Frag} : PN K (rNuC3 nuMin3) min3B := fun F H xs ds z Q s h hz q => by
  unfold min3B at hz
  split at hz
  · rename_i i j k
    cases hz
    obtain ⟨v, w, x, rfl, r1, r2, r3⟩ := h.three
    refine ⟨v, w, x, .int (min3I i j k), rfl, ?_, q _ F H (Fr.refl s) rep_int⟩
    rw [r1.int, r2.int, r3.int]
    unfold min3I
    by_cases h1 : j < i
    · by_cases h2 : k < j
      · simp [nuMin3, nuMin2, nuLt, nuCB, h1, h2]
      · simp [nuMin3, nuMin2, nuLt, nuCB, h1, h2]
    · by_cases h2 : k < i
      · simp [nuMin3, nuMin2, nuLt, nuCB, h1, h2]
      · simp [nuMin3, nuMin2, nuLt, nuCB, h1, h2]
  · cases hz
/-! ### list(d) -/
def lstDB : List D → Option (List D)
  | [.dict l] => some (l.map (·.1))
  | _ => none
def rListDD : List V → Hp → VK → Prop := fun xs H Q => (∃ (a : Addr) (kvs : List (Key × V)), xs = [.ref a] ∧ Rd H a (.dK kvs) ∧ ∀ p, H p = none → Q (.ref p) (upd H p (.lst (kvs.map fun kv => kV kv.1)))) ∨
  (∃ d kvs, xs = [V.ref d] ∧ Rd H d (.dT kvs) ∧ ∀ p bs, H p = none → IsKeys H kvs bs → Q (.ref p) (upd H p (.lst (bs.map V.ref))))
theorem cr_listDD {X : Cx} (hc : X.calm = true) : CallR X (.type "list") rListDD := fun pins s σ H xs us Q I r h => h.elim (call_listD hc pins s σ H xs us Q I r) (call_list_dT hc pins s σ H xs us Q I r)
section
variable {K : PySem.W.Frag} {ρ ρ' : Rho} {σ : Sg} {F H F' H' : Hp}
/-- a tuple that stands is frozen -/
theorem Go.freezeT {ρ0 : Rho} {σ0 σ' : Sg} {F0 H0 : Hp} {a : Addr} {vs : List V} (g : Go K ρ0 σ0 F0 H0 ρ' σ' F' H') (n : F' a = none) (h : H' a = some (.tup vs)) : Go K ρ0 σ0 F0 H0 ρ' σ' (upd F' a (.tup vs)) H' where
  sub := g.sub.trans (upd_same' n)
  keep := fun b u e hn => by
    obtain ⟨h1, h2, h3⟩ := g.keep b u e hn
    refine ⟨h1, fun nt z => ?_, h3⟩
    have hb : b ≠ a := fun q => by subst q; rw [h] at h1; cases h1; exact nt _ rfl
    rw [upd_ne hb]; exact h2 nt z
  sr := g.sr.freeze n h fun ow => by
    obtain ⟨i, m, b, e1, e2⟩ := ow
    obtain ⟨c, h1, h2⟩ := g.sr.own i m b e1
    rw [e2] at h1; cases h1
    exact h2.nt h _ rfl
  there := g.there
  io := g.io
theorem reps_of_kD : ∀ (ks : List Key), Reps K F (ks.map kD) (ks.map kV)
  | [] => .nil
  | .inl i :: ks => .cons rep_int (reps_of_kD ks)
  | .inr i :: ks => .cons rep_str (reps_of_kD ks)
theorem freeze_keys (s : SR K ρ σ F H) {es : List (List Key × V)} {bs : List Addr} (k : IsKeys H es bs) : ∃ F', Go K ρ σ F H ρ σ F' H ∧ Reps K F' (es.map fun e => tD e.1) (bs.map V.ref) := by
  unfold IsKeys at k
  induction k with
  | nil => exact ⟨F, Go.refl s, .nil⟩
  | @cons e b es bs r t ih =>
    obtain ⟨F1, g, rs⟩ := ih
    cases c : F1 b with
    | some o =>
      have : H b = some o := g.sr.sub _ _ c
      rw [r] at this; cases this
      exact ⟨F1, g, .cons (rep_tuple c (reps_of_kD _)) rs⟩
    | none =>
      refine ⟨upd F1 b (.tup (e.1.map kV)), g.freezeT c r, .cons (rep_tuple upd_same (reps_of_kD _)) (Reps.mono (upd_same' c) _ _ rs)⟩
end
section
variable {X : Cx} {W : Wt} {e : Expr} {d : Dn} {p pos : Pos}
theorem df_listDD (hc : X.calm = true) (hm : X.mg "list" = none) (he : PE X e (tE X.K W d)) (hg : Gl X "list" := by rfl) (na : starEach [e] X.env = (false, eval e X.env) :: starEach [] X.env := by rfl) (hpl : (backTo pos (starEach [] X.env)).any (·.1) = false := by rfl) :
    PE X (.Call (.Name "list" p) [e] [] pos) (tF X.K W (fOpN lstDB (aCons (aE d) aNil))) :=
  PE.imp (pe_callTy (cr_listDD hc) hg hm (by decide +kernel) (pa_cons he pa_nil na) (by decide) (by decide) na hpl) fun σ H Q ⟨ρ, F, s, q⟩ => by
    have e1 : fOpN lstDB (aCons (aE d) aNil) ρ = (d ρ).bind fun x ρ1 => ans ((lstDB [x]).map Mo.lst) ρ1 := by
      unfold fOpN aCons aNil aE
      cases d ρ <;> rfl
    rw [e1] at q
    refine AfF.bind s q fun x v ρ1 F1 H1 g r q1 => ?_
    obtain ⟨z, e, q⟩ := ansF_some q1
    obtain ⟨l1, e2, rfl⟩ := Option.map_eq_some_iff.mp e
    unfold lstDB at e2
    split at e2
    · rename_i l0 l hx
      cases hx
      cases e2
      have r : Rep X.K F1 (.dict l) v := r
      simp only [Rep] at r
      obtain ⟨a, vs, rfl, k, rp⟩ := r
      rcases k with ⟨es, h1, h2, rfl⟩ | ⟨es, h1, h2, rfl⟩
      · refine .inl ⟨a, es, rfl, rdSame g.sr.sub h1, fun p hp => AfF.new g.sr q hp ?_⟩
        rw [h2]
        have := reps_of_kD (K := X.K) (F := F1) (es.map (·.1))
        rw [List.map_map, List.map_map] at this
        exact this
      · refine .inr ⟨a, es, rfl, rdSame g.sr.sub h1, fun p bs hp hk => ?_⟩
        obtain ⟨F2, g2, rs⟩ := freeze_keys g.sr hk
        refine AfF.new g2.sr (AfF.at g2 q) hp ?_
        rw [h2]
        exact rs
    · cases e2
end
/-! ### steps -/
theorem ev_setS1 {l : List D} : sortSetB [.list l] = setSL l := rfl
theorem ev_setS2 {l : List D} : sortSetB [.tuple l] = setSB l := rfl
theorem ev_min3B {x y z : Int} : min3B [.int x, .int y, .int z] = some (.int (min3I x y z)) := rfl
theorem ev_lstDB {l : List (D × D)} : lstDB [.dict l] = some (l.map (·.1)) := rfl
theorem setSL_ok {ks : List Int} (h2 : (setS ks).length < 64) : setSL (ks.map PyData.int) = some ((setS ks).map PyData.int) := by
  unfold setSL
  rw [intsOf_of]
  exact if_pos h2
theorem setSB_ok {ks : List Int} (h : ks.length ≤ 1000) (h2 : (setS ks).length < 64) : setSB (ks.map PyData.int) = some ((setS ks).map PyData.int) := by
  unfold setSB
  rw [intsOf_of]
  exact if_pos ⟨h, h2⟩
end Ft
/-! Ft28: own errors: raise, and the law's «try: .. except FieldError as e: return _law_error(e)». -/
namespace Ft
open PySem L2 PySem.Spec PyProof.Rows
def errNames : List Str := ["TooManyLies", "NoWalk", "NotAllowed", "BadCourse", "BadLine", "BadText", "Over", "NothingToUndo", "NoRule", "Full"]
def bmV : List Value := [.type "ValueError", .type "Exception", .type "BaseException", .type "object"]
def clsAt (K : PySem.W.Frag) (nm : Str) : Option Addr := match PySem.W.nsIn K mainGlobals nm with
  | some (some (.ref C)) => some C
  | _ => none
theorem clsAt_ns {K : PySem.W.Frag} {nm : Str} {C : Addr} (h : clsAt K nm = some C) : PySem.W.nsIn K mainGlobals nm = some (some (.ref C)) := by
  unfold clsAt at h
  split at h
  · rename_i C' e; cases h; exact e
  · cases h
/-- what isinstance needs of a class -/
def excCB (K : PySem.W.Frag) (D : Addr) : Bool :=
  decide (PySem.W.findIn K (.ref D) "__getattribute__" = some (some (.builtin "BaseException.__getattribute__"))) && (decide (PySem.W.findIn K (.ref D) "__getattr__" = some none) &&
  (decide (PySem.W.subIn K (.ref D) (.type "BaseException") = some true) && (PySem.W.hasDictIn K D && (decide (PySem.W.findIn K (.ref D) "__class__" = some (some (.builtin "object.__class__"))) &&
  (decide (PySem.W.specialIn K (.builtin "object.__class__") "__get__" = some (some (.builtin "getset_descriptor.__get__"))) && (decide (PySem.W.takesIn K (.builtin "object.__class__") = some true) && decide (PySem.W.mroIn K D (.type "object") = some true)))))))
theorem excCB_ok {K : PySem.W.Frag} {D : Addr} (h : excCB K D = true) : ExcC K D := by
  simp only [excCB, Bool.and_eq_true, decide_eq_true_eq] at h
  obtain ⟨h1, h2, h3, h4, h5, h6, h7, h8⟩ := h
  exact ⟨h1, h2, h3, h4, h5, h6, h7, h8⟩
/-- the class with the name at the place j: it can be raised, and told -/
def errB (K : PySem.W.Frag) (j : Nat) (C fe : Addr) : Bool :=
  PySem.W.excIn K C bmV "ValueError.__new__" && (PySem.W.keepIn K (.ref C) && (decide (PySem.W.typeIn K (.ref C) = some (.type "type")) && (excCB K C &&
  (decide (PySem.W.exmOne K (.ref C) (.ref fe) = some true) && (decide (PySem.W.kitOne K (.ref C) (.type "ValueError") = some true) &&
  (List.range 10).all fun i => match clsAt K (errNames.getD i "") with
    | some D => decide (PySem.W.kitOne K (.ref C) (.ref D) = some (i == j))
    | none => false)))))
structure ErrC (K : PySem.W.Frag) (j : Nat) (C fe : Addr) : Prop where
  here : (j < 10 ∧ j ≠ 3 ∧ j ≠ 4) ∧ clsAt K (errNames.getD j "") = some C
  base : clsAt K "FieldError" = some fe
  ok : errB K j C fe = true
/-- all classes that this law raises -/
def errsB (K : PySem.W.Frag) (js : List Nat) : Bool := js.all fun j => decide (j < 10 ∧ j ≠ 3 ∧ j ≠ 4) && match clsAt K (errNames.getD j ""), clsAt K "FieldError" with
  | some C, some fe => errB K j C fe
  | _, _ => false
theorem errs_at {K : PySem.W.Frag} {js : List Nat} {j : Nat} (h : errsB K js = true) (hj : j ∈ js) : ∃ C fe, ErrC K j C fe := by
  have z := List.all_eq_true.mp h j hj
  rw [Bool.and_eq_true] at z
  obtain ⟨z0, z⟩ := z
  split at z
  · rename_i C fe e1 e2
    exact ⟨C, fe, ⟨of_decide_eq_true z0, e1⟩, e2, z⟩
  · cases z
/-- how an own error is told: its class by its number -/
def xrE : PySem.W.Frag → XR := fun K x c dx _ => x.pay = [] ∧ dx = none ∧ ∃ C fe, ErrC K x.cls C fe ∧ c = .ref C
/-- what the law tells of an error -/
def refD (x : Xn) : D := .tuple [.str "refused", .str (errNames.getD x.cls "")]
def sRaise (j : Nat) (e : Dn) : Sn := fun ρ => match e ρ with
  | .ok _ ρ1 => .ex ⟨j, []⟩ ρ1
  | .ex x ρ1 => .ex x ρ1
  | .no => .no
def sTry (b : Sn) (h : Xn → D) : Sn := fun ρ => match b ρ with
  | .ex x ρ1 => .ret (h x) ρ1
  | r => r
/-- raise X(e) where nothing is handled -/
theorem pmk_own1N {X : Cx} {C : Addr} {bmB : List Value} {B newId initId : String} {x : Str} {e : Expr} {ta : TE} {p pos : Pos} (F : ExcBaseFacts B newId initId bmB) (q : PySem.W.excIn X.K C bmB newId = true) (gC : X.mg x = some (.ref C)) (kC : PySem.W.keepIn X.K (.ref C) = true) (r : Raises X (.ref C)) (hg : Gl X x)
    (he : PE X e ta) (hs : starEach [e] X.env = (false, eval e X.env) :: starEach [] X.env := by rfl) (hdb : (x == ("__debug__" : Str)) = false := by decide) :
    L2N.PMk X (.Call (.Name x p) [e] [] pos) (fun σ H Q => ta σ H fun _ H1 => Q (.ref C) none H1) := by
  intro pins s σ H Q I h
  refine wpAny_Call_Name_kw (ld_glob I hg gC ?_ hdb)
  refine PySem.W.callWith_K (h₀ := X.base) I.ok.mod.kin kC ?_ hs (by rfl)
  rw [hs]
  show wpAny _ _ (spliced ((false, eval e X.env) :: backTo pos (starEach [] X.env))) _ _ s
  refine Calls.spliced_cons (thn (he.run pins s σ H _ I h) fun u s1 ⟨v, H1, I1, r1, q1⟩ => ?_)
  refine Calls.spliced_nil ⟨I1.kIn, ?_⟩
  show wpAny _ _ (call (.ref C) [u]) _ _ _
  obtain ⟨bm, N, nm, qn, bs, hdct, sn, sub, ab, col, dd, k0, k1, k2, k3, k5, mN, hC, hN, hni, T⟩ := exc_obj I1.kIn q
  refine wpAny_call_exc_subT F T hC hN hni (fun h' e hm => ?_) (by show 1 ≤ sizeLine; rw [sizeLine_eq]; omega)
  exact L2N.mk_of I1 hm r q1 (I1.hok.gone hm.new)
section
variable {X : Cx} {E : XK} {j : Nat} {x : Str} {e : Expr} {d : Dn} {p pos pos' : Pos}
theorem ds_raise {js : List Nat} (hj : errsB X.K js = true) (hm : j ∈ js) (hns : ∀ x v, PySem.W.nsIn X.K mainGlobals x = some (some v) → X.mg x = some v) (hx : errNames.getD j "" = x) (hc : X.calm = true) (tk : L2N.Takes X (fun cls d _ H => E cls d H)) (he : PE X e (tE X.K ⟨xrE X.K, E⟩ d))
    (hg : Gl X x := by rfl) (hs : starEach [e] X.env = (false, eval e X.env) :: starEach [] X.env := by rfl) (hdb : (x == ("__debug__" : Str)) = false := by decide) :
    PS X (.Raise (some (.Call (.Name x p) [e] [] pos)) none pos') (tS X.K ⟨xrE X.K, E⟩ (sRaise j d)) := by
  obtain ⟨C, fe, T⟩ := errs_at hj hm
  have ok := T.ok
  unfold errB at ok
  simp only [Bool.and_eq_true, decide_eq_true_eq] at ok
  obtain ⟨o1, o2, o3, o4, o5, o6, o7⟩ := ok
  have mC : X.mg x = some (.ref C) := by rw [← hx]; exact hns _ _ (clsAt_ns T.here.2)
  refine PS.imp (L2N.ps_raise hc tk (pmk_own1N PySem.F.excBase_ValueError o1 mC o2 (raises_own (excCB_ok o4).hs o3) hg he hs hdb)) fun D σ H ⟨ρ, F, s, q⟩ => ?_
  refine ⟨ρ, F, s, ?_⟩
  unfold sRaise at q
  cases hd : d ρ with
  | no => rw [hd] at q; exact q
  | ex y ρ1 =>
    rw [hd] at q
    exact fun c dx F' H' g z => q c dx σ F' H' g z
  | ok a ρ1 =>
    rw [hd] at q
    exact fun v F' H' g r => q (.ref C) none σ F' H' g ⟨rfl, rfl, C, fe, T, rfl⟩
theorem tkN {P : Program} {w : World} {K : PySem.W.Frag} {mg : Str → Option Value} {base : Heap} {N : List Str} {x : Str} {sc : Scope} {f : Addr} {cdv : Value} {A : Around} {outer : List Env} {s : Shared} {H : Hp} {E : XK} :
    L2N.Takes (cxOf (L2N.CX P w) P w K mg base N x sc f cdv A outer s H E) (fun cls d _ H => E cls d H) := L2N.takes_of rfl rfl rfl rfl
end
/-! ### _law_error -/
section
variable {X : Cx} {a D : Addr} {oe : Obj}
theorem call_isP (C : ExcC X.K D) (hp : (a, oe) ∈ X.pn) (hz : Zc (.ref D) none oe) (hf : ∃ vs, oe.data = .fields vs) : CallR X (.builtin "isinstance") (rIsE X.K D a) := by
  intro pins s σ H xs us Q I r h
  obtain ⟨c, cv, b, rfl, hcv, e, q⟩ := h
  cases r with
  | cons rx rr =>
    cases rr with
    | cons rt rr =>
      cases rr
      cases rx
      have ec := hcv _ rt
      subst ec
      obtain ⟨hget, _⟩ := I.pin (a, oe) (List.mem_append.mpr (.inl hp))
      obtain ⟨vs, hv⟩ := hf
      have J : PySem.W.InstAt s.heap a oe D none := by
        obtain ⟨oc, od, oda, osl⟩ := oe
        obtain ⟨h1, h2⟩ := hz
        dsimp only at h1 h2 hv
        subst h1 h2 hv
        exact ⟨hget, rfl, rfl, trivial⟩
      exact PySem.W.kia_one (PySem.W.handS_kitx_exc C.hg C.hk C.hs C.hd C.ha C.hn C.ht C.hm) I.kIn J e (fun z => nomatch z) fun tk => ⟨.bl b, H, I.kept (t' := tk) fun _ _ z => z, rfl, q⟩
/-- isinstance(e, C), e in slot 0 -/
def tIs (a : Addr) (b : Bool) : TE := fun σ H Q => σ[0]? = some (some (.ref a)) ∧ Q (.bl b) H
variable {x : Str} {p p1 p2 pos : Pos} {C : Addr} {b : Bool}
theorem pe_is0 (hc : CallR X (.builtin "isinstance") (rIsE X.K D a)) (hm : X.mg "isinstance" = none) (hx : X.mg x = some (.ref C)) (hk : PySem.W.kitOne X.K (.ref D) (.ref C) = some b) (hN : X.N[0]? = some ("e" : Str) := by rfl) (hv : Vis X.env.scope ("e" : Str) := by first | exact Or.inl rfl | exact Or.inr (Or.inl rfl) | exact Or.inr (Or.inr rfl))
    (hg : Gl X "isinstance" := by rfl) (hg2 : Gl X x := by rfl) (hdb : (x == ("__debug__" : Str)) = false := by decide) (he : starEach [.Name "e" p1, .Name x p2] X.env = (false, eval (.Name "e" p1) X.env) :: starEach [.Name x p2] X.env := by rfl)
    (hpl : (backTo pos (starEach [.Name x p2] X.env)).any (·.1) = false := by rfl) : PE X (.Call (.Name "isinstance" p) [.Name "e" p1, .Name x p2] [] pos) (tIs a b) :=
  PE.imp (pe_callB hc hg hm (by decide +kernel) (pa_cons (pe_var hN hv) (pa_cons (pe_glob (v := .ref C) hg2 hx rfl hdb) pa_nil))) fun σ H Q ⟨h, q⟩ => ⟨_, h, V.ref C, .ref C, b, rfl, fun u z => z, hk, q⟩
theorem pe_isT (hc : CallR X (.builtin "isinstance") (rIsE X.K D a)) (hm : X.mg "isinstance" = none) (hx : X.mg "ValueError" = none) (hk : PySem.W.kitOne X.K (.ref D) (.type "ValueError") = some b) (hN : X.N[0]? = some ("e" : Str) := by rfl) (hv : Vis X.env.scope ("e" : Str) := by first | exact Or.inl rfl | exact Or.inr (Or.inl rfl) | exact Or.inr (Or.inr rfl))
    (hg : Gl X "isinstance" := by rfl) (hg2 : Gl X "ValueError" := by rfl) (he : starEach [.Name "e" p1, .Name "ValueError" p2] X.env = (false, eval (.Name "e" p1) X.env) :: starEach [.Name "ValueError" p2] X.env := by rfl)
    (hpl : (backTo pos (starEach [.Name "ValueError" p2] X.env)).any (·.1) = false := by rfl) : PE X (.Call (.Name "isinstance" p) [.Name "e" p1, .Name "ValueError" p2] [] pos) (tIs a b) :=
  PE.imp (pe_callB hc hg hm (by decide +kernel) (pa_cons (pe_var hN hv) (pa_cons (pe_bltn (v := .ty "ValueError") hg2 hx (by decide +kernel) rfl) pa_nil))) fun σ H Q ⟨h, q⟩ => ⟨_, h, V.ty "ValueError", .type "ValueError", b, rfl, fun u z => z, hk, q⟩
/-- five of them, in a list -/
def tIsL (a : Addr) (bs : List Bool) : TE := fun σ H Q => σ[0]? = some (some (.ref a)) ∧ ∀ l, H l = none → Q (.ref l) (upd H l (.lst (bs.map V.bl)))
theorem pe_isL {e1 e2 e3 e4 e5 : Expr} {b1 b2 b3 b4 b5 : Bool} (h1 : PE X e1 (tIs a b1)) (h2 : PE X e2 (tIs a b2)) (h3 : PE X e3 (tIs a b3)) (h4 : PE X e4 (tIs a b4)) (h5 : PE X e5 (tIs a b5))
    (s1 : starEach [e1, e2, e3, e4, e5] X.env = (false, eval e1 X.env) :: starEach [e2, e3, e4, e5] X.env := by rfl) (s2 : starEach [e2, e3, e4, e5] X.env = (false, eval e2 X.env) :: starEach [e3, e4, e5] X.env := by rfl)
    (s3 : starEach [e3, e4, e5] X.env = (false, eval e3 X.env) :: starEach [e4, e5] X.env := by rfl) (s4 : starEach [e4, e5] X.env = (false, eval e4 X.env) :: starEach [e5] X.env := by rfl) (s5 : starEach [e5] X.env = (false, eval e5 X.env) :: starEach [] X.env := by rfl) :
    PE X (.List [e1, e2, e3, e4, e5] pos) (tIsL a [b1, b2, b3, b4, b5]) :=
  PE.imp (pe_lst (pa_cons h1 (pa_cons h2 (pa_cons h3 (pa_cons h4 (pa_cons h5 pa_nil s5) s4) s3) s2) s1)) fun σ H Q ⟨h, q⟩ => ⟨h, h, h, h, h, by simp only [List.length_cons, List.length_nil, sizeLine_eq]; omega, q⟩
end
/-- «flags.count(True) != 1», what is behind the test -/
def errT : Tn := (dTv (dOp2 (toB neB) (aE (dMl (findB cntD) (aV 1) (aCons (aE (dC (.bool true))) aNil))) (aE (dC (.int 1)))))
def errS : Sn := (sSeq (sSet 2 (dMl (findB idxD) (aV 1) (aCons (aE (dC (.bool true))) aNil))) (sSeq (sSet 3 (dOp2 ixB (aE (dTup (vCons (dC (.str "TooManyLies")) (vCons (dC (.str "NoWalk")) (vCons (dC (.str "NotAllowed")) (vCons (dC (.str "BadCourse")) (vCons (dC (.str "BadLine")) (vCons (dC (.str "BadText")) (vCons (dC (.str "Over")) (vCons (dC (.str "NothingToUndo")) (vCons (dC (.str "NoRule")) (vCons (dC (.str "Full")) vNil)))))))))))) (aV 2))) (sSeq (sIf (dTv (dOp2 (toB eqB) (aV 3) (aE (dC (.str "BadLine"))))) (sRet (dTup (vCons (dC (.str "refused")) (vCons (dV 3) (vCons dNo vNil))))) sSkip) (sRet (dIf (dTv (dOp2 (toB eqB) (aV 3) (aE (dC (.str "BadCourse"))))) (dTup (vCons (dC (.str "refused")) (vCons (dV 3) (vCons dNo vNil)))) (dTup (vCons (dC (.str "refused")) (vCons (dV 3) vNil))))))))
def errFlags (j : Nat) : List D := (List.range 10).map fun i => .bool (i == j)
def errRho (j : Nat) : Rho := [.un, .own (.lst (errFlags j)) true, .un, .un]
theorem errT_at {j : Nat} (h : j < 10) : errT (errRho j) = .ok false (errRho j) := by
  have e : j = 0 ∨ j = 1 ∨ j = 2 ∨ j = 3 ∨ j = 4 ∨ j = 5 ∨ j = 6 ∨ j = 7 ∨ j = 8 ∨ j = 9 := by omega
  rcases e with e | e | e | e | e | e | e | e | e | e <;> subst e <;> rfl
theorem errS_at {j : Nat} (h : j < 10 ∧ j ≠ 3 ∧ j ≠ 4) : errS (errRho j) = .ret (refD ⟨j, []⟩) [.un, .own (.lst (errFlags j)) true, .val (.int j), .val (.str (errNames.getD j ""))] := by
  have e : j = 0 ∨ j = 1 ∨ j = 2 ∨ j = 5 ∨ j = 6 ∨ j = 7 ∨ j = 8 ∨ j = 9 := by omega
  rcases e with e | e | e | e | e | e | e | e <;> subst e <;> rfl
/-- new objects alone; tuples may be frozen -/
structure FrN (F H F' H' : Hp) : Prop where
  sub : Same F F'
  all : Same H H'
  fr : Same F' H'
  new : ∀ a o, NT o → H a = some o → F a = none → F' a = none
theorem FrN.go {K : PySem.W.Frag} {ρ : Rho} {σ : Sg} {F H F' H' : Hp} (f : FrN F H F' H') (s : SR K ρ σ F H) : Go K ρ σ F H ρ σ F' H' :=
  ⟨f.sub, fun a o e n => ⟨f.all _ _ e, fun nt z => f.new a o nt e z, n⟩,
    ⟨f.fr, s.len, fun i d e => by
      obtain ⟨v, h1, h2⟩ := s.val i d e
      exact ⟨v, h1, h2.mono f.sub⟩, fun i m b e => by
      obtain ⟨a, h1, h2⟩ := s.own i m b e
      obtain ⟨o, ho⟩ := h2.there
      exact ⟨a, h1, h2.move f.sub (f.new a o (h2.nt ho) ho h2.free) fun o e => f.all _ _ e⟩, s.inj⟩,
    fun a o e => ⟨o, f.all _ _ e⟩, fun j m e => ⟨m, e, rfl⟩⟩
/-- the body of _law_error, with the error's class number j -/
def tErr (K : PySem.W.Frag) (a : Addr) (j : Nat) : TS := fun D σ H => σ = [some (.ref a), none, none, none] ∧ (∃ F, Same F H ∧ ∀ v F' H', FrN F H F' H' → Rep K F' (refD ⟨j, []⟩) v → D.rt v H')
theorem reps_bls {K : PySem.W.Frag} {F : Hp} : ∀ bs : List Bool, Reps K F (bs.map PyData.bool) (bs.map V.bl)
  | [] => .nil
  | b :: bs => .cons rep_bool (reps_bls bs)
theorem err_body {X : Cx} {W : Wt} {a : Addr} {j : Nat} {st1 st2 st3 : Stmt} {rest : List Stmt} {us : Sn} (hj : j < 10 ∧ j ≠ 3 ∧ j ≠ 4) (h1 : PS X st1 (tAsg (tIsL a ((List.range 5).map fun i => i == j)) (gName 1)))
    (h2 : PS X st2 (tAsg (tOp rCatL (tVar 1) (tIsL a ((List.range 5).map fun i => (i + 5) == j))) (gName 1))) (h3 : PS X st3 (tIfS (tOr (tT X.K W errT) (tNot (tB (tIs a true)))) (tS X.K W us) tNext)) (hr : PSs X rest (tS X.K W errS)) :
    PSs X (st1 :: st2 :: st3 :: rest) (tErr X.K a j) := by
  refine PSs.imp (pss_cons h1 (pss_cons h2 (pss_cons h3 hr))) fun D σ H ⟨hs, F, sF, q⟩ => ?_
  subst hs
  refine ⟨rfl, fun l1 n1 => ?_⟩
  refine ⟨_, rfl, rfl, fun l2 n2 => ?_⟩
  have n12 : l1 ≠ l2 := fun z => by rw [← z, upd_same] at n2; cases n2
  refine ⟨l1, l2, _, _, rfl, rfl, .inl (by rw [upd_ne n12, upd_same]), .inl upd_same, by simp only [List.length_map, List.length_range, sizeLine_eq]; omega, fun l3 n3 => ?_⟩
  -- the flags stand in slot 1
  have s1 : Same H (upd H l1 (.lst (((List.range 5).map fun i => i == j).map V.bl))) := upd_same' n1
  have s2 := upd_same' (o := .lst (((List.range 5).map fun i => (i + 5) == j).map V.bl)) n2
  have s3 := upd_same' (o := .lst (((List.range 5).map fun i => i == j).map V.bl ++ ((List.range 5).map fun i => (i + 5) == j).map V.bl)) n3
  have e0 : ∀ b : Addr, H b = none → F b = none := fun b z => sub_none sF z
  have n3' : H l3 = none := by
    cases z : H l3 with
    | none => rfl
    | some o => rw [s2 _ _ (s1 _ _ z)] at n3; cases n3
  have fl : ((List.range 5).map fun i => i == j).map V.bl ++ ((List.range 5).map fun i => (i + 5) == j).map V.bl = ((List.range 10).map fun i => i == j).map V.bl := by rfl
  have sr : SR X.K (errRho j) [some (.ref a), some (.ref l3), none, none] F (upd (upd (upd H l1 (.lst (((List.range 5).map fun i => i == j).map V.bl))) l2 (.lst (((List.range 5).map fun i => (i + 5) == j).map V.bl))) l3 (.lst (((List.range 5).map fun i => i == j).map V.bl ++ ((List.range 5).map fun i => (i + 5) == j).map V.bl))) := by
    refine ⟨fun b u z => s3 _ _ (s2 _ _ (s1 _ _ (sF _ _ z))), rfl, fun i d z => ?_, fun i m b z => ?_, fun i1 i2 m1 b1 m2 b2 c z1 z2 _ _ => ?_⟩
    · match i, z with
      | 0, z => cases z
      | 1, z => cases z
      | 2, z => cases z
      | 3, z => cases z
      | i + 4, z => simp [errRho] at z
    · match i, z with
      | 0, z => cases z
      | 1, z =>
        cases z
        refine ⟨l3, rfl, e0 _ n3', _, upd_same, ?_⟩
        rw [fl]
        have := reps_bls (K := X.K) (F := F) ((List.range 10).map fun i => i == j)
        rw [List.map_map] at this
        exact this
      | 2, z => cases z
      | 3, z => cases z
      | i + 4, z => simp [errRho] at z
    · match i1, z1, i2, z2 with
      | 0, z1, _, _ => cases z1
      | 1, _, 0, z2 => cases z2
      | 1, _, 1, _ => rfl
      | 1, _, 2, z2 => cases z2
      | 1, _, 3, z2 => cases z2
      | 1, _, i + 4, z2 => simp [errRho] at z2
      | 2, z1, _, _ => cases z1
      | 3, z1, _, _ => cases z1
      | i + 4, z1, _, _ => simp [errRho] at z1
  -- nothing is owned at the start: all that was there stays
  have fin : ∀ {ρ' : Rho} {σ' : Sg} {F' H' : Hp}, Go X.K (errRho j) [some (.ref a), some (.ref l3), none, none] F _ ρ' σ' F' H' → FrN F H F' H' := fun {ρ' σ' F' H'} g => by
    have ow : ∀ b o, H b = some o → ¬ Own (errRho j) [some (.ref a), some (.ref l3), none, none] b := fun b o z ⟨i, m, k, z1, z2⟩ => by
      match i, z1 with
      | 0, z1 => cases z1
      | 1, z1 =>
        cases z2
        rw [n3'] at z; cases z
      | 2, z1 => cases z1
      | 3, z1 => cases z1
      | i + 4, z1 => simp [errRho] at z1
    refine ⟨g.sub, fun b o z => (g.keep b o (s3 _ _ (s2 _ _ (s1 _ _ z))) (ow b o z)).1, g.sr.sub, fun b o nt z zn => (g.keep b o (s3 _ _ (s2 _ _ (s1 _ _ z))) (ow b o z)).2.1 nt zn⟩
  refine ⟨errRho j, F, sr, ?_⟩
  rw [errT_at hj.1]
  intro v F2 H2 g2 hv
  subst hv
  rw [if_neg Bool.false_ne_true]
  refine ⟨rfl, _, rfl, ?_⟩
  refine ⟨errRho j, F2, g2.sr, ?_⟩
  rw [errS_at hj]
  intro v σ' F' H' g r
  exact q v F' H' (fin (g2.trans g)) r
section
variable {X : Cx} {a C fe : Addr} {oe : Obj} {j : Nat} {x : Str} {p p1 p2 pos : Pos}
/-- isinstance(e, the class with the number i) -/
theorem pe_isN (i : Nat) (hE : ErrC X.K j C fe) (hns : ∀ x v, PySem.W.nsIn X.K mainGlobals x = some (some v) → X.mg x = some v) (hp : (a, oe) ∈ X.pn) (hz : Zc (.ref C) none oe) (hf : ∃ vs, oe.data = .fields vs) (hi : i < 10) (hx : errNames.getD i "" = x) (hm : X.mg "isinstance" = none)
    (hN : X.N[0]? = some ("e" : Str) := by rfl) (hv : Vis X.env.scope ("e" : Str) := by first | exact Or.inl rfl | exact Or.inr (Or.inl rfl) | exact Or.inr (Or.inr rfl))
    (hg : Gl X "isinstance" := by rfl) (hg2 : Gl X x := by rfl) (hdb : (x == ("__debug__" : Str)) = false := by decide) (he : starEach [.Name "e" p1, .Name x p2] X.env = (false, eval (.Name "e" p1) X.env) :: starEach [.Name x p2] X.env := by rfl)
    (hpl : (backTo pos (starEach [.Name x p2] X.env)).any (·.1) = false := by rfl) : PE X (.Call (.Name "isinstance" p) [.Name "e" p1, .Name x p2] [] pos) (tIs a (i == j)) := by
  have ok := hE.ok
  unfold errB at ok
  simp only [Bool.and_eq_true, decide_eq_true_eq] at ok
  obtain ⟨o1, o2, o3, o4, o5, o6, o7⟩ := ok
  have z := List.all_eq_true.mp o7 i (List.mem_range.mpr hi)
  cases e : clsAt X.K (errNames.getD i "") with
  | none => rw [e] at z; cases z
  | some D =>
    rw [e] at z
    have mC : X.mg x = some (.ref D) := by rw [← hx]; exact hns _ _ (clsAt_ns e)
    exact pe_is0 (call_isP (excCB_ok o4) hp hz hf) hm mC (of_decide_eq_true z) hN hv hg hg2 hdb he hpl
theorem pe_isV (hE : ErrC X.K j C fe) (hp : (a, oe) ∈ X.pn) (hz : Zc (.ref C) none oe) (hf : ∃ vs, oe.data = .fields vs) (hm : X.mg "isinstance" = none) (hm2 : X.mg "ValueError" = none)
    (hN : X.N[0]? = some ("e" : Str) := by rfl) (hv : Vis X.env.scope ("e" : Str) := by first | exact Or.inl rfl | exact Or.inr (Or.inl rfl) | exact Or.inr (Or.inr rfl))
    (hg : Gl X "isinstance" := by rfl) (hg2 : Gl X "ValueError" := by rfl) (he : starEach [.Name "e" p1, .Name "ValueError" p2] X.env = (false, eval (.Name "e" p1) X.env) :: starEach [.Name "ValueError" p2] X.env := by rfl)
    (hpl : (backTo pos (starEach [.Name "ValueError" p2] X.env)).any (·.1) = false := by rfl) : PE X (.Call (.Name "isinstance" p) [.Name "e" p1, .Name "ValueError" p2] [] pos) (tIs a true) := by
  have ok := hE.ok
  unfold errB at ok
  simp only [Bool.and_eq_true, decide_eq_true_eq] at ok
  obtain ⟨o1, o2, o3, o4, o5, o6, o7⟩ := ok
  exact pe_isT (call_isP (excCB_ok o4) hp hz hf) hm hm2 o6 hN hv hg hg2 he hpl
end
/-- what the call of _law_error in a suite promises -/
structure ErrOk (P : Program) (w : World) (K : PySem.W.Frag) (mg : Str → Option Value) (base : Heap) (k : Nat) : Prop where
  ex : ∃ (f : Addr) (fd : FuncData), mg "_law_error" = some (.ref f) ∧ PySem.W.keepIn K (.ref f) = true ∧ Binds K fd ["e"] [] ∧
    ∀ (A : Around) (outer : List Env) (s : Shared) (H : Hp) (args : Args) (us : List Value) (Q : VK) (p : Addr × Obj) (C fe : Addr) (j : Nat), L2H.RoomH k A → L2H.PinOk outer H s p → Env0 P w K mg base A outer s H → BindsTo s fd args ((["e"] : List Str).zip us) → Vals [.ref p.1] us →
      ErrC K j C fe → Zc (.ref C) none p.2 → (∃ vs, p.2.data = .fields vs) → (∃ F, Same F H ∧ ∀ v F' H', FrN F H F' H' → Rep K F' (refD ⟨j, []⟩) v → Q v H') →
      codeAny (model P w) A (.call (.ref f) args) (CR (L2N.CX P w) outer P w H s Q (fun _ _ _ => False)) s
theorem err_of {P : Program} {w : World} {K : PySem.W.Frag} {mg : Str → Option Value} {base : Heap} {st : Stmt} {k : Nat} (d : Df K mg "_law_error" st) (S : FnScope ["e", "flags", "at", "name"] ["e"] (defScope st))
    (hb : ∀ (f : Addr) (fd : FuncData), Fun K "_law_error" "_law_error" st f fd → Binds K fd ["e"] [])
    (hbody : ∀ (f : Addr) (cdv : Value) (A : Around) (outer : List Env) (s : Shared) (H : Hp) (E : XK) (p : Addr × Obj) (C fe : Addr) (j : Nat), L2H.RoomH k (A.deeper (envOfC "_law_error" (defScope st) s.heap.objs.size f cdv)) → ErrC K j C fe → Zc (.ref C) none p.2 → (∃ vs, p.2.data = .fields vs) →
      PSs (L2H.cxH (L2N.CX P w) P w K mg base ["e", "flags", "at", "name"] "_law_error" (defScope st) f cdv A outer s H E p) (defBody st) (tErr K p.1 j)) : ErrOk P w K mg base (k + 1) := by
  obtain ⟨f, fd, Fx, h1, h2⟩ := d.ex
  refine ⟨f, fd, h1, h2, hb f fd Fx, ?_⟩
  obtain ⟨oc, od, kV, doc, pm, an, cdv, ct, osl, rfl, lk, hcd⟩ := Fx.ex
  intro A outer s H args us Q p C fe j hr hpin e0 hb2 r hE hz hf hQ
  have KX : K.In s.heap := e0.mod.kin.keeps fun b o e => (e0.bs b o e).1
  have lim : s.heap.NoLimit := e0.mod.nolimit.keeps fun b o e => (e0.bs b o e).1
  have hkind : ∀ y ∈ (["e"] : List Str).zip us, (defScope st).names.lookup y.1 = some .local ∨ ((defScope st).names.lookup y.1 = some .cell ∧ ((cellsFrom (s.heap.objs.size + 1) (defScope st).names []).lookup y.1).isSome = true) := fun ⟨n, v⟩ hy => by
    rcases S.par n (List.of_mem_zip hy).1 with q | q
    · exact .inl q
    · exact .inr ⟨q, PySem.W.cellsFrom_some _ _ _ (.inl q)⟩
  refine codeAny_call_function hr.depth (KX _ _ lk) rfl S.co S.gen rfl (PySem.W.codeRec_of KX hcd) (hb2 _ _ _ _ ?_)
  refine wpAny_newFunctionEnv_cells S.kind hkind fun env he s1 x => ?_
  subst he
  refine ⟨lim.keeps x.toInCall.keep, codeAny_func ?_⟩
  have ht := hbody f cdv A outer s H (fun _ _ _ => False) p C fe j (hr.deeper _) hE hz hf
  have I : Inv (L2H.cxH (L2N.CX P w) P w K mg base ["e", "flags", "at", "name"] "_law_error" (defScope st) f cdv A outer s H (fun _ _ _ => False) p) [] (L2.start ["e", "flags", "at", "name"] [V.ref p.1]) H s1 := L2H.inv_startH S hpin e0 rfl r x
  refine wpAny_mono (ht.run [] s1 (L2.start ["e", "flags", "at", "name"] [V.ref p.1]) H { nx := fun _ H' => Q .non H', rt := Q } I ⟨rfl, hQ⟩) (fun fl s' hs => ?_) fun e s' hs => hs
  have fin : ∀ {σ' : Sg} {H' : Hp} {v : V} {u : Value}, Inv (L2H.cxH (L2N.CX P w) P w K mg base ["e", "flags", "at", "name"] "_law_error" (defScope st) f cdv A outer s H (fun _ _ _ => False) p) [] σ' H' s' → RelV v u → Q v H' → CE outer P w H s Q u s' :=
    fun {σ' H' v u} J rv q => ⟨v, H', J.os, J.bare, J.base, J.hok, rv, q⟩
  cases fl with
  | ret u =>
    obtain ⟨v, σ', H', J, rv, q⟩ := hs
    exact fin J rv q
  | next =>
    obtain ⟨σ', H', J, q⟩ := hs
    exact fin (v := V.non) (u := Value.none) J rfl q
  | brk =>
    obtain ⟨_, _, _, q⟩ := hs
    exact False.elim q
  | cont =>
    obtain ⟨_, _, _, q⟩ := hs
    exact False.elim q
section
variable {X : Cx} {E : XK} {k i : Nat} {body : List Stmt} {b : Sn} {np p1 p2 p3 p4 pos pos' : Pos}
/-- what the suite asks -/
def tSuite (K : PySem.W.Frag) (i : Nat) (a : Addr) (cls : Value) (d : Option Addr) : TS := fun D σ H => σ[i]? = some (some (.ref a)) ∧ H a = none ∧ d = none ∧ ∃ j C fe, cls = .ref C ∧ ErrC K j C fe ∧ ∃ F, Same F H ∧ ∀ v F' H', FrN F H F' H' → Rep K F' (refD ⟨j, []⟩) v → D.rt v H'
theorem pss_suite (c : ErrOk X.prog X.w X.K X.mg X.base k) (hr : Room k X.A) (hi : X.N[i]? = some ("e" : Str)) (hv : Vis X.env.scope ("e" : Str)) (hg : Gl X "_law_error") {a : Addr} {oe : Obj} {cls : Value} {d : Option Addr} {pn : List (Addr × Obj)} (hz : Zc cls d oe) (hf : ∃ vs, oe.data = .fields vs)
    (he : starEach [.Name "e" p2] X.env = (false, eval (.Name "e" p2) X.env) :: starEach [] X.env := by rfl) :
    PSs (X.suite a ((a, oe) :: pn)) [.Return (some (.Call (.Name "_law_error" p1) [.Name "e" p2] [] p3)) p4] (tSuite X.K i a cls d) := by
  obtain ⟨f, fd, h1, h2, hb, run⟩ := c.ex
  refine pss_one ⟨fun pins s σ H D I ⟨e0, na, ed, j, C, fe, ec, hE, F, sF, q⟩ => ?_⟩
  subst ed ec
  refine wpAny_Return_some ?_
  refine wpAny_Call_Name_kw (ld_glob I hg h1 ?_ (by decide))
  refine PySem.W.callWith_K (h₀ := X.base) I.ok.mod.kin h2 (thn ((pa_cons (pe_var (X := X.suite a ((a, oe) :: pn)) hi hv (by decide)) pa_nil he).run p3 pins s σ H (fun vs H1 => vs = [V.ref a] ∧ H = H1) I ⟨_, e0, rfl, rfl⟩) fun us s1 hh => ?_) he (by rfl)
  obtain ⟨vs, H1, I1, r, ev, eH⟩ := hh
  subst ev eH
  refine ⟨I1.kIn, ?_⟩
  have hl : us.length = 1 := by rw [← r.length]; rfl
  have b := hb s1 us I1.kIn (by rw [List.append_nil]; exact hl)
  rw [List.append_nil] at b
  have P1 := I1.pin (a, oe) (List.mem_append_left _ List.mem_cons_self)
  have hpin : L2H.PinOk (X.suite a ((a, oe) :: pn)).stack H s1 (a, oe) := ⟨P1.1, P1.2.1, fun hm => (List.mem_cons.mp (I1.stkSub a hm)).elim P1.2.2.1 P1.2.2.2.1, P1.2.2.2.2⟩
  refine wpAny_call (codeAny_mono (run _ _ s1 H ⟨us, []⟩ us D.rt (a, oe) C fe j ⟨hr.dp, hr.un⟩ hpin I1.env0 b r hE hz hf ⟨F, sF, q⟩) fun r s' hq => ?_)
  cases r with
  | error e =>
    obtain ⟨_, _, _, _, _, _, _, _, _, _, _, _, z⟩ := hq
    exact z.elim
  | ok fl =>
    cases fl with
    | ret u =>
      obtain ⟨v, H', J, rv, q'⟩ := I1.after hq
      exact ⟨v, σ, H', J, rv, q'⟩
    | next => exact False.elim hq
    | brk => exact False.elim hq
    | cont => exact False.elim hq
theorem ds_told (c : ErrOk X.prog X.w X.K X.mg X.base k) (hr : Room k X.A) (i : Nat) (hN : X.N.Nodup) (tk : L2N.Takes X (fun cls d _ H => E cls d H)) (hns : ∀ x v, PySem.W.nsIn X.K mainGlobals x = some (some v) → X.mg x = some v)
    (hb : ∀ (E' : XK) (pn : List (Addr × Obj)) (xe : Value → Shared → Prop), L2N.Takes (X.tr pn xe) (fun c d _ H => E' c d H) → PSs (X.tr pn xe) body (tS X.K ⟨xrE X.K, E'⟩ b)) (hbase : (clsAt X.K "FieldError").isSome = true)
    (hi : X.N[i]? = some ("e" : Str) := by rfl) (hln : X.env.kindOf "e" = some .local := by rfl) (hs : X.stack = X.env :: X.outer := by rfl) (hf : X.env.frame = some X.env.locals := by rfl) (hg : Gl X "_law_error" := by rfl) (hg2 : Gl X "FieldError" := by rfl)
    (he : starEach [.Name "e" p2] X.env = (false, eval (.Name "e" p2) X.env) :: starEach [] X.env := by rfl) :
    PS X (.Try body [.ExceptHandler (some (.Name "FieldError" np)) (some "e") [.Return (some (.Call (.Name "_law_error" p1) [.Name "e" p2] [] p3)) p4] pos'] [] [] pos) (tS X.K ⟨xrE X.K, E⟩ (sTry b refD)) := by
  obtain ⟨fe, hfe⟩ := Option.isSome_iff_exists.mp hbase
  have hc : Names X "FieldError" (.ref fe) := ⟨hg2, by decide, .inl (hns _ _ (clsAt_ns hfe))⟩
  refine PS.imp (L2N.ps_try_as (c := .ref fe) (i := i) (Wout := fun cls d _ H => E cls d H) (tb := fun W' => tS X.K ⟨xrE X.K, fun c d H => ∀ σ : Sg, σ.length = X.N.length → W' c d σ H⟩ b) (ts := tSuite X.K i) hs hf hN hi hln hc tk
    (fun W' pn xe tw _ => hb _ pn xe ?_) (fun a oe cls d pn hz hd => pss_suite c hr hi (.inl hln) hg hz.zc hd he)) fun D σ H ⟨ρ, F, s, q⟩ => ?_
  · exact fun u s' ⟨a, B, sI, pins, σ, H, cls, d, e, I, nb, up, sky, na, os, ag, w⟩ => tw u s' ⟨a, B, sI, pins, σ, H, cls, d, e, I, nb, up, sky, na, os, ag, w σ I.len⟩
  · refine ⟨ρ, F, s, ?_⟩
    unfold sTry at q
    cases hbr : b ρ with
    | ex x ρ1 =>
      rw [hbr] at q
      intro cc dx σ' F' H' g z σ1 hl1
      obtain ⟨zp, zd, C, fe', T, zc⟩ := z
      have hfe' : fe' = fe := by have := T.base; rw [hfe] at this; cases this; rfl
      subst hfe' zc
      have ok := T.ok
      unfold errB at ok
      simp only [Bool.and_eq_true, decide_eq_true_eq] at ok
      obtain ⟨o1, o2, o3, o4, o5, o6, o7⟩ := ok
      refine ⟨true, o5, fun _ a na => ?_, fun y => by cases y⟩
      have hil : i < σ1.length := by rw [hl1]; exact (List.getElem?_eq_some_iff.mp hi).1
      refine ⟨by rw [List.getElem?_set_self hil], na, zd, x.cls, C, fe', rfl, T, F', g.sr.sub, fun v F2 H2 f r => ?_⟩
      have ex : (⟨x.cls, []⟩ : Xn) = x := by cases x; simp only at zp; subst zp; rfl
      rw [ex] at r
      exact q v σ' F2 H2 (g.trans (f.go g.sr)) r
    | next _ => rw [hbr] at q; exact q
    | ret _ _ => rw [hbr] at q; exact q
    | new _ _ => rw [hbr] at q; exact q
    | brk _ => rw [hbr] at q; exact q
    | cnt _ => rw [hbr] at q; exact q
    | no => rw [hbr] at q; exact q
end
theorem roomU {A : Around} (hr : L2H.RoomH 0 A) : A.units + 64 < cLine := by have := hr.un; omega
/-! ### steps -/
section
variable {j : Nat} {e : Dn} {b : Sn} {h : Xn → D} {ρ : Rho} {x : Xn} {d : D} {m : Mo}
def raiK (j : Nat) : RE D → RS
  | .ok _ ρ1 => .ex ⟨j, []⟩ ρ1
  | .ex x ρ1 => .ex x ρ1
  | .no => .no
def tryK (h : Xn → D) : RS → RS
  | .ex x ρ1 => .ret (h x) ρ1
  | r => r
theorem ev_sRaise : sRaise j e ρ = raiK j (e ρ) := by unfold sRaise raiK; cases e ρ <;> rfl
theorem ev_raiK : raiK j (.ok d ρ) = .ex ⟨j, []⟩ ρ := rfl
theorem ev_sTry : sTry b h ρ = tryK h (b ρ) := by unfold sTry tryK; cases b ρ <;> rfl
theorem ev_seqX {s : Sn} : seqR (.ex x ρ) s = .ex x ρ := rfl
theorem ev_appX {ins : List LV} : appR ins (.ex x ρ) = outK (.ex x) (outsOf ins ρ) := rfl
def backX (x : Xn) : Option Rho → RE D
  | some ρ2 => .ex x ρ2
  | none => .no
theorem ev_backX : backX x (some ρ) = .ex x ρ := rfl
theorem ev_callX {hs : List Hd} {ins : List LV} {outs : List Mo} : callR (.ex x outs) ins hs ρ = backX x ((setOuts ins outs).bind fun l => putBack hs l ρ) := by
  show (match (setOuts ins outs).bind fun l => putBack hs l ρ with | some ρ2 => RE.ex x ρ2 | none => RE.no) = _
  cases (setOuts ins outs).bind fun l => putBack hs l ρ <;> rfl
theorem ev_bindX {α β : Type} {f : α → Rho → RE β} : (RE.ex x ρ).bind f = .ex x ρ := rfl
theorem ev_stX {α : Type} {f : α → Rho → RS} : (RE.ex x ρ).st f = .ex x ρ := rfl
theorem ev_tryK_ex : tryK h (.ex x ρ) = .ret (h x) ρ := rfl
theorem ev_tryK_ret : tryK h (.ret d ρ) = .ret d ρ := rfl
theorem ev_tryK_new : tryK h (.new m ρ) = .new m ρ := rfl
theorem ev_tryK_next : tryK h (.next ρ) = .next ρ := rfl
end
end Ft
/-! Ft33: dict comprehensions whose keys are tuples; a dict put into a dict. -/
namespace Ft
open PySem L2 PySem.Spec PyProof.Rows
section
variable {X : Cx}
theorem put_tup {pins : List (Addr × Obj)} {σ : Sg} {H : Hp} {s : Shared} {E : Value → Shared → Prop} {D b : Addr} {kvs : List (List Key × V)} {k : List Key} {v : V} {r : Value} {Q : Unit → Shared → Prop} (room : X.A.units < cLine) (I : Inv X pins σ H s)
    (eD : H D = some (.dT kvs)) (eb : H b = some (.tup (k.map kV))) (sz : kvs.length < sizeLine) (rv : RelV v r) (go : ∀ s', Inv X pins σ (upd H D (.dT (putK kvs k v))) s' → Q () s') : wpAny (model X.prog X.w) X.A (dictSet D (.ref b) r) Q E s := by
  obtain ⟨n1, n2, ys, rel, tab⟩ := dt_of I.hok eD
  have le1 : ys.length ≤ sizeLine := by rw [← Paired.length rel]; exact n1
  have le2 : (putK kvs k v).length ≤ sizeLine := Nat.le_trans (length_putK kvs k v) sz
  refine wpAny_dictSet_heap (hsz := le1) (knd := tupleKind (mixKind X.prog X.w)) room (key_of I.hok eb) tab fun hp tab' same => go _ ?_
  obtain ⟨ob, es, ep, g1, g2, g3, g4, _, g5⟩ := tab'
  refine d_write I (by rw [eD]; trivial) same ⟨ob, g1⟩ ⟨le2, n2, _, KT.keeps (rel.put k eb rv) (fun c zs ec => (upd_ne (fun z => by rw [z, eD] at ec; cases ec)).trans ec), ob, es, ep, g1, g2, g3, g4, g5⟩
/-- {k: v for target in iter if ..}, keys tuples: D the new dict -/
def tDcT (wi : TI) (g : TG) (tt : TT) (tk tv : TE) (vs : List Nat) : TE := fun σ H Q => wi σ H fun J H1 => ∀ D, H1 D = none → ∃ W : Nat → Nat → Hp → Prop, (∃ m, W 0 m (upd H1 D (.dT []))) ∧ ∀ i m H, W i m H →
  (J.stop i H ∧ Q (.ref D) H) ∨ (J.go i H ∧ ∃ Nx : Hp → Prop, (∀ H', Nx H' → ∃ m', m' < m ∧ W (i + 1) m' H') ∧ ∀ x H', J.yld i H x H' → g x (wipe σ vs) H' fun σ2 H2 => wipe σ2 vs = wipe σ vs ∧ tt σ2 H2 fun b H3 =>
    if b = true then tk σ2 H3 fun y H4 => tv σ2 H4 fun z H5 => ∃ kvs k c, y = .ref c ∧ H5 c = some (.tup (k.map kV)) ∧ H5 D = some (.dT kvs) ∧ kvs.length < sizeLine ∧ Nx (upd H5 D (.dT (putK kvs k z))) else Nx H3)
theorem dcT_run {pins : List (Addr × Obj)} {s : Shared} {σ : Sg} {H : Hp} {Q : VK} {kx vx tg iter : Expr} {ifs : List Expr} {scope : Scope} {own : List (Str × Nat)} {pos pos' : Pos} {wi : TI} {g : TG} {tt : TT} {tk tv : TE} {use : Option (Value → Sem Unit)} {Qf : Value → Shared → Prop} (room : X.A.units < cLine)
    (calm : X.calm = true) (nod : X.N.Nodup) (I : Inv X pins σ H s) (hi : PI X tg iter wi) (ok : BlkOk X.N X.env.scope scope own) (hg : ∀ (t : Shared) (G : Hp) (C : Addr) (cl : List (Str × Addr)) (fp : List Addr), PG (X.blk t G scope (compEnvC scope cl C X.env) fp) tg g)
    (ht : ∀ (t : Shared) (G : Hp) (C : Addr) (cl : List (Str × Addr)) (fp : List Addr), PTs (X.blk t G scope (compEnvC scope cl C X.env) fp) ifs tt) (hk : ∀ (t : Shared) (G : Hp) (C : Addr) (cl : List (Str × Addr)) (fp : List Addr), PE (X.blk t G scope (compEnvC scope cl C X.env) fp) kx tk)
    (he : ∀ (t : Shared) (G : Hp) (C : Addr) (cl : List (Str × Addr)) (fp : List Addr), PE (X.blk t G scope (compEnvC scope cl C X.env) fp) vx tv) (hs : ∀ x, foldedSetIterable iter X.env x = pure x) (h : tDcT wi g tt tk tv (own.map (·.2)) σ H Q)
    (fin : ∀ D C t m G, Inv X pins σ G t → Q (.ref D) G → t.heap.Ns C m → FpOk X pins G C → compPost (model X.prog X.w) X.A X.xe use Qf (.ref D) C (.ok .next) t) :
    wpAny (model X.prog X.w) X.A (comprehension (.DictComp kx vx [⟨tg, iter, ifs, 0⟩] scope pos) scope X.env pos' newDict false (eval iter X.env) use) Qf X.xe s := by
  have free : ∀ y ∈ scope.names, y.2 = .free → ∃ c, X.env.cells.lookup y.1 = some c := fun y hy e => (ok.free y hy e).elim (fun k => I.ok.has _ (.inl k)) fun k => I.ok.has _ (.inr k)
  refine wpAny_comprehension_free (use := use) rfl hs (closure_ok free) ok.kind (fun y hy e => by rw [ok.uniq y hy, e]) (thn (hi.run pins s σ H _ I h) fun xv s1 hx => thn hx fun itv s2 back => ?_)
  obtain ⟨it, fp, tn, J, H2, rfl, I2, T, st2, f2, q⟩ := back
  refine wpAny_newObj_type (newEnv_comp ?_)
  generalize eqD : s2.heap.objs.size = D
  have noD : H2 D = none := I2.hok.fresh (Nat.le_of_eq eqD)
  obtain ⟨W, ⟨m0, w0⟩, turn⟩ := q D noD
  generalize eq3 : ({ s2 with heap := s2.heap.push { cls := .type "dict", data := .dict #[] } } : Shared) = s3
  have hp3 : s3.heap = s2.heap.push { cls := .type "dict", data := .dict #[] } := by rw [← eq3]
  have I3 : Inv X pins σ (upd H2 D (.dT [])) s3 := by
    subst eq3 eqD
    exact I2.laid (t' := s2.toks) (fun b o e => Heap.get?_push_of_some _ e) (Nat.le_refl _) (dt_empty s2.heap I2.big)
  have lts : ∀ b ∈ fp, b < s2.heap.objs.size := fun b hb => (T.obj _ _ st2 b hb).elim fun o e => Heap.lt_size e.1
  have f3 : ∀ b ∈ fp, FpOk X pins (upd H2 D (.dT [])) b ∧ b < s3.heap.objs.size := fun b hb => by
    have lt := lts b hb
    refine ⟨⟨(upd_ne (by rw [← eqD]; exact Nat.ne_of_lt lt)).trans (f2 b hb).1, (f2 b hb).2⟩, ?_⟩
    rw [hp3, Heap.size_push]; exact Nat.lt_succ_of_lt lt
  have st3 : tn 0 s3.heap := T.keep _ _ _ st2 fun b _ o e => by rw [hp3]; exact Heap.get?_push_of_some _ e
  have I4 := block_start I3 ok nod f3
  generalize hcl : cellsFrom (s3.heap.objs.size + 1) scope.names (cloFrom X.env.cells scope.names []) = cl at I4
  have pg := hg s3 (upd H2 D (.dT [])) s3.heap.objs.size cl fp
  have pt := ht s3 (upd H2 D (.dT [])) s3.heap.objs.size cl fp
  have pk := hk s3 (upd H2 D (.dT [])) s3.heap.objs.size cl fp
  have pe := he s3 (upd H2 D (.dT [])) s3.heap.objs.size cl fp
  show codeAny _ _ (.compStart (.DictComp kx vx [⟨tg, iter, ifs, 0⟩] scope pos) 0 (.ref it) (.ref D) (compEnvC scope cl s3.heap.objs.size X.env)) (compPost (model X.prog X.w) X.A X.xe use Qf (.ref D) s3.heap.objs.size) { s3 with heap := pushCells (s3.heap.push { cls := .type "dict", data := .dict #[] }) scope.names }
  have nfp : ∀ b ∈ fp, (upd H2 D (.dT [])) b = none := fun b hb => (f3 b hb).1.1
  generalize hce : compEnvC scope cl s3.heap.objs.size X.env = ce at I4 pg pt pk pe ⊢
  have cL : ce.locals = s3.heap.objs.size := by subst hce; rfl
  generalize upd H2 D (.dT []) = H3 at I3 I4 pg pt pk pe w0 nfp f3
  generalize hs4 : ({ s3 with heap := pushCells (s3.heap.push { cls := .type "dict", data := .dict #[] }) scope.names } : Shared) = s4 at I4 ⊢
  have st4 : tn 0 s4.heap := T.keep _ _ _ st3 fun b _ o e => by subst hs4; exact pushCells_keeps _ _ _ _ (Heap.get?_push_of_some _ e)
  have stat : ∀ {σ' : Sg} {G : Hp} {t : Shared}, Inv (X.blk s3 H3 scope ce fp) [] σ' G t → (∀ b ∈ fp, G b = none) → ∀ b ∈ fp, FpOk (X.blk s3 H3 scope ce fp) [] G b := fun {σ' G t} J' hn b hb =>
    ⟨hn b hb, (J'.ok.exf b hb).1, J'.ok.exfs b hb, .inl hb, fun x c e => (J'.ok.exf b hb).2 x c e, fun p hp => absurd (show p ∈ ([] : List (Addr × Obj)) ++ [] from hp) (by simp)⟩
  have loop : codeAny (model X.prog X.w) X.A (.compLoop (.DictComp kx vx [⟨tg, iter, ifs, 0⟩] scope pos) 0 (.ref it) (.ref D) ce) (compPost (model X.prog X.w) X.A X.xe use Qf (.ref D) s3.heap.objs.size) s4 := by
    refine compLoop_anyD (fun n t => ∃ i G, Inv (X.blk s3 H3 scope ce fp) [] (wipe σ (own.map (·.2))) G t ∧ tn i t.heap ∧ (∀ b ∈ fp, G b = none) ∧ W i n G) ?_ m0 ⟨0, H3, I4, st4, nfp, w0⟩
    rintro n s5 ⟨i, H5, I5, st5, n5, w5⟩
    rcases turn i n H5 w5 with ⟨stop, qq⟩ | ⟨more, Nx, hNx, step⟩
    · refine thnF (T.done (X.blk s3 H3 scope ce fp) rfl rfl rfl calm i [] s5 _ H5 (fun _ _ => False) I5 (stat I5 n5) st5 stop) fun r s6 ⟨hr, I6⟩ => ?_
      subst hr
      have I7 : Inv X pins σ H5 s6 := I3.call' (ch := fp) I6.os I6.base I6.hok I6.bare fun b hb => ⟨(f3 b hb).1.2.2.2.1, (f3 b hb).1.2.1, (f3 b hb).1.2.2.2.2.1, (f3 b hb).1.2.2.2.2.2⟩
      have nC : H5 ce.locals = none := I6.free
      obtain ⟨m, hn, _⟩ := I6.loc
      have hn : s6.heap.Ns ce.locals m := hn
      rw [cL] at hn nC
      exact fin D s3.heap.objs.size s6 m H5 I7 qq hn (I3.fpOk (Nat.le_refl _) nC)
    · refine thnF (T.item (X.blk s3 H3 scope ce fp) rfl rfl rfl calm i [] s5 _ H5 (fun _ _ => False) I5 (stat I5 n5) st5 more) fun r s6 ⟨u, hr, h6⟩ => ?_
      subst hr
      refine thnF h6 fun _ s7 ⟨x, H7, I7, r7, y7, st7, n7⟩ => ?_
      refine thnF (pg.run _ s7 _ H7 x u _ (I7.pinned (stat I7 n7) (T.obj _ _ st7)) r7 (step x H7 y7)) fun _ s8 ⟨σ8, H8, I8, hw8, q8⟩ => thnF (pt.run _ s8 σ8 H8 _ I8 q8) fun b s9 ⟨H9, I9, q9⟩ => ?_
      have close : ∀ {t : Shared} {G : Hp}, Inv (X.blk s3 H3 scope ce fp) ([] ++ pinsAt fp s7.heap) σ8 G t → Nx G → ∃ m, m < n ∧ ∃ i G, Inv (X.blk s3 H3 scope ce fp) [] (wipe σ (own.map (·.2))) G t ∧ tn i t.heap ∧ (∀ b ∈ fp, G b = none) ∧ W i m G := fun {t G} I' nx => by
        obtain ⟨m', hm, w'⟩ := hNx G nx
        have pin : ∀ b ∈ fp, ∀ o, s7.heap.get? b = some o → t.heap.get? b = some o ∧ G b = none := fun b hb o e => ⟨(I'.pin (b, o) (List.mem_append_right _ (List.mem_append_right _ (mem_pinsAt hb e)))).1, (I'.pin (b, o) (List.mem_append_right _ (List.mem_append_right _ (mem_pinsAt hb e)))).2.1⟩
        refine ⟨m', hm, i + 1, G, (I'.unpinned (pins := [])).weak (by rw [← hw8, wipe_length]) (fun j v e => ?_), T.keep _ _ _ st7 fun b hb o e => (pin b hb o e).1, fun b hb => (T.obj _ _ st7 b hb).elim fun o e => (pin b hb o e.1).2, w'⟩
        rw [← hw8] at e
        exact (wipe_some e).1
      cases b with
      | false => exact close I9 (by simpa using q9)
      | true =>
        have q9 := (if_pos rfl).mp q9
        rw [if_pos rfl]
        refine thnF (pk.run _ s9 σ8 H9 _ I9 q9) fun z s10 ⟨yk, H10, I10, r10, q10⟩ => thnF (pe.run _ s10 σ8 H10 _ I10 q10) fun z2 s11 ⟨yv, H11, I11, r11, kvs, k, c, ek, ec, eD, sz, nx⟩ => ?_
        subst ek
        obtain rfl : z = Value.ref c := r10
        exact put_tup (X := X.blk s3 H3 scope ce fp) room I11 eD ec sz r11 fun s12 I12 => close I12 nx
  exact codeAny_compStart_dict loop (T.self X.A 0 _ _ _ st4 loop)
theorem pe_dcT {kx vx tg iter : Expr} {ifs : List Expr} {scope : Scope} {own : List (Str × Nat)} {pos : Pos} {wi : TI} {g : TG} {tt : TT} {tk tv : TE} (room : X.A.units < cLine) (calm : X.calm = true) (nod : X.N.Nodup) (hi : PI X tg iter wi) (ok : BlkOk X.N X.env.scope scope own)
    (hg : ∀ (t : Shared) (G : Hp) (C : Addr) (cl : List (Str × Addr)) (fp : List Addr), PG (X.blk t G scope (compEnvC scope cl C X.env) fp) tg g) (ht : ∀ (t : Shared) (G : Hp) (C : Addr) (cl : List (Str × Addr)) (fp : List Addr), PTs (X.blk t G scope (compEnvC scope cl C X.env) fp) ifs tt)
    (hk : ∀ (t : Shared) (G : Hp) (C : Addr) (cl : List (Str × Addr)) (fp : List Addr), PE (X.blk t G scope (compEnvC scope cl C X.env) fp) kx tk)
    (he : ∀ (t : Shared) (G : Hp) (C : Addr) (cl : List (Str × Addr)) (fp : List Addr), PE (X.blk t G scope (compEnvC scope cl C X.env) fp) vx tv) (hs : ∀ x, foldedSetIterable iter X.env x = pure x := by intro _; rfl) :
    PE X (.DictComp kx vx [⟨tg, iter, ifs, 0⟩] scope pos) (tDcT wi g tt tk tv (own.map (·.2))) := by
  refine ⟨fun pins s σ H Q I h => ?_⟩
  rw [arm_eval_DictComp]
  refine dcT_run room calm nod I hi ok hg ht hk he hs h fun D C t m G I' q hn f => ⟨m, hn, fun h2 sb => ?_⟩
  obtain ⟨f0, f1, f2, f3, f4, f5⟩ := f
  exact ⟨.ref D, G, I'.turned (t' := t.toks) (fun b o hb e => (sb.2 b hb).trans e) f0 f1 f3 f4 f5, rfl, q⟩
end
/-! ### as combinators -/
def compDT (bd : Bd) (ifs : Tn) (key elt : Dn) (vs : List Nat) : List D → List (D × D) → Rho → RE (List (D × D))
  | [], acc, ρ => .ok acc ρ
  | d :: l, acc, ρ => match bd d ρ with
    | none => .no
    | some ρ1 => match ifs ρ1 with
      | .ok false ρ2 => compDT bd ifs key elt vs l acc (wipeR ρ2 vs)
      | .ok true ρ2 => match key ρ2 with
        | .ok y ρ3 => match elt ρ3 with
          | .ok x ρ4 => match keysD y with
            | some k => if acc.length < sizeLine then compDT bd ifs key elt vs l (pT acc k x) (wipeR ρ4 vs) else .no
            | none => .no
          | _ => .no
        | _ => .no
      | _ => .no
def fCompDT (src : In) (bd : Bd) (ifs : Tn) (key elt : Dn) (vs : List Nat) : Fn := fun ρ => (src ρ).bind fun l ρ1 => match compDT bd ifs key elt vs l [] (wipeR ρ1 vs) with
  | .ok r ρ2 => .ok (.dT r) (restore ρ1 ρ2 vs)
  | _ => .no
section
variable {X : Cx} {W : Wt} {tg e e2 e3 : Expr} {d d2 : Dn} {pos p : Pos} {v : Vn} {es : List Expr} {t : Tn}
theorem compDT_tail {bd : Bd} {ts vs : List Nat} {ifs : Tn} {key elt : Dn} {g : TG} {σ : Sg} {H1 : Hp} {Q : VK} {J : It} {l : List D} {ρ1 : Rho} {F1 : Hp} (hr : TgR X.K g bd ts) (sub : ∀ i ∈ ts, i ∈ vs) (s1 : SR X.K ρ1 σ F1 H1) (wk : Walk X.K J l F1)
    (q1 : AfF X.K W ρ1 σ F1 H1 Q (match compDT bd ifs key elt vs l [] (wipeR ρ1 vs) with | .ok r ρ2 => .ok (.dT r) (restore ρ1 ρ2 vs) | _ => .no)) :
    tDcT (fun _ H R => R J H) g (tT X.K ⟨W.xr, E0⟩ ifs) (tE X.K ⟨W.xr, E0⟩ key) (tE X.K ⟨W.xr, E0⟩ elt) vs σ H1 Q := by
  intro D hD
  have h0 : ∀ j ∈ vs, ∀ m, (wipeR ρ1 vs)[j]? ≠ some (.own m false) := fun j hj m e => by have := wipeR_in hj _ e; cases this
  have noD : ¬ Own ρ1 σ D := fun z => by
    obtain ⟨o, eo⟩ := z.there s1
    rw [hD] at eo; cases eo
  have FD : F1 D = none := sub_none s1.sub hD
  refine ⟨fun i m H' => ∃ ρb Fb acc, Go X.K (wipeR ρ1 vs) (wipe σ vs) F1 H1 ρb (wipe σ vs) Fb H' ∧ OwnAt X.K Fb H' D (.dT acc) ∧ ¬ Own ρb (wipe σ vs) D ∧ i ≤ l.length ∧ m = l.length - i ∧
      AfF X.K W ρ1 σ F1 H1 Q (match compDT bd ifs key elt vs (l.drop i) acc ρb with | .ok r ρ2 => .ok (.dT r) (restore ρ1 ρ2 vs) | _ => .no),
    ⟨l.length, wipeR ρ1 vs, F1, [], (Go.refl s1.wipe).grow hD FD fun z => noD (own_wipe z), ⟨FD, [], upd_same, rfl, by simp [RepP]⟩, fun z => noD (own_wipe z), Nat.zero_le _, rfl, q1⟩, ?_⟩
  rintro i m H2 ⟨ρb, Fb, acc, gb, ob, nb, hi, rfl, q2⟩
  by_cases hl : i < l.length
  · obtain ⟨go, yd⟩ := wk.go i Fb H2 gb.sub gb.sr.sub hl
    refine .inr ⟨go, fun H' => ∃ ρb Fb acc, Go X.K (wipeR ρ1 vs) (wipe σ vs) F1 H1 ρb (wipe σ vs) Fb H' ∧ OwnAt X.K Fb H' D (.dT acc) ∧ ¬ Own ρb (wipe σ vs) D ∧
      AfF X.K W ρ1 σ F1 H1 Q (match compDT bd ifs key elt vs (l.drop (i + 1)) acc ρb with | .ok r ρ2 => .ok (.dT r) (restore ρ1 ρ2 vs) | _ => .no), fun H' ⟨a1, a2, a3, a4, a5, a6, a7⟩ => ⟨l.length - (i + 1), by omega, a1, a2, a3, a4, a5, a6, hl, rfl, a7⟩, fun x H3 y => ?_⟩
    obtain ⟨F3, dd, f, hd, r⟩ := yd x H3 y
    have g3 := gb.trans (f.go gb.sr)
    have hd' : l.drop i = dd :: l.drop (i + 1) := by
      obtain ⟨h1, h2⟩ := List.getElem?_eq_some_iff.mp hd
      rw [← h2]; exact List.drop_eq_getElem_cons h1
    rw [hd'] at q2
    unfold compDT at q2
    cases hb : bd dd ρb with
    | none => rw [hb] at q2; exact q2.elim
    | some ρ4 =>
      simp only [hb] at q2
      refine hr _ _ _ _ _ _ _ _ g3.sr r hb fun σ4 g4 kp => ?_
      have we := wipe_keep kp sub
      obtain ⟨o3, n3⟩ := OwnAt.go ((f.go gb.sr).trans g4) ob nb
      have g5 := g3.trans g4
      refine ⟨we, ρ4, F3, g4.sr, ?_⟩
      cases hif : ifs ρ4 with
      | no => simp only [hif] at q2; exact q2.elim
      | ex x ρ5 => simp only [hif] at q2; exact q2.elim
      | ok b ρ5 =>
        intro b' F5 H5 g6 eb
        subst eb
        obtain ⟨o5, n5⟩ := OwnAt.go g6 o3 n3
        cases b' with
        | false =>
          simp only [hif] at q2
          rw [if_neg Bool.false_ne_true]
          exact ⟨wipeR ρ5 vs, F5, acc, (g5.trans g6).wiped we h0, o5, fun z => n5 (own_wipe (vs := vs) (by rw [we]; exact z)), q2⟩
        | true =>
          simp only [hif] at q2
          rw [if_pos rfl]
          refine ⟨ρ5, F5, g6.sr, ?_⟩
          cases hke : key ρ5 with
          | no => simp only [hke] at q2; exact q2.elim
          | ex x ρ6 => simp only [hke] at q2; exact q2.elim
          | ok y ρ6 =>
            intro yv F6 H6 g7 ry
            obtain ⟨o6, n6⟩ := OwnAt.go g7 o5 n5
            simp only [hke] at q2
            refine ⟨ρ6, F6, g7.sr, ?_⟩
            cases hel : elt ρ6 with
            | no => simp only [hel] at q2; exact q2.elim
            | ex x ρ7 => simp only [hel] at q2; exact q2.elim
            | ok x ρ7 =>
              intro zv F7 H7 g8 rz
              obtain ⟨o7, n7⟩ := OwnAt.go g8 o6 n6
              obtain ⟨fD, es, eD, eq, rD⟩ := o7
              simp only [hel] at q2
              cases hk : keysD y with
              | none => simp only [hk] at q2; exact q2.elim
              | some k =>
                simp only [hk] at q2
                by_cases hz : acc.length < sizeLine
                · rw [if_pos hz] at q2
                  have rg : RG tD X.K F7 acc es := (rg_iff tD).mpr ⟨eq, rD⟩
                  have rp := RG.put tD keysD keysD_tD (k := k) rg rz
                  obtain ⟨h1, h2⟩ := (rg_iff tD).mp rp
                  rw [keysD_at hk] at ry
                  obtain ⟨c, rfl, hc⟩ := rep_tD (Rep.mono g8.sub _ _ ry)
                  refine ⟨es, k, c, rfl, g8.sr.sub _ _ hc, eD, by rw [← rg.len]; exact hz, wipeR ρ7 vs, F7, pT acc k x, ?_, ⟨fD, _, upd_same, h1, h2⟩, fun z => n7 (own_wipe (vs := vs) (by rw [we]; exact z)), q2⟩
                  exact ((((g5.trans g6).trans g7).trans g8).wiped we h0).grow hD fD fun z => n7 (own_wipe (vs := vs) (by rw [we]; exact z))
                · rw [if_neg hz] at q2; exact q2.elim
  · refine .inl ⟨wk.stop i Fb H2 gb.sub gb.sr.sub (by omega), ?_⟩
    rw [List.drop_eq_nil_of_le (by omega)] at q2
    obtain ⟨g2, o2⟩ := Go.unwipe s1 gb
    exact q2 D Fb H2 g2 ob hD fun z => (o2 D z).elim nb noD
theorem df_compDT {kx elt iter : Expr} {ifs : List Expr} {scope : Scope} {src : In} {bd : Bd} {ts vs : List Nat} {tn : Tn} {dk de : Dn} (hu : X.A.units + 1 < cLine) (own : List (Str × Nat)) (hv : vs = own.map (·.2)) (hc : X.calm = true) (hN : X.N.Nodup) (hi : PI X tg iter (tI X.K W src)) (ok : BlkOk X.N X.env.scope scope own)
    (hg : ∃ g, (∀ (s : Shared) (H : Hp) (C : Addr) (cl : List (Str × Addr)) (fp : List Addr), PG (X.blk s H scope (compEnvC scope cl C X.env) fp) tg g) ∧ TgR X.K g bd ts) (sub : ∀ i ∈ ts, i ∈ vs)
    (ht : ∀ (s : Shared) (H : Hp) (C : Addr) (cl : List (Str × Addr)) (fp : List Addr), PTs (X.blk s H scope (compEnvC scope cl C X.env) fp) ifs (tT X.K ⟨W.xr, E0⟩ tn))
    (hk : ∀ (s : Shared) (H : Hp) (C : Addr) (cl : List (Str × Addr)) (fp : List Addr), PE (X.blk s H scope (compEnvC scope cl C X.env) fp) kx (tE X.K ⟨W.xr, E0⟩ dk))
    (he : ∀ (s : Shared) (H : Hp) (C : Addr) (cl : List (Str × Addr)) (fp : List Addr), PE (X.blk s H scope (compEnvC scope cl C X.env) fp) elt (tE X.K ⟨W.xr, E0⟩ de))
    (hs : ∀ x, foldedSetIterable iter X.env x = pure x := by intro _; rfl) :
    PE X (.DictComp kx elt [⟨tg, iter, ifs, 0⟩] scope pos) (tF X.K W (fCompDT src bd tn dk de vs)) := by
  obtain ⟨g, hg, hr⟩ := hg
  subst hv
  refine PE.imp (pe_dcT (by omega) hc hN hi ok hg ht hk he hs) fun σ H Q q => ?_
  obtain ⟨ρ, F, s, q⟩ := q
  exact AfF.bind s q fun l J ρ1 F1 H1 g1 wk q1 => compDT_tail hr sub g1.sr wk q1
end
/-! ### update -/
def mrgK (ks ls : List (List Key × V)) : List (List Key × V) := ls.foldl (fun acc p => putK acc p.1 p.2) ks
theorem mrgK_len : ∀ ls ks : List (List Key × V), (mrgK ks ls).length ≤ ks.length + ls.length
  | [], ks => Nat.le_refl _
  | p :: ls, ks => by
    have := mrgK_len ls (putK ks p.1 p.2)
    have := length_putK ks p.1 p.2
    show (mrgK (putK ks p.1 p.2) ls).length ≤ _
    rw [List.length_cons]; omega
theorem KT.mrg {H : Hp} : ∀ {ls : List (List Key × V)} {ys : List (List Key × Addr × Value)} {ks : List (List Key × V)} {xs : List (List Key × Addr × Value)}, KT H ls ys → KT H ks xs → KT H (mrgK ks ls) (storedAllH xs ys) := by
  intro ls ys ks xs r
  induction r generalizing ks xs with
  | nil => intro q; exact q
  | @cons p q ps qs h t ih =>
    intro r0
    have e : KT H (putK ks p.1 p.2) (storedH xs q.1 q.2.1 q.2.2) := by
      rw [← h.1]
      exact KT.put r0 p.1 h.2.1 h.2.2
    exact ih e
/-- the hashes of the keys are apart, in every world -/
def Apart (P : Program) (w : World) (ls : List (List Key × V)) : Prop := (ls.map fun x => tupleKeyHash (mixKind P w) x.1).Nodup
def tUpdT (P : Program) (w : World) (td ty : TE) : TE := fun σ H Q => td σ H fun x H1 => ∃ a, x = .ref a ∧ IsD H1 a ∧ ty σ H1 fun y H2 => ∃ b ks ls, y = .ref b ∧ a ≠ b ∧ H2 a = some (.dT ks) ∧ H2 b = some (.dT ls) ∧ ks.length + ls.length ≤ sizeLine ∧ (ks = [] → Apart P w ls) ∧ Q .non (upd H2 a (.dT (mrgK ks ls)))
section
variable {X : Cx} {o e : Expr} {td ty : TE} {apos cpos : Pos}
theorem pe_updT (hu : X.A.units + 1 < cLine) (ho : PE X o td) (he : PE X e ty) (m : M1 X o "update" apos e cpos) : PE X (.Call (.Attribute o "update" apos) [e] [] cpos) (tUpdT X.prog X.w td ty) := by
  refine ⟨fun pins s σ H Q I h => ?_⟩
  refine wpAny_Call_method m.base m.few m.line PySem.F.plainAttrs_dict PySem.F.slot_dict_update PySem.F.type_dict_update (thn (ho.run pins s σ H _ I h) fun u s1 back => ?_)
  obtain ⟨x, H1, I1, rx, a, rfl, d, q1⟩ := back
  obtain rfl : u = Value.ref a := rx
  refine ⟨(isD_at I1 d).1, (isD_at I1 d).2.1, ?_⟩
  rw [m.trees]
  refine Calls.callWith_builtin rfl (Calls.evalArgs_plain (Calls.spliced_cons (thn (he.run pins s1 σ H1 _ I1 q1) fun iv s2 back => Calls.spliced_nil ?_)))
  obtain ⟨y, H2, I2, ry, b, ks, ls, rfl, ne, ea, eb, sz, ap, q2⟩ := back
  obtain rfl : iv = Value.ref b := ry
  obtain ⟨z1, n1, xs, r1, t1⟩ := dt_of I2.hok ea
  obtain ⟨z2, n2, ys, r2, t2⟩ := dt_of I2.hok eb
  have l1 : ks.length = xs.length := Paired.length r1
  have l2 : ls.length = ys.length := Paired.length r2
  have keys : ∀ x ∈ ys, s2.TypeIs (.ref x.2.1) "tuple" := fun x hx => by
    obtain ⟨_, _, _, _, _, _, _, his, _⟩ := t2
    exact IsTupleKey.typeIs (his x hx)
  have hash : ks = [] → (ys.map fun x => (tupleKind (mixKind X.prog X.w)).hash x.1).Nodup := fun e => by
    have := ap e
    unfold Apart at this
    have ek : ls.map (·.1) = ys.map (·.1) := by
      clear t2 z2 l2 keys this ap sz eb q2
      induction r2 with
      | nil => rfl
      | cons h t ih => rw [List.map_cons, List.map_cons, ih, h.1]
    have e1 : ys.map (fun x => (tupleKind (mixKind X.prog X.w)).hash x.1) = (ys.map (·.1)).map (tupleKeyHash (mixKind X.prog X.w)) := by rw [List.map_map]; rfl
    have e2 : ls.map (fun x => tupleKeyHash (mixKind X.prog X.w) x.1) = (ls.map (·.1)).map (tupleKeyHash (mixKind X.prog X.w)) := by rw [List.map_map]; rfl
    rw [e1, ← ek, ← e2]
    exact this
  have hap : xs ≠ [] ∨ ((∀ x ∈ ys, s2.TypeIs (.ref x.2.1) "tuple") ∧ (ys.map fun x => (tupleKind (mixKind X.prog X.w)).hash x.1).Nodup) := by
    cases xs with
    | nil => exact .inr ⟨keys, hash (List.length_eq_zero_iff.mp l1)⟩
    | cons => exact .inl (fun z => by cases z)
  refine call_update_dictH (knd := tupleKind (mixKind X.prog X.w)) (tupleKind_room_in1 hu) ne n2 t1 t2 hap (by omega) fun hp tab _ same => ?_
  obtain ⟨ob, es, ep, g1, g2, g3, g4, _, g5⟩ := tab
  have le : (mrgK ks ls).length ≤ sizeLine := Nat.le_trans (mrgK_len ls ks) sz
  exact ⟨.non, _, d_write (ob := .dT (mrgK ks ls)) (t' := s2.toks) I2 (by rw [ea]; trivial) same ⟨ob, g1⟩ ⟨le, n1, _, KT.keeps (KT.mrg r2 r1) (fun c zs ec => (upd_ne (fun z => by rw [z, ea] at ec; cases ec)).trans ec), ob, es, ep, g1, g2, g3, g4, g5⟩, rfl, q2⟩
end
/-! ### the hashes of tuples of whole numbers -/
def intK : Key → Option Int
  | .inl i => some i
  | .inr _ => none
def hashK (ks : List Key) : Option Int := (ks.mapM intK).map fun l => reduceHash (Builtin.Tuple.tupleHashOf (l.map hashInt))
def apartD (r : List (D × D)) : Bool := match r.mapM (fun p => (keysD p.1).bind hashK) with
  | some hs => decide hs.Nodup
  | none => false
theorem hashK_at {P : Program} {w : World} {ks : List Key} {h : Int} (e : hashK ks = some h) : tupleKeyHash (mixKind P w) ks = h := by
  unfold hashK at e
  obtain ⟨l, e1, rfl⟩ := Option.map_eq_some_iff.mp e
  have : ∀ (ks : List Key) (l : List Int), ks.mapM intK = some l → ks.map (mixKind P w).hash = l.map hashInt := fun ks => by
    induction ks with
    | nil => intro l e; cases e; rfl
    | cons k ks ih =>
      intro l e
      rw [List.mapM_cons] at e
      cases k with
      | inr x => cases e
      | inl i =>
        obtain ⟨l', e2, e3⟩ := Option.bind_eq_some_iff.mp (show (ks.mapM intK).bind (fun bs => some (i :: bs)) = some l from e)
        cases e3
        rw [List.map_cons, List.map_cons, ih l' e2]
        rfl
  unfold tupleKeyHash
  rw [this ks l e1]
theorem apart_key {K : PySem.W.Frag} {F : Hp} {P : Program} {w : World} {r : List (D × D)} {ls : List (List Key × V)} (rg : RG tD K F r ls) (h : apartD r = true) : Apart P w ls := by
  unfold apartD at h
  split at h
  · rename_i hs e
    have key : ∀ (r : List (D × D)) (ls : List (List Key × V)) (hs : List Int), RG tD K F r ls → r.mapM (fun p => (keysD p.1).bind hashK) = some hs → ls.map (fun x => tupleKeyHash (mixKind P w) x.1) = hs := fun r => by
      induction r with
      | nil => intro ls hs h e; simp only [RG] at h; subst h; cases e; rfl
      | cons p r ih =>
        obtain ⟨a, b⟩ := p
        intro ls hs h e
        simp only [RG] at h
        obtain ⟨k, v, r', rfl, rfl, _, h2⟩ := h
        rw [List.mapM_cons] at e
        have e : ((keysD (tD k)).bind hashK).bind (fun x => (r.mapM fun p => (keysD p.1).bind hashK).bind fun bs => some (x :: bs)) = some hs := e
        rw [keysD_tD] at e
        obtain ⟨x, e1, e2⟩ := Option.bind_eq_some_iff.mp e
        obtain ⟨bs, e3, e4⟩ := Option.bind_eq_some_iff.mp e2
        cases e4
        rw [List.map_cons, ih r' bs h2 e3, hashK_at (show hashK k = some x from e1)]
    unfold Apart
    rw [key r ls hs rg e]
    exact of_decide_eq_true h
  · cases h
/-! ### as a combinator -/
def mrgT (l r : List (D × D)) : List (D × D) := r.foldl (fun acc p => match keysD p.1 with | some k => pT acc k p.2 | none => acc) l
theorem RG.mrg {K : PySem.W.Frag} {F : Hp} : ∀ {r : List (D × D)} {ls : List (List Key × V)} {l : List (D × D)} {ks : List (List Key × V)}, RG tD K F r ls → RG tD K F l ks → RG tD K F (mrgT l r) (mrgK ks ls)
  | [], ls, l, ks, h, h2 => by simp only [RG] at h; subst h; exact h2
  | (a, b) :: r, ls, l, ks, h, h2 => by
    simp only [RG] at h
    obtain ⟨k, v, r', rfl, rfl, h3, h4⟩ := h
    show RG tD K F (mrgT (match keysD (tD k) with | some k => pT l k b | none => l) r) (mrgK (putK ks k v) r')
    rw [keysD_tD]
    exact RG.mrg h4 (RG.put tD keysD keysD_tD h2 h3)
def updM : Mo → Mo → Option Mo
  | .dT l, .dT r => if (decide (l.length + r.length ≤ sizeLine) && (!l.isEmpty || apartD r)) = true then some (.dT (mrgT l r)) else none
  | _, _ => none
def updN (i : Nat) (m : Mo) (ρ : Rho) : RE D := match ownM ρ i with
  | some mb => match updM mb.1 m with
    | some m' => .ok .none (ρ.set i (.own m' mb.2))
    | none => .no
  | none => .no
def dUpdN (i : Nat) (f : Fn) : Dn := fun ρ => match ownM ρ i with
  | some (.dT _, _) => (f ρ).bind (updN i)
  | _ => .no
section
variable {X : Cx} {W : Wt} {e : Expr} {f : Fn} {x : Str} {pos p p2 : Pos}
theorem AfF.toE {ρ : Rho} {σ : Sg} {F H : Hp} {Q : VK} {k : Mo → Rho → RE D} {r : RE Mo} (q : Af X.K W (RD X.K) ρ σ F H Q (r.bind k)) {Z : VK}
    (h : ∀ m ρ1, r = .ok m ρ1 → ∀ a F' H', Go X.K ρ σ F H ρ1 σ F' H' → OwnAt X.K F' H' a m → H a = none → ¬ Own ρ1 σ a → Z (.ref a) H') : AfF X.K W ρ σ F H Z r := by
  cases r with
  | no => exact q
  | ex x ρ1 => exact q
  | ok m ρ1 => exact h m ρ1 rfl
theorem de_updN (i : Nat) (hu : X.A.units + 1 < cLine) (he : PE X e (tF X.K W f)) (m : M1 X (.Name x p) "update" p2 e pos) (hN : X.N[i]? = some x := by rfl) (hv : Vis X.env.scope x := by first | exact Or.inl rfl | exact Or.inr (Or.inl rfl) | exact Or.inr (Or.inr rfl)) (hd : (x == ("__debug__" : Str)) = false := by decide)
    (hcd : (x == ("__classdict__" : Str)) = false := by decide) : PE X (.Call (.Attribute (.Name x p) "update" p2) [e] [] pos) (tE X.K W (dUpdN i f)) :=
  PE.imp (pe_updT hu (pe_var hN hv hd hcd) he m) fun σ H Q ⟨ρ, F, s, q⟩ => by
    unfold dUpdN at q
    split at q
    · rename_i l0 b0 ho0
      obtain ⟨a0, e0, o0⟩ := s.own i _ _ (ownM_at ho0)
      have isd : IsD H a0 := by
        obtain ⟨_, es, q1, _⟩ := o0
        exact .inr ⟨es, .inl q1⟩
      refine ⟨_, e0, a0, rfl, isd, ρ, F, s, AfF.toE q fun m ρ1 er a F' H' g oa ha na => ?_⟩
      rw [er] at q
      have q := Af.at g q
      simp only [RE.bind, updN] at q
      split at q
      · rename_i mb ho
        obtain ⟨mo, b⟩ := mb
        split at q
        · rename_i m' hm
          obtain ⟨a1, e1, o1⟩ := g.sr.own i _ _ (ownM_at ho)
          rw [e0] at e1; cases e1
          simp only at hm
          unfold updM at hm
          split at hm
          · rename_i l r q
            split at hm
            · rename_i c
              cases hm
              simp only [Bool.and_eq_true, decide_eq_true_eq, Bool.or_eq_true, Bool.not_eq_true'] at c
              obtain ⟨c1, c2⟩ := c
              obtain ⟨f1, ks, h1, h2, h3⟩ := o1
              obtain ⟨f2, ls, k1, k2, k3⟩ := oa
              have rg1 : RG tD X.K F' l ks := (rg_iff tD).mpr ⟨h2, h3⟩
              have rg2 : RG tD X.K F' r ls := (rg_iff tD).mpr ⟨k2, k3⟩
              have ne : a0 ≠ a := fun z => na (by rw [← z]; exact ⟨i, _, _, ownM_at ho, e0⟩)
              refine ⟨a, ks, ls, rfl, ne, h1, k1, by rw [← rg1.len, ← rg2.len]; exact c1, fun e => ?_, ?_⟩
              · refine apart_key rg2 (c2.resolve_left fun z => ?_)
                subst e
                have := rg1.len
                rw [List.length_nil] at this
                rw [List.length_eq_zero_iff.mp this] at z
                cases z
              · have rg3 := (rg_iff tD).mp (RG.mrg rg2 rg1)
                exact q .non _ _ (g.sr.change (ownM_at ho) e0 ⟨f1, _, upd_same, rg3.1, rg3.2⟩) rep_none
            · cases hm
          · cases hm
        · exact q.elim
      · exact q.elim
    · exact q.elim
end
end Ft
/-! Ft36: a call whose last argument is a new object that nobody keeps. -/
namespace Ft
open PySem L2 PySem.Spec PyProof.Rows
def valsH : List Hd → Option (List D)
  | [] => some []
  | .v d :: r => match valsH r with
    | some l => some (d :: l)
    | none => none
  | .s _ :: _ => none
abbrev AnsF := Rho → RE (List Hd × Mo)
def aLast (f : Fn) : AnsF := fun ρ => (f ρ).bind fun m ρ1 => .ok ([], m) ρ1
def aConsF (a : An) (as : AnsF) : AnsF := fun ρ => (a ρ).bind fun h ρ1 => (as ρ1).bind fun p ρ2 => .ok (h :: p.1, p.2) ρ2
def freshK (g : Cn) (p : List Hd × Mo) (ρ : Rho) : RE D := match valsH p.1 with
  | some ds => match g (ds.map LV.val ++ [.own p.2 false]) with
    | .ok d [_] => .ok d ρ
    | _ => .no
  | none => .no
def dCallF (g : Cn) (a : AnsF) : Dn := fun ρ => (a ρ).bind (freshK g)
def AfAF (K : PySem.W.Frag) (W : Wt) (ρ : Rho) (σ : Sg) (F H : Hp) (Q : List V → Hp → Prop) : RE (List Hd × Mo) → Prop
  | .ok p ρ' => ∀ vs a F' H', Go K ρ σ F H ρ' σ F' H' → RepHs K σ F' p.1 vs → OwnAt K F' H' a p.2 → H a = none → ¬ Own ρ' σ a → Q (vs ++ [.ref a]) H'
  | .ex x ρ' => ∀ c dx F' H', Go K ρ σ F H ρ' σ F' H' → W.xr x c dx H' → W.E c dx H'
  | .no => False
def tAsF (K : PySem.W.Frag) (W : Wt) (d : AnsF) : TA := fun σ H Q => ∃ ρ F, SR K ρ σ F H ∧ AfAF K W ρ σ F H Q (d ρ)
section
variable {K : PySem.W.Frag} {W : Wt} {ρ ρ' : Rho} {σ : Sg} {F H F' H' : Hp}
theorem AfAF.at {Q : List V → Hp → Prop} (g : Go K ρ σ F H ρ' σ F' H') : ∀ {r : RE (List Hd × Mo)}, AfAF K W ρ σ F H Q r → AfAF K W ρ' σ F' H' Q r
  | .ok m _, q => fun vs a F2 H2 g2 r o n no => q vs a F2 H2 (g.trans g2) r o (by
      cases e : H a with
      | none => rfl
      | some o =>
        obtain ⟨o', z⟩ := g.there a o e
        rw [n] at z; cases z) no
  | .ex x _, q => fun c dx F2 H2 g2 z => q c dx F2 H2 (g.trans g2) z
  | .no, q => q
theorem vals_at : ∀ {hs : List Hd} {ds : List D} {vs : List V}, valsH hs = some ds → RepHs K σ F hs vs → vs.length = ds.length ∧ ∀ (i : Nat) d, ds[i]? = some d → ∃ v, vs[i]? = some v ∧ Rep K F d v
  | [], _, _, e, .nil => by
    simp only [valsH] at e; cases e
    exact ⟨rfl, fun i d h => by simp at h⟩
  | .v d :: hs, ds, _, e, .cons (v := v) (vs := vs) a t => by
    simp only [valsH] at e
    split at e
    · rename_i l hl
      cases e
      obtain ⟨h1, h2⟩ := vals_at hl t
      refine ⟨by simp [h1], fun i x hx => ?_⟩
      cases i with
      | zero =>
        simp at hx; subst hx
        exact ⟨v, rfl, a⟩
      | succ i => exact h2 i x (by simpa using hx)
    · cases e
  | .s _ :: hs, ds, _, e, _ => by simp only [valsH] at e; cases e
theorem freshIns {ds : List D} {vs : List V} {m : Mo} {a : Addr} (sub : Same F H) (hl : vs.length = ds.length) (hv : ∀ (i : Nat) d, ds[i]? = some d → ∃ v, vs[i]? = some v ∧ Rep K F d v) (o : OwnAt K F H a m) :
    SR K (ds.map LV.val ++ [.own m false]) ((vs ++ [V.ref a]).map some) F H ∧ ∀ b, Own (ds.map LV.val ++ [.own m false]) ((vs ++ [V.ref a]).map some) b → b = a := by
  have ow : ∀ (i : Nat) m' b, (ds.map LV.val ++ [LV.own m false])[i]? = some (.own m' b) → i = ds.length ∧ m' = m := fun i m' b e => by
    rw [List.getElem?_append] at e
    split at e
    · rw [List.getElem?_map] at e
      cases q : ds[i]? with
      | none => rw [q] at e; cases e
      | some d => rw [q] at e; cases e
    · rename_i c
      rw [List.length_map] at e c
      by_cases z : i - ds.length = 0
      · rw [z] at e
        simp at e
        exact ⟨by omega, e.1.symm⟩
      · obtain ⟨k, hk⟩ : ∃ k, i - ds.length = k + 1 := ⟨i - ds.length - 1, by omega⟩
        rw [hk] at e
        simp at e
  have at_ : ((vs ++ [V.ref a]).map some)[ds.length]? = some (some (V.ref a)) := by
    rw [List.getElem?_map, List.getElem?_append_right (by omega), hl, Nat.sub_self]
    rfl
  refine ⟨⟨sub, by simp [hl], fun i d e => ?_, fun i m' b e => ?_, fun i j m1 b1 m2 b2 c e1 e2 _ _ => ?_⟩, fun b ⟨i, m', k, e1, e2⟩ => ?_⟩
  · rw [List.getElem?_append] at e
    split at e
    · rw [List.getElem?_map] at e
      cases q : ds[i]? with
      | none => rw [q] at e; cases e
      | some x =>
        rw [q] at e
        cases e
        obtain ⟨v, h1, h2⟩ := hv i d q
        have li : i < vs.length := (List.getElem?_eq_some_iff.mp h1).1
        exact ⟨v, by rw [List.getElem?_map, List.getElem?_append_left li, h1]; rfl, h2⟩
    · rename_i c
      rw [List.length_map] at e c
      by_cases z : i - ds.length = 0
      · rw [z] at e
        simp at e
      · obtain ⟨k, hk⟩ : ∃ k, i - ds.length = k + 1 := ⟨i - ds.length - 1, by omega⟩
        rw [hk] at e
        simp at e
  · obtain ⟨rfl, rfl⟩ := ow i m' b e
    exact ⟨a, at_, o⟩
  · exact (ow i _ _ e1).1.trans (ow j _ _ e2).1.symm
  · obtain ⟨rfl, _⟩ := ow i m' k e1
    rw [at_] at e2
    cases e2; rfl
theorem setOuts_fresh {m m' : Mo} : ∀ {ds : List D}, setOuts (ds.map LV.val ++ [.own m false]) [m'] = some (ds.map LV.val ++ [.own m' false])
  | [] => rfl
  | d :: ds => by
    show (match setOuts (ds.map LV.val ++ [.own m false]) [m'] with
      | some l => some (LV.val d :: l)
      | none => none) = _
    rw [setOuts_fresh]
    rfl
/-- back from such a call -/
theorem Go.backF {l l2 : List LV} {τ : Sg} {F2 H2 : Hp} {a : Addr} (g : Go K ρ σ F H ρ' σ F' H') (hn : H a = none) (no : ¬ Own ρ' σ a) (ow : ∀ b, Own l τ b → b = a) (gc : Go K l τ F' H' l2 τ F2 H2) : Go K ρ σ F H ρ' σ F2 H2 := by
  refine ⟨g.sub.trans gc.sub, fun b o e n => ?_, ⟨gc.sr.sub, g.sr.len, fun i d e => ?_, fun i m k e => ?_, g.sr.inj⟩, fun b o e => ?_, g.io⟩
  · obtain ⟨h1, h2, h3⟩ := g.keep b o e n
    have ne : b ≠ a := fun z => by rw [z, hn] at e; cases e
    obtain ⟨k1, k2, _⟩ := gc.keep b o h1 fun z => ne (ow b z)
    exact ⟨k1, fun nt z => k2 nt (h2 nt z), h3⟩
  · obtain ⟨v, h1, h2⟩ := g.sr.val i d e
    exact ⟨v, h1, h2.mono gc.sub⟩
  · obtain ⟨b, h1, h2⟩ := g.sr.own i m k e
    have ne : b ≠ a := fun z => no (by rw [← z]; exact ⟨i, m, k, e, h1⟩)
    obtain ⟨o, ho⟩ := h2.there
    obtain ⟨k1, k2, _⟩ := gc.keep b o ho fun z => ne (ow b z)
    exact ⟨b, h1, h2.move gc.sub (k2 (h2.nt ho) h2.free) fun o' eo => by rw [ho] at eo; cases eo; exact k1⟩
  · obtain ⟨o1, e1⟩ := g.there b o e
    exact gc.there b o1 e1
theorem callF_imp {g : Cn} {a : AnsF} {n : Nat} (hn : ∀ ρ p ρ1, a ρ = .ok p ρ1 → p.1.length + 1 = n) {Q : VK} (q : tE K W (dCallF g a) σ H Q) : tAsF K W a σ H fun vs H1 => SpOf K W.xr n g vs H1 Q W.E := by
  obtain ⟨ρ, F, s, q⟩ := q
  refine ⟨ρ, F, s, ?_⟩
  unfold dCallF at q
  cases ha : a ρ with
  | no => rw [ha] at q; exact q
  | ex x ρ1 => rw [ha] at q; exact q
  | ok p ρ1 =>
    rw [ha] at q
    simp only [RE.bind, freshK] at q
    intro vs b F1 H1 g1 r1 ob hb no
    cases hv : valsH p.1 with
    | none => rw [hv] at q; exact q.elim
    | some ds =>
      rw [hv] at q
      simp only at q
      obtain ⟨h1, h2⟩ := vals_at hv r1
      obtain ⟨s1, ow⟩ := freshIns g1.sr.sub h1 h2 ob
      have pl : vs.length = p.1.length := by
        have : ∀ {hs : List Hd} {vs : List V}, RepHs K σ F1 hs vs → vs.length = hs.length := fun {hs vs} r => by
          induction r with
          | nil => rfl
          | cons _ _ ih => simp [ih]
        exact this r1
      refine ⟨by rw [List.length_append, List.length_singleton, pl]; exact hn _ _ _ ha, F1, _, s1, ?_⟩
      cases hg : g (ds.map LV.val ++ [.own p.2 false]) with
      | no => rw [hg] at q; exact q.elim
      | new m outs => rw [hg] at q; exact q.elim
      | ex x outs => rw [hg] at q; exact q.elim
      | ok d outs =>
        rw [hg] at q
        match outs, q with
        | [], q => exact q.elim
        | [m'], q => exact ⟨_, setOuts_fresh, fun v F' H' g2 r2 => q v F' H' (g1.backF hb no ow g2) r2⟩
        | _ :: _ :: _, q => exact q.elim
end
section
variable {X : Cx} {W : Wt} {e : Expr} {es : List Expr} {a : An} {as : AnsF} {f : Fn}
theorem dasF_last (h : PE X e (tF X.K W f)) (hs : starEach [e] X.env = (false, eval e X.env) :: starEach [] X.env := by rfl) : PA X [e] (tAsF X.K W (aLast f)) :=
  PA.imp (pa_cons h pa_nil hs) fun σ H Q ⟨ρ, F, s, q⟩ => by
    refine ⟨ρ, F, s, ?_⟩
    unfold aLast at q
    cases hf : f ρ with
    | no => rw [hf] at q; exact q
    | ex x ρ1 => rw [hf] at q; exact q
    | ok m ρ1 =>
      rw [hf] at q
      exact fun b F' H' g o n no => q [] b F' H' g .nil o n no
theorem dasF_cons (h : PE X e (tA X.K W a)) (t : PA X es (tAsF X.K W as)) (hs : starEach (e :: es) X.env = (false, eval e X.env) :: starEach es X.env := by rfl) : PA X (e :: es) (tAsF X.K W (aConsF a as)) :=
  PA.imp (pa_cons h t hs) fun σ H Q ⟨ρ, F, s, q⟩ => by
    refine ⟨ρ, F, s, ?_⟩
    unfold aConsF at q
    cases ha : a ρ with
    | no => rw [ha] at q; exact q
    | ex x ρ1 => rw [ha] at q; exact q
    | ok hd ρ1 =>
      rw [ha] at q
      simp only [RE.bind] at q
      intro v F1 H1 g1 r1
      have q1 := q.at g1
      refine ⟨ρ1, F1, g1.sr, ?_⟩
      cases hb : as ρ1 with
      | no => rw [hb] at q1; exact q1
      | ex x ρ2 => rw [hb] at q1; exact q1
      | ok p ρ2 =>
        rw [hb] at q1
        simp only [RE.bind] at q1
        exact fun vs b F2 H2 g2 r2 o n no => q1 (v :: vs) b F2 H2 g2 (.cons (r1.mono g2.sub) r2) o n no
def aLenF (a : AnsF) (n : Nat) : Prop := ∀ ρ p ρ1, a ρ = .ok p ρ1 → p.1.length + 1 = n
theorem aLenF_last : aLenF (aLast f) 1 := fun ρ p ρ1 e => by
  unfold aLast at e
  cases hf : f ρ with
  | no => rw [hf] at e; cases e
  | ex _ _ => rw [hf] at e; cases e
  | ok m ρ' => rw [hf] at e; cases e; rfl
theorem aLenF_cons {n : Nat} (h : aLenF as n) : aLenF (aConsF a as) (n + 1) := fun ρ p ρ1 e => by
  unfold aConsF at e
  cases ha : a ρ with
  | no => rw [ha] at e; cases e
  | ex _ _ => rw [ha] at e; cases e
  | ok hd ρ' =>
    rw [ha] at e
    simp only [RE.bind] at e
    cases hb : as ρ' with
    | no => rw [hb] at e; cases e
    | ex _ _ => rw [hb] at e; cases e
    | ok p2 ρ2 =>
      rw [hb] at e
      cases e
      have := h _ _ _ hb
      simp only [List.length_cons]
      omega
variable {CX : CXT} {k : Nat} {fa : Addr} {fd : FuncData} {ps : List Str} {x : Str} {p pos : Pos} {g : Cn} {n : Nat}
theorem de_callF (Fk : FnOk X.prog X.w X.K X.mg X.base CX k fa fd ps (SpOf X.K W.xr n g)) (hr : Room k X.A) (hm : X.mg x = some (.ref fa)) (hk : PySem.W.keepIn X.K (.ref fa) = true) (hb : Binds X.K fd ps []) (hx : Passes CX X W.E)
    (ha : PA X (e :: es) (tAsF X.K W as)) (hn : aLenF as n) (hg : Gl X x := by rfl) (hdb : (x == ("__debug__" : Str)) = false := by decide) (he : starEach (e :: es) X.env = (false, eval e X.env) :: starEach es X.env := by rfl) (hpl : (backTo pos (starEach es X.env)).any (·.1) = false := by rfl) :
    PE X (.Call (.Name x p) (e :: es) [] pos) (tE X.K W (dCallF g as)) :=
  PE.imp (pe_call (dvs := []) (ds := []) Fk hr hg hm hk hb .nil hx ha hdb he hpl) fun σ H Q q => by
    show tAsF X.K W as σ H fun vs H1 => SpOf X.K W.xr n g (vs ++ []) H1 Q W.E
    simp only [List.append_nil]
    exact callF_imp hn q
theorem de_clF (c : Cl X.prog X.w X.K X.mg X.base k x n W.xr g) (hr : Room k X.A) (hx : Passes (L2N.CX X.prog X.w) X W.E)
    (ha : PA X (e :: es) (tAsF X.K W as)) (hn : aLenF as n) (hg : Gl X x := by rfl) (hdb : (x == ("__debug__" : Str)) = false := by decide) (he : starEach (e :: es) X.env = (false, eval e X.env) :: starEach es X.env := by rfl) (hpl : (backTo pos (starEach es X.env)).any (·.1) = false := by rfl) :
    PE X (.Call (.Name x p) (e :: es) [] pos) (tE X.K W (dCallF g as)) := by
  obtain ⟨f, fd, ps, h1, h2, h3, h4⟩ := c.ex
  exact de_callF h1 hr h2 h3 h4 hx ha hn hg hdb he hpl
end
section
variable {a : An} {as : AnsF} {f : Fn} {g : Cn} {ρ : Rho} {hs : List Hd} {h : Hd} {m m' : Mo} {d : D} {ds : List D}
def lastK (m : Mo) (ρ : Rho) : RE (List Hd × Mo) := .ok ([], m) ρ
theorem ev_aLast : aLast f ρ = (f ρ).bind lastK := rfl
theorem ev_lastK : lastK m ρ = .ok ([], m) ρ := rfl
def consF2 (h : Hd) (p : List Hd × Mo) (ρ : Rho) : RE (List Hd × Mo) := .ok (h :: p.1, p.2) ρ
def consF1 (as : AnsF) (h : Hd) (ρ : Rho) : RE (List Hd × Mo) := (as ρ).bind (consF2 h)
theorem ev_aConsF : aConsF a as ρ = (a ρ).bind (consF1 as) := rfl
theorem ev_consF1 : consF1 as h ρ = (as ρ).bind (consF2 h) := rfl
theorem ev_consF2 : consF2 h (hs, m) ρ = .ok (h :: hs, m) ρ := rfl
theorem ev_dCallF : dCallF g as ρ = (as ρ).bind (freshK g) := rfl
def freshC (ρ : Rho) : RC → RE D
  | .ok d [_] => .ok d ρ
  | _ => .no
def freshL (g : Cn) (m : Mo) (ρ : Rho) : Option (List D) → RE D
  | some ds => freshC ρ (g (ds.map LV.val ++ [.own m false]))
  | none => .no
theorem ev_freshK : freshK g (hs, m) ρ = freshL g m ρ (valsH hs) := by
  unfold freshK freshL
  cases valsH hs with
  | none => rfl
  | some ds =>
    simp only
    cases g (ds.map LV.val ++ [.own m false]) with
    | ok d outs =>
      match outs with
      | [] => rfl
      | [_] => rfl
      | _ :: _ :: _ => rfl
    | new _ _ => rfl
    | ex _ _ => rfl
    | no => rfl
theorem ev_freshL2 {d1 d2 : D} : freshL g m ρ (some [d1, d2]) = freshC ρ (g [.val d1, .val d2, .own m false]) := rfl
theorem ev_freshL1 {d1 : D} : freshL g m ρ (some [d1]) = freshC ρ (g [.val d1, .own m false]) := rfl
theorem ev_freshL3 {d1 d2 d3 : D} : freshL g m ρ (some [d1, d2, d3]) = freshC ρ (g [.val d1, .val d2, .val d3, .own m false]) := rfl
theorem ev_freshC : freshC ρ (.ok d [m']) = .ok d ρ := rfl
def valsC (d : D) : Option (List D) → Option (List D)
  | some l => some (d :: l)
  | none => none
theorem ev_valsH0 : valsH [] = some [] := rfl
theorem ev_valsH1 : valsH (.v d :: hs) = valsC d (valsH hs) := by
  unfold valsC
  rw [valsH]
theorem ev_valsC : valsC d (some ds) = some (d :: ds) := rfl
end
end Ft
/-! Ft45: the union of two small sets of ints. -/
namespace Ft
open PySem L2 PySem.Spec PyProof.Rows
namespace Un
/-! ### a free slot -/
/-- in a table of this mask each search for a free slot ends -/
def FreeOk (m : Nat) : Prop := ∀ (owner : Array (Option Nat)) (h : Int) (j : Nat), j ≤ m → oAt owner j = none →
  ∃ s, SetTable.layClean.free m owner (SetTable.turns m) (SetTable.bits h % (m + 1)) (SetTable.bits h) = some s ∧ oAt owner s = none ∧ s ≤ m
theorem freeOk_mask {m : Nat} (hm : MaskOk m) : FreeOk m := fun owner h j hj hf => by
  obtain ⟨K, e1, e2, _⟩ := free_find hm owner h hj hf
  exact ⟨_, e1, e2, way_le hm⟩
theorem lcg15 : ((List.range 16).all fun i => (List.range 16).all fun j => (List.range 16).any fun k => lcgI 15 i k == j) = true := by decide +kernel
theorem meets15 {h : Int} {j : Nat} (hj : j ≤ 15) : ∃ n, n ≤ 27 ∧ runI 15 (SetTable.bits h) n = j := by
  have h1 := List.all_eq_true.mp (List.all_eq_true.mp lcg15 (runI 15 (SetTable.bits h) 12) (List.mem_range.mpr (by have := runI_le 15 (SetTable.bits h) 12; omega))) j (List.mem_range.mpr (by omega))
  obtain ⟨k, hk, e⟩ := List.any_eq_true.mp h1
  have := List.mem_range.mp hk
  exact ⟨12 + k, by omega, by rw [runI_tail (bits_lt h)]; exact beq_iff_eq.mp e⟩
theorem way_le15 {h : Int} {k : Nat} : way 15 h k ≤ 15 := by
  first
    | exact (nth_le15 : _)
    | (show (nth 15 (runAt 15 (SetTable.bits h % (15 + 1)) (SetTable.bits h)) k).j ≤ 15
       have key : ∀ k, (nth 15 (runAt 15 (SetTable.bits h % (15 + 1)) (SetTable.bits h)) k).j + (nth 15 (runAt 15 (SetTable.bits h % (15 + 1)) (SetTable.bits h)) k).more ≤ 15 := by
         intro k
         induction k with
         | zero =>
           show SetTable.bits h % (15 + 1) + (SetTable.runEnd 15 (SetTable.bits h % (15 + 1)) - SetTable.bits h % (15 + 1)) ≤ 15
           have := Nat.mod_lt (SetTable.bits h) (show 0 < 15 + 1 by decide)
           have := runEnd_bd (m := 15) (i := SetTable.bits h % (15 + 1)) (by omega)
           omega
         | succ k ih =>
           rw [nth_succ]
           generalize nth 15 (runAt 15 (SetTable.bits h % (15 + 1)) (SetTable.bits h)) k = p at ih
           unfold adv
           split
           · dsimp only; omega
           · dsimp only
             have z : (SetTable.leap 15 p.i p.perturb).1 ≤ 15 := by
               show (p.i * 5 + 1 + p.perturb / 32) % (15 + 1) ≤ 15
               have := Nat.mod_lt (p.i * 5 + 1 + p.perturb / 32) (show 0 < 15 + 1 by decide)
               omega
             have := runEnd_bd (m := 15) z
             omega
       have := key k
       omega)
theorem freeOk15 : FreeOk 15 := fun owner h j hj hf => by
  obtain ⟨n, hn, e⟩ := meets15 (h := h) hj
  have hw : way 15 h (off 15 (SetTable.bits h % (15 + 1)) (SetTable.bits h) n) = j := by
    show (nth 15 (runAt 15 (SetTable.bits h % (15 + 1)) (SetTable.bits h)) (off 15 (SetTable.bits h % (15 + 1)) (SetTable.bits h) n)).j = j
    rw [nth_off, itL_run]
    exact e
  obtain ⟨K, k1, k2, k3⟩ := st_least (p := fun k => oAt owner (way 15 h k) = none) (off 15 (SetTable.bits h % (15 + 1)) (SetTable.bits h) n) (by
    show oAt owner (way 15 h (off 15 (SetTable.bits h % (15 + 1)) (SetTable.bits h) n)) = none
    rw [hw]; exact hf)
  refine ⟨way 15 h K, ?_, k2, way_le15⟩
  refine free_spec 15 owner (SetTable.turns 15) n _ _ K (by unfold SetTable.turns; omega) k1 (fun k hk => ?_) ?_
  · have q := k3 k hk
    cases z : oAt owner (nth 15 (runAt 15 (SetTable.bits h % (15 + 1)) (SetTable.bits h)) k).j with
    | none => exact absurd z q
    | some _ => rfl
  · have q : oAt owner (nth 15 (runAt 15 (SetTable.bits h % (15 + 1)) (SetTable.bits h)) K).j = none := k2
    rw [q] <;> rfl
/-! ### a whole table -/
def Lay (m k : Nat) (owner : Array (Option Nat)) : Prop := owner.size = m + 1 ∧ (owner.toList.filterMap id).Perm (List.range k)
theorem set_fm {k : Nat} : ∀ (l : List (Option Nat)) (j : Nat), l[j]? = some none → ((l.set j (some k)).filterMap id).Perm (k :: l.filterMap id)
  | [], j, h => by simp at h
  | a :: l, 0, h => by
    simp at h
    subst h
    simp
  | a :: l, j + 1, h => by
    have ih := set_fm (k := k) l j (by simpa using h)
    cases a with
    | none => simpa using ih
    | some x =>
      simp only [List.set_cons_succ, List.filterMap_cons, id]
      exact (ih.cons x).trans (List.Perm.swap _ _ _)
theorem fm_full : ∀ (l : List (Option Nat)), (∀ x ∈ l, x ≠ none) → (l.filterMap id).length = l.length
  | [], _ => rfl
  | a :: l, h => by
    cases a with
    | none => exact absurd rfl (h none List.mem_cons_self)
    | some x => simp [fm_full l fun y hy => h y (List.mem_cons_of_mem _ hy)]
theorem Lay.step {m k : Nat} {owner : Array (Option Nat)} (F : FreeOk m) (L : Lay m k owner) (hk : k ≤ m) (h : Int) :
    ∃ j, SetTable.layClean.free m owner (SetTable.turns m) (SetTable.bits h % (m + 1)) (SetTable.bits h) = some j ∧ Lay m (k + 1) (owner.setIfInBounds j (some k)) := by
  have ex : ∃ j, j ≤ m ∧ oAt owner j = none := by
    rcases Classical.em (∃ j, j ≤ m ∧ oAt owner j = none) with c | c
    · exact c
    · exfalso
      have := fm_full owner.toList fun x hx e => by
        subst e
        obtain ⟨j, hj, e⟩ := List.getElem_of_mem hx
        rw [Array.length_toList, L.1] at hj
        refine c ⟨j, by omega, ?_⟩
        show owner.getD j (some 0) = none
        rw [Array.getD_eq_getD_getElem?, ← Array.getElem?_toList, List.getElem?_eq_getElem (by rw [Array.length_toList, L.1]; exact hj), e]
        rfl
      rw [L.2.length_eq, List.length_range, Array.length_toList, L.1] at this
      omega
  obtain ⟨j0, h0, n0⟩ := ex
  obtain ⟨j, e, ne, hj⟩ := F owner h j0 h0 n0
  refine ⟨j, e, by rw [Array.size_setIfInBounds]; exact L.1, ?_⟩
  have hjs : j < owner.size := by rw [L.1]; omega
  have hget : owner.toList[j]? = some none := by
    have z : owner.getD j (some 0) = none := ne
    rw [Array.getD_eq_getD_getElem?, Array.getElem?_eq_getElem hjs] at z
    rw [Array.getElem?_toList, Array.getElem?_eq_getElem hjs]
    simpa using z
  have e2 : (owner.setIfInBounds j (some k)).toList = owner.toList.set j (some k) := by simp
  rw [e2, List.range_succ]
  exact (set_fm _ _ hget).trans ((L.2.cons k).trans (List.perm_append_singleton _ _).symm)
theorem lay_fold {m : Nat} (F : FreeOk m) : ∀ (rest : List Int) (k : Nat) (owner : Array (Option Nat)), Lay m k owner → k + rest.length ≤ m + 1 →
    ∃ owner', rest.foldl (stepF m) (some (owner, k)) = some (owner', k + rest.length) ∧ Lay m (k + rest.length) owner'
  | [], k, owner, L, _ => ⟨owner, rfl, L⟩
  | h :: rest, k, owner, L, hl => by
    rw [List.length_cons] at hl
    obtain ⟨j, e, L'⟩ := L.step F (by omega) h
    obtain ⟨o', f, L2⟩ := lay_fold F rest (k + 1) _ L' (by omega)
    refine ⟨o', ?_, ?_⟩
    · rw [List.foldl_cons, stepF_some e, f, List.length_cons]
      congr 2; omega
    · rw [List.length_cons]
      have e : k + (rest.length + 1) = k + 1 + rest.length := by omega
      rw [e]; exact L2
theorem fm_range {α : Type} (l : List (Option α)) : ∀ n, n ≤ l.length → ((List.range n).filterMap fun j => (l[j]?).getD none) = (l.take n).filterMap id
  | 0, _ => rfl
  | n + 1, h => by
    rw [List.range_succ, List.filterMap_append, fm_range l n (by omega), List.take_succ, List.getElem?_eq_getElem (show n < l.length by omega), List.filterMap_append]
    simp only [List.filterMap_cons, List.filterMap_nil, List.getElem?_eq_getElem (show n < l.length by omega), Option.getD_some, Option.toList_some, id]
theorem laid_ok {m f mv : Nat} {led plain : Bool} {hs : Array Int} (F : FreeOk m) (hn : hs.size ≤ m) :
    ∃ t' order, SetTable.laid m f mv led plain hs = some (t', order) ∧ order.toList.Perm (List.range hs.size) ∧ t'.mask = m ∧ t'.dummies = #[] ∧ t'.place.size = hs.size ∧ Ris t'.place.toList ∧ t'.led = led ∧ t'.plain = plain := by
  obtain ⟨owner, f', L⟩ := lay_fold F hs.toList 0 (Array.replicate (m + 1) none) ⟨by simp, by
    have e : (Array.replicate (m + 1) (none : Option Nat)).toList.filterMap id = [] := by
      rw [Array.toList_replicate]
      exact List.filterMap_eq_nil_iff.mpr fun x hx => List.eq_of_mem_replicate hx
    rw [e]; exact List.Perm.refl _⟩ (by rw [Array.length_toList]; omega)
  have e : SetTable.layClean m hs = some owner := by rw [layClean_eq, f']; rfl
  have ris := ris_live (fun j => owner.getD j none) (List.range (m + 1)) (by
    unfold Ris
    first | exact List.pairwise_lt_range | exact List.pairwise_lt_range _)
  have ord : (((List.range (m + 1)).filterMap fun j => (owner.getD j none).map (j, ·)).map (·.2)) = owner.toList.filterMap id := by
    rw [List.map_filterMap]
    have e1 : (fun x => Option.map (·.2) ((owner.getD x none).map (x, ·))) = fun j => (owner.toList[j]?).getD none := by
      funext j
      rw [Option.map_map, Array.getD_eq_getD_getElem?, Array.getElem?_toList]
      cases (owner[j]?).getD none <;> rfl
    rw [e1]
    have := fm_range owner.toList (m + 1) (by rw [Array.length_toList, L.1]; exact Nat.le_refl _)
    rw [this, List.take_of_length_le (by rw [Array.length_toList, L.1]; exact Nat.le_refl _)]
  have hl : (((List.range (m + 1)).filterMap fun j => (owner.getD j none).map (j, ·)).map (·.2)).Perm (List.range hs.size) := by
    rw [ord]
    have := L.2
    rw [Nat.zero_add, Array.length_toList] at this
    exact this
  refine ⟨_, _, by unfold SetTable.laid; rw [e]; rfl, by simpa using hl, rfl, rfl, ?_, ris.1, rfl, rfl⟩
  have := hl.length_eq
  rw [List.length_map, List.length_range] at this
  simp only [List.size_toArray, List.length_map]
  exact this
/-- what is laid anew is the same -/
theorem order_perm {α : Type} (es : Array α) (order : Array Nat) (hp : order.toList.Perm (List.range es.size)) : (order.filterMap (es[·]?)).toList.Perm es.toList := by
  have h1 : (order.filterMap (es[·]?)).toList = order.toList.filterMap fun i => es.toList[i]? := by
    rw [Array.toList_filterMap]
    congr 1
    funext i
    exact (Array.getElem?_toList).symm
  have h2 : ∀ (l : List α) n, n ≤ l.length → ((List.range n).filterMap fun i => l[i]?) = l.take n := by
    intro l n
    induction n with
    | zero => intro _; rfl
    | succ n ih =>
      intro h
      rw [List.range_succ, List.filterMap_append, ih (by omega), List.take_succ, List.filterMap_cons, List.getElem?_eq_getElem (show n < l.length by omega)]
      rfl
  rw [h1]
  refine (hp.filterMap _).trans ?_
  rw [h2 _ _ (by rw [Array.length_toList]; exact Nat.le_refl _), List.take_of_length_le (by rw [Array.length_toList]; exact Nat.le_refl _)]
end Un
end Ft
namespace Ft
open PySem L2 PySem.Spec PyProof.Rows
namespace Un
theorem setRelay_eq' (a : Addr) (wanted : Nat) : setRelay a wanted = (do
    let (es, _, t) ← setState a
    if SetTable.sizeAbove wanted > sizeLine then unsupported "set:memory"
    let (es, t) ← (do
      let some (t, order) := t.relaid (es.map (·.1)) wanted | unsupported "internal:set-table-without-room"
      let es' := order.filterMap (es[·]?)
      if es'.size != es.size then unsupported "internal:set-table-lost-an-element"
      pure (es', t) : Sem (Array (Int × Value) × SetTable))
    storeSet a es t) := by rfl
theorem setMerge_eq (s o : Addr) (each : Sem Unit) : setMerge s o each = (do
  if s == o then return
  let (eo, epoch, to) ← setState o
  if eo.isEmpty then return
  setRoomFor s eo.size
  let (_, _, ts) ← setState s
  match ts.road to with
  | .slotForSlot => storeSet s eo { to with finger := ts.finger, led := ts.led && to.led, moves := ts.moves, plain := ts.plain && to.plain }
  | .clean =>
    let (es, t) ← (do
      let some (t, order) := SetTable.laid ts.mask ts.finger ts.moves (ts.led && to.led) (ts.plain && to.plain) (eo.map (·.1)) | unsupported "internal:set-table-without-room"
      let es' := order.filterMap (eo[·]?)
      if es'.size != eo.size then unsupported "internal:set-table-lost-an-element"
      pure (es', t) : Sem (Array (Int × Value) × SetTable))
    storeSet s es t
  | .oneByOne =>
    for (h, x) in ← setWalkUnseen o [s] (some s) do
      let _ ← holding [x] (setAddHashed s x h)
      each
      if (← setState o).2.1 != epoch then unsupported "set.changed-during-merge") := by rfl
/-- the set at r: its rows, its table -/
def At (h : Heap) (r : Addr) (es : Array (Int × Value)) (ep : Nat) (t : SetTable) : Prop := ∃ o, h.get? r = some o ∧ o.ExactSet ∧ o.data = .set es ep t
/-- a small clean table -/
structure Tab (w : World) (t : SetTable) (n : Nat) : Prop where
  dm : t.dummies = #[]
  sz : t.place.size = n
  ris : Ris t.place.toList
  led : w.params.followText "set-order" = true ∨ t.led = true
  few : n ≤ 8
  msk : (t.mask = 7 ∧ n ≤ 7) ∨ (t.mask = 15 ∧ n ≤ 8) ∨ t.mask = 31
theorem Tab.fits {w : World} {t : SetTable} {n : Nat} (T : Tab w t n) : t.fits n = true := by
  unfold SetTable.fits SetTable.fill
  have := T.few; have := T.sz; have e : t.dummies.size = 0 := by rw [T.dm]; rfl
  rw [Bool.and_eq_true, beq_iff_eq, decide_eq_true_eq]
  rcases T.msk with ⟨h, _⟩ | ⟨h, _⟩ | h <;> omega
theorem above_cases : ((List.range 32).all fun w => decide (w < 10) || SetTable.sizeAbove w == 16 && decide (w < 16) || SetTable.sizeAbove w == 32 && decide (16 ≤ w)) = true := by decide +kernel
theorem above_at {w : Nat} (h1 : 10 ≤ w) (h2 : w < 32) : (SetTable.sizeAbove w = 16 ∧ w < 16) ∨ (SetTable.sizeAbove w = 32 ∧ 16 ≤ w) := by
  have := List.all_eq_true.mp above_cases w (List.mem_range.mpr h2)
  simp only [Bool.or_eq_true, Bool.and_eq_true, beq_iff_eq, decide_eq_true_eq] at this
  omega
theorem At.move {h h' : Heap} {r : Addr} {es : Array (Int × Value)} {ep : Nat} {t : SetTable} (a : At h r es ep t) (k : h'.get? r = h.get? r) : At h' r es ep t := by
  obtain ⟨o, h1, h2⟩ := a
  exact ⟨o, by rw [k]; exact h1, h2⟩
section
variable {P : Program} {w : World} {A : Around} {E : Value → Shared → Prop} {s : Shared} {r : Addr} {es : Array (Int × Value)} {ep : Nat} {t : SetTable}
theorem At.state {Q : (Array (Int × Value) × Nat × SetTable) → Shared → Prop} (a : At s.heap r es ep t) (hf : t.fits es.size = true) (h : Q (es, ep, t) s) : wpAny (model P w) A (setState r) Q E s := by
  obtain ⟨o, h1, h2, h3⟩ := a
  exact wpAny_setState_of h1 h3 hf h
theorem At.store {es' : Array (Int × Value)} {t' : SetTable} {Q : Unit → Shared → Prop} (a : At s.heap r es ep t) (hz : es'.size ≤ 4000) (h : ∀ h', Heap.SameBut r s.heap h' → At h' r es' (ep + 1) t' → Q () { s with heap := h' }) : wpAny (model P w) A (storeSet r es' t') Q E s := by
  obtain ⟨o, h1, h2, h3⟩ := a
  exact wpAny_storeSet_of h1 h3 (h _ (Heap.SameBut.update ..) ⟨_, store_at h1 h3, ⟨h2.1, h2.2.1, h2.2.2⟩, rfl⟩) (by rw [sizeLine_eq]; omega)
/-- room for some more -/
theorem room_at {more : Nat} {Q : Unit → Shared → Prop} (a : At s.heap r es ep t) (T : Tab w t es.size) (hm : more ≤ 8) (hb : t.mask = 15 → es.size ≤ 7)
    (h : ∀ h' es' ep' t', Heap.SameBut r s.heap h' → At h' r es' ep' t' → es'.toList.Perm es.toList → Tab w t' es'.size → ((t'.mask = 7 ∧ es.size + more ≤ 4) ∨ (t'.mask = 15 ∧ es.size + more ≤ 8 ∧ (t.mask = 7 → es.size + more ≤ 7)) ∨ t'.mask = 31) → Q () { s with heap := h' }) :
    wpAny (model P w) A (setRoomFor r more) Q E s := by
  unfold setRoomFor
  refine wpAny_bind (a.state T.fits ?_)
  have ef : t.fill = es.size := by
    unfold SetTable.fill
    rw [T.dm, T.sz]; rfl
  have hfew := T.few
  dsimp only
  by_cases c : (t.fill + more) * 5 ≥ t.mask * 3
  · have er : t.roomFor more = some ((t.place.size + more) * 2) := by unfold SetTable.roomFor; rw [if_pos c]
    rw [er]
    dsimp only
    rw [ef] at c
    rw [T.sz]
    have hw1 : 10 ≤ (es.size + more) * 2 ∧ (es.size + more) * 2 < 32 := by
      rcases T.msk with ⟨h, _⟩ | ⟨h, _⟩ | h
      · omega
      · have := hb h; omega
      · omega
    rw [setRelay_eq']
    refine wpAny_bind (a.state T.fits ?_)
    dsimp only
    have go : ∀ M, SetTable.sizeAbove ((es.size + more) * 2) - 1 = M → FreeOk M → es.size ≤ M → SetTable.sizeAbove ((es.size + more) * 2) ≤ 32 → (M = 15 ∧ es.size + more ≤ 7 ∨ M = 31) →
        wpAny (model P w) A (do
          if SetTable.sizeAbove ((es.size + more) * 2) > sizeLine then unsupported "set:memory"
          let (es, t) ← (do
            let some (t, order) := t.relaid (es.map (·.1)) ((es.size + more) * 2) | unsupported "internal:set-table-without-room"
            let es' := order.filterMap (es[·]?)
            if es'.size != es.size then unsupported "internal:set-table-lost-an-element"
            pure (es', t) : Sem (Array (Int × Value) × SetTable))
          storeSet r es t) Q E s := fun M hM F hn h32 hc => by
      refine wp_if_neg (by rw [sizeLine_eq]; omega) ?_
      try refine wpAny_bind (wpAny_pure ?_)
      obtain ⟨t', order, e, hp, m1, m2, m3, m4, m5, _⟩ := laid_ok (m := M) (f := t.finger) (mv := t.movedTo M) (led := t.led) (plain := t.plain) (hs := es.map (·.1)) F (by rw [Array.size_map]; exact hn)
      have e2 : t.relaid (es.map (·.1)) ((es.size + more) * 2) = some (t', order) := by unfold SetTable.relaid; rw [hM]; exact e
      rw [e2]
      dsimp only
      rw [Array.size_map] at hp m3
      have pm := order_perm es order hp
      have hs2 : (order.filterMap (es[·]?)).size = es.size := by rw [← Array.length_toList, pm.length_eq, Array.length_toList]
      refine wpAny_bind ?_
      refine wp_if_neg (by rw [hs2]; simp) ?_
      try refine wpAny_bind (wpAny_pure ?_)
      refine wpAny_pure ?_
      dsimp only
      refine a.store (by omega) fun h' sb a' => h h' _ _ t' sb a' pm ⟨m2, by rw [m3, hs2], m4, by rw [m5]; exact T.led, by rw [hs2]; exact hfew, ?_⟩ ?_
      · rw [m1, hs2]; omega
      · rw [m1]; omega
    rcases above_at hw1.1 hw1.2 with ⟨e, hl⟩ | ⟨e, hl⟩
    · exact go 15 (by rw [e]) freeOk15 (by omega) (by rw [e]; omega) (.inl ⟨rfl, by omega⟩)
    · exact go 31 (by rw [e]) (freeOk_mask (.inr (.inl rfl))) (by omega) (by rw [e]; omega) (.inr rfl)
  · have er : t.roomFor more = none := by unfold SetTable.roomFor; rw [if_neg c]
    rw [er]
    dsimp only
    rw [ef] at c
    refine wpAny_pure ?_
    have := h s.heap es ep t (Heap.SameBut.refl ..) a (List.Perm.refl _) T (by
      rcases T.msk with ⟨h, _⟩ | ⟨h, _⟩ | h
      · omega
      · omega
      · omega)
    exact this
end
end Un
end Ft
namespace Ft
open PySem L2 PySem.Spec PyProof.Rows
namespace Un
section
variable {P : Program} {w : World} {A : Around} {E : Value → Shared → Prop} {s : Shared} {r a : Addr}
/-- a set of ints, opened -/
theorem setR_at {h : Heap} {a : Addr} {S : Int → Bool} {n : Nat} (R : SetR w h a S n) : ∃ es ep t, At h a es ep t ∧ (∀ e ∈ es.toList, GoodE e) ∧ (es.toList.map keyOf).Nodup ∧ (∀ k, S k = true ↔ k ∈ es.toList.map keyOf) ∧
    t.fits es.size = true ∧ es.size = n ∧ Ris t.place.toList ∧ (w.params.followText "set-order" = true ∨ t.led = true) := by
  obtain ⟨o, es, ep, t, ho, hex, hd, g, nd, hm, hb, hf, hn, hr, hl⟩ := R
  exact ⟨es, ep, t, ⟨o, ho, hex, hd⟩, g, nd, hm, hf, hn, hr, hl⟩
theorem setR_of {h : Heap} {a : Addr} {S : Int → Bool} {es : Array (Int × Value)} {ep : Nat} {t : SetTable} (x : At h a es ep t) (g : ∀ e ∈ es.toList, GoodE e) (nd : (es.toList.map keyOf).Nodup) (hm : ∀ k, S k = true ↔ k ∈ es.toList.map keyOf)
    (hb : es.size < scanBound) (hf : t.fits es.size = true) (hr : Ris t.place.toList) (hl : w.params.followText "set-order" = true ∨ t.led = true) : SetR w h a S es.size := by
  obtain ⟨o, h1, h2, h3⟩ := x
  exact ⟨o, es, ep, t, h1, h2, h3, g, nd, hm, hb, hf, rfl, hr, hl⟩
/-- a set copied into a new one -/
theorem merge_new {S : Int → Bool} {n : Nat} {t : SetTable} {Q : Unit → Shared → Prop} (x : At s.heap r #[] ep0 t) (T : Tab w t 0) (m7 : t.mask = 7) (R : SetR w s.heap a S n) (hn : 1 ≤ n ∧ n ≤ 8) (ne : r ≠ a)
    (h : ∀ h' es' ep' t', Heap.SameBut r s.heap h' → At h' r es' ep' t' → (∀ e ∈ es'.toList, GoodE e) → (es'.toList.map keyOf).Nodup → (∀ k, S k = true ↔ k ∈ es'.toList.map keyOf) → es'.size = n → Tab w t' es'.size → (t'.mask = 15 → n ≤ 7) → Q () { s with heap := h' }) :
    wpAny (model P w) A (setMerge r a) Q E s := by
  obtain ⟨eo, epo, to, y, g, nd, hm, hf, hs, hr, hl⟩ := setR_at R
  rw [setMerge_eq]
  refine wp_if_neg (by simpa using ne) ?_
  try refine wpAny_bind (wpAny_pure ?_)
  refine wpAny_bind (y.state hf ?_)
  dsimp only
  refine wp_if_neg (by simp only [Array.isEmpty, decide_eq_true_eq]; omega) ?_
  try refine wpAny_bind (wpAny_pure ?_)
  rw [hs]
  refine wpAny_bind (room_at x (by simpa using T) hn.2 (fun z => by rw [m7] at z; cases z) fun h1 es1 ep1 t1 sb1 x1 pm1 T1 hc => ?_)
  have z1 : es1 = #[] := by
    have := pm1.length_eq
    rw [Array.length_toList] at this
    exact Array.eq_empty_of_size_eq_zero this
  subst z1
  have y1 : At h1 a eo epo to := y.move (sb1.2 a (Ne.symm ne))
  refine wpAny_bind (x1.state (s := { s with heap := h1 }) T1.fits ?_)
  dsimp only
  have ef : t1.fill = 0 := by unfold SetTable.fill; rw [T1.dm, T1.sz]; rfl
  have fr : FreeOk t1.mask ∧ n ≤ t1.mask := by
    simp only [List.size_toArray, List.length_nil, Nat.zero_add] at hc
    rcases hc with ⟨e, _⟩ | ⟨e, _⟩ | e <;> rw [e]
    · exact ⟨freeOk_mask (.inl rfl), by omega⟩
    · exact ⟨freeOk15, by omega⟩
    · exact ⟨freeOk_mask (.inr (.inl rfl)), by omega⟩
  have hc' : (t1.mask = 7 ∧ n ≤ 4) ∨ (t1.mask = 15 ∧ n ≤ 7) ∨ t1.mask = 31 := by
    simp only [List.size_toArray, List.length_nil, Nat.zero_add] at hc
    rcases hc with h | ⟨h, _, h2⟩ | h
    · exact .inl h
    · exact .inr (.inl ⟨h, h2 m7⟩)
    · exact .inr (.inr h)
  have led2 : w.params.followText "set-order" = true ∨ (t1.led && to.led) = true := by
    rcases hl with z | z
    · exact .inl z
    · rcases T1.led with q | q
      · exact .inl q
      · exact .inr (by rw [z, q]; rfl)
  by_cases rd : t1.mask = to.mask ∧ to.dummies.isEmpty = true
  · have er : t1.road to = .slotForSlot := by unfold SetTable.road; rw [ef]; simp [rd.1, rd.2]
    rw [er]
    dsimp only
    refine x1.store (s := { s with heap := h1 }) (by omega) fun h2 sb2 x2 => ?_
    have hdm : to.dummies = #[] := Array.eq_empty_of_size_eq_zero (by simpa [Array.isEmpty] using rd.2)
    have hpl : to.place.size = eo.size := by
      unfold SetTable.fits at hf
      rw [Bool.and_eq_true, beq_iff_eq] at hf
      exact hf.1
    exact h h2 eo _ _ (sb1.trans sb2) x2 g nd hm hs ⟨hdm, hpl, hr, led2, by omega, by show (to.mask = 7 ∧ _) ∨ _; rw [← rd.1]; omega⟩ (fun z => by have z' : to.mask = 15 := z; rw [← rd.1] at z'; omega)
  · have er : t1.road to = .clean := by
      unfold SetTable.road
      rw [ef]
      simp only [bne_self_eq_false, Bool.false_eq_true, if_false]
      rw [if_neg]
      intro z
      rw [Bool.and_eq_true, beq_iff_eq] at z
      exact rd z
    rw [er]
    dsimp only
    obtain ⟨t', order, e, hp, m1, m2, m3, m4, m5, _⟩ := laid_ok (m := t1.mask) (f := t1.finger) (mv := t1.moves) (led := t1.led && to.led) (plain := t1.plain && to.plain) (hs := eo.map (·.1)) fr.1 (by rw [Array.size_map, hs]; exact fr.2)
    rw [e]
    dsimp only
    rw [Array.size_map] at hp m3
    have pm := order_perm eo order hp
    have hs2 : (order.filterMap (eo[·]?)).size = eo.size := by rw [← Array.length_toList, pm.length_eq, Array.length_toList]
    refine wpAny_bind ?_
    refine wp_if_neg (by rw [hs2]; simp [hs]) ?_
    try refine wpAny_bind (wpAny_pure ?_)
    refine wpAny_pure ?_
    dsimp only
    refine x1.store (s := { s with heap := h1 }) (by omega) fun h2 sb2 x2 => ?_
    exact h h2 _ _ t' (sb1.trans sb2) x2 (fun e he => g e (pm.mem_iff.mp he)) ((pm.map keyOf).nodup_iff.mpr nd) (fun k => (hm k).trans (pm.map keyOf).mem_iff.symm) (by omega)
      ⟨m2, by rw [m3, hs2], m4, by rw [m5]; exact led2, by omega, by rw [m1]; omega⟩ (fun z => by rw [m1] at z; omega)
end
end Un
end Ft
namespace Ft
open PySem L2 PySem.Spec PyProof.Rows
namespace Un
section
variable {P : Program} {w : World} {A : Around} {E : Value → Shared → Prop} {s : Shared} {r a : Addr}
/-- the walk that nobody sees -/
theorem unseen_at {es er : Array (Int × Value)} {ep epr : Nat} {t tr : SetTable} {Q : Array (Int × Value) → Shared → Prop} (y : At s.heap a es ep t) (x : At s.heap r er epr tr) (ne : r ≠ a) (g : ∀ e ∈ es.toList, GoodE e) (gr : ∀ e ∈ er.toList, GoodE e) (hf : t.fits es.size = true) (hfr : tr.fits er.size = true)
    (hl : w.params.followText "set-order" = true ∨ t.led = true) (hlr : w.params.followText "set-order" = true ∨ tr.led = true) (hrr : Ris tr.place.toList) (hz : er.size ≤ 4000)
    (h : ∀ h' (out : Array (Int × Value)) ep' tr', Heap.SameBut r s.heap h' → At h' r er ep' tr' → out.toList.Perm es.toList → tr'.fits er.size = true → Ris tr'.place.toList → (w.params.followText "set-order" = true ∨ tr'.led = true) → Q out { s with heap := h' }) :
    wpAny (model P w) A (setWalkUnseen a [r] (some r)) Q E s := by
  have walk : (w.params.followText "set-order" = true ∨ (t.plain && decide (es.size > 1)) = true ∨ es.size ≤ 1) → wpAny (model P w) A (setWalk a) Q E s := fun hc => by
    unfold setWalk
    refine wpAny_bind (y.state hf ?_)
    dsimp only
    refine wpAny_bind (wpAny_byText ?_)
    cases hb : w.params.followText "set-order" with
    | true =>
      refine wp_if_pos rfl ?_
      refine wpAny_bind (wpAny_askSetting ?_)
      exact wpAny_pure (h s.heap _ epr tr (Heap.SameBut.refl ..) x (pick_perm _ _) hfr hrr hlr)
    | false =>
      refine wp_if_neg (by simp) ?_
      have hled : t.led = true := hl.resolve_left (by rw [hb]; simp)
      try refine wpAny_bind (wpAny_pure ?_)
      refine wp_if_neg (?_ : ¬ ((!t.plain && decide (es.size > 1)) = true)) ?_
      · rcases hc with z | z | z
        · rw [hb] at z; cases z
        · rw [Bool.and_eq_true] at z; simp [z.1]
        · simp; omega
      try refine wpAny_bind (wpAny_pure ?_)
      refine wpAny_bind ?_
      refine wp_if_neg (?_ : ¬ ((!t.led && decide (es.size > 1)) = true)) ?_
      · simp [hled]
      refine wpAny_pure (wpAny_pure ?_)
      exact h s.heap es epr tr (Heap.SameBut.refl ..) x (List.Perm.refl _) hfr hrr hlr
  unfold setWalkUnseen
  refine wpAny_bind (y.state hf ?_)
  dsimp only
  refine wpAny_bind (wpAny_byText ?_)
  by_cases hc : (w.params.followText "set-order" || (t.led && t.plain) || decide (es.size ≤ 1)) = true
  · refine wp_if_pos hc ?_
    refine walk ?_
    rw [Bool.or_eq_true, Bool.or_eq_true, decide_eq_true_eq, Bool.and_eq_true] at hc
    by_cases h1 : es.size ≤ 1
    · exact .inr (.inr h1)
    · rcases hc with (hc | hc) | hc
      · exact .inl hc
      · exact .inr (.inl (by rw [hc.2]; simp; omega))
      · exact absurd hc h1
  · refine wp_if_neg hc ?_
    try refine wpAny_bind (wpAny_pure ?_)
    have quiet : ∀ {Q' : Bool → Shared → Prop}, Q' true s → wpAny (model P w) A (setsQuiet [a, r]) Q' E s := fun {Q'} q => by
      unfold setsQuiet
      refine wpAny_bind (wpAny_forIn_list _ (fun rest b s' => b = (none, ()) ∧ s' = s ∧ ∀ c ∈ rest, c = a ∨ c = r) _ ?_ ?_ _ _ ⟨rfl, rfl, fun c hc => by simpa using hc⟩)
      · rintro c rest b s' ⟨rfl, rfl, hc⟩
        have inner : ∀ {Q2 : (Array (Int × Value)) → Shared → Prop}, (∀ l, (∀ e ∈ l.toList, GoodE e) → Q2 l s') → wpAny (model P w) A (setEntries c) Q2 E s' := fun {Q2} q2 => by
          unfold setEntries
          rcases hc c List.mem_cons_self with e | e
          · subst e; exact wpAny_bind (y.state hf (wpAny_pure (q2 _ g)))
          · subst e; exact wpAny_bind (x.state hfr (wpAny_pure (q2 _ gr)))
        refine wpAny_bind (inner fun l hg => ?_)
        refine wpAny_bind (forIn_array_ _ (fun rest b s'' => b = (none, ()) ∧ s'' = s' ∧ ∀ e ∈ rest, GoodE e) _ ?_ ?_ l _ ⟨rfl, rfl, hg⟩)
        · rintro e rest b s'' ⟨rfl, rfl, he⟩
          obtain ⟨k, tk, e1, _⟩ := he e List.mem_cons_self
          obtain ⟨hh, v⟩ := e
          dsimp only at e1
          subst e1
          exact wpAny_pure ⟨rfl, rfl, fun e h => he e (List.mem_cons_of_mem _ h)⟩
        · rintro b s'' ⟨rfl, rfl, _⟩
          exact wpAny_pure ⟨rfl, rfl, fun c h => hc c (List.mem_cons_of_mem _ h)⟩
      · rintro b s' ⟨rfl, rfl, _⟩
        exact wpAny_pure q
    refine wpAny_bind (quiet ?_)
    refine wp_if_neg (by simp) ?_
    try refine wpAny_bind (wpAny_pure ?_)
    refine wpAny_bind (wpAny_rule ?_)
    try dsimp only
    refine wpAny_bind (x.state hfr ?_)
    dsimp only
    by_cases hq : ((tr.led && !t.led) || (tr.plain && !t.plain)) = true
    · refine wp_if_pos hq ?_
      refine wpAny_bind (x.store hz fun h1 sb1 x1 => ?_)
      refine wpAny_pure (h h1 es (epr + 1) _ sb1 x1 (List.Perm.refl _) hfr hrr ?_)
      rcases hlr with z | z
      · exact .inl z
      · rcases hl with q | q
        · exact .inl q
        · exact .inr (by show (tr.led && t.led) = true; rw [z, q]; rfl)
    · refine wp_if_neg hq ?_
      try refine wpAny_bind (wpAny_pure ?_)
      exact wpAny_pure (h s.heap es epr tr (Heap.SameBut.refl ..) x (List.Perm.refl _) hfr hrr hlr)
/-- the members of a set put into another one -/
theorem merge_into {S T : Int → Bool} {n m : Nat} {es : Array (Int × Value)} {ep : Nat} {t : SetTable} {id : String} {was : Nat} {Q : Unit → Shared → Prop} (x : At s.heap r es ep t) (g : ∀ e ∈ es.toList, GoodE e) (nd : (es.toList.map keyOf).Nodup) (hm : ∀ k, S k = true ↔ k ∈ es.toList.map keyOf) (Tb : Tab w t es.size)
    (h15 : t.mask = 15 → es.size ≤ 7) (hn : 1 ≤ es.size) (R : SetR w s.heap a T m) (hm8 : m ≤ 8) (ne : r ≠ a) (hwas : ∀ eo epo to, At s.heap a eo epo to → epo = was)
    (h : ∀ h' U k, Heap.SameBut r s.heap h' → SetR w h' r U k → (∀ j, U j = true ↔ S j = true ∨ T j = true) → k ≤ 16 → Q () { s with heap := h' }) :
    wpAny (model P w) A (setMerge r a (Builtin.Frozenset.unchanged id a was)) Q E s := by
  obtain ⟨eo, epo, to, y, go, ndo, hmo, hf, hs, hr, hl⟩ := setR_at R
  have hes := Tb.few
  rw [setMerge_eq]
  refine wp_if_neg (by simpa using ne) ?_
  try refine wpAny_bind (wpAny_pure ?_)
  refine wpAny_bind (y.state hf ?_)
  dsimp only
  by_cases h0 : eo.size = 0
  · have e0 : eo = #[] := Array.eq_empty_of_size_eq_zero h0
    subst e0
    refine wp_if_pos (by rfl) ?_
    refine wpAny_pure ?_
    have := h s.heap S es.size (Heap.SameBut.refl ..) (setR_of x g nd hm (by unfold scanBound; omega) Tb.fits Tb.ris Tb.led) (fun j => ⟨.inl, fun z => z.elim _root_.id fun z => by have := (hmo j).1 z; simp at this⟩) (by omega)
    exact this
  refine wp_if_neg (by simp only [Array.isEmpty, decide_eq_true_eq]; exact h0) ?_
  try refine wpAny_bind (wpAny_pure ?_)
  refine wpAny_bind (room_at x Tb (by omega) h15 fun h1 es1 ep1 t1 sb1 x1 pm1 T1 hc => ?_)
  have y1 : At h1 a eo epo to := y.move (sb1.2 a (Ne.symm ne))
  have sz1 : es1.size = es.size := by rw [← Array.length_toList, pm1.length_eq, Array.length_toList]
  refine wpAny_bind (x1.state (s := { s with heap := h1 }) T1.fits ?_)
  dsimp only
  have ef : t1.fill = es1.size := by unfold SetTable.fill; rw [T1.dm, T1.sz]; rfl
  have er : t1.road to = .oneByOne := by
    unfold SetTable.road
    rw [if_pos (by rw [ef, bne_iff_ne]; omega)]
  rw [er]
  dsimp only
  have g1 : ∀ e ∈ es1.toList, GoodE e := fun e he => g e (pm1.mem_iff.mp he)
  refine wpAny_bind (unseen_at (s := { s with heap := h1 }) y1 x1 ne go g1 hf T1.fits hl T1.led T1.ris (by omega) fun h2 out ep2 t2 sb2 x2 po f2 r2 l2 => ?_)
  have y2 : At h2 a eo epo to := y1.move (sb2.2 a (Ne.symm ne))
  have R2 : SetR w h2 r S es1.size := setR_of x2 g1 ((pm1.map keyOf).nodup_iff.mpr nd) (fun k => (hm k).trans (pm1.map keyOf).mem_iff.symm) (by unfold scanBound; omega) f2 r2 l2
  have szo : out.size = eo.size := by rw [← Array.length_toList, po.length_eq, Array.length_toList]
  refine wpAny_bind (forIn_array_ _ (fun rest b s' => ∃ h', s' = { s with heap := h' } ∧ Heap.SameBut r h2 h' ∧ (∃ U k, SetR w h' r U k ∧ k + rest.length ≤ 16 ∧ ∀ j, (U j = true ∨ j ∈ rest.map keyOf) ↔ (S j = true ∨ T j = true)) ∧ ∀ e ∈ rest, GoodE e) _ ?_ ?_ out _
    ⟨h2, rfl, Heap.SameBut.refl .., ⟨S, es1.size, R2, by rw [Array.length_toList]; omega, fun j => by rw [(po.map keyOf).mem_iff, ← hmo j]⟩, fun e he => go e (po.mem_iff.mp he)⟩)
  · rintro e rest b s' ⟨h', rfl, sb', ⟨U, k, R', hk, hU⟩, he⟩
    obtain ⟨i, tk, e1, e2⟩ := he e List.mem_cons_self
    obtain ⟨hh, v⟩ := e
    dsimp only at e1 e2
    subst e1 e2
    rw [List.length_cons] at hk
    refine wpAny_bind (wpAny_holding (setR_add_hashed (s := { s with heap := h' }) (k := i) (tk := tk) R' (by unfold scanBound; omega) fun h3 sb3 R3 => ?_))
    have y3 : At h3 a eo epo to := (y2.move (sb'.2 a (Ne.symm ne))).move (sb3.2 a (Ne.symm ne))
    have ew := hwas eo epo to y
    refine wpAny_bind ?_
    unfold Builtin.Frozenset.unchanged setEpoch
    refine wpAny_bind (wpAny_bind (y3.state (s := { s with heap := h3 }) hf (wpAny_pure ?_)))
    dsimp only
    refine wp_if_neg (by simpa using ew) ?_
    refine wpAny_pure ?_
    refine wpAny_bind (y3.state (s := { s with heap := h3 }) hf ?_)
    dsimp only
    refine wp_if_neg (by simp) ?_
    try refine wpAny_bind (wpAny_pure ?_)
    refine wpAny_pure ⟨h3, rfl, sb'.trans sb3, ⟨_, _, R3, by split <;> omega, fun j => ?_⟩, fun e h => he e (List.mem_cons_of_mem _ h)⟩
    rw [← hU j]
    simp only [Bool.or_eq_true, decide_eq_true_eq, List.map_cons, List.mem_cons, keyOf]
    constructor
    · rintro ((z | z) | z)
      · exact .inl z
      · exact .inr (.inl z)
      · exact .inr (.inr z)
    · rintro (z | z | z)
      · exact .inl (.inl z)
      · exact .inl (.inr z)
      · exact .inr z
  · rintro b s' ⟨h', rfl, sb', ⟨U, k, R', hk, hU⟩, he⟩
    exact wpAny_pure (h h' U k ((sb1.trans sb2).trans sb') R' (fun j => by rw [← hU j]; simp) (by simpa using hk))
end
end Un
end Ft
/-! Ft46: sorted({..} | {..}), sets of ints. -/
namespace Ft
open PySem L2 PySem.Spec PyProof.Rows
namespace Un
theorem slot_set_or : Slot "set" "__or__" "set.__or__" :=
  .of (owner := "set") (n := "__or__") (by rw [typeLookup_type, builtinLookup_eq_fast]; kernel_rfl) (by decide +kernel) (by decide +kernel) (by decide +kernel)
    (by first | exact .inl (by decide +kernel) | exact .inr (by decide +kernel)) (by rw [isSubtype_type]; kernel_rfl)
theorem entry_set_or : entryFor table "set.__or__" = some Builtin.«frozenset.__or__» :=
  entryFor_alias (id' := "frozenset.__or__") (by kernel_rfl) rfl (by decide +kernel) (by kernel_rfl)
theorem args_set_or (a b : Value) : argsOk "set.__or__" ⟨[a, b], []⟩ := by unfold argsOk; kernel_rfl
theorem fill_set_or : fillsNumberSlot (.type "set") "or" = pure true :=
  fillsNumberSlot_of (id := "set.__or__") slot_set_or.lookup (by decide +kernel) (r := some (.builtin "set.__ror__")) (by rw [typeLookup_type, builtinLookup_eq_fast]; kernel_rfl)
theorem or_eq (a b : Addr) : Builtin.«frozenset.__or__» ⟨[.ref a, .ref b], []⟩ = (do
  let (self, other) ← Builtin.Frozenset.slot1 "__or__" ⟨[.ref a, .ref b], []⟩
  let (l, r) := if false then (other, self) else (self, other)
  if !(← Builtin.Frozenset.isAnySet l <&&> Builtin.Frozenset.isAnySet r) then rule s!"frozenset.{"__or__"}.declined"; return ← ret .notImplemented
  let l' ← Builtin.Frozenset.addrOf l
  ret (← (do
    let result ← Builtin.Frozenset.copyOf l'
    if r != .ref l' then holding [result] (Builtin.Frozenset.updateFrom s!"frozenset.{"__or__"}" (← Builtin.Frozenset.addrOf result) r)
    return result : Sem Value))) := by rfl
section
variable {P : Program} {w : World} {A : Around} {E : Value → Shared → Prop} {s : Shared} {a b : Addr}
theorem anySet_at {v : Value} {Q : Bool → Shared → Prop} (hT : s.TypeIs v "set") (h : Q true s) : wpAny (model P w) A (Builtin.Frozenset.isAnySet v) Q E s := by
  unfold Builtin.Frozenset.isAnySet orM
  refine wpAny_bind (wpAny_isInstance (b := true) hT sub_set_self ?_)
  exact wpAny_pure h
theorem call_or {S T : Int → Bool} {n m : Nat} {Q : Value → Shared → Prop} (R : SetR w s.heap a S n) (R2 : SetR w s.heap b T m) (hn : 1 ≤ n ∧ n ≤ 8) (hm : m ≤ 8) (ne : a ≠ b)
    (h : ∀ h' U k, (∀ c o, s.heap.get? c = some o → h'.get? c = some o) → SetR w h' s.heap.objs.size U k → (∀ j, U j = true ↔ S j = true ∨ T j = true) → k ≤ 16 → Q (.ref s.heap.objs.size) { s with heap := h' }) :
    wpAny (model P w) A (call (.builtin "set.__or__") [.ref a, .ref b]) Q E s := by
  have hTa : s.TypeIs (.ref a) "set" := (R.setOf (P := P)).typeIs
  have hTb : s.TypeIs (.ref b) "set" := (R2.setOf (P := P)).typeIs
  refine wpAny_call_entry slot_set_or hTa entry_set_or ?_ (args_set_or _ _)
  rw [or_eq]
  refine wpAny_bind (wpAny_of_eq (a := (.ref a, .ref b)) (by rfl) ?_)
  dsimp only
  refine wpAny_bind ?_
  try simp only [Bool.false_eq_true, if_false]
  unfold andM
  refine wpAny_bind (anySet_at hTa ?_)
  try simp only [if_true]
  refine anySet_at hTb ?_
  refine wp_if_neg (by simp) ?_
  try refine wpAny_bind (wpAny_pure ?_)
  refine wpAny_bind ?_
  refine wpAny_bind (m := Builtin.Frozenset.copyOf a) ?_
  unfold Builtin.Frozenset.copyOf
  refine wpAny_bind (m := Builtin.Frozenset.baseOf a) ?_
  unfold Builtin.Frozenset.baseOf
  refine wpAny_bind (wpAny_isInstance (b := true) hTa sub_set_self ?_)
  refine wpAny_pure ?_
  try simp only [if_true]
  refine wpAny_bind (PpSet.newSet_ok ?_)
  have ltA : a < s.heap.objs.size := R.lt
  have ltB : b < s.heap.objs.size := R2.lt
  have R0 := setR_fresh (h := s.heap) w
  have kp : ∀ c o, s.heap.get? c = some o → (s.heap.push { cls := .type "set", dict := none, data := .set #[] 0 (.fresh 0 0 (!w.params.followText "set-order")) }).get? c = some o := fun c o e => Heap.get?_push_of_some _ e
  have x0 : At (s.heap.push { cls := .type "set", dict := none, data := .set #[] 0 (.fresh 0 0 (!w.params.followText "set-order")) }) s.heap.objs.size #[] 0 (.fresh 0 0 (!w.params.followText "set-order")) :=
    ⟨_, Heap.get?_push_size _ rfl, ⟨rfl, rfl, rfl⟩, rfl⟩
  have T0 : Tab w (.fresh 0 0 (!w.params.followText "set-order")) 0 := ⟨rfl, rfl, List.Pairwise.nil, by
    show _ ∨ (!w.params.followText "set-order") = true
    cases w.params.followText "set-order"
    · exact .inr rfl
    · exact .inl rfl, by omega, .inl ⟨rfl, by omega⟩⟩
  generalize s.heap.push { cls := .type "set", dict := none, data := .set #[] 0 (.fresh 0 0 (!w.params.followText "set-order")) } = h0 at kp x0
  refine wpAny_bind (m := Builtin.Frozenset.addrOf (.ref s.heap.objs.size)) (wpAny_pure ?_)
  refine wpAny_bind (merge_new (s := { s with heap := h0 }) x0 T0 rfl (R.at fun o e => kp _ _ e) hn (Nat.ne_of_gt ltA) fun h1 es1 ep1 t1 sb1 x1 g1 nd1 m1 z1 T1 h15 => ?_)
  refine wpAny_pure ?_
  have R2' : SetR w h1 b T m := (R2.at fun o e => kp _ _ e).at fun o e => (sb1.2 b (Nat.ne_of_lt ltB)).trans e
  refine wp_if_pos (by simpa using Ne.symm ne) ?_
  refine wpAny_bind (m := Builtin.Frozenset.addrOf (.ref s.heap.objs.size)) (wpAny_pure ?_)
  refine wpAny_bind (wpAny_holding ?_)
  unfold Builtin.Frozenset.updateFrom
  have hTb1 : Shared.TypeIs { s with heap := h1 } (.ref b) "set" := (R2'.setOf (P := P)).typeIs
  refine wpAny_bind (anySet_at (s := { s with heap := h1 }) hTb1 ?_)
  refine wp_if_pos rfl ?_
  refine wpAny_bind (m := Builtin.Frozenset.addrOf (.ref b)) (wpAny_pure ?_)
  unfold Builtin.Frozenset.merge
  obtain ⟨eo, epo, to, y, go, ndo, hmo, hf, hs, hr, hl⟩ := setR_at R2'
  have ⟨ob, o1, o2, o3⟩ := y
  refine wpAny_bind (wpAny_setEpoch_of (s := { s with heap := h1 }) o1 o3 hf ?_)
  refine merge_into (n := n) (s := { s with heap := h1 }) x1 g1 nd1 m1 T1 (fun z => by have := h15 z; omega) (by omega) R2' hm (Nat.ne_of_gt ltB) (fun e2 ep2 t2 y2 => ?_) fun h2 U k sb2 R3 hU hk => ?_
  · obtain ⟨o', p1, p2, p3⟩ := y2
    have p1 : h1.get? b = some o' := p1
    rw [o1] at p1; cases p1
    rw [o3] at p3; cases p3
    rfl
  · refine wpAny_pure ?_
    refine wpAny_pure ⟨_, rfl, h h2 U k (fun c o e => ?_) R3 hU hk⟩
    have ltc : c < s.heap.objs.size := Heap.lt_size e
    exact (sb2.2 c (Nat.ne_of_lt ltc)).trans ((sb1.2 c (Nat.ne_of_lt ltc)).trans (kp c o e))
/-- a | b -/
def rUnion (w : World) : V → V → Hp → VK → Prop := fun x y H Q => ∃ (a b : Addr) (S T : Int → Bool) (n m : Nat), x = .ref a ∧ y = .ref b ∧ a ≠ b ∧ H a = some (SetO w a S n) ∧ H b = some (SetO w b T m) ∧ (∃ k, S k = true) ∧ n ≤ 8 ∧ m ≤ 8 ∧
  ∀ (p : Addr) U k, H p = none → (∀ j, U j = true ↔ S j = true ∨ T j = true) → k ≤ 16 → Q (.ref p) (upd H p (SetO w p U k))
theorem op_union {X : Cx} : OpR X (binaryOp .BitOr) (rUnion X.w) := by
  intro pins s σ H x y v u Q I rx ry h
  obtain ⟨a, b, S, T, n, m, rfl, rfl, ne, ha, hb, h1, h2, h3, q⟩ := h
  cases rx
  cases ry
  have R := setO_get I ha
  have R2 := setO_get I hb
  refine wpAny_binaryOp_same (T := "set") (R.setOf (P := X.prog)).typeIs (R2.setOf (P := X.prog)).typeIs fill_set_or slot_set_or ?_
  have h1 : 1 ≤ n := by
    obtain ⟨k, hk⟩ := h1
    obtain ⟨es, _, _, _, _, _, hm, _, hs, _⟩ := setR_at R
    have := (hm k).1 hk
    rw [← hs]
    rcases Nat.eq_zero_or_pos es.size with z | z
    · have e0 : es = #[] := Array.eq_empty_of_size_eq_zero z
      rw [e0] at this; simp at this
    · exact z
  refine call_or R R2 ⟨h1, h2⟩ h3 ne fun h' U k keep R3 hU hk => ⟨(fun z => nomatch z), ?_⟩
  exact ⟨.ref _, upd H s.heap.objs.size (SetO X.w s.heap.objs.size U k), I.laid (t' := s.toks) keep (Nat.le_refl _) (setO_new R3), rfl, q _ U k (I.hok.fresh (Nat.le_refl _)) hU hk⟩
end
end Un
end Ft

namespace Ft
open PySem L2 PySem.Spec PyProof.Rows PpSet
section
variable {X : Cx}
theorem addI_ok {pins : List (Addr × Obj)} {σ : Sg} {H : Hp} {s : Shared} {E : Value → Shared → Prop} {D : Addr} {S : Int → Bool} {n : Nat} {y : Int} {tk : Tok} {Q : Value → Shared → Prop} (I : Inv X pins σ H s) (hD : H D = some (SetO X.w D S n)) (room : n + 1 < scanBound)
    (h : ∀ s', Inv X pins σ (upd H D (SetO X.w D (fun j => S j || decide (j = y)) (if S y = true then n else n + 1))) s' → Q .none s') : wpAny (model X.prog X.w) X.A (call (.builtin "set.add") [.ref D, .int y tk]) Q E s := by
  refine setR_add (setO_get I hD) room fun h' sb new => ?_
  have he : ∃ u, h'.get? D = some u := by
    have ⟨o, _, _, _, ho, _⟩ := new
    exact ⟨o, ho⟩
  exact h _ (I.write (e := D) (t' := s.toks + 1) (by rw [hD]; trivial) (.inl rfl) (fun b u hb hu => (sb.2 b hb).trans hu) he (setO_new new))
/-- {elt for target in iter if ..}, ints: D the new set -/
def tScI (w : World) (wi : TI) (g : TG) (tt : TT) (te : TE) (vs : List Nat) : TE := fun σ H Q => wi σ H fun J H1 => ∀ D, H1 D = none → ∃ W : Nat → Nat → Hp → Prop, (∃ m, W 0 m (upd H1 D (SetO w D (fun _ => false) 0))) ∧ ∀ i m H, W i m H →
  (J.stop i H ∧ Q (.ref D) H) ∨ (J.go i H ∧ ∃ Nx : Hp → Prop, (∀ H', Nx H' → ∃ m', m' < m ∧ W (i + 1) m' H') ∧ ∀ x H', J.yld i H x H' → g x (wipe σ vs) H' fun σ2 H2 => wipe σ2 vs = wipe σ vs ∧ tt σ2 H2 fun b H3 =>
    if b = true then te σ2 H3 fun y H4 => ∃ (c : Int) (S : Int → Bool) (n : Nat), y = .int c ∧ H4 D = some (SetO w D S n) ∧ n + 1 < scanBound ∧ Nx (upd H4 D (SetO w D (fun j => S j || decide (j = c)) (if S c = true then n else n + 1))) else Nx H3)
theorem scI_run {pins : List (Addr × Obj)} {s : Shared} {σ : Sg} {H : Hp} {Q : VK} {elt tg iter : Expr} {ifs : List Expr} {scope : Scope} {own : List (Str × Nat)} {pos pos' : Pos} {wi : TI} {g : TG} {tt : TT} {te : TE} {use : Option (Value → Sem Unit)} {Qf : Value → Shared → Prop}
    (calm : X.calm = true) (nod : X.N.Nodup) (I : Inv X pins σ H s) (hi : PI X tg iter wi) (ok : BlkOk X.N X.env.scope scope own) (hg : ∀ (t : Shared) (G : Hp) (C : Addr) (cl : List (Str × Addr)) (fp : List Addr), PG (X.blk t G scope (compEnvC scope cl C X.env) fp) tg g)
    (ht : ∀ (t : Shared) (G : Hp) (C : Addr) (cl : List (Str × Addr)) (fp : List Addr), PTs (X.blk t G scope (compEnvC scope cl C X.env) fp) ifs tt)
    (he : ∀ (t : Shared) (G : Hp) (C : Addr) (cl : List (Str × Addr)) (fp : List Addr), PE (X.blk t G scope (compEnvC scope cl C X.env) fp) elt te) (hs : ∀ x, foldedSetIterable iter X.env x = pure x) (h : tScI X.w wi g tt te (own.map (·.2)) σ H Q)
    (fin : ∀ D C t m G, Inv X pins σ G t → Q (.ref D) G → t.heap.Ns C m → FpOk X pins G C → compPost (model X.prog X.w) X.A X.xe use Qf (.ref D) C (.ok .next) t) :
    wpAny (model X.prog X.w) X.A (comprehension (.SetComp elt [⟨tg, iter, ifs, 0⟩] scope pos) scope X.env pos' (newSet (.type "set")) false (eval iter X.env) use) Qf X.xe s := by
  have free : ∀ y ∈ scope.names, y.2 = .free → ∃ c, X.env.cells.lookup y.1 = some c := fun y hy e => (ok.free y hy e).elim (fun k => I.ok.has _ (.inl k)) fun k => I.ok.has _ (.inr k)
  refine wpAny_comprehension_free (use := use) rfl hs (closure_ok free) ok.kind (fun y hy e => by rw [ok.uniq y hy, e]) (thn (hi.run pins s σ H _ I h) fun xv s1 hx => thn hx fun itv s2 back => ?_)
  obtain ⟨it, fp, tn, J, H2, rfl, I2, T, st2, f2, q⟩ := back
  refine newSet_ok (newEnv_comp ?_)
  generalize eqD : s2.heap.objs.size = D
  have noD : H2 D = none := I2.hok.fresh (Nat.le_of_eq eqD)
  obtain ⟨W, ⟨m0, w0⟩, turn⟩ := q D noD
  generalize eq3 : ({ s2 with heap := s2.heap.push { cls := .type "set", dict := none, data := .set #[] 0 (.fresh 0 0 (!X.w.params.followText "set-order")) } } : Shared) = s3
  have hp3 : s3.heap = s2.heap.push { cls := .type "set", dict := none, data := .set #[] 0 (.fresh 0 0 (!X.w.params.followText "set-order")) } := by rw [← eq3]
  have I3 : Inv X pins σ (upd H2 D (SetO X.w D (fun _ => false) 0)) s3 := by
    subst eq3 eqD
    exact I2.laid (t' := s2.toks) (fun b o e => Heap.get?_push_of_some _ e) (Nat.le_refl _) (setO_new (setR_fresh X.w))
  have lts : ∀ b ∈ fp, b < s2.heap.objs.size := fun b hb => (T.obj _ _ st2 b hb).elim fun o e => Heap.lt_size e.1
  have f3 : ∀ b ∈ fp, FpOk X pins (upd H2 D (SetO X.w D (fun _ => false) 0)) b ∧ b < s3.heap.objs.size := fun b hb => by
    have lt := lts b hb
    refine ⟨⟨(upd_ne (by rw [← eqD]; exact Nat.ne_of_lt lt)).trans (f2 b hb).1, (f2 b hb).2⟩, ?_⟩
    rw [hp3, Heap.size_push]; exact Nat.lt_succ_of_lt lt
  have st3 : tn 0 s3.heap := T.keep _ _ _ st2 fun b _ o e => by rw [hp3]; exact Heap.get?_push_of_some _ e
  have I4 := block_start I3 ok nod f3
  generalize hcl : cellsFrom (s3.heap.objs.size + 1) scope.names (cloFrom X.env.cells scope.names []) = cl at I4
  have pg := hg s3 (upd H2 D (SetO X.w D (fun _ => false) 0)) s3.heap.objs.size cl fp
  have pt := ht s3 (upd H2 D (SetO X.w D (fun _ => false) 0)) s3.heap.objs.size cl fp
  have pe := he s3 (upd H2 D (SetO X.w D (fun _ => false) 0)) s3.heap.objs.size cl fp
  show codeAny _ _ (.compStart (.SetComp elt [⟨tg, iter, ifs, 0⟩] scope pos) 0 (.ref it) (.ref D) (compEnvC scope cl s3.heap.objs.size X.env)) (compPost (model X.prog X.w) X.A X.xe use Qf (.ref D) s3.heap.objs.size) { s3 with heap := pushCells (s3.heap.push { cls := .type "dict", data := .dict #[] }) scope.names }
  have nfp : ∀ b ∈ fp, (upd H2 D (SetO X.w D (fun _ => false) 0)) b = none := fun b hb => (f3 b hb).1.1
  generalize hce : compEnvC scope cl s3.heap.objs.size X.env = ce at I4 pg pt pe ⊢
  have cL : ce.locals = s3.heap.objs.size := by subst hce; rfl
  generalize upd H2 D (SetO X.w D (fun _ => false) 0) = H3 at I3 I4 pg pt pe w0 nfp f3
  generalize hs4 : ({ s3 with heap := pushCells (s3.heap.push { cls := .type "dict", data := .dict #[] }) scope.names } : Shared) = s4 at I4 ⊢
  have st4 : tn 0 s4.heap := T.keep _ _ _ st3 fun b _ o e => by subst hs4; exact pushCells_keeps _ _ _ _ (Heap.get?_push_of_some _ e)
  have stat : ∀ {σ' : Sg} {G : Hp} {t : Shared}, Inv (X.blk s3 H3 scope ce fp) [] σ' G t → (∀ b ∈ fp, G b = none) → ∀ b ∈ fp, FpOk (X.blk s3 H3 scope ce fp) [] G b := fun {σ' G t} J' hn b hb =>
    ⟨hn b hb, (J'.ok.exf b hb).1, J'.ok.exfs b hb, .inl hb, fun x c e => (J'.ok.exf b hb).2 x c e, fun p hp => absurd (show p ∈ ([] : List (Addr × Obj)) ++ [] from hp) (by simp)⟩
  have loop : codeAny (model X.prog X.w) X.A (.compLoop (.SetComp elt [⟨tg, iter, ifs, 0⟩] scope pos) 0 (.ref it) (.ref D) ce) (compPost (model X.prog X.w) X.A X.xe use Qf (.ref D) s3.heap.objs.size) s4 := by
    refine compLoopS_any (fun n t => ∃ i G, Inv (X.blk s3 H3 scope ce fp) [] (wipe σ (own.map (·.2))) G t ∧ tn i t.heap ∧ (∀ b ∈ fp, G b = none) ∧ W i n G) ?_ m0 ⟨0, H3, I4, st4, nfp, w0⟩
    rintro n s5 ⟨i, H5, I5, st5, n5, w5⟩
    rcases turn i n H5 w5 with ⟨stop, qq⟩ | ⟨more, Nx, hNx, step⟩
    · refine thnF (T.done (X.blk s3 H3 scope ce fp) rfl rfl rfl calm i [] s5 _ H5 (fun _ _ => False) I5 (stat I5 n5) st5 stop) fun r s6 ⟨hr, I6⟩ => ?_
      subst hr
      have I7 : Inv X pins σ H5 s6 := I3.call' (ch := fp) I6.os I6.base I6.hok I6.bare fun b hb => ⟨(f3 b hb).1.2.2.2.1, (f3 b hb).1.2.1, (f3 b hb).1.2.2.2.2.1, (f3 b hb).1.2.2.2.2.2⟩
      have nC : H5 ce.locals = none := I6.free
      obtain ⟨m, hn, _⟩ := I6.loc
      have hn : s6.heap.Ns ce.locals m := hn
      rw [cL] at hn nC
      exact fin D s3.heap.objs.size s6 m H5 I7 qq hn (I3.fpOk (Nat.le_refl _) nC)
    · refine thnF (T.item (X.blk s3 H3 scope ce fp) rfl rfl rfl calm i [] s5 _ H5 (fun _ _ => False) I5 (stat I5 n5) st5 more) fun r s6 ⟨u, hr, h6⟩ => ?_
      subst hr
      refine thnF h6 fun _ s7 ⟨x, H7, I7, r7, y7, st7, n7⟩ => ?_
      refine thnF (pg.run _ s7 _ H7 x u _ (I7.pinned (stat I7 n7) (T.obj _ _ st7)) r7 (step x H7 y7)) fun _ s8 ⟨σ8, H8, I8, hw8, q8⟩ => thnF (pt.run _ s8 σ8 H8 _ I8 q8) fun b s9 ⟨H9, I9, q9⟩ => ?_
      have close : ∀ {t : Shared} {G : Hp}, Inv (X.blk s3 H3 scope ce fp) ([] ++ pinsAt fp s7.heap) σ8 G t → Nx G → ∃ m, m < n ∧ ∃ i G, Inv (X.blk s3 H3 scope ce fp) [] (wipe σ (own.map (·.2))) G t ∧ tn i t.heap ∧ (∀ b ∈ fp, G b = none) ∧ W i m G := fun {t G} I' nx => by
        obtain ⟨m', hm, w'⟩ := hNx G nx
        have pin : ∀ b ∈ fp, ∀ o, s7.heap.get? b = some o → t.heap.get? b = some o ∧ G b = none := fun b hb o e => ⟨(I'.pin (b, o) (List.mem_append_right _ (List.mem_append_right _ (mem_pinsAt hb e)))).1, (I'.pin (b, o) (List.mem_append_right _ (List.mem_append_right _ (mem_pinsAt hb e)))).2.1⟩
        refine ⟨m', hm, i + 1, G, (I'.unpinned (pins := [])).weak (by rw [← hw8, wipe_length]) (fun j v e => ?_), T.keep _ _ _ st7 fun b hb o e => (pin b hb o e).1, fun b hb => (T.obj _ _ st7 b hb).elim fun o e => (pin b hb o e.1).2, w'⟩
        rw [← hw8] at e
        exact (wipe_some e).1
      cases b with
      | false => exact close I9 (by simpa using q9)
      | true =>
        have q9 := (if_pos rfl).mp q9
        rw [if_pos rfl]
        refine thnF (pe.run _ s9 σ8 H9 _ I9 q9) fun z s10 ⟨yk, H10, I10, r10, c, S, k, ec, eD, sz, nx⟩ => ?_
        subst ec
        obtain ⟨tk, rfl⟩ := r10
        exact addI_ok (X := X.blk s3 H3 scope ce fp) I10 eD sz fun s12 I12 => close I12 nx
  exact codeAny_compStart_set loop (T.self X.A 0 _ _ _ st4 loop)
theorem pe_scI {elt tg iter : Expr} {ifs : List Expr} {scope : Scope} {own : List (Str × Nat)} {pos : Pos} {wi : TI} {g : TG} {tt : TT} {te : TE} (calm : X.calm = true) (nod : X.N.Nodup) (hi : PI X tg iter wi) (ok : BlkOk X.N X.env.scope scope own)
    (hg : ∀ (t : Shared) (G : Hp) (C : Addr) (cl : List (Str × Addr)) (fp : List Addr), PG (X.blk t G scope (compEnvC scope cl C X.env) fp) tg g) (ht : ∀ (t : Shared) (G : Hp) (C : Addr) (cl : List (Str × Addr)) (fp : List Addr), PTs (X.blk t G scope (compEnvC scope cl C X.env) fp) ifs tt)
    (he : ∀ (t : Shared) (G : Hp) (C : Addr) (cl : List (Str × Addr)) (fp : List Addr), PE (X.blk t G scope (compEnvC scope cl C X.env) fp) elt te) (hs : ∀ x, foldedSetIterable iter X.env x = pure x := by intro _; rfl) :
    PE X (.SetComp elt [⟨tg, iter, ifs, 0⟩] scope pos) (tScI X.w wi g tt te (own.map (·.2))) := by
  refine ⟨fun pins s σ H Q I h => ?_⟩
  rw [eval_SetComp]
  refine scI_run calm nod I hi ok hg ht he hs h fun D C t m G I' q hn f => ⟨m, hn, fun h2 sb => ?_⟩
  obtain ⟨f0, f1, f2, f3, f4, f5⟩ := f
  exact ⟨.ref D, G, I'.turned (t' := t.toks) (fun b o hb e => (sb.2 b hb).trans e) f0 f1 f3 f4 f5, rfl, q⟩
end
/-! ### as combinators -/
/-- a set of these ints, that nobody owns -/
def SetIn (w : World) (F H : Hp) (a : Addr) (l : List Int) : Prop := F a = none ∧ ∃ S n, H a = some (SetO w a S n) ∧ n ≤ l.length ∧ ∀ k, S k = true ↔ k ∈ l
theorem SetIn.go {K : PySem.W.Frag} {w : World} {ρ ρ' : Rho} {σ σ' : Sg} {F H F' H' : Hp} {a : Addr} {l : List Int} (g : Go K ρ σ F H ρ' σ' F' H') (o : SetIn w F H a l) (n : ¬ Own ρ σ a) : SetIn w F' H' a l ∧ ¬ Own ρ' σ' a := by
  obtain ⟨f, S, k, h, r⟩ := o
  obtain ⟨h1, h2, h3⟩ := g.keep a _ h n
  exact ⟨⟨h2 (fun vs z => by unfold SetO at z; cases z) f, S, k, h1, r⟩, h3⟩
def AfU (K : PySem.W.Frag) (W : Wt) (w : World) (ρ : Rho) (σ : Sg) (F H : Hp) (Q : VK) : RE (List Int) → Prop
  | .ok l ρ' => ∀ a F' H', Go K ρ σ F H ρ' σ F' H' → SetIn w F' H' a l → H a = none → ¬ Own ρ' σ a → Q (.ref a) H'
  | .ex x ρ' => ∀ c dx F' H', Go K ρ σ F H ρ' σ F' H' → W.xr x c dx H' → W.E c dx H'
  | .no => False
theorem AfU.at {K : PySem.W.Frag} {W : Wt} {w : World} {ρ ρ' : Rho} {σ : Sg} {F H F' H' : Hp} {Q : VK} (g : Go K ρ σ F H ρ' σ F' H') : ∀ {r : RE (List Int)}, AfU K W w ρ σ F H Q r → AfU K W w ρ' σ F' H' Q r
  | .ok m _, q => fun a F2 H2 g2 r n no => q a F2 H2 (g.trans g2) r (by
      cases e : H a with
      | none => rfl
      | some o =>
        obtain ⟨o', z⟩ := g.there a o e
        rw [n] at z; cases z) no
  | .ex x _, q => fun c dx F2 H2 g2 z => q c dx F2 H2 (g.trans g2) z
  | .no, q => q
theorem AfU.bind {K : PySem.W.Frag} {W : Wt} {w : World} {α β : Type} {R : Sg → Hp → α → β → Prop} {ρ : Rho} {σ : Sg} {F H : Hp} {Q : VK} {d : Rho → RE α} {f : α → Rho → RE (List Int)} (s : SR K ρ σ F H) (q : AfU K W w ρ σ F H Q ((d ρ).bind f)) {P : β → Hp → Prop}
    (k : ∀ a v ρ1 F1 H1, Go K ρ σ F H ρ1 σ F1 H1 → R σ F1 a v → AfU K W w ρ1 σ F1 H1 Q (f a ρ1) → P v H1) : tG K W R d σ H P := by
  refine ⟨ρ, F, s, ?_⟩
  cases hd : d ρ with
  | no => simp only [hd, RE.bind] at q; exact q
  | ex x ρ' => simp only [hd, RE.bind] at q; exact q
  | ok a ρ1 =>
    simp only [hd, RE.bind] at q
    exact fun v F1 H1 g r => k a v ρ1 F1 H1 g r (q.at g)
def compSI (bd : Bd) (ifs : Tn) (elt : Dn) (vs : List Nat) : List D → List Int → Rho → RE (List Int)
  | [], acc, ρ => .ok acc ρ
  | d :: l, acc, ρ => match bd d ρ with
    | none => .no
    | some ρ1 => match ifs ρ1 with
      | .ok false ρ2 => compSI bd ifs elt vs l acc (wipeR ρ2 vs)
      | .ok true ρ2 => match elt ρ2 with
        | .ok (.int c) ρ3 => if acc.length < 1000 then compSI bd ifs elt vs l (acc ++ [c]) (wipeR ρ3 vs) else .no
        | _ => .no
      | _ => .no
def setC (src : In) (bd : Bd) (ifs : Tn) (elt : Dn) (vs : List Nat) : Rho → RE (List Int) := fun ρ => (src ρ).bind fun l ρ1 => match compSI bd ifs elt vs l [] (wipeR ρ1 vs) with
  | .ok r ρ2 => .ok r (restore ρ1 ρ2 vs)
  | _ => .no
def tU (K : PySem.W.Frag) (W : Wt) (w : World) (d : Rho → RE (List Int)) : TE := fun σ H Q => ∃ ρ F, SR K ρ σ F H ∧ AfU K W w ρ σ F H Q (d ρ)
section
variable {X : Cx} {W : Wt} {tg e e2 e3 : Expr} {pos p : Pos}
theorem compSI_tail {bd : Bd} {ts vs : List Nat} {ifs : Tn} {elt : Dn} {g : TG} {σ : Sg} {H1 : Hp} {Q : VK} {J : It} {l : List D} {ρ1 : Rho} {F1 : Hp} (hr : TgR X.K g bd ts) (sub : ∀ i ∈ ts, i ∈ vs) (s1 : SR X.K ρ1 σ F1 H1) (wk : Walk X.K J l F1)
    (q1 : AfU X.K W X.w ρ1 σ F1 H1 Q (match compSI bd ifs elt vs l [] (wipeR ρ1 vs) with | .ok r ρ2 => .ok r (restore ρ1 ρ2 vs) | _ => .no)) :
    tScI X.w (fun _ H R => R J H) g (tT X.K ⟨W.xr, E0⟩ ifs) (tE X.K ⟨W.xr, E0⟩ elt) vs σ H1 Q := by
  intro D hD
  have h0 : ∀ j ∈ vs, ∀ m, (wipeR ρ1 vs)[j]? ≠ some (.own m false) := fun j hj m e => by have := wipeR_in hj _ e; cases this
  have noD : ¬ Own ρ1 σ D := fun z => by
    obtain ⟨o, eo⟩ := z.there s1
    rw [hD] at eo; cases eo
  have FD : F1 D = none := sub_none s1.sub hD
  refine ⟨fun i m H' => ∃ ρb Fb acc, Go X.K (wipeR ρ1 vs) (wipe σ vs) F1 H1 ρb (wipe σ vs) Fb H' ∧ SetIn X.w Fb H' D acc ∧ ¬ Own ρb (wipe σ vs) D ∧ i ≤ l.length ∧ m = l.length - i ∧
      AfU X.K W X.w ρ1 σ F1 H1 Q (match compSI bd ifs elt vs (l.drop i) acc ρb with | .ok r ρ2 => .ok r (restore ρ1 ρ2 vs) | _ => .no),
    ⟨l.length, wipeR ρ1 vs, F1, [], (Go.refl s1.wipe).grow hD FD fun z => noD (own_wipe z), ⟨FD, _, 0, upd_same, Nat.le_refl _, fun k => by simp⟩, fun z => noD (own_wipe z), Nat.zero_le _, rfl, q1⟩, ?_⟩
  rintro i m H2 ⟨ρb, Fb, acc, gb, ob, nb, hi, rfl, q2⟩
  by_cases hl : i < l.length
  · obtain ⟨go, yd⟩ := wk.go i Fb H2 gb.sub gb.sr.sub hl
    refine .inr ⟨go, fun H' => ∃ ρb Fb acc, Go X.K (wipeR ρ1 vs) (wipe σ vs) F1 H1 ρb (wipe σ vs) Fb H' ∧ SetIn X.w Fb H' D acc ∧ ¬ Own ρb (wipe σ vs) D ∧
      AfU X.K W X.w ρ1 σ F1 H1 Q (match compSI bd ifs elt vs (l.drop (i + 1)) acc ρb with | .ok r ρ2 => .ok r (restore ρ1 ρ2 vs) | _ => .no), fun H' ⟨a1, a2, a3, a4, a5, a6, a7⟩ => ⟨l.length - (i + 1), by omega, a1, a2, a3, a4, a5, a6, hl, rfl, a7⟩, fun x H3 y => ?_⟩
    obtain ⟨F3, dd, f, hd, r⟩ := yd x H3 y
    have g3 := gb.trans (f.go gb.sr)
    have hd' : l.drop i = dd :: l.drop (i + 1) := by
      obtain ⟨h1, h2⟩ := List.getElem?_eq_some_iff.mp hd
      rw [← h2]; exact List.drop_eq_getElem_cons h1
    rw [hd'] at q2
    unfold compSI at q2
    cases hb : bd dd ρb with
    | none => rw [hb] at q2; exact q2.elim
    | some ρ4 =>
      simp only [hb] at q2
      refine hr _ _ _ _ _ _ _ _ g3.sr r hb fun σ4 g4 kp => ?_
      have we := wipe_keep kp sub
      obtain ⟨o3, n3⟩ := SetIn.go ((f.go gb.sr).trans g4) ob nb
      have g5 := g3.trans g4
      refine ⟨we, ρ4, F3, g4.sr, ?_⟩
      cases hif : ifs ρ4 with
      | no => simp only [hif] at q2; exact q2.elim
      | ex x ρ5 => simp only [hif] at q2; exact q2.elim
      | ok b ρ5 =>
        intro b' F5 H5 g6 eb
        subst eb
        obtain ⟨o5, n5⟩ := SetIn.go g6 o3 n3
        cases b' with
        | false =>
          simp only [hif] at q2
          rw [if_neg Bool.false_ne_true]
          exact ⟨wipeR ρ5 vs, F5, acc, (g5.trans g6).wiped we h0, o5, fun z => n5 (own_wipe (vs := vs) (by rw [we]; exact z)), q2⟩
        | true =>
          simp only [hif] at q2
          rw [if_pos rfl]
          refine ⟨ρ5, F5, g6.sr, ?_⟩
          cases hel : elt ρ5 with
          | no => simp only [hel] at q2; exact q2.elim
          | ex x ρ6 => simp only [hel] at q2; exact q2.elim
          | ok x ρ6 =>
            intro yv F6 H6 g7 ry
            obtain ⟨o6, n6⟩ := SetIn.go g7 o5 n5
            obtain ⟨fD, S, n, eD, ln, mS⟩ := o6
            simp only [hel] at q2
            cases x with
            | int c =>
              simp only [Rep] at ry
              subst ry
              dsimp only at q2
              by_cases hz : acc.length < 1000
              · rw [if_pos hz] at q2
                refine ⟨c, S, n, rfl, eD, by unfold scanBound; omega, wipeR ρ6 vs, F6, acc ++ [c], ?_, ⟨fD, _, _, upd_same, by rw [List.length_append]; split <;> simp <;> omega, fun k => by simp [mS k]⟩, fun z => n6 (own_wipe (vs := vs) (by rw [we]; exact z)), q2⟩
                exact (((g5.trans g6).trans g7).wiped we h0).grow hD fD fun z => n6 (own_wipe (vs := vs) (by rw [we]; exact z))
              · rw [if_neg hz] at q2; exact q2.elim
            | _ => exact q2.elim
  · refine .inl ⟨wk.stop i Fb H2 gb.sub gb.sr.sub (by omega), ?_⟩
    rw [List.drop_eq_nil_of_le (by omega)] at q2
    obtain ⟨g2, o2⟩ := Go.unwipe s1 gb
    exact q2 D Fb H2 g2 ob hD fun z => (o2 D z).elim nb noD
theorem du_setC {elt iter : Expr} {ifs : List Expr} {scope : Scope} {src : In} {bd : Bd} {ts vs : List Nat} {tn : Tn} {de : Dn} (own : List (Str × Nat)) (hv : vs = own.map (·.2)) (hc : X.calm = true) (hN : X.N.Nodup) (hi : PI X tg iter (tI X.K W src)) (ok : BlkOk X.N X.env.scope scope own)
    (hg : ∃ g, (∀ (s : Shared) (H : Hp) (C : Addr) (cl : List (Str × Addr)) (fp : List Addr), PG (X.blk s H scope (compEnvC scope cl C X.env) fp) tg g) ∧ TgR X.K g bd ts) (sub : ∀ i ∈ ts, i ∈ vs)
    (ht : ∀ (s : Shared) (H : Hp) (C : Addr) (cl : List (Str × Addr)) (fp : List Addr), PTs (X.blk s H scope (compEnvC scope cl C X.env) fp) ifs (tT X.K ⟨W.xr, E0⟩ tn))
    (he : ∀ (s : Shared) (H : Hp) (C : Addr) (cl : List (Str × Addr)) (fp : List Addr), PE (X.blk s H scope (compEnvC scope cl C X.env) fp) elt (tE X.K ⟨W.xr, E0⟩ de))
    (hs : ∀ x, foldedSetIterable iter X.env x = pure x := by intro _; rfl) :
    PE X (.SetComp elt [⟨tg, iter, ifs, 0⟩] scope pos) (tU X.K W X.w (setC src bd tn de vs)) := by
  obtain ⟨g, hg, hr⟩ := hg
  subst hv
  refine PE.imp (pe_scI hc hN hi ok hg ht he hs) fun σ H Q q => ?_
  obtain ⟨ρ, F, s, q⟩ := q
  exact AfU.bind s q fun l J ρ1 F1 H1 g1 wk q1 => compSI_tail hr sub g1.sr wk q1
/-- sorted(a | b) -/
def fSortU (a b : Rho → RE (List Int)) : Fn := fun ρ => (a ρ).bind fun l ρ1 => (b ρ1).bind fun m ρ2 => if (!l.isEmpty && (decide (l.length ≤ 8) && decide (m.length ≤ 8))) = true then .ok (.lst ((setS (l ++ m)).map PyData.int)) ρ2 else .no
theorem df_sortU {a b : Rho → RE (List Int)} {p1 : Pos} (hc : X.calm = true) (hm : X.mg "sorted" = none) (ha : PE X e (tU X.K W X.w a)) (hb : PE X e2 (tU X.K W X.w b)) (hg : Gl X "sorted" := by rfl)
    (nb : starEach [.BinOp e .BitOr e2 p1] X.env = (false, eval (.BinOp e .BitOr e2 p1) X.env) :: starEach [] X.env := by rfl) (hpl : (backTo pos (starEach [] X.env)).any (·.1) = false := by rfl) :
    PE X (.Call (.Name "sorted" p) [.BinOp e .BitOr e2 p1] [] pos) (tF X.K W (fSortU a b)) :=
  PE.imp (pe_callB (cr_sortedSet hc) hg hm (by decide +kernel) (pa_cons (pe_op Un.op_union ha hb) pa_nil nb) (by decide) (by decide) nb hpl) fun σ H Q ⟨ρ, F, s, q⟩ => by
    unfold fSortU at q
    refine ⟨ρ, F, s, ?_⟩
    cases h1 : a ρ with
    | no => rw [h1] at q; exact q.elim
    | ex x ρ1 => rw [h1] at q; exact fun c dx F' H' g z => q c dx F' H' g z
    | ok l ρ1 =>
      intro D1 F1 H1 g1 i1 n1 o1
      rw [h1] at q
      have q := AfF.at g1 q
      refine ⟨ρ1, F1, g1.sr, ?_⟩
      cases h2 : b ρ1 with
      | no => simp only [RE.bind, h2] at q; exact q.elim
      | ex x ρ2 => simp only [RE.bind, h2] at q; exact fun c dx F' H' g z => q c dx F' H' g z
      | ok m ρ2 =>
        intro D2 F2 H2 g2 i2 n2 o2
        simp only [RE.bind, h2] at q
        have q := AfF.at g2 q
        have ne : D1 ≠ D2 := fun z => by
          obtain ⟨_, _, _, eo, _⟩ := i1
          rw [z, n2] at eo; cases eo
        obtain ⟨i1, o1⟩ := SetIn.go g2 i1 o1
        split at q
        · rename_i hh
          simp only [Bool.and_eq_true, decide_eq_true_eq] at hh
          obtain ⟨h0, h8, h9⟩ := hh
          obtain ⟨f1, S, n, e1, k1, m1⟩ := i1
          obtain ⟨f2, T, k, e2, k2, m2⟩ := i2
          have hl : l ≠ [] := fun z => by rw [z] at h0; cases h0
          obtain ⟨c, hcl⟩ := List.exists_mem_of_ne_nil l hl
          refine ⟨D1, D2, S, T, n, k, rfl, rfl, ne, e1, e2, ⟨c, (m1 c).2 hcl⟩, by omega, by omega, fun P U u hP hU hu => ?_⟩
          have f := Fr.own1 (o := SetO X.w P U u) g2.sr.sub hP
          refine ⟨P, U, u, rfl, upd_same, by omega, fun ns p' pw mem hlen hp' => ?_⟩
          have en : ns = setS (l ++ m) := pw_eq pw (pw_setS _) fun j => by rw [mem j, hU j, m1 j, m2 j, mem_setS, List.mem_append]
          rw [en]
          exact AfF.new (g2.sr.fr f) (AfF.at (f.go g2.sr) q) hp' (Reps.of_ints _)
        · exact q.elim
end
/-! ### steps -/
theorem ev_fSortU {a b : Rho → RE (List Int)} {ρ : Rho} : fSortU a b ρ = (a ρ).bind fun l ρ1 => (b ρ1).bind fun m ρ2 => if (!l.isEmpty && (decide (l.length ≤ 8) && decide (m.length ≤ 8))) = true then .ok (.lst ((setS (l ++ m)).map PyData.int)) ρ2 else .no := rfl
end Ft
namespace Ft
open PySem L2
theorem evs0 : (type_of% @ev_bind) ∧ (type_of% @ev_st) ∧ (type_of% @ev_dV) ∧ (type_of% @ev_lvV1) ∧ (type_of% @ev_lvV2) ∧ (type_of% @ev_toD) ∧ (type_of% @ev_aV) ∧ (type_of% @ev_lvA1) ∧ (type_of% @ev_lvA2) ∧ (type_of% @ev_aR) ∧ (type_of% @ev_lvR) ∧ (type_of% @ev_dC) ∧ (type_of% @ev_aE) ∧ (type_of% @ev_mkV) ∧ (type_of% @ev_aNil) ∧ (type_of% @ev_aCons) ∧ (type_of% @ev_consK) ∧ (type_of% @ev_consK2) ∧ (type_of% @ev_vNil) ∧ (type_of% @ev_vCons) ∧ (type_of% @ev_vconsK) ∧ (type_of% @ev_vconsK2) ∧ (type_of% @ev_look1) ∧ (type_of% @ev_look2) ∧ (type_of% @ev_lookK) ∧ (type_of% @ev_looks0) ∧ (type_of% @ev_looks1) ∧ (type_of% @ev_looksK) ∧ (type_of% @ev_ob) ∧ (type_of% @ev_om) ∧ (type_of% @ev_ans) ∧ (type_of% @ev_dOp1) ∧ (type_of% @ev_op1K) ∧ (type_of% @ev_dOp2) ∧ (type_of% @ev_op2K) ∧ (type_of% @ev_op2L) ∧ (type_of% @ev_ap2) ∧ (type_of% @ev_dOpN) ∧ (type_of% @ev_opNK) ∧ (type_of% @ev_fOpN) ∧ (type_of% @ev_fopNK) ∧ (type_of% @ev_add) ∧ (type_of% @ev_sub) ∧ (type_of% @ev_neg) ∧ (type_of% @ev_small) ∧ (type_of% @ev_mul1) ∧ (type_of% @ev_mul2) ∧ (type_of% @ev_fdiv) ∧ (type_of% @ev_mod) ∧ (type_of% @ev_eq) ∧ (type_of% @ev_ne) ∧ (type_of% @ev_lt) ∧ (type_of% @ev_gt) ∧ (type_of% @ev_le) ∧ (type_of% @ev_ge) ∧ (type_of% @ev_eqb) ∧ (type_of% @ev_neb) ∧ (type_of% @ev_isB) ∧ (type_of% @ev_isNotB) ∧ (type_of% @ev_isi) ∧ (type_of% @ev_len1) ∧ (type_of% @ev_len2) ∧ (type_of% @ev_int1) ∧ (type_of% @ev_tup1) ∧ (type_of% @ev_tup2) ∧ (type_of% @ev_lst1) ∧ (type_of% @ev_lst2) ∧ (type_of% @ev_ix1) ∧ (type_of% @ev_ix2) ∧ (type_of% @ev_at0) ∧ (type_of% @ev_at1) ∧ (type_of% @ev_at2) ∧ (type_of% @ev_at3) ∧ (type_of% @ev_at4) ∧ (type_of% @ev_at5) ∧ (type_of% @ev_dTv) ∧ (type_of% @ev_tvK) ∧ (type_of% @ev_tnNot) ∧ (type_of% @ev_notK) ∧ (type_of% @ev_tnAnd) ∧ (type_of% @ev_andT) ∧ (type_of% @ev_andF) ∧ (type_of% @ev_tnOr) ∧ (type_of% @ev_orT) ∧ (type_of% @ev_orF) ∧ (type_of% @ev_tnYes) ∧ (type_of% @ev_dAnd) ∧ (type_of% @ev_dandT) ∧ (type_of% @ev_dandF) ∧ (type_of% @ev_dOr) ∧ (type_of% @ev_dorT) ∧ (type_of% @ev_dorF) ∧ (type_of% @ev_dNot) ∧ (type_of% @ev_dnotK) ∧ (type_of% @ev_dIf) ∧ (type_of% @ev_difT) ∧ (type_of% @ev_difF) ∧ (type_of% @ev_dTup) ∧ (type_of% @ev_tupK) ∧ (type_of% @ev_fLst) ∧ (type_of% @ev_lstK) ∧ (type_of% @ev_dFz) ∧ (type_of% @ev_fzK) ∧ (type_of% @ev_oNone) ∧ (type_of% @ev_oSome) ∧ (type_of% @ev_dSl) ∧ (type_of% @ev_slK0) ∧ (type_of% @ev_slK1) ∧ (type_of% @ev_slK2) ∧ (type_of% @ev_sSeq) ∧ (type_of% @ev_seqN) ∧ (type_of% @ev_seqR) ∧ (type_of% @ev_seqB) ∧ (type_of% @ev_seqC) ∧ (type_of% @ev_sSkip) ∧ (type_of% @ev_sIf) ∧ (type_of% @ev_sifT) ∧ (type_of% @ev_sifF) ∧ (type_of% @ev_notIo) ∧ (type_of% @ev_nio1) ∧ (type_of% @ev_nio2) ∧ (type_of% @ev_nio3) ∧ (type_of% @ev_putK) ∧ (type_of% @ev_putO) ∧ (type_of% @ev_sSet) ∧ (type_of% @ev_setK) ∧ (type_of% @ev_sNew) ∧ (type_of% @ev_newK) ∧ (type_of% @ev_sRet) ∧ (type_of% @ev_retK) ∧ (type_of% @ev_sRetN) ∧ (type_of% @ev_sRetF) ∧ (type_of% @ev_retFK) ∧ (type_of% @ev_sExpr) ∧ (type_of% @ev_exprK) ∧ (type_of% @ev_sFor) ∧ (type_of% @ev_forK) ∧ (type_of% @ev_for0) ∧ (type_of% @ev_iSeq) ∧ (type_of% @ev_iseqK) ∧ (type_of% @ev_items1) ∧ (type_of% @ev_items2) ∧ (type_of% @ev_iOn) ∧ (type_of% @ev_ionK) ∧ (type_of% @ev_rng1) ∧ (type_of% @ev_rng2) ∧ (type_of% @ev_bN) ∧ (type_of% @ev_ownL) ∧ (type_of% @ev_ownK) ∧ (type_of% @ev_st') ∧ (type_of% @ev_sSetIx) ∧ (type_of% @ev_sixK1) ∧ (type_of% @ev_sixK2) ∧ (type_of% @ev_sixK3) ∧ (type_of% @ev_ixN50) ∧ (type_of% @ev_ixN51) ∧ (type_of% @ev_ixN52) ∧ (type_of% @ev_ixN53) ∧ (type_of% @ev_ixN54) ∧ (type_of% @ev_sApp) :=
  ⟨@ev_bind, @ev_st, @ev_dV, @ev_lvV1, @ev_lvV2, @ev_toD, @ev_aV, @ev_lvA1, @ev_lvA2, @ev_aR, @ev_lvR, @ev_dC, @ev_aE, @ev_mkV, @ev_aNil, @ev_aCons, @ev_consK, @ev_consK2, @ev_vNil, @ev_vCons, @ev_vconsK, @ev_vconsK2, @ev_look1, @ev_look2, @ev_lookK, @ev_looks0, @ev_looks1, @ev_looksK, @ev_ob, @ev_om, @ev_ans, @ev_dOp1, @ev_op1K, @ev_dOp2, @ev_op2K, @ev_op2L, @ev_ap2, @ev_dOpN, @ev_opNK, @ev_fOpN, @ev_fopNK, @ev_add, @ev_sub, @ev_neg, @ev_small, @ev_mul1, @ev_mul2, @ev_fdiv, @ev_mod, @ev_eq, @ev_ne, @ev_lt, @ev_gt, @ev_le, @ev_ge, @ev_eqb, @ev_neb, @ev_isB, @ev_isNotB, @ev_isi, @ev_len1, @ev_len2, @ev_int1, @ev_tup1, @ev_tup2, @ev_lst1, @ev_lst2, @ev_ix1, @ev_ix2, @ev_at0, @ev_at1, @ev_at2, @ev_at3, @ev_at4, @ev_at5, @ev_dTv, @ev_tvK, @ev_tnNot, @ev_notK, @ev_tnAnd, @ev_andT, @ev_andF, @ev_tnOr, @ev_orT, @ev_orF, @ev_tnYes, @ev_dAnd, @ev_dandT, @ev_dandF, @ev_dOr, @ev_dorT, @ev_dorF, @ev_dNot, @ev_dnotK, @ev_dIf, @ev_difT, @ev_difF, @ev_dTup, @ev_tupK, @ev_fLst, @ev_lstK, @ev_dFz, @ev_fzK, @ev_oNone, @ev_oSome, @ev_dSl, @ev_slK0, @ev_slK1, @ev_slK2, @ev_sSeq, @ev_seqN, @ev_seqR, @ev_seqB, @ev_seqC, @ev_sSkip, @ev_sIf, @ev_sifT, @ev_sifF, @ev_notIo, @ev_nio1, @ev_nio2, @ev_nio3, @ev_putK, @ev_putO, @ev_sSet, @ev_setK, @ev_sNew, @ev_newK, @ev_sRet, @ev_retK, @ev_sRetN, @ev_sRetF, @ev_retFK, @ev_sExpr, @ev_exprK, @ev_sFor, @ev_forK, @ev_for0, @ev_iSeq, @ev_iseqK, @ev_items1, @ev_items2, @ev_iOn, @ev_ionK, @ev_rng1, @ev_rng2, @ev_bN, @ev_ownL, @ev_ownK, @ev_st', @ev_sSetIx, @ev_sixK1, @ev_sixK2, @ev_sixK3, @ev_ixN50, @ev_ixN51, @ev_ixN52, @ev_ixN53, @ev_ixN54, @ev_sApp⟩
theorem evs1 : (type_of% @ev_appK1) ∧ (type_of% @ev_appK2) ∧ (type_of% @ev_sAsg) ∧ (type_of% @ev_asgK) ∧ (type_of% @ev_asgR) ∧ (type_of% @ev_bT) ∧ (type_of% @ev_ba0) ∧ (type_of% @ev_ba1) ∧ (type_of% @ev_baK) ∧ (type_of% @ev_dChain) ∧ (type_of% @ev_chK1) ∧ (type_of% @ev_chK2) ∧ (type_of% @ev_chT) ∧ (type_of% @ev_chF) ∧ (type_of% @ev_chK4) ∧ (type_of% @ev_sExt) ∧ (type_of% @ev_extK1) ∧ (type_of% @ev_extK2) ∧ (type_of% @ev_sRetM) ∧ (type_of% @ev_retM1) ∧ (type_of% @ev_retM2) ∧ (type_of% @ev_dCall) ∧ (type_of% @ev_callK) ∧ (type_of% @ev_callI) ∧ (type_of% @ev_callR) ∧ (type_of% @ev_callOk) ∧ (type_of% @ev_callNew) ∧ (type_of% @ev_backR) ∧ (type_of% @ev_fCall) ∧ (type_of% @ev_fcallK) ∧ (type_of% @ev_fcallI) ∧ (type_of% @ev_fcallNew) ∧ (type_of% @ev_fbackR) ∧ (type_of% @ev_apart0) ∧ (type_of% @ev_apart1) ∧ (type_of% @ev_apart2) ∧ (type_of% @ev_noS0) ∧ (type_of% @ev_noS1) ∧ (type_of% @ev_noS2) ∧ (type_of% @ev_consO) ∧ (type_of% @ev_insK) ∧ (type_of% @ev_mkIns0) ∧ (type_of% @ev_mkIns1) ∧ (type_of% @ev_mkIns2) ∧ (type_of% @ev_so0) ∧ (type_of% @ev_so1) ∧ (type_of% @ev_so2) ∧ (type_of% @ev_pb0) ∧ (type_of% @ev_pb1) ∧ (type_of% @ev_pb2) ∧ (type_of% @ev_pbK) ∧ (type_of% @ev_outK) ∧ (type_of% @ev_unL0) ∧ (type_of% @ev_unLs) ∧ (type_of% @ev_fn0) ∧ (type_of% @ev_fnA0) ∧ (type_of% @ev_fn1) ∧ (type_of% @ev_fnA1) ∧ (type_of% @ev_fn2) ∧ (type_of% @ev_fnA2) ∧ (type_of% @ev_fn3) ∧ (type_of% @ev_fnA3) ∧ (type_of% @ev_fn4) ∧ (type_of% @ev_fnA4) ∧ (type_of% @ev_fn5) ∧ (type_of% @ev_fnA5) ∧ (type_of% @ev_fn6) ∧ (type_of% @ev_fnA6) ∧ (type_of% @ev_fn7) ∧ (type_of% @ev_fnA7) ∧ (type_of% @ev_fn8) ∧ (type_of% @ev_fnA8) ∧ (type_of% @ev_appR) ∧ (type_of% @ev_appNew) ∧ (type_of% @ev_appN) ∧ (type_of% @ev_io0) ∧ (type_of% @ev_io1) ∧ (type_of% @ev_io2) ∧ (type_of% @ev_oo0) ∧ (type_of% @ev_oo1) ∧ (type_of% @ev_consM) ∧ (type_of% @ev_oo2) ∧ (type_of% @ev_g0) ∧ (type_of% @ev_gs) ∧ (type_of% @ev_s0) ∧ (type_of% @ev_ss) ∧ (type_of% @ev_isInt_none) ∧ (type_of% @ev_isInt_bool) ∧ (type_of% @ev_isInt_int) ∧ (type_of% @ev_isInt_str) ∧ (type_of% @ev_isInt_list) ∧ (type_of% @ev_isInt_tuple) ∧ (type_of% @ev_isInt_dict) ∧ (type_of% @ev_isBool_none) ∧ (type_of% @ev_isBool_bool) ∧ (type_of% @ev_isBool_int) ∧ (type_of% @ev_isBool_str) ∧ (type_of% @ev_isBool_list) ∧ (type_of% @ev_isBool_tuple) ∧ (type_of% @ev_isBool_dict) ∧ (type_of% @ev_isStr_none) ∧ (type_of% @ev_isStr_bool) ∧ (type_of% @ev_isStr_int) ∧ (type_of% @ev_isStr_str) ∧ (type_of% @ev_isStr_list) ∧ (type_of% @ev_isStr_tuple) ∧ (type_of% @ev_isStr_dict) ∧ (type_of% @ev_isTuple_none) ∧ (type_of% @ev_isTuple_bool) ∧ (type_of% @ev_isTuple_int) ∧ (type_of% @ev_isTuple_str) ∧ (type_of% @ev_isTuple_list) ∧ (type_of% @ev_isTuple_tuple) ∧ (type_of% @ev_isTuple_dict) ∧ (type_of% @ev_isList_none) ∧ (type_of% @ev_isList_bool) ∧ (type_of% @ev_isList_int) ∧ (type_of% @ev_isList_str) ∧ (type_of% @ev_isList_list) ∧ (type_of% @ev_isList_tuple) ∧ (type_of% @ev_isList_dict) ∧ (type_of% @ev_isDict_none) ∧ (type_of% @ev_isDict_bool) ∧ (type_of% @ev_isDict_int) ∧ (type_of% @ev_isDict_str) ∧ (type_of% @ev_isDict_list) ∧ (type_of% @ev_isDict_tuple) ∧ (type_of% @ev_isDict_dict) ∧ (type_of% @ev_isNone_none) ∧ (type_of% @ev_isNone_bool) ∧ (type_of% @ev_isNone_int) ∧ (type_of% @ev_isNone_str) ∧ (type_of% @ev_isNone_list) ∧ (type_of% @ev_isNone_tuple) ∧ (type_of% @ev_isNone_dict) ∧ (type_of% @ev_eqs) ∧ (type_of% @ev_nes) ∧ (type_of% @ev_beq) ∧ (type_of% @ev_bne) ∧ (type_of% @ev_fComp) ∧ (type_of% @ev_compK) ∧ (type_of% @ev_compR) ∧ (type_of% @ev_wipe0) ∧ (type_of% @ev_wipe1) ∧ (type_of% @ev_rest0) ∧ (type_of% @ev_rest1) ∧ (type_of% @ev_restK) ∧ (type_of% @ev_cast) ∧ (type_of% @ev_decT) ∧ (type_of% @ev_decF) ∧ (type_of% @ev_nt) ∧ (type_of% @ev_nf) ∧ (type_of% @ev_aT) ∧ (type_of% @ev_aF) ∧ (type_of% @ev_if1) ∧ (type_of% @ev_dMl) ∧ (type_of% @ev_mlK) ∧ (type_of% @ev_mlK1) ∧ (type_of% @ev_mlK2) ∧ (type_of% @ev_mlK3) :=
  ⟨@ev_appK1, @ev_appK2, @ev_sAsg, @ev_asgK, @ev_asgR, @ev_bT, @ev_ba0, @ev_ba1, @ev_baK, @ev_dChain, @ev_chK1, @ev_chK2, @ev_chT, @ev_chF, @ev_chK4, @ev_sExt, @ev_extK1, @ev_extK2, @ev_sRetM, @ev_retM1, @ev_retM2, @ev_dCall, @ev_callK, @ev_callI, @ev_callR, @ev_callOk, @ev_callNew, @ev_backR, @ev_fCall, @ev_fcallK, @ev_fcallI, @ev_fcallNew, @ev_fbackR, @ev_apart0, @ev_apart1, @ev_apart2, @ev_noS0, @ev_noS1, @ev_noS2, @ev_consO, @ev_insK, @ev_mkIns0, @ev_mkIns1, @ev_mkIns2, @ev_so0, @ev_so1, @ev_so2, @ev_pb0, @ev_pb1, @ev_pb2, @ev_pbK, @ev_outK, @ev_unL0, @ev_unLs, @ev_fn0, @ev_fnA0, @ev_fn1, @ev_fnA1, @ev_fn2, @ev_fnA2, @ev_fn3, @ev_fnA3, @ev_fn4, @ev_fnA4, @ev_fn5, @ev_fnA5, @ev_fn6, @ev_fnA6, @ev_fn7, @ev_fnA7, @ev_fn8, @ev_fnA8, @ev_appR, @ev_appNew, @ev_appN, @ev_io0, @ev_io1, @ev_io2, @ev_oo0, @ev_oo1, @ev_consM, @ev_oo2, @ev_g0, @ev_gs, @ev_s0, @ev_ss, @ev_isInt_none, @ev_isInt_bool, @ev_isInt_int, @ev_isInt_str, @ev_isInt_list, @ev_isInt_tuple, @ev_isInt_dict, @ev_isBool_none, @ev_isBool_bool, @ev_isBool_int, @ev_isBool_str, @ev_isBool_list, @ev_isBool_tuple, @ev_isBool_dict, @ev_isStr_none, @ev_isStr_bool, @ev_isStr_int, @ev_isStr_str, @ev_isStr_list, @ev_isStr_tuple, @ev_isStr_dict, @ev_isTuple_none, @ev_isTuple_bool, @ev_isTuple_int, @ev_isTuple_str, @ev_isTuple_list, @ev_isTuple_tuple, @ev_isTuple_dict, @ev_isList_none, @ev_isList_bool, @ev_isList_int, @ev_isList_str, @ev_isList_list, @ev_isList_tuple, @ev_isList_dict, @ev_isDict_none, @ev_isDict_bool, @ev_isDict_int, @ev_isDict_str, @ev_isDict_list, @ev_isDict_tuple, @ev_isDict_dict, @ev_isNone_none, @ev_isNone_bool, @ev_isNone_int, @ev_isNone_str, @ev_isNone_list, @ev_isNone_tuple, @ev_isNone_dict, @ev_eqs, @ev_nes, @ev_beq, @ev_bne, @ev_fComp, @ev_compK, @ev_compR, @ev_wipe0, @ev_wipe1, @ev_rest0, @ev_rest1, @ev_restK, @ev_cast, @ev_decT, @ev_decF, @ev_nt, @ev_nf, @ev_aT, @ev_aF, @ev_if1, @ev_dMl, @ev_mlK, @ev_mlK1, @ev_mlK2, @ev_mlK3⟩
theorem evs2 : (type_of% @ev_sAug) ∧ (type_of% @ev_augK) ∧ (type_of% @ev_augK2) ∧ (type_of% @ev_augK3) ∧ (type_of% @ev_addI) ∧ (type_of% @ev_rng1T) ∧ (type_of% @ev_fOp2) ∧ (type_of% @ev_fop2K) ∧ (type_of% @ev_fop2L) ∧ (type_of% @ev_apF) ∧ (type_of% @ev_cat) ∧ (type_of% @ev_max2) ∧ (type_of% @ev_min2) ∧ (type_of% @ev_find) ∧ (type_of% @ev_dDict) ∧ (type_of% @ev_dictK0) ∧ (type_of% @ev_dictK1) ∧ (type_of% @ev_vL0) ∧ (type_of% @ev_vL1) ∧ (type_of% @ev_toDK) ∧ (type_of% @ev_toDT) ∧ (type_of% @ev_slot1) ∧ (type_of% @ev_slot2) ∧ (type_of% @ev_slot3) ∧ (type_of% @ev_lookI) ∧ (type_of% @ev_lookS) ∧ (type_of% @ev_lookT) ∧ (type_of% @ev_lookO) ∧ (type_of% @ev_getN3) ∧ (type_of% @ev_getN1) ∧ (type_of% @ev_slotS) ∧ (type_of% @ev_thenB) ∧ (type_of% @ev_dGetN) ∧ (type_of% @ev_inN2) ∧ (type_of% @ev_inN1) ∧ (type_of% @ev_dInN) ∧ (type_of% @ev_niN2) ∧ (type_of% @ev_niN1) ∧ (type_of% @ev_dNiN) ∧ (type_of% @ev_gdN2) ∧ (type_of% @ev_gdN1) ∧ (type_of% @ev_dGet1N) ∧ (type_of% @ev_gd2b) ∧ (type_of% @ev_gd2a) ∧ (type_of% @ev_dGet2N) ∧ (type_of% @ev_ownMK) ∧ (type_of% @ev_putN4) ∧ (type_of% @ev_putN3) ∧ (type_of% @ev_putN2) ∧ (type_of% @ev_putN0) ∧ (type_of% @ev_thenS) ∧ (type_of% @ev_putN1) ∧ (type_of% @ev_sPutN) ∧ (type_of% @ev_putD1) ∧ (type_of% @ev_putD2) ∧ (type_of% @ev_pv3) ∧ (type_of% @ev_pv2) ∧ (type_of% @ev_pv1) ∧ (type_of% @ev_pvL0) ∧ (type_of% @ev_pvLs) ∧ (type_of% @ev_fDisp) ∧ (type_of% @ev_dispK) ∧ (type_of% @ev_dispB1) ∧ (type_of% @ev_fDict0K) ∧ (type_of% @ev_fDict0T) ∧ (type_of% @ev_iKeysV) ∧ (type_of% @ev_keysK) ∧ (type_of% @ev_dkeys) ∧ (type_of% @ev_popS) ∧ (type_of% @ev_popJ) ∧ (type_of% @ev_dPop) ∧ (type_of% @ev_popK0) ∧ (type_of% @ev_aDef) ∧ (type_of% @ev_defK) ∧ (type_of% @ev_aApp) ∧ (type_of% @ev_appK3) ∧ (type_of% @ev_appK4) ∧ (type_of% @ev_appn0) ∧ (type_of% @ev_appns) ∧ (type_of% @ev_mapn0) ∧ (type_of% @ev_mapns) ∧ (type_of% @ev_fCompO) ∧ (type_of% @ev_compKO) ∧ (type_of% @ev_revTB) ∧ (type_of% @ev_fComp2) ∧ (type_of% @ev_compM2) ∧ (type_of% @ev_fCompDK) ∧ (type_of% @ev_compMK) ∧ (type_of% @ev_compRK) ∧ (type_of% @ev_iZip) ∧ (type_of% @ev_zipK) ∧ (type_of% @ev_zipB1) ∧ (type_of% @ev_zipB2) ∧ (type_of% @ev_setS1) ∧ (type_of% @ev_setS2) ∧ (type_of% @ev_min3B) ∧ (type_of% @ev_lstDB) ∧ (type_of% @ev_sRaise) ∧ (type_of% @ev_raiK) ∧ (type_of% @ev_sTry) ∧ (type_of% @ev_seqX) ∧ (type_of% @ev_appX) ∧ (type_of% @ev_backX) ∧ (type_of% @ev_callX) ∧ (type_of% @ev_bindX) ∧ (type_of% @ev_stX) ∧ (type_of% @ev_tryK_ex) ∧ (type_of% @ev_tryK_ret) ∧ (type_of% @ev_tryK_new) ∧ (type_of% @ev_tryK_next) ∧ (type_of% @ev_aLast) ∧ (type_of% @ev_lastK) ∧ (type_of% @ev_aConsF) ∧ (type_of% @ev_consF1) ∧ (type_of% @ev_consF2) ∧ (type_of% @ev_dCallF) ∧ (type_of% @ev_freshK) ∧ (type_of% @ev_freshL2) ∧ (type_of% @ev_freshL1) ∧ (type_of% @ev_freshL3) ∧ (type_of% @ev_freshC) ∧ (type_of% @ev_valsH0) ∧ (type_of% @ev_valsH1) ∧ (type_of% @ev_valsC) ∧ (type_of% @ev_fSortU) :=
  ⟨@ev_sAug, @ev_augK, @ev_augK2, @ev_augK3, @ev_addI, @ev_rng1T, @ev_fOp2, @ev_fop2K, @ev_fop2L, @ev_apF, @ev_cat, @ev_max2, @ev_min2, @ev_find, @ev_dDict, @ev_dictK0, @ev_dictK1, @ev_vL0, @ev_vL1, @ev_toDK, @ev_toDT, @ev_slot1, @ev_slot2, @ev_slot3, @ev_lookI, @ev_lookS, @ev_lookT, @ev_lookO, @ev_getN3, @ev_getN1, @ev_slotS, @ev_thenB, @ev_dGetN, @ev_inN2, @ev_inN1, @ev_dInN, @ev_niN2, @ev_niN1, @ev_dNiN, @ev_gdN2, @ev_gdN1, @ev_dGet1N, @ev_gd2b, @ev_gd2a, @ev_dGet2N, @ev_ownMK, @ev_putN4, @ev_putN3, @ev_putN2, @ev_putN0, @ev_thenS, @ev_putN1, @ev_sPutN, @ev_putD1, @ev_putD2, @ev_pv3, @ev_pv2, @ev_pv1, @ev_pvL0, @ev_pvLs, @ev_fDisp, @ev_dispK, @ev_dispB1, @ev_fDict0K, @ev_fDict0T, @ev_iKeysV, @ev_keysK, @ev_dkeys, @ev_popS, @ev_popJ, @ev_dPop, @ev_popK0, @ev_aDef, @ev_defK, @ev_aApp, @ev_appK3, @ev_appK4, @ev_appn0, @ev_appns, @ev_mapn0, @ev_mapns, @ev_fCompO, @ev_compKO, @ev_revTB, @ev_fComp2, @ev_compM2, @ev_fCompDK, @ev_compMK, @ev_compRK, @ev_iZip, @ev_zipK, @ev_zipB1, @ev_zipB2, @ev_setS1, @ev_setS2, @ev_min3B, @ev_lstDB, @ev_sRaise, @ev_raiK, @ev_sTry, @ev_seqX, @ev_appX, @ev_backX, @ev_callX, @ev_bindX, @ev_stX, @ev_tryK_ex, @ev_tryK_ret, @ev_tryK_new, @ev_tryK_next, @ev_aLast, @ev_lastK, @ev_aConsF, @ev_consF1, @ev_consF2, @ev_dCallF, @ev_freshK, @ev_freshL2, @ev_freshL1, @ev_freshL3, @ev_freshC, @ev_valsH0, @ev_valsH1, @ev_valsC, @ev_fSortU⟩
theorem evsX : (type_of% @List.length_cons.{0}) ∧ (type_of% @List.length_nil.{0}) ∧ (type_of% @Option.isSome_some.{0}) ∧ (type_of% @Option.isSome_none.{0}) ∧ (type_of% @Option.getD_some.{0}) ∧ (type_of% @Option.getD_none.{0}) :=
  ⟨@List.length_cons.{0}, @List.length_nil.{0}, @Option.isSome_some.{0}, @Option.isSome_none.{0}, @Option.getD_some.{0}, @Option.getD_none.{0}⟩
end Ft
namespace Ft
open PySem L2
noncomputable section
def inside_t1 : Tn := (dTv (dChain (toB leB) (toB leB) (aV 2) (aV 1) (aV 3)))
def inside_e1 : Dn := (dV 2)
def inside_c1 : Fn := (fComp (iSeq (dV 0)) (bT [2, 3]) inside_t1 inside_e1 [2, 3])
def b_inside : Sn := (sRet (dOpN lenB (aCons (aE (dFz inside_c1)) aNil)))
def f_inside : Cn := fn 2 4 b_inside
def joined_b1 : Sn := (sIf (tnAnd (dTv (dOp2 (toB gtB) (aE (dOpN lenB (aCons (aV 1) aNil))) (aE (dC (.int 0))))) (dTv (dOp2 (toB leB) (aV 2) (aE (dOp2 addB (aE (dOp2 ixB (aE (dOp2 ixB (aV 1) (aE (dOp1 negB (aE (dC (.int 1))))))) (aE (dC (.int 1))))) (aE (dC (.int 1)))))))) (sSetIx 1 (dOp1 negB (aE (dC (.int 1)))) (dTup (vCons (dOp2 ixB (aE (dOp2 ixB (aV 1) (aE (dOp1 negB (aE (dC (.int 1))))))) (aE (dC (.int 0)))) (vCons (dOpN max2B (aCons (aV 3) (aCons (aE (dOp2 ixB (aE (dOp2 ixB (aV 1) (aE (dOp1 negB (aE (dC (.int 1))))))) (aE (dC (.int 1))))) aNil))) vNil)))) (sApp 1 (dTup (vCons (dV 2) (vCons (dV 3) vNil)))))
def b_joined : Sn := (sSeq (sNew 1 (fLst vNil)) (sSeq (sFor (iSeq (dV 0)) (bT [2, 3]) joined_b1) (sRet (dOpN tupB (aCons (aV 1) aNil)))))
def f_joined : Cn := fn 1 4 b_joined
def possible_v2_e1 : Dn := (dV 3)
def possible_v2_e2 : Dn := (dOp2 addB (aV 4) (aE (dC (.int 1))))
def possible_v2_t1 : Tn := (dTv (dOp2 (toB geB) (aE (dCall f_inside (aCons (aE (dV 0)) (aCons (aE (dOp2 ixB (aV 2) (aV 7))) aNil)))) (aV 5)))
def possible_v2_e3 : Dn := (dTup (vCons (dOp2 ixB (aV 2) (aV 7)) (vCons (dOp2 subB (aE (dOp2 ixB (aV 2) (aE (dOp2 addB (aV 7) (aE (dC (.int 1))))))) (aE (dC (.int 1)))) vNil)))
def possible_v2_c1 : Fn := (fComp (iOn rng1 (aCons (aE (dOp2 subB (aE (dOpN lenB (aCons (aV 2) aNil))) (aE (dC (.int 1))))) aNil)) (bN 7) possible_v2_t1 possible_v2_e3 [7])
def b_possible_v2 : Sn := (sSeq (sIf (dTv (dOp2 (toB geB) (aV 1) (aE (dOpN lenB (aCons (aV 0) aNil))))) (sRaise 0 (dV 1)) sSkip) (sSeq (sSet 2 (dFz (fSortU (setC (iSeq (dV 0)) (bT [3, 4]) tnYes possible_v2_e1 [3, 4]) (setC (iSeq (dV 0)) (bT [3, 4]) tnYes possible_v2_e2 [3, 4])))) (sSeq (sSet 5 (dOp2 subB (aE (dOpN lenB (aCons (aV 0) aNil))) (aV 1))) (sSeq (sSet 6 (dFz possible_v2_c1)) (sRet (dCall f_joined (aCons (aE (dV 6)) aNil)))))))
def f_possible_v2 : Cn := fn 2 8 b_possible_v2
def b_hours_for : Sn := (sRet (dTup (vCons (dOp1 negB (aE (dOp2 fdivB (aE (dOp2 mulB (aE (dOp1 negB (aE (dC (.int 100))))) (aV 0))) (aE (dOp2 addB (aE (dC (.int 100))) (aV 1)))))) (vCons (dOp2 fdivB (aE (dOp2 mulB (aE (dC (.int 100))) (aV 0))) (aE (dOp2 subB (aE (dC (.int 100))) (aV 1)))) vNil))))
def f_hours_for : Cn := fn 2 2 b_hours_for
def fused_hours_v2_e1 : Dn := (dCall f_hours_for (aCons (aE (dV 3)) (aCons (aE (dV 4)) aNil)))
def fused_hours_v2_c1 : Fn := (fComp (iZip (vCons (dV 0) (vCons (dV 1) vNil))) (bT [3, 4]) tnYes fused_hours_v2_e1 [3, 4])
def b_fused_hours_v2 : Sn := (sRet (dCall f_possible_v2 (aCons (aE (dOpN tupB (aCons (aE (dFz fused_hours_v2_c1)) aNil))) (aCons (aE (dV 2)) aNil))))
def f_fused_hours_v2 : Cn := fn 3 5 b_fused_hours_v2
def law_same_t1 (r : Cn) : Tn := (tnNot (dTv (dCall r (aCons (aE (dOp2 ixB (aV 0) (aV 2))) (aCons (aE (dOp2 ixB (aV 1) (aV 2))) aNil)))))
def law_same_e1 (r : Cn) : Dn := (dV 2)
def law_same_c1 (r : Cn) : Fn := (fComp (iOn rng1 (aCons (aE (dOpN lenB (aCons (aV 1) aNil))) aNil)) (bN 2) (law_same_t1 r) (law_same_e1 r) [2])
def b_law_same (r : Cn) : Sn := (sSeq (sIf (tnOr (dTv (dOp1 (isiB PyData.isTuple) (aV 1))) (dTv (dOp1 (isiB PyData.isList) (aV 1)))) (sSeq (sIf (tnOr (dTv (dOp2 (toB neB) (aE (dOp1 (isiB PyData.isTuple) (aV 1))) (aE (dOp1 (isiB PyData.isTuple) (aV 0))))) (tnOr (dTv (dOp2 (toB neB) (aE (dOp1 (isiB PyData.isList) (aV 1))) (aE (dOp1 (isiB PyData.isList) (aV 0))))) (dTv (dOp2 (toB neB) (aE (dOpN lenB (aCons (aV 0) aNil))) (aE (dOpN lenB (aCons (aV 1) aNil))))))) (sRet (dC (.bool false))) sSkip) (sRet (dOp2 (toB eqB) (aE (dOpN lenB (aCons (aE (dFz (law_same_c1 r))) aNil))) (aE (dC (.int 0)))))) sSkip) (sSeq (sIf (dTv (dOp2 isB (aV 1) (aE (dC .none)))) (sRet (dOp2 isB (aV 0) (aE (dC .none)))) sSkip) (sSeq (sIf (tnOr (dTv (dOp1 (isiB PyData.isBool) (aV 1))) (dTv (dOp1 (isiB PyData.isBool) (aV 0)))) (sRet (dAnd (dOp1 (isiB PyData.isBool) (aV 1)) (dAnd (dOp1 (isiB PyData.isBool) (aV 0)) (dOp2 (toB eqB) (aV 0) (aV 1))))) sSkip) (sSeq (sIf (dTv (dOp1 (isiB PyData.isInt) (aV 1))) (sRet (dAnd (dOp1 (isiB PyData.isInt) (aV 0)) (dOp2 (toB eqB) (aV 0) (aV 1)))) sSkip) (sRet (dAnd (dOp1 (isiB PyData.isStr) (aV 0)) (dAnd (dOp1 (isiB PyData.isStr) (aV 1)) (dOp2 (toB eqB) (aV 0) (aV 1)))))))))
def f_law_same : Nat → Cn
  | 0 => fun _ => .no
  | j + 1 => fn 2 3 (b_law_same (f_law_same j))
def law_pool_b1 : Sn := (sSet 1 (dOp2 modB (aE (dOpN intB (aCons (aE (dOp2 addB (aE (dOp2 mulB (aV 1) (aE (dC (.int 31))))) (aV 2))) aNil))) (aE (dC (.int 1000003)))))
def b_law_pool : Sn := (sSeq (sSet 1 (dC (.int 7))) (sSeq (sFor (iSeq (dSl (aV 0) oNone (oSome (dC (.int 63))))) (bN 2) law_pool_b1) (sRetF (fLst (vCons (dFz (fOpN lstB (aCons (aV 0) aNil))) (vCons (dC (.int 0)) (vCons (dC (.int 0)) (vCons (dC (.int 0)) (vCons (dV 1) vNil)))))))))
def f_law_pool : Cn := fn 1 3 b_law_pool
def law_spread_b1 : Sn := (sSeq (sSet 1 (dOp2 modB (aE (dOpN intB (aCons (aE (dOp2 addB (aE (dOp2 addB (aE (dOp2 mulB (aV 1) (aE (dC (.int 48271))))) (aE (dC (.int 12345))))) (aV 3))) aNil))) (aE (dC (.int 2147483647))))) (sSet 2 (dOp2 addB (aE (dOp2 mulB (aV 2) (aE (dC (.int 2147483647))))) (aV 1))))
def b_law_spread : Sn := (sSeq (sSet 1 (dOp2 modB (aE (dOpN intB (aCons (aV 0) aNil))) (aE (dC (.int 2147483647))))) (sSeq (sSet 2 (dC (.int 1))) (sSeq (sFor (iOn rng1 (aCons (aE (dC (.int 4))) aNil)) (bN 3) law_spread_b1) (sRet (dV 2)))))
def f_law_spread : Cn := fn 1 4 b_law_spread
def b_law_draw : Sn := (sSeq (sIf (tnAnd (dTv (dOp2 (toB leB) (aE (dOp2 ixB (aV 0) (aE (dC (.int 2))))) (aE (dC (.int 0))))) (dTv (dOp2 (toB ltB) (aE (dOp2 ixB (aV 0) (aE (dC (.int 1))))) (aE (dOpN lenB (aCons (aE (dOp2 ixB (aV 0) (aE (dC (.int 0))))) aNil)))))) (sSeq (sSet 2 (dOp2 ixB (aE (dOp2 ixB (aV 0) (aE (dC (.int 0))))) (aE (dOp2 ixB (aV 0) (aE (dC (.int 1))))))) (sSeq (sSetIx 0 (dC (.int 1)) (dOp2 addB (aE (dOp2 ixB (aV 0) (aE (dC (.int 1))))) (aE (dC (.int 1))))) (sSeq (sSetIx 0 (dC (.int 2)) (dV 2)) (sIf (dTv (dOp2 (toB ltB) (aV 2) (aE (dC (.int 1000000000000000000))))) (sSetIx 0 (dC (.int 2)) (dCall f_law_spread (aCons (aE (dV 2)) aNil))) sSkip)))) sSkip) (sSeq (sSetIx 0 (dC (.int 3)) (dOp2 addB (aE (dOp2 ixB (aV 0) (aE (dC (.int 3))))) (aE (dC (.int 1))))) (sSeq (sIf (dTv (dOp2 (toB leB) (aE (dOp2 ixB (aV 0) (aE (dC (.int 2))))) (aE (dC (.int 0))))) (sSeq (sSet 3 (dOp2 modB (aE (dOpN intB (aCons (aE (dOp2 addB (aE (dOp2 addB (aE (dOp2 mulB (aE (dOp2 ixB (aV 0) (aE (dC (.int 4))))) (aE (dC (.int 48271))))) (aE (dOp2 mulB (aE (dOp2 ixB (aV 0) (aE (dC (.int 3))))) (aE (dC (.int 69621))))))) (aE (dC (.int 1))))) aNil))) (aE (dC (.int 2147483647))))) (sSeq (sSet 3 (dOp2 modB (aE (dOpN intB (aCons (aE (dOp2 addB (aE (dOp2 mulB (aV 3) (aE (dC (.int 16807))))) (aE (dOp2 ixB (aV 0) (aE (dC (.int 3))))))) aNil))) (aE (dC (.int 2147483629))))) (sRet (dOp2 modB (aE (dOp2 fdivB (aV 3) (aE (dC (.int 5))))) (aV 1))))) sSkip) (sSeq (sSet 4 (dOp2 modB (aE (dOpN intB (aCons (aE (dOp2 ixB (aV 0) (aE (dC (.int 2))))) aNil))) (aV 1))) (sSeq (sSetIx 0 (dC (.int 2)) (dOp2 fdivB (aE (dOp2 ixB (aV 0) (aE (dC (.int 2))))) (aV 1))) (sRet (dV 4)))))))
def f_law_draw : Cn := fn 2 5 b_law_draw
-- law_error: see Ft28
def law_possible_e1 : Dn := (dOp2 ixB (aV 4) (aE (dC (.int 1))))
def law_possible_c1 : Fn := (fComp (iSeq (dV 0)) (bN 4) tnYes law_possible_e1 [4])
def law_possible_e2 : Dn := (dOp2 ixB (aV 4) (aE (dC (.int 0))))
def law_possible_c2 : Fn := (fComp (iSeq (dV 0)) (bN 4) tnYes law_possible_e2 [4])
def law_possible_t1 : Tn := (tnOr (dTv (dOp2 (toB ltB) (aV 3) (aE (dOp2 ixB (aV 4) (aE (dC (.int 0))))))) (dTv (dOp2 (toB gtB) (aV 3) (aE (dOp2 ixB (aV 4) (aE (dC (.int 1))))))))
def law_possible_e3 : Dn := (dV 4)
def law_possible_c3 : Fn := (fComp (iSeq (dV 0)) (bN 4) law_possible_t1 law_possible_e3 [4])
def law_possible_b1 : Sn := (sIf (dTv (dOp2 (toB leB) (aE (dOpN lenB (aCons (aE (dFz law_possible_c3)) aNil))) (aV 1))) (sIf (tnAnd (dTv (dOp2 (toB neB) (aV 2) (aE (dFz (fLst vNil))))) (dTv (dOp2 (toB eqB) (aE (dOp2 ixB (aE (dOp2 ixB (aV 2) (aE (dOp1 negB (aE (dC (.int 1))))))) (aE (dC (.int 1))))) (aE (dOp2 subB (aV 3) (aE (dC (.int 1)))))))) (sSetIx 2 (dOp1 negB (aE (dC (.int 1)))) (dTup (vCons (dOp2 ixB (aE (dOp2 ixB (aV 2) (aE (dOp1 negB (aE (dC (.int 1))))))) (aE (dC (.int 0)))) (vCons (dV 3) vNil)))) (sApp 2 (dTup (vCons (dV 3) (vCons (dV 3) vNil))))) sSkip)
def b_law_possible : Sn := (sSeq (sIf (dTv (dOp2 (toB geB) (aV 1) (aE (dOpN lenB (aCons (aV 0) aNil))))) (sRet (dTup (vCons (dC (.str "refused")) (vCons (dC (.str "TooManyLies")) vNil)))) sSkip) (sSeq (sNew 2 (fLst vNil)) (sSeq (sFor (iOn rng2 (aCons (aE (dOpN minLB (aCons (aE (dFz law_possible_c2)) aNil))) (aCons (aE (dOp2 addB (aE (dOpN maxLB (aCons (aE (dFz law_possible_c1)) aNil))) (aE (dC (.int 1))))) aNil))) (bN 3) law_possible_b1) (sRet (dOpN tupB (aCons (aV 2) aNil))))))
def f_law_possible : Cn := fn 2 5 b_law_possible
def law_hours_for_t1 : Tn := (tnAnd (dTv (dOp2 (toB leB) (aE (dOp2 mulB (aV 3) (aE (dOp2 subB (aE (dC (.int 100))) (aV 1))))) (aE (dOp2 mulB (aE (dC (.int 100))) (aV 0))))) (dTv (dOp2 (toB leB) (aE (dOp2 mulB (aE (dC (.int 100))) (aV 0))) (aE (dOp2 mulB (aV 3) (aE (dOp2 addB (aE (dC (.int 100))) (aV 1))))))))
def law_hours_for_e1 : Dn := (dV 3)
def law_hours_for_c1 : Fn := (fComp (iOn rng2 (aCons (aE (dOp2 fdivB (aV 0) (aE (dC (.int 2))))) (aCons (aE (dOp2 addB (aE (dOp2 mulB (aE (dC (.int 2))) (aV 0))) (aE (dC (.int 1))))) aNil))) (bN 3) law_hours_for_t1 law_hours_for_e1 [3])
def b_law_hours_for : Sn := (sSeq (sSet 2 (dFz law_hours_for_c1)) (sRet (dTup (vCons (dOp2 ixB (aV 2) (aE (dC (.int 0)))) (vCons (dOp2 ixB (aV 2) (aE (dOp1 negB (aE (dC (.int 1)))))) vNil)))))
def f_law_hours_for : Cn := fn 2 4 b_law_hours_for
def b_law_told_v30 : Sn := (sTry (sRet (dCall f_fused_hours_v2 (aCons (aE (dV 0)) (aCons (aE (dV 1)) (aCons (aE (dV 2)) aNil))))) refD)
def f_law_told_v30 : Cn := fn 3 4 b_law_told_v30
def law_k58_e1 : Dn := (dOp2 ixB (aE (dTup (vCons (dC (.int 0)) (vCons (dC (.int 5)) (vCons (dC (.int 20)) (vCons (dCall f_law_draw (aCons (aR 1) (aCons (aE (dC (.int 51))) aNil))) vNil)))))) (aE (dCall f_law_draw (aCons (aR 1) (aCons (aE (dC (.int 4))) aNil)))))
def law_k58_c1 : Fn := (fComp (iOn rng1 (aCons (aV 4) aNil)) (bN 6) tnYes law_k58_e1 [6])
def law_k58_b1 : Sn := (sSeq (sSet 9 (dOp2 fdivB (aE (dOp2 mulB (aV 3) (aE (dOp2 subB (aE (dC (.int 100))) (aE (dOp2 ixB (aV 5) (aV 6))))))) (aE (dC (.int 100))))) (sSeq (sSet 10 (dOp2 addB (aV 9) (aE (dCall f_law_draw (aCons (aR 1) (aCons (aE (dOp2 addB (aE (dC (.int 2))) (aE (dOp2 fdivB (aE (dOp2 mulB (aV 3) (aE (dOp2 ixB (aV 5) (aV 6))))) (aE (dC (.int 50))))))) aNil)))))) (sSeq (sApp 7 (dV 10)) (sSeq (sSet 11 (dCall f_law_hours_for (aCons (aE (dV 10)) (aCons (aE (dOp2 ixB (aV 5) (aV 6))) aNil)))) (sSet 8 (dOp2 addB (aV 8) (aE (dOpN intB (aCons (aE (dOr (dOp2 (toB ltB) (aV 3) (aE (dOp2 ixB (aV 11) (aE (dC (.int 0)))))) (dOp2 (toB gtB) (aV 3) (aE (dOp2 ixB (aV 11) (aE (dC (.int 1)))))))) aNil)))))))))
def law_k58_e2 : Dn := (dCall f_law_hours_for (aCons (aE (dOp2 ixB (aV 7) (aV 6))) (aCons (aE (dOp2 ixB (aV 5) (aV 6))) aNil)))
def law_k58_c2 : Fn := (fComp (iOn rng1 (aCons (aV 4) aNil)) (bN 6) tnYes law_k58_e2 [6])
def law_k58_t1 : Tn := (tnAnd (dTv (dOp2 (toB leB) (aE (dOp2 ixB (aV 16) (aE (dC (.int 0))))) (aV 3))) (dTv (dOp2 (toB leB) (aV 3) (aE (dOp2 ixB (aV 16) (aE (dC (.int 1))))))))
def law_k58_e3 : Dn := (dV 16)
def law_k58_c3 : Fn := (fComp (iSeq (dV 15)) (bN 16) law_k58_t1 law_k58_e3 [16])
def law_k58_b2 : Sn := (sSeq (sSet 14 (dCall f_law_possible (aCons (aE (dV 12)) (aCons (aE (dV 13)) aNil)))) (sSeq (sSet 15 (dCall f_law_told_v30 (aCons (aE (dOpN tupB (aCons (aV 7) aNil))) (aCons (aE (dV 5)) (aCons (aE (dV 13)) aNil))))) (sSeq (sIf (tnNot (dTv (dCall (f_law_same 12) (aCons (aE (dV 15)) (aCons (aE (dV 14)) aNil))))) (sRet (dC (.bool false))) sSkip) (sIf (tnAnd (dTv (dOp2 (toB leB) (aV 8) (aV 13))) (tnAnd (dTv (dOp2 (toB ltB) (aV 13) (aV 4))) (dTv (dOp2 (toB neB) (aE (dOpN lenB (aCons (aE (dFz law_k58_c3)) aNil))) (aE (dC (.int 1))))))) (sRet (dC (.bool false))) sSkip))))
def law_k58_b3 : Sn := (sSeq (sSet 3 (dCall f_law_draw (aCons (aR 1) (aCons (aE (dOp2 ixB (aE (dTup (vCons (dC (.int 10)) (vCons (dC (.int 80)) vNil)))) (aE (dCall f_law_draw (aCons (aR 1) (aCons (aE (dC (.int 2))) aNil)))))) aNil)))) (sSeq (sSet 4 (dOp2 addB (aE (dC (.int 1))) (aE (dCall f_law_draw (aCons (aR 1) (aCons (aE (dC (.int 6))) aNil)))))) (sSeq (sSet 5 (dOpN tupB (aCons (aE (dFz law_k58_c1)) aNil))) (sSeq (sNew 7 (fLst vNil)) (sSeq (sSet 8 (dC (.int 0))) (sSeq (sFor (iOn rng1 (aCons (aV 4) aNil)) (bN 6) law_k58_b1) (sSeq (sSet 12 (dOpN tupB (aCons (aE (dFz law_k58_c2)) aNil))) (sFor (iOn rng1 (aCons (aE (dOp2 addB (aV 4) (aE (dC (.int 2))))) aNil)) (bN 13) law_k58_b2))))))))
def b_law_k58 : Sn := (sSeq (sNew 1 (fCall f_law_pool (aCons (aE (dV 0)) aNil))) (sSeq (sFor (iOn rng1 (aCons (aE (dC (.int 3))) aNil)) (bN 2) law_k58_b3) (sRet (dC (.bool true)))))
def f_law_k58 : Cn := fn 1 17 b_law_k58
def b_shown : Sn := (sRet (dTup (vCons (dOp1 negB (aE (dOp2 fdivB (aE (dOp2 mulB (aE (dOp1 negB (aV 0))) (aE (dOp2 subB (aE (dC (.int 100))) (aV 1))))) (aE (dC (.int 100)))))) (vCons (dOp2 fdivB (aE (dOp2 mulB (aV 0) (aE (dOp2 addB (aE (dC (.int 100))) (aV 1))))) (aE (dC (.int 100)))) vNil))))
def f_shown : Cn := fn 2 2 b_shown
def law_k57_t1 : Tn := (tnAnd (dTv (dOp2 (toB leB) (aE (dOp2 mulB (aV 4) (aE (dOp2 subB (aE (dC (.int 100))) (aV 3))))) (aE (dOp2 mulB (aE (dC (.int 100))) (aV 6))))) (dTv (dOp2 (toB leB) (aE (dOp2 mulB (aE (dC (.int 100))) (aV 6))) (aE (dOp2 mulB (aV 4) (aE (dOp2 addB (aE (dC (.int 100))) (aV 3))))))))
def law_k57_e1 : Dn := (dV 6)
def law_k57_c1 : Fn := (fComp (iOn rng2 (aCons (aE (dOp2 fdivB (aV 4) (aE (dC (.int 2))))) (aCons (aE (dOp2 addB (aE (dOp2 mulB (aE (dC (.int 2))) (aV 4))) (aE (dC (.int 1))))) aNil))) (bN 6) law_k57_t1 law_k57_e1 [6])
def law_k57_b1 : Sn := (sSeq (sSet 3 (dOp2 ixB (aE (dTup (vCons (dC (.int 0)) (vCons (dC (.int 50)) (vCons (dC (.int 10)) (vCons (dCall f_law_draw (aCons (aR 1) (aCons (aE (dC (.int 51))) aNil))) vNil)))))) (aE (dCall f_law_draw (aCons (aR 1) (aCons (aE (dC (.int 4))) aNil)))))) (sSeq (sSet 4 (dOp2 ixB (aE (dTup (vCons (dC (.int 0)) (vCons (dC (.int 1)) (vCons (dCall f_law_draw (aCons (aR 1) (aCons (aE (dC (.int 60))) aNil))) (vCons (dCall f_law_draw (aCons (aR 1) (aCons (aE (dC (.int 400))) aNil))) vNil)))))) (aE (dCall f_law_draw (aCons (aR 1) (aCons (aE (dC (.int 4))) aNil)))))) (sSeq (sSet 5 (dFz law_k57_c1)) (sIf (tnOr (tnNot (dTv (dCall (f_law_same 12) (aCons (aE (dCall f_shown (aCons (aE (dV 4)) (aCons (aE (dV 3)) aNil)))) (aCons (aE (dTup (vCons (dOp2 ixB (aV 5) (aE (dC (.int 0)))) (vCons (dOp2 ixB (aV 5) (aE (dOp1 negB (aE (dC (.int 1)))))) vNil)))) aNil))))) (tnNot (dTv (dCall (f_law_same 12) (aCons (aE (dCall f_hours_for (aCons (aE (dV 4)) (aCons (aE (dV 3)) aNil)))) (aCons (aE (dCall f_law_hours_for (aCons (aE (dV 4)) (aCons (aE (dV 3)) aNil)))) aNil)))))) (sRet (dC (.bool false))) sSkip))))
def b_law_k57 : Sn := (sSeq (sNew 1 (fCall f_law_pool (aCons (aE (dV 0)) aNil))) (sSeq (sFor (iOn rng1 (aCons (aE (dC (.int 8))) aNil)) (bN 2) law_k57_b1) (sRet (dC (.bool true)))))
def f_law_k57 : Cn := fn 1 7 b_law_k57
def possible_e1 : Dn := (dV 3)
def possible_e2 : Dn := (dOp2 addB (aV 4) (aE (dC (.int 1))))
def possible_t1 : Tn := (dTv (dOp2 (toB geB) (aE (dCall f_inside (aCons (aE (dV 0)) (aCons (aE (dOp2 ixB (aV 2) (aV 7))) aNil)))) (aV 5)))
def possible_e3 : Dn := (dTup (vCons (dOp2 ixB (aV 2) (aV 7)) (vCons (dOp2 subB (aE (dOp2 ixB (aV 2) (aE (dOp2 addB (aV 7) (aE (dC (.int 1))))))) (aE (dC (.int 1)))) vNil)))
def possible_c1 : Fn := (fComp (iOn rng1 (aCons (aE (dOp2 subB (aE (dOpN lenB (aCons (aV 2) aNil))) (aE (dC (.int 1))))) aNil)) (bN 7) possible_t1 possible_e3 [7])
def b_possible : Sn := (sSeq (sIf (dTv (dOp2 (toB geB) (aV 1) (aE (dOpN lenB (aCons (aV 0) aNil))))) sNo sSkip) (sSeq (sSet 2 (dFz (fSortU (setC (iSeq (dV 0)) (bT [3, 4]) tnYes possible_e1 [3, 4]) (setC (iSeq (dV 0)) (bT [3, 4]) tnYes possible_e2 [3, 4])))) (sSeq (sSet 5 (dOp2 subB (aE (dOpN lenB (aCons (aV 0) aNil))) (aV 1))) (sSeq (sSet 6 (dFz possible_c1)) (sRet (dCall f_joined (aCons (aE (dV 6)) aNil)))))))
def f_possible : Cn := fn 2 8 b_possible
def law_intervals_b1 : Sn := (sSeq (sSet 5 (dOp2 subB (aE (dCall f_law_draw (aCons (aR 0) (aCons (aE (dV 2)) aNil)))) (aE (dOp2 fdivB (aV 2) (aE (dC (.int 2))))))) (sApp 3 (dTup (vCons (dV 5) (vCons (dOp2 addB (aV 5) (aE (dCall f_law_draw (aCons (aR 0) (aCons (aE (dOp2 ixB (aE (dTup (vCons (dC (.int 1)) (vCons (dC (.int 3)) (vCons (dV 2) vNil))))) (aE (dCall f_law_draw (aCons (aR 0) (aCons (aE (dC (.int 3))) aNil)))))) aNil))))) vNil)))))
def b_law_intervals : Sn := (sSeq (sSet 2 (dOp2 ixB (aE (dTup (vCons (dC (.int 4)) (vCons (dC (.int 12)) (vCons (dC (.int 60)) vNil))))) (aE (dCall f_law_draw (aCons (aR 0) (aCons (aE (dC (.int 3))) aNil)))))) (sSeq (sNew 3 (fLst vNil)) (sSeq (sFor (iOn rng1 (aCons (aE (dOp2 addB (aE (dC (.int 1))) (aE (dCall f_law_draw (aCons (aR 0) (aCons (aE (dV 1)) aNil)))))) aNil)) (bN 4) law_intervals_b1) (sRet (dOpN tupB (aCons (aV 3) aNil))))))
def f_law_intervals : Cn := fn 2 6 b_law_intervals
def fewest_lies_e1 : Dn := (dCall f_inside (aCons (aE (dV 0)) (aCons (aE (dV 1)) aNil)))
def fewest_lies_c1 : Fn := (fComp (iSeq (dV 0)) (bT [1, 2]) tnYes fewest_lies_e1 [1, 2])
def b_fewest_lies : Sn := (sRet (dOp2 subB (aE (dOpN lenB (aCons (aV 0) aNil))) (aE (dOpN maxLB (aCons (aE (dFz fewest_lies_c1)) aNil)))))
def f_fewest_lies : Cn := fn 1 3 b_fewest_lies
end
end Ft
/-! Common: the laws' pool, its draws. -/
namespace Ft
open PySem L2
/-! ### the pool -/
def Pool (l : List D) : Prop := ∃ (cells : List Int) (p v c s : Int), 0 ≤ p ∧ l = [.list (cells.map PyData.int), .int p, .int v, .int c, .int s]
theorem cutD_mem {l : List D} {a b : Option Int} {d : D} (h : d ∈ cutD l a b) : d ∈ l := by
  unfold cutD at h
  exact List.mem_of_mem_drop (List.mem_of_mem_take h)
theorem pool_loop {x : D} (l : List D) (h : ∀ d ∈ l, ∃ z : Int, d = .int z) : ∃ (s : Int) (y : LV), forV (bN 2) law_pool_b1 l [.val x, .val (.int 7), .un] = .next [.val x, .val (.int s), y] := by
  refine for_rule (P := fun r => ∃ (s : Int) (y : LV), r = .next [.val x, .val (.int s), y]) l (fun _ ρ => ∃ (s : Int) (y : LV), nioK (some y) = true ∧ ρ = [.val x, .val (.int s), y]) _ ⟨7, .un, rfl, rfl⟩ ?_ ?_
  · rintro i d ρ hi ⟨s, y, hy, rfl⟩
    obtain ⟨z, rfl⟩ := h d (List.mem_of_getElem? hi)
    refine ⟨[.val x, .val (.int s), .val (.int z)], by simp -implicitDefEqProofs only [evs0, evs1, evs2, evsX, Nat.reduceAdd, Nat.reduceSub, ↓reduceIte, Nat.reduceLeDiff, Int.reduceEq, Int.reduceLT, Int.reduceLE, hy], ?_⟩
    unfold law_pool_b1
    simp -implicitDefEqProofs (decide := true) only [evs0, evs1, evs2, evsX, Nat.reduceAdd, Nat.reduceSub, ↓reduceIte, Nat.reduceLeDiff, Int.reduceEq, Int.reduceLT, Int.reduceLE, Turn, ev_small]
    exact ⟨_, _, rfl, rfl⟩
  · rintro ρ ⟨s, y, _, rfl⟩
    exact ⟨s, y, rfl⟩
theorem pool_ok (cells : List Int) : ∃ l, f_law_pool [.val (.list (cells.map PyData.int))] = .new (.lst l) [] ∧ Pool l := by
  have sl : slB (.list (cells.map PyData.int)) none (some 63) = some (.list (cutD (cells.map PyData.int) none (some 63))) := rfl
  obtain ⟨s, y, e⟩ := pool_loop (x := .list (cells.map PyData.int)) (cutD (cells.map PyData.int) none (some 63)) fun d hd => by
    obtain ⟨z, _, rfl⟩ := List.mem_map.mp (cutD_mem hd)
    exact ⟨z, rfl⟩
  refine ⟨[.list (cells.map PyData.int), .int 0, .int 0, .int 0, .int s], ?_, cells, 0, 0, 0, s, Int.le_refl _, rfl⟩
  unfold f_law_pool b_law_pool
  simp -implicitDefEqProofs (decide := true) only [evs0, evs1, evs2, evsX, Nat.reduceAdd, Nat.reduceSub, ↓reduceIte, Nat.reduceLeDiff, Int.reduceEq, Int.reduceLT, Int.reduceLE, sl, e]
theorem spread_loop {x : D} (t0 m0 : Int) (y0 : LV) (hy0 : nioK (some y0) = true) : ∃ (m t : Int) (y : LV), forV (bN 3) law_spread_b1 (rangeL 0 4) [.val x, .val (.int m0), .val (.int t0), y0] = .next [.val x, .val (.int m), .val (.int t), y] := by
  refine for_rule (P := fun r => ∃ (m t : Int) (y : LV), r = .next [.val x, .val (.int m), .val (.int t), y]) (rangeL 0 4) (fun _ ρ => ∃ (m t : Int) (y : LV), nioK (some y) = true ∧ ρ = [.val x, .val (.int m), .val (.int t), y]) _ ⟨m0, t0, y0, hy0, rfl⟩ ?_ ?_
  · rintro i d ρ hi ⟨m, t, y, hy, rfl⟩
    obtain ⟨rfl, _⟩ := rangeL_at hi
    refine ⟨[.val x, .val (.int m), .val (.int t), .val (.int (0 + i))], by simp -implicitDefEqProofs only [evs0, evs1, evs2, evsX, Nat.reduceAdd, Nat.reduceSub, ↓reduceIte, Nat.reduceLeDiff, Int.reduceEq, Int.reduceLT, Int.reduceLE, hy], ?_⟩
    unfold law_spread_b1
    simp -implicitDefEqProofs (decide := true) only [evs0, evs1, evs2, evsX, Nat.reduceAdd, Nat.reduceSub, ↓reduceIte, Nat.reduceLeDiff, Int.reduceEq, Int.reduceLT, Int.reduceLE, Turn]
    exact ⟨_, _, _, rfl, rfl⟩
  · rintro ρ ⟨m, t, y, _, rfl⟩
    exact ⟨m, t, y, rfl⟩
theorem spread_ok (c : Int) : ∃ t : Int, f_law_spread [.val (.int c)] = .ok (.int t) [] := by
  obtain ⟨m, t, y, e⟩ := spread_loop (x := .int c) 1 (c % 2147483647) .un rfl
  refine ⟨t, ?_⟩
  unfold f_law_spread b_law_spread
  simp -implicitDefEqProofs (decide := true) only [evs0, evs1, evs2, evsX, Nat.reduceAdd, Nat.reduceSub, ↓reduceIte, Nat.reduceLeDiff, Int.reduceEq, Int.reduceLT, Int.reduceLE, e]
theorem pool_at {cells : List Int} {p : Int} (h0 : 0 ≤ p) (h : p < (cells.length : Int)) : ∃ z : Int, atI (cells.map PyData.int) p = some (.int z) := by
  have hl : p.toNat < cells.length := by omega
  exact ⟨cells[p.toNat], atI_get h0 (by rw [List.getElem?_map, List.getElem?_eq_getElem hl]; rfl)⟩
theorem draw_ok {l : List D} {m : Int} (h : Pool l) (h0 : 0 < m) (h1 : m < 1073741824) : ∃ (r : Int) (l' : List D), f_law_draw [.own (.lst l) false, .val (.int m)] = .ok (.int r) [.lst l'] ∧ 0 ≤ r ∧ r < m ∧ Pool l' := by
  obtain ⟨cells, p, v, c, s, hp, rfl⟩ := h
  have m1 : ∀ z : Int, 0 ≤ z % m := fun z => Int.emod_nonneg _ (by omega)
  have m2 : ∀ z : Int, z % m < m := fun z => Int.emod_lt_of_pos _ h0
  have T : decide True = true := rfl
  by_cases hv : v ≤ 0
  · by_cases hq : p < (cells.length : Int)
    · obtain ⟨z, hz⟩ := pool_at hp hq
      by_cases hc : z < 1000000000000000000
      · obtain ⟨t, ht⟩ := spread_ok z
        by_cases hw : t ≤ 0
        · unfold f_law_draw b_law_draw
          simp -implicitDefEqProofs (decide := true) only [evs0, evs1, evs2, evsX, Nat.reduceAdd, Nat.reduceSub, ↓reduceIte, Nat.reduceLeDiff, Int.reduceEq, Int.reduceLT, Int.reduceLE, hv, hq, hz, hc, ht, hw, h0, List.length_map]
          exact ⟨_, _, rfl, m1 _, m2 _, ⟨cells, p + 1, t, c + 1, s, by omega, rfl⟩⟩
        · unfold f_law_draw b_law_draw
          simp -implicitDefEqProofs (decide := true) only [evs0, evs1, evs2, evsX, Nat.reduceAdd, Nat.reduceSub, ↓reduceIte, Nat.reduceLeDiff, Int.reduceEq, Int.reduceLT, Int.reduceLE, hv, hq, hz, hc, ht, hw, h0, h1, List.length_map]
          exact ⟨_, _, rfl, m1 _, m2 _, ⟨cells, p + 1, t / m, c + 1, s, by omega, rfl⟩⟩
      · have hw : ¬ z ≤ 0 := by omega
        unfold f_law_draw b_law_draw
        simp -implicitDefEqProofs (decide := true) only [evs0, evs1, evs2, evsX, Nat.reduceAdd, Nat.reduceSub, ↓reduceIte, Nat.reduceLeDiff, Int.reduceEq, Int.reduceLT, Int.reduceLE, hv, hq, hz, hc, hw, h0, h1, List.length_map]
        exact ⟨_, _, rfl, m1 _, m2 _, ⟨cells, p + 1, z / m, c + 1, s, by omega, rfl⟩⟩
    · unfold f_law_draw b_law_draw
      simp -implicitDefEqProofs (decide := true) only [evs0, evs1, evs2, evsX, Nat.reduceAdd, Nat.reduceSub, ↓reduceIte, Nat.reduceLeDiff, Int.reduceEq, Int.reduceLT, Int.reduceLE, hv, hq, h0, h1, List.length_map]
      exact ⟨_, _, rfl, m1 _, m2 _, ⟨cells, p, v, c + 1, s, by omega, rfl⟩⟩
  · unfold f_law_draw b_law_draw
    simp -implicitDefEqProofs (decide := true) only [evs0, evs1, evs2, evsX, Nat.reduceAdd, Nat.reduceSub, ↓reduceIte, Nat.reduceLeDiff, Int.reduceEq, Int.reduceLT, Int.reduceLE, hv, h0, h1, List.length_map]
    exact ⟨_, _, rfl, m1 _, m2 _, ⟨cells, p, v / m, c + 1, s, by omega, rfl⟩⟩
/-! ### the law's own comparison -/
/-- no dict, no deeper than n, no row too long -/
def okD : Nat → D → Bool
  | 0, _ => false
  | _ + 1, .none => true
  | _ + 1, .bool _ => true
  | _ + 1, .int _ => true
  | _ + 1, .str _ => true
  | n + 1, .list l => decide (l.length ≤ 1000000000) && l.all (okD n)
  | n + 1, .tuple l => decide (l.length ≤ 1000000000) && l.all (okD n)
  | _ + 1, .dict _ => false
theorem same_row {r : Cn} {l : List D} {x : D} (hx : ∀ i : Int, ixB x (.int i) = atI l i) (hl : l.length ≤ 1000000000) (h : ∀ d ∈ l, r [.val d, .val d] = .ok (.bool true) []) :
    compL (bN 2) (law_same_t1 r) (law_same_e1 r) [2] (rangeL 0 l.length) [] [.val x, .val x, .un] = .ok [] [.val x, .val x, .un] := by
  refine comp_none _ _ _ fun d hd => ?_
  obtain ⟨i, hi⟩ := List.getElem?_of_mem hd
  obtain ⟨rfl, hi2⟩ := rangeL_at hi
  have hl2 : i < l.length := by omega
  have e : atI l (0 + (i : Int)) = some l[i] := by rw [Int.zero_add, atI_nat, List.getElem?_eq_getElem hl2]
  refine ⟨[.val x, .val x, .val (.int (0 + i))], [.val x, .val x, .val (.int (0 + i))], by simp -implicitDefEqProofs only [evs0, evs1, evs2, evsX, Nat.reduceAdd, Nat.reduceSub, ↓reduceIte, Nat.reduceLeDiff, Int.reduceEq, Int.reduceLT, Int.reduceLE], ?_, by simp -implicitDefEqProofs only [evs0, evs1, evs2, evsX, Nat.reduceAdd, Nat.reduceSub, ↓reduceIte, Nat.reduceLeDiff, Int.reduceEq, Int.reduceLT, Int.reduceLE]⟩
  unfold law_same_t1
  simp -implicitDefEqProofs only [evs0, evs1, evs2, evsX, Nat.reduceAdd, Nat.reduceSub, ↓reduceIte, Nat.reduceLeDiff, Int.reduceEq, Int.reduceLT, Int.reduceLE, hx, e, h _ (List.getElem_mem hl2)]
theorem same_none {r : Cn} : fn 2 3 (b_law_same r) [.val .none, .val .none] = .ok (.bool true) [] := by
  unfold b_law_same
  simp -implicitDefEqProofs only [evs0, evs1, evs2, evsX, Nat.reduceAdd, Nat.reduceSub, ↓reduceIte, Nat.reduceLeDiff, Int.reduceEq, Int.reduceLT, Int.reduceLE]
theorem same_bool {r : Cn} {b : Bool} : fn 2 3 (b_law_same r) [.val (.bool b), .val (.bool b)] = .ok (.bool true) [] := by
  unfold b_law_same
  simp -implicitDefEqProofs only [evs0, evs1, evs2, evsX, Nat.reduceAdd, Nat.reduceSub, ↓reduceIte, Nat.reduceLeDiff, Int.reduceEq, Int.reduceLT, Int.reduceLE]
theorem same_int {r : Cn} {b : Int} : fn 2 3 (b_law_same r) [.val (.int b), .val (.int b)] = .ok (.bool true) [] := by
  unfold b_law_same
  simp -implicitDefEqProofs only [evs0, evs1, evs2, evsX, Nat.reduceAdd, Nat.reduceSub, ↓reduceIte, Nat.reduceLeDiff, Int.reduceEq, Int.reduceLT, Int.reduceLE]
theorem same_str {r : Cn} {b : Str} : fn 2 3 (b_law_same r) [.val (.str b), .val (.str b)] = .ok (.bool true) [] := by
  unfold b_law_same
  simp -implicitDefEqProofs only [evs0, evs1, evs2, evsX, Nat.reduceAdd, Nat.reduceSub, ↓reduceIte, Nat.reduceLeDiff, Int.reduceEq, Int.reduceLT, Int.reduceLE]
theorem same_seq {r : Cn} {x : D} {l : List D} (hx : ∀ i : Int, ixB x (.int i) = atI l i) (hlen : lenB [x] = some (.int (l.length : Int))) (h1 : (x.isTuple = true ∧ x.isList = false) ∨ (x.isTuple = false ∧ x.isList = true)) (hl : l.length ≤ 1000000000) (h : ∀ d ∈ l, r [.val d, .val d] = .ok (.bool true) []) :
    fn 2 3 (b_law_same r) [.val x, .val x] = .ok (.bool true) [] := by
  have e := same_row (r := r) (x := x) hx hl h
  have q1 : (l.length : Int) < 4611686018427387904 := by omega
  have q2 : (-4611686018427387904 : Int) ≤ l.length := by omega
  unfold b_law_same law_same_c1
  rcases h1 with ⟨a, b⟩ | ⟨a, b⟩
  · simp -implicitDefEqProofs only [evs0, evs1, evs2, evsX, Nat.reduceAdd, Nat.reduceSub, ↓reduceIte, Nat.reduceLeDiff, Int.reduceEq, Int.reduceLT, Int.reduceLE, a, b, hlen, ev_rng1 q1 q2, e]
  · simp -implicitDefEqProofs only [evs0, evs1, evs2, evsX, Nat.reduceAdd, Nat.reduceSub, ↓reduceIte, Nat.reduceLeDiff, Int.reduceEq, Int.reduceLT, Int.reduceLE, a, b, hlen, ev_rng1 q1 q2, e]
theorem same_refl : ∀ (n : Nat) (d : D), okD n d = true → f_law_same n [.val d, .val d] = .ok (.bool true) [] := by
  intro n
  induction n with
  | zero => intro d h; cases h
  | succ n ih =>
    intro d h
    unfold f_law_same
    cases d with
    | none => exact same_none
    | bool b => exact same_bool
    | int b => exact same_int
    | str b => exact same_str
    | list l =>
      simp only [okD, Bool.and_eq_true, decide_eq_true_eq, List.all_eq_true] at h
      exact same_seq (fun _ => rfl) rfl (.inr ⟨rfl, rfl⟩) h.1 fun d hd => ih d (h.2 d hd)
    | tuple l =>
      simp only [okD, Bool.and_eq_true, decide_eq_true_eq, List.all_eq_true] at h
      exact same_seq (fun _ => rfl) rfl (.inl ⟨rfl, rfl⟩) h.1 fun d hd => ih d (h.2 d hd)
    | dict _ => cases h
end Ft
/-! Comps: comprehensions over lists that stand for others. -/
namespace Ft
open PySem L2
section
variable {bd bd1 : Bd} {ifs ifs1 : Tn} {key elt : Dn} {src1 : In} {vs vs1 : List Nat}
theorem comp_enc {α : Type} {enc : α → D} {q : α → Bool} {g : α → D} {st : Rho} {ρ1 : α → Rho} : ∀ (Z : List α) (acc : List D), acc.length + Z.length ≤ 16000000 → (∀ a ∈ Z, bd (enc a) st = some (ρ1 a)) → (∀ a ∈ Z, ifs (ρ1 a) = .ok (q a) (ρ1 a)) → (∀ a ∈ Z, q a = true → elt (ρ1 a) = .ok (g a) (ρ1 a)) → (∀ a ∈ Z, wipeR (ρ1 a) vs = st) →
    compL bd ifs elt vs (Z.map enc) acc st = .ok (acc ++ (Z.filter q).map g) st
  | [], acc, _, _, _, _, _ => by simp [compL]
  | a :: Z, acc, hz, hb, ht, he, hw => by
    rw [List.length_cons] at hz
    have m := List.mem_cons_self (a := a) (l := Z)
    rw [List.map_cons]
    unfold compL
    simp only [hb a m, ht a m]
    cases h : q a with
    | false =>
      simp only
      rw [hw a m, comp_enc Z acc (by omega) (fun x hx => hb x (List.mem_cons_of_mem _ hx)) (fun x hx => ht x (List.mem_cons_of_mem _ hx)) (fun x hx => he x (List.mem_cons_of_mem _ hx)) (fun x hx => hw x (List.mem_cons_of_mem _ hx))]
      simp [h]
    | true =>
      simp only [he a m h]
      rw [if_pos (show acc.length < PySem.sizeLine by unfold PySem.sizeLine; omega), hw a m, comp_enc Z (acc ++ [g a]) (by rw [List.length_append]; simp; omega) (fun x hx => hb x (List.mem_cons_of_mem _ hx)) (fun x hx => ht x (List.mem_cons_of_mem _ hx)) (fun x hx => he x (List.mem_cons_of_mem _ hx)) (fun x hx => hw x (List.mem_cons_of_mem _ hx))]
      simp [h]
/-- two clauses, the first without a test -/
theorem comp2_enc {α : Type} {enc : α → D} {f : α → List D} {st : Rho} {ρ1 : α → Rho} : ∀ (Z : List α) (acc : List D), acc.length + (Z.map f).flatten.length ≤ 15000000 → (∀ a ∈ Z, bd (enc a) st = some (ρ1 a)) →
    (∀ a ∈ Z, ∀ acc : List D, acc.length + (f a).length ≤ 15000000 → ∃ l1 ρ3 ρ4, src1 (ρ1 a) = .ok l1 ρ3 ∧ compL bd1 ifs1 elt vs1 l1 acc (wipeR ρ3 vs1) = .ok (acc ++ f a) ρ4 ∧ wipeR ρ4 vs = st) →
    compL2 bd tnYes src1 bd1 ifs1 elt vs vs1 (Z.map enc) acc st = .ok (acc ++ (Z.map f).flatten) st
  | [], acc, _, _, _ => by simp [compL2]
  | a :: Z, acc, hz, hb, hs => by
    have m := List.mem_cons_self (a := a) (l := Z)
    rw [List.map_cons, List.flatten_cons, List.length_append] at hz
    obtain ⟨l1, ρ3, ρ4, e1, e2, e3⟩ := hs a m acc (by omega)
    have ey : tnYes (ρ1 a) = .ok true (ρ1 a) := rfl
    rw [List.map_cons]
    unfold compL2
    simp only [hb a m, ey, e1, e2, e3]
    rw [comp2_enc Z (acc ++ f a) (by rw [List.length_append]; omega) (fun x hx => hb x (List.mem_cons_of_mem _ hx)) (fun x hx => hs x (List.mem_cons_of_mem _ hx))]
    simp
/-- a table of whole numbers -/
def tabI (Z : List Int) (g : Int → D) : List (D × D) := Z.map fun k => (PyData.int k, g k)
theorem gK_tabI {g : Int → D} {k : Int} : ∀ (Z : List Int), gK (tabI Z g) (.inl k) = if k ∈ Z then some (g k) else none
  | [] => rfl
  | a :: Z => by
    show (if keyD (.int a) = some (.inl k) then some (g a) else gK (tabI Z g) (.inl k)) = _
    by_cases h : a = k
    · subst h; simp [keyD]
    · have h2 : ¬ keyD (.int a) = some (.inl k) := fun z => h (by simpa [keyD] using z)
      have h3 : ¬ k = a := fun z => h z.symm
      rw [if_neg h2, gK_tabI Z]
      simp [h3]
theorem pK_tabI {g : Int → D} {k : Int} {Z : List Int} (h : k ∉ Z) : pK (tabI Z g) (.inl k) (g k) = tabI (Z ++ [k]) g := by
  have e := gK_tabI (g := g) (k := k) Z
  rw [if_neg h] at e
  unfold pK pG
  rw [if_neg (by rw [show gG keyD (tabI Z g) (.inl k) = none from e]; decide)]
  simp [tabI, kD]
theorem compD_tab {g : Int → D} {st : Rho} {ρ1 : Int → Rho} : ∀ (Z Y : List Int), (Y ++ Z).Nodup → Y.length + Z.length ≤ 16000000 → (∀ a ∈ Z, bd (.int a) st = some (ρ1 a)) → (∀ a ∈ Z, key (ρ1 a) = .ok (.int a) (ρ1 a)) → (∀ a ∈ Z, elt (ρ1 a) = .ok (g a) (ρ1 a)) → (∀ a ∈ Z, wipeR (ρ1 a) vs = st) →
    compDK bd tnYes key elt vs (Z.map PyData.int) (tabI Y g) st = .ok (tabI (Y ++ Z) g) st
  | [], Y, _, _, _, _, _, _ => by simp [compDK]
  | a :: Z, Y, hn, hz, hb, hk, he, hw => by
    rw [List.length_cons] at hz
    have m := List.mem_cons_self (a := a) (l := Z)
    have ey : tnYes (ρ1 a) = .ok true (ρ1 a) := rfl
    have hn2 : (Y ++ [a] ++ Z).Nodup := by simpa using hn
    have hna : a ∉ Y := fun h => by
      have := (List.nodup_append.mp hn).2.2 a h a m
      exact this rfl
    have kd : keyD (.int a) = some (.inl a) := rfl
    have hl : (tabI Y g).length < PySem.sizeLine := by unfold tabI PySem.sizeLine; rw [List.length_map]; omega
    rw [List.map_cons]
    unfold compDK
    simp only [hb a m, ey, hk a m, he a m, kd]
    rw [if_pos hl, pK_tabI hna, hw a m, compD_tab Z (Y ++ [a]) hn2 (by rw [List.length_append]; simp; omega) (fun x hx => hb x (List.mem_cons_of_mem _ hx)) (fun x hx => hk x (List.mem_cons_of_mem _ hx)) (fun x hx => he x (List.mem_cons_of_mem _ hx)) (fun x hx => hw x (List.mem_cons_of_mem _ hx))]
    simp
end
end Ft
/-! Ranges: the rows of integers, filtered. -/
namespace Ft
open PySem L2
theorem rangeL_cons {a b : Int} (h : a < b) : rangeL a b = .int a :: rangeL (a + 1) b := by
  apply List.ext_getElem?
  intro i
  cases i with
  | zero =>
    unfold rangeL
    rw [List.getElem?_map, List.getElem?_range (by omega)]
    simp
  | succ i =>
    rw [List.getElem?_cons_succ]
    unfold rangeL
    rw [List.getElem?_map, List.getElem?_map]
    by_cases hi : i < (b - (a + 1)).toNat
    · rw [List.getElem?_range (by omega), List.getElem?_range hi]
      simp only [Option.map_some]
      congr 2
      omega
    · rw [List.getElem?_eq_none (by rw [List.length_range]; omega), List.getElem?_eq_none (by rw [List.length_range]; omega)]
      rfl
theorem rangeL_nil {a b : Int} (h : b ≤ a) : rangeL a b = [] := by
  unfold rangeL
  rw [show (b - a).toNat = 0 by omega]
  rfl
theorem rangeL_snoc {a b : Int} (h : a < b) : rangeL a b = rangeL a (b - 1) ++ [.int (b - 1)] := by
  unfold rangeL
  rw [show (b - a).toNat = (b - 1 - a).toNat + 1 by omega, List.range_succ, List.map_append]
  simp only [List.map_cons, List.map_nil]
  congr 3
  omega
theorem mem_rangeL {a b : Int} {d : D} : d ∈ rangeL a b ↔ ∃ k : Int, d = .int k ∧ a ≤ k ∧ k < b := by
  constructor
  · intro h
    obtain ⟨i, hi⟩ := List.getElem?_of_mem h
    obtain ⟨rfl, h2⟩ := rangeL_at hi
    exact ⟨_, rfl, by omega, by omega⟩
  · rintro ⟨k, rfl, h1, h2⟩
    unfold rangeL
    exact List.mem_map.mpr ⟨(k - a).toNat, List.mem_range.mpr (by omega), by congr 1; omega⟩
theorem filter_head {p : D → Bool} {b k : Int} : ∀ (n : Nat) (a : Int), (k - a).toNat = n → a ≤ k → k < b → p (.int k) = true → (∀ j, a ≤ j → j < k → p (.int j) = false) → ∃ l, (rangeL a b).filter p = .int k :: l
  | 0, a, hn, h1, h2, hp, _ => by
    have : a = k := by omega
    subst this
    rw [rangeL_cons h2, List.filter_cons_of_pos hp]
    exact ⟨_, rfl⟩
  | n + 1, a, hn, h1, h2, hp, hm => by
    rw [rangeL_cons (by omega), List.filter_cons_of_neg (by rw [hm a (Int.le_refl _) (by omega)]; exact Bool.false_ne_true)]
    exact filter_head n (a + 1) (by omega) (by omega) h2 hp fun j h3 h4 => hm j (by omega) h4
theorem filter_last {p : D → Bool} {a k : Int} : ∀ (n : Nat) (b : Int), (b - 1 - k).toNat = n → a ≤ k → k < b → p (.int k) = true → (∀ j, k < j → j < b → p (.int j) = false) → ∃ l, (rangeL a b).filter p = l ++ [.int k]
  | 0, b, hn, h1, h2, hp, _ => by
    have : b = k + 1 := by omega
    subst this
    rw [rangeL_snoc (by omega), List.filter_append, show k + 1 - 1 = k by omega, List.filter_cons_of_pos hp]
    exact ⟨_, rfl⟩
  | n + 1, b, hn, h1, h2, hp, hm => by
    rw [rangeL_snoc (by omega), List.filter_append, List.filter_cons_of_neg (by rw [hm (b - 1) (by omega) (by omega)]; exact Bool.false_ne_true), List.filter_nil, List.append_nil]
    exact filter_last n (b - 1) (by omega) h1 (by omega) hp fun j h3 h4 => hm j h3 (by omega)
/-- the first and the last of a filtered row -/
theorem filter_ends {p : D → Bool} {a b k j : Int} (h1 : a ≤ k) (h2 : k < b) (hp : p (.int k) = true) (hm : ∀ i, a ≤ i → i < k → p (.int i) = false) (h3 : a ≤ j) (h4 : j < b) (hq : p (.int j) = true) (hx : ∀ i, j < i → i < b → p (.int i) = false) :
    atI ((rangeL a b).filter p) 0 = some (.int k) ∧ atI ((rangeL a b).filter p) (-1) = some (.int j) := by
  obtain ⟨l, e⟩ := filter_head _ a rfl h1 h2 hp hm
  obtain ⟨l2, e2⟩ := filter_last _ b rfl h3 h4 hq hx
  refine ⟨by rw [e]; exact ev_at0, ?_⟩
  rw [e2, atI_last (by simp)]
  simp
theorem atI_mem {α : Type} {l : List α} {i : Int} (h0 : 0 ≤ i) (h : i < (l.length : Int)) : ∃ x ∈ l, atI l i = some x := by
  have hl : i.toNat < l.length := by omega
  exact ⟨l[i.toNat], List.getElem_mem hl, atI_get h0 (List.getElem?_eq_getElem hl)⟩
theorem while_at {c : Tn} {s : Sn} {P : RS → Prop} (I : Nat → Rho → Prop) {m : Nat} {ρ : Rho} (hm : m < 1000000000000) (h : I m ρ) (hs : ∀ m ρ, I m ρ → ∃ b ρ1, c ρ = .ok b ρ1 ∧ (b = false → P (.next ρ1)) ∧ (b = true → Turn (fun ρ2 => ∃ m', m' < m ∧ I m' ρ2) P (s ρ1))) : P (sWhile c s ρ) :=
  while_rule I hs WF m ρ hm h
end Ft
/-! K57: clocks that drift. -/
namespace Ft
open PySem L2
theorem k57_shown {n d : Int} (h0 : 0 ≤ d) (h1 : d ≤ 50) : f_shown [.val (.int n), .val (.int d)] = .ok (.tuple [.int (-((-n) * (100 - d) / 100)), .int (n * (100 + d) / 100)]) [] := by
  have s1 : Small (100 - d) := ⟨by omega, by omega⟩
  have s2 : Small (100 + d) := ⟨by omega, by omega⟩
  unfold f_shown b_shown
  simp -implicitDefEqProofs (decide := true) only [evs0, evs1, evs2, evsX, Nat.reduceAdd, Nat.reduceSub, ↓reduceIte, Nat.reduceLeDiff, Int.reduceEq, Int.reduceLT, Int.reduceLE, ev_mul2 s1, ev_mul2 s2]
theorem k57_for {r d : Int} (h0 : 0 ≤ d) (h1 : d ≤ 50) : f_hours_for [.val (.int r), .val (.int d)] = .ok (.tuple [.int (-((-100) * r / (100 + d))), .int (100 * r / (100 - d))]) [] := by
  have s1 : (0 : Int) < 100 - d := by omega
  have s2 : (0 : Int) < 100 + d := by omega
  have s3 : 100 - d < 1073741824 := by omega
  have s4 : 100 + d < 1073741824 := by omega
  unfold f_hours_for b_hours_for
  simp -implicitDefEqProofs (decide := true) only [evs0, evs1, evs2, evsX, Nat.reduceAdd, Nat.reduceSub, ↓reduceIte, Nat.reduceLeDiff, Int.reduceEq, Int.reduceLT, Int.reduceLE, ev_fdiv s1 s3, ev_fdiv s2 s4]
def k57_p (r d : Int) : D → Bool
  | .int e => decide (e * (100 - d) ≤ 100 * r) && decide (100 * r ≤ e * (100 + d))
  | _ => false
theorem k57_hours {r d : Int} (h0 : 0 ≤ d) (h1 : d ≤ 50) (hr : 0 ≤ r) (hr2 : r ≤ 10000) : f_law_hours_for [.val (.int r), .val (.int d)] = .ok (.tuple [.int (-((-100) * r / (100 + d))), .int (100 * r / (100 - d))]) [] := by
  have s1 : Small (100 - d) := ⟨by omega, by omega⟩
  have s2 : Small (100 + d) := ⟨by omega, by omega⟩
  have a0 : r / 2 < 4611686018427387904 := by omega
  have a1 : -4611686018427387904 ≤ r / 2 := by omega
  have a2 : 2 * r + 1 < 4611686018427387904 := by omega
  have a3 : -4611686018427387904 ≤ 2 * r + 1 := by omega
  obtain ⟨lo, hlo⟩ : ∃ lo : Int, lo = -((-100) * r / (100 + d)) := ⟨_, rfl⟩
  obtain ⟨hi, hhi⟩ : ∃ hi : Int, hi = 100 * r / (100 - d) := ⟨_, rfl⟩
  rw [← hlo, ← hhi]
  have l1 : 100 * r ≤ lo * (100 + d) := by
    have := Int.ediv_mul_le ((-100) * r) (show 100 + d ≠ 0 by omega)
    rw [hlo, Int.neg_mul]; omega
  have l2 : (lo - 1) * (100 + d) < 100 * r := by
    have := Int.lt_ediv_add_one_mul_self ((-100) * r) (show 0 < 100 + d by omega)
    rw [Int.add_mul, Int.one_mul] at this
    rw [hlo, Int.sub_mul, Int.neg_mul, Int.one_mul]; omega
  have u1 : hi * (100 - d) ≤ 100 * r := by
    rw [hhi]; exact Int.ediv_mul_le (100 * r) (show 100 - d ≠ 0 by omega)
  have u2 : 100 * r < (hi + 1) * (100 - d) := by
    rw [hhi]; exact Int.lt_ediv_add_one_mul_self (100 * r) (show 0 < 100 - d by omega)
  have lo1 : lo ≤ r := by
    rcases Int.lt_or_le r lo with h | h
    · exfalso
      have : r * (100 + d) ≤ (lo - 1) * (100 + d) := Int.mul_le_mul_of_nonneg_right (by omega) (by omega)
      have : r * 100 ≤ r * (100 + d) := Int.mul_le_mul_of_nonneg_left (by omega) hr
      omega
    · exact h
  have lo0 : 0 ≤ lo := by
    rcases Int.lt_or_le lo 0 with h | h
    · exfalso
      have : lo * (100 + d) ≤ lo * 1 := Int.mul_le_mul_of_nonpos_left (by omega) (by omega)
      omega
    · exact h
  have lo2 : r / 2 ≤ lo := by
    rcases Int.lt_or_le lo (r / 2) with h | h
    · exfalso
      have : lo * (100 + d) ≤ lo * 150 := Int.mul_le_mul_of_nonneg_left (by omega) lo0
      omega
    · exact h
  have hi1 : r ≤ hi := by
    rcases Int.lt_or_le hi r with h | h
    · exfalso
      have : (hi + 1) * (100 - d) ≤ r * (100 - d) := Int.mul_le_mul_of_nonneg_right (by omega) (by omega)
      have : r * (100 - d) ≤ r * 100 := Int.mul_le_mul_of_nonneg_left (by omega) hr
      omega
    · exact h
  have hi2 : hi < 2 * r + 1 := by
    have : hi * 50 ≤ hi * (100 - d) := Int.mul_le_mul_of_nonneg_left (by omega) (by omega)
    omega
  have p1 : k57_p r d (.int lo) = true := by
    have : lo * (100 - d) ≤ lo * 100 := Int.mul_le_mul_of_nonneg_left (by omega) lo0
    simp only [k57_p, Bool.and_eq_true, decide_eq_true_eq]
    omega
  have p2 : k57_p r d (.int hi) = true := by
    have : hi * 100 ≤ hi * (100 + d) := Int.mul_le_mul_of_nonneg_left (by omega) (by omega)
    simp only [k57_p, Bool.and_eq_true, decide_eq_true_eq]
    omega
  obtain ⟨f1, f2⟩ := filter_ends (p := k57_p r d) (a := r / 2) (b := 2 * r + 1) (k := lo) (j := hi) lo2 (by omega) p1 (fun i _ hi => by
    have : i * (100 + d) ≤ (lo - 1) * (100 + d) := Int.mul_le_mul_of_nonneg_right (by omega) (by omega)
    simp only [k57_p, Bool.and_eq_false_iff, decide_eq_false_iff_not]
    omega) (by omega) hi2 p2 (fun i hj _ => by
    have : (hi + 1) * (100 - d) ≤ i * (100 - d) := Int.mul_le_mul_of_nonneg_right (by omega) (by omega)
    simp only [k57_p, Bool.and_eq_false_iff, decide_eq_false_iff_not]
    omega)
  have c : compL (bN 3) law_hours_for_t1 law_hours_for_e1 [3] (rangeL (r / 2) (2 * r + 1)) [] [.val (.int r), .val (.int d), .un, .un] = .ok ((rangeL (r / 2) (2 * r + 1)).filter (k57_p r d)) [.val (.int r), .val (.int d), .un, .un] := by
    have q := comp_pure (bd := bN 3) (ifs := law_hours_for_t1) (elt := law_hours_for_e1) (vs := [3]) (p := k57_p r d) (f := id) (rangeL (r / 2) (2 * r + 1)) [] [.val (.int r), .val (.int d), .un, .un] (by rw [rangeL_len]; simp; omega) fun x hx => by
      obtain ⟨k, rfl, _, _⟩ := mem_rangeL.mp hx
      refine ⟨[.val (.int r), .val (.int d), .un, .val (.int k)], [.val (.int r), .val (.int d), .un, .val (.int k)], by simp -implicitDefEqProofs only [evs0, evs1, evs2, evsX, Nat.reduceAdd, Nat.reduceSub, ↓reduceIte, Nat.reduceLeDiff, Int.reduceEq, Int.reduceLT, Int.reduceLE], ?_, fun _ => by simp -implicitDefEqProofs only [evs0, evs1, evs2, evsX, Nat.reduceAdd, Nat.reduceSub, ↓reduceIte, Nat.reduceLeDiff, Int.reduceEq, Int.reduceLT, Int.reduceLE], fun _ => ⟨[.val (.int r), .val (.int d), .un, .val (.int k)], ?_, by simp -implicitDefEqProofs only [evs0, evs1, evs2, evsX, Nat.reduceAdd, Nat.reduceSub, ↓reduceIte, Nat.reduceLeDiff, Int.reduceEq, Int.reduceLT, Int.reduceLE]⟩⟩
      · unfold law_hours_for_t1 k57_p
        by_cases c1 : k * (100 - d) ≤ 100 * r
        · simp -implicitDefEqProofs (decide := true) only [evs0, evs1, evs2, evsX, Nat.reduceAdd, Nat.reduceSub, ↓reduceIte, Nat.reduceLeDiff, Int.reduceEq, Int.reduceLT, Int.reduceLE, ev_mul2 s1, ev_mul2 s2, c1]
        · simp -implicitDefEqProofs (decide := true) only [evs0, evs1, evs2, evsX, Nat.reduceAdd, Nat.reduceSub, ↓reduceIte, Nat.reduceLeDiff, Int.reduceEq, Int.reduceLT, Int.reduceLE, ev_mul2 s1, c1]
      · unfold law_hours_for_e1
        simp -implicitDefEqProofs only [evs0, evs1, evs2, evsX, Nat.reduceAdd, Nat.reduceSub, ↓reduceIte, Nat.reduceLeDiff, Int.reduceEq, Int.reduceLT, Int.reduceLE, id]
    rw [q]
    simp
  unfold f_law_hours_for b_law_hours_for law_hours_for_c1
  simp -implicitDefEqProofs (decide := true) only [evs0, evs1, evs2, evsX, Nat.reduceAdd, Nat.reduceSub, ↓reduceIte, Nat.reduceLeDiff, Int.reduceEq, Int.reduceLT, Int.reduceLE, ev_rng2 a2 a3 a0 a1, c, f1, f2]
/-- the law's own readings -/
def k57_q (n d : Int) : D → Bool
  | .int r => decide (n * (100 - d) ≤ 100 * r) && decide (100 * r ≤ n * (100 + d))
  | _ => false
theorem k57_good {x0 x2 : D} {l : List D} {y : LV} {n d : Int} (h0 : 0 ≤ d) (h1 : d ≤ 50) (hn : 0 ≤ n) (hn2 : n ≤ 10000) (hy : nioK (some y) = true) : ∃ g : List D, law_k57_c1 [.val x0, .own (.lst l) true, .val x2, .val (.int d), .val (.int n), y, .un] = .ok (.lst g) [.val x0, .own (.lst l) true, .val x2, .val (.int d), .val (.int n), y, .un] ∧
    atI g 0 = some (.int (-((-n) * (100 - d) / 100))) ∧ atI g (-1) = some (.int (n * (100 + d) / 100)) := by
  have s1 : Small (100 - d) := ⟨by omega, by omega⟩
  have s2 : Small (100 + d) := ⟨by omega, by omega⟩
  have a0 : n / 2 < 4611686018427387904 := by omega
  have a1 : -4611686018427387904 ≤ n / 2 := by omega
  have a2 : 2 * n + 1 < 4611686018427387904 := by omega
  have a3 : -4611686018427387904 ≤ 2 * n + 1 := by omega
  have b1 : n * (100 - d) ≤ n * 100 := Int.mul_le_mul_of_nonneg_left (by omega) hn
  have b2 : n * 50 ≤ n * (100 - d) := Int.mul_le_mul_of_nonneg_left (by omega) hn
  have b3 : n * 100 ≤ n * (100 + d) := Int.mul_le_mul_of_nonneg_left (by omega) hn
  have b4 : n * (100 + d) ≤ n * 150 := Int.mul_le_mul_of_nonneg_left (by omega) hn
  rw [Int.neg_mul]
  have hq : k57_q n d = fun x => match x with | .int r => decide (n * (100 - d) ≤ 100 * r) && decide (100 * r ≤ n * (100 + d)) | _ => false := by
    funext x; cases x <;> rfl
  have c : compL (bN 6) law_k57_t1 law_k57_e1 [6] (rangeL (n / 2) (2 * n + 1)) [] [.val x0, .own (.lst l) true, .val x2, .val (.int d), .val (.int n), y, .un] = .ok ((rangeL (n / 2) (2 * n + 1)).filter (k57_q n d)) [.val x0, .own (.lst l) true, .val x2, .val (.int d), .val (.int n), y, .un] := by
    have q := comp_pure (bd := bN 6) (ifs := law_k57_t1) (elt := law_k57_e1) (vs := [6]) (p := k57_q n d) (f := id) (rangeL (n / 2) (2 * n + 1)) [] [.val x0, .own (.lst l) true, .val x2, .val (.int d), .val (.int n), y, .un] (by rw [rangeL_len]; simp; omega) fun x hx => by
      obtain ⟨k, rfl, _, _⟩ := mem_rangeL.mp hx
      refine ⟨[.val x0, .own (.lst l) true, .val x2, .val (.int d), .val (.int n), y, .val (.int k)], [.val x0, .own (.lst l) true, .val x2, .val (.int d), .val (.int n), y, .val (.int k)], by simp -implicitDefEqProofs only [evs0, evs1, evs2, evsX, Nat.reduceAdd, Nat.reduceSub, ↓reduceIte, Nat.reduceLeDiff, Int.reduceEq, Int.reduceLT, Int.reduceLE], ?_, fun _ => by simp -implicitDefEqProofs only [evs0, evs1, evs2, evsX, Nat.reduceAdd, Nat.reduceSub, ↓reduceIte, Nat.reduceLeDiff, Int.reduceEq, Int.reduceLT, Int.reduceLE], fun _ => ⟨[.val x0, .own (.lst l) true, .val x2, .val (.int d), .val (.int n), y, .val (.int k)], ?_, by simp -implicitDefEqProofs only [evs0, evs1, evs2, evsX, Nat.reduceAdd, Nat.reduceSub, ↓reduceIte, Nat.reduceLeDiff, Int.reduceEq, Int.reduceLT, Int.reduceLE]⟩⟩
      · unfold law_k57_t1 k57_q
        by_cases c1 : n * (100 - d) ≤ 100 * k
        · simp -implicitDefEqProofs (decide := true) only [evs0, evs1, evs2, evsX, Nat.reduceAdd, Nat.reduceSub, ↓reduceIte, Nat.reduceLeDiff, Int.reduceEq, Int.reduceLT, Int.reduceLE, ev_mul2 s1, ev_mul2 s2, c1]
        · simp -implicitDefEqProofs (decide := true) only [evs0, evs1, evs2, evsX, Nat.reduceAdd, Nat.reduceSub, ↓reduceIte, Nat.reduceLeDiff, Int.reduceEq, Int.reduceLT, Int.reduceLE, ev_mul2 s1, c1]
      · unfold law_k57_e1
        simp -implicitDefEqProofs only [evs0, evs1, evs2, evsX, Nat.reduceAdd, Nat.reduceSub, ↓reduceIte, Nat.reduceLeDiff, Int.reduceEq, Int.reduceLT, Int.reduceLE, id]
    rw [q]
    simp
  refine ⟨(rangeL (n / 2) (2 * n + 1)).filter (k57_q n d), ?_, ?_⟩
  · unfold law_k57_c1
    simp -implicitDefEqProofs (decide := true) only [evs0, evs1, evs2, evsX, Nat.reduceAdd, Nat.reduceSub, ↓reduceIte, Nat.reduceLeDiff, Int.reduceEq, Int.reduceLT, Int.reduceLE, ev_rng2 a2 a3 a0 a1, c]
  · generalize hA : n * (100 - d) = A at *
    generalize hB : n * (100 + d) = B at *
    apply filter_ends
    · omega
    · omega
    · simp only [hq, Bool.and_eq_true, decide_eq_true_eq]; omega
    · intro i _ _
      simp only [hq, Bool.and_eq_false_iff, decide_eq_false_iff_not]; omega
    · omega
    · omega
    · simp only [hq, Bool.and_eq_true, decide_eq_true_eq]; omega
    · intro i _ _
      simp only [hq, Bool.and_eq_false_iff, decide_eq_false_iff_not]; omega
theorem k57_turn {x0 x2 : D} {l : List D} {a b c : LV} (hp : Pool l) (ha : nioK (some a) = true) (hb : nioK (some b) = true) (hc : nioK (some c) = true) : ∃ l' d e f, law_k57_b1 [.val x0, .own (.lst l) true, .val x2, a, b, c, .un] = .next [.val x0, .own (.lst l') true, .val x2, .val d, .val e, .val f, .un] ∧ Pool l' := by
  obtain ⟨r1, l1, e1, p1, q1, hp⟩ := draw_ok hp (m := 51) (by omega) (by omega)
  obtain ⟨r2, l2, e2, p2, q2, hp⟩ := draw_ok hp (m := 4) (by omega) (by omega)
  obtain ⟨r3, l3, e3, p3, q3, hp⟩ := draw_ok hp (m := 60) (by omega) (by omega)
  obtain ⟨r4, l4, e4, p4, q4, hp⟩ := draw_ok hp (m := 400) (by omega) (by omega)
  obtain ⟨r5, l5, e5, p5, q5, hp⟩ := draw_ok hp (m := 4) (by omega) (by omega)
  obtain ⟨d, hd, d0, d1⟩ : ∃ d : Int, atI [PyData.int 0, .int 50, .int 10, .int r1] r2 = some (.int d) ∧ 0 ≤ d ∧ d ≤ 50 := by
    obtain ⟨x, hx, e⟩ := atI_mem (l := [PyData.int 0, .int 50, .int 10, .int r1]) p2 q2
    simp only [List.mem_cons, List.not_mem_nil, or_false] at hx
    rcases hx with rfl | rfl | rfl | rfl
    all_goals exact ⟨_, e, by omega, by omega⟩
  obtain ⟨n, hn, g0, g1⟩ : ∃ n : Int, atI [PyData.int 0, .int 1, .int r3, .int r4] r5 = some (.int n) ∧ 0 ≤ n ∧ n ≤ 400 := by
    obtain ⟨x, hx, e⟩ := atI_mem (l := [PyData.int 0, .int 1, .int r3, .int r4]) p5 q5
    simp only [List.mem_cons, List.not_mem_nil, or_false] at hx
    rcases hx with rfl | rfl | rfl | rfl
    all_goals exact ⟨_, e, by omega, by omega⟩
  obtain ⟨g, hg, i1, i2⟩ := k57_good (x0 := x0) (x2 := x2) (l := l5) (y := c) d0 d1 g0 (by omega) hc
  have t1 := k57_shown (n := n) d0 d1
  have t2 := k57_for (r := n) d0 d1
  have t3 := k57_hours d0 d1 g0 (by omega)
  have v1 := same_refl 12 (.tuple [.int (-((-n) * (100 - d) / 100)), .int (n * (100 + d) / 100)]) rfl
  have v2 := same_refl 12 (.tuple [.int (-((-100) * n / (100 + d))), .int (100 * n / (100 - d))]) rfl
  refine ⟨l5, .int d, .int n, .list g, ?_, hp⟩
  unfold law_k57_b1
  simp -implicitDefEqProofs only [evs0, evs1, evs2, evsX, Nat.reduceAdd, Nat.reduceSub, ↓reduceIte, Nat.reduceLeDiff, Int.reduceEq, Int.reduceLT, Int.reduceLE, e1, e2, e3, e4, e5, hd, hn, ha, hb, hc, hg, i1, i2, t1, t2, t3, v1, v2]
theorem plain_law_k57 : LawP f_law_k57 := by
  intro ns _ _
  obtain ⟨l, e, hp⟩ := pool_ok ns
  have loop : ∃ ρ, forV (bN 2) law_k57_b1 (rangeL 0 8) [.val (.list (ns.map PyData.int)), .own (.lst l) true, .un, .un, .un, .un, .un] = .next (.val (.list (ns.map PyData.int)) :: ρ) := by
    refine for_rule (P := fun r => ∃ ρ, r = .next (.val (.list (ns.map PyData.int)) :: ρ)) (rangeL 0 8) (fun _ ρ => ∃ l t a b c, ρ = [.val (.list (ns.map PyData.int)), .own (.lst l) true, t, a, b, c, .un] ∧ Pool l ∧ nioK (some t) = true ∧ nioK (some a) = true ∧ nioK (some b) = true ∧ nioK (some c) = true) _ ⟨l, _, _, _, _, rfl, hp, rfl, rfl, rfl, rfl⟩ ?_ ?_
    · rintro i d ρ _ ⟨l, t, a, b, c, rfl, hp, ht, ha, hb, hc⟩
      obtain ⟨l', x, y, z, e, hp'⟩ := k57_turn (x0 := .list (ns.map PyData.int)) (x2 := d) hp ha hb hc
      refine ⟨[.val (.list (ns.map PyData.int)), .own (.lst l) true, .val d, a, b, c, .un], by simp -implicitDefEqProofs only [evs0, evs1, evs2, evsX, Nat.reduceAdd, Nat.reduceSub, ↓reduceIte, Nat.reduceLeDiff, Int.reduceEq, Int.reduceLT, Int.reduceLE, ht], ?_⟩
      rw [e]
      exact ⟨l', _, _, _, _, rfl, hp', rfl, rfl, rfl, rfl⟩
    · rintro ρ ⟨l, t, a, b, c, rfl, _⟩
      exact ⟨_, rfl⟩
  obtain ⟨ρ, loop⟩ := loop
  unfold f_law_k57 b_law_k57
  simp -implicitDefEqProofs (decide := true) only [evs0, evs1, evs2, evsX, Nat.reduceAdd, Nat.reduceSub, ↓reduceIte, Nat.reduceLeDiff, Int.reduceEq, Int.reduceLT, Int.reduceLE, e, loop]
end Ft
/-! Spn: intervals of integers, and the runs of the integers that are in enough of them. -/
namespace Ft
open PySem L2
def enI (p : Int × Int) : D := .tuple [.int p.1, .int p.2]
/-- in how many -/
def cntI (iv : List (Int × Int)) (x : Int) : Nat := (iv.filter fun p => decide (p.1 ≤ x) && decide (x ≤ p.2)).length
/-! ### runs, the last one ahead -/
def addX : List (Int × Int) → Int → List (Int × Int)
  | [], x => [(x, x)]
  | (a, b) :: r, x => if b = x - 1 then (a, x) :: r else (x, x) :: (a, b) :: r
def addS : List (Int × Int) → Int × Int → List (Int × Int)
  | [], p => [p]
  | (a, b) :: r, p => if p.1 ≤ b + 1 then (a, if b > p.2 then b else p.2) :: r else p :: (a, b) :: r
theorem addX_cons {a b x : Int} {r : List (Int × Int)} : addX ((a, b) :: r) x = if b = x - 1 then (a, x) :: r else (x, x) :: (a, b) :: r := rfl
theorem addS_cons {a b c d : Int} {r : List (Int × Int)} : addS ((a, b) :: r) (c, d) = if c ≤ b + 1 then (a, if b > d then b else d) :: r else (c, d) :: (a, b) :: r := rfl
def runF (P : Int → Bool) : List (Int × Int) → Int → Nat → List (Int × Int)
  | s, _, 0 => s
  | s, a, n + 1 => runF P (if P a = true then addX s a else s) (a + 1) n
theorem runF_add {P : Int → Bool} : ∀ (m n : Nat) (s : List (Int × Int)) (a : Int), runF P s a (m + n) = runF P (runF P s a m) (a + m) n
  | 0, n, s, a => by simp [runF]
  | m + 1, n, s, a => by
    have e : m + 1 + n = (m + n) + 1 := by omega
    rw [e]
    show runF P _ (a + 1) (m + n) = _
    rw [runF_add m n]
    have e2 : a + 1 + (m : Int) = a + ((m + 1 : Nat) : Int) := by omega
    rw [e2]; rfl
/-- the last run ends below -/
def Topped (s : List (Int × Int)) (c : Int) : Prop := ∀ p, s.head? = some p → p.2 < c
theorem runF_no {P : Int → Bool} : ∀ (n : Nat) (s : List (Int × Int)) (a : Int), (∀ x, a ≤ x → x < a + n → P x = false) → runF P s a n = s
  | 0, _, _, _ => rfl
  | n + 1, s, a, h => by
    unfold runF
    rw [h a (by omega) (by omega)]
    simp only [Bool.false_eq_true, if_false]
    exact runF_no n s (a + 1) fun x h1 h2 => h x (by omega) (by omega)
theorem runF_ext {P : Int → Bool} : ∀ (n : Nat) (r : List (Int × Int)) (a b : Int), (∀ x, b + 1 ≤ x → x < b + 1 + n → P x = true) → runF P ((a, b) :: r) (b + 1) n = (a, b + n) :: r
  | 0, r, a, b, _ => by simp [runF]
  | n + 1, r, a, b, h => by
    unfold runF
    rw [h (b + 1) (by omega) (by omega), if_pos rfl]
    have e : addX ((a, b) :: r) (b + 1) = (a, b + 1) :: r := by rw [addX_cons, if_pos (by omega)]
    rw [e, runF_ext n r a (b + 1) fun x h1 h2 => h x (by omega) (by omega)]
    congr 2; omega
/-- over a piece on which the property does not change -/
theorem runF_seg {P : Int → Bool} {s : List (Int × Int)} {c d : Int} (hcd : c < d) (ht : Topped s c) (hP : ∀ x, c ≤ x → x < d → P x = P c) :
    runF P s c (d - c).toNat = if P c = true then addS s (c, d - 1) else s := by
  cases hc : P c with
  | false =>
    rw [if_neg (by simp)]
    exact runF_no _ _ _ fun x h1 h2 => by rw [hP x h1 (by omega), hc]
  | true =>
    rw [if_pos rfl]
    obtain ⟨n, hn⟩ : ∃ n, (d - c).toNat = n + 1 := ⟨(d - c).toNat - 1, by omega⟩
    rw [hn]
    unfold runF
    rw [hc, if_pos rfl]
    have hx : ∀ x, c + 1 ≤ x → x < c + 1 + n → P x = true := fun x h1 h2 => by rw [hP x (by omega) (by omega), hc]
    have ed : c + (n : Int) = d - 1 := by omega
    cases s with
    | nil =>
      show runF P [(c, c)] (c + 1) n = [(c, d - 1)]
      rw [runF_ext n [] c c hx, ed]
    | cons p r =>
      obtain ⟨a, b⟩ := p
      have hb : b < c := ht (a, b) rfl
      rw [addX_cons, addS_cons]
      by_cases h : b = c - 1
      · subst h
        rw [if_pos rfl, if_pos (by omega), runF_ext n r a c hx, ed, if_neg (by omega)]
      · rw [if_neg h, if_neg (by omega), runF_ext n _ c c hx, ed]
theorem topped_addS {s : List (Int × Int)} {c d : Int} (hcd : c < d) (ht : Topped s c) : Topped (addS s (c, d - 1)) d := by
  intro p hp
  cases s with
  | nil => cases hp; show d - 1 < d; omega
  | cons q r =>
    obtain ⟨a, b⟩ := q
    have hb : b < c := ht (a, b) rfl
    rw [addS_cons] at hp
    by_cases h : c ≤ b + 1
    · rw [if_pos h] at hp
      cases hp
      show (if b > d - 1 then b else d - 1) < d
      split <;> omega
    · rw [if_neg h] at hp
      cases hp; show d - 1 < d; omega
theorem Topped.up {s : List (Int × Int)} {c d : Int} (h : Topped s c) (hcd : c ≤ d) : Topped s d := fun p hp => by have := h p hp; omega
/-! ### by the cuts -/
def pairsC (P : Int → Bool) : List Int → List (Int × Int)
  | c :: d :: r => (if P c = true then [(c, d - 1)] else []) ++ pairsC P (d :: r)
  | _ => []
theorem cuts_run {P : Int → Bool} : ∀ (r : List Int) (c : Int) (s : List (Int × Int)), (c :: r).Pairwise (· < ·) → Topped s c → (∀ i x, (c :: r).getD i 0 ≤ x → i + 1 < (c :: r).length → x < (c :: r).getD (i + 1) 0 → P x = P ((c :: r).getD i 0)) →
    (pairsC P (c :: r)).foldl addS s = runF P s c ((c :: r).getLast (List.cons_ne_nil _ _) - c).toNat
  | [], c, s, _, _, _ => by simp [pairsC, runF]
  | d :: r, c, s, hp, ht, hP => by
    obtain ⟨h1, h2⟩ := List.pairwise_cons.mp hp
    have hcd : c < d := h1 d List.mem_cons_self
    have hseg := runF_seg (P := P) hcd ht fun x x1 x2 => hP 0 x x1 (by simp) x2
    have hlast : d ≤ (d :: r).getLast (List.cons_ne_nil _ _) := by
      rcases List.mem_cons.mp (List.getLast_mem (List.cons_ne_nil d r)) with e | e
      · omega
      · have := (List.pairwise_cons.mp h2).1 _ e; omega
    rw [List.getLast_cons (List.cons_ne_nil d r)]
    have e : ((d :: r).getLast (List.cons_ne_nil _ _) - c).toNat = (d - c).toNat + ((d :: r).getLast (List.cons_ne_nil _ _) - d).toNat := by omega
    have e2 : c + ((d - c).toNat : Int) = d := by omega
    rw [e, runF_add, hseg, e2]
    have ih := fun s' hs' => cuts_run r d s' h2 hs' fun i x x1 x2 x3 => hP (i + 1) x x1 (by simpa using x2) x3
    unfold pairsC
    rw [List.foldl_append]
    cases P c with
    | false => simp only [Bool.false_eq_true, if_false, List.foldl_nil]; exact ih s (ht.up (by omega))
    | true => simp only [if_true, List.foldl_cons, List.foldl_nil]; exact ih _ (topped_addS hcd ht)
theorem pairsC_eq {P : Int → Bool} : ∀ cs : List Int, ((List.range (cs.length - 1)).filter fun k => P (cs.getD k 0)).map (fun k => (cs.getD k 0, cs.getD (k + 1) 0 - 1)) = pairsC P cs
  | [] => rfl
  | [c] => rfl
  | c :: d :: r => by
    have ih := pairsC_eq (P := P) (d :: r)
    have e : (c :: d :: r).length - 1 = (d :: r).length - 1 + 1 := by simp
    rw [e, List.range_succ_eq_map, List.filter_cons]
    have e2 : (List.map Nat.succ (List.range ((d :: r).length - 1))).filter (fun k => P ((c :: d :: r).getD k 0)) = ((List.range ((d :: r).length - 1)).filter fun k => P ((d :: r).getD k 0)).map Nat.succ := by
      rw [List.filter_map]; rfl
    unfold pairsC
    rw [← ih]
    have e3 : ∀ l : List Nat, (l.map Nat.succ).map (fun k => ((c :: d :: r).getD k 0, (c :: d :: r).getD (k + 1) 0 - 1)) = l.map fun k => ((d :: r).getD k 0, (d :: r).getD (k + 1) 0 - 1) := fun l => by
      rw [List.map_map]; rfl
    cases h : P c with
    | false =>
      rw [if_neg (by show ¬ P c = true; rw [h]; simp), e2, e3]
      simp
    | true =>
      rw [if_pos (by show P c = true; exact h), List.map_cons, e2, e3]
      simp
/-! ### the property -/
def cutsI (iv : List (Int × Int)) : List Int := setS (iv.map (·.1) ++ iv.map (fun p => p.2 + 1))
theorem mem_cuts {iv : List (Int × Int)} {k : Int} : k ∈ cutsI iv ↔ ∃ p ∈ iv, k = p.1 ∨ k = p.2 + 1 := by
  unfold cutsI
  rw [mem_setS, List.mem_append, List.mem_map, List.mem_map]
  constructor
  · rintro (⟨p, hp, rfl⟩ | ⟨p, hp, rfl⟩)
    · exact ⟨p, hp, .inl rfl⟩
    · exact ⟨p, hp, .inr rfl⟩
  · rintro ⟨p, hp, rfl | rfl⟩
    · exact .inl ⟨p, hp, rfl⟩
    · exact .inr ⟨p, hp, rfl⟩
theorem getD_lt : ∀ {l : List Int} {i j : Nat}, l.Pairwise (· < ·) → i < j → j < l.length → l.getD i 0 < l.getD j 0 := fun {l i j} hp hij hj => by
  rw [List.getD_eq_getElem?_getD, List.getD_eq_getElem?_getD, List.getElem?_eq_getElem (by omega), List.getElem?_eq_getElem hj]
  exact List.pairwise_iff_getElem.mp hp i j (by omega) hj hij
/-- between two cuts nothing changes -/
theorem cnt_const {iv : List (Int × Int)} {i : Nat} {x : Int} (h1 : (cutsI iv).getD i 0 ≤ x) (hi : i + 1 < (cutsI iv).length) (h2 : x < (cutsI iv).getD (i + 1) 0) : cntI iv x = cntI iv ((cutsI iv).getD i 0) := by
  have hp : (cutsI iv).Pairwise (· < ·) := pw_setS _
  have gap : ∀ k ∈ cutsI iv, (k ≤ x ↔ k ≤ (cutsI iv).getD i 0) := fun k hk => by
    obtain ⟨j, hj, rfl⟩ := List.getElem_of_mem hk
    have ej : (cutsI iv)[j] = (cutsI iv).getD j 0 := by rw [List.getD_eq_getElem?_getD, List.getElem?_eq_getElem hj]; rfl
    rw [ej]
    rcases Nat.lt_or_ge i j with c | c
    · have : (cutsI iv).getD (i + 1) 0 ≤ (cutsI iv).getD j 0 := by
        rcases Nat.lt_or_ge (i + 1) j with c2 | c2
        · exact Int.le_of_lt (getD_lt hp c2 hj)
        · have : j = i + 1 := by omega
          rw [this]; exact Int.le_refl _
      have := getD_lt hp c hj
      constructor <;> intro _ <;> omega
    · have : (cutsI iv).getD j 0 ≤ (cutsI iv).getD i 0 := by
        rcases Nat.lt_or_ge j i with c2 | c2
        · exact Int.le_of_lt (getD_lt hp c2 (by omega))
        · have : j = i := by omega
          rw [this]; exact Int.le_refl _
      constructor <;> intro _ <;> omega
  unfold cntI
  congr 1
  refine List.filter_congr fun p hpm => ?_
  have g1 := gap p.1 (mem_cuts.mpr ⟨p, hpm, .inl rfl⟩)
  have g2 := gap (p.2 + 1) (mem_cuts.mpr ⟨p, hpm, .inr rfl⟩)
  rw [Bool.eq_iff_iff, Bool.and_eq_true, Bool.and_eq_true, decide_eq_true_eq, decide_eq_true_eq, decide_eq_true_eq, decide_eq_true_eq]
  constructor
  · rintro ⟨a, b⟩
    refine ⟨g1.mp a, ?_⟩
    rcases Int.lt_or_le p.2 ((cutsI iv).getD i 0) with c | c
    · have := g2.mpr (by omega); omega
    · exact c
  · rintro ⟨a, b⟩
    refine ⟨g1.mpr a, ?_⟩
    rcases Int.lt_or_le p.2 x with c | c
    · have := g2.mp (by omega); omega
    · exact c
/-- all is well with these intervals -/
structure IvOk (iv : List (Int × Int)) : Prop where
  ne : iv ≠ []
  few : iv.length ≤ 8
  up : ∀ p ∈ iv, p.1 ≤ p.2
  bd : ∀ p ∈ iv, -100000 ≤ p.1 ∧ p.2 ≤ 100000
/-- the runs, the last one ahead -/
def runsI (iv : List (Int × Int)) (need : Int) : List (Int × Int) := runF (fun x => decide ((cntI iv x : Int) ≥ need)) [] (minI (iv.map (·.1))) (maxI (iv.map (·.2)) + 1 - minI (iv.map (·.1))).toNat
theorem runs_cuts {iv : List (Int × Int)} (h : IvOk iv) (need : Int) : (pairsC (fun x => decide ((cntI iv x : Int) ≥ need)) (cutsI iv)).foldl addS [] = runsI iv need := by
  have hp : (cutsI iv).Pairwise (· < ·) := pw_setS _
  obtain ⟨p0, hp0⟩ := List.exists_mem_of_ne_nil iv h.ne
  have hne : cutsI iv ≠ [] := fun e => by
    have := mem_cuts.mpr ⟨p0, hp0, .inl rfl⟩
    rw [e] at this; cases this
  obtain ⟨m1, m2⟩ := minI_is (l := iv.map (·.1)) (by simpa using h.ne)
  obtain ⟨n1, n2⟩ := maxI_is (l := iv.map (·.2)) (by simpa using h.ne)
  obtain ⟨pa, ha, ea⟩ := List.mem_map.mp m1
  obtain ⟨pb, hb, eb⟩ := List.mem_map.mp n1
  cases hc : cutsI iv with
  | nil => exact absurd hc hne
  | cons c r =>
    rw [hc] at hp
    obtain ⟨q1, _⟩ := List.pairwise_cons.mp hp
    have hcm : ∀ k, k ∈ c :: r ↔ ∃ p ∈ iv, k = p.1 ∨ k = p.2 + 1 := fun k => by rw [← hc]; exact mem_cuts
    have hfst : ∀ k ∈ c :: r, c ≤ k := fun k hk => by
      rcases List.mem_cons.mp hk with e | e
      · omega
      · have := q1 k e; omega
    have e1 : c = minI (iv.map (·.1)) := by
      have a1 := hfst _ ((hcm _).mpr ⟨pa, ha, .inl rfl⟩)
      obtain ⟨p, hpm, e⟩ := (hcm c).mp List.mem_cons_self
      have a2 := m2 p.1 (List.mem_map.mpr ⟨p, hpm, rfl⟩)
      have a3 := h.up p hpm
      rcases e with e | e <;> omega
    have hlast : ∀ k ∈ c :: r, k ≤ (c :: r).getLast (List.cons_ne_nil _ _) := fun k hk => by
      have hsplit := List.dropLast_concat_getLast (List.cons_ne_nil c r)
      rw [← hsplit] at hk hp
      rcases List.mem_append.mp hk with e | e
      · exact Int.le_of_lt ((List.pairwise_append.mp hp).2.2 k e _ (List.mem_singleton.mpr rfl))
      · rw [List.mem_singleton.mp e]; exact Int.le_refl _
    have e2 : (c :: r).getLast (List.cons_ne_nil _ _) = maxI (iv.map (·.2)) + 1 := by
      have a1 := hlast _ ((hcm _).mpr ⟨pb, hb, .inr rfl⟩)
      obtain ⟨p, hpm, e⟩ := (hcm _).mp (List.getLast_mem (List.cons_ne_nil c r))
      have a2 := n2 p.2 (List.mem_map.mpr ⟨p, hpm, rfl⟩)
      have a3 := h.up p hpm
      rcases e with e | e <;> omega
    have := cuts_run (P := fun x => decide ((cntI iv x : Int) ≥ need)) r c [] hp (fun p hp => by cases hp) fun i x x1 x2 x3 => by
      rw [← hc] at x1 x2 x3 ⊢
      rw [cnt_const x1 x2 x3]
    rw [this, e2, e1]
    rfl
end Ft
/-! Spn2: inside, joined, possible, and the law's own. -/
namespace Ft
open PySem L2
theorem forV_nx {bd : Bd} {s : Sn} {d : D} {l : List D} {ρ ρ1 ρ2 : Rho} (h1 : bd d ρ = some ρ1) (h2 : s ρ1 = .next ρ2) : forV bd s (d :: l) ρ = forV bd s l ρ2 := by
  rw [forV, h1]
  simp only [h2]
theorem seq_nx {a b : Sn} {ρ ρ' : Rho} (h : a ρ = .next ρ') : sSeq a b ρ = b ρ' := by
  unfold sSeq
  rw [h]
theorem inside_ok {iv : List (Int × Int)} {x : Int} (h : iv.length ≤ 1000) : f_inside [.val (.tuple (iv.map enI)), .val (.int x)] = .ok (.int (cntI iv x)) [] := by
  have c := comp_enc (bd := bT [2, 3]) (ifs := inside_t1) (elt := inside_e1) (vs := [2, 3]) (enc := enI) (q := fun p : Int × Int => decide (p.1 ≤ x) && decide (x ≤ p.2)) (g := fun p : Int × Int => .int p.1)
    (st := [.val (.tuple (iv.map enI)), .val (.int x), .un, .un]) (ρ1 := fun p => [.val (.tuple (iv.map enI)), .val (.int x), .val (.int p.1), .val (.int p.2)]) iv [] (by simp; omega)
    (fun p _ => by unfold enI; simp -implicitDefEqProofs (decide := true) only [evs0, evs1, evs2, evsX, Nat.reduceAdd, Nat.reduceSub, ↓reduceIte, Nat.reduceLeDiff, Int.reduceEq, Int.reduceLT, Int.reduceLE]) (fun p _ => by
      unfold inside_t1
      by_cases h1 : p.1 ≤ x
      · simp -implicitDefEqProofs (decide := true) only [evs0, evs1, evs2, evsX, Nat.reduceAdd, Nat.reduceSub, ↓reduceIte, Nat.reduceLeDiff, Int.reduceEq, Int.reduceLT, Int.reduceLE, h1, Bool.true_and]
      · simp -implicitDefEqProofs (decide := true) only [evs0, evs1, evs2, evsX, Nat.reduceAdd, Nat.reduceSub, ↓reduceIte, Nat.reduceLeDiff, Int.reduceEq, Int.reduceLT, Int.reduceLE, h1, Bool.false_and])
    (fun p _ _ => by unfold inside_e1; simp -implicitDefEqProofs only [evs0, evs1, evs2, evsX, Nat.reduceAdd, Nat.reduceSub, ↓reduceIte, Nat.reduceLeDiff, Int.reduceEq, Int.reduceLT, Int.reduceLE]) (fun p _ => by simp -implicitDefEqProofs only [evs0, evs1, evs2, evsX, Nat.reduceAdd, Nat.reduceSub, ↓reduceIte, Nat.reduceLeDiff, Int.reduceEq, Int.reduceLT, Int.reduceLE])
  unfold f_inside b_inside inside_c1
  simp -implicitDefEqProofs (decide := true) only [evs0, evs1, evs2, evsX, Nat.reduceAdd, Nat.reduceSub, ↓reduceIte, Nat.reduceLeDiff, Int.reduceEq, Int.reduceLT, Int.reduceLE, c, List.nil_append]
  rw [List.length_map]; rfl
/-! ### joined -/
theorem atI_snoc {X : List D} {d : D} : atI (X ++ [d]) (-1) = some d := by
  rw [atI_last (by simp)]; simp
theorem ixN_snoc {n : Nat} (h : n ≤ 1000000) : ixN (n + 1) (-1) = some n := by
  unfold ixN
  first
    | (rw [if_pos (by omega)]; congr 1; omega)
    | (simp; omega)
theorem set_snoc {X : List D} {d e : D} : (X ++ [d]).set X.length e = X ++ [e] := by
  induction X with
  | nil => rfl
  | cons a X ih => simp [ih]
def encS (s : List (Int × Int)) : List D := (s.reverse).map enI
theorem encS_cons {p : Int × Int} {r : List (Int × Int)} : encS (p :: r) = encS r ++ [enI p] := by unfold encS; simp
theorem joined_one {s : List (Int × Int)} {c d : Int} {x0 : LV} (hs : s.length ≤ 100000) : joined_b1 [x0, .own (.lst (encS s)) true, .val (.int c), .val (.int d)] = .next [x0, .own (.lst (encS (addS s (c, d)))) true, .val (.int c), .val (.int d)] := by
  unfold joined_b1
  cases s with
  | nil =>
    have e0 : encS [] = [] := rfl
    have e1 : encS (addS [] (c, d)) = [.tuple [.int c, .int d]] := rfl
    rw [e0, e1]
    simp -implicitDefEqProofs (decide := true) only [evs0, evs1, evs2, evsX, Nat.reduceAdd, Nat.reduceSub, ↓reduceIte, Nat.reduceLeDiff, Int.reduceEq, Int.reduceLT, Int.reduceLE]
    rfl
  | cons p r =>
    obtain ⟨a, b⟩ := p
    rw [encS_cons, addS_cons]
    have hx := atI_snoc (X := encS r) (d := enI (a, b))
    have hl : (encS r ++ [enI (a, b)]).length = r.length + 1 := by unfold encS; simp
    have hl2 : (encS r).length = r.length := by unfold encS; simp
    have hgt : decide (((r.length + 1 : Nat) : Int) > 0) = true := by rw [decide_eq_true_eq]; omega
    have hi := ixN_snoc (n := r.length) (by simp at hs; omega)
    have en : enI (a, b) = .tuple [.int a, .int b] := rfl
    by_cases h : c ≤ b + 1
    · rw [if_pos h, encS_cons]
      have hst : ∀ e : D, (encS r ++ [PyData.tuple [.int a, .int b]]).set r.length e = encS r ++ [e] := fun e => by
        have := set_snoc (X := encS r) (d := PyData.tuple [.int a, .int b]) (e := e)
        rw [hl2] at this; exact this
      rw [en] at hx hl ⊢
      simp -implicitDefEqProofs (decide := true) only [evs0, evs1, evs2, evsX, Nat.reduceAdd, Nat.reduceSub, ↓reduceIte, Nat.reduceLeDiff, Int.reduceEq, Int.reduceLT, Int.reduceLE, hx, hl, hgt, h, hi, hst]
      rfl
    · rw [if_neg h, encS_cons, encS_cons]
      rw [en] at hx hl ⊢
      have hsz : (encS r ++ [PyData.tuple [.int a, .int b]]).length < 16000000 := by rw [hl]; simp at hs; omega
      simp -implicitDefEqProofs (decide := true) only [evs0, evs1, evs2, evsX, Nat.reduceAdd, Nat.reduceSub, ↓reduceIte, Nat.reduceLeDiff, Int.reduceEq, Int.reduceLT, Int.reduceLE, hx, hl, hgt, h, ev_appK2 hsz]
      rfl
theorem addS_len {s : List (Int × Int)} {p : Int × Int} : (addS s p).length ≤ s.length + 1 := by
  cases s with
  | nil => simp [addS]
  | cons q r =>
    obtain ⟨a, b⟩ := q; obtain ⟨c, d⟩ := p
    rw [addS_cons]; split <;> simp
theorem joined_loop {x0 : LV} : ∀ (ps s : List (Int × Int)) (y z : LV), nioK (some y) = true → nioK (some z) = true → s.length + ps.length ≤ 100000 →
    ∃ y' z', forV (bT [2, 3]) joined_b1 (ps.map enI) [x0, .own (.lst (encS s)) true, y, z] = .next [x0, .own (.lst (encS (ps.foldl addS s))) true, y', z']
  | [], s, y, z, _, _, _ => ⟨y, z, rfl⟩
  | (c, d) :: ps, s, y, z, hy, hz, hl => by
    rw [List.length_cons] at hl
    obtain ⟨y', z', e⟩ := joined_loop (x0 := x0) ps (addS s (c, d)) (.val (.int c)) (.val (.int d)) rfl rfl (by have := addS_len (s := s) (p := (c, d)); omega)
    refine ⟨y', z', ?_⟩
    rw [List.map_cons, forV_nx (ρ1 := [x0, .own (.lst (encS s)) true, .val (.int c), .val (.int d)]) (by unfold enI; simp -implicitDefEqProofs (decide := true) only [evs0, evs1, evs2, evsX, Nat.reduceAdd, Nat.reduceSub, ↓reduceIte, Nat.reduceLeDiff, Int.reduceEq, Int.reduceLT, Int.reduceLE, hy, hz]) (joined_one (by omega)), e]
    rfl
theorem joined_ok {ps : List (Int × Int)} (h : ps.length ≤ 1000) : f_joined [.val (.list (ps.map enI))] = .ok (.tuple (encS (ps.foldl addS []))) [] := by
  obtain ⟨y, z, e⟩ := joined_loop (x0 := .val (.list (ps.map enI))) ps [] .un .un rfl rfl (by simp; omega)
  have e0 : encS [] = [] := rfl
  rw [e0] at e
  unfold f_joined b_joined
  simp -implicitDefEqProofs (decide := true) only [evs0, evs1, evs2, evsX, Nat.reduceAdd, Nat.reduceSub, ↓reduceIte, Nat.reduceLeDiff, Int.reduceEq, Int.reduceLT, Int.reduceLE, e]
end Ft
/-! Spn3: possible, by the program and by the law. -/
namespace Ft
open PySem L2
/-! ### the sets -/
theorem compSI_enc {α : Type} {bd : Bd} {elt : Dn} {vs : List Nat} {enc : α → D} {g : α → Int} {st : Rho} {ρ1 : α → Rho} : ∀ (Z : List α) (acc : List Int), acc.length + Z.length ≤ 1000 → (∀ a ∈ Z, bd (enc a) st = some (ρ1 a)) → (∀ a ∈ Z, elt (ρ1 a) = .ok (.int (g a)) (ρ1 a)) → (∀ a ∈ Z, wipeR (ρ1 a) vs = st) →
    compSI bd tnYes elt vs (Z.map enc) acc st = .ok (acc ++ Z.map g) st
  | [], acc, _, _, _, _ => by simp [compSI]
  | a :: Z, acc, hz, hb, he, hw => by
    rw [List.length_cons] at hz
    have m := List.mem_cons_self (a := a) (l := Z)
    rw [List.map_cons]
    unfold compSI
    have ht : tnYes (ρ1 a) = .ok true (ρ1 a) := rfl
    simp only [hb a m, ht, he a m]
    rw [if_pos (by omega), hw a m, compSI_enc Z (acc ++ [g a]) (by rw [List.length_append]; simp; omega) (fun x hx => hb x (List.mem_cons_of_mem _ hx)) (fun x hx => he x (List.mem_cons_of_mem _ hx)) (fun x hx => hw x (List.mem_cons_of_mem _ hx))]
    simp
theorem setC_enc {α : Type} {d : Dn} {bd : Bd} {elt : Dn} {vs : List Nat} {enc : α → D} {g : α → Int} {st ρ0 : Rho} {ρ1 : α → Rho} (Z : List α) (hz : Z.length ≤ 1000) (hs : (iSeq d) ρ0 = .ok (Z.map enc) ρ0) (h0 : wipeR ρ0 vs = st) (hr : restore ρ0 st vs = ρ0) (hb : ∀ a ∈ Z, bd (enc a) st = some (ρ1 a)) (he : ∀ a ∈ Z, elt (ρ1 a) = .ok (.int (g a)) (ρ1 a)) (hw : ∀ a ∈ Z, wipeR (ρ1 a) vs = st) :
    setC (iSeq d) bd tnYes elt vs ρ0 = .ok (Z.map g) ρ0 := by
  unfold setC
  rw [hs]
  simp only [RE.bind]
  rw [h0, compSI_enc Z [] (by simpa using hz) hb he hw]
  simp only [List.nil_append, hr]
/-- the first statement on the intervals -/
theorem cuts_at {iv : List (Int × Int)} {lies : Int} (h : IvOk iv) {e1 e2 : Dn} (h1 : e1 = dV 3) (h2 : e2 = dOp2 addB (aV 4) (aE (dC (.int 1)))) :
    dFz (fSortU (setC (iSeq (dV 0)) (bT [3, 4]) tnYes e1 [3, 4]) (setC (iSeq (dV 0)) (bT [3, 4]) tnYes e2 [3, 4])) [.val (.tuple (iv.map enI)), .val (.int lies), .un, .un, .un, .un, .un, .un] =
      .ok (.list ((cutsI iv).map PyData.int)) [.val (.tuple (iv.map enI)), .val (.int lies), .un, .un, .un, .un, .un, .un] := by
  subst h1 h2
  have a := setC_enc (d := dV 0) (bd := bT [3, 4]) (elt := dV 3) (vs := [3, 4]) (enc := enI) (g := fun p : Int × Int => p.1) (st := [.val (.tuple (iv.map enI)), .val (.int lies), .un, .un, .un, .un, .un, .un]) (ρ0 := [.val (.tuple (iv.map enI)), .val (.int lies), .un, .un, .un, .un, .un, .un])
    (ρ1 := fun p => [.val (.tuple (iv.map enI)), .val (.int lies), .un, .val (.int p.1), .val (.int p.2), .un, .un, .un]) iv (by have := h.few; omega) (by simp -implicitDefEqProofs only [evs0, evs1, evs2, evsX, Nat.reduceAdd, Nat.reduceSub, ↓reduceIte, Nat.reduceLeDiff, Int.reduceEq, Int.reduceLT, Int.reduceLE]) (by simp -implicitDefEqProofs only [evs0, evs1, evs2, evsX, Nat.reduceAdd, Nat.reduceSub, ↓reduceIte, Nat.reduceLeDiff, Int.reduceEq, Int.reduceLT, Int.reduceLE]) (by simp -implicitDefEqProofs only [evs0, evs1, evs2, evsX, Nat.reduceAdd, Nat.reduceSub, ↓reduceIte, Nat.reduceLeDiff, Int.reduceEq, Int.reduceLT, Int.reduceLE])
    (fun p _ => by unfold enI; simp -implicitDefEqProofs (decide := true) only [evs0, evs1, evs2, evsX, Nat.reduceAdd, Nat.reduceSub, ↓reduceIte, Nat.reduceLeDiff, Int.reduceEq, Int.reduceLT, Int.reduceLE]) (fun p _ => by simp -implicitDefEqProofs only [evs0, evs1, evs2, evsX, Nat.reduceAdd, Nat.reduceSub, ↓reduceIte, Nat.reduceLeDiff, Int.reduceEq, Int.reduceLT, Int.reduceLE]) (fun p _ => by simp -implicitDefEqProofs only [evs0, evs1, evs2, evsX, Nat.reduceAdd, Nat.reduceSub, ↓reduceIte, Nat.reduceLeDiff, Int.reduceEq, Int.reduceLT, Int.reduceLE])
  have b := setC_enc (d := dV 0) (bd := bT [3, 4]) (elt := dOp2 addB (aV 4) (aE (dC (.int 1)))) (vs := [3, 4]) (enc := enI) (g := fun p : Int × Int => p.2 + 1) (st := [.val (.tuple (iv.map enI)), .val (.int lies), .un, .un, .un, .un, .un, .un]) (ρ0 := [.val (.tuple (iv.map enI)), .val (.int lies), .un, .un, .un, .un, .un, .un])
    (ρ1 := fun p => [.val (.tuple (iv.map enI)), .val (.int lies), .un, .val (.int p.1), .val (.int p.2), .un, .un, .un]) iv (by have := h.few; omega) (by simp -implicitDefEqProofs only [evs0, evs1, evs2, evsX, Nat.reduceAdd, Nat.reduceSub, ↓reduceIte, Nat.reduceLeDiff, Int.reduceEq, Int.reduceLT, Int.reduceLE]) (by simp -implicitDefEqProofs only [evs0, evs1, evs2, evsX, Nat.reduceAdd, Nat.reduceSub, ↓reduceIte, Nat.reduceLeDiff, Int.reduceEq, Int.reduceLT, Int.reduceLE]) (by simp -implicitDefEqProofs only [evs0, evs1, evs2, evsX, Nat.reduceAdd, Nat.reduceSub, ↓reduceIte, Nat.reduceLeDiff, Int.reduceEq, Int.reduceLT, Int.reduceLE])
    (fun p _ => by unfold enI; simp -implicitDefEqProofs (decide := true) only [evs0, evs1, evs2, evsX, Nat.reduceAdd, Nat.reduceSub, ↓reduceIte, Nat.reduceLeDiff, Int.reduceEq, Int.reduceLT, Int.reduceLE]) (fun p _ => by simp -implicitDefEqProofs only [evs0, evs1, evs2, evsX, Nat.reduceAdd, Nat.reduceSub, ↓reduceIte, Nat.reduceLeDiff, Int.reduceEq, Int.reduceLT, Int.reduceLE]) (fun p _ => by simp -implicitDefEqProofs only [evs0, evs1, evs2, evsX, Nat.reduceAdd, Nat.reduceSub, ↓reduceIte, Nat.reduceLeDiff, Int.reduceEq, Int.reduceLT, Int.reduceLE])
  have hc : (!(iv.map (·.1)).isEmpty && (decide ((iv.map (·.1)).length ≤ 8) && decide ((iv.map (fun p => p.2 + 1)).length ≤ 8))) = true := by
    have := h.few
    rw [List.length_map, List.length_map]
    simp only [Bool.and_eq_true, decide_eq_true_eq]
    refine ⟨?_, this, this⟩
    cases iv with
    | nil => exact absurd rfl h.ne
    | cons _ _ => rfl
  unfold dFz
  rw [ev_fSortU, a]
  simp only [RE.bind]
  rw [b]
  simp only [RE.bind]
  rw [if_pos hc]
  simp -implicitDefEqProofs only [evs0, evs1, evs2, evsX, Nat.reduceAdd, Nat.reduceSub, ↓reduceIte, Nat.reduceLeDiff, Int.reduceEq, Int.reduceLT, Int.reduceLE]
  rfl
theorem cutsI_len {iv : List (Int × Int)} (h : IvOk iv) : (cutsI iv).length ≤ 16 := by
  have e : ∀ l : List Int, (setS l).length ≤ l.length := by
    intro l
    induction l with
    | nil => exact Nat.le_refl _
    | cons x l ih =>
      show (insS x (setS l)).length ≤ _
      have : ∀ (x : Int) (m : List Int), (insS x m).length ≤ m.length + 1 := by
        intro x m
        induction m with
        | nil => simp [insS]
        | cons y m ih => unfold insS; split <;> (try split) <;> simp <;> omega
      have := this x (setS l)
      rw [List.length_cons]; omega
  have := e (iv.map (·.1) ++ iv.map (fun p => p.2 + 1))
  rw [List.length_append, List.length_map, List.length_map] at this
  have := h.few
  unfold cutsI; omega
/-- the rest of possible -/
theorem pairs_at {iv : List (Int × Int)} {lies : Int} (h : IvOk iv) {t : Tn} {e : Dn} (ht : t = possible_t1) (he : e = possible_e3) :
    dFz (fComp (iOn rng1 (aCons (aE (dOp2 subB (aE (dOpN lenB (aCons (aV 2) aNil))) (aE (dC (.int 1))))) aNil)) (bN 7) t e [7]) [.val (.tuple (iv.map enI)), .val (.int lies), .val (.list ((cutsI iv).map PyData.int)), .un, .un, .val (.int (iv.length - lies)), .un, .un] =
      .ok (.list ((pairsC (fun x => decide ((cntI iv x : Int) ≥ iv.length - lies)) (cutsI iv)).map enI)) [.val (.tuple (iv.map enI)), .val (.int lies), .val (.list ((cutsI iv).map PyData.int)), .un, .un, .val (.int (iv.length - lies)), .un, .un] := by
  subst ht he
  have hl := cutsI_len h
  have few := h.few
  have hne : 1 ≤ (cutsI iv).length := by
    obtain ⟨p, hp⟩ := List.exists_mem_of_ne_nil iv h.ne
    exact List.length_pos_of_mem (mem_cuts.mpr ⟨p, hp, .inl rfl⟩)
  have at_ : ∀ (k : Nat) , k < (cutsI iv).length → ∀ z : Int, z = k → atI ((cutsI iv).map PyData.int) z = some (.int ((cutsI iv).getD k 0)) := fun k hk z e => by
    subst e
    rw [atI_nat, List.getElem?_map, List.getElem?_eq_getElem hk, List.getD_eq_getElem?_getD, List.getElem?_eq_getElem hk]
    rfl
  have c := comp_enc (bd := bN 7) (ifs := possible_t1) (elt := possible_e3) (vs := [7]) (enc := fun k : Nat => .int (k : Int)) (q := fun k : Nat => decide ((cntI iv ((cutsI iv).getD k 0) : Int) ≥ iv.length - lies)) (g := fun k : Nat => enI ((cutsI iv).getD k 0, (cutsI iv).getD (k + 1) 0 - 1))
    (st := [.val (.tuple (iv.map enI)), .val (.int lies), .val (.list ((cutsI iv).map PyData.int)), .un, .un, .val (.int (iv.length - lies)), .un, .un])
    (ρ1 := fun k : Nat => [.val (.tuple (iv.map enI)), .val (.int lies), .val (.list ((cutsI iv).map PyData.int)), .un, .un, .val (.int (iv.length - lies)), .un, .val (.int k)]) (List.range ((cutsI iv).length - 1)) [] (by simp; omega)
    (fun k _ => by simp -implicitDefEqProofs only [evs0, evs1, evs2, evsX, Nat.reduceAdd, Nat.reduceSub, ↓reduceIte, Nat.reduceLeDiff, Int.reduceEq, Int.reduceLT, Int.reduceLE]) (fun k hk => by
      have hk := List.mem_range.mp hk
      have e1 := at_ k (by omega) k rfl
      have e2 := inside_ok (iv := iv) (x := (cutsI iv).getD k 0) (by omega)
      unfold possible_t1
      simp -implicitDefEqProofs (decide := true) only [evs0, evs1, evs2, evsX, Nat.reduceAdd, Nat.reduceSub, ↓reduceIte, Nat.reduceLeDiff, Int.reduceEq, Int.reduceLT, Int.reduceLE, e1, e2])
    (fun k hk _ => by
      have hk := List.mem_range.mp hk
      have e1 := at_ k (by omega) k rfl
      have e2 := at_ (k + 1) (by omega) (k + 1) rfl
      unfold possible_e3 enI
      simp -implicitDefEqProofs (decide := true) only [evs0, evs1, evs2, evsX, Nat.reduceAdd, Nat.reduceSub, ↓reduceIte, Nat.reduceLeDiff, Int.reduceEq, Int.reduceLT, Int.reduceLE, e1, e2]) (fun k _ => by simp -implicitDefEqProofs only [evs0, evs1, evs2, evsX, Nat.reduceAdd, Nat.reduceSub, ↓reduceIte, Nat.reduceLeDiff, Int.reduceEq, Int.reduceLT, Int.reduceLE])
  have er : rangeL 0 (((cutsI iv).length : Int) - 1) = (List.range ((cutsI iv).length - 1)).map fun k : Nat => .int (k : Int) := by
    unfold rangeL
    have : (((cutsI iv).length : Int) - 1 - 0).toNat = (cutsI iv).length - 1 := by omega
    rw [this]
    exact List.map_congr_left fun k _ => by rw [Int.zero_add]
  have ep : ((List.range ((cutsI iv).length - 1)).filter fun k => decide ((cntI iv ((cutsI iv).getD k 0) : Int) ≥ iv.length - lies)).map (fun k => enI ((cutsI iv).getD k 0, (cutsI iv).getD (k + 1) 0 - 1)) = (pairsC (fun x => decide ((cntI iv x : Int) ≥ iv.length - lies)) (cutsI iv)).map enI := by
    rw [← pairsC_eq, List.map_map]; rfl
  have hs : (((cutsI iv).length : Int) - 1) < 4611686018427387904 := by omega
  have hs2 : -4611686018427387904 ≤ (((cutsI iv).length : Int) - 1) := by omega
  have hlen : ((cutsI iv).map PyData.int).length = (cutsI iv).length := List.length_map _
  simp -implicitDefEqProofs (decide := true) only [evs0, evs1, evs2, evsX, Nat.reduceAdd, Nat.reduceSub, ↓reduceIte, Nat.reduceLeDiff, Int.reduceEq, Int.reduceLT, Int.reduceLE, hlen, ev_rng1 hs hs2, er, c, List.nil_append, ep]
  try rfl
theorem pairsC_len {P : Int → Bool} : ∀ cs : List Int, (pairsC P cs).length ≤ cs.length
  | [] => Nat.le_refl _
  | [c] => by simp [pairsC]
  | c :: d :: r => by
    have := pairsC_len (P := P) (d :: r)
    unfold pairsC
    rw [List.length_append, List.length_cons]
    split <;> simp at * <;> omega
theorem possible_ok {iv : List (Int × Int)} {lies : Int} (h : IvOk iv) (hl : lies < iv.length) : f_possible [.val (.tuple (iv.map enI)), .val (.int lies)] = .ok (.tuple (encS (runsI iv (iv.length - lies)))) [] := by
  have few := h.few
  have e1 := cuts_at (lies := lies) h (e1 := possible_e1) (e2 := possible_e2) rfl rfl
  have e2 := pairs_at (lies := lies) h (t := possible_t1) (e := possible_e3) rfl rfl
  have hp := pairsC_len (P := fun x => decide ((cntI iv x : Int) ≥ iv.length - lies)) (cutsI iv)
  have hc := cutsI_len h
  have e3 := joined_ok (ps := pairsC (fun x => decide ((cntI iv x : Int) ≥ iv.length - lies)) (cutsI iv)) (by omega)
  rw [runs_cuts h] at e3
  have hlen : (iv.map enI).length = iv.length := List.length_map _
  have hnl : decide (lies ≥ (iv.length : Int)) = false := by rw [decide_eq_false_iff_not]; omega
  have run : b_possible [.val (.tuple (iv.map enI)), .val (.int lies), .un, .un, .un, .un, .un, .un] = .ret (.tuple (encS (runsI iv (iv.length - lies)))) [.val (.tuple (iv.map enI)), .val (.int lies), .val (.list ((cutsI iv).map PyData.int)), .un, .un, .val (.int (iv.length - lies)), .val (.list ((pairsC (fun x => decide ((cntI iv x : Int) ≥ iv.length - lies)) (cutsI iv)).map enI)), .un] := by
    unfold b_possible possible_c1
    rw [seq_nx (ρ' := [.val (.tuple (iv.map enI)), .val (.int lies), .un, .un, .un, .un, .un, .un]) (by simp -implicitDefEqProofs (decide := true) only [evs0, evs1, evs2, evsX, Nat.reduceAdd, Nat.reduceSub, ↓reduceIte, Nat.reduceLeDiff, Int.reduceEq, Int.reduceLT, Int.reduceLE, hlen, hnl])]
    rw [seq_nx (ρ' := [.val (.tuple (iv.map enI)), .val (.int lies), .val (.list ((cutsI iv).map PyData.int)), .un, .un, .un, .un, .un]) (by rw [ev_sSet, e1]; simp -implicitDefEqProofs (decide := true) only [evs0, evs1, evs2, evsX, Nat.reduceAdd, Nat.reduceSub, ↓reduceIte, Nat.reduceLeDiff, Int.reduceEq, Int.reduceLT, Int.reduceLE])]
    rw [seq_nx (ρ' := [.val (.tuple (iv.map enI)), .val (.int lies), .val (.list ((cutsI iv).map PyData.int)), .un, .un, .val (.int (iv.length - lies)), .un, .un]) (by simp -implicitDefEqProofs (decide := true) only [evs0, evs1, evs2, evsX, Nat.reduceAdd, Nat.reduceSub, ↓reduceIte, Nat.reduceLeDiff, Int.reduceEq, Int.reduceLT, Int.reduceLE, hlen])]
    rw [seq_nx (ρ' := [.val (.tuple (iv.map enI)), .val (.int lies), .val (.list ((cutsI iv).map PyData.int)), .un, .un, .val (.int (iv.length - lies)), .val (.list ((pairsC (fun x => decide ((cntI iv x : Int) ≥ iv.length - lies)) (cutsI iv)).map enI)), .un]) (by rw [ev_sSet, e2]; simp -implicitDefEqProofs (decide := true) only [evs0, evs1, evs2, evsX, Nat.reduceAdd, Nat.reduceSub, ↓reduceIte, Nat.reduceLeDiff, Int.reduceEq, Int.reduceLT, Int.reduceLE])]
    simp -implicitDefEqProofs (decide := true) only [evs0, evs1, evs2, evsX, Nat.reduceAdd, Nat.reduceSub, ↓reduceIte, Nat.reduceLeDiff, Int.reduceEq, Int.reduceLT, Int.reduceLE, e3]
  unfold f_possible
  simp -implicitDefEqProofs (decide := true) only [evs0, evs1, evs2, evsX, Nat.reduceAdd, Nat.reduceSub, ↓reduceIte, Nat.reduceLeDiff, Int.reduceEq, Int.reduceLT, Int.reduceLE, run]
end Ft
/-! Spn5: the law's own possible; drawn intervals. -/
namespace Ft
open PySem L2
theorem min_intsS {l : List Int} (h : l ≠ []) : minLB [.list (l.map PyData.int)] = some (.int (minI l)) := by
  cases l with
  | nil => exact absurd rfl h
  | cons x l =>
    unfold minLB
    simp only
    rw [intsOf_of]
theorem max_intsS {l : List Int} (h : l ≠ []) : maxLB [.list (l.map PyData.int)] = some (.int (maxI l)) := by
  cases l with
  | nil => exact absurd rfl h
  | cons x l =>
    unfold maxLB
    simp only
    rw [intsOf_of]
theorem cnt_out (iv : List (Int × Int)) (x : Int) : ((iv.filter fun p => decide (x < p.1) || decide (x > p.2)).length : Int) = iv.length - cntI iv x := by
  unfold cntI
  induction iv with
  | nil => rfl
  | cons p iv ih =>
    rw [List.filter_cons, List.filter_cons, List.length_cons]
    by_cases h : p.1 ≤ x ∧ x ≤ p.2
    · rw [if_neg (by simp; omega), if_pos (by simp; omega), List.length_cons]; omega
    · rw [if_pos (by simp; omega), if_neg (by simp; omega), List.length_cons]; omega
def prI (iv : List (Int × Int)) (lies : Int) (x : Int) : Bool := decide ((cntI iv x : Int) ≥ iv.length - lies)
theorem addX_len {s : List (Int × Int)} {x : Int} : (addX s x).length ≤ s.length + 1 := by
  cases s with
  | nil => simp [addX]
  | cons q r =>
    obtain ⟨a, b⟩ := q
    rw [addX_cons]; split <;> simp
theorem plain_enI (L : List (Int × Int)) : PyData.plainAll (L.map enI) = true := by
  induction L with
  | nil => rfl
  | cons p L ih =>
    rw [List.map_cons, PyData.plainAll, ih]
    unfold enI
    simp only [PyData.plain, PyData.plainAll, Bool.and_self]
theorem ne_enI {L : List (Int × Int)} (h : L ≠ []) : toB neB (.list (L.map enI)) (.list []) = some (.bool true) := by
  cases L with
  | nil => exact absurd rfl h
  | cons f L =>
    have h1 : flat2 (.list ((f :: L).map enI)) (.list []) = true := by
      unfold flat2
      have z : (PyData.list []).depth = 1 := rfl
      have z2 : (PyData.list []).plain = true := rfl
      rw [z, z2, PyData.plain, plain_enI]
      simp only [Bool.and_self, Bool.true_and, decide_eq_true_eq]
      exact Nat.le_trans (Nat.min_le_right _ _) (by omega)
    have h2 : PyData.eqv (.list ((f :: L).map enI)) (.list []) = false := by
      rw [List.map_cons]; rfl
    unfold toB
    have e : neB (.list ((f :: L).map enI)) (.list []) = some (!PyData.eqv (.list ((f :: L).map enI)) (.list [])) := if_pos h1
    rw [e, h2]; rfl
theorem ne_snoc {s : List (Int × Int)} {p : Int × Int} : toB neB (.list (encS s ++ [enI p])) (.list []) = some (.bool true) := by
  rw [← encS_cons]
  exact ne_enI (by simp)
theorem lp_turn {iv : List (Int × Int)} {lies x : Int} {s : List (Int × Int)} (h : iv.length ≤ 1000) (hs : s.length ≤ 500000) :
    law_possible_b1 [.val (.tuple (iv.map enI)), .val (.int lies), .own (.lst (encS s)) true, .val (.int x), .un] =
      .next [.val (.tuple (iv.map enI)), .val (.int lies), .own (.lst (encS (if prI iv lies x = true then addX s x else s))) true, .val (.int x), .un] := by
  have c := comp_enc (bd := bN 4) (ifs := law_possible_t1) (elt := law_possible_e3) (vs := [4]) (enc := enI) (q := fun p : Int × Int => decide (x < p.1) || decide (x > p.2)) (g := enI)
    (st := [.val (.tuple (iv.map enI)), .val (.int lies), .own (.lst (encS s)) true, .val (.int x), .un]) (ρ1 := fun p => [.val (.tuple (iv.map enI)), .val (.int lies), .own (.lst (encS s)) true, .val (.int x), .val (enI p)]) iv [] (by simp; omega)
    (fun p _ => by simp -implicitDefEqProofs only [evs0, evs1, evs2, evsX, Nat.reduceAdd, Nat.reduceSub, ↓reduceIte, Nat.reduceLeDiff, Int.reduceEq, Int.reduceLT, Int.reduceLE]) (fun p _ => by
      unfold law_possible_t1 enI
      by_cases h1 : x < p.1
      · simp -implicitDefEqProofs (decide := true) only [evs0, evs1, evs2, evsX, Nat.reduceAdd, Nat.reduceSub, ↓reduceIte, Nat.reduceLeDiff, Int.reduceEq, Int.reduceLT, Int.reduceLE, h1, Bool.true_or]
      · simp -implicitDefEqProofs (decide := true) only [evs0, evs1, evs2, evsX, Nat.reduceAdd, Nat.reduceSub, ↓reduceIte, Nat.reduceLeDiff, Int.reduceEq, Int.reduceLT, Int.reduceLE, h1, Bool.false_or])
    (fun p _ _ => by unfold law_possible_e3; simp -implicitDefEqProofs only [evs0, evs1, evs2, evsX, Nat.reduceAdd, Nat.reduceSub, ↓reduceIte, Nat.reduceLeDiff, Int.reduceEq, Int.reduceLT, Int.reduceLE]) (fun p _ => by simp -implicitDefEqProofs only [evs0, evs1, evs2, evsX, Nat.reduceAdd, Nat.reduceSub, ↓reduceIte, Nat.reduceLeDiff, Int.reduceEq, Int.reduceLT, Int.reduceLE])
  have hcl : decide ((((iv.filter fun p => decide (x < p.1) || decide (x > p.2)).map enI).length : Int) ≤ lies) = prI iv lies x := by
    rw [List.length_map, cnt_out]
    unfold prI
    rw [Bool.eq_iff_iff, decide_eq_true_eq, decide_eq_true_eq]
    omega
  unfold law_possible_b1 law_possible_c3
  cases hP : prI iv lies x with
  | false =>
    rw [hP] at hcl
    simp -implicitDefEqProofs (decide := true) only [evs0, evs1, evs2, evsX, Nat.reduceAdd, Nat.reduceSub, ↓reduceIte, Nat.reduceLeDiff, Int.reduceEq, Int.reduceLT, Int.reduceLE, c, List.nil_append, hcl]
    try rfl
  | true =>
    rw [hP] at hcl
    rw [if_pos rfl]
    cases s with
    | nil =>
      have e0 : encS [] = [] := rfl
      have e1 : encS (addX [] x) = [.tuple [.int x, .int x]] := rfl
      rw [e0] at c ⊢
      rw [e1]
      simp -implicitDefEqProofs (decide := true) only [evs0, evs1, evs2, evsX, Nat.reduceAdd, Nat.reduceSub, ↓reduceIte, Nat.reduceLeDiff, Int.reduceEq, Int.reduceLT, Int.reduceLE, c, List.nil_append, hcl]
      rfl
    | cons p r =>
      obtain ⟨a, b⟩ := p
      rw [encS_cons] at c ⊢
      rw [addX_cons]
      have hx := atI_snoc (X := encS r) (d := enI (a, b))
      have hl : (encS r ++ [enI (a, b)]).length = r.length + 1 := by unfold encS; simp
      have hl2 : (encS r).length = r.length := by unfold encS; simp
      have hi := ixN_snoc (n := r.length) (by simp at hs; omega)
      have hne := ne_snoc (s := r) (p := (a, b))
      have en : enI (a, b) = .tuple [.int a, .int b] := rfl
      by_cases h : b = x - 1
      · rw [if_pos h, encS_cons]
        have hb : decide (b = x - 1) = true := decide_eq_true h
        have hst : ∀ e : D, (encS r ++ [PyData.tuple [.int a, .int b]]).set r.length e = encS r ++ [e] := fun e => by
          have := set_snoc (X := encS r) (d := PyData.tuple [.int a, .int b]) (e := e)
          rw [hl2] at this; exact this
        rw [en] at hx hl c hne ⊢
        simp -implicitDefEqProofs (decide := true) only [evs0, evs1, evs2, evsX, Nat.reduceAdd, Nat.reduceSub, ↓reduceIte, Nat.reduceLeDiff, Int.reduceEq, Int.reduceLT, Int.reduceLE, c, List.nil_append, hcl, hne, hx, hl, hb, hi, hst]
        rfl
      · rw [if_neg h, encS_cons, encS_cons]
        have hb : decide (b = x - 1) = false := decide_eq_false h
        rw [en] at hx hl c hne ⊢
        have hsz : (encS r ++ [PyData.tuple [.int a, .int b]]).length < 16000000 := by rw [hl]; simp at hs; omega
        simp -implicitDefEqProofs (decide := true) only [evs0, evs1, evs2, evsX, Nat.reduceAdd, Nat.reduceSub, ↓reduceIte, Nat.reduceLeDiff, Int.reduceEq, Int.reduceLT, Int.reduceLE, c, List.nil_append, hcl, hne, hx, hl, hb, ev_appK2 hsz]
        rfl
theorem lp_loop {iv : List (Int × Int)} {lies : Int} (h : iv.length ≤ 1000) : ∀ (n : Nat) (a : Int) (s : List (Int × Int)) (y : LV), nioK (some y) = true → s.length + n ≤ 500000 →
    ∃ y', forV (bN 3) law_possible_b1 (rangeL a (a + n)) [.val (.tuple (iv.map enI)), .val (.int lies), .own (.lst (encS s)) true, y, .un] = .next [.val (.tuple (iv.map enI)), .val (.int lies), .own (.lst (encS (runF (prI iv lies) s a n))) true, y', .un]
  | 0, a, s, y, _, _ => ⟨y, by rw [rangeL_nil (by omega)]; rfl⟩
  | n + 1, a, s, y, hy, hl => by
    have hlen : (if prI iv lies a = true then addX s a else s).length ≤ s.length + 1 := by
      split
      · exact addX_len
      · omega
    obtain ⟨y', e⟩ := lp_loop h n (a + 1) (if prI iv lies a = true then addX s a else s) (.val (.int a)) rfl (by omega)
    refine ⟨y', ?_⟩
    rw [rangeL_cons (by omega), forV_nx (ρ1 := [.val (.tuple (iv.map enI)), .val (.int lies), .own (.lst (encS s)) true, .val (.int a), .un]) (by simp -implicitDefEqProofs only [evs0, evs1, evs2, evsX, Nat.reduceAdd, Nat.reduceSub, ↓reduceIte, Nat.reduceLeDiff, Int.reduceEq, Int.reduceLT, Int.reduceLE, hy]) (lp_turn h (by omega))]
    have ea : a + ((n + 1 : Nat) : Int) = a + 1 + n := by omega
    rw [ea, e]
    rfl
theorem law_possible_ok {iv : List (Int × Int)} {lies : Int} (h : IvOk iv) (hl : lies < iv.length) : f_law_possible [.val (.tuple (iv.map enI)), .val (.int lies)] = .ok (.tuple (encS (runsI iv (iv.length - lies)))) [] := by
  have few := h.few
  have hlen : (iv.map enI).length = iv.length := List.length_map _
  have hnl : decide (lies ≥ (iv.length : Int)) = false := by rw [decide_eq_false_iff_not]; omega
  have c1 := comp_enc (bd := bN 4) (ifs := tnYes) (elt := law_possible_e2) (vs := [4]) (enc := enI) (q := fun _ => true) (g := fun p : Int × Int => .int p.1)
    (st := [.val (.tuple (iv.map enI)), .val (.int lies), .own (.lst []) true, .un, .un]) (ρ1 := fun p => [.val (.tuple (iv.map enI)), .val (.int lies), .own (.lst []) true, .un, .val (enI p)]) iv [] (by simp; omega)
    (fun p _ => by simp -implicitDefEqProofs only [evs0, evs1, evs2, evsX, Nat.reduceAdd, Nat.reduceSub, ↓reduceIte, Nat.reduceLeDiff, Int.reduceEq, Int.reduceLT, Int.reduceLE]) (fun p _ => rfl) (fun p _ _ => by unfold law_possible_e2 enI; simp -implicitDefEqProofs (decide := true) only [evs0, evs1, evs2, evsX, Nat.reduceAdd, Nat.reduceSub, ↓reduceIte, Nat.reduceLeDiff, Int.reduceEq, Int.reduceLT, Int.reduceLE]) (fun p _ => by simp -implicitDefEqProofs only [evs0, evs1, evs2, evsX, Nat.reduceAdd, Nat.reduceSub, ↓reduceIte, Nat.reduceLeDiff, Int.reduceEq, Int.reduceLT, Int.reduceLE])
  have c2 := comp_enc (bd := bN 4) (ifs := tnYes) (elt := law_possible_e1) (vs := [4]) (enc := enI) (q := fun _ => true) (g := fun p : Int × Int => .int p.2)
    (st := [.val (.tuple (iv.map enI)), .val (.int lies), .own (.lst []) true, .un, .un]) (ρ1 := fun p => [.val (.tuple (iv.map enI)), .val (.int lies), .own (.lst []) true, .un, .val (enI p)]) iv [] (by simp; omega)
    (fun p _ => by simp -implicitDefEqProofs only [evs0, evs1, evs2, evsX, Nat.reduceAdd, Nat.reduceSub, ↓reduceIte, Nat.reduceLeDiff, Int.reduceEq, Int.reduceLT, Int.reduceLE]) (fun p _ => rfl) (fun p _ _ => by unfold law_possible_e1 enI; simp -implicitDefEqProofs (decide := true) only [evs0, evs1, evs2, evsX, Nat.reduceAdd, Nat.reduceSub, ↓reduceIte, Nat.reduceLeDiff, Int.reduceEq, Int.reduceLT, Int.reduceLE]) (fun p _ => by simp -implicitDefEqProofs only [evs0, evs1, evs2, evsX, Nat.reduceAdd, Nat.reduceSub, ↓reduceIte, Nat.reduceLeDiff, Int.reduceEq, Int.reduceLT, Int.reduceLE])
  have f1 : iv.filter (fun _ => true) = iv := List.filter_eq_self.mpr fun _ _ => rfl
  rw [f1, List.nil_append] at c1 c2
  have m1 := min_intsS (l := iv.map (·.1)) (by simpa using h.ne)
  have m2 := max_intsS (l := iv.map (·.2)) (by simpa using h.ne)
  rw [List.map_map] at m1 m2
  have m1 : minLB [.list (iv.map fun p => PyData.int p.1)] = some (.int (minI (iv.map (·.1)))) := m1
  have m2 : maxLB [.list (iv.map fun p => PyData.int p.2)] = some (.int (maxI (iv.map (·.2)))) := m2
  obtain ⟨a1, a2⟩ := minI_is (l := iv.map (·.1)) (by simpa using h.ne)
  obtain ⟨b1, b2⟩ := maxI_is (l := iv.map (·.2)) (by simpa using h.ne)
  obtain ⟨pa, ha, ea⟩ := List.mem_map.mp a1
  obtain ⟨pb, hb, eb⟩ := List.mem_map.mp b1
  have ha2 := h.bd pa ha
  have hb2 := h.bd pb hb
  have hau := h.up pa ha
  have hbu := h.up pb hb
  have hle : minI (iv.map (·.1)) ≤ maxI (iv.map (·.2)) + 1 := by
    have := b2 pa.2 (List.mem_map.mpr ⟨pa, ha, rfl⟩)
    omega
  generalize eA : minI (iv.map (·.1)) = A at m1 ea hle
  generalize eB : maxI (iv.map (·.2)) = B at m2 eb hle
  have hr := ev_rng2 (i := A) (j := B + 1) (by omega) (by omega) (by omega) (by omega)
  obtain ⟨y, loop⟩ := lp_loop (iv := iv) (lies := lies) (by omega) (B + 1 - A).toNat A [] .un rfl (by simp; omega)
  have eAB : A + ((B + 1 - A).toNat : Int) = B + 1 := by omega
  rw [eAB] at loop
  have e0 : encS [] = [] := rfl
  rw [e0] at loop
  have er : runF (prI iv lies) [] A (B + 1 - A).toNat = runsI iv (iv.length - lies) := by
    unfold runsI
    rw [eA, eB]
    rfl
  rw [er] at loop
  unfold f_law_possible b_law_possible law_possible_c1 law_possible_c2
  simp -implicitDefEqProofs (decide := true) only [evs0, evs1, evs2, evsX, Nat.reduceAdd, Nat.reduceSub, ↓reduceIte, Nat.reduceLeDiff, Int.reduceEq, Int.reduceLT, Int.reduceLE, hlen, hnl, c1, c2, m1, m2, hr, loop]
theorem law_possible_no {iv : List (Int × Int)} {lies : Int} (hl : (iv.length : Int) ≤ lies) : f_law_possible [.val (.tuple (iv.map enI)), .val (.int lies)] = .ok (.tuple [.str "refused", .str "TooManyLies"]) [] := by
  have hlen : (iv.map enI).length = iv.length := List.length_map _
  have hnl : decide (lies ≥ (iv.length : Int)) = true := by rw [decide_eq_true_eq]; omega
  unfold f_law_possible b_law_possible
  simp -implicitDefEqProofs (decide := true) only [evs0, evs1, evs2, evsX, Nat.reduceAdd, Nat.reduceSub, ↓reduceIte, Nat.reduceLeDiff, Int.reduceEq, Int.reduceLT, Int.reduceLE, hlen, hnl]
theorem okD_int (n : Nat) (i : Int) : okD (n + 1) (.int i) = true := rfl
theorem okD_runs {iv : List (Int × Int)} {need : Int} (h : IvOk iv) (n : Nat) : okD (n + 3) (.tuple (encS (runsI iv need))) = true := by
  have hl : ∀ (P : Int → Bool) (n : Nat) (s : List (Int × Int)) (a : Int), (runF P s a n).length ≤ s.length + n := by
    intro P n
    induction n with
    | zero => intro s a; exact Nat.le_refl _
    | succ n ih =>
      intro s a
      have := ih (if P a = true then addX s a else s) (a + 1)
      have : (if P a = true then addX s a else s).length ≤ s.length + 1 := by
        split
        · exact addX_len
        · omega
      show (runF P _ (a + 1) n).length ≤ _
      omega
  obtain ⟨a1, a2⟩ := minI_is (l := iv.map (·.1)) (by simpa using h.ne)
  obtain ⟨b1, b2⟩ := maxI_is (l := iv.map (·.2)) (by simpa using h.ne)
  obtain ⟨pa, ha, ea⟩ := List.mem_map.mp a1
  obtain ⟨pb, hb, eb⟩ := List.mem_map.mp b1
  have ha2 := h.bd pa ha
  have hb2 := h.bd pb hb
  have hau := h.up pa ha
  have hbu := h.up pb hb
  have hll : (encS (runsI iv need)).length ≤ 1000000000 := by
    have := hl (fun x => decide ((cntI iv x : Int) ≥ need)) (maxI (iv.map (·.2)) + 1 - minI (iv.map (·.1))).toNat [] (minI (iv.map (·.1)))
    unfold encS runsI
    rw [List.length_map, List.length_reverse]
    rw [List.length_nil, Nat.zero_add] at this
    omega
  rw [okD, Bool.and_eq_true, decide_eq_true_eq, List.all_eq_true]
  refine ⟨hll, fun d hd => ?_⟩
  unfold encS at hd
  obtain ⟨p, _, rfl⟩ := List.mem_map.mp hd
  rfl
/-! ### drawn -/
theorem intervals_ok {l : List D} (hp : Pool l) : ∃ (iv : List (Int × Int)) (l' : List D), f_law_intervals [.own (.lst l) false, .val (.int 8)] = .ok (.tuple (iv.map enI)) [.lst l'] ∧ Pool l' ∧ IvOk iv := by
  obtain ⟨r1, l1, e1, p1, q1, hp⟩ := draw_ok hp (m := 3) (by omega) (by omega)
  obtain ⟨A, hA, a0, a1⟩ : ∃ A : Int, atI [PyData.int 4, .int 12, .int 60] r1 = some (.int A) ∧ 4 ≤ A ∧ A ≤ 60 := by
    obtain ⟨x, hx, e⟩ := atI_mem (l := [PyData.int 4, .int 12, .int 60]) p1 q1
    simp only [List.mem_cons, List.not_mem_nil, or_false] at hx
    rcases hx with rfl | rfl | rfl
    all_goals exact ⟨_, e, by omega, by omega⟩
  obtain ⟨r2, l2, e2, p2, q2, hp⟩ := draw_ok hp (m := 8) (by omega) (by omega)
  have loop : ∃ (iv : List (Int × Int)) (l' : List D) (y z : LV), forV (bN 4) law_intervals_b1 (rangeL 0 (1 + r2)) [.own (.lst l2) false, .val (.int 8), .val (.int A), .own (.lst []) true, .un, .un] = .next [.own (.lst l') false, .val (.int 8), .val (.int A), .own (.lst (iv.map enI)) true, y, z] ∧ Pool l' ∧ iv.length = (1 + r2).toNat ∧ ∀ p ∈ iv, p.1 ≤ p.2 ∧ -100000 ≤ p.1 ∧ p.2 ≤ 100000 := by
    refine for_rule (P := fun r => ∃ (iv : List (Int × Int)) (l' : List D) (y z : LV), r = .next [.own (.lst l') false, .val (.int 8), .val (.int A), .own (.lst (iv.map enI)) true, y, z] ∧ Pool l' ∧ iv.length = (1 + r2).toNat ∧ ∀ p ∈ iv, p.1 ≤ p.2 ∧ -100000 ≤ p.1 ∧ p.2 ≤ 100000) (rangeL 0 (1 + r2))
      (fun i ρ => ∃ (iv : List (Int × Int)) (l' : List D) (y z : LV), ρ = [.own (.lst l') false, .val (.int 8), .val (.int A), .own (.lst (iv.map enI)) true, y, z] ∧ nioK (some y) = true ∧ nioK (some z) = true ∧ Pool l' ∧ iv.length = i ∧ ∀ p ∈ iv, p.1 ≤ p.2 ∧ -100000 ≤ p.1 ∧ p.2 ≤ 100000) _ ⟨[], l2, _, _, rfl, rfl, rfl, hp, rfl, fun p h => by cases h⟩ ?_ ?_
    · rintro i d ρ hi ⟨iv, l', y, z, rfl, hy, hz, hp, hl, hb⟩
      obtain ⟨rfl, hi2⟩ := rangeL_at hi
      obtain ⟨r3, l3, e3, p3, q3, hp⟩ := draw_ok hp (m := A) (by omega) (by omega)
      obtain ⟨r4, l4, e4, p4, q4, hp⟩ := draw_ok hp (m := 3) (by omega) (by omega)
      obtain ⟨B, hB, b0, b1⟩ : ∃ B : Int, atI [PyData.int 1, .int 3, .int A] r4 = some (.int B) ∧ 1 ≤ B ∧ B ≤ 60 := by
        obtain ⟨x, hx, e⟩ := atI_mem (l := [PyData.int 1, .int 3, .int A]) p4 q4
        simp only [List.mem_cons, List.not_mem_nil, or_false] at hx
        rcases hx with rfl | rfl | rfl
        all_goals exact ⟨_, e, by omega, by omega⟩
      obtain ⟨r5, l5, e5, p5, q5, hp⟩ := draw_ok hp (m := B) (by omega) (by omega)
      refine ⟨[.own (.lst l') false, .val (.int 8), .val (.int A), .own (.lst (iv.map enI)) true, .val (.int (0 + i)), z], by simp -implicitDefEqProofs only [evs0, evs1, evs2, evsX, Nat.reduceAdd, Nat.reduceSub, ↓reduceIte, Nat.reduceLeDiff, Int.reduceEq, Int.reduceLT, Int.reduceLE, hy], ?_⟩
      have hsz : (iv.map enI).length < 16000000 := by rw [List.length_map]; omega
      have ed : (iv.map enI) ++ [PyData.tuple [.int (r3 - A / 2), .int (r3 - A / 2 + r5)]] = (iv ++ [(r3 - A / 2, r3 - A / 2 + r5)]).map enI := by rw [List.map_append]; rfl
      unfold law_intervals_b1
      simp -implicitDefEqProofs (decide := true) only [evs0, evs1, evs2, evsX, Nat.reduceAdd, Nat.reduceSub, ↓reduceIte, Nat.reduceLeDiff, Int.reduceEq, Int.reduceLT, Int.reduceLE, Turn, hz, e3, e4, hB, e5, ev_appK2 hsz]
      refine ⟨iv ++ [(r3 - A / 2, r3 - A / 2 + r5)], l5, _, _, by rw [ed], rfl, rfl, hp, by rw [List.length_append, hl]; rfl, fun p hpm => ?_⟩
      rcases List.mem_append.mp hpm with h | h
      · exact hb p h
      · rw [List.mem_singleton.mp h]
        dsimp only
        omega
    · rintro ρ ⟨iv, l', y, z, rfl, _, _, hp, hl, hb⟩
      exact ⟨iv, l', y, z, rfl, hp, by rw [hl, rangeL_len]; congr 1; omega, hb⟩
  obtain ⟨iv, l', y, z, loop, hp, hl, hb⟩ := loop
  refine ⟨iv, l', ?_, hp, fun e => by rw [e] at hl; simp at hl; omega, by omega, fun p h => (hb p h).1, fun p h => (hb p h).2⟩
  have hr := ev_rng1 (j := 1 + r2) (by omega) (by omega)
  unfold f_law_intervals b_law_intervals
  simp -implicitDefEqProofs (decide := true) only [evs0, evs1, evs2, evsX, Nat.reduceAdd, Nat.reduceSub, ↓reduceIte, Nat.reduceLeDiff, Int.reduceEq, Int.reduceLT, Int.reduceLE, e1, hA, e2, hr, loop]
end Ft
/-! Spn4: possible where it may raise. -/
namespace Ft
open PySem L2
theorem possible_v2_ok {iv : List (Int × Int)} {lies : Int} (h : IvOk iv) (hl : lies < iv.length) : f_possible_v2 [.val (.tuple (iv.map enI)), .val (.int lies)] = .ok (.tuple (encS (runsI iv (iv.length - lies)))) [] := by
  have few := h.few
  have e1 := cuts_at (lies := lies) h (e1 := possible_v2_e1) (e2 := possible_v2_e2) rfl rfl
  have e2 := pairs_at (lies := lies) h (t := possible_v2_t1) (e := possible_v2_e3) rfl rfl
  have hp := pairsC_len (P := fun x => decide ((cntI iv x : Int) ≥ iv.length - lies)) (cutsI iv)
  have hc := cutsI_len h
  have e3 := joined_ok (ps := pairsC (fun x => decide ((cntI iv x : Int) ≥ iv.length - lies)) (cutsI iv)) (by omega)
  rw [runs_cuts h] at e3
  have hlen : (iv.map enI).length = iv.length := List.length_map _
  have hnl : decide (lies ≥ (iv.length : Int)) = false := by rw [decide_eq_false_iff_not]; omega
  have run : b_possible_v2 [.val (.tuple (iv.map enI)), .val (.int lies), .un, .un, .un, .un, .un, .un] = .ret (.tuple (encS (runsI iv (iv.length - lies)))) [.val (.tuple (iv.map enI)), .val (.int lies), .val (.list ((cutsI iv).map PyData.int)), .un, .un, .val (.int (iv.length - lies)), .val (.list ((pairsC (fun x => decide ((cntI iv x : Int) ≥ iv.length - lies)) (cutsI iv)).map enI)), .un] := by
    unfold b_possible_v2 possible_v2_c1
    rw [seq_nx (ρ' := [.val (.tuple (iv.map enI)), .val (.int lies), .un, .un, .un, .un, .un, .un]) (by simp -implicitDefEqProofs (decide := true) only [evs0, evs1, evs2, evsX, Nat.reduceAdd, Nat.reduceSub, ↓reduceIte, Nat.reduceLeDiff, Int.reduceEq, Int.reduceLT, Int.reduceLE, hlen, hnl])]
    rw [seq_nx (ρ' := [.val (.tuple (iv.map enI)), .val (.int lies), .val (.list ((cutsI iv).map PyData.int)), .un, .un, .un, .un, .un]) (by rw [ev_sSet, e1]; simp -implicitDefEqProofs (decide := true) only [evs0, evs1, evs2, evsX, Nat.reduceAdd, Nat.reduceSub, ↓reduceIte, Nat.reduceLeDiff, Int.reduceEq, Int.reduceLT, Int.reduceLE])]
    rw [seq_nx (ρ' := [.val (.tuple (iv.map enI)), .val (.int lies), .val (.list ((cutsI iv).map PyData.int)), .un, .un, .val (.int (iv.length - lies)), .un, .un]) (by simp -implicitDefEqProofs (decide := true) only [evs0, evs1, evs2, evsX, Nat.reduceAdd, Nat.reduceSub, ↓reduceIte, Nat.reduceLeDiff, Int.reduceEq, Int.reduceLT, Int.reduceLE, hlen])]
    rw [seq_nx (ρ' := [.val (.tuple (iv.map enI)), .val (.int lies), .val (.list ((cutsI iv).map PyData.int)), .un, .un, .val (.int (iv.length - lies)), .val (.list ((pairsC (fun x => decide ((cntI iv x : Int) ≥ iv.length - lies)) (cutsI iv)).map enI)), .un]) (by rw [ev_sSet, e2]; simp -implicitDefEqProofs (decide := true) only [evs0, evs1, evs2, evsX, Nat.reduceAdd, Nat.reduceSub, ↓reduceIte, Nat.reduceLeDiff, Int.reduceEq, Int.reduceLT, Int.reduceLE])]
    simp -implicitDefEqProofs (decide := true) only [evs0, evs1, evs2, evsX, Nat.reduceAdd, Nat.reduceSub, ↓reduceIte, Nat.reduceLeDiff, Int.reduceEq, Int.reduceLT, Int.reduceLE, e3]
  unfold f_possible_v2
  simp -implicitDefEqProofs (decide := true) only [evs0, evs1, evs2, evsX, Nat.reduceAdd, Nat.reduceSub, ↓reduceIte, Nat.reduceLeDiff, Int.reduceEq, Int.reduceLT, Int.reduceLE, run]
theorem possible_v2_no {iv : List (Int × Int)} {lies : Int} (hl : (iv.length : Int) ≤ lies) : f_possible_v2 [.val (.tuple (iv.map enI)), .val (.int lies)] = .ex ⟨0, []⟩ [] := by
  have hlen : (iv.map enI).length = iv.length := List.length_map _
  have hnl : decide (lies ≥ (iv.length : Int)) = true := by rw [decide_eq_true_eq]; omega
  unfold f_possible_v2 b_possible_v2
  simp -implicitDefEqProofs (decide := true) only [evs0, evs1, evs2, evsX, Nat.reduceAdd, Nat.reduceSub, ↓reduceIte, Nat.reduceLeDiff, Int.reduceEq, Int.reduceLT, Int.reduceLE, hlen, hnl]
end Ft
/-! Spn6: which intervals a run meets; how few lies do. -/
namespace Ft
open PySem L2
def hitB (r p : Int × Int) : Bool := decide (p.1 ≤ r.2) && decide (r.1 ≤ p.2)
/-- the places of the intervals that no run meets -/
def wrongI (iv R : List (Int × Int)) : List Nat := (List.range iv.length).filter fun k => !(R.any fun r => hitB r (iv.getD k (0, 0)))
theorem runF_up {P : Int → Bool} : ∀ (n : Nat) (s : List (Int × Int)) (a : Int), (∀ p ∈ s, p.1 ≤ p.2) → ∀ p ∈ runF P s a n, p.1 ≤ p.2
  | 0, s, a, h => h
  | n + 1, s, a, h => by
    refine runF_up n _ (a + 1) ?_
    split
    · cases s with
      | nil =>
        intro p hp
        rw [List.mem_singleton.mp hp]
        exact Int.le_refl _
      | cons q r =>
        obtain ⟨c, d⟩ := q
        rw [addX_cons]
        have h0 := h (c, d) List.mem_cons_self
        split
        · intro p hp
          rcases List.mem_cons.mp hp with e | e
          · rw [e]; show c ≤ a; dsimp only at h0; omega
          · exact h p (List.mem_cons_of_mem _ e)
        · intro p hp
          rcases List.mem_cons.mp hp with e | e
          · rw [e]; exact Int.le_refl _
          · exact h p e
    · exact h
theorem runs_up {iv : List (Int × Int)} {need : Int} : ∀ p ∈ runsI iv need, p.1 ≤ p.2 := runF_up _ _ _ fun p h => by cases h
theorem runF_ne {P : Int → Bool} : ∀ (n : Nat) (s : List (Int × Int)) (a : Int), runF P s a n ≠ [] ↔ (s ≠ [] ∨ ∃ x, a ≤ x ∧ x < a + n ∧ P x = true)
  | 0, s, a => by
    show s ≠ [] ↔ _
    constructor
    · exact .inl
    · rintro (h | ⟨x, h1, h2, _⟩)
      · exact h
      · omega
  | n + 1, s, a => by
    show runF P _ (a + 1) n ≠ [] ↔ _
    rw [runF_ne n]
    have hx : addX s a ≠ [] := by
      cases s with
      | nil => simp [addX]
      | cons q r => obtain ⟨c, d⟩ := q; rw [addX_cons]; split <;> simp
    constructor
    · rintro (h | ⟨x, h1, h2, h3⟩)
      · by_cases hp : P a = true
        · exact .inr ⟨a, by omega, by omega, hp⟩
        · rw [if_neg hp] at h; exact .inl h
      · exact .inr ⟨x, by omega, by omega, h3⟩
    · rintro (h | ⟨x, h1, h2, h3⟩)
      · left
        split
        · exact hx
        · exact h
      · by_cases e : x = a
        · left; rw [← e, if_pos h3]; rw [e]; exact hx
        · exact .inr ⟨x, by omega, by omega, h3⟩
/-- the most intervals that have an integer in common -/
def mostI (iv : List (Int × Int)) : Int := maxI (iv.map fun p => (cntI iv p.1 : Int))
theorem cnt_le {iv : List (Int × Int)} {x : Int} : cntI iv x ≤ iv.length := List.length_filter_le _ _
theorem filt_mono {α : Type} {p q : α → Bool} : ∀ l : List α, (∀ x ∈ l, p x = true → q x = true) → (l.filter p).length ≤ (l.filter q).length
  | [], _ => Nat.le_refl _
  | a :: l, h => by
    have ih := filt_mono l fun x hx => h x (List.mem_cons_of_mem _ hx)
    have ha := h a List.mem_cons_self
    rw [List.filter_cons, List.filter_cons]
    by_cases c : p a = true
    · rw [if_pos c, if_pos (ha c), List.length_cons, List.length_cons]; omega
    · rw [if_neg c]
      split
      · rw [List.length_cons]; omega
      · exact ih
/-- the best places are beginnings -/
theorem cnt_low {iv : List (Int × Int)} {x : Int} (h : 1 ≤ cntI iv x) : ∃ p ∈ iv, cntI iv x ≤ cntI iv p.1 := by
  have hne : (iv.filter fun p => decide (p.1 ≤ x) && decide (x ≤ p.2)) ≠ [] := fun e => by unfold cntI at h; rw [e] at h; simp at h
  obtain ⟨m1, m2⟩ := maxI_is (l := (iv.filter fun p => decide (p.1 ≤ x) && decide (x ≤ p.2)).map (·.1)) (by simpa using hne)
  obtain ⟨p, hp, ep⟩ := List.mem_map.mp m1
  obtain ⟨hp1, hp2⟩ := List.mem_filter.mp hp
  refine ⟨p, hp1, ?_⟩
  unfold cntI
  refine filt_mono iv fun q hq hx => ?_
  have := m2 q.1 (List.mem_map.mpr ⟨q, List.mem_filter.mpr ⟨hq, hx⟩, rfl⟩)
  simp only [Bool.and_eq_true, decide_eq_true_eq] at hx hp2 ⊢
  omega
theorem most_is {iv : List (Int × Int)} (h : IvOk iv) : (∃ p ∈ iv, mostI iv = cntI iv p.1) ∧ (∀ x, (cntI iv x : Int) ≤ mostI iv) ∧ 1 ≤ mostI iv ∧ mostI iv ≤ iv.length := by
  obtain ⟨m1, m2⟩ := maxI_is (l := iv.map fun p => (cntI iv p.1 : Int)) (by simpa using h.ne)
  obtain ⟨p, hp, ep⟩ := List.mem_map.mp m1
  have pos : ∀ q ∈ iv, 1 ≤ cntI iv q.1 := fun q hq => List.length_pos_of_mem (List.mem_filter.mpr ⟨hq, by simp [h.up q hq]⟩)
  have ub : ∀ q ∈ iv, (cntI iv q.1 : Int) ≤ mostI iv := fun q hq => m2 _ (List.mem_map.mpr ⟨q, hq, rfl⟩)
  refine ⟨⟨p, hp, ep.symm⟩, fun x => ?_, ?_, ?_⟩
  · rcases Nat.eq_zero_or_pos (cntI iv x) with c | c
    · have := ub p hp; omega
    · obtain ⟨q, hq, e⟩ := cnt_low c
      have := ub q hq; omega
  · have := ub p hp; have := pos p hp; omega
  · unfold mostI; rw [← ep]; have := cnt_le (iv := iv) (x := p.1); omega
theorem runs_ne {iv : List (Int × Int)} (h : IvOk iv) {need : Int} (hn : 1 ≤ need) : runsI iv need ≠ [] ↔ need ≤ mostI iv := by
  obtain ⟨⟨p, hp, ep⟩, ub, _, _⟩ := most_is h
  obtain ⟨a1, a2⟩ := minI_is (l := iv.map (·.1)) (by simpa using h.ne)
  obtain ⟨b1, b2⟩ := maxI_is (l := iv.map (·.2)) (by simpa using h.ne)
  have h1 := a2 p.1 (List.mem_map.mpr ⟨p, hp, rfl⟩)
  have h2 := b2 p.2 (List.mem_map.mpr ⟨p, hp, rfl⟩)
  have h3 := h.up p hp
  unfold runsI
  rw [runF_ne]
  constructor
  · rintro (e | ⟨x, _, _, e⟩)
    · exact absurd rfl e
    · have := of_decide_eq_true e
      have := ub x
      omega
  · intro e
    exact .inr ⟨p.1, h1, by omega, decide_eq_true (by omega)⟩
theorem fewest_lies_ok {iv : List (Int × Int)} (h : IvOk iv) : f_fewest_lies [.val (.tuple (iv.map enI))] = .ok (.int (iv.length - mostI iv)) [] := by
  have few := h.few
  have c := comp_enc (bd := bT [1, 2]) (ifs := tnYes) (elt := fewest_lies_e1) (vs := [1, 2]) (enc := enI) (q := fun _ => true) (g := fun p : Int × Int => .int (cntI iv p.1 : Int))
    (st := [.val (.tuple (iv.map enI)), .un, .un]) (ρ1 := fun p => [.val (.tuple (iv.map enI)), .val (.int p.1), .val (.int p.2)]) iv [] (by simp; omega)
    (fun p _ => by unfold enI; simp -implicitDefEqProofs (decide := true) only [evs0, evs1, evs2, evsX, Nat.reduceAdd, Nat.reduceSub, ↓reduceIte, Nat.reduceLeDiff, Int.reduceEq, Int.reduceLT, Int.reduceLE]) (fun p _ => rfl) (fun p _ _ => by
      have e := inside_ok (iv := iv) (x := p.1) (by omega)
      unfold fewest_lies_e1
      simp -implicitDefEqProofs (decide := true) only [evs0, evs1, evs2, evsX, Nat.reduceAdd, Nat.reduceSub, ↓reduceIte, Nat.reduceLeDiff, Int.reduceEq, Int.reduceLT, Int.reduceLE, e]) (fun p _ => by simp -implicitDefEqProofs only [evs0, evs1, evs2, evsX, Nat.reduceAdd, Nat.reduceSub, ↓reduceIte, Nat.reduceLeDiff, Int.reduceEq, Int.reduceLT, Int.reduceLE])
  have f1 : iv.filter (fun _ => true) = iv := List.filter_eq_self.mpr fun _ _ => rfl
  rw [f1, List.nil_append] at c
  have m2 := max_intsS (l := iv.map fun p => (cntI iv p.1 : Int)) (by simpa using h.ne)
  rw [List.map_map] at m2
  have m2 : maxLB [.list (iv.map fun p => PyData.int (cntI iv p.1 : Int))] = some (.int (mostI iv)) := m2
  have hlen : (iv.map enI).length = iv.length := List.length_map _
  unfold f_fewest_lies b_fewest_lies fewest_lies_c1
  simp -implicitDefEqProofs (decide := true) only [evs0, evs1, evs2, evsX, Nat.reduceAdd, Nat.reduceSub, ↓reduceIte, Nat.reduceLeDiff, Int.reduceEq, Int.reduceLT, Int.reduceLE, c, m2, hlen]
theorem any_boolsS {α : Type} {A : List α} {g : α → Bool} : anyB [.list (A.map fun k => .bool (g k))] = some (.bool (A.any g)) := by
  have e : (A.map fun k => PyData.bool (g k)) = (A.map g).map PyData.bool := by rw [List.map_map]; rfl
  rw [e]
  show (boolsOf ((A.map g).map PyData.bool)).map _ = _
  rw [boolsOf_of]
  show some (PyData.bool ((A.map g).any id)) = _
  rw [List.any_map]; rfl
theorem enI_at {iv : List (Int × Int)} {k : Nat} (h : k < iv.length) {z : Int} (e : z = k) : atI (iv.map enI) z = some (.tuple [.int (iv.getD k (0, 0)).1, .int (iv.getD k (0, 0)).2]) := by
  subst e
  rw [atI_nat, List.getElem?_map, List.getElem?_eq_getElem h, List.getD_eq_getElem?_getD, List.getElem?_eq_getElem h]
  rfl
theorem wrongI_succ {iv R : List (Int × Int)} (i : Nat) : ((List.range (i + 1)).filter fun k => !(R.any fun r => hitB r (iv.getD k (0, 0)))) = ((List.range i).filter fun k => !(R.any fun r => hitB r (iv.getD k (0, 0)))) ++ (if (R.any fun r => hitB r (iv.getD i (0, 0))) = true then [] else [i]) := by
  rw [List.range_succ, List.filter_append]
  congr 1
  rw [List.filter_cons, List.filter_nil]
  cases h : R.any fun r => hitB r (iv.getD i (0, 0)) <;> rfl
/-- the first run's beginning and the last one's end -/
def fusedD (R : List (Int × Int)) : D := match R.reverse, R with
  | (a, _) :: _, (_, b) :: _ => .tuple [.int a, .int b]
  | _, _ => .none
def encN0 (l : List Nat) : List D := l.map fun (k : Nat) => PyData.int (k : Int)
end Ft
/-! Spn9: what runs hold. -/
namespace Ft
open PySem L2
def cntR (s : List (Int × Int)) (x : Int) : Nat := (s.filter fun r => decide (r.1 ≤ x) && decide (x ≤ r.2)).length
def lenR (s : List (Int × Int)) : Int := (s.map fun r => r.2 - r.1 + 1).sum
/-- runs from a up to below z -/
structure RunOk (s : List (Int × Int)) (a z : Int) : Prop where
  up : ∀ p ∈ s, p.1 ≤ p.2 ∧ p.2 < z ∧ a ≤ p.1
  apart : s.Pairwise fun p q => q.2 < p.1
theorem cntR_cons {p : Int × Int} {s : List (Int × Int)} {x : Int} : cntR (p :: s) x = (if p.1 ≤ x ∧ x ≤ p.2 then 1 else 0) + cntR s x := by
  unfold cntR
  rw [List.filter_cons]
  by_cases h : p.1 ≤ x ∧ x ≤ p.2
  · rw [if_pos (by simp [h]), if_pos h, List.length_cons]; omega
  · rw [if_neg (by simpa using h), if_neg h]; omega
theorem RunOk.add {s : List (Int × Int)} {a z : Int} (h : RunOk s a z) (ha : a ≤ z) : RunOk (addX s z) a (z + 1) ∧ (∀ x, cntR (addX s z) x = cntR s x + if x = z then 1 else 0) ∧ lenR (addX s z) = lenR s + 1 := by
  have push : RunOk ((z, z) :: s) a (z + 1) ∧ (∀ x, cntR ((z, z) :: s) x = cntR s x + if x = z then 1 else 0) ∧ lenR ((z, z) :: s) = lenR s + 1 := by
    refine ⟨⟨fun p hp => ?_, List.pairwise_cons.mpr ⟨fun q hq => (h.up q hq).2.1, h.apart⟩⟩, fun x => ?_, ?_⟩
    · rcases List.mem_cons.mp hp with e | e
      · rw [e]; dsimp only; omega
      · have := h.up p e; omega
    · rw [cntR_cons]; dsimp only
      by_cases e : x = z
      · rw [if_pos (by omega), if_pos e]; omega
      · rw [if_neg (by omega), if_neg e]; omega
    · unfold lenR; rw [List.map_cons, List.sum_cons]; dsimp only; omega
  cases s with
  | nil => exact push
  | cons p r =>
    obtain ⟨c, d⟩ := p
    rw [addX_cons]
    split
    · rename_i hd
      obtain ⟨h1, h2, h3⟩ := h.up (c, d) List.mem_cons_self
      dsimp only at h1 h2 h3
      obtain ⟨k1, k2⟩ := List.pairwise_cons.mp h.apart
      refine ⟨⟨fun p hp => ?_, List.pairwise_cons.mpr ⟨fun q hq => k1 q hq, k2⟩⟩, fun x => ?_, ?_⟩
      · rcases List.mem_cons.mp hp with e | e
        · rw [e]; dsimp only; omega
        · have := h.up p (List.mem_cons_of_mem _ e); omega
      · rw [cntR_cons, cntR_cons]; dsimp only
        by_cases e : x = z
        · rw [if_pos (by omega), if_neg (by omega), if_pos e]; omega
        · rw [if_neg e]
          by_cases e2 : c ≤ x ∧ x ≤ d
          · rw [if_pos (by omega), if_pos e2]; omega
          · rw [if_neg (by omega), if_neg e2]; omega
      · unfold lenR; rw [List.map_cons, List.sum_cons, List.map_cons, List.sum_cons]; dsimp only; omega
    · exact push
def numF (P : Int → Bool) (a : Int) (n : Nat) : Nat := ((List.range n).filter fun (i : Nat) => P (a + i)).length
theorem runF_snoc {P : Int → Bool} {s : List (Int × Int)} {a : Int} {n : Nat} : runF P s a (n + 1) = if P (a + n) = true then addX (runF P s a n) (a + n) else runF P s a n := by
  rw [runF_add n 1]; rfl
theorem runF_facts {P : Int → Bool} {a : Int} : ∀ n : Nat, RunOk (runF P [] a n) a (a + n) ∧ (∀ x, cntR (runF P [] a n) x = if a ≤ x ∧ x < a + n ∧ P x = true then 1 else 0) ∧ lenR (runF P [] a n) = numF P a n
  | 0 => ⟨⟨(fun p h => by cases h), List.Pairwise.nil⟩, (fun x => by rw [if_neg (by omega)]; rfl), rfl⟩
  | n + 1 => by
    obtain ⟨h1, h2, h3⟩ := runF_facts (P := P) (a := a) n
    have en : numF P a (n + 1) = numF P a n + if P (a + n) = true then 1 else 0 := by
      unfold numF
      rw [List.range_succ, List.filter_append, List.length_append, List.filter_cons, List.filter_nil]
      split <;> rfl
    have e1 : a + ((n + 1 : Nat) : Int) = a + n + 1 := by omega
    rw [runF_snoc, en, e1]
    by_cases hP : P (a + n) = true
    · rw [if_pos hP, if_pos hP]
      obtain ⟨k1, k2, k3⟩ := h1.add (by omega)
      refine ⟨k1, fun x => ?_, by rw [k3, h3]; omega⟩
      rw [k2 x, h2 x]
      by_cases e : x = a + n
      · rw [if_neg (by omega), if_pos e, if_pos ⟨by omega, by omega, by rw [e]; exact hP⟩]
      · rw [if_neg e]
        by_cases c : a ≤ x ∧ x < a + n ∧ P x = true
        · rw [if_pos c, if_pos ⟨c.1, by omega, c.2.2⟩]
        · rw [if_neg c, if_neg (fun z => c ⟨z.1, by omega, z.2.2⟩)]
    · rw [if_neg hP, if_neg hP]
      refine ⟨⟨fun p hp => by have := h1.up p hp; omega, h1.apart⟩, fun x => ?_, by rw [h3]; omega⟩
      rw [h2 x]
      by_cases c : a ≤ x ∧ x < a + n ∧ P x = true
      · rw [if_pos c, if_pos ⟨c.1, by omega, c.2.2⟩]
      · rw [if_neg c, if_neg fun z => c ⟨z.1, by
          rcases Int.lt_or_le x (a + n) with q | q
          · exact q
          · have : x = a + n := by omega
            rw [this] at z; exact absurd z.2.2 hP, z.2.2⟩]
/-- the runs of these intervals -/
theorem runsI_facts {iv : List (Int × Int)} (h : IvOk iv) (need : Int) (hn : 1 ≤ need) : ∃ a z, RunOk (runsI iv need) a z ∧ (∀ x, cntR (runsI iv need) x = if (cntI iv x : Int) ≥ need then 1 else 0) ∧
    ∃ n, lenR (runsI iv need) = numF (fun x => decide ((cntI iv x : Int) ≥ need)) (minI (iv.map (·.1))) n ∧ n = (maxI (iv.map (·.2)) + 1 - minI (iv.map (·.1))).toNat := by
  obtain ⟨h1, h2, h3⟩ := runF_facts (P := fun x => decide ((cntI iv x : Int) ≥ need)) (a := minI (iv.map (·.1))) (maxI (iv.map (·.2)) + 1 - minI (iv.map (·.1))).toNat
  obtain ⟨a1, a2⟩ := minI_is (l := iv.map (·.1)) (by simpa using h.ne)
  obtain ⟨b1, b2⟩ := maxI_is (l := iv.map (·.2)) (by simpa using h.ne)
  refine ⟨_, _, h1, fun x => ?_, _, h3, rfl⟩
  show cntR (runF _ _ _ _) x = _
  rw [h2 x]
  by_cases c : (cntI iv x : Int) ≥ need
  · rw [if_pos c]
    have hne : (iv.filter fun p => decide (p.1 ≤ x) && decide (x ≤ p.2)) ≠ [] := fun e => by unfold cntI at c; rw [e] at c; simp at c; omega
    obtain ⟨p, hp⟩ := List.exists_mem_of_ne_nil _ hne
    obtain ⟨hp1, hp2⟩ := List.mem_filter.mp hp
    simp only [Bool.and_eq_true, decide_eq_true_eq] at hp2
    have g1 := a2 p.1 (List.mem_map.mpr ⟨p, hp1, rfl⟩)
    have g2 := b2 p.2 (List.mem_map.mpr ⟨p, hp1, rfl⟩)
    rw [if_pos ⟨by omega, by omega, decide_eq_true c⟩]
  · rw [if_neg c, if_neg fun z => c (of_decide_eq_true z.2.2)]
theorem numF_mono {P Q : Int → Bool} {a : Int} {n : Nat} (h : ∀ x, P x = true → Q x = true) : numF P a n ≤ numF Q a n := filt_mono _ fun i _ hi => h _ hi
/-- who is in a run stands between the first one's beginning and the last one's end -/
theorem fused_in {R : List (Int × Int)} {a z x : Int} (h : RunOk R a z) (hx : 1 ≤ cntR R x) : ∃ b c, fusedD R = .tuple [.int b, .int c] ∧ b ≤ x ∧ x ≤ c := by
  have hne : (R.filter fun r => decide (r.1 ≤ x) && decide (x ≤ r.2)) ≠ [] := fun e => by unfold cntR at hx; rw [e] at hx; simp at hx
  obtain ⟨p, hp⟩ := List.exists_mem_of_ne_nil _ hne
  obtain ⟨hp1, hp2⟩ := List.mem_filter.mp hp
  simp only [Bool.and_eq_true, decide_eq_true_eq] at hp2
  cases R with
  | nil => cases hp1
  | cons q r =>
    obtain ⟨c, d⟩ := q
    obtain ⟨aa, bb, t, et⟩ : ∃ a b t, ((c, d) :: r).reverse = (a, b) :: t := by
      cases e : ((c, d) :: r).reverse with
      | nil => simp at e
      | cons p t => exact ⟨p.1, p.2, t, rfl⟩
    refine ⟨aa, d, by unfold fusedD; rw [et], ?_, ?_⟩
    · have hpr : ((aa, bb) :: t).Pairwise fun p q => p.2 < q.1 := by
        rw [← et, List.pairwise_reverse]; exact h.apart
      have hpm : p ∈ (aa, bb) :: t := by rw [← et]; exact List.mem_reverse.mpr hp1
      rcases List.mem_cons.mp hpm with e | e
      · rw [e] at hp2; exact hp2.1
      · have k1 := (List.pairwise_cons.mp hpr).1 p e
        have k2 := h.up (aa, bb) (List.mem_reverse.mp (by rw [et]; exact List.mem_cons_self))
        dsimp only at k1 k2; omega
    · rcases List.mem_cons.mp hp1 with e | e
      · rw [e] at hp2; exact hp2.2
      · have k1 := (List.pairwise_cons.mp h.apart).1 p e
        have k2 := h.up (c, d) List.mem_cons_self
        dsimp only at k1 k2; omega
end Ft
/-! K58: fused hours of clocks. -/
namespace Ft
open PySem L2
def spOf (r d : Int) : Int × Int := (-((-100) * r / (100 + d)), 100 * r / (100 - d))
theorem spOf_up {r d : Int} (h0 : 0 ≤ d) (h1 : d ≤ 50) (hr : 0 ≤ r) (hr2 : r ≤ 10000) : (spOf r d).1 ≤ (spOf r d).2 ∧ -100000 ≤ (spOf r d).1 ∧ (spOf r d).2 ≤ 100000 := by
  unfold spOf
  dsimp only
  have k1 : (100 + d) * ((-100) * r / (100 + d)) ≤ (-100) * r := by rw [Int.mul_comm]; exact Int.ediv_mul_le _ (by omega)
  have k1' : (-100) * r < ((-100) * r / (100 + d) + 1) * (100 + d) := Int.lt_ediv_add_one_mul_self _ (by omega)
  have k2' : 100 * r / (100 - d) * (100 - d) ≤ 100 * r := Int.ediv_mul_le _ (by omega)
  have k2 : 100 * r < (100 * r / (100 - d) + 1) * (100 - d) := Int.lt_ediv_add_one_mul_self _ (by omega)
  have a1 : -r ≤ (-100) * r / (100 + d) := by
    rw [Int.le_ediv_iff_mul_le (by omega)]
    have : 0 ≤ r * d := Int.mul_nonneg hr h0
    rw [Int.mul_add, Int.neg_mul, Int.neg_mul]; omega
  have a2 : r ≤ 100 * r / (100 - d) := by
    rw [Int.le_ediv_iff_mul_le (by omega)]
    have : 0 ≤ r * d := Int.mul_nonneg hr h0
    rw [Int.mul_sub]; omega
  have a3 : (-100) * r / (100 + d) ≤ 0 := by
    rcases Int.lt_or_le 0 ((-100) * r / (100 + d)) with c | c
    · exfalso
      have : 1 * (100 + d) ≤ ((-100) * r / (100 + d)) * (100 + d) := Int.mul_le_mul_of_nonneg_right (by omega) (by omega)
      rw [Int.mul_comm] at k1
      omega
    · exact c
  have a4 : 100 * r / (100 - d) ≤ 2 * r := by
    rcases Int.lt_or_le (2 * r) (100 * r / (100 - d)) with c | c
    · exfalso
      have : (2 * r + 1) * (100 - d) ≤ (100 * r / (100 - d)) * (100 - d) := Int.mul_le_mul_of_nonneg_right (by omega) (by omega)
      have h2 : (2 * r + 1) * 50 ≤ (2 * r + 1) * (100 - d) := Int.mul_le_mul_of_nonneg_left (by omega) (by omega)
      omega
    · exact c
  omega
theorem zip_snoc {f : Int → Int → Int × Int} {r : Int} : ∀ (rs ds : List Int), rs.length < ds.length → List.zipWith f (rs ++ [r]) ds = List.zipWith f rs ds ++ [f r (ds.getD rs.length 0)]
  | [], [], h => by simp at h
  | [], d :: ds, _ => rfl
  | x :: rs, [], h => by simp at h
  | x :: rs, d :: ds, h => by
    have := zip_snoc (f := f) (r := r) rs ds (by simpa using h)
    simp only [List.cons_append, List.zipWith_cons_cons, this, List.length_cons]
    rfl
theorem zip_range {f : Int → Int → Int × Int} : ∀ (rs ds : List Int), rs.length = ds.length → List.zipWith f rs ds = (List.range rs.length).map fun k => f (rs.getD k 0) (ds.getD k 0)
  | [], [], _ => rfl
  | [], d :: ds, h => by simp at h
  | x :: rs, [], h => by simp at h
  | x :: rs, d :: ds, h => by
    have := zip_range (f := f) rs ds (by simpa using h)
    rw [List.zipWith_cons_cons, this, List.length_cons, List.range_succ_eq_map, List.map_cons, List.map_map]
    rfl
theorem int_at {l : List Int} {k : Nat} (h : k < l.length) {z : Int} (e : z = k) : atI (l.map PyData.int) z = some (.int (l.getD k 0)) := by
  subst e
  rw [atI_nat, List.getElem?_map, List.getElem?_eq_getElem h, List.getD_eq_getElem?_getD, List.getElem?_eq_getElem h]
  rfl
/-- good clocks -/
structure Ck (rs ds : List Int) : Prop where
  r : ∀ k, k < rs.length → 0 ≤ rs.getD k 0 ∧ rs.getD k 0 ≤ 10000
  d : ∀ k, k < ds.length → 0 ≤ ds.getD k 0 ∧ ds.getD k 0 ≤ 50
theorem Ck.iv {rs ds : List Int} (h : Ck rs ds) (he : rs.length = ds.length) (h0 : 1 ≤ rs.length) (h1 : rs.length ≤ 8) : IvOk (List.zipWith spOf rs ds) := by
  have hl : (List.zipWith spOf rs ds).length = rs.length := by rw [List.length_zipWith, he, Nat.min_self]
  have hm : ∀ p ∈ List.zipWith spOf rs ds, p.1 ≤ p.2 ∧ -100000 ≤ p.1 ∧ p.2 ≤ 100000 := fun p hp => by
    rw [zip_range rs ds he] at hp
    obtain ⟨k, hk, rfl⟩ := List.mem_map.mp hp
    have hk := List.mem_range.mp hk
    have a := h.r k hk
    have b := h.d k (by omega)
    exact spOf_up b.1 b.2 a.1 a.2
  exact ⟨fun e => by rw [e] at hl; simp at hl; omega, by omega, fun p hp => (hm p hp).1, fun p hp => (hm p hp).2⟩
theorem fused_hours_at {rs ds : List Int} {lies : Int} (h : Ck rs ds) (he : rs.length = ds.length) (h1 : rs.length ≤ 8) {r : RC} (hr : f_possible_v2 [.val (.tuple ((List.zipWith spOf rs ds).map enI)), .val (.int lies)] = r) (hr2 : (∃ d, r = .ok d []) ∨ ∃ x, r = .ex x []) :
    f_fused_hours_v2 [.val (.tuple (rs.map PyData.int)), .val (.tuple (ds.map PyData.int)), .val (.int lies)] = r := by
  have ez : List.zipWith zipP (rs.map PyData.int) (ds.map PyData.int) = (rs.zip ds).map enI := by
    rw [List.zip, List.map_zipWith, List.zipWith_map]; rfl
  have hz : ∀ p ∈ rs.zip ds, 0 ≤ p.1 ∧ 0 ≤ p.2 ∧ p.2 ≤ 50 := fun p hp => by
    obtain ⟨k, hk, e⟩ := List.getElem_of_mem hp
    rw [List.length_zip] at hk
    rw [List.getElem_zip] at e
    have a := h.r k (by omega)
    have b := h.d k (by omega)
    rw [List.getD_eq_getElem?_getD, List.getElem?_eq_getElem (by omega)] at a b
    rw [← e]; exact ⟨a.1, b.1, b.2⟩
  have c := comp_enc (bd := bT [3, 4]) (ifs := tnYes) (elt := fused_hours_v2_e1) (vs := [3, 4]) (enc := enI) (q := fun _ => true) (g := fun p : Int × Int => enI (spOf p.1 p.2))
    (st := [.val (.tuple (rs.map PyData.int)), .val (.tuple (ds.map PyData.int)), .val (.int lies), .un, .un]) (ρ1 := fun p => [.val (.tuple (rs.map PyData.int)), .val (.tuple (ds.map PyData.int)), .val (.int lies), .val (.int p.1), .val (.int p.2)]) (rs.zip ds) [] (by simp; omega)
    (fun p _ => by
      have en : enI p = .tuple [.int p.1, .int p.2] := rfl
      simp -implicitDefEqProofs (decide := true) only [evs0, evs1, evs2, evsX, Nat.reduceAdd, Nat.reduceSub, ↓reduceIte, Nat.reduceLeDiff, Int.reduceEq, Int.reduceLT, Int.reduceLE, en]) (fun p _ => rfl) (fun p hp _ => by
      obtain ⟨b0, b1, b2⟩ := hz p hp
      have e := k57_for (r := p.1) (d := p.2) b1 b2
      unfold fused_hours_v2_e1
      simp -implicitDefEqProofs (decide := true) only [evs0, evs1, evs2, evsX, Nat.reduceAdd, Nat.reduceSub, ↓reduceIte, Nat.reduceLeDiff, Int.reduceEq, Int.reduceLT, Int.reduceLE, e]
      rfl) (fun p _ => by simp -implicitDefEqProofs only [evs0, evs1, evs2, evsX, Nat.reduceAdd, Nat.reduceSub, ↓reduceIte, Nat.reduceLeDiff, Int.reduceEq, Int.reduceLT, Int.reduceLE])
  have f1 : (rs.zip ds).filter (fun _ => true) = rs.zip ds := List.filter_eq_self.mpr fun _ _ => rfl
  have em : (rs.zip ds).map (fun p => enI (spOf p.1 p.2)) = (List.zipWith spOf rs ds).map enI := by
    rw [List.zip, List.map_zipWith, List.map_zipWith]
  rw [f1, List.nil_append, em] at c
  unfold f_fused_hours_v2 b_fused_hours_v2 fused_hours_v2_c1
  rcases hr2 with ⟨d, e⟩ | ⟨x, e⟩
  · rw [e] at hr ⊢
    simp -implicitDefEqProofs (decide := true) only [evs0, evs1, evs2, evsX, Nat.reduceAdd, Nat.reduceSub, ↓reduceIte, Nat.reduceLeDiff, Int.reduceEq, Int.reduceLT, Int.reduceLE, ez, c, hr]
  · rw [e] at hr ⊢
    simp -implicitDefEqProofs (decide := true) only [evs0, evs1, evs2, evsX, Nat.reduceAdd, Nat.reduceSub, ↓reduceIte, Nat.reduceLeDiff, Int.reduceEq, Int.reduceLT, Int.reduceLE, ez, c, hr]
theorem told58 {rs ds : List Int} {lies : Int} (h : Ck rs ds) (he : rs.length = ds.length) (h0 : 1 ≤ rs.length) (h1 : rs.length ≤ 8) : ∃ d, f_law_told_v30 [.val (.tuple (rs.map PyData.int)), .val (.tuple (ds.map PyData.int)), .val (.int lies)] = .ok d [] ∧ f_law_possible [.val (.tuple ((List.zipWith spOf rs ds).map enI)), .val (.int lies)] = .ok d [] ∧ okD 12 d = true ∧
    (lies < rs.length → d = .tuple (encS (runsI (List.zipWith spOf rs ds) (rs.length - lies)))) := by
  have hi := h.iv he h0 h1
  have hl : (List.zipWith spOf rs ds).length = rs.length := by rw [List.length_zipWith, he, Nat.min_self]
  rcases Int.lt_or_le lies ((List.zipWith spOf rs ds).length : Int) with c | c
  · have e1 := possible_v2_ok (lies := lies) hi c
    have e2 := fused_hours_at h he h1 e1 (.inl ⟨_, rfl⟩)
    refine ⟨_, ?_, law_possible_ok hi c, okD_runs hi 9, fun _ => by rw [hl]⟩
    unfold f_law_told_v30 b_law_told_v30
    simp -implicitDefEqProofs (decide := true) only [evs0, evs1, evs2, evsX, Nat.reduceAdd, Nat.reduceSub, ↓reduceIte, Nat.reduceLeDiff, Int.reduceEq, Int.reduceLT, Int.reduceLE, e2]
  · have e1 := possible_v2_no (iv := List.zipWith spOf rs ds) (lies := lies) c
    have e2 := fused_hours_at h he h1 e1 (.inr ⟨_, rfl⟩)
    refine ⟨_, ?_, law_possible_no c, rfl, fun z => by rw [hl] at c; omega⟩
    unfold f_law_told_v30 b_law_told_v30
    simp -implicitDefEqProofs (decide := true) only [evs0, evs1, evs2, evsX, Nat.reduceAdd, Nat.reduceSub, ↓reduceIte, Nat.reduceLeDiff, Int.reduceEq, Int.reduceLT, Int.reduceLE, e2]
    rfl
/-! ### drawn -/
def outW (h : Int) (p : Int × Int) : Int := if h < p.1 ∨ h > p.2 then 1 else 0
theorem cnt_snoc58 {iv : List (Int × Int)} {p : Int × Int} {x : Int} : (cntI (iv ++ [p]) x : Int) = cntI iv x + (1 - outW x p) := by
  unfold cntI outW
  rw [List.filter_append, List.length_append, List.filter_cons, List.filter_nil]
  by_cases h : p.1 ≤ x ∧ x ≤ p.2
  · rw [if_pos (by simp [h]), if_neg (by omega)]; simp
  · rw [if_neg (by simpa using h), if_pos (by omega)]; simp
theorem k58_draw {x0 x2 : LV} {l : List D} {hr n : Int} {rs ds : List Int} {wr : Int} {y9 y10 y11 y12 y13 y14 y15 : LV} (hp : Pool l) (hh : 0 ≤ hr ∧ hr ≤ 80) (hR : ∀ k, k < rs.length → 0 ≤ rs.getD k 0 ∧ rs.getD k 0 ≤ 10000) (hD : ∀ k, k < ds.length → 0 ≤ ds.getD k 0 ∧ ds.getD k 0 ≤ 50) (hl : rs.length < ds.length) (hz : ds.length ≤ 100)
    (h9 : nioK (some y9) = true) (h10 : nioK (some y10) = true) (h11 : nioK (some y11) = true) :
    ∃ l' r b9 b10 b11, law_k58_b1 [x0, .own (.lst l) true, x2, .val (.int hr), .val (.int n), .val (.tuple (ds.map PyData.int)), .val (.int (0 + (rs.length : Int))), .own (.lst (rs.map PyData.int)) true, .val (.int wr), y9, y10, y11, y12, y13, y14, y15, .un] =
      .next [x0, .own (.lst l') true, x2, .val (.int hr), .val (.int n), .val (.tuple (ds.map PyData.int)), .val (.int (0 + (rs.length : Int))), .own (.lst ((rs ++ [r]).map PyData.int)) true, .val (.int (wr + outW hr (spOf r (ds.getD rs.length 0)))), b9, b10, b11, y12, y13, y14, y15, .un] ∧ Pool l' ∧ 0 ≤ r ∧ r ≤ 10000 ∧ nioK (some b9) = true ∧ nioK (some b10) = true ∧ nioK (some b11) = true := by
  obtain ⟨d0, d1⟩ := hD rs.length hl
  have hx := int_at (z := 0 + (rs.length : Int)) hl (by omega)
  generalize ds.getD rs.length 0 = dd at d0 d1 hx
  have s1 : Small (100 - dd) := ⟨by omega, by omega⟩
  have s2 : Small dd := ⟨by omega, by omega⟩
  have m1 : 0 ≤ hr * (100 - dd) := Int.mul_nonneg hh.1 (by omega)
  have m2 : hr * (100 - dd) ≤ 80 * 100 := Int.mul_le_mul hh.2 (by omega) (by omega) (by omega)
  have m3 : 0 ≤ hr * dd := Int.mul_nonneg hh.1 d0
  have m4 : hr * dd ≤ 80 * 50 := Int.mul_le_mul hh.2 d1 d0 (by omega)
  obtain ⟨r1, l1, e1, p1, q1, hp⟩ := draw_ok hp (m := 2 + hr * dd / 50) (by omega) (by omega)
  have r0 : 0 ≤ hr * (100 - dd) / 100 + r1 := by omega
  have r9 : hr * (100 - dd) / 100 + r1 ≤ 10000 := by omega
  have e2 := k57_hours (r := hr * (100 - dd) / 100 + r1) (d := dd) d0 d1 r0 r9
  have hsz : (rs.map PyData.int).length < 16000000 := by rw [List.length_map]; omega
  refine ⟨l1, hr * (100 - dd) / 100 + r1, .val (.int (hr * (100 - dd) / 100)), .val (.int (hr * (100 - dd) / 100 + r1)), .val (enI (spOf (hr * (100 - dd) / 100 + r1) dd)), ?_, hp, r0, r9, rfl, rfl, rfl⟩
  have en : (rs.map PyData.int) ++ [PyData.int (hr * (100 - dd) / 100 + r1)] = (rs ++ [hr * (100 - dd) / 100 + r1]).map PyData.int := by rw [List.map_append]; rfl
  have es : enI (spOf (hr * (100 - dd) / 100 + r1) dd) = .tuple [.int (-((-100) * (hr * (100 - dd) / 100 + r1) / (100 + dd))), .int (100 * (hr * (100 - dd) / 100 + r1) / (100 - dd))] := rfl
  have ew : outW hr (spOf (hr * (100 - dd) / 100 + r1) dd) = if hr < -((-100) * (hr * (100 - dd) / 100 + r1) / (100 + dd)) ∨ hr > 100 * (hr * (100 - dd) / 100 + r1) / (100 - dd) then 1 else 0 := rfl
  rw [← en, es, ew]
  generalize -((-100) * (hr * (100 - dd) / 100 + r1) / (100 + dd)) = A at e2
  generalize 100 * (hr * (100 - dd) / 100 + r1) / (100 - dd) = B at e2
  have ib : ∀ b : Bool, intB [.bool b] = some (.int (if b = true then 1 else 0)) := fun b => rfl
  unfold law_k58_b1
  by_cases c1 : hr < A
  · rw [if_pos (.inl c1)]
    simp -implicitDefEqProofs (decide := true) only [evs0, evs1, evs2, evsX, Nat.reduceAdd, Nat.reduceSub, ↓reduceIte, Nat.reduceLeDiff, Int.reduceEq, Int.reduceLT, Int.reduceLE, hx, ev_mul2 s1, ev_mul2 s2, e1, h9, h10, h11, e2, ev_appK2 hsz, c1, ib]
  · by_cases c2 : hr > B
    · rw [if_pos (.inr c2)]
      simp -implicitDefEqProofs (decide := true) only [evs0, evs1, evs2, evsX, Nat.reduceAdd, Nat.reduceSub, ↓reduceIte, Nat.reduceLeDiff, Int.reduceEq, Int.reduceLT, Int.reduceLE, hx, ev_mul2 s1, ev_mul2 s2, e1, h9, h10, h11, e2, ev_appK2 hsz, c1, c2, ib]
    · rw [if_neg (by omega)]
      simp -implicitDefEqProofs (decide := true) only [evs0, evs1, evs2, evsX, Nat.reduceAdd, Nat.reduceSub, ↓reduceIte, Nat.reduceLeDiff, Int.reduceEq, Int.reduceLT, Int.reduceLE, hx, ev_mul2 s1, ev_mul2 s2, e1, h9, h10, h11, e2, ev_appK2 hsz, c1, c2, ib]
theorem k58_draws {x0 x2 : LV} {l : List D} {hr n : Int} {ds : List Int} {a6 y9 y10 y11 y12 y13 y14 y15 : LV} (hp : Pool l) (hh : 0 ≤ hr ∧ hr ≤ 80) (hD : ∀ k, k < ds.length → 0 ≤ ds.getD k 0 ∧ ds.getD k 0 ≤ 50) (hn : n = ds.length) (hz : ds.length ≤ 100)
    (h6 : nioK (some a6) = true) (h9 : nioK (some y9) = true) (h10 : nioK (some y10) = true) (h11 : nioK (some y11) = true) :
    ∃ l' rs wr b6 b9 b10 b11, forV (bN 6) law_k58_b1 (rangeL 0 n) [x0, .own (.lst l) true, x2, .val (.int hr), .val (.int n), .val (.tuple (ds.map PyData.int)), a6, .own (.lst []) true, .val (.int 0), y9, y10, y11, y12, y13, y14, y15, .un] =
      .next [x0, .own (.lst l') true, x2, .val (.int hr), .val (.int n), .val (.tuple (ds.map PyData.int)), b6, .own (.lst (rs.map PyData.int)) true, .val (.int wr), b9, b10, b11, y12, y13, y14, y15, .un] ∧ Pool l' ∧ rs.length = ds.length ∧ Ck rs ds ∧ (cntI (List.zipWith spOf rs ds) hr : Int) + wr = rs.length ∧
      nioK (some b6) = true ∧ nioK (some b9) = true ∧ nioK (some b10) = true ∧ nioK (some b11) = true := by
  refine for_rule (P := fun r => ∃ l' rs wr b6 b9 b10 b11, r = .next [x0, .own (.lst l') true, x2, .val (.int hr), .val (.int n), .val (.tuple (ds.map PyData.int)), b6, .own (.lst (rs.map PyData.int)) true, .val (.int wr), b9, b10, b11, y12, y13, y14, y15, .un] ∧ Pool l' ∧ rs.length = ds.length ∧ Ck rs ds ∧ (cntI (List.zipWith spOf rs ds) hr : Int) + wr = rs.length ∧ nioK (some b6) = true ∧ nioK (some b9) = true ∧ nioK (some b10) = true ∧ nioK (some b11) = true) (rangeL 0 n)
    (fun i ρ => ∃ l' rs wr b6 b9 b10 b11, ρ = [x0, .own (.lst l') true, x2, .val (.int hr), .val (.int n), .val (.tuple (ds.map PyData.int)), b6, .own (.lst (rs.map PyData.int)) true, .val (.int wr), b9, b10, b11, y12, y13, y14, y15, .un] ∧ Pool l' ∧ rs.length = i ∧ (∀ k, k < rs.length → 0 ≤ rs.getD k 0 ∧ rs.getD k 0 ≤ 10000) ∧ (cntI (List.zipWith spOf rs ds) hr : Int) + wr = rs.length ∧ nioK (some b6) = true ∧ nioK (some b9) = true ∧ nioK (some b10) = true ∧ nioK (some b11) = true) _
    ⟨l, [], 0, a6, y9, y10, y11, rfl, hp, rfl, (fun k h => by cases h), rfl, h6, h9, h10, h11⟩ ?_ ?_
  · rintro i d ρ hi ⟨l', rs, wr, b6, b9, b10, b11, rfl, hp, rfl, hR, hc, h6, h9, h10, h11⟩
    obtain ⟨rfl, hi2⟩ := rangeL_at hi
    have hlt : rs.length < ds.length := by omega
    obtain ⟨l2, r, c9, c10, c11, e, hp, r0, r1, k9, k10, k11⟩ := k58_draw (x0 := x0) (x2 := x2) (n := n) (wr := wr) (y12 := y12) (y13 := y13) (y14 := y14) (y15 := y15) hp hh hR hD hlt hz h9 h10 h11
    refine ⟨[x0, .own (.lst l') true, x2, .val (.int hr), .val (.int n), .val (.tuple (ds.map PyData.int)), .val (.int (0 + rs.length)), .own (.lst (rs.map PyData.int)) true, .val (.int wr), b9, b10, b11, y12, y13, y14, y15, .un], by simp -implicitDefEqProofs only [evs0, evs1, evs2, evsX, Nat.reduceAdd, Nat.reduceSub, ↓reduceIte, Nat.reduceLeDiff, Int.reduceEq, Int.reduceLT, Int.reduceLE, h6], ?_⟩
    rw [e]
    refine ⟨l2, rs ++ [r], _, .val (.int (0 + rs.length)), c9, c10, c11, rfl, hp, by simp, fun k hk => ?_, ?_, rfl, k9, k10, k11⟩
    · rw [List.length_append, List.length_singleton] at hk
      rcases Nat.lt_or_ge k rs.length with c | c
      · have e : (rs ++ [r]).getD k 0 = rs.getD k 0 := by rw [List.getD_eq_getElem?_getD, List.getD_eq_getElem?_getD, List.getElem?_append_left c]
        rw [e]; exact hR k c
      · have ek : k = rs.length := by omega
        subst ek
        have e : (rs ++ [r]).getD rs.length 0 = r := by rw [List.getD_eq_getElem?_getD, List.getElem?_append_right (Nat.le_refl _), Nat.sub_self]; rfl
        rw [e]; exact ⟨r0, r1⟩
    · rw [zip_snoc rs ds hlt, cnt_snoc58, List.length_append, List.length_singleton]; omega
  · rintro ρ ⟨l', rs, wr, b6, b9, b10, b11, rfl, hp, hl, hR, hc, h6, h9, h10, h11⟩
    rw [rangeL_len, hn, show ((ds.length : Int) - 0).toNat = ds.length by omega] at hl
    exact ⟨l', rs, wr, b6, b9, b10, b11, rfl, hp, hl, ⟨hR, hD⟩, hc, h6, h9, h10, h11⟩
theorem drifts58 {x0 x2 x3 x4 x5 a7 a8 a9 a10 a11 a12 a13 a14 a15 : LV} {l : List D} {m : Int} (hp : Pool l) (hm : 1 ≤ m ∧ m ≤ 6) : ∃ (ds : List Int) (l' : List D), compL (bN 6) tnYes law_k58_e1 [6] (rangeL 0 m) [] [x0, .own (.lst l) true, x2, x3, x4, x5, .un, a7, a8, a9, a10, a11, a12, a13, a14, a15, .un] = .ok (ds.map PyData.int) [x0, .own (.lst l') true, x2, x3, x4, x5, .un, a7, a8, a9, a10, a11, a12, a13, a14, a15, .un] ∧ Pool l' ∧ ds.length = m.toNat ∧ ∀ k, k < ds.length → 0 ≤ ds.getD k 0 ∧ ds.getD k 0 ≤ 50 := by
  obtain ⟨r, ρ', e, ds, l', rfl, rfl, h1, h2, h3⟩ := comp_rule (bd := bN 6) (ifs := tnYes) (elt := law_k58_e1) (vs := [6]) (rangeL 0 m) (fun i acc ρ => ∃ (ds : List Int) (l' : List D), ρ = [x0, .own (.lst l') true, x2, x3, x4, x5, .un, a7, a8, a9, a10, a11, a12, a13, a14, a15, .un] ∧ acc = ds.map PyData.int ∧ Pool l' ∧ ds.length = i ∧ ∀ k, k < ds.length → 0 ≤ ds.getD k 0 ∧ ds.getD k 0 ≤ 50) [] [x0, .own (.lst l) true, x2, x3, x4, x5, .un, a7, a8, a9, a10, a11, a12, a13, a14, a15, .un] (by rw [rangeL_len]; simp; omega) ⟨[], l, rfl, rfl, hp, rfl, fun k h => by cases h⟩ (by
    rintro i d acc ρ hi ⟨ds, l', rfl, rfl, hp, rfl, hd⟩
    obtain ⟨rfl, hi2⟩ := rangeL_at hi
    obtain ⟨r1, l1, e1, p1, q1, hp⟩ := draw_ok hp (m := 51) (by omega) (by omega)
    obtain ⟨r2, l2, e2, p2, q2, hp⟩ := draw_ok hp (m := 4) (by omega) (by omega)
    obtain ⟨y, hy, d0, d1⟩ : ∃ y : Int, atI [PyData.int 0, .int 5, .int 20, .int r1] r2 = some (.int y) ∧ 0 ≤ y ∧ y ≤ 50 := by
      obtain ⟨x, hx, e⟩ := atI_mem (l := [PyData.int 0, .int 5, .int 20, .int r1]) p2 q2
      simp only [List.mem_cons, List.not_mem_nil, or_false] at hx
      rcases hx with rfl | rfl | rfl | rfl
      all_goals exact ⟨_, e, by omega, by omega⟩
    refine ⟨[x0, .own (.lst l') true, x2, x3, x4, x5, .val (.int (0 + ds.length)), a7, a8, a9, a10, a11, a12, a13, a14, a15, .un], true, [x0, .own (.lst l') true, x2, x3, x4, x5, .val (.int (0 + ds.length)), a7, a8, a9, a10, a11, a12, a13, a14, a15, .un], by simp -implicitDefEqProofs only [evs0, evs1, evs2, evsX, Nat.reduceAdd, Nat.reduceSub, ↓reduceIte, Nat.reduceLeDiff, Int.reduceEq, Int.reduceLT, Int.reduceLE], rfl, (fun z => by cases z), fun _ => ⟨.int y, [x0, .own (.lst l2) true, x2, x3, x4, x5, .val (.int (0 + ds.length)), a7, a8, a9, a10, a11, a12, a13, a14, a15, .un], ?_, ds ++ [y], l2, by simp -implicitDefEqProofs only [evs0, evs1, evs2, evsX, Nat.reduceAdd, Nat.reduceSub, ↓reduceIte, Nat.reduceLeDiff, Int.reduceEq, Int.reduceLT, Int.reduceLE], by rw [List.map_append]; rfl, hp, by simp, fun k hk => ?_⟩⟩
    · unfold law_k58_e1
      simp -implicitDefEqProofs (decide := true) only [evs0, evs1, evs2, evsX, Nat.reduceAdd, Nat.reduceSub, ↓reduceIte, Nat.reduceLeDiff, Int.reduceEq, Int.reduceLT, Int.reduceLE, e1, e2, hy]
    · rw [List.length_append, List.length_singleton] at hk
      rcases Nat.lt_or_ge k ds.length with c | c
      · have e : (ds ++ [y]).getD k 0 = ds.getD k 0 := by rw [List.getD_eq_getElem?_getD, List.getD_eq_getElem?_getD, List.getElem?_append_left c]
        rw [e]; exact hd k c
      · have ek : k = ds.length := by omega
        subst ek
        have e : (ds ++ [y]).getD ds.length 0 = y := by rw [List.getD_eq_getElem?_getD, List.getElem?_append_right (Nat.le_refl _), Nat.sub_self]; rfl
        rw [e]; exact ⟨d0, d1⟩)
  exact ⟨ds, l', e, h1, by rw [h2, rangeL_len]; congr 1; omega, h3⟩
theorem spans58 {x0 x1 x2 x3 x4 a8 a9 a10 a11 a12 a13 a14 a15 : LV} {rs ds : List Int} {m : Int} (h : Ck rs ds) (he : rs.length = ds.length) (hm : m = rs.length) (hz : rs.length ≤ 100) :
    compL (bN 6) tnYes law_k58_e2 [6] (rangeL 0 m) [] [x0, x1, x2, x3, x4, .val (.tuple (ds.map PyData.int)), .un, .own (.lst (rs.map PyData.int)) true, a8, a9, a10, a11, a12, a13, a14, a15, .un] =
      .ok ((List.zipWith spOf rs ds).map enI) [x0, x1, x2, x3, x4, .val (.tuple (ds.map PyData.int)), .un, .own (.lst (rs.map PyData.int)) true, a8, a9, a10, a11, a12, a13, a14, a15, .un] := by
  have c := comp_enc (bd := bN 6) (ifs := tnYes) (elt := law_k58_e2) (vs := [6]) (enc := fun k : Nat => PyData.int (k : Int)) (q := fun _ => true) (g := fun k : Nat => enI (spOf (rs.getD k 0) (ds.getD k 0)))
    (st := [x0, x1, x2, x3, x4, .val (.tuple (ds.map PyData.int)), .un, .own (.lst (rs.map PyData.int)) true, a8, a9, a10, a11, a12, a13, a14, a15, .un])
    (ρ1 := fun k => [x0, x1, x2, x3, x4, .val (.tuple (ds.map PyData.int)), .val (.int (k : Int)), .own (.lst (rs.map PyData.int)) true, a8, a9, a10, a11, a12, a13, a14, a15, .un]) (List.range rs.length) [] (by simp; omega)
    (fun k _ => by simp -implicitDefEqProofs only [evs0, evs1, evs2, evsX, Nat.reduceAdd, Nat.reduceSub, ↓reduceIte, Nat.reduceLeDiff, Int.reduceEq, Int.reduceLT, Int.reduceLE]) (fun k _ => rfl) (fun k hk _ => by
      have hk := List.mem_range.mp hk
      have e1 := int_at (l := rs) (z := (k : Int)) hk rfl
      have e2 := int_at (l := ds) (z := (k : Int)) (by omega) rfl
      have a := h.r k hk
      have b := h.d k (by omega)
      have e3 := k57_hours b.1 b.2 a.1 a.2
      unfold law_k58_e2
      simp -implicitDefEqProofs (decide := true) only [evs0, evs1, evs2, evsX, Nat.reduceAdd, Nat.reduceSub, ↓reduceIte, Nat.reduceLeDiff, Int.reduceEq, Int.reduceLT, Int.reduceLE, e1, e2, e3]
      rfl) (fun k _ => by simp -implicitDefEqProofs only [evs0, evs1, evs2, evsX, Nat.reduceAdd, Nat.reduceSub, ↓reduceIte, Nat.reduceLeDiff, Int.reduceEq, Int.reduceLT, Int.reduceLE])
  have er : rangeL 0 m = (List.range rs.length).map fun k : Nat => PyData.int (k : Int) := by
    unfold rangeL
    have : (m - 0).toNat = rs.length := by omega
    rw [this]
    exact List.map_congr_left fun k _ => by rw [Int.zero_add]
  have f1 : (List.range rs.length).filter (fun _ => true) = List.range rs.length := List.filter_eq_self.mpr fun _ _ => rfl
  rw [er, c, f1, zip_range rs ds he, List.map_map, List.nil_append]
  rfl
theorem k58_lie {x0 x1 x2 x6 x9 x10 x11 : LV} {hr i wr : Int} {rs ds : List Int} {a14 a15 : LV} (h : Ck rs ds) (he : rs.length = ds.length) (h0 : 1 ≤ rs.length) (h1 : rs.length ≤ 8) (hc : (cntI (List.zipWith spOf rs ds) hr : Int) + wr = rs.length) (hi0 : 0 ≤ i) (h14 : nioK (some a14) = true) (h15 : nioK (some a15) = true) :
    ∃ b14 b15, law_k58_b2 [x0, x1, x2, .val (.int hr), .val (.int rs.length), .val (.tuple (ds.map PyData.int)), x6, .own (.lst (rs.map PyData.int)) true, .val (.int wr), x9, x10, x11, .val (.tuple ((List.zipWith spOf rs ds).map enI)), .val (.int i), a14, a15, .un] =
      .next [x0, x1, x2, .val (.int hr), .val (.int rs.length), .val (.tuple (ds.map PyData.int)), x6, .own (.lst (rs.map PyData.int)) true, .val (.int wr), x9, x10, x11, .val (.tuple ((List.zipWith spOf rs ds).map enI)), .val (.int i), b14, b15, .un] ∧ nioK (some b14) = true ∧ nioK (some b15) = true := by
  obtain ⟨d, e1, e2, e3, e4⟩ := told58 (lies := i) h he h0 h1
  have e5 := same_refl 12 d e3
  have hi := h.iv he h0 h1
  have hl : (List.zipWith spOf rs ds).length = rs.length := by rw [List.length_zipWith, he, Nat.min_self]
  refine ⟨.val d, .val d, ?_, rfl, rfl⟩
  unfold law_k58_b2 law_k58_c3
  by_cases c1 : wr ≤ i
  · by_cases c2 : i < (rs.length : Int)
    · have ed := e4 c2
      obtain ⟨R, hR⟩ : ∃ R, runsI (List.zipWith spOf rs ds) (rs.length - i) = R := ⟨_, rfl⟩
      obtain ⟨a, z, hro, hcnt, _⟩ := runsI_facts hi (rs.length - i) (by omega)
      rw [hR] at hro hcnt ed
      have ed : d = .tuple (R.reverse.map enI) := ed
      have hct : cntR R hr = 1 := by rw [hcnt hr, if_pos]; omega
      have hRl : R.length ≤ 1000000 := by
        rw [← hR, ← hl]
        have hl : ∀ (P : Int → Bool) (n : Nat) (s : List (Int × Int)) (a : Int), (runF P s a n).length ≤ s.length + n := by
          intro P n
          induction n with
          | zero => intro s a; exact Nat.le_refl _
          | succ n ih =>
            intro s a
            have := ih (if P a = true then addX s a else s) (a + 1)
            have : (if P a = true then addX s a else s).length ≤ s.length + 1 := by
              split
              · exact addX_len
              · omega
            show (runF P _ (a + 1) n).length ≤ _
            omega
        obtain ⟨a1, a2⟩ := minI_is (l := (List.zipWith spOf rs ds).map (·.1)) (by simpa using hi.ne)
        obtain ⟨b1, b2⟩ := maxI_is (l := (List.zipWith spOf rs ds).map (·.2)) (by simpa using hi.ne)
        obtain ⟨pa, ha, ea⟩ := List.mem_map.mp a1
        obtain ⟨pb, hb, eb⟩ := List.mem_map.mp b1
        have ha2 := hi.bd pa ha
        have hb2 := hi.bd pb hb
        have hau := hi.up pa ha
        have hbu := hi.up pb hb
        have := hl (fun x => decide ((cntI (List.zipWith spOf rs ds) x : Int) ≥ (List.zipWith spOf rs ds).length - i)) (maxI ((List.zipWith spOf rs ds).map (·.2)) + 1 - minI ((List.zipWith spOf rs ds).map (·.1))).toNat [] (minI ((List.zipWith spOf rs ds).map (·.1)))
        unfold runsI
        rw [List.length_nil, Nat.zero_add] at this
        omega
      have c := comp_enc (bd := bN 16) (ifs := law_k58_t1) (elt := law_k58_e3) (vs := [16]) (enc := enI) (q := fun r : Int × Int => decide (r.1 ≤ hr) && decide (hr ≤ r.2)) (g := enI)
        (st := [x0, x1, x2, .val (.int hr), .val (.int rs.length), .val (.tuple (ds.map PyData.int)), x6, .own (.lst (rs.map PyData.int)) true, .val (.int wr), x9, x10, x11, .val (.tuple ((List.zipWith spOf rs ds).map enI)), .val (.int i), .val (.tuple (R.reverse.map enI)), .val (.tuple (R.reverse.map enI)), .un])
        (ρ1 := fun r => [x0, x1, x2, .val (.int hr), .val (.int rs.length), .val (.tuple (ds.map PyData.int)), x6, .own (.lst (rs.map PyData.int)) true, .val (.int wr), x9, x10, x11, .val (.tuple ((List.zipWith spOf rs ds).map enI)), .val (.int i), .val (.tuple (R.reverse.map enI)), .val (.tuple (R.reverse.map enI)), .val (enI r)]) R.reverse [] (by simp; omega)
        (fun p _ => by simp -implicitDefEqProofs only [evs0, evs1, evs2, evsX, Nat.reduceAdd, Nat.reduceSub, ↓reduceIte, Nat.reduceLeDiff, Int.reduceEq, Int.reduceLT, Int.reduceLE]) (fun p hp => by
          have en : enI p = .tuple [.int p.1, .int p.2] := rfl
          unfold law_k58_t1
          by_cases h1 : p.1 ≤ hr
          · simp -implicitDefEqProofs (decide := true) only [evs0, evs1, evs2, evsX, Nat.reduceAdd, Nat.reduceSub, ↓reduceIte, Nat.reduceLeDiff, Int.reduceEq, Int.reduceLT, Int.reduceLE, en, h1, Bool.true_and]
          · simp -implicitDefEqProofs (decide := true) only [evs0, evs1, evs2, evsX, Nat.reduceAdd, Nat.reduceSub, ↓reduceIte, Nat.reduceLeDiff, Int.reduceEq, Int.reduceLT, Int.reduceLE, en, h1, Bool.false_and]) (fun p _ _ => by unfold law_k58_e3; simp -implicitDefEqProofs only [evs0, evs1, evs2, evsX, Nat.reduceAdd, Nat.reduceSub, ↓reduceIte, Nat.reduceLeDiff, Int.reduceEq, Int.reduceLT, Int.reduceLE]) (fun p _ => by simp -implicitDefEqProofs only [evs0, evs1, evs2, evsX, Nat.reduceAdd, Nat.reduceSub, ↓reduceIte, Nat.reduceLeDiff, Int.reduceEq, Int.reduceLT, Int.reduceLE])
      have hl1 : (((R.reverse.filter fun r => decide (r.1 ≤ hr) && decide (hr ≤ r.2)).map enI).length : Int) = 1 := by
        rw [List.length_map, List.filter_reverse, List.length_reverse]
        have : (R.filter fun r => decide (r.1 ≤ hr) && decide (hr ≤ r.2)).length = 1 := hct
        rw [this]; rfl
      rw [ed] at e1 e2 e5 ⊢
      simp -implicitDefEqProofs (decide := true) only [evs0, evs1, evs2, evsX, Nat.reduceAdd, Nat.reduceSub, ↓reduceIte, Nat.reduceLeDiff, Int.reduceEq, Int.reduceLT, Int.reduceLE, e1, e2, e5, h14, h15, c1, c2, c, List.nil_append, hl1]
    · simp -implicitDefEqProofs (decide := true) only [evs0, evs1, evs2, evsX, Nat.reduceAdd, Nat.reduceSub, ↓reduceIte, Nat.reduceLeDiff, Int.reduceEq, Int.reduceLT, Int.reduceLE, e1, e2, e5, h14, h15, c1, c2]
  · simp -implicitDefEqProofs (decide := true) only [evs0, evs1, evs2, evsX, Nat.reduceAdd, Nat.reduceSub, ↓reduceIte, Nat.reduceLeDiff, Int.reduceEq, Int.reduceLT, Int.reduceLE, e1, e2, e5, h14, h15, c1]
theorem k58_lies {x0 x1 x2 x6 x9 x10 x11 : LV} {hr wr : Int} {rs ds : List Int} {a13 a14 a15 : LV} (h : Ck rs ds) (he : rs.length = ds.length) (h0 : 1 ≤ rs.length) (h1 : rs.length ≤ 8) (hc : (cntI (List.zipWith spOf rs ds) hr : Int) + wr = rs.length) (h13 : nioK (some a13) = true) (h14 : nioK (some a14) = true) (h15 : nioK (some a15) = true) :
    ∃ b13 b14 b15, forV (bN 13) law_k58_b2 (rangeL 0 (rs.length + 2)) [x0, x1, x2, .val (.int hr), .val (.int rs.length), .val (.tuple (ds.map PyData.int)), x6, .own (.lst (rs.map PyData.int)) true, .val (.int wr), x9, x10, x11, .val (.tuple ((List.zipWith spOf rs ds).map enI)), a13, a14, a15, .un] =
      .next [x0, x1, x2, .val (.int hr), .val (.int rs.length), .val (.tuple (ds.map PyData.int)), x6, .own (.lst (rs.map PyData.int)) true, .val (.int wr), x9, x10, x11, .val (.tuple ((List.zipWith spOf rs ds).map enI)), b13, b14, b15, .un] ∧ nioK (some b13) = true ∧ nioK (some b14) = true ∧ nioK (some b15) = true := by
  refine for_rule (P := fun r => ∃ b13 b14 b15, r = .next [x0, x1, x2, .val (.int hr), .val (.int rs.length), .val (.tuple (ds.map PyData.int)), x6, .own (.lst (rs.map PyData.int)) true, .val (.int wr), x9, x10, x11, .val (.tuple ((List.zipWith spOf rs ds).map enI)), b13, b14, b15, .un] ∧ nioK (some b13) = true ∧ nioK (some b14) = true ∧ nioK (some b15) = true) (rangeL 0 (rs.length + 2))
    (fun i ρ => ∃ b13 b14 b15, ρ = [x0, x1, x2, .val (.int hr), .val (.int rs.length), .val (.tuple (ds.map PyData.int)), x6, .own (.lst (rs.map PyData.int)) true, .val (.int wr), x9, x10, x11, .val (.tuple ((List.zipWith spOf rs ds).map enI)), b13, b14, b15, .un] ∧ nioK (some b13) = true ∧ nioK (some b14) = true ∧ nioK (some b15) = true) _ ⟨a13, a14, a15, rfl, h13, h14, h15⟩ ?_ ?_
  · rintro i d ρ hi ⟨b13, b14, b15, rfl, h13, h14, h15⟩
    obtain ⟨rfl, hi2⟩ := rangeL_at hi
    refine ⟨[x0, x1, x2, .val (.int hr), .val (.int rs.length), .val (.tuple (ds.map PyData.int)), x6, .own (.lst (rs.map PyData.int)) true, .val (.int wr), x9, x10, x11, .val (.tuple ((List.zipWith spOf rs ds).map enI)), .val (.int (0 + i)), b14, b15, .un], by simp -implicitDefEqProofs only [evs0, evs1, evs2, evsX, Nat.reduceAdd, Nat.reduceSub, ↓reduceIte, Nat.reduceLeDiff, Int.reduceEq, Int.reduceLT, Int.reduceLE, h13], ?_⟩
    obtain ⟨c14, c15, e, k14, k15⟩ := k58_lie (x0 := x0) (x1 := x1) (x2 := x2) (x6 := x6) (x9 := x9) (x10 := x10) (x11 := x11) (i := 0 + (i : Int)) h he h0 h1 hc (by omega) h14 h15
    rw [e]
    exact ⟨_, c14, c15, rfl, rfl, k14, k15⟩
  · rintro ρ ⟨b13, b14, b15, rfl, h13, h14, h15⟩
    exact ⟨b13, b14, b15, rfl, h13, h14, h15⟩
theorem plain_law_k58 : LawP f_law_k58 := by
  intro ns _ _
  obtain ⟨l, e, hp⟩ := pool_ok ns
  have loop : ∃ ρ, forV (bN 2) law_k58_b3 (rangeL 0 3) [.val (.list (ns.map PyData.int)), .own (.lst l) true, .un, .un, .un, .un, .un, .un, .un, .un, .un, .un, .un, .un, .un, .un, .un] = .next (.val (.list (ns.map PyData.int)) :: ρ) := by
    refine for_rule (P := fun r => ∃ ρ, r = .next (.val (.list (ns.map PyData.int)) :: ρ)) (rangeL 0 3) (fun _ ρ => ∃ l t a3 a4 a5 a6 a7 a8 a9 a10 a11 a12 a13 a14 a15, ρ = [.val (.list (ns.map PyData.int)), .own (.lst l) true, t, a3, a4, a5, a6, a7, a8, a9, a10, a11, a12, a13, a14, a15, .un] ∧ Pool l ∧ nioK (some t) = true ∧ nioK (some a3) = true ∧ nioK (some a4) = true ∧ nioK (some a5) = true ∧ nioK (some a6) = true ∧ nioK (some a7) = true ∧ nioK (some a8) = true ∧ nioK (some a9) = true ∧ nioK (some a10) = true ∧ nioK (some a11) = true ∧ nioK (some a12) = true ∧ nioK (some a13) = true ∧ nioK (some a14) = true ∧ nioK (some a15) = true) _
      ⟨l, _, _, _, _, _, _, _, _, _, _, _, _, _, _, rfl, hp, rfl, rfl, rfl, rfl, rfl, rfl, rfl, rfl, rfl, rfl, rfl, rfl, rfl, rfl⟩ ?_ ?_
    · rintro i d ρ _ ⟨l, t, a3, a4, a5, a6, a7, a8, a9, a10, a11, a12, a13, a14, a15, rfl, hp, ht, h3, h4, h5, h6, h7, h8, h9, h10, h11, h12, h13, h14, h15⟩
      obtain ⟨r1, l1, e1, p1, q1, hp⟩ := draw_ok hp (m := 2) (by omega) (by omega)
      obtain ⟨hm, hhm, m0, m1⟩ : ∃ y : Int, atI [PyData.int 10, .int 80] r1 = some (.int y) ∧ 10 ≤ y ∧ y ≤ 80 := by
        obtain ⟨x, hx, e⟩ := atI_mem (l := [PyData.int 10, .int 80]) p1 q1
        simp only [List.mem_cons, List.not_mem_nil, or_false] at hx
        rcases hx with rfl | rfl
        all_goals exact ⟨_, e, by omega, by omega⟩
      obtain ⟨r2, l2, e2, p2, q2, hp⟩ := draw_ok hp (m := hm) (by omega) (by omega)
      obtain ⟨r3, l3, e3, p3, q3, hp⟩ := draw_ok hp (m := 6) (by omega) (by omega)
      obtain ⟨ds, l4, e4, hp, hdl, hD⟩ := drifts58 (x0 := .val (.list (ns.map PyData.int))) (x2 := .val d) (x3 := .val (.int r2)) (x4 := .val (.int (1 + r3))) (x5 := a5) (a7 := a7) (a8 := a8) (a9 := a9) (a10 := a10) (a11 := a11) (a12 := a12) (a13 := a13) (a14 := a14) (a15 := a15) (m := 1 + r3) hp (by omega)
      obtain ⟨l5, rs, wr, b6, b9, b10, b11, e5, hp, hrl, hck, hcn, k6, k9, k10, k11⟩ := k58_draws (x0 := .val (.list (ns.map PyData.int))) (x2 := .val d) (hr := r2) (n := 1 + r3) (y12 := a12) (y13 := a13) (y14 := a14) (y15 := a15) hp (by omega) hD (by omega) (by omega) h6 h9 h10 h11
      have e6 := spans58 (x0 := .val (.list (ns.map PyData.int))) (x1 := .own (.lst l5) true) (x2 := .val d) (x3 := .val (.int r2)) (x4 := .val (.int (1 + r3))) (a8 := .val (.int wr)) (a9 := b9) (a10 := b10) (a11 := b11) (a12 := a12) (a13 := a13) (a14 := a14) (a15 := a15) (m := 1 + r3) hck hrl (by omega) (by omega)
      obtain ⟨b13, b14, b15, e7, k13, k14, k15⟩ := k58_lies (x0 := .val (.list (ns.map PyData.int))) (x1 := .own (.lst l5) true) (x2 := .val d) (x6 := b6) (x9 := b9) (x10 := b10) (x11 := b11) hck hrl (by omega) (by omega) hcn h13 h14 h15
      have em : (rs.length : Int) = 1 + r3 := by omega
      rw [em] at e7
      have hr := ev_rng1 (j := 1 + r3) (by omega) (by omega)
      have hr2 := ev_rng1 (j := 1 + r3 + 2) (by omega) (by omega)
      refine ⟨[.val (.list (ns.map PyData.int)), .own (.lst l) true, .val d, a3, a4, a5, a6, a7, a8, a9, a10, a11, a12, a13, a14, a15, .un], by simp -implicitDefEqProofs only [evs0, evs1, evs2, evsX, Nat.reduceAdd, Nat.reduceSub, ↓reduceIte, Nat.reduceLeDiff, Int.reduceEq, Int.reduceLT, Int.reduceLE, ht], ?_⟩
      unfold law_k58_b3 law_k58_c1 law_k58_c2
      simp -implicitDefEqProofs (decide := true) only [evs0, evs1, evs2, evsX, Nat.reduceAdd, Nat.reduceSub, ↓reduceIte, Nat.reduceLeDiff, Int.reduceEq, Int.reduceLT, Int.reduceLE, Turn, e1, hhm, e2, e3, h3, h4, h5, h7, h8, hr, e4, e5, e6, h12, hr2, e7]
      exact ⟨l5, _, _, _, _, _, _, _, _, _, _, _, _, _, _, rfl, hp, rfl, rfl, rfl, rfl, k6, rfl, rfl, k9, k10, k11, rfl, k13, k14, k15⟩
    · rintro ρ ⟨l, t, a3, a4, a5, a6, a7, a8, a9, a10, a11, a12, a13, a14, a15, rfl, _⟩
      exact ⟨_, rfl⟩
  obtain ⟨ρ, loop⟩ := loop
  unfold f_law_k58 b_law_k58
  simp -implicitDefEqProofs (decide := true) only [evs0, evs1, evs2, evsX, Nat.reduceAdd, Nat.reduceSub, ↓reduceIte, Nat.reduceLeDiff, Int.reduceEq, Int.reduceLT, Int.reduceLE, e, loop]
end Ft
set_option maxHeartbeats 0
namespace Wk58
open PySem L2 Ft PyProof.Rows
def top (i : Nat) : Stmt := PySem.Challenge.pw_fieldtold_k58_fused_hours_of_clocks.main.body.getD i (.Pass ⟨0, 0, 0, 0⟩)
structure Txt (K : PySem.W.Frag) (mg : Str → Option Value) : Prop where
  g_ValueError : mg "ValueError" = none
  g_bool : mg "bool" = none
  g_int : mg "int" = none
  g_isinstance : mg "isinstance" = none
  g_len : mg "len" = none
  g_list : mg "list" = none
  g_max : mg "max" = none
  g_min : mg "min" = none
  g_range : mg "range" = none
  g_sorted : mg "sorted" = none
  g_str : mg "str" = none
  g_tuple : mg "tuple" = none
  g_zip : mg "zip" = none
  d_inside : Df K mg "inside" (top 13)
  d_joined : Df K mg "joined" (top 14)
  d_possible : Df K mg "possible" (top 15)
  d_hours_for : Df K mg "hours_for" (top 17)
  d_fused_hours : Df K mg "fused_hours" (top 18)
  d_law_same : Df K mg "_law_same" (top 20)
  d_law_pool : Df K mg "_law_pool" (top 21)
  d_law_spread : Df K mg "_law_spread" (top 22)
  d_law_draw : Df K mg "_law_draw" (top 23)
  d_law_error : Df K mg "_law_error" (top 24)
  d_law_possible : Df K mg "_law_possible" (top 25)
  d_law_hours_for : Df K mg "_law_hours_for" (top 26)
  d_law_told : Df K mg "_law_told" (top 27)
  d_law : Df K mg "law" (top 28)
  e_ns : ∀ x v, PySem.W.nsIn K mainGlobals x = some (some v) → mg x = some v
  e_js : errsB K [0] = true
  e_base : (clsAt K "FieldError").isSome = true
section
variable {P : Program} {w : World} {K : PySem.W.Frag} {mg : Str → Option Value} {base : Heap}
abbrev s_inside : Stmt := top 13
theorem sc_inside : FnScope ["intervals", "x", "low", "high"] ["intervals", "x"] (defScope s_inside) := ⟨rfl, rfl, rfl, by decide +kernel, rfl, by decide +kernel, by decide +kernel⟩
theorem ok_inside (T : Txt K mg) : Cl P w K mg base 1 "inside" 2 (xrE K) f_inside :=
  cl_of (N := ["intervals", "x", "low", "high"]) (ps := ["intervals", "x"]) (k := 0) T.d_inside sc_inside rfl rfl (by decide) (fun _ _ F => F.binds fun _ _ _ _ _ _ us hl => match us, hl with | [_, _], _ => rfl) (fun f cdv A outer s H E hr => by
    have nd := sc_inside.nd
    exact (dss_one (ds_ret (de_B call_len pn_len T.g_len (by decide +kernel) (das_cons (da_e (de_fz (df_comp [("low", 2), ("high", 3)] rfl rfl nd (di_seq (de_v 0)) (blkOk_by (by kernel_rfl)) ⟨_, fun _ _ _ _ _ => pg_tup rfl (pgs_cons (pg_name (i := 2) nd rfl (by first | exact Or.inl rfl | exact Or.inr rfl) (by first | exact .inl rfl | exact .inr rfl)) (pgs_cons (pg_name (i := 3) nd rfl (by first | exact Or.inl rfl | exact Or.inr rfl) (by first | exact .inl rfl | exact .inr rfl)) pgs_nil)), tgr_t [2, 3] rfl⟩ (by decide) (fun _ _ _ _ _ => (dts_one (dt_chain (op_leB hr.units) (op_leB hr.units) (da_v 2) (da_v 1) (da_v 3)))) (fun _ _ _ _ _ => (de_v 2))))) das_nil)))))
abbrev s_joined : Stmt := top 14
theorem sc_joined : FnScope ["pairs", "found", "low", "high"] ["pairs"] (defScope s_joined) := ⟨rfl, rfl, rfl, by decide +kernel, rfl, by decide +kernel, by decide +kernel⟩
theorem ok_joined (T : Txt K mg) : Cl P w K mg base 1 "joined" 1 (xrE K) f_joined :=
  cl_of (N := ["pairs", "found", "low", "high"]) (ps := ["pairs"]) (k := 0) T.d_joined sc_joined rfl rfl (by decide) (fun _ _ F => F.binds fun _ _ _ _ _ _ us hl => match us, hl with | [_], _ => rfl) (fun f cdv A outer s H E hr => by
    have nd := sc_joined.nd
    exact (dss_cons (ds_new 1 nd (df_lst dvs_nil)) (dss_cons (ds_for po rfl (di_seq (de_v 0)) (tg_t rfl (tgs_cons 2 nd (tgs_cons 3 nd tgs_nil))) (dss_one (ds_if (dt_w (dw_and (dt_cmp (op_gtB hr.units) p2_B (da_e (de_B call_len pn_len T.g_len (by decide +kernel) (das_cons (da_v 1) das_nil))) (da_e de_int) (nomark _)) (dw_and1 (dt_cmp (op_leB hr.units) p2_B (da_v 2) (da_e (de_op op_addB p2_add (da_e (de_ix ix_seq p2_ix (da_e (de_ix ix_seq p2_ix (da_v 1) (da_e (de_un un_neg p1_neg (da_e de_int))) (fun _ _ => rfl))) (da_e de_int) (fun _ _ => rfl))) (da_e de_int))) (nomark _))))) (dss_one (ds_setix 1 (de_tup (dvs_cons (de_ix ix_seq p2_ix (da_e (de_ix ix_seq p2_ix (da_v 1) (da_e (de_un un_neg p1_neg (da_e de_int))) (fun _ _ => rfl))) (da_e de_int) (fun _ _ => rfl)) (dvs_cons (de_B (call_max2 rfl) pn_max2 T.g_max (by decide +kernel) (das_cons (da_v 3) (das_cons (da_e (de_ix ix_seq p2_ix (da_e (de_ix ix_seq p2_ix (da_v 1) (da_e (de_un un_neg p1_neg (da_e de_int))) (fun _ _ => rfl))) (da_e de_int) (fun _ _ => rfl))) das_nil))) dvs_nil))) (de_un un_neg p1_neg (da_e de_int)))) (dss_one (ds_app 1 (pe_bm PySem.F.plainAttrs_list PySem.F.slot_list_append PySem.F.type_list_append mt_append (pv 1) (pa_cons (de_tup (dvs_cons (de_v 2) (dvs_cons (de_v 3) dvs_nil))) pa_nil))))))) (dss_one (ds_ret (de_T call_tuple_of pn_tuple T.g_tuple (by decide +kernel) (das_cons (da_v 1) das_nil)))))))
abbrev s_possible : Stmt := top 15
theorem sc_possible : FnScope ["intervals", "lies", "cuts", "low", "high", "need", "pairs", "k"] ["intervals", "lies"] (defScope s_possible) := ⟨rfl, rfl, rfl, by decide +kernel, rfl, by decide +kernel, by decide +kernel⟩
theorem ok_possible (T : Txt K mg) : Cl P w K mg base 2 "possible" 2 (xrE K) f_possible_v2 :=
  cl_of (N := ["intervals", "lies", "cuts", "low", "high", "need", "pairs", "k"]) (ps := ["intervals", "lies"]) (k := 1) T.d_possible sc_possible rfl rfl (by decide) (fun _ _ F => F.binds fun _ _ _ _ _ _ us hl => match us, hl with | [_, _], _ => rfl) (fun f cdv A outer s H E hr => by
    have nd := sc_possible.nd
    exact (dss_cons (ds_if (dt_cmp (op_geB hr.units) p2_B (da_v 1) (da_e (de_B call_len pn_len T.g_len (by decide +kernel) (das_cons (da_v 0) das_nil))) (nomark _)) (dss_one (ds_raise T.e_js (by decide) T.e_ns rfl rfl tkN (de_v 1))) dss_nil) (dss_cons (ds_set 2 nd (de_fz (df_sortU rfl T.g_sorted (du_setC [("low", 3), ("high", 4)] rfl rfl nd (di_seq (de_v 0)) (blkOk_by (by kernel_rfl)) ⟨_, fun _ _ _ _ _ => pg_tup rfl (pgs_cons (pg_name (i := 3) nd rfl (by first | exact Or.inl rfl | exact Or.inr rfl) (by first | exact .inl rfl | exact .inr rfl)) (pgs_cons (pg_name (i := 4) nd rfl (by first | exact Or.inl rfl | exact Or.inr rfl) (by first | exact .inl rfl | exact .inr rfl)) pgs_nil)), tgr_t [3, 4] rfl⟩ (by decide) (fun _ _ _ _ _ => dts_nil) (fun _ _ _ _ _ => (de_v 3))) (du_setC [("low", 3), ("high", 4)] rfl rfl nd (di_seq (de_v 0)) (blkOk_by (by kernel_rfl)) ⟨_, fun _ _ _ _ _ => pg_tup rfl (pgs_cons (pg_name (i := 3) nd rfl (by first | exact Or.inl rfl | exact Or.inr rfl) (by first | exact .inl rfl | exact .inr rfl)) (pgs_cons (pg_name (i := 4) nd rfl (by first | exact Or.inl rfl | exact Or.inr rfl) (by first | exact .inl rfl | exact .inr rfl)) pgs_nil)), tgr_t [3, 4] rfl⟩ (by decide) (fun _ _ _ _ _ => dts_nil) (fun _ _ _ _ _ => (de_op op_addB p2_add (da_v 4) (da_e de_int))))))) (dss_cons (ds_set 5 nd (de_op op_sub p2_sub (da_e (de_B call_len pn_len T.g_len (by decide +kernel) (das_cons (da_v 0) das_nil))) (da_v 1))) (dss_cons (ds_setLc 6 [("k", 7)] rfl rfl nd (di_range1 T.g_range (das_cons (da_e (de_op op_sub p2_sub (da_e (de_B call_len pn_len T.g_len (by decide +kernel) (das_cons (da_v 2) das_nil))) (da_e de_int))) das_nil)) (blkOk_by (by kernel_rfl)) ⟨gName 7, fun _ _ _ _ _ => pg_name (i := 7) nd rfl (by first | exact Or.inl rfl | exact Or.inr rfl) (by first | exact .inl rfl | exact .inr rfl), tgr_n 7⟩ (by decide) (fun _ _ _ _ _ => (dts_one (dt_cmp (op_geB hr.units) p2_B (da_e (de_cl (ok_inside T) (hr.mono (by omega)) passN (das_cons (da_e (de_v 0)) (das_cons (da_e (de_ix ix_seq p2_ix (da_v 2) (da_v 7) (fun _ _ => rfl))) das_nil)) (aLen_cons (aLen_cons aLen_nil)))) (da_v 5) (nomark _)))) (fun _ _ _ _ _ => (de_tup (dvs_cons (de_ix ix_seq p2_ix (da_v 2) (da_v 7) (fun _ _ => rfl)) (dvs_cons (de_op op_sub p2_sub (da_e (de_ix ix_seq p2_ix (da_v 2) (da_e (de_op op_addB p2_add (da_v 7) (da_e de_int))) (fun _ _ => rfl))) (da_e de_int)) dvs_nil)))) (sw_true rfl rfl rfl (by decide +kernel))) (dss_one (ds_ret (de_cl (ok_joined T) (hr.mono (by omega)) px (das_cons (da_e (de_v 6)) das_nil) (aLen_cons aLen_nil)))))))))
abbrev s_hours_for : Stmt := top 17
theorem sc_hours_for : FnScope ["reading", "drift"] ["reading", "drift"] (defScope s_hours_for) := ⟨rfl, rfl, rfl, by decide +kernel, rfl, by decide +kernel, by decide +kernel⟩
theorem ok_hours_for (T : Txt K mg) : Cl P w K mg base 1 "hours_for" 2 (xrE K) f_hours_for :=
  cl_of (N := ["reading", "drift"]) (ps := ["reading", "drift"]) (k := 0) T.d_hours_for sc_hours_for rfl rfl (by decide) (fun _ _ F => F.binds fun _ _ _ _ _ _ us hl => match us, hl with | [_, _], _ => rfl) (fun f cdv A outer s H E hr => by
    have nd := sc_hours_for.nd
    exact (dss_one (ds_ret (de_tup (dvs_cons (de_un un_neg p1_neg (da_e (de_op op_fdivN p2_fdiv (da_e (de_op op_mul p2_mul (da_e (de_un un_neg p1_neg (da_e de_int))) (da_v 0))) (da_e (de_op op_addB p2_add (da_e de_int) (da_v 1)))))) (dvs_cons (de_op op_fdivN p2_fdiv (da_e (de_op op_mul p2_mul (da_e de_int) (da_v 0))) (da_e (de_op op_sub p2_sub (da_e de_int) (da_v 1)))) dvs_nil))))))
abbrev s_fused_hours : Stmt := top 18
theorem sc_fused_hours : FnScope ["readings", "drifts", "lies", "reading", "drift"] ["readings", "drifts", "lies"] (defScope s_fused_hours) := ⟨rfl, rfl, rfl, by decide +kernel, rfl, by decide +kernel, by decide +kernel⟩
theorem ok_fused_hours (T : Txt K mg) : Cl P w K mg base 3 "fused_hours" 3 (xrE K) f_fused_hours_v2 :=
  cl_of (N := ["readings", "drifts", "lies", "reading", "drift"]) (ps := ["readings", "drifts", "lies"]) (k := 2) T.d_fused_hours sc_fused_hours rfl rfl (by decide) (fun _ _ F => F.binds fun _ _ _ _ _ _ us hl => match us, hl with | [_, _, _], _ => rfl) (fun f cdv A outer s H E hr => by
    have nd := sc_fused_hours.nd
    exact (dss_one (ds_ret (de_cl (ok_possible T) (hr.mono (by omega)) px (das_cons (da_e (de_T call_tuple_of pn_tuple T.g_tuple (by decide +kernel) (das_cons (da_e (de_fz (df_comp [("reading", 3), ("drift", 4)] rfl rfl nd (di_zip T.g_zip (dvs_cons (de_v 0) (dvs_cons (de_v 1) dvs_nil))) (blkOk_by (by kernel_rfl)) ⟨_, fun _ _ _ _ _ => pg_tup rfl (pgs_cons (pg_name (i := 3) nd rfl (by first | exact Or.inl rfl | exact Or.inr rfl) (by first | exact .inl rfl | exact .inr rfl)) (pgs_cons (pg_name (i := 4) nd rfl (by first | exact Or.inl rfl | exact Or.inr rfl) (by first | exact .inl rfl | exact .inr rfl)) pgs_nil)), tgr_t [3, 4] rfl⟩ (by decide) (fun _ _ _ _ _ => dts_nil) (fun _ _ _ _ _ => (de_cl (ok_hours_for T) (hr.mono (by omega)) passN (das_cons (da_e (de_v 3)) (das_cons (da_e (de_v 4)) das_nil)) (aLen_cons (aLen_cons aLen_nil))))))) das_nil))) (das_cons (da_e (de_v 2)) das_nil)) (aLen_cons (aLen_cons aLen_nil))))))
abbrev s_law_same : Stmt := top 20
theorem sc_law_same : FnScope ["actual", "due", "k"] ["actual", "due"] (defScope s_law_same) := ⟨rfl, rfl, rfl, by decide +kernel, rfl, by decide +kernel, by decide +kernel⟩
theorem ok_law_same (T : Txt K mg) : ∀ j : Nat, Cl P w K mg base (1 + j) "_law_same" 2 (xrE K) (f_law_same j)
  | 0 => cl_no (N := ["actual", "due", "k"]) (ps := ["actual", "due"]) (k := 0) T.d_law_same sc_law_same rfl (fun _ _ F => F.binds fun _ _ _ _ _ _ us hl => match us, hl with | [_, _], _ => rfl)
  | j + 1 => cl_of (N := ["actual", "due", "k"]) (ps := ["actual", "due"]) (k := 1 + j) T.d_law_same sc_law_same rfl rfl (by decide) (fun _ _ F => F.binds fun _ _ _ _ _ _ us hl => match us, hl with | [_, _], _ => rfl) (fun f cdv A outer s H E hr => by
    have nd := (sc_law_same).nd
    have ih := ok_law_same T j
    exact (dss_cons (ds_if (dt_w (dw_or (dt_val (de_isi isi_tuple T.g_isinstance T.g_tuple rfl (da_v 1))) (dw_or1 (dt_val (de_isi isi_list T.g_isinstance T.g_list rfl (da_v 1)))))) (dss_cons (ds_if (dt_w (dw_or (dt_cmp (op_neB hr.units) p2_B (da_e (de_isi isi_tuple T.g_isinstance T.g_tuple rfl (da_v 1))) (da_e (de_isi isi_tuple T.g_isinstance T.g_tuple rfl (da_v 0))) (nomark _)) (dw_or (dt_cmp (op_neB hr.units) p2_B (da_e (de_isi isi_list T.g_isinstance T.g_list rfl (da_v 1))) (da_e (de_isi isi_list T.g_isinstance T.g_list rfl (da_v 0))) (nomark _)) (dw_or1 (dt_cmp (op_neB hr.units) p2_B (da_e (de_B call_len pn_len T.g_len (by decide +kernel) (das_cons (da_v 0) das_nil))) (da_e (de_B call_len pn_len T.g_len (by decide +kernel) (das_cons (da_v 1) das_nil))) (nomark _)))))) (dss_one (ds_ret de_bl)) dss_nil) (dss_one (ds_ret (de_cmp (op_eqB hr.units) p2_B (da_e (de_B call_len pn_len T.g_len (by decide +kernel) (das_cons (da_e (de_fz (df_comp [("k", 2)] rfl rfl nd (di_range1 T.g_range (das_cons (da_e (de_B call_len pn_len T.g_len (by decide +kernel) (das_cons (da_v 1) das_nil))) das_nil)) (blkOk_by (by kernel_rfl)) ⟨gName 2, fun _ _ _ _ _ => pg_name (i := 2) nd rfl (by first | exact Or.inl rfl | exact Or.inr rfl) (by first | exact .inl rfl | exact .inr rfl), tgr_n 2⟩ (by decide) (fun _ _ _ _ _ => (dts_one (dt_not (dt_val (de_cl ih hr passN (das_cons (da_e (de_ix ix_seq p2_ix (da_v 0) (da_v 2) (fun _ _ => rfl))) (das_cons (da_e (de_ix ix_seq p2_ix (da_v 1) (da_v 2) (fun _ _ => rfl))) das_nil)) (aLen_cons (aLen_cons aLen_nil))))))) (fun _ _ _ _ _ => (de_v 2))))) das_nil))) (da_e de_int) (nomark _))))) dss_nil) (dss_cons (ds_if (dt_cmp op_isN p2_is (da_v 1) (da_e de_non) (nomark _)) (dss_one (ds_ret (de_cmp op_isN p2_is (da_v 0) (da_e de_non) (nomark _)))) dss_nil) (dss_cons (ds_if (dt_w (dw_or (dt_val (de_isi isi_bool T.g_isinstance T.g_bool rfl (da_v 1))) (dw_or1 (dt_val (de_isi isi_bool T.g_isinstance T.g_bool rfl (da_v 0)))))) (dss_one (ds_ret (de_and (de_isi isi_bool T.g_isinstance T.g_bool rfl (da_v 1)) (de_and (de_isi isi_bool T.g_isinstance T.g_bool rfl (da_v 0)) (de_one (de_cmp (op_eqB hr.units) p2_B (da_v 0) (da_v 1) (nomark _))))))) dss_nil) (dss_cons (ds_if (dt_val (de_isi isi_int T.g_isinstance T.g_int rfl (da_v 1))) (dss_one (ds_ret (de_and (de_isi isi_int T.g_isinstance T.g_int rfl (da_v 0)) (de_one (de_cmp (op_eqB hr.units) p2_B (da_v 0) (da_v 1) (nomark _)))))) dss_nil) (dss_one (ds_ret (de_and (de_isi isi_str T.g_isinstance T.g_str rfl (da_v 0)) (de_and (de_isi isi_str T.g_isinstance T.g_str rfl (da_v 1)) (de_one (de_cmp (op_eqB hr.units) p2_B (da_v 0) (da_v 1) (nomark _))))))))))))
abbrev s_law_pool : Stmt := top 21
theorem sc_law_pool : FnScope ["script", "salt", "cell"] ["script"] (defScope s_law_pool) := ⟨rfl, rfl, rfl, by decide +kernel, rfl, by decide +kernel, by decide +kernel⟩
theorem ok_law_pool (T : Txt K mg) : Cl P w K mg base 1 "_law_pool" 1 (xrE K) f_law_pool :=
  cl_of (N := ["script", "salt", "cell"]) (ps := ["script"]) (k := 0) T.d_law_pool sc_law_pool rfl rfl (by decide) (fun _ _ F => F.binds fun _ _ _ _ _ _ us hl => match us, hl with | [_], _ => rfl) (fun f cdv A outer s H E hr => by
    have nd := sc_law_pool.nd
    exact (dss_cons (ds_set 1 nd de_int) (dss_cons (ds_for po rfl (di_seq (de_sl (da_v 0) do_none (do_some de_int))) (tg_n 2 nd) (dss_one (ds_set 1 nd (de_op op_modN p2_mod (da_e (de_T call_int1 pn_int T.g_int (by decide +kernel) (das_cons (da_e (de_op op_addB p2_add (da_e (de_op op_mul p2_mul (da_v 1) (da_e de_int))) (da_v 2))) das_nil))) (da_e de_int))))) (dss_one (ds_retF (df_lst (dvs_cons (de_fz (df_T call_list_of pf_list T.g_list (by decide +kernel) (das_cons (da_v 0) das_nil))) (dvs_cons de_int (dvs_cons de_int (dvs_cons de_int (dvs_cons (de_v 1) dvs_nil)))))))))))
abbrev s_law_spread : Stmt := top 22
theorem sc_law_spread : FnScope ["cell", "mixed", "total", "k"] ["cell"] (defScope s_law_spread) := ⟨rfl, rfl, rfl, by decide +kernel, rfl, by decide +kernel, by decide +kernel⟩
theorem ok_law_spread (T : Txt K mg) : Cl P w K mg base 1 "_law_spread" 1 (xrE K) f_law_spread :=
  cl_of (N := ["cell", "mixed", "total", "k"]) (ps := ["cell"]) (k := 0) T.d_law_spread sc_law_spread rfl rfl (by decide) (fun _ _ F => F.binds fun _ _ _ _ _ _ us hl => match us, hl with | [_], _ => rfl) (fun f cdv A outer s H E hr => by
    have nd := sc_law_spread.nd
    exact (dss_cons (ds_set 1 nd (de_op op_modN p2_mod (da_e (de_T call_int1 pn_int T.g_int (by decide +kernel) (das_cons (da_v 0) das_nil))) (da_e de_int))) (dss_cons (ds_set 2 nd de_int) (dss_cons (ds_for po rfl (di_range1 T.g_range (das_cons (da_e de_int) das_nil)) (tg_n 3 nd) (dss_cons (ds_set 1 nd (de_op op_modN p2_mod (da_e (de_T call_int1 pn_int T.g_int (by decide +kernel) (das_cons (da_e (de_op op_addB p2_add (da_e (de_op op_addB p2_add (da_e (de_op op_mul p2_mul (da_v 1) (da_e de_int))) (da_e de_int))) (da_v 3))) das_nil))) (da_e de_int))) (dss_one (ds_set 2 nd (de_op op_addB p2_add (da_e (de_op op_mul p2_mul (da_v 2) (da_e de_int))) (da_v 1)))))) (dss_one (ds_ret (de_v 2)))))))
abbrev s_law_draw : Stmt := top 23
theorem sc_law_draw : FnScope ["pool", "many", "cell", "mixed", "value"] ["pool", "many"] (defScope s_law_draw) := ⟨rfl, rfl, rfl, by decide +kernel, rfl, by decide +kernel, by decide +kernel⟩
theorem ok_law_draw (T : Txt K mg) : Cl P w K mg base 2 "_law_draw" 2 (xrE K) f_law_draw :=
  cl_of (N := ["pool", "many", "cell", "mixed", "value"]) (ps := ["pool", "many"]) (k := 1) T.d_law_draw sc_law_draw rfl rfl (by decide) (fun _ _ F => F.binds fun _ _ _ _ _ _ us hl => match us, hl with | [_, _], _ => rfl) (fun f cdv A outer s H E hr => by
    have nd := sc_law_draw.nd
    exact (dss_cons (ds_if (dt_w (dw_and (dt_cmp (op_leB hr.units) p2_B (da_e (de_ix ix_seq p2_ix (da_v 0) (da_e de_int) (fun _ _ => rfl))) (da_e de_int) (nomark _)) (dw_and1 (dt_cmp (op_ltB hr.units) p2_B (da_e (de_ix ix_seq p2_ix (da_v 0) (da_e de_int) (fun _ _ => rfl))) (da_e (de_B call_len pn_len T.g_len (by decide +kernel) (das_cons (da_e (de_ix ix_seq p2_ix (da_v 0) (da_e de_int) (fun _ _ => rfl))) das_nil))) (nomark _))))) (dss_cons (ds_set 2 nd (de_ix ix_seq p2_ix (da_e (de_ix ix_seq p2_ix (da_v 0) (da_e de_int) (fun _ _ => rfl))) (da_e (de_ix ix_seq p2_ix (da_v 0) (da_e de_int) (fun _ _ => rfl))) (fun _ _ => rfl))) (dss_cons (ds_setix 0 (de_op op_addB p2_add (da_e (de_ix ix_seq p2_ix (da_v 0) (da_e de_int) (fun _ _ => rfl))) (da_e de_int)) de_int) (dss_cons (ds_setix 0 (de_v 2) de_int) (dss_one (ds_if (dt_cmp (op_ltB hr.units) p2_B (da_v 2) (da_e de_int) (nomark _)) (dss_one (ds_setix 0 (de_cl (ok_law_spread T) (hr.mono (by omega)) px (das_cons (da_e (de_v 2)) das_nil) (aLen_cons aLen_nil)) de_int)) dss_nil))))) dss_nil) (dss_cons (ds_setix 0 (de_op op_addB p2_add (da_e (de_ix ix_seq p2_ix (da_v 0) (da_e de_int) (fun _ _ => rfl))) (da_e de_int)) de_int) (dss_cons (ds_if (dt_cmp (op_leB hr.units) p2_B (da_e (de_ix ix_seq p2_ix (da_v 0) (da_e de_int) (fun _ _ => rfl))) (da_e de_int) (nomark _)) (dss_cons (ds_set 3 nd (de_op op_modN p2_mod (da_e (de_T call_int1 pn_int T.g_int (by decide +kernel) (das_cons (da_e (de_op op_addB p2_add (da_e (de_op op_addB p2_add (da_e (de_op op_mul p2_mul (da_e (de_ix ix_seq p2_ix (da_v 0) (da_e de_int) (fun _ _ => rfl))) (da_e de_int))) (da_e (de_op op_mul p2_mul (da_e (de_ix ix_seq p2_ix (da_v 0) (da_e de_int) (fun _ _ => rfl))) (da_e de_int))))) (da_e de_int))) das_nil))) (da_e de_int))) (dss_cons (ds_set 3 nd (de_op op_modN p2_mod (da_e (de_T call_int1 pn_int T.g_int (by decide +kernel) (das_cons (da_e (de_op op_addB p2_add (da_e (de_op op_mul p2_mul (da_v 3) (da_e de_int))) (da_e (de_ix ix_seq p2_ix (da_v 0) (da_e de_int) (fun _ _ => rfl))))) das_nil))) (da_e de_int))) (dss_one (ds_ret (de_op op_modN p2_mod (da_e (de_op op_fdivN p2_fdiv (da_v 3) (da_e de_int))) (da_v 1)))))) dss_nil) (dss_cons (ds_set 4 nd (de_op op_modN p2_mod (da_e (de_T call_int1 pn_int T.g_int (by decide +kernel) (das_cons (da_e (de_ix ix_seq p2_ix (da_v 0) (da_e de_int) (fun _ _ => rfl))) das_nil))) (da_v 1))) (dss_cons (ds_setix 0 (de_op op_fdivN p2_fdiv (da_e (de_ix ix_seq p2_ix (da_v 0) (da_e de_int) (fun _ _ => rfl))) (da_v 1)) de_int) (dss_one (ds_ret (de_v 4)))))))))
abbrev s_law_error : Stmt := top 24
theorem sc_law_error : FnScope ["e", "flags", "at", "name"] ["e"] (defScope s_law_error) := ⟨rfl, rfl, rfl, by decide +kernel, rfl, by decide +kernel, by decide +kernel⟩
theorem ok_law_error (T : Txt K mg) : ErrOk P w K mg base 1 :=
  err_of (k := 0) T.d_law_error sc_law_error (fun _ _ F => F.binds fun _ _ _ _ _ _ us hl => match us, hl with | [_], _ => rfl) (fun f cdv A outer s H E p C fe j hr hE hz hf => by
    have nd := sc_law_error.nd
    have hu := roomU hr
    exact err_body (W := ⟨xrE K, E⟩) hE.here.1 (ps_set (i := 1) nd rfl (.inl rfl) (pe_isL (pe_isN 0 (a := p.1) (oe := p.2) hE T.e_ns (List.mem_singleton.mpr rfl) hz hf (by decide) rfl T.g_isinstance) (pe_isN 1 (a := p.1) (oe := p.2) hE T.e_ns (List.mem_singleton.mpr rfl) hz hf (by decide) rfl T.g_isinstance) (pe_isN 2 (a := p.1) (oe := p.2) hE T.e_ns (List.mem_singleton.mpr rfl) hz hf (by decide) rfl T.g_isinstance) (pe_isN 3 (a := p.1) (oe := p.2) hE T.e_ns (List.mem_singleton.mpr rfl) hz hf (by decide) rfl T.g_isinstance) (pe_isN 4 (a := p.1) (oe := p.2) hE T.e_ns (List.mem_singleton.mpr rfl) hz hf (by decide) rfl T.g_isinstance))) (ps_set (i := 1) nd rfl (.inl rfl) (pe_op op_catL (pe_var (i := 1) rfl (.inl rfl)) (pe_isL (pe_isN 5 (a := p.1) (oe := p.2) hE T.e_ns (List.mem_singleton.mpr rfl) hz hf (by decide) rfl T.g_isinstance) (pe_isN 6 (a := p.1) (oe := p.2) hE T.e_ns (List.mem_singleton.mpr rfl) hz hf (by decide) rfl T.g_isinstance) (pe_isN 7 (a := p.1) (oe := p.2) hE T.e_ns (List.mem_singleton.mpr rfl) hz hf (by decide) rfl T.g_isinstance) (pe_isN 8 (a := p.1) (oe := p.2) hE T.e_ns (List.mem_singleton.mpr rfl) hz hf (by decide) rfl T.g_isinstance) (pe_isN 9 (a := p.1) (oe := p.2) hE T.e_ns (List.mem_singleton.mpr rfl) hz hf (by decide) rfl T.g_isinstance)))) (ps_if (pw_or (dt_cmp (op_neB hu) p2_B (da_e (PE.imp (pe_bm PySem.F.plainAttrs_list PySem.F.slot_list_count PySem.F.type_list_count (mt_cntD hu) (da_v 1) (das_cons (da_e de_bl) das_nil)) fun _ _ _ q => ml_imp pm_find q)) (da_e de_int) (nomark _)) (pw_or1 (pt_not (pt_val (pe_isV (a := p.1) (oe := p.2) hE (List.mem_singleton.mpr rfl) hz hf T.g_isinstance T.g_ValueError))))).pt (dss_one (ds_ret (de_tup (dvs_cons de_str (dvs_cons de_str dvs_nil))))) pss_nil) (dss_cons (ds_set 2 nd (PE.imp (pe_bm PySem.F.plainAttrs_list PySem.F.slot_list_index PySem.F.type_list_index (mt_idxD hu) (da_v 1) (das_cons (da_e de_bl) das_nil)) fun _ _ _ q => ml_imp pm_find q)) (dss_cons (ds_set 3 nd (de_ix ix_seq p2_ix (da_e (de_tup (dvs_cons de_str (dvs_cons de_str (dvs_cons de_str (dvs_cons de_str (dvs_cons de_str (dvs_cons de_str (dvs_cons de_str (dvs_cons de_str (dvs_cons de_str (dvs_cons de_str dvs_nil)))))))))))) (da_v 2) (fun _ _ => rfl))) (dss_cons (ds_if (dt_cmp (op_eqB hu) p2_B (da_v 3) (da_e de_str) (nomark _)) (dss_one (ds_ret (de_tup (dvs_cons de_str (dvs_cons (de_v 3) (dvs_cons de_no dvs_nil)))))) dss_nil) (dss_one (ds_ret (de_if (dt_cmp (op_eqB hu) p2_B (da_v 3) (da_e de_str) (nomark _)) (de_tup (dvs_cons de_str (dvs_cons (de_v 3) (dvs_cons de_no dvs_nil)))) (de_tup (dvs_cons de_str (dvs_cons (de_v 3) dvs_nil))))))))))
abbrev s_law_possible : Stmt := top 25
theorem sc_law_possible : FnScope ["intervals", "lies", "runs", "x", "one"] ["intervals", "lies"] (defScope s_law_possible) := ⟨rfl, rfl, rfl, by decide +kernel, rfl, by decide +kernel, by decide +kernel⟩
theorem ok_law_possible (T : Txt K mg) : Cl P w K mg base 1 "_law_possible" 2 (xrE K) f_law_possible :=
  cl_of (N := ["intervals", "lies", "runs", "x", "one"]) (ps := ["intervals", "lies"]) (k := 0) T.d_law_possible sc_law_possible rfl rfl (by decide) (fun _ _ F => F.binds fun _ _ _ _ _ _ us hl => match us, hl with | [_, _], _ => rfl) (fun f cdv A outer s H E hr => by
    have nd := sc_law_possible.nd
    exact (dss_cons (ds_if (dt_cmp (op_geB hr.units) p2_B (da_v 1) (da_e (de_B call_len pn_len T.g_len (by decide +kernel) (das_cons (da_v 0) das_nil))) (nomark _)) (dss_one (ds_ret (de_tup (dvs_cons de_str (dvs_cons de_str dvs_nil))))) dss_nil) (dss_cons (ds_new 2 nd (df_lst dvs_nil)) (dss_cons (ds_for po rfl (di_range2 T.g_range (das_cons (da_e (de_B (cr_min rfl) pn_minL T.g_min (by decide +kernel) (das_cons (da_e (de_fz (df_comp [("one", 4)] rfl rfl nd (di_seq (de_v 0)) (blkOk_by (by kernel_rfl)) ⟨gName 4, fun _ _ _ _ _ => pg_name (i := 4) nd rfl (by first | exact Or.inl rfl | exact Or.inr rfl) (by first | exact .inl rfl | exact .inr rfl), tgr_n 4⟩ (by decide) (fun _ _ _ _ _ => dts_nil) (fun _ _ _ _ _ => (de_ix ix_seq p2_ix (da_v 4) (da_e de_int) (fun _ _ => rfl)))))) das_nil))) (das_cons (da_e (de_op op_addB p2_add (da_e (de_B (cr_max rfl) pn_maxL T.g_max (by decide +kernel) (das_cons (da_e (de_fz (df_comp [("one", 4)] rfl rfl nd (di_seq (de_v 0)) (blkOk_by (by kernel_rfl)) ⟨gName 4, fun _ _ _ _ _ => pg_name (i := 4) nd rfl (by first | exact Or.inl rfl | exact Or.inr rfl) (by first | exact .inl rfl | exact .inr rfl), tgr_n 4⟩ (by decide) (fun _ _ _ _ _ => dts_nil) (fun _ _ _ _ _ => (de_ix ix_seq p2_ix (da_v 4) (da_e de_int) (fun _ _ => rfl)))))) das_nil))) (da_e de_int))) das_nil))) (tg_n 3 nd) (dss_one (ds_if (dt_cmp (op_leB hr.units) p2_B (da_e (de_B call_len pn_len T.g_len (by decide +kernel) (das_cons (da_e (de_fz (df_comp [("one", 4)] rfl rfl nd (di_seq (de_v 0)) (blkOk_by (by kernel_rfl)) ⟨gName 4, fun _ _ _ _ _ => pg_name (i := 4) nd rfl (by first | exact Or.inl rfl | exact Or.inr rfl) (by first | exact .inl rfl | exact .inr rfl), tgr_n 4⟩ (by decide) (fun _ _ _ _ _ => (dts_one (dt_w (dw_or (dt_cmp (op_ltB hr.units) p2_B (da_v 3) (da_e (de_ix ix_seq p2_ix (da_v 4) (da_e de_int) (fun _ _ => rfl))) (nomark _)) (dw_or1 (dt_cmp (op_gtB hr.units) p2_B (da_v 3) (da_e (de_ix ix_seq p2_ix (da_v 4) (da_e de_int) (fun _ _ => rfl))) (nomark _))))))) (fun _ _ _ _ _ => (de_v 4))))) das_nil))) (da_v 1) (nomark _)) (dss_one (ds_if (dt_w (dw_and (dt_cmp (op_neB hr.units) p2_B (da_v 2) (da_e (de_fz (df_lst dvs_nil))) (nomark _)) (dw_and1 (dt_cmp (op_eqB hr.units) p2_B (da_e (de_ix ix_seq p2_ix (da_e (de_ix ix_seq p2_ix (da_v 2) (da_e (de_un un_neg p1_neg (da_e de_int))) (fun _ _ => rfl))) (da_e de_int) (fun _ _ => rfl))) (da_e (de_op op_sub p2_sub (da_v 3) (da_e de_int))) (nomark _))))) (dss_one (ds_setix 2 (de_tup (dvs_cons (de_ix ix_seq p2_ix (da_e (de_ix ix_seq p2_ix (da_v 2) (da_e (de_un un_neg p1_neg (da_e de_int))) (fun _ _ => rfl))) (da_e de_int) (fun _ _ => rfl)) (dvs_cons (de_v 3) dvs_nil))) (de_un un_neg p1_neg (da_e de_int)))) (dss_one (ds_app 2 (pe_bm PySem.F.plainAttrs_list PySem.F.slot_list_append PySem.F.type_list_append mt_append (pv 2) (pa_cons (de_tup (dvs_cons (de_v 3) (dvs_cons (de_v 3) dvs_nil))) pa_nil)))))) dss_nil))) (dss_one (ds_ret (de_T call_tuple_of pn_tuple T.g_tuple (by decide +kernel) (das_cons (da_v 2) das_nil))))))))
abbrev s_law_hours_for : Stmt := top 26
theorem sc_law_hours_for : FnScope ["reading", "drift", "good", "e"] ["reading", "drift"] (defScope s_law_hours_for) := ⟨rfl, rfl, rfl, by decide +kernel, rfl, by decide +kernel, by decide +kernel⟩
theorem ok_law_hours_for (T : Txt K mg) : Cl P w K mg base 1 "_law_hours_for" 2 (xrE K) f_law_hours_for :=
  cl_of (N := ["reading", "drift", "good", "e"]) (ps := ["reading", "drift"]) (k := 0) T.d_law_hours_for sc_law_hours_for rfl rfl (by decide) (fun _ _ F => F.binds fun _ _ _ _ _ _ us hl => match us, hl with | [_, _], _ => rfl) (fun f cdv A outer s H E hr => by
    have nd := sc_law_hours_for.nd
    exact (dss_cons (ds_setLc 2 [("e", 3)] rfl rfl nd (di_range2 T.g_range (das_cons (da_e (de_op op_fdivN p2_fdiv (da_v 0) (da_e de_int))) (das_cons (da_e (de_op op_addB p2_add (da_e (de_op op_mul p2_mul (da_e de_int) (da_v 0))) (da_e de_int))) das_nil))) (blkOk_by (by kernel_rfl)) ⟨gName 3, fun _ _ _ _ _ => pg_name (i := 3) nd rfl (by first | exact Or.inl rfl | exact Or.inr rfl) (by first | exact .inl rfl | exact .inr rfl), tgr_n 3⟩ (by decide) (fun _ _ _ _ _ => (dts_one (dt_w (dw_and (dt_cmp (op_leB hr.units) p2_B (da_e (de_op op_mul p2_mul (da_v 3) (da_e (de_op op_sub p2_sub (da_e de_int) (da_v 1))))) (da_e (de_op op_mul p2_mul (da_e de_int) (da_v 0))) (nomark _)) (dw_and1 (dt_cmp (op_leB hr.units) p2_B (da_e (de_op op_mul p2_mul (da_e de_int) (da_v 0))) (da_e (de_op op_mul p2_mul (da_v 3) (da_e (de_op op_addB p2_add (da_e de_int) (da_v 1))))) (nomark _))))))) (fun _ _ _ _ _ => (de_v 3)) (sw_true rfl rfl rfl (by decide +kernel))) (dss_one (ds_ret (de_tup (dvs_cons (de_ix ix_seq p2_ix (da_v 2) (da_e de_int) (fun _ _ => rfl)) (dvs_cons (de_ix ix_seq p2_ix (da_v 2) (da_e (de_un un_neg p1_neg (da_e de_int))) (fun _ _ => rfl)) dvs_nil)))))))
abbrev s_law_told : Stmt := top 27
theorem sc_law_told : FnScope ["readings", "drifts", "lies", "e"] ["readings", "drifts", "lies"] (defScope s_law_told) := ⟨rfl, rfl, rfl, by decide +kernel, rfl, by decide +kernel, by decide +kernel⟩
theorem ok_law_told (T : Txt K mg) : Cl P w K mg base 4 "_law_told" 3 (xrE K) f_law_told_v30 :=
  cl_of (N := ["readings", "drifts", "lies", "e"]) (ps := ["readings", "drifts", "lies"]) (k := 3) T.d_law_told sc_law_told rfl rfl (by decide) (fun _ _ F => F.binds fun _ _ _ _ _ _ us hl => match us, hl with | [_, _, _], _ => rfl) (fun f cdv A outer s H E hr => by
    have nd := sc_law_told.nd
    exact (dss_one (ds_told (ok_law_error T) (hr.mono (by omega)) 3 nd tkN T.e_ns (fun E' pn xe pt => (dss_one (ds_ret (de_cl (ok_fused_hours T) (hr.mono (by omega)) (L2N.passes_call pt (fun _ _ _ _ h => h)) (das_cons (da_e (de_v 0)) (das_cons (da_e (de_v 1)) (das_cons (da_e (de_v 2)) das_nil))) (aLen_cons (aLen_cons (aLen_cons aLen_nil))))))) T.e_base)))
abbrev s_law : Stmt := top 28
theorem sc_law : FnScope ["script", "pool", "turn", "hours", "many", "drifts", "k", "readings", "wrong", "low", "reading", "span", "spans", "lies", "due", "told", "run"] ["script"] (defScope s_law) := ⟨rfl, rfl, rfl, by decide +kernel, rfl, by decide +kernel, by decide +kernel⟩
theorem ok_law (T : Txt K mg) {f : Addr} {fd : FuncData} (F : Fun K "law" "law" s_law f fd) : FnOk P w K mg base (L2N.CX P w) 14 f fd ["script"] (SpOf K (xrE K) 1 f_law_k58) :=
  def_ok F sc_law rfl rfl (by decide) (fun cdv A outer s H E hr => by
    have nd := sc_law.nd
    exact (dss_cons (ds_new 1 nd (df_cl (ok_law_pool T) (hr.mono (by omega)) px (das_cons (da_e (de_v 0)) das_nil) (aLen_cons aLen_nil))) (dss_cons (ds_for po rfl (di_range1 T.g_range (das_cons (da_e de_int) das_nil)) (tg_n 2 nd) (dss_cons (ds_set 3 nd (de_cl (ok_law_draw T) (hr.mono (by omega)) px (das_cons (da_r 1) (das_cons (da_e (de_ix ix_seq p2_ix (da_e (de_tup (dvs_cons de_int (dvs_cons de_int dvs_nil)))) (da_e (de_cl (ok_law_draw T) (hr.mono (by omega)) px (das_cons (da_r 1) (das_cons (da_e de_int) das_nil)) (aLen_cons (aLen_cons aLen_nil)))) (fun _ _ => rfl))) das_nil)) (aLen_cons (aLen_cons aLen_nil)))) (dss_cons (ds_set 4 nd (de_op op_addB p2_add (da_e de_int) (da_e (de_cl (ok_law_draw T) (hr.mono (by omega)) px (das_cons (da_r 1) (das_cons (da_e de_int) das_nil)) (aLen_cons (aLen_cons aLen_nil)))))) (dss_cons (ds_set 5 nd (de_T call_tuple_of pn_tuple T.g_tuple (by decide +kernel) (das_cons (da_e (de_fz (df_comp [("k", 6)] rfl rfl nd (di_range1 T.g_range (das_cons (da_v 4) das_nil)) (blkOk_by (by kernel_rfl)) ⟨gName 6, fun _ _ _ _ _ => pg_name (i := 6) nd rfl (by first | exact Or.inl rfl | exact Or.inr rfl) (by first | exact .inl rfl | exact .inr rfl), tgr_n 6⟩ (by decide) (fun _ _ _ _ _ => dts_nil) (fun _ _ _ _ _ => (de_ix ix_seq p2_ix (da_e (de_tup (dvs_cons de_int (dvs_cons de_int (dvs_cons de_int (dvs_cons (de_cl (ok_law_draw T) (hr.mono (by omega)) passN (das_cons (da_r 1) (das_cons (da_e de_int) das_nil)) (aLen_cons (aLen_cons aLen_nil))) dvs_nil)))))) (da_e (de_cl (ok_law_draw T) (hr.mono (by omega)) passN (das_cons (da_r 1) (das_cons (da_e de_int) das_nil)) (aLen_cons (aLen_cons aLen_nil)))) (fun _ _ => rfl)))))) das_nil))) (dss_cons (ds_new 7 nd (df_lst dvs_nil)) (dss_cons (ds_set 8 nd de_int) (dss_cons (ds_for po rfl (di_range1 T.g_range (das_cons (da_v 4) das_nil)) (tg_n 6 nd) (dss_cons (ds_set 9 nd (de_op op_fdivN p2_fdiv (da_e (de_op op_mul p2_mul (da_v 3) (da_e (de_op op_sub p2_sub (da_e de_int) (da_e (de_ix ix_seq p2_ix (da_v 5) (da_v 6) (fun _ _ => rfl))))))) (da_e de_int))) (dss_cons (ds_set 10 nd (de_op op_addB p2_add (da_v 9) (da_e (de_cl (ok_law_draw T) (hr.mono (by omega)) px (das_cons (da_r 1) (das_cons (da_e (de_op op_addB p2_add (da_e de_int) (da_e (de_op op_fdivN p2_fdiv (da_e (de_op op_mul p2_mul (da_v 3) (da_e (de_ix ix_seq p2_ix (da_v 5) (da_v 6) (fun _ _ => rfl))))) (da_e de_int))))) das_nil)) (aLen_cons (aLen_cons aLen_nil)))))) (dss_cons (ds_app 7 (pe_bm PySem.F.plainAttrs_list PySem.F.slot_list_append PySem.F.type_list_append mt_append (pv 7) (pa_cons (de_v 10) pa_nil))) (dss_cons (ds_set 11 nd (de_cl (ok_law_hours_for T) (hr.mono (by omega)) px (das_cons (da_e (de_v 10)) (das_cons (da_e (de_ix ix_seq p2_ix (da_v 5) (da_v 6) (fun _ _ => rfl))) das_nil)) (aLen_cons (aLen_cons aLen_nil)))) (dss_one (ds_set 8 nd (de_op op_addB p2_add (da_v 8) (da_e (de_T call_int1 pn_int T.g_int (by decide +kernel) (das_cons (da_e (de_or (de_cmp (op_ltB hr.units) p2_B (da_v 3) (da_e (de_ix ix_seq p2_ix (da_v 11) (da_e de_int) (fun _ _ => rfl))) (nomark _)) (de_one (de_cmp (op_gtB hr.units) p2_B (da_v 3) (da_e (de_ix ix_seq p2_ix (da_v 11) (da_e de_int) (fun _ _ => rfl))) (nomark _))))) das_nil))))))))))) (dss_cons (ds_set 12 nd (de_T call_tuple_of pn_tuple T.g_tuple (by decide +kernel) (das_cons (da_e (de_fz (df_comp [("k", 6)] rfl rfl nd (di_range1 T.g_range (das_cons (da_v 4) das_nil)) (blkOk_by (by kernel_rfl)) ⟨gName 6, fun _ _ _ _ _ => pg_name (i := 6) nd rfl (by first | exact Or.inl rfl | exact Or.inr rfl) (by first | exact .inl rfl | exact .inr rfl), tgr_n 6⟩ (by decide) (fun _ _ _ _ _ => dts_nil) (fun _ _ _ _ _ => (de_cl (ok_law_hours_for T) (hr.mono (by omega)) passN (das_cons (da_e (de_ix ix_seq p2_ix (da_v 7) (da_v 6) (fun _ _ => rfl))) (das_cons (da_e (de_ix ix_seq p2_ix (da_v 5) (da_v 6) (fun _ _ => rfl))) das_nil)) (aLen_cons (aLen_cons aLen_nil))))))) das_nil))) (dss_one (ds_for po rfl (di_range1 T.g_range (das_cons (da_e (de_op op_addB p2_add (da_v 4) (da_e de_int))) das_nil)) (tg_n 13 nd) (dss_cons (ds_set 14 nd (de_cl (ok_law_possible T) (hr.mono (by omega)) px (das_cons (da_e (de_v 12)) (das_cons (da_e (de_v 13)) das_nil)) (aLen_cons (aLen_cons aLen_nil)))) (dss_cons (ds_set 15 nd (de_cl (ok_law_told T) (hr.mono (by omega)) px (das_cons (da_e (de_T call_tuple_of pn_tuple T.g_tuple (by decide +kernel) (das_cons (da_v 7) das_nil))) (das_cons (da_e (de_v 5)) (das_cons (da_e (de_v 13)) das_nil))) (aLen_cons (aLen_cons (aLen_cons aLen_nil))))) (dss_cons (ds_if (dt_not (dt_val (de_cl (ok_law_same T 12) (hr.mono (by omega)) px (das_cons (da_e (de_v 15)) (das_cons (da_e (de_v 14)) das_nil)) (aLen_cons (aLen_cons aLen_nil))))) (dss_one (ds_ret de_bl)) dss_nil) (dss_one (ds_if (dt_w (dw_and (dt_cmp (op_leB hr.units) p2_B (da_v 8) (da_v 13) (nomark _)) (dw_and (dt_cmp (op_ltB hr.units) p2_B (da_v 13) (da_v 4) (nomark _)) (dw_and1 (dt_cmp (op_neB hr.units) p2_B (da_e (de_B call_len pn_len T.g_len (by decide +kernel) (das_cons (da_e (de_fz (df_comp [("run", 16)] rfl rfl nd (di_seq (de_v 15)) (blkOk_by (by kernel_rfl)) ⟨gName 16, fun _ _ _ _ _ => pg_name (i := 16) nd rfl (by first | exact Or.inl rfl | exact Or.inr rfl) (by first | exact .inl rfl | exact .inr rfl), tgr_n 16⟩ (by decide) (fun _ _ _ _ _ => (dts_one (dt_w (dw_and (dt_cmp (op_leB hr.units) p2_B (da_e (de_ix ix_seq p2_ix (da_v 16) (da_e de_int) (fun _ _ => rfl))) (da_v 3) (nomark _)) (dw_and1 (dt_cmp (op_leB hr.units) p2_B (da_v 3) (da_e (de_ix ix_seq p2_ix (da_v 16) (da_e de_int) (fun _ _ => rfl))) (nomark _))))))) (fun _ _ _ _ _ => (de_v 16))))) das_nil))) (da_e de_int) (nomark _)))))) (dss_one (ds_ret de_bl)) dss_nil))))))))))))))) (dss_one (ds_ret de_bl)))))
end
theorem txt_mk {K : PySem.W.Frag} {h : Heap} {mg : Str → Option Value} (X : K.In h) (G : h.Ns mainGlobals mg) (z_ValueError : PySem.W.nsIn K mainGlobals "ValueError" = some none)
    (z_bool : PySem.W.nsIn K mainGlobals "bool" = some none)
    (z_int : PySem.W.nsIn K mainGlobals "int" = some none)
    (z_isinstance : PySem.W.nsIn K mainGlobals "isinstance" = some none)
    (z_len : PySem.W.nsIn K mainGlobals "len" = some none)
    (z_list : PySem.W.nsIn K mainGlobals "list" = some none)
    (z_max : PySem.W.nsIn K mainGlobals "max" = some none)
    (z_min : PySem.W.nsIn K mainGlobals "min" = some none)
    (z_range : PySem.W.nsIn K mainGlobals "range" = some none)
    (z_sorted : PySem.W.nsIn K mainGlobals "sorted" = some none)
    (z_str : PySem.W.nsIn K mainGlobals "str" = some none)
    (z_tuple : PySem.W.nsIn K mainGlobals "tuple" = some none)
    (z_zip : PySem.W.nsIn K mainGlobals "zip" = some none)
    {f0 : Addr} {oc0 kV0 dc0 pm0 cd0 ct0 : Value} {od0 an0 : Option Addr} {sl0 : Array (Option Value)} (a0 : PySem.W.nsIn K mainGlobals "inside" = some (some (.ref f0))) (l0 : K.lookup f0 = some ⟨oc0, od0, .func (PySem.W.fnOf "inside" "inside" (defArgs (top 13)) (defBody (top 13)) (defScope (top 13)) .none kV0 dc0 pm0 an0 cd0 ct0), sl0⟩) (c0 : PySem.W.codeIn K cd0 "inside" = true) (k0 : PySem.W.keepIn K (.ref f0) = true)
    {f1 : Addr} {oc1 kV1 dc1 pm1 cd1 ct1 : Value} {od1 an1 : Option Addr} {sl1 : Array (Option Value)} (a1 : PySem.W.nsIn K mainGlobals "joined" = some (some (.ref f1))) (l1 : K.lookup f1 = some ⟨oc1, od1, .func (PySem.W.fnOf "joined" "joined" (defArgs (top 14)) (defBody (top 14)) (defScope (top 14)) .none kV1 dc1 pm1 an1 cd1 ct1), sl1⟩) (c1 : PySem.W.codeIn K cd1 "joined" = true) (k1 : PySem.W.keepIn K (.ref f1) = true)
    {f2 : Addr} {oc2 kV2 dc2 pm2 cd2 ct2 : Value} {od2 an2 : Option Addr} {sl2 : Array (Option Value)} (a2 : PySem.W.nsIn K mainGlobals "possible" = some (some (.ref f2))) (l2 : K.lookup f2 = some ⟨oc2, od2, .func (PySem.W.fnOf "possible" "possible" (defArgs (top 15)) (defBody (top 15)) (defScope (top 15)) .none kV2 dc2 pm2 an2 cd2 ct2), sl2⟩) (c2 : PySem.W.codeIn K cd2 "possible" = true) (k2 : PySem.W.keepIn K (.ref f2) = true)
    {f3 : Addr} {oc3 kV3 dc3 pm3 cd3 ct3 : Value} {od3 an3 : Option Addr} {sl3 : Array (Option Value)} (a3 : PySem.W.nsIn K mainGlobals "hours_for" = some (some (.ref f3))) (l3 : K.lookup f3 = some ⟨oc3, od3, .func (PySem.W.fnOf "hours_for" "hours_for" (defArgs (top 17)) (defBody (top 17)) (defScope (top 17)) .none kV3 dc3 pm3 an3 cd3 ct3), sl3⟩) (c3 : PySem.W.codeIn K cd3 "hours_for" = true) (k3 : PySem.W.keepIn K (.ref f3) = true)
    {f4 : Addr} {oc4 kV4 dc4 pm4 cd4 ct4 : Value} {od4 an4 : Option Addr} {sl4 : Array (Option Value)} (a4 : PySem.W.nsIn K mainGlobals "fused_hours" = some (some (.ref f4))) (l4 : K.lookup f4 = some ⟨oc4, od4, .func (PySem.W.fnOf "fused_hours" "fused_hours" (defArgs (top 18)) (defBody (top 18)) (defScope (top 18)) .none kV4 dc4 pm4 an4 cd4 ct4), sl4⟩) (c4 : PySem.W.codeIn K cd4 "fused_hours" = true) (k4 : PySem.W.keepIn K (.ref f4) = true)
    {f5 : Addr} {oc5 kV5 dc5 pm5 cd5 ct5 : Value} {od5 an5 : Option Addr} {sl5 : Array (Option Value)} (a5 : PySem.W.nsIn K mainGlobals "_law_same" = some (some (.ref f5))) (l5 : K.lookup f5 = some ⟨oc5, od5, .func (PySem.W.fnOf "_law_same" "_law_same" (defArgs (top 20)) (defBody (top 20)) (defScope (top 20)) .none kV5 dc5 pm5 an5 cd5 ct5), sl5⟩) (c5 : PySem.W.codeIn K cd5 "_law_same" = true) (k5 : PySem.W.keepIn K (.ref f5) = true)
    {f6 : Addr} {oc6 kV6 dc6 pm6 cd6 ct6 : Value} {od6 an6 : Option Addr} {sl6 : Array (Option Value)} (a6 : PySem.W.nsIn K mainGlobals "_law_pool" = some (some (.ref f6))) (l6 : K.lookup f6 = some ⟨oc6, od6, .func (PySem.W.fnOf "_law_pool" "_law_pool" (defArgs (top 21)) (defBody (top 21)) (defScope (top 21)) .none kV6 dc6 pm6 an6 cd6 ct6), sl6⟩) (c6 : PySem.W.codeIn K cd6 "_law_pool" = true) (k6 : PySem.W.keepIn K (.ref f6) = true)
    {f7 : Addr} {oc7 kV7 dc7 pm7 cd7 ct7 : Value} {od7 an7 : Option Addr} {sl7 : Array (Option Value)} (a7 : PySem.W.nsIn K mainGlobals "_law_spread" = some (some (.ref f7))) (l7 : K.lookup f7 = some ⟨oc7, od7, .func (PySem.W.fnOf "_law_spread" "_law_spread" (defArgs (top 22)) (defBody (top 22)) (defScope (top 22)) .none kV7 dc7 pm7 an7 cd7 ct7), sl7⟩) (c7 : PySem.W.codeIn K cd7 "_law_spread" = true) (k7 : PySem.W.keepIn K (.ref f7) = true)
    {f8 : Addr} {oc8 kV8 dc8 pm8 cd8 ct8 : Value} {od8 an8 : Option Addr} {sl8 : Array (Option Value)} (a8 : PySem.W.nsIn K mainGlobals "_law_draw" = some (some (.ref f8))) (l8 : K.lookup f8 = some ⟨oc8, od8, .func (PySem.W.fnOf "_law_draw" "_law_draw" (defArgs (top 23)) (defBody (top 23)) (defScope (top 23)) .none kV8 dc8 pm8 an8 cd8 ct8), sl8⟩) (c8 : PySem.W.codeIn K cd8 "_law_draw" = true) (k8 : PySem.W.keepIn K (.ref f8) = true)
    {f9 : Addr} {oc9 kV9 dc9 pm9 cd9 ct9 : Value} {od9 an9 : Option Addr} {sl9 : Array (Option Value)} (a9 : PySem.W.nsIn K mainGlobals "_law_error" = some (some (.ref f9))) (l9 : K.lookup f9 = some ⟨oc9, od9, .func (PySem.W.fnOf "_law_error" "_law_error" (defArgs (top 24)) (defBody (top 24)) (defScope (top 24)) .none kV9 dc9 pm9 an9 cd9 ct9), sl9⟩) (c9 : PySem.W.codeIn K cd9 "_law_error" = true) (k9 : PySem.W.keepIn K (.ref f9) = true)
    {f10 : Addr} {oc10 kV10 dc10 pm10 cd10 ct10 : Value} {od10 an10 : Option Addr} {sl10 : Array (Option Value)} (a10 : PySem.W.nsIn K mainGlobals "_law_possible" = some (some (.ref f10))) (l10 : K.lookup f10 = some ⟨oc10, od10, .func (PySem.W.fnOf "_law_possible" "_law_possible" (defArgs (top 25)) (defBody (top 25)) (defScope (top 25)) .none kV10 dc10 pm10 an10 cd10 ct10), sl10⟩) (c10 : PySem.W.codeIn K cd10 "_law_possible" = true) (k10 : PySem.W.keepIn K (.ref f10) = true)
    {f11 : Addr} {oc11 kV11 dc11 pm11 cd11 ct11 : Value} {od11 an11 : Option Addr} {sl11 : Array (Option Value)} (a11 : PySem.W.nsIn K mainGlobals "_law_hours_for" = some (some (.ref f11))) (l11 : K.lookup f11 = some ⟨oc11, od11, .func (PySem.W.fnOf "_law_hours_for" "_law_hours_for" (defArgs (top 26)) (defBody (top 26)) (defScope (top 26)) .none kV11 dc11 pm11 an11 cd11 ct11), sl11⟩) (c11 : PySem.W.codeIn K cd11 "_law_hours_for" = true) (k11 : PySem.W.keepIn K (.ref f11) = true)
    {f12 : Addr} {oc12 kV12 dc12 pm12 cd12 ct12 : Value} {od12 an12 : Option Addr} {sl12 : Array (Option Value)} (a12 : PySem.W.nsIn K mainGlobals "_law_told" = some (some (.ref f12))) (l12 : K.lookup f12 = some ⟨oc12, od12, .func (PySem.W.fnOf "_law_told" "_law_told" (defArgs (top 27)) (defBody (top 27)) (defScope (top 27)) .none kV12 dc12 pm12 an12 cd12 ct12), sl12⟩) (c12 : PySem.W.codeIn K cd12 "_law_told" = true) (k12 : PySem.W.keepIn K (.ref f12) = true)
    {f13 : Addr} {oc13 kV13 dc13 pm13 cd13 ct13 : Value} {od13 an13 : Option Addr} {sl13 : Array (Option Value)} (a13 : PySem.W.nsIn K mainGlobals "law" = some (some (.ref f13))) (l13 : K.lookup f13 = some ⟨oc13, od13, .func (PySem.W.fnOf "law" "law" (defArgs (top 28)) (defBody (top 28)) (defScope (top 28)) .none kV13 dc13 pm13 an13 cd13 ct13), sl13⟩) (c13 : PySem.W.codeIn K cd13 "law" = true) (k13 : PySem.W.keepIn K (.ref f13) = true)
    (z_ejs : errsB K [0] = true)
    (z_eb : (clsAt K "FieldError").isSome = true) : Txt K mg :=
  { g_ValueError := PySem.W.mg_none_of X G z_ValueError,
    g_bool := PySem.W.mg_none_of X G z_bool,
    g_int := PySem.W.mg_none_of X G z_int,
    g_isinstance := PySem.W.mg_none_of X G z_isinstance,
    g_len := PySem.W.mg_none_of X G z_len,
    g_list := PySem.W.mg_none_of X G z_list,
    g_max := PySem.W.mg_none_of X G z_max,
    g_min := PySem.W.mg_none_of X G z_min,
    g_range := PySem.W.mg_none_of X G z_range,
    g_sorted := PySem.W.mg_none_of X G z_sorted,
    g_str := PySem.W.mg_none_of X G z_str,
    g_tuple := PySem.W.mg_none_of X G z_tuple,
    g_zip := PySem.W.mg_none_of X G z_zip,
    d_inside := df_mk X G a0 l0 c0 k0,
    d_joined := df_mk X G a1 l1 c1 k1,
    d_possible := df_mk X G a2 l2 c2 k2,
    d_hours_for := df_mk X G a3 l3 c3 k3,
    d_fused_hours := df_mk X G a4 l4 c4 k4,
    d_law_same := df_mk X G a5 l5 c5 k5,
    d_law_pool := df_mk X G a6 l6 c6 k6,
    d_law_spread := df_mk X G a7 l7 c7 k7,
    d_law_draw := df_mk X G a8 l8 c8 k8,
    d_law_error := df_mk X G a9 l9 c9 k9,
    d_law_possible := df_mk X G a10 l10 c10 k10,
    d_law_hours_for := df_mk X G a11 l11 c11 k11,
    d_law_told := df_mk X G a12 l12 c12 k12,
    d_law := df_mk X G a13 l13 c13 k13,
    e_ns := fun _ _ a => PySem.W.mg_of X G a,
    e_js := z_ejs,
    e_base := z_eb }
end Wk58
open PySem PySem.W PyProof.Rows
set_option maxRecDepth 100000 in
set_option maxHeartbeats 0 in
theorem PySem.Challenge.cw_fieldtold_k58_fused_hours_of_clocks_holds : PySem.Challenge.rw_fieldtold_k58_fused_hours_of_clocks.Holds := by
  w_on; o_law; k_head; (case hw => w_witness2)
  k_fill
  refine Ft.walk_law (l := PySem.Challenge.rw_fieldtold_k58_fused_hours_of_clocks) (k := 14) (g := Ft.f_law_k58) (xr := Ft.xrE) rfl rfl ⟨rfl, by decide, by decide⟩ (fun w h Y => PySem.W.kIn_of Y) (fun w => by first | rfl | k_is) Ft.plain_law_k58 ?F
  case F =>
    intro w mg fa h KX G hmg
    have T := by
      refine' Wk58.txt_mk KX G ?z_ValueError ?z_bool ?z_int ?z_isinstance ?z_len ?z_list ?z_max ?z_min ?z_range ?z_sorted ?z_str ?z_tuple ?z_zip ?a0 ?l0 ?c0 ?k0 ?a1 ?l1 ?c1 ?k1 ?a2 ?l2 ?c2 ?k2 ?a3 ?l3 ?c3 ?k3 ?a4 ?l4 ?c4 ?k4 ?a5 ?l5 ?c5 ?k5 ?a6 ?l6 ?c6 ?k6 ?a7 ?l7 ?c7 ?k7 ?a8 ?l8 ?c8 ?k8 ?a9 ?l9 ?c9 ?k9 ?a10 ?l10 ?c10 ?k10 ?a11 ?l11 ?c11 ?k11 ?a12 ?l12 ?c12 ?k12 ?a13 ?l13 ?c13 ?k13 ?z_ejs ?z_eb
      (case z_ValueError => k_is)
      (case z_bool => k_is)
      (case z_int => k_is)
      (case z_isinstance => k_is)
      (case z_len => k_is)
      (case z_list => k_is)
      (case z_max => k_is)
      (case z_min => k_is)
      (case z_range => k_is)
      (case z_sorted => k_is)
      (case z_str => k_is)
      (case z_tuple => k_is)
      (case z_zip => k_is)
      (case a0 => k_is)
      (case l0 => k_is)
      (case c0 => k_is)
      (case k0 => k_is)
      (case a1 => k_is)
      (case l1 => k_is)
      (case c1 => k_is)
      (case k1 => k_is)
      (case a2 => k_is)
      (case l2 => k_is)
      (case c2 => k_is)
      (case k2 => k_is)
      (case a3 => k_is)
      (case l3 => k_is)
      (case c3 => k_is)
      (case k3 => k_is)
      (case a4 => k_is)
      (case l4 => k_is)
      (case c4 => k_is)
      (case k4 => k_is)
      (case a5 => k_is)
      (case l5 => k_is)
      (case c5 => k_is)
      (case k5 => k_is)
      (case a6 => k_is)
      (case l6 => k_is)
      (case c6 => k_is)
      (case k6 => k_is)
      (case a7 => k_is)
      (case l7 => k_is)
      (case c7 => k_is)
      (case k7 => k_is)
      (case a8 => k_is)
      (case l8 => k_is)
      (case c8 => k_is)
      (case k8 => k_is)
      (case a9 => k_is)
      (case l9 => k_is)
      (case c9 => k_is)
      (case k9 => k_is)
      (case a10 => k_is)
      (case l10 => k_is)
      (case c10 => k_is)
      (case k10 => k_is)
      (case a11 => k_is)
      (case l11 => k_is)
      (case c11 => k_is)
      (case k11 => k_is)
      (case a12 => k_is)
      (case l12 => k_is)
      (case c12 => k_is)
      (case k12 => k_is)
      (case a13 => k_is)
      (case l13 => k_is)
      (case c13 => k_is)
      (case k13 => k_is)
      (case z_ejs => kernel_rfl)
      (case z_eb => kernel_rfl)
    exact Ft.law_fn (st := Wk58.top 28) T.d_law hmg (fun _ _ _ _ _ _ us hl => match us, hl with | [_], _ => rfl) (fun base _ _ f fd F => Wk58.ok_law T F)
#print axioms PySem.Challenge.cw_fieldtold_k58_fused_hours_of_clocks_holds
