import PyProof.Rows.All
import Wide.All
import OpenK.AllK
import Wide.FinOn
import HandS.ForMost
import HandS.Exc
import HandS.ExcInit
import HandS.ExcField
import HandS.TryOnly
import HandS.ExcOwn
import HandS.WordsExc
import HandS.ClsMeth
import HandS.TupMul
import HandS.Wide
import HandS.TupAny
import HandS.IsInst
import HandS.Zip
import HandS.Rev
import HandS.Style
import HandS.Conv
import HandS.Property
import HandS.Dict
import HandS.Deep
import HandS.WordsDict
import HandS.SortInts
import HandS.OwnEq
import KE.RegKIsAll
import HandS.Star
import HandS.Iter
import PySem.Challenge.RW_pricedrules_k71_shapes_of_rules
set_option Elab.async false
set_option linter.all false
set_option maxRecDepth 100000
/-! Ev: plain values for a program's run, over the hand layer. A: values, what stands for them, the state. -/
set_option autoImplicit false
namespace Ev
open PySem PySem.Spec PyProof.Rows L2
abbrev St := L2.St

/-- a plain value -/
inductive D where
  | non | bl (b : Bool) | int (i : Int) | str (s : Str)
  | tup (xs : List D) | lst (xs : List D)
  | rol (xs : List D)
  /-- an instance of the class at C: the names of its attributes, what they hold -/
  | ins (C : Addr) (ks : List Str) (ds : List D)
  /-- a dict, keys ints and texts -/
  | dct (ks : List Key) (ds : List D)
  /-- a dict, keys tuples of these -/
  | dtt (ks : List (List Key)) (ds : List D)
  deriving Inhabited

mutual
/-- v stands, in the frozen heap F, for the plain value -/
inductive Rep (K : PySem.W.Frag) (F : Hp) : V → D → Prop
  | non : Rep K F .non .non
  | bl (b : Bool) : Rep K F (.bl b) (.bl b)
  | int (i : Int) : Rep K F (.int i) (.int i)
  | str (x : Str) : Rep K F (.str x) (.str x)
  | tup {a : Addr} {vs : List V} {ds : List D} : F a = some (.tup vs) → Reps K F vs ds → Rep K F (.ref a) (.tup ds)
  | lst {a : Addr} {vs : List V} {ds : List D} : F a = some (.lst vs) → Reps K F vs ds → Rep K F (.ref a) (.lst ds)
  | rol {a : Addr} {vs : List V} {ds : List D} : SqL K F a vs → Reps K F vs ds → Rep K F (.ref a) (.rol ds)
  | ins {a C dx : Addr} {ks : List Str} {vs : List V} {ds : List D} : F a = some (.ins C dx (ks.zip vs)) → ks.length = vs.length → Reps K F vs ds → Rep K F (.ref a) (.ins C ks ds)
  | dct {a : Addr} {ks : List Key} {vs : List V} {ds : List D} : F a = some (.dK (ks.zip vs)) → ks.length = vs.length → Reps K F vs ds → Rep K F (.ref a) (.dct ks ds)
  | dtt {a : Addr} {ks : List (List Key)} {vs : List V} {ds : List D} : F a = some (.dT (ks.zip vs)) → ks.length = vs.length → Reps K F vs ds → Rep K F (.ref a) (.dtt ks ds)
inductive Reps (K : PySem.W.Frag) (F : Hp) : List V → List D → Prop
  | nil : Reps K F [] []
  | cons {v : V} {d : D} {vs : List V} {ds : List D} : Rep K F v d → Reps K F vs ds → Reps K F (v :: vs) (d :: ds)
end

theorem sameRd {H H' : Hp} {a : Addr} {u : HO} (e : Same H H') (h : Rd H a u) : Rd H' a u := by
  rcases h with h | ⟨o, h⟩
  · exact .inl (e a _ h)
  · exact .inr ⟨o, e a _ h⟩
theorem sameL {K : PySem.W.Frag} {H H' : Hp} {a : Addr} {xs : List V} (e : Same H H') (h : SqL K H a xs) : SqL K H' a xs := by
  rcases h with h | h
  · exact .inl (sameRd e h)
  · exact .inr h
theorem sameT {K : PySem.W.Frag} {H H' : Hp} {a : Addr} {xs : List V} (e : Same H H') (h : SqT K H a xs) : SqT K H' a xs := by
  rcases h with h | h
  · exact .inl (sameRd e h)
  · exact .inr h

mutual
theorem Rep.mono {K : PySem.W.Frag} {F F' : Hp} (e : Same F F') : ∀ {v : V} {d : D}, Rep K F v d → Rep K F' v d
  | _, _, .non => .non
  | _, _, .bl b => .bl b
  | _, _, .int i => .int i
  | _, _, .str x => .str x
  | _, _, .tup h r => .tup (e _ _ h) (Reps.mono e r)
  | _, _, .lst h r => .lst (e _ _ h) (Reps.mono e r)
  | _, _, .rol h r => .rol (sameL e h) (Reps.mono e r)
  | _, _, .ins h l r => .ins (e _ _ h) l (Reps.mono e r)
  | _, _, .dct h l r => .dct (e _ _ h) l (Reps.mono e r)
  | _, _, .dtt h l r => .dtt (e _ _ h) l (Reps.mono e r)
theorem Reps.mono {K : PySem.W.Frag} {F F' : Hp} (e : Same F F') : ∀ {vs : List V} {ds : List D}, Reps K F vs ds → Reps K F' vs ds
  | _, _, .nil => .nil
  | _, _, .cons h r => .cons (Rep.mono e h) (Reps.mono e r)
end
section
variable {K : PySem.W.Frag} {F : Hp} {vs ws : List V} {ds es : List D}
theorem Reps.length : ∀ {vs : List V} {ds : List D}, Reps K F vs ds → vs.length = ds.length
  | _, _, .nil => rfl
  | _, _, .cons _ r => congrArg (· + 1) (Reps.length r)
theorem Reps.append : ∀ {vs : List V} {ds : List D}, Reps K F vs ds → Reps K F ws es → Reps K F (vs ++ ws) (ds ++ es)
  | _, _, .nil, q => q
  | _, _, .cons h r, q => .cons h (Reps.append r q)
theorem Reps.get : ∀ {vs : List V} {ds : List D} {i : Nat} {d : D}, Reps K F vs ds → ds[i]? = some d → ∃ v, vs[i]? = some v ∧ Rep K F v d
  | _, _, _, _, .nil, e => by simp at e
  | _, _, 0, _, .cons h _, e => by simp at e; subst e; exact ⟨_, rfl, h⟩
  | _, _, i + 1, d, .cons _ r, e => by
    obtain ⟨v, h1, h2⟩ := Reps.get (i := i) (d := d) r (by simpa using e)
    exact ⟨v, by simpa using h1, h2⟩
theorem Reps.set {v : V} {d : D} (h : Rep K F v d) : ∀ {vs : List V} {ds : List D} (i : Nat), Reps K F vs ds → Reps K F (vs.set i v) (ds.set i d)
  | _, _, _, .nil => .nil
  | _, _, 0, .cons _ r => .cons h r
  | _, _, i + 1, .cons q r => .cons q (Reps.set h i r)
theorem Reps.take : ∀ {vs : List V} {ds : List D} (n : Nat), Reps K F vs ds → Reps K F (vs.take n) (ds.take n)
  | _, _, 0, _ => .nil
  | _, _, _ + 1, .nil => .nil
  | _, _, n + 1, .cons h r => .cons h (Reps.take n r)
theorem Reps.drop : ∀ {vs : List V} {ds : List D} (n : Nat), Reps K F vs ds → Reps K F (vs.drop n) (ds.drop n)
  | _, _, 0, r => r
  | _, _, _ + 1, .nil => .nil
  | _, _, n + 1, .cons _ r => Reps.drop n r
theorem Reps.eraseIdx : ∀ {vs : List V} {ds : List D} (n : Nat), Reps K F vs ds → Reps K F (vs.eraseIdx n) (ds.eraseIdx n)
  | _, _, _, .nil => .nil
  | _, _, 0, .cons _ r => r
  | _, _, n + 1, .cons h r => .cons h (Reps.eraseIdx n r)
theorem Reps.insertIdx {v : V} {d : D} (h : Rep K F v d) : ∀ {vs : List V} {ds : List D} (n : Nat), Reps K F vs ds → Reps K F (vs.insertIdx n v) (ds.insertIdx n d)
  | _, _, 0, r => .cons h r
  | _, _, _ + 1, .nil => .nil
  | _, _, n + 1, .cons q r => .cons q (Reps.insertIdx h n r)
theorem Reps.dropLast (r : Reps K F vs ds) : Reps K F vs.dropLast ds.dropLast := by
  rw [List.dropLast_eq_take, List.dropLast_eq_take, r.length]
  exact r.take _
theorem Reps.reverse : ∀ {vs : List V} {ds : List D}, Reps K F vs ds → Reps K F vs.reverse ds.reverse
  | _, _, .nil => .nil
  | _, _, .cons h r => by
    rw [List.reverse_cons, List.reverse_cons]
    exact (Reps.reverse r).append (.cons h .nil)
theorem Reps.replicate {v : V} {d : D} (h : Rep K F v d) : ∀ n, Reps K F (List.replicate n v) (List.replicate n d)
  | 0 => .nil
  | n + 1 => .cons h (Reps.replicate h n)
theorem Reps.rep (r : Reps K F vs ds) : ∀ n, Reps K F (List.replicate n vs).flatten (List.replicate n ds).flatten
  | 0 => .nil
  | n + 1 => r.append (Reps.rep r n)
theorem Reps.ints : ∀ {vs : List V} {ns : List Int}, Reps K F vs (ns.map D.int) → vs = ns.map V.int
  | _, [], .nil => rfl
  | _, _ :: _, .cons h r => by cases h; rw [List.map_cons, Reps.ints r]
theorem Reps.of_ints : ∀ ns : List Int, Reps K F (ns.map V.int) (ns.map D.int)
  | [] => .nil
  | n :: ns => .cons (.int n) (Reps.of_ints ns)
theorem Reps.bls : ∀ {vs : List V} {ns : List Bool}, Reps K F vs (ns.map D.bl) → vs = ns.map V.bl
  | _, [], .nil => rfl
  | _, _ :: _, .cons h r => by cases h; rw [List.map_cons, Reps.bls r]
theorem Reps.strs : ∀ {vs : List V} {ns : List Str}, Reps K F vs (ns.map D.str) → vs = ns.map V.str
  | _, [], .nil => rfl
  | _, _ :: _, .cons h r => by cases h; rw [List.map_cons, Reps.strs r]
theorem Reps.of_strs : ∀ ns : List Str, Reps K F (ns.map V.str) (ns.map D.str)
  | [] => .nil
  | n :: ns => .cons (.str n) (Reps.of_strs ns)
end

/-! ### an object that may change -/
/-- what stands at the object, by its content -/
inductive Own (K : PySem.W.Frag) (F : Hp) : HO → D → Prop
  | lst {vs : List V} {ds : List D} : Reps K F vs ds → Own K F (.lst vs) (.lst ds)
  | ins {C dx : Addr} {ks : List Str} {vs : List V} {ds : List D} : ks.length = vs.length → Reps K F vs ds → Own K F (.ins C dx (ks.zip vs)) (.ins C ks ds)
  | dct {ks : List Key} {vs : List V} {ds : List D} : ks.length = vs.length → Reps K F vs ds → Own K F (.dK (ks.zip vs)) (.dct ks ds)
  | dtt {ks : List (List Key)} {vs : List V} {ds : List D} : ks.length = vs.length → Reps K F vs ds → Own K F (.dT (ks.zip vs)) (.dtt ks ds)
theorem Own.mono {K : PySem.W.Frag} {F F' : Hp} (e : Same F F') {o : HO} {d : D} : Own K F o d → Own K F' o d
  | .lst r => .lst (r.mono e)
  | .ins l r => .ins l (r.mono e)
  | .dct l r => .dct l (r.mono e)
  | .dtt l r => .dtt l (r.mono e)

/-- what a name holds: a plain value | an object of its own | a caller's object, read only -/
inductive SV where
  | val (d : D) | own (d : D) | bor (d : D) | lck (d : D)
  deriving Inhabited
def SV.d : SV → D
  | .val d => d
  | .own d => d
  | .bor d => d
  | .lck d => d
/-- held by this name alone; an object at all -/
def SV.ex : SV → Bool
  | .own _ => true
  | .lck _ => true
  | _ => false
def SV.ob : SV → Bool
  | .val _ => false
  | _ => true
abbrev Rho := List (Option SV)

/-- what is kept as it is; no name reads the hidden part of it -/
structure Frm where
  h : Hp
  hid : Addr → Prop
  hs : ∀ a, hid a → h a ≠ none
instance : CoeFun Frm fun _ => Addr → Option HO := ⟨Frm.h⟩
instance : Coe Frm Hp := ⟨Frm.h⟩
def Frm.upd (Fr : Frm) (a : Addr) (o : HO) : Frm := ⟨L2.upd Fr.h a o, Fr.hid, fun b hb => by
  by_cases e : b = a
  · subst e; rw [upd_same]; exact fun z => nomatch z
  · rw [upd_ne e]; exact Fr.hs b hb⟩
/-- .. a hidden object more -/
def Frm.hide (Fr : Frm) (a : Addr) (o : HO) : Frm := ⟨L2.upd Fr.h a o, fun b => Fr.hid b ∨ b = a, fun b hb => by
  by_cases e : b = a
  · subst e; rw [upd_same]; exact fun z => nomatch z
  · rw [upd_ne e]; exact Fr.hs b (hb.resolve_right e)⟩
open Classical in
/-- .. what of it is not hidden -/
noncomputable def Frm.vis (Fr : Frm) : Hp := fun b => if Fr.hid b then none else Fr.h b
theorem Frm.vis_same {Fr : Frm} {H : Hp} (h : Same Fr.h H) : Same Fr.vis H := fun b u z => by
  unfold Frm.vis at z
  split at z
  · cases z
  · exact h b u z
theorem Frm.vis_of {Fr : Frm} {b : Addr} {o : HO} (h : Fr.h b = some o ∧ ¬ Fr.hid b) : Fr.vis b = some o := by
  unfold Frm.vis
  rw [if_neg h.2]; exact h.1
theorem Frm.vis_hide {Fr : Frm} {p : Addr} {o u : HO} : (Fr.hide p o).vis = (Fr.hide p u).vis := by
  funext b
  unfold Frm.vis
  by_cases e : b = p
  · subst e
    rw [if_pos (show (Fr.hide b o).hid b from .inr rfl), if_pos (show (Fr.hide b u).hid b from .inr rfl)]
  · have e2 : (Fr.hide p o).h b = (Fr.hide p u).h b := (upd_ne e).trans (upd_ne e).symm
    rw [e2]
    rfl
def SRel (K : PySem.W.Frag) (Fr : Frm) (F H : Hp) (v : V) : SV → Prop
  | .val d => Rep K F v d
  | .own d => ∃ a o, v = .ref a ∧ H a = some o ∧ Own K F o d ∧ F a = none ∧ Fr a = none
  | .bor d => ∃ a o, v = .ref a ∧ (Fr a = some o ∧ ¬ Fr.hid a) ∧ Own K F o d
  | .lck d => ∃ a o, v = .ref a ∧ (Fr a = some o ∧ ¬ Fr.hid a) ∧ Own K F o d

/-- the state: Fr is kept as it is, F holds the plain values -/
structure Rel (K : PySem.W.Frag) (Fr : Frm) (F : Hp) (ρ : Rho) (σ : St) (H : Hp) : Prop where
  fr : Same Fr.h H
  f : Same F H
  dj : ∀ b o, Fr b = some o → F b = none
  slot : ∀ (i : Nat) (sv : SV), ρ[i]? = some (some sv) → ∃ v, σ[i]? = some (some v) ∧ SRel K Fr F H v sv
  uniq : ∀ (i j : Nat) (s t : SV), ρ[i]? = some (some s) → ρ[j]? = some (some t) → s.ex = true → t.ob = true → σ[i]? = σ[j]? → i = j
  len : ρ.length ≤ σ.length

section
variable {K : PySem.W.Frag} {Fr : Frm} {F H F' H' : Hp} {ρ : Rho} {σ : St}

/-- the heap grows beside -/
theorem Rel.grow (R : Rel K Fr F ρ σ H) (eF : Same F F') (eH : Same H H') (fH : Same F' H') (dj : ∀ b o, Fr b = some o → F' b = none)
    (nw : ∀ b, F' b ≠ none → F b = none → H b = none) : Rel K Fr F' ρ σ H' := by
  refine ⟨R.fr.trans eH, fH, dj, fun i sv e => ?_, R.uniq, R.len⟩
  obtain ⟨v, e1, s⟩ := R.slot i sv e
  refine ⟨v, e1, ?_⟩
  cases sv with
  | val d => exact Rep.mono eF s
  | bor d => obtain ⟨a, o, e2, h1, h2⟩ := s; exact ⟨a, o, e2, h1, h2.mono eF⟩
  | lck d => obtain ⟨a, o, e2, h1, h2⟩ := s; exact ⟨a, o, e2, h1, h2.mono eF⟩
  | own d =>
    obtain ⟨a, o, e2, h1, h2, h3, h4⟩ := s
    refine ⟨a, o, e2, eH _ _ h1, h2.mono eF, ?_, h4⟩
    cases q : F' a with
    | none => rfl
    | some u =>
      have z := nw a (by rw [q]; exact fun z => nomatch z) h3
      rw [z] at h1; cases h1
theorem same_new {p : Addr} {o : HO} (h : H p = none) : Same H (upd H p o) := fun b u e => by
  rw [upd_ne (ne_of_none e h)]; exact e
theorem same_upd2 {p : Addr} {o : HO} (h : Same F H) : Same (upd F p o) (upd H p o) := fun b u e => by
  by_cases z : b = p
  · subst z; rw [upd_same] at e ⊢; exact e
  · rw [upd_ne z] at e ⊢; exact h b u e
/-- a new plain object -/
theorem Rel.new (R : Rel K Fr F ρ σ H) {p : Addr} (o : HO) (h : H p = none) : Rel K Fr (upd F p o) ρ σ (upd H p o) ∧ Same F (upd F p o) := by
  have hF : F p = none := by
    cases q : F p with
    | none => rfl
    | some u => rw [R.f _ _ q] at h; cases h
  have hFr : Fr p = none := by
    cases q : Fr p with
    | none => rfl
    | some u => rw [R.fr _ _ q] at h; cases h
  refine ⟨R.grow (same_new hF) (same_new h) (same_upd2 R.f) (fun b u e => ?_) (fun b z1 z2 => ?_), same_new hF⟩
  · rw [upd_ne (ne_of_none e hFr)]; exact R.dj b u e
  · by_cases z : b = p
    · subst z; exact h
    · rw [upd_ne z] at z1; exact absurd z2 z1
/-- an object that no name holds is frozen -/
theorem Rel.freeze (R : Rel K Fr F ρ σ H) {p : Addr} {o : HO} (h : H p = some o) (hF : F p = none) (hFr : Fr p = none) (hn : ∀ (i : Nat) (d : D), ρ[i]? = some (some (.own d)) → σ[i]? ≠ some (some (.ref p))) :
    Rel K Fr (upd F p o) ρ σ H ∧ Same F (upd F p o) := by
  refine ⟨⟨R.fr, fun b u e => ?_, fun b u e => ?_, fun i sv e => ?_, R.uniq, R.len⟩, same_new hF⟩
  · by_cases z : b = p
    · subst z; rw [upd_same] at e; rw [h]; exact e
    · rw [upd_ne z] at e; exact R.f b u e
  · rw [upd_ne (ne_of_none e hFr)]; exact R.dj b u e
  · obtain ⟨v, e1, s⟩ := R.slot i sv e
    refine ⟨v, e1, ?_⟩
    cases sv with
    | val d => exact Rep.mono (same_new hF) s
    | bor d => obtain ⟨a, o', e2, h1, h2⟩ := s; exact ⟨a, o', e2, h1, h2.mono (same_new hF)⟩
    | lck d => obtain ⟨a, o', e2, h1, h2⟩ := s; exact ⟨a, o', e2, h1, h2.mono (same_new hF)⟩
    | own d =>
      obtain ⟨a, o', e2, h1, h2, h3, h4⟩ := s
      refine ⟨a, o', e2, h1, h2.mono (same_new hF), ?_, h4⟩
      rw [upd_ne (fun z => hn i d e (by rw [e1, e2, z]))]
      exact h3
theorem get_set_some {α : Type} {l : List α} {i j : Nat} {x y : α} (h : (l.set i x)[j]? = some y) : (i = j ∧ x = y ∧ i < l.length) ∨ (i ≠ j ∧ l[j]? = some y) := by
  by_cases e : i = j
  · subst e
    by_cases hl : i < l.length
    · rw [List.getElem?_set_self hl] at h
      exact .inl ⟨rfl, Option.some.inj h, hl⟩
    · rw [List.getElem?_eq_none (by simpa using hl)] at h; cases h
  · rw [List.getElem?_set_ne e] at h
    exact .inr ⟨e, h⟩
theorem some_lt {α : Type} {l : List α} {i : Nat} {x : α} (h : l[i]? = some x) : i < l.length := (List.getElem?_eq_some_iff.mp h).1
end
end Ev

set_option Elab.async false
set_option linter.all false
set_option maxRecDepth 100000
/-! Ev. B: what an expression gives. -/
set_option autoImplicit false
namespace Ev
open PySem PySem.Spec PyProof.Rows L2

/-- what an expression hands on: a plain value | a name, unread | a new object of its own -/
inductive Opd where
  | val (d : D) | var (i : Nat) | tmp (d : D)
  deriving Inhabited

def ORel (K : PySem.W.Frag) (Fr : Frm) (F : Hp) (ρ : Rho) (σ : St) (H : Hp) (v : V) : Opd → Prop
  | .val d => Rep K F v d
  | .var i => σ[i]? = some (some v)
  | .tmp d => ∃ a o, v = .ref a ∧ H a = some o ∧ Own K F o d ∧ F a = none ∧ Fr a = none ∧ ∀ (i : Nat) (e : D), ρ[i]? = some (some (.own e)) → σ[i]? ≠ some (some v)
/-- .. behind freezing -/
def NRel (K : PySem.W.Frag) (F : Hp) (σ : St) (v : V) : Opd → Prop
  | .val d => Rep K F v d
  | .var i => σ[i]? = some (some v)
  | .tmp _ => False
abbrev NRels (K : PySem.W.Frag) (F : Hp) (σ : St) : List V → List Opd → Prop := Paired (NRel K F σ)

abbrev EM := Rho → Option (Opd × Rho)
abbrev VM := Rho → Option (D × Rho)
abbrev AM := Rho → Option (List Opd × Rho)
abbrev DM := Rho → Option (List D × Rho)
abbrev TM := Rho → Option (Bool × Rho)

def tE (K : PySem.W.Frag) (m : EM) : TE := fun σ H Q => ∃ Fr F ρ o ρ', Rel K Fr F ρ σ H ∧ m ρ = some (o, ρ') ∧ ∀ F' H' v, Same F F' → Rel K Fr F' ρ' σ H' → ORel K Fr F' ρ' σ H' v o → Q v H'
def tN (K : PySem.W.Frag) (m : EM) : TE := fun σ H Q => ∃ Fr F ρ o ρ', Rel K Fr F ρ σ H ∧ m ρ = some (o, ρ') ∧ ∀ F' H' v, Same F F' → Rel K Fr F' ρ' σ H' → NRel K F' σ v o → Q v H'
def tV (K : PySem.W.Frag) (m : VM) : TE := fun σ H Q => ∃ Fr F ρ d ρ', Rel K Fr F ρ σ H ∧ m ρ = some (d, ρ') ∧ ∀ F' H' v, Same F F' → Rel K Fr F' ρ' σ H' → Rep K F' v d → Q v H'
def tA (K : PySem.W.Frag) (m : AM) : TA := fun σ H Q => ∃ Fr F ρ os ρ', Rel K Fr F ρ σ H ∧ m ρ = some (os, ρ') ∧ ∀ F' H' vs, Same F F' → Rel K Fr F' ρ' σ H' → NRels K F' σ vs os → Q vs H'
def tD (K : PySem.W.Frag) (m : DM) : TA := fun σ H Q => ∃ Fr F ρ ds ρ', Rel K Fr F ρ σ H ∧ m ρ = some (ds, ρ') ∧ ∀ F' H' vs, Same F F' → Rel K Fr F' ρ' σ H' → Reps K F' vs ds → Q vs H'
def tT (K : PySem.W.Frag) (m : TM) : TT := fun σ H Q => ∃ Fr F ρ b ρ', Rel K Fr F ρ σ H ∧ m ρ = some (b, ρ') ∧ ∀ F' H', Same F F' → Rel K Fr F' ρ' σ H' → Q b H'

structure OE (X : Cx) (e : Expr) (m : EM) : Prop where
  pe : PE X e (tE X.K m)
structure NE (X : Cx) (e : Expr) (m : EM) : Prop where
  pe : PE X e (tN X.K m)
structure VE (X : Cx) (e : Expr) (m : VM) : Prop where
  pe : PE X e (tV X.K m)
/-- operands, read only -/
structure AE (X : Cx) (es : List Expr) (m : AM) : Prop where
  pa : PA X es (tA X.K m)
/-- values -/
structure DE (X : Cx) (es : List Expr) (m : DM) : Prop where
  pa : PA X es (tD X.K m)
structure TeE (X : Cx) (e : Expr) (m : TM) : Prop where
  pt : PT X e (tT X.K m)

theorem pe_imp {X : Cx} {e : Expr} {t t' : TE} (h : PE X e t) (w : ∀ σ H Q, t' σ H Q → t σ H Q) : PE X e t' := ⟨fun pins s σ H Q I q => h.run pins s σ H Q I (w σ H Q q)⟩
theorem pt_imp {X : Cx} {e : Expr} {t t' : TT} (h : PT X e t) (w : ∀ σ H Q, t' σ H Q → t σ H Q) : PT X e t' := ⟨fun pins s σ H Q I q => h.run pins s σ H Q I (w σ H Q q)⟩
theorem pw_imp {X : Cx} {e : Expr} {t t' : TT} (h : PW X e t) (w : ∀ σ H Q, t' σ H Q → t σ H Q) : PW X e t' := ⟨fun wh pins s σ H Q I q => h.run wh pins s σ H Q I (w σ H Q q)⟩
theorem pa_imp {X : Cx} {es : List Expr} {t t' : TA} (h : PA X es t) (w : ∀ σ H Q, t' σ H Q → t σ H Q) : PA X es t' := ⟨fun pos pins s σ H Q I q => h.run pos pins s σ H Q I (w σ H Q q)⟩
theorem ps_imp {X : Cx} {st : Stmt} {t t' : TS} (h : PS X st t) (w : ∀ Dn σ H, t' Dn σ H → t Dn σ H) : PS X st t' := ⟨fun pins s σ H Dn I q => h.run pins s σ H Dn I (w Dn σ H q)⟩
theorem pss_imp {X : Cx} {st : List Stmt} {t t' : TS} (h : PSs X st t) (w : ∀ Dn σ H, t' Dn σ H → t Dn σ H) : PSs X st t' := ⟨fun pins s σ H Dn I q => h.run pins s σ H Dn I (w Dn σ H q)⟩
theorem pg_imp {X : Cx} {e : Expr} {t t' : TG} (h : PG X e t) (w : ∀ v σ H Q, t' v σ H Q → t v σ H Q) : PG X e t' := ⟨fun pins s σ H v u Q I r q => h.run pins s σ H v u Q I r (w v σ H Q q)⟩
theorem pi_imp {X : Cx} {tg it : Expr} {t t' : TI} (h : PI X tg it t) (w : ∀ σ H R, t' σ H R → t σ H R) : PI X tg it t' := ⟨fun pins s σ H R I q => h.run pins s σ H R I (w σ H R q)⟩

def frz (m : EM) : EM := fun ρ => match m ρ with
  | some (.tmp d, ρ') => some (.val d, ρ')
  | r => r
/-- what is read of an operand, now -/
def look (o : Opd) (ρ : Rho) : Option D := match o with
  | .val d => some d
  | .var i => match ρ[i]? with
    | some (some sv) => some sv.d
    | _ => none
  | .tmp _ => none
def looks : List Opd → Rho → Option (List D)
  | [], _ => some []
  | o :: os, ρ => match look o ρ with
    | some d => match looks os ρ with
      | some ds => some (d :: ds)
      | none => none
    | none => none
/-- the operand as a plain value: a name's own object is frozen -/
def escO (o : Opd) (ρ : Rho) : Option (D × Rho) := match o with
  | .val d => some (d, ρ)
  | .tmp d => some (d, ρ)
  | .var i => match ρ[i]? with
    | some (some (.own d)) => some (d, ρ.set i (some (.val d)))
    | some (some (.val d)) => some (d, ρ)
    | _ => none
def esc (m : EM) : VM := fun ρ => match m ρ with
  | some (o, ρ') => escO o ρ'
  | none => none

/-- read: plain, or an object as it stands -/
def Viw (K : PySem.W.Frag) (F H : Hp) (v : V) (d : D) : Prop := Rep K F v d ∨ ∃ a o, v = .ref a ∧ H a = some o ∧ Own K F o d

section
variable {K : PySem.W.Frag} {Fr : Frm} {F F' H H' : Hp} {ρ ρ' : Rho} {σ : St} {v : V} {o : Opd} {d : D}

theorem NRel.mono (e : Same F F') (h : NRel K F σ v o) : NRel K F' σ v o := by
  cases o with
  | val d => exact Rep.mono e h
  | var i => exact h
  | tmp d => exact h
theorem NRels.mono (e : Same F F') : ∀ {vs : List V} {os : List Opd}, NRels K F σ vs os → NRels K F' σ vs os
  | _, _, .nil => .nil
  | _, _, .cons h r => .cons (NRel.mono e h) (NRels.mono e r)
theorem own_rep {a : Addr} {o : HO} (h : F a = some o) (w : Own K F o d) : Rep K F (.ref a) d := by
  cases w with
  | lst r => exact .lst h r
  | ins l r => exact .ins h l r
  | dct l r => exact .dct h l r
  | dtt l r => exact .dtt h l r
theorem Rel.frz (R : Rel K Fr F ρ σ H) (h : ORel K Fr F ρ σ H v (.tmp d)) : ∃ F', Same F F' ∧ Rel K Fr F' ρ σ H ∧ Rep K F' v d := by
  obtain ⟨a, o, rfl, h1, h2, h3, h4, h5⟩ := h
  obtain ⟨R', e⟩ := R.freeze h1 h3 h4 h5
  exact ⟨_, e, R', own_rep upd_same (h2.mono e)⟩
theorem NRel.look (R : Rel K Fr F ρ σ H) (n : NRel K F σ v o) (h : look o ρ = some d) : Viw K F H v d := by
  cases o with
  | val e => cases h; exact .inl n
  | tmp e => cases h
  | var i =>
    dsimp only [Ev.look] at h
    split at h
    · rename_i sv e
      cases h
      obtain ⟨v', e', s⟩ := R.slot i sv e
      rw [n] at e'; cases e'
      cases sv with
      | val d => exact .inl s
      | own d => obtain ⟨a, o, e1, h1, h2, _⟩ := s; exact .inr ⟨a, o, e1, h1, h2⟩
      | bor d => obtain ⟨a, o, e1, h1, h2⟩ := s; exact .inr ⟨a, o, e1, R.fr _ _ h1.1, h2⟩
      | lck d => obtain ⟨a, o, e1, h1, h2⟩ := s; exact .inr ⟨a, o, e1, R.fr _ _ h1.1, h2⟩
    · cases h
/-- the slot of an object becomes a plain value -/
theorem Rel.setVal (R : Rel K Fr F ρ σ H) {i : Nat} (h : σ[i]? = some (some v)) (r : Rep K F v d) : Rel K Fr F (ρ.set i (some (.val d))) σ H := by
  refine ⟨R.fr, R.f, R.dj, fun j sv e => ?_, fun j k d1 d2 e1 e2 x1 x2 => ?_, by rw [List.length_set]; exact R.len⟩
  · rcases get_set_some e with ⟨rfl, e1, _⟩ | ⟨_, e1⟩
    · cases e1; exact ⟨v, h, r⟩
    · exact R.slot j sv e1
  · rcases get_set_some e1 with ⟨_, e3, _⟩ | ⟨_, e3⟩
    · cases e3; cases x1
    · rcases get_set_some e2 with ⟨_, e4, _⟩ | ⟨_, e4⟩
      · cases e4; cases x2
      · exact R.uniq j k d1 d2 e3 e4 x1 x2
/-- a slot forgotten -/
theorem Rel.drop (R : Rel K Fr F ρ σ H) (i : Nat) : Rel K Fr F (ρ.set i none) σ H := by
  refine ⟨R.fr, R.f, R.dj, fun j sv e => ?_, fun j k d1 d2 e1 e2 x1 x2 e3 => ?_, by rw [List.length_set]; exact R.len⟩
  · rcases get_set_some e with ⟨_, e1, _⟩ | ⟨ne, e1⟩
    · cases e1
    · exact R.slot j sv e1
  · rcases get_set_some e1 with ⟨_, z, _⟩ | ⟨n1, z1⟩
    · cases z
    · rcases get_set_some e2 with ⟨_, z, _⟩ | ⟨n2, z2⟩
      · cases z
      · exact R.uniq j k d1 d2 z1 z2 x1 x2 e3
theorem Rel.escO (R : Rel K Fr F ρ σ H) (h : ORel K Fr F ρ σ H v o) (e : escO o ρ = some (d, ρ')) : ∃ F', Same F F' ∧ Rel K Fr F' ρ' σ H ∧ Rep K F' v d := by
  cases o with
  | val d' => cases e; exact ⟨F, Same.refl F, R, h⟩
  | tmp d' => cases e; exact R.frz h
  | var i =>
    dsimp only [Ev.escO] at e
    split at e
    · rename_i d' e'
      cases e
      obtain ⟨v', e1, a, o, e2, h1, h2, h3, h4⟩ := R.slot i _ e'
      have e1' : v' = v := by
        have z : σ[i]? = some (some v) := h
        rw [z] at e1; cases e1; rfl
      subst e1'
      have R0 := R.drop i
      obtain ⟨R1, e5⟩ := R0.freeze h1 h3 h4 fun j d1 e3 e4 => by
        rcases get_set_some e3 with ⟨_, e6, _⟩ | ⟨ne, e6⟩
        · cases e6
        · exact ne (R.uniq i j _ _ e' e6 rfl rfl (by rw [e1, e4, e2]))
      refine ⟨_, e5, ?_, by subst e2; exact own_rep upd_same (h2.mono e5)⟩
      have R2 := R1.setVal (i := i) e1 (by subst e2; exact own_rep upd_same (h2.mono e5))
      rw [List.set_set] at R2
      exact R2
    · rename_i d' e'
      cases e
      obtain ⟨v', e1, r⟩ := R.slot i _ e'
      have z : σ[i]? = some (some v) := h
      rw [z] at e1; cases e1
      exact ⟨F, Same.refl F, R, r⟩
    · cases e
theorem NRel.toO (h : NRel K F σ v o) : ORel K Fr F ρ σ H v o := by
  cases o with
  | val d => exact h
  | var i => exact h
  | tmp d => exact h.elim
theorem Viw.mono (e : Same F F') (h : Viw K F H v d) : Viw K F' H v d := by
  rcases h with h | ⟨a, o, e1, h1, h2⟩
  · exact .inl (h.mono e)
  · exact .inr ⟨a, o, e1, h1, h2.mono e⟩
theorem Viw.non (h : Viw K F H v .non) : v = .non := by
  rcases h with h | ⟨a, o, e1, h1, h2⟩
  · cases h; rfl
  · cases h2
theorem Viw.bl {b : Bool} (h : Viw K F H v (.bl b)) : v = .bl b := by
  rcases h with h | ⟨a, o, e1, h1, h2⟩
  · cases h; rfl
  · cases h2
theorem Viw.int {i : Int} (h : Viw K F H v (.int i)) : v = .int i := by
  rcases h with h | ⟨a, o, e1, h1, h2⟩
  · cases h; rfl
  · cases h2
theorem Viw.str {x : Str} (h : Viw K F H v (.str x)) : v = .str x := by
  rcases h with h | ⟨a, o, e1, h1, h2⟩
  · cases h; rfl
  · cases h2
theorem Viw.tup (s : Same F H) {ds : List D} (h : Viw K F H v (.tup ds)) : ∃ a vs, v = .ref a ∧ SqT K H a vs ∧ Reps K F vs ds := by
  rcases h with h | ⟨a, o, e1, h1, h2⟩
  · cases h with | tup h r => exact ⟨_, _, rfl, SqT.of (s _ _ h), r⟩
  · cases h2
/-- a tuple is no constant of the text -/
theorem Viw.tup1 (s : Same F H) {ds : List D} (h : Viw K F H v (.tup ds)) : ∃ a vs, v = .ref a ∧ H a = some (.tup vs) ∧ Reps K F vs ds := by
  rcases h with h | ⟨a, o, e1, h1, h2⟩
  · cases h with | tup h r => exact ⟨_, _, rfl, s _ _ h, r⟩
  · cases h2
theorem Viw.lst (s : Same F H) {ds : List D} (h : Viw K F H v (.lst ds)) : ∃ a vs, v = .ref a ∧ H a = some (.lst vs) ∧ Reps K F vs ds := by
  rcases h with h | ⟨a, o, e1, h1, h2⟩
  · cases h with | lst h r => exact ⟨_, _, rfl, s _ _ h, r⟩
  · cases h2 with | lst r => exact ⟨_, _, e1, h1, r⟩
theorem Viw.rol (s : Same F H) {ds : List D} (h : Viw K F H v (.rol ds)) : ∃ a vs, v = .ref a ∧ SqL K H a vs ∧ Reps K F vs ds := by
  rcases h with h | ⟨a, o, e1, h1, h2⟩
  · cases h with | rol h r => exact ⟨_, _, rfl, sameL s h, r⟩
  · cases h2
end
/-- the items of a list or tuple -/
def seqD : D → Option (List D)
  | .tup xs => some xs
  | .lst xs => some xs
  | .rol xs => some xs
  | _ => none
theorem Viw.seq {K : PySem.W.Frag} {F H : Hp} {v : V} {d : D} {ds : List D} (s : Same F H) (h : Viw K F H v d) (e : seqD d = some ds) : ∃ a vs, v = .ref a ∧ (SqL K H a vs ∨ SqT K H a vs) ∧ Reps K F vs ds := by
  cases d <;> cases e
  · obtain ⟨a, vs, e1, q, r⟩ := h.tup s; exact ⟨a, vs, e1, .inr q, r⟩
  · obtain ⟨a, vs, e1, q, r⟩ := h.lst s; exact ⟨a, vs, e1, .inl (SqL.of q), r⟩
  · obtain ⟨a, vs, e1, q, r⟩ := h.rol s; exact ⟨a, vs, e1, .inl q, r⟩

section
variable {X : Cx} {e a b : Expr} {es : List Expr} {m ma mb : EM} {pos : Pos}
theorem OE.ne (h : OE X e m) : NE X e (frz m) := by
  refine ⟨pe_imp h.pe fun σ H Q ⟨Fr, F, ρ, o, ρ', R, em, k⟩ => ?_⟩
  unfold frz at em
  split at em
  · rename_i d ρ1 e1
    cases em
    refine ⟨Fr, F, ρ, _, _, R, e1, fun F' H' v s R' q => ?_⟩
    obtain ⟨F2, s2, R2, r2⟩ := R'.frz q
    exact k F2 H' v (s.trans s2) R2 r2
  · rename_i r hne
    cases o with
    | tmp d => exact absurd em (hne _ _)
    | val d => exact ⟨Fr, F, ρ, _, _, R, em, fun F' H' v s R' q => k F' H' v s R' q⟩
    | var i => exact ⟨Fr, F, ρ, _, _, R, em, fun F' H' v s R' q => k F' H' v s R' q⟩
theorem OE.ve (h : OE X e m) : VE X e (esc m) := by
  refine ⟨pe_imp h.pe fun σ H Q ⟨Fr, F, ρ, d, ρ', R, em, k⟩ => ?_⟩
  unfold esc at em
  split at em
  · rename_i o ρ1 e1
    refine ⟨Fr, F, ρ, _, _, R, e1, fun F' H' v s R' q => ?_⟩
    obtain ⟨F2, s2, R2, r2⟩ := R'.escO q em
    exact k F2 H' v (s.trans s2) R2 r2
  · cases em

/-! names, constants -/
def varM (i : Nat) : EM := fun ρ => match ρ[i]? with
  | some (some (.val d)) => some (.val d, ρ)
  | some (some _) => some (.var i, ρ)
  | _ => none
theorem oe_var (i : Nat) {x : Str} (hN : X.N[i]? = some x := by rfl) (hv : Vis X.env.scope x := by first | exact Or.inl rfl | exact Or.inr (Or.inl rfl) | exact Or.inr (Or.inr rfl)) (hd : (x == ("__debug__" : Str)) = false := by decide)
    (hcd : (x == ("__classdict__" : Str)) = false := by decide) : OE X (.Name x pos) (varM i) := by
  refine ⟨pe_imp (pe_var hN hv hd hcd) fun σ H Q ⟨Fr, F, ρ, o, ρ', R, em, k⟩ => ?_⟩
  unfold varM at em
  split at em
  · rename_i d e1
    cases em
    obtain ⟨v, e2, r⟩ := R.slot i _ e1
    exact ⟨v, e2, k F H v (Same.refl F) R r⟩
  · rename_i sv hne e1
    cases em
    obtain ⟨v, e2, r⟩ := R.slot i _ e1
    exact ⟨v, e2, k F H v (Same.refl F) R e2⟩
  · cases em
def constM (d : D) : EM := fun ρ => some (.val d, ρ)
theorem oe_const {v : V} {d : D} (h : PE X e (tC v)) (r : ∀ F, Rep X.K F v d) : OE X e (constM d) := by
  refine ⟨pe_imp h fun σ H Q ⟨Fr, F, ρ, o, ρ', R, em, k⟩ => ?_⟩
  cases em
  exact k F H v (Same.refl F) R (r F)
theorem oe_int {i : Int} {j} : OE X (.Constant (.int i) j pos) (constM (.int i)) := oe_const pe_int fun _ => .int i
theorem oe_bl {i : Bool} {j} : OE X (.Constant (.bool i) j pos) (constM (.bl i)) := oe_const pe_bl fun _ => .bl i
theorem oe_non {j} : OE X (.Constant .none j pos) (constM .non) := oe_const pe_non fun _ => .non
theorem oe_str {i : Str} {j} : OE X (.Constant (.str i) j pos) (constM (.str i)) := oe_const pe_str fun _ => .str i

/-! two operands -/
/-- what is wanted behind an operation that changes nothing -/
def After (K : PySem.W.Frag) (Fr : Frm) (F : Hp) (ρ : Rho) (σ : St) (o : Opd) (Q : VK) : Prop := ∀ F' H' v, Same F F' → Rel K Fr F' ρ σ H' → ORel K Fr F' ρ σ H' v o → Q v H'
def OpS (X : Cx) (r : R2) (g : D → D → Option Opd) : Prop :=
  ∀ {Fr : Frm} {F H : Hp} {ρ : Rho} {σ : St} {x y : V} {d e : D} {o : Opd} {Q : VK}, Rel X.K Fr F ρ σ H → Viw X.K F H x d → Viw X.K F H y e → g d e = some o → After X.K Fr F ρ σ o Q → r x y H Q
def binM (g : D → D → Option Opd) (ma mb : EM) : EM := fun ρ => match frz ma ρ with
  | some (oa, ρ1) => match frz mb ρ1 with
    | some (ob, ρ2) => match look oa ρ2 with
      | some d => match look ob ρ2 with
        | some e => match g d e with
          | some o => some (o, ρ2)
          | none => none
        | none => none
      | none => none
    | none => none
  | none => none
theorem binM_some {g : D → D → Option Opd} {ρ ρ' : Rho} {o : Opd} (h : binM g ma mb ρ = some (o, ρ')) : ∃ oa ρ1 ob d e, frz ma ρ = some (oa, ρ1) ∧ frz mb ρ1 = some (ob, ρ') ∧ look oa ρ' = some d ∧ look ob ρ' = some e ∧ g d e = some o := by
  unfold binM at h
  split at h
  · rename_i oa ρ1 e1
    split at h
    · rename_i ob ρ2 e2
      split at h
      · rename_i d e3
        split at h
        · rename_i e e4
          split at h
          · rename_i o' e5
            cases h
            exact ⟨_, _, _, _, _, e1, e2, e3, e4, e5⟩
          · cases h
        · cases h
      · cases h
    · cases h
  · cases h
theorem tOp_bin {r : R2} {g : D → D → Option Opd} (hs : OpS X r g) {σ : St} {H : Hp} {Q : VK} (h : tE X.K (binM g ma mb) σ H Q) : tOp r (tN X.K (frz ma)) (tN X.K (frz mb)) σ H Q := by
  obtain ⟨Fr, F, ρ, o, ρ', R, em, k⟩ := h
  obtain ⟨oa, ρ1, ob, d, e', e1, e2, e3, e4, e5⟩ := binM_some em
  refine ⟨Fr, F, ρ, oa, ρ1, R, e1, fun F1 H1 x s1 R1 q1 => ⟨Fr, F1, ρ1, ob, _, R1, e2, fun F2 H2 y s2 R2 q2 => ?_⟩⟩
  exact hs R2 ((q1.mono s2).look R2 e3) (q2.look R2 e4) e5 fun F3 H3 v s3 R3 q3 => k F3 H3 v ((s1.trans s2).trans s3) R3 q3
theorem oe_op {op : Operator} {r : R2} {g : D → D → Option Opd} (ho : OpR X (binaryOp op) r) (hs : OpS X r g) (ha : OE X a ma) (hb : OE X b mb) : OE X (.BinOp a op b pos) (binM g ma mb) :=
  ⟨pe_imp (pe_op ho ha.ne.pe hb.ne.pe) fun _ _ _ => tOp_bin hs⟩
theorem oe_cmp {op : CmpOp} {r : R2} {g : D → D → Option Opd} (ho : OpR X (compareOp op) r) (hs : OpS X r g) (ha : OE X a ma) (hb : OE X b mb) (hm : behindInMarks op b = false) : OE X (.Compare a [op] [b] pos) (binM g ma mb) :=
  ⟨pe_imp (pe_cmpR ho ha.ne.pe hb.ne.pe hm) fun _ _ _ => tOp_bin hs⟩
/-- an expression that gives a truth value, as a test -/
def boolM (m : EM) : TM := fun ρ => match m ρ with
  | some (.val (.bl b), ρ') => some (b, ρ')
  | _ => none
theorem boolM_some {ρ ρ' : Rho} {b : Bool} (h : boolM m ρ = some (b, ρ')) : m ρ = some (.val (.bl b), ρ') := by
  unfold boolM at h
  split at h
  · rename_i b' ρ1 e; cases h; exact e
  · cases h
theorem te_cmp {op : CmpOp} {r : R2} {g : D → D → Option Opd} (ho : OpR X (compareOp op) r) (hs : OpS X r g) (ha : OE X a ma) (hb : OE X b mb) (hm : behindInMarks op b = false) : TeE X (.Compare a [op] [b] pos) (boolM (binM g ma mb)) := by
  refine ⟨pt_imp (pt_cmpR ho ha.ne.pe hb.ne.pe hm) fun σ H Q ⟨Fr, F, ρ, c, ρ', R, em, k⟩ => ?_⟩
  refine tOp_bin hs ⟨Fr, F, ρ, _, ρ', R, boolM_some em, fun F' H' v s R' q => ?_⟩
  cases q
  exact ⟨c, rfl, k F' H' s R'⟩
/-- truth -/
def truD : D → Option Bool
  | .non => some false
  | .bl b => some b
  | .int i => some (i != 0)
  | .str s => if s.length ≤ sizeLine then some ((s.length : Int) != 0) else none
  | .tup xs => some (!xs.isEmpty)
  | .lst xs => some (!xs.isEmpty)
  | .rol xs => some (!xs.isEmpty)
  | .ins _ _ _ => none
  | .dct _ _ => none
  | .dtt _ _ => none
theorem isE {K : PySem.W.Frag} {F : Hp} {vs : List V} {ds : List D} (r : Reps K F vs ds) : vs.isEmpty = ds.isEmpty := by cases r <;> rfl
theorem truV_of {K : PySem.W.Frag} {F H : Hp} {v : V} {d : D} {c : Bool} (s : Same F H) (h : Viw K F H v d) (e : truD d = some c) : TruV K v H c := by
  cases d with
  | non => cases h.non; cases e; rfl
  | bl b => cases h.bl; cases e; rfl
  | int i => cases h.int; cases e; rfl
  | str x =>
    cases h.str
    dsimp only [truD] at e
    split at e
    · rename_i hl; cases e; exact ⟨hl, rfl⟩
    · cases e
  | tup xs => cases e; obtain ⟨a, vs, rfl, q, r⟩ := h.tup s; exact .inr (.inl ⟨vs, q, by rw [isE r]⟩)
  | lst xs => cases e; obtain ⟨a, vs, rfl, q, r⟩ := h.lst s; exact .inl ⟨vs, SqL.of q, by rw [isE r]⟩
  | rol xs => cases e; obtain ⟨a, vs, rfl, q, r⟩ := h.rol s; exact .inl ⟨vs, q, by rw [isE r]⟩
  | ins C ks ds => cases e
  | dct ks ds => cases e
  | dtt ks ds => cases e
def truM (m : EM) : TM := fun ρ => match frz m ρ with
  | some (o, ρ') => match look o ρ' with
    | some d => match truD d with
      | some b => some (b, ρ')
      | none => none
    | none => none
  | none => none
theorem truM_some {ρ ρ' : Rho} {c : Bool} (h : truM m ρ = some (c, ρ')) : ∃ o d, frz m ρ = some (o, ρ') ∧ look o ρ' = some d ∧ truD d = some c := by
  unfold truM at h
  split at h
  · rename_i o ρ1 e1
    split at h
    · rename_i d e2
      split at h
      · rename_i b' e3; cases h; exact ⟨_, _, e1, e2, e3⟩
      · cases h
    · cases h
  · cases h
theorem te_tru (h : OE X e m) (he : ∀ whole, isTrue e X.env whole = (do let v ← whole; standAt e.pos; holding [v] (truthy v)) := by intro _; rfl) : TeE X e (truM m) := by
  refine ⟨pt_imp (pt_truth h.ne.pe he) fun σ H Q ⟨Fr, F, ρ, c, ρ', R, em, k⟩ => ?_⟩
  obtain ⟨o, d, e1, e2, e3⟩ := truM_some em
  exact ⟨Fr, F, ρ, o, ρ', R, e1, fun F' H' v s R' q => ⟨c, truV_of R'.f (q.look R' e2) e3, k F' H' s R'⟩⟩

/-! and, or, not -/
structure TwE (X : Cx) (e : Expr) (m : TM) : Prop where
  pw : PW X e (tT X.K m)
variable {t u : TM} {rest : List Expr}
theorem TwE.te (h : TwE X e t) : TeE X e t := ⟨h.pw.pt⟩
def andM (t u : TM) : TM := fun ρ => match t ρ with
  | some (true, ρ') => u ρ'
  | r => r
def orM (t u : TM) : TM := fun ρ => match t ρ with
  | some (false, ρ') => u ρ'
  | r => r
def notM (t : TM) : TM := fun ρ => match t ρ with
  | some (b, ρ') => some (!b, ρ')
  | none => none
theorem tw_and1 (h : TeE X a t) : TwE X (.BoolOp .And [a] pos) t := ⟨pw_and1 h.pt⟩
theorem tw_or1 (h : TeE X a t) : TwE X (.BoolOp .Or [a] pos) t := ⟨pw_or1 h.pt⟩
theorem tw_and (ha : TeE X a t) (hb : TwE X (.BoolOp .And (b :: rest) pos) u) : TwE X (.BoolOp .And (a :: b :: rest) pos) (andM t u) := by
  refine ⟨pw_imp (pw_and ha.pt hb.pw) fun σ H Q ⟨Fr, F, ρ, c, ρ', R, em, k⟩ => ?_⟩
  unfold andM at em
  split at em
  · rename_i ρ1 e1
    refine ⟨Fr, F, ρ, _, _, R, e1, fun F1 H1 s1 R1 => iteT ?_⟩
    exact ⟨Fr, F1, ρ1, c, ρ', R1, em, fun F2 H2 s2 R2 => k F2 H2 (s1.trans s2) R2⟩
  · rename_i hne
    cases c with
    | true => exact absurd em (hne _)
    | false => exact ⟨Fr, F, ρ, _, _, R, em, fun F1 H1 s1 R1 => iteF (k F1 H1 s1 R1)⟩
theorem tw_or (ha : TeE X a t) (hb : TwE X (.BoolOp .Or (b :: rest) pos) u) : TwE X (.BoolOp .Or (a :: b :: rest) pos) (orM t u) := by
  refine ⟨pw_imp (pw_or ha.pt hb.pw) fun σ H Q ⟨Fr, F, ρ, c, ρ', R, em, k⟩ => ?_⟩
  unfold orM at em
  split at em
  · rename_i ρ1 e1
    refine ⟨Fr, F, ρ, _, _, R, e1, fun F1 H1 s1 R1 => iteF ?_⟩
    exact ⟨Fr, F1, ρ1, c, ρ', R1, em, fun F2 H2 s2 R2 => k F2 H2 (s1.trans s2) R2⟩
  · rename_i hne
    cases c with
    | false => exact absurd em (hne _)
    | true => exact ⟨Fr, F, ρ, _, _, R, em, fun F1 H1 s1 R1 => iteT (k F1 H1 s1 R1)⟩
theorem te_not (ha : TeE X a t) : TeE X (.UnaryOp .Not a pos) (notM t) := by
  refine ⟨pt_imp (pt_not ha.pt) fun σ H Q ⟨Fr, F, ρ, c, ρ', R, em, k⟩ => ?_⟩
  unfold notM at em
  split at em
  · rename_i b' ρ1 e1
    cases em
    exact ⟨Fr, F, ρ, _, _, R, e1, fun F1 H1 s1 R1 => k F1 H1 s1 R1⟩
  · cases em
/-- x if t else y -/
def ifM (t : TM) (ma mb : EM) : EM := fun ρ => match t ρ with
  | some (true, ρ') => ma ρ'
  | some (false, ρ') => mb ρ'
  | none => none
theorem oe_if {c : Expr} (hc : TeE X c t) (ha : OE X a ma) (hb : OE X b mb) : OE X (.IfExp c a b pos) (ifM t ma mb) := by
  refine ⟨pe_imp (pe_ifExp hc.pt ha.pe hb.pe) fun σ H Q ⟨Fr, F, ρ, o, ρ', R, em, k⟩ => ?_⟩
  unfold ifM at em
  split at em
  · rename_i ρ1 e1
    exact ⟨Fr, F, ρ, _, _, R, e1, fun F1 H1 s1 R1 => iteT ⟨Fr, F1, ρ1, o, ρ', R1, em, fun F2 H2 v s2 R2 q => k F2 H2 v (s1.trans s2) R2 q⟩⟩
  · rename_i ρ1 e1
    exact ⟨Fr, F, ρ, _, _, R, e1, fun F1 H1 s1 R1 => iteF ⟨Fr, F1, ρ1, o, ρ', R1, em, fun F2 H2 v s2 R2 q => k F2 H2 v (s1.trans s2) R2 q⟩⟩
  · cases em
/-- as values: truth values alone -/
def andV (ma mb : EM) : EM := fun ρ => match ma ρ with
  | some (.val (.bl true), ρ') => mb ρ'
  | some (.val (.bl false), ρ') => some (.val (.bl false), ρ')
  | _ => none
def orV (ma mb : EM) : EM := fun ρ => match ma ρ with
  | some (.val (.bl false), ρ') => mb ρ'
  | some (.val (.bl true), ρ') => some (.val (.bl true), ρ')
  | _ => none
def notV (ma : EM) : EM := fun ρ => match ma ρ with
  | some (.val (.bl b), ρ') => some (.val (.bl (!b)), ρ')
  | _ => none
theorem oe_one {op} (h : OE X a m) : OE X (.BoolOp op [a] pos) m := ⟨pe_one h.pe⟩
theorem oe_and (ha : OE X a ma) (hb : OE X (.BoolOp .And (b :: rest) pos) mb) : OE X (.BoolOp .And (a :: b :: rest) pos) (andV ma mb) := by
  refine ⟨pe_imp (pe_and ha.pe hb.pe) fun σ H Q ⟨Fr, F, ρ, o, ρ', R, em, k⟩ => ?_⟩
  unfold andV at em
  split at em
  · rename_i ρ1 e1
    refine ⟨Fr, F, ρ, _, _, R, e1, fun F1 H1 v s1 R1 q => ?_⟩
    cases q
    exact ⟨true, rfl, iteT ⟨Fr, F1, ρ1, o, ρ', R1, em, fun F2 H2 v s2 R2 q => k F2 H2 v (s1.trans s2) R2 q⟩⟩
  · rename_i ρ1 e1
    cases em
    refine ⟨Fr, F, ρ, _, _, R, e1, fun F1 H1 v s1 R1 q => ?_⟩
    cases q
    exact ⟨false, rfl, iteF (k F1 H1 _ s1 R1 (.bl false))⟩
  · cases em
theorem oe_or (ha : OE X a ma) (hb : OE X (.BoolOp .Or (b :: rest) pos) mb) : OE X (.BoolOp .Or (a :: b :: rest) pos) (orV ma mb) := by
  refine ⟨pe_imp (pe_or ha.pe hb.pe) fun σ H Q ⟨Fr, F, ρ, o, ρ', R, em, k⟩ => ?_⟩
  unfold orV at em
  split at em
  · rename_i ρ1 e1
    refine ⟨Fr, F, ρ, _, _, R, e1, fun F1 H1 v s1 R1 q => ?_⟩
    cases q
    exact ⟨false, rfl, iteF ⟨Fr, F1, ρ1, o, ρ', R1, em, fun F2 H2 v s2 R2 q => k F2 H2 v (s1.trans s2) R2 q⟩⟩
  · rename_i ρ1 e1
    cases em
    refine ⟨Fr, F, ρ, _, _, R, e1, fun F1 H1 v s1 R1 q => ?_⟩
    cases q
    exact ⟨true, rfl, iteT (k F1 H1 _ s1 R1 (.bl true))⟩
  · cases em
theorem oe_not (ha : OE X a ma) : OE X (.UnaryOp .Not a pos) (notV ma) := by
  refine ⟨pe_imp (pe_not ha.pe) fun σ H Q ⟨Fr, F, ρ, o, ρ', R, em, k⟩ => ?_⟩
  unfold notV at em
  split at em
  · rename_i b' ρ1 e1
    cases em
    refine ⟨Fr, F, ρ, _, _, R, e1, fun F1 H1 v s1 R1 q => ?_⟩
    cases q
    exact ⟨b', rfl, k F1 H1 _ s1 R1 (.bl _)⟩
  · cases em

/-! operands in a row -/
def nilA : AM := fun ρ => some ([], ρ)
def consA (m : EM) (r : AM) : AM := fun ρ => match frz m ρ with
  | some (o, ρ') => match r ρ' with
    | some (os, ρ2) => some (o :: os, ρ2)
    | none => none
  | none => none
theorem ae_nil : AE X [] nilA := ⟨pa_imp pa_nil fun σ H Q ⟨Fr, F, ρ, os, ρ', R, em, k⟩ => by cases em; exact k F H [] (Same.refl F) R .nil⟩
theorem ae_cons {r : AM} (h : OE X e m) (hr : AE X es r) (hs : starEach (e :: es) X.env = (false, eval e X.env) :: starEach es X.env := by rfl) : AE X (e :: es) (consA m r) := by
  refine ⟨pa_imp (pa_cons h.ne.pe hr.pa hs) fun σ H Q ⟨Fr, F, ρ, os, ρ', R, em, k⟩ => ?_⟩
  unfold consA at em
  split at em
  · rename_i o ρ1 e1
    split at em
    · rename_i os' ρ2 e2
      cases em
      exact ⟨Fr, F, ρ, _, _, R, e1, fun F1 H1 v s1 R1 q => ⟨Fr, F1, ρ1, _, _, R1, e2, fun F2 H2 vs s2 R2 q2 => k F2 H2 _ (s1.trans s2) R2 (.cons (q.mono s2) q2)⟩⟩
    · cases em
  · cases em
def nilD : DM := fun ρ => some ([], ρ)
def consD (m : EM) (r : DM) : DM := fun ρ => match esc m ρ with
  | some (d, ρ') => match r ρ' with
    | some (ds, ρ2) => some (d :: ds, ρ2)
    | none => none
  | none => none
theorem de_nil : DE X [] nilD := ⟨pa_imp pa_nil fun σ H Q ⟨Fr, F, ρ, os, ρ', R, em, k⟩ => by cases em; exact k F H [] (Same.refl F) R .nil⟩
theorem de_cons {r : DM} (h : OE X e m) (hr : DE X es r) (hs : starEach (e :: es) X.env = (false, eval e X.env) :: starEach es X.env := by rfl) : DE X (e :: es) (consD m r) := by
  refine ⟨pa_imp (pa_cons h.ve.pe hr.pa hs) fun σ H Q ⟨Fr, F, ρ, os, ρ', R, em, k⟩ => ?_⟩
  unfold consD at em
  split at em
  · rename_i o ρ1 e1
    split at em
    · rename_i os' ρ2 e2
      cases em
      exact ⟨Fr, F, ρ, _, _, R, e1, fun F1 H1 v s1 R1 q => ⟨Fr, F1, ρ1, _, _, R1, e2, fun F2 H2 vs s2 R2 q2 => k F2 H2 _ (s1.trans s2) R2 (.cons (q.mono s2) q2)⟩⟩
    · cases em
  · cases em
/-- (a, b, ..) and [a, b, ..] -/
def tupM (m : DM) : EM := fun ρ => match m ρ with
  | some (ds, ρ') => if ds.length ≤ sizeLine then some (.val (.tup ds), ρ') else none
  | none => none
def lstM (m : DM) : EM := fun ρ => match m ρ with
  | some (ds, ρ') => if ds.length ≤ sizeLine then some (.tmp (.lst ds), ρ') else none
  | none => none
/-- a new object of its own -/
theorem Rel.tmp {K : PySem.W.Frag} {Fr : Frm} {F H : Hp} {ρ : Rho} {σ : St} (R : Rel K Fr F ρ σ H) {p : Addr} {o : HO} {d : D} (h : H p = none) (w : Own K F o d) : Rel K Fr F ρ σ (upd H p o) ∧ ORel K Fr F ρ σ (upd H p o) (.ref p) (.tmp d) := by
  have hF : F p = none := R.f.free h
  have hFr : Fr p = none := R.fr.free h
  refine ⟨R.grow (Same.refl F) (same_new h) (R.f.trans (same_new h)) R.dj (fun b z1 z2 => absurd z2 z1), p, o, rfl, upd_same, w, hF, hFr, fun i e e1 e2 => ?_⟩
  obtain ⟨v, e3, a, o', e4, h1, _⟩ := R.slot i _ e1
  rw [e2] at e3
  have e5 : v = .ref p := (Option.some.inj (Option.some.inj e3)).symm
  rw [e5] at e4
  cases e4
  rw [h] at h1; cases h1
theorem oe_tup {dm : DM} {x1} (h : DE X es dm) : OE X (.Tuple es x1 pos) (tupM dm) := by
  refine ⟨pe_imp (pe_tup h.pa) fun σ H Q ⟨Fr, F, ρ, o, ρ', R, em, k⟩ => ?_⟩
  unfold tupM at em
  split at em
  · rename_i ds ρ1 e1
    split at em
    · rename_i hl
      cases em
      refine ⟨Fr, F, ρ, _, _, R, e1, fun F1 H1 vs s1 R1 q => ⟨by rw [q.length]; exact hl, fun p hp => ?_⟩⟩
      obtain ⟨R2, s2⟩ := R1.new (.tup vs) hp
      exact k _ _ _ (s1.trans s2) R2 (.tup upd_same (q.mono s2))
    · cases em
  · cases em
theorem oe_lst {dm : DM} (h : DE X es dm) : OE X (.List es pos) (lstM dm) := by
  refine ⟨pe_imp (pe_lst h.pa) fun σ H Q ⟨Fr, F, ρ, o, ρ', R, em, k⟩ => ?_⟩
  unfold lstM at em
  split at em
  · rename_i ds ρ1 e1
    split at em
    · rename_i hl
      cases em
      refine ⟨Fr, F, ρ, _, _, R, e1, fun F1 H1 vs s1 R1 q => ⟨by rw [q.length]; exact hl, fun p hp => ?_⟩⟩
      obtain ⟨R2, w⟩ := R1.tmp hp (Own.lst q)
      exact k _ _ _ s1 R2 w
    · cases em
  · cases em
end
end Ev

set_option Elab.async false
set_option linter.all false
set_option maxRecDepth 100000
/-! Ev. C: operations on values. -/
set_option autoImplicit false
namespace Ev
open PySem PySem.Spec PyProof.Rows L2

section
variable {X : Cx}
/-- an operation that gives a plain value at once -/
theorem after_val {K : PySem.W.Frag} {Fr : Frm} {F H : Hp} {ρ : Rho} {σ : St} {v : V} {d : D} {Q : VK} (R : Rel K Fr F ρ σ H) (r : Rep K F v d) (k : After K Fr F ρ σ (.val d) Q) : Q v H := k F H v (Same.refl F) R r
theorem after_new {K : PySem.W.Frag} {Fr : Frm} {F H : Hp} {ρ : Rho} {σ : St} {p : Addr} {vs : List V} {ds : List D} {Q : VK} (R : Rel K Fr F ρ σ H) (hp : H p = none) (r : Reps K F vs ds) (k : After K Fr F ρ σ (.tmp (.lst ds)) Q) : Q (.ref p) (upd H p (.lst vs)) := by
  obtain ⟨R2, w⟩ := R.tmp hp (Own.lst r)
  exact k F _ _ (Same.refl F) R2 w
theorem after_tup {K : PySem.W.Frag} {Fr : Frm} {F H : Hp} {ρ : Rho} {σ : St} {p : Addr} {vs : List V} {ds : List D} {Q : VK} (R : Rel K Fr F ρ σ H) (hp : H p = none) (r : Reps K F vs ds) (k : After K Fr F ρ σ (.val (.tup ds)) Q) : Q (.ref p) (upd H p (.tup vs)) := by
  obtain ⟨R2, s2⟩ := R.new (.tup vs) hp
  exact k _ _ _ s2 R2 (.tup upd_same (r.mono s2))

/-! ints -/
def intG (c : Int → Int → Bool) (f : Int → Int → Int) : D → D → Option Opd
  | .int i, .int j => if c i j then some (.val (.int (f i j))) else none
  | _, _ => none
def intB (f : Int → Int → Bool) : D → D → Option Opd
  | .int i, .int j => some (.val (.bl (f i j)))
  | _, _ => none
theorem ops_I {C : Int → Int → Prop} {c : Int → Int → Bool} {f : Int → Int → Int} (hc : ∀ i j, c i j = true → C i j) : OpS X (rI C fun i j => .int (f i j)) (intG c f) := by
  intro Fr F H ρ σ x y d e o Q R hx hy g k
  unfold intG at g
  split at g
  · rename_i i j
    split at g
    · rename_i h
      cases g
      cases hx.int
      cases hy.int
      exact ⟨i, j, rfl, rfl, hc i j h, after_val R (.int _) k⟩
    · cases g
  · cases g
theorem ops_I0 {f : Int → Int → Int} : OpS X (rI0 fun i j => .int (f i j)) (intG (fun _ _ => true) f) := by
  intro Fr F H ρ σ x y d e o Q R hx hy g k
  unfold intG at g
  split at g
  · rename_i i j
    cases g
    cases hx.int
    cases hy.int
    exact ⟨i, j, rfl, rfl, after_val R (.int _) k⟩
  · cases g
theorem ops_B0 {f : Int → Int → Bool} : OpS X (rI0 fun i j => .bl (f i j)) (intB f) := by
  intro Fr F H ρ σ x y d e o Q R hx hy g k
  unfold intB at g
  split at g
  · rename_i i j
    cases g
    cases hx.int
    cases hy.int
    exact ⟨i, j, rfl, rfl, after_val R (.bl _) k⟩
  · cases g
def yes : Int → Int → Bool := fun _ _ => true
def mulOk (i j : Int) : Bool := decide (-(2 ^ 64) < i ∧ i < 2 ^ 64) || decide (-(2 ^ 64) < j ∧ j < 2 ^ 64) || decide (i.natAbs.log2 + j.natAbs.log2 < 1000000)
@[simp] def divOk (_ j : Int) : Bool := decide (0 < j) && decide (j.natAbs.log2 < 9000)
@[simp] def modOk (_ j : Int) : Bool := decide (0 < j)
@[simp] def powOk (i j : Int) : Bool := decide (0 ≤ j) && decide (j ≤ 1000000) && decide (i.natAbs < 2 ^ 64)
@[simp] def shrOk (_ j : Int) : Bool := decide (0 ≤ j)
abbrev subG := intG yes (· - ·)
abbrev divG := intG divOk (· / ·)
abbrev modG := intG modOk (· % ·)
abbrev powG := intG powOk (fun i j => i ^ j.toNat)
abbrev shlG := intG powOk (fun i j => i * 2 ^ j.toNat)
abbrev shrG := intG shrOk (fun i j => i / 2 ^ j.toNat)
abbrev andG := intG yes Builtin.bitAnd
abbrev orG := intG yes Builtin.bitOr
abbrev xorG := intG yes Builtin.bitXor
abbrev ltG := intB (fun i j => decide (i < j))
abbrev leG := intB (fun i j => decide (i ≤ j))
abbrev gtG := intB (fun i j => decide (j < i))
abbrev geG := intB (fun i j => decide (j ≤ i))

/-- + of ints, texts, lists, tuples -/
def addG : D → D → Option Opd
  | .int i, .int j => some (.val (.int (i + j)))
  | .str s, .str t => if s.length + t.length ≤ sizeLine then some (.val (.str (s ++ t))) else none
  | .lst xs, .lst ys => if xs.length + ys.length ≤ sizeLine then some (.tmp (.lst (xs ++ ys))) else none
  | .tup xs, .tup ys => if xs.length + ys.length ≤ sizeLine then some (.val (.tup (xs ++ ys))) else none
  | _, _ => none
def rAdd (K : PySem.W.Frag) : R2 := fun x y H Q => (rI0 (fun i j => .int (i + j)) x y H Q ∨ (∃ i j, x = .str i ∧ y = .str j ∧ i.length + j.length ≤ sizeLine ∧ Q (.str (i ++ j)) H)) ∨ (rCat x y H Q ∨ rCatA K x y H Q)
theorem op_addD : OpR X (binaryOp .Add) (rAdd X.K) := (op_add.or op_add_str).or (op_cat.or op_catA)
theorem ops_add : OpS X (rAdd X.K) addG := by
  intro Fr F H ρ σ x y d e o Q R hx hy g k
  unfold addG at g
  split at g
  · rename_i i j
    cases g
    cases hx.int
    cases hy.int
    exact .inl (.inl ⟨i, j, rfl, rfl, after_val R (.int _) k⟩)
  · rename_i i j
    split at g
    · rename_i h
      cases g
      cases hx.str
      cases hy.str
      exact .inl (.inr ⟨i, j, rfl, rfl, h, after_val R (.str _) k⟩)
    · cases g
  · rename_i xs ys
    split at g
    · rename_i h
      cases g
      obtain ⟨a, vs, rfl, q1, r1⟩ := hx.lst R.f
      obtain ⟨b, ws, rfl, q2, r2⟩ := hy.lst R.f
      exact .inr (.inl ⟨a, b, vs, ws, rfl, rfl, q1, q2, by rw [r1.length, r2.length]; exact h, fun p hp => after_new R hp (r1.append r2) k⟩)
    · cases g
  · rename_i xs ys
    split at g
    · rename_i h
      cases g
      have hx0 : Rep X.K F x (.tup xs) := by
        rcases hx with z | ⟨a, o, e1, h1, h2⟩
        · exact z
        · cases h2
      have hy0 : Rep X.K F y (.tup ys) := by
        rcases hy with z | ⟨a, o, e1, h1, h2⟩
        · exact z
        · cases h2
      obtain ⟨a, vs, rfl, q1, r1⟩ := hx.tup R.f
      obtain ⟨b, ws, rfl, q2, r2⟩ := hy.tup R.f
      refine .inr (.inr ⟨a, b, vs, ws, rfl, rfl, q1, q2, by rw [r1.length, r2.length]; exact h, fun z => ?_, fun z z2 => ?_, fun z z2 p hp => after_tup R hp (r1.append r2) k⟩)
      · subst z
        cases r1
        exact after_val R hy0 k
      · subst z2
        cases r2
        rw [List.append_nil] at k
        exact after_val R hx0 k
    · cases g
  · cases g
/-- * of ints; a list so many times -/
def mulG : D → D → Option Opd
  | .int i, .int j => if mulOk i j then some (.val (.int (i * j))) else none
  | .lst xs, .int k => if -(2 ^ 63) ≤ k ∧ k < 2 ^ 63 ∧ xs.length * k.toNat ≤ sizeLine then some (.tmp (.lst (List.replicate k.toNat xs).flatten)) else none
  | .tup xs, .int k => if xs ≠ [] ∧ 2 ≤ k ∧ k ≤ 1000 ∧ xs.length ≤ 1000 then some (.val (.tup (List.replicate k.toNat xs).flatten)) else none
  | _, _ => none
theorem op_mulD : OpR X (binaryOp .Mult) (fun x y H Q => ((rI CMul (fun i j => .int (i * j)) x y H Q ∨ rI CMulW (fun i j => .int (i * j)) x y H Q) ∨ rRep x y H Q) ∨ rRepT X.K x y H Q) := ((op_mul.or op_mulW).or op_rep).or op_repT
theorem ops_mul : OpS X (fun x y H Q => ((rI CMul (fun i j => .int (i * j)) x y H Q ∨ rI CMulW (fun i j => .int (i * j)) x y H Q) ∨ rRep x y H Q) ∨ rRepT X.K x y H Q) mulG := by
  intro Fr F H ρ σ x y d e o Q R hx hy g k
  unfold mulG at g
  split at g
  · rename_i i j
    split at g
    · rename_i h
      cases g
      cases hx.int
      cases hy.int
      unfold mulOk at h
      rw [Bool.or_eq_true, Bool.or_eq_true] at h
      rcases h with (h | h) | h
      · exact .inl (.inl (.inl ⟨i, j, rfl, rfl, .inl (of_decide_eq_true h), after_val R (.int _) k⟩))
      · exact .inl (.inl (.inl ⟨i, j, rfl, rfl, .inr (of_decide_eq_true h), after_val R (.int _) k⟩))
      · exact .inl (.inl (.inr ⟨i, j, rfl, rfl, of_decide_eq_true (p := i.natAbs.log2 + j.natAbs.log2 < 1000000) h, after_val R (.int _) k⟩))
    · cases g
  · rename_i xs n
    split at g
    · rename_i h
      cases g
      cases hy.int
      obtain ⟨a, vs, rfl, q1, r1⟩ := hx.lst R.f
      exact .inl (.inr ⟨a, n, vs, rfl, rfl, q1, h.1, h.2.1, by rw [r1.length]; exact h.2.2, fun p hp => after_new R hp (r1.rep _) k⟩)
    · cases g
  · rename_i xs n
    split at g
    · rename_i h
      cases g
      cases hy.int
      obtain ⟨a, vs, rfl, q1, r1⟩ := hx.tup R.f
      exact .inr ⟨a, n, vs, rfl, rfl, q1, (fun z => h.1 (by subst z; cases r1; rfl)), h.2.1, h.2.2.1, by rw [r1.length]; exact h.2.2.2, fun p hp => after_tup R hp (r1.rep _) k⟩
    · cases g
  · cases g
variable {a b : Expr} {ma mb : EM} {pos : Pos}
theorem oe_add (ha : OE X a ma) (hb : OE X b mb) : OE X (.BinOp a .Add b pos) (binM addG ma mb) := oe_op op_addD ops_add ha hb
theorem oe_sub (ha : OE X a ma) (hb : OE X b mb) : OE X (.BinOp a .Sub b pos) (binM subG ma mb) := oe_op op_sub ops_I0 ha hb
theorem oe_mul (ha : OE X a ma) (hb : OE X b mb) : OE X (.BinOp a .Mult b pos) (binM mulG ma mb) := oe_op op_mulD ops_mul ha hb
theorem oe_div (ha : OE X a ma) (hb : OE X b mb) : OE X (.BinOp a .FloorDiv b pos) (binM divG ma mb) := oe_op op_fdivW (ops_I fun i j h => by
  unfold divOk at h
  rw [Bool.and_eq_true] at h
  exact ⟨of_decide_eq_true h.1, of_decide_eq_true h.2⟩) ha hb
theorem oe_mod (ha : OE X a ma) (hb : OE X b mb) : OE X (.BinOp a .Mod b pos) (binM modG ma mb) := oe_op op_mod (ops_I fun i j h => of_decide_eq_true h) ha hb
theorem powOk_C {i j : Int} (h : powOk i j = true) : CPow i j := by
  unfold powOk at h
  rw [Bool.and_eq_true, Bool.and_eq_true] at h
  exact ⟨of_decide_eq_true h.1.1, of_decide_eq_true h.1.2, of_decide_eq_true h.2⟩
theorem oe_pow (ha : OE X a ma) (hb : OE X b mb) : OE X (.BinOp a .Pow b pos) (binM powG ma mb) := oe_op op_pow (ops_I fun i j h => powOk_C h) ha hb
theorem oe_shl (ha : OE X a ma) (hb : OE X b mb) : OE X (.BinOp a .LShift b pos) (binM shlG ma mb) := oe_op op_shl (ops_I fun i j h => powOk_C h) ha hb
theorem oe_shr (ha : OE X a ma) (hb : OE X b mb) : OE X (.BinOp a .RShift b pos) (binM shrG ma mb) := oe_op op_shr (ops_I fun i j h => of_decide_eq_true h) ha hb
theorem oe_band (ha : OE X a ma) (hb : OE X b mb) : OE X (.BinOp a .BitAnd b pos) (binM andG ma mb) := oe_op op_and ops_I0 ha hb
theorem oe_bor (ha : OE X a ma) (hb : OE X b mb) : OE X (.BinOp a .BitOr b pos) (binM orG ma mb) := oe_op op_or ops_I0 ha hb
theorem oe_bxor (ha : OE X a ma) (hb : OE X b mb) : OE X (.BinOp a .BitXor b pos) (binM xorG ma mb) := oe_op op_xor ops_I0 ha hb
theorem oe_lt (ha : OE X a ma) (hb : OE X b mb) : OE X (.Compare a [.Lt] [b] pos) (binM ltG ma mb) := oe_cmp op_lt ops_B0 ha hb (nomark _)
theorem oe_le (ha : OE X a ma) (hb : OE X b mb) : OE X (.Compare a [.LtE] [b] pos) (binM leG ma mb) := oe_cmp op_le ops_B0 ha hb (nomark _)
theorem oe_gt (ha : OE X a ma) (hb : OE X b mb) : OE X (.Compare a [.Gt] [b] pos) (binM gtG ma mb) := oe_cmp op_gt ops_B0 ha hb (nomark _)
theorem oe_ge (ha : OE X a ma) (hb : OE X b mb) : OE X (.Compare a [.GtE] [b] pos) (binM geG ma mb) := oe_cmp op_ge ops_B0 ha hb (nomark _)
theorem te_lt (ha : OE X a ma) (hb : OE X b mb) : TeE X (.Compare a [.Lt] [b] pos) (boolM (binM ltG ma mb)) := te_cmp op_lt ops_B0 ha hb (nomark _)
theorem te_le (ha : OE X a ma) (hb : OE X b mb) : TeE X (.Compare a [.LtE] [b] pos) (boolM (binM leG ma mb)) := te_cmp op_le ops_B0 ha hb (nomark _)
theorem te_gt (ha : OE X a ma) (hb : OE X b mb) : TeE X (.Compare a [.Gt] [b] pos) (boolM (binM gtG ma mb)) := te_cmp op_gt ops_B0 ha hb (nomark _)
theorem te_ge (ha : OE X a ma) (hb : OE X b mb) : TeE X (.Compare a [.GtE] [b] pos) (boolM (binM geG ma mb)) := te_cmp op_ge ops_B0 ha hb (nomark _)
/-- - x -/
def negM (m : EM) : EM := fun ρ => match m ρ with
  | some (.val (.int i), ρ') => some (.val (.int (-i)), ρ')
  | _ => none
theorem oe_neg (ha : OE X a ma) : OE X (.UnaryOp .USub a pos) (negM ma) := by
  refine ⟨pe_imp (pe_un un_neg ha.pe) fun σ H Q ⟨Fr, F, ρ, o, ρ', R, em, k⟩ => ?_⟩
  unfold negM at em
  split at em
  · rename_i i ρ1 e1
    cases em
    refine ⟨Fr, F, ρ, _, _, R, e1, fun F1 H1 v s1 R1 q => ?_⟩
    cases q
    exact ⟨i, rfl, k F1 H1 _ s1 R1 (.int _)⟩
  · cases em

/-! ==, !=: data of any depth -/
mutual
def toPy : D → Option PyData
  | .non => some .none
  | .bl b => some (.bool b)
  | .int i => some (.int i)
  | .str s => some (.str s)
  | .tup xs => match toPys xs with
    | some ys => some (.tuple ys)
    | none => none
  | .lst xs => match toPys xs with
    | some ys => some (.list ys)
    | none => none
  | .rol xs => match toPys xs with
    | some ys => some (.list ys)
    | none => none
  | .ins _ _ _ => none
  | .dct _ _ => none
  | .dtt _ _ => none
def toPys : List D → Option (List PyData)
  | [] => some []
  | x :: xs => match toPy x with
    | some y => match toPys xs with
      | some ys => some (y :: ys)
      | none => none
    | none => none
end
mutual
theorem rep_dp {K : PySem.W.Frag} {F H : Hp} (s : Same F H) : ∀ {v : V} {d : D} {p : PyData}, Rep K F v d → toPy d = some p → Dp K H v p
  | _, _, _, .non, e => by cases e; exact .non
  | _, _, _, .bl b, e => by cases e; exact .bl b
  | _, _, _, .int i, e => by cases e; exact .int i
  | _, _, _, .str x, e => by cases e; exact .str x
  | _, _, _, .tup h r, e => by
    rw [toPy] at e
    split at e
    · rename_i ys e1; cases e; exact .tup (SqT.of (s _ _ h)) (reps_dp s r e1)
    · cases e
  | _, _, _, .lst h r, e => by
    rw [toPy] at e
    split at e
    · rename_i ys e1; cases e; exact .lst (SqL.of (s _ _ h)) (reps_dp s r e1)
    · cases e
  | _, _, _, .rol h r, e => by
    rw [toPy] at e
    split at e
    · rename_i ys e1; cases e; exact .lst (sameL s h) (reps_dp s r e1)
    · cases e
  | _, _, _, .ins h l r, e => by
    rw [toPy] at e
    cases e
  | _, _, _, .dct h l r, e => by
    rw [toPy] at e
    cases e
  | _, _, _, .dtt h l r, e => by
    rw [toPy] at e
    cases e
theorem reps_dp {K : PySem.W.Frag} {F H : Hp} (s : Same F H) : ∀ {vs : List V} {ds : List D} {ps : List PyData}, Reps K F vs ds → toPys ds = some ps → DpAll K H vs ps
  | _, _, _, .nil, e => by cases e; exact .nil
  | _, _, _, .cons h r, e => by
    rw [toPys] at e
    split at e
    · rename_i y e1
      split at e
      · rename_i ys e2; cases e; exact .cons (rep_dp s h e1) (reps_dp s r e2)
      · cases e
    · cases e
end
theorem Viw.dp {K : PySem.W.Frag} {F H : Hp} {v : V} {d : D} {p : PyData} (s : Same F H) (h : Viw K F H v d) (e : toPy d = some p) : Dp K H v p := by
  rcases h with h | ⟨a, o, e1, h1, h2⟩
  · exact rep_dp s h e
  · cases h2 with
    | lst r =>
      rw [toPy] at e
      split at e
      · rename_i ys e2; cases e; subst e1; exact .lst (SqL.of h1) (reps_dp s r e2)
      · cases e
    | ins l r =>
      rw [toPy] at e
      cases e
    | dct l r =>
      rw [toPy] at e
      cases e
    | dtt l r =>
      rw [toPy] at e
      cases e
def eqD (d e : D) : Option Bool := match toPy d with
  | some p => match toPy e with
    | some q => if SeqAt.shaped p = true ∧ SeqAt.shaped q = true then some (PyData.eqv p q) else none
    | none => none
  | none => none
theorem eqD_some {d e : D} {c : Bool} (h : eqD d e = some c) : ∃ p q, toPy d = some p ∧ toPy e = some q ∧ SeqAt.shaped p = true ∧ SeqAt.shaped q = true ∧ PyData.eqv p q = c := by
  unfold eqD at h
  split at h
  · rename_i p e1
    split at h
    · rename_i q e2
      split at h
      · rename_i z; cases h; exact ⟨p, q, e1, e2, z.1, z.2, rfl⟩
      · cases h
    · cases h
  · cases h
def eqG (d e : D) : Option Opd := match eqD d e with
  | some c => some (.val (.bl c))
  | none => none
def neG (d e : D) : Option Opd := match eqD d e with
  | some c => some (.val (.bl (!c)))
  | none => none
theorem ops_eq : OpS X (rEqD X.K) eqG := by
  intro Fr F H ρ σ x y d e o Q R hx hy g k
  unfold eqG at g
  split at g
  · rename_i c e1
    cases g
    obtain ⟨p, q, e2, e3, z1, z2, rfl⟩ := eqD_some e1
    exact ⟨p, q, hx.dp R.f e2, hy.dp R.f e3, z1, z2, after_val R (.bl _) k⟩
  · cases g
theorem ops_ne : OpS X (rNeD X.K) neG := by
  intro Fr F H ρ σ x y d e o Q R hx hy g k
  unfold neG at g
  split at g
  · rename_i c e1
    cases g
    obtain ⟨p, q, e2, e3, z1, z2, rfl⟩ := eqD_some e1
    exact ⟨p, q, hx.dp R.f e2, hy.dp R.f e3, z1, z2, after_val R (.bl _) k⟩
  · cases g
theorem oe_eq (hu : X.A.units + 64 < cLine) (ha : OE X a ma) (hb : OE X b mb) : OE X (.Compare a [.Eq] [b] pos) (binM eqG ma mb) := oe_cmp (op_eqD hu) ops_eq ha hb (nomark _)
theorem oe_ne (hu : X.A.units + 64 < cLine) (ha : OE X a ma) (hb : OE X b mb) : OE X (.Compare a [.NotEq] [b] pos) (binM neG ma mb) := oe_cmp (op_neD hu) ops_ne ha hb (nomark _)
theorem te_eq (hu : X.A.units + 64 < cLine) (ha : OE X a ma) (hb : OE X b mb) : TeE X (.Compare a [.Eq] [b] pos) (boolM (binM eqG ma mb)) := te_cmp (op_eqD hu) ops_eq ha hb (nomark _)
theorem te_ne (hu : X.A.units + 64 < cLine) (ha : OE X a ma) (hb : OE X b mb) : TeE X (.Compare a [.NotEq] [b] pos) (boolM (binM neG ma mb)) := te_cmp (op_neD hu) ops_ne ha hb (nomark _)
/-- is None -/
def isNonD : D → Bool
  | .non => true
  | _ => false
def isG (d e : D) : Option Opd := match e with
  | .non => some (.val (.bl (isNonD d)))
  | _ => none
def isnG (d e : D) : Option Opd := match e with
  | .non => some (.val (.bl (!isNonD d)))
  | _ => none
theorem viw_isN {K : PySem.W.Frag} {F H : Hp} {v : V} {d : D} (h : Viw K F H v d) : decide (v = .non) = isNonD d := by
  rcases h with h | ⟨a, o, e1, h1, h2⟩
  · cases h <;> simp [isNonD]
  · cases h2 <;> (subst e1; simp [isNonD])
theorem ops_is : OpS X (fun x y H Q => y = .non ∧ Q (.bl (decide (x = .non))) H) isG := by
  intro Fr F H ρ σ x y d e o Q R hx hy g k
  unfold isG at g
  split at g
  · cases g
    refine ⟨hy.non, ?_⟩
    rw [viw_isN hx]
    exact after_val R (.bl _) k
  · cases g
theorem ops_isn : OpS X (fun x y H Q => y = .non ∧ Q (.bl (!decide (x = .non))) H) isnG := by
  intro Fr F H ρ σ x y d e o Q R hx hy g k
  unfold isnG at g
  split at g
  · cases g
    refine ⟨hy.non, ?_⟩
    rw [viw_isN hx]
    exact after_val R (.bl _) k
  · cases g
theorem oe_is (ha : OE X a ma) (hb : OE X b mb) : OE X (.Compare a [.Is] [b] pos) (binM isG ma mb) := oe_cmp op_isN ops_is ha hb (nomark _)
theorem oe_isn (ha : OE X a ma) (hb : OE X b mb) : OE X (.Compare a [.IsNot] [b] pos) (binM isnG ma mb) := oe_cmp op_notN ops_isn ha hb (nomark _)
theorem te_is (ha : OE X a ma) (hb : OE X b mb) : TeE X (.Compare a [.Is] [b] pos) (boolM (binM isG ma mb)) := te_cmp op_isN ops_is ha hb (nomark _)
theorem te_isn (ha : OE X a ma) (hb : OE X b mb) : TeE X (.Compare a [.IsNot] [b] pos) (boolM (binM isnG ma mb)) := te_cmp op_notN ops_isn ha hb (nomark _)

/-! xs[i] -/
def atD : D → D → Option Opd
  | .tup xs, .int i => match atI xs i with
    | some d => some (.val d)
    | none => none
  | .lst xs, .int i => match atI xs i with
    | some d => some (.val d)
    | none => none
  | .rol xs, .int i => match atI xs i with
    | some d => some (.val d)
    | none => none
  | .str z, .int i => if z.length ≤ sizeLine then match atI z.cps.toList i with
    | some c => some (.val (.str ⟨#[c]⟩))
    | none => none else none
  | _, _ => none
theorem Reps.at {K : PySem.W.Frag} {F : Hp} {vs : List V} {ds : List D} {i : Int} {d : D} (r : Reps K F vs ds) (h : atI ds i = some d) : ∃ v, atI vs i = some v ∧ Rep K F v d := by
  unfold atI at h ⊢
  rw [r.length]
  cases e : ixN ds.length i with
  | none => rw [e] at h; cases h
  | some j => rw [e] at h; exact r.get h
theorem ops_at : OpS X (rIx X.K) atD := by
  intro Fr F H ρ σ x y d e o Q R hx hy g k
  unfold atD at g
  split at g
  · rename_i xs i
    split at g
    · rename_i d e1
      cases g
      cases hy.int
      obtain ⟨a, vs, rfl, q, r⟩ := hx.tup R.f
      obtain ⟨v, e2, r2⟩ := r.at e1
      exact .inr (.inl ⟨a, vs, i, v, rfl, rfl, q, e2, after_val R r2 k⟩)
    · cases g
  · rename_i xs i
    split at g
    · rename_i d e1
      cases g
      cases hy.int
      obtain ⟨a, vs, rfl, q, r⟩ := hx.lst R.f
      obtain ⟨v, e2, r2⟩ := r.at e1
      exact .inl ⟨a, vs, i, v, rfl, rfl, SqL.of q, e2, after_val R r2 k⟩
    · cases g
  · rename_i xs i
    split at g
    · rename_i d e1
      cases g
      cases hy.int
      obtain ⟨a, vs, rfl, q, r⟩ := hx.rol R.f
      obtain ⟨v, e2, r2⟩ := r.at e1
      exact .inl ⟨a, vs, i, v, rfl, rfl, q, e2, after_val R r2 k⟩
    · cases g
  · rename_i z i
    split at g
    · rename_i hz
      split at g
      · rename_i c e1
        cases g
        cases hx.str
        cases hy.int
        exact .inr (.inr ⟨z, i, c, rfl, rfl, hz, e1, after_val R (.str _) k⟩)
      · cases g
    · cases g
  · cases g
theorem oe_at (ha : OE X a ma) (hb : OE X b mb) (hs : PlainIx b := by exact fun _ _ => rfl) : OE X (.Subscript a b pos) (binM atD ma mb) :=
  ⟨pe_imp (pe_ix ix_seq ha.ne.pe hb.ne.pe hs) fun _ _ _ => tOp_bin ops_at⟩

/-! slices -/
abbrev PM := Rho → Option (Option Int × Rho)
def tP (K : PySem.W.Frag) (m : PM) : TO := fun σ H Q => ∃ Fr F ρ i ρ', Rel K Fr F ρ σ H ∧ m ρ = some (i, ρ') ∧ ∀ F' H', Same F F' → Rel K Fr F' ρ' σ H' → Q i H'
structure PaE (X : Cx) (e : Option Expr) (m : PM) : Prop where
  po : PO X e (tP X.K m)
theorem po_imp {e : Option Expr} {t t' : TO} (h : PO X e t) (w : ∀ σ H Q, t' σ H Q → t σ H Q) : PO X e t' := ⟨fun pins s σ H Q I q => h.run pins s σ H Q I (w σ H Q q)⟩
def noP : PM := fun ρ => some (none, ρ)
def someP (m : EM) : PM := fun ρ => match m ρ with
  | some (.val (.int i), ρ') => some (some i, ρ')
  | _ => none
theorem pa_no : PaE X none noP := ⟨po_imp po_none fun σ H Q ⟨Fr, F, ρ, i, ρ', R, em, k⟩ => by cases em; exact k F H (Same.refl F) R⟩
theorem pa_some (h : OE X a ma) : PaE X (some a) (someP ma) := by
  refine ⟨po_imp (po_some h.pe) fun σ H Q ⟨Fr, F, ρ, i, ρ', R, em, k⟩ => ?_⟩
  unfold someP at em
  split at em
  · rename_i j ρ1 e1
    cases em
    refine ⟨Fr, F, ρ, _, _, R, e1, fun F1 H1 v s1 R1 q => ?_⟩
    cases q
    exact ⟨j, rfl, k F1 H1 s1 R1⟩
  · cases em
def cutL {α : Type} (xs : List α) (lo hi : Option Int) : List α := (xs.drop (HT.sIx xs.length 0 lo)).take (HT.sIx xs.length xs.length hi - HT.sIx xs.length 0 lo)
theorem Reps.cut {K : PySem.W.Frag} {F : Hp} {vs : List V} {ds : List D} (r : Reps K F vs ds) (lo hi : Option Int) : Reps K F (cutV vs lo hi) (cutL ds lo hi) := by
  unfold cutV cutL
  rw [r.length]
  exact (r.drop _).take _
def cutD (d : D) (lo hi : Option Int) : Option Opd := match d with
  | .tup xs => some (.val (.tup (cutL xs lo hi)))
  | .lst xs => some (.tmp (.lst (cutL xs lo hi)))
  | .rol xs => some (.tmp (.lst (cutL xs lo hi)))
  | .str z => if z.length ≤ sizeLine then some (.val (.str (cutS z lo hi))) else none
  | _ => none
def cutM (m : EM) (lo hi : PM) : EM := fun ρ => match frz m ρ with
  | some (o, ρ1) => match lo ρ1 with
    | some (i, ρ2) => match hi ρ2 with
      | some (j, ρ3) => match look o ρ3 with
        | some d => match cutD d i j with
          | some r => some (r, ρ3)
          | none => none
        | none => none
      | none => none
    | none => none
  | none => none
def rCut (K : PySem.W.Frag) : V → Option Int → Option Int → Hp → VK → Prop := fun x lo hi H Q => (rSlA K x lo hi H Q ∨ rSlL K x lo hi H Q) ∨ rSlS x lo hi H Q
theorem oe_cut {el eh : Option Expr} {lo hi : PM} {p2 : Pos} (h : OE X a ma) (hl : PaE X el lo) (hh : PaE X eh hi) : OE X (.Subscript a (.Slice el eh none p2) pos) (cutM ma lo hi) := by
  refine ⟨pe_imp (pe_slice (SlR.or (SlR.or sl_tupA sl_list) sl_str) h.ne.pe hl.po hh.po) fun σ H Q ⟨Fr, F, ρ, o, ρ', R, em, k⟩ => ?_⟩
  unfold cutM at em
  split at em
  · rename_i o1 ρ1 e1
    split at em
    · rename_i i ρ2 e2
      split at em
      · rename_i j ρ3 e3
        split at em
        · rename_i d e4
          split at em
          · rename_i r e5
            cases em
            refine ⟨Fr, F, ρ, _, _, R, e1, fun F1 H1 v s1 R1 q1 => ⟨Fr, F1, ρ1, _, _, R1, e2, fun F2 H2 s2 R2 => ⟨Fr, F2, ρ2, _, _, R2, e3, fun F3 H3 s3 R3 => ?_⟩⟩⟩
            have hv := (q1.mono (s2.trans s3)).look R3 e4
            have k' : After X.K Fr F3 ρ' σ o Q := fun F' H' v s R q => k F' H' v (((s1.trans s2).trans s3).trans s) R q
            unfold cutD at e5
            split at e5
            · rename_i xs
              cases e5
              obtain ⟨a', vs, rfl, q, r⟩ := hv.tup R3.f
              have hx0 : Rep X.K F3 (.ref a') (.tup xs) := by
                rcases hv with z | ⟨a, o, e1, h1, h2⟩
                · exact z
                · cases h2
              refine .inl (.inl ⟨a', vs, rfl, q, fun z => ?_, fun z p hp => after_tup R3 hp (r.cut i j) k'⟩)
              have e6 : cutL xs i j = xs := by
                unfold cutL
                rw [← r.length, z.1, z.2, List.drop_zero, Nat.sub_zero, r.length]
                exact List.take_length
              rw [e6] at k'
              exact after_val R3 hx0 k'
            · rename_i xs
              cases e5
              obtain ⟨a', vs, rfl, q, r⟩ := hv.lst R3.f
              exact .inl (.inr ⟨a', vs, rfl, SqL.of q, fun p hp => after_new R3 hp (r.cut i j) k'⟩)
            · rename_i xs
              cases e5
              obtain ⟨a', vs, rfl, q, r⟩ := hv.rol R3.f
              exact .inl (.inr ⟨a', vs, rfl, q, fun p hp => after_new R3 hp (r.cut i j) k'⟩)
            · rename_i z
              split at e5
              · rename_i hz
                cases e5
                cases hv.str
                exact .inr ⟨z, rfl, hz, after_val R3 (.str _) k'⟩
              · cases e5
            · cases e5
          · cases em
        · cases em
      · cases em
    · cases em
  · cases em
end
end Ev

set_option Elab.async false
set_option linter.all false
set_option maxRecDepth 100000
/-! Ev. D: statements, loops, comprehensions. -/
set_option autoImplicit false
namespace Ev
open PySem PySem.Spec PyProof.Rows L2

section
variable {K : PySem.W.Frag} {Fr : Frm} {F F' H H' : Hp} {ρ ρ' : Rho} {σ σ' : St} {v : V} {d : D}
theorem get_set_of {α : Type} {l : List α} {i j : Nat} {x : α} : (l.set i x)[j]? = if i = j then (if j < l.length then some x else none) else l[j]? := by
  by_cases e : i = j
  · subst e
    rw [if_pos rfl]
    by_cases hl : i < l.length
    · rw [if_pos hl, List.getElem?_set_self hl]
    · rw [if_neg hl, List.getElem?_eq_none (by simpa using hl)]
  · rw [if_neg e, List.getElem?_set_ne e]
theorem Rel.assign (R : Rel K Fr F ρ σ H) (i : Nat) (r : Rep K F v d) : Rel K Fr F (ρ.set i (some (.val d))) (σ.set i (some v)) H := by
  refine ⟨R.fr, R.f, R.dj, fun j sv e => ?_, fun j k d1 d2 e1 e2 x1 x2 e3 => ?_, by rw [List.length_set, List.length_set]; exact R.len⟩
  · rcases get_set_some e with ⟨rfl, e1, hl⟩ | ⟨ne, e1⟩
    · cases e1; exact ⟨v, List.getElem?_set_self (Nat.lt_of_lt_of_le hl R.len), r⟩
    · rw [List.getElem?_set_ne ne]; exact R.slot j sv e1
  · rcases get_set_some e1 with ⟨_, z, _⟩ | ⟨n1, z1⟩
    · cases z; cases x1
    · rcases get_set_some e2 with ⟨_, z, _⟩ | ⟨n2, z2⟩
      · cases z; cases x2
      · rw [List.getElem?_set_ne n1, List.getElem?_set_ne n2] at e3
        exact R.uniq j k d1 d2 z1 z2 x1 x2 e3
theorem Rel.obAddr (R : Rel K Fr F ρ σ H) {i : Nat} {t : SV} (h : ρ[i]? = some (some t)) (x : t.ob = true) : ∃ a o, σ[i]? = some (some (.ref a)) ∧ H a = some o ∧ (t.ex = false ∨ (∃ d, t = .lck d) → Fr a = some o) := by
  obtain ⟨v, e, s⟩ := R.slot i t h
  cases t with
  | val d => cases x
  | own d => obtain ⟨a, o, rfl, h1, _⟩ := s; exact ⟨a, o, e, h1, fun z => by rcases z with z | ⟨_, z⟩ <;> cases z⟩
  | bor d => obtain ⟨a, o, rfl, h1, _⟩ := s; exact ⟨a, o, e, R.fr _ _ h1.1, fun _ => h1.1⟩
  | lck d => obtain ⟨a, o, rfl, h1, _⟩ := s; exact ⟨a, o, e, R.fr _ _ h1.1, fun _ => h1.1⟩
/-- a new object stands apart from all that names hold -/
theorem ORel.apart (R : Rel K Fr F ρ σ H) (r : ORel K Fr F ρ σ H v (.tmp d)) {k : Nat} {t : SV} (h : ρ[k]? = some (some t)) (x : t.ob = true) : σ[k]? ≠ some (some v) := by
  obtain ⟨a, o, ev, h1, h2, h3, h4, h5⟩ := r
  intro z
  cases t with
  | val d => cases x
  | own d => exact h5 k d h z
  | bor d =>
    obtain ⟨v', e, b, o2, e2, g1, _⟩ := R.slot k _ h
    rw [z] at e
    have e3 : v' = v := (Option.some.inj (Option.some.inj e)).symm
    rw [e3, ev] at e2; cases e2
    rw [h4] at g1; cases g1.1
  | lck d =>
    obtain ⟨v', e, b, o2, e2, g1, _⟩ := R.slot k _ h
    rw [z] at e
    have e3 : v' = v := (Option.some.inj (Option.some.inj e)).symm
    rw [e3, ev] at e2; cases e2
    rw [h4] at g1; cases g1.1
theorem Rel.assignOwn (R : Rel K Fr F ρ σ H) (i : Nat) (r : ORel K Fr F ρ σ H v (.tmp d)) : Rel K Fr F (ρ.set i (some (.own d))) (σ.set i (some v)) H := by
  have ap := fun {k : Nat} {t : SV} => ORel.apart R r (k := k) (t := t)
  obtain ⟨a, o, ev, h1, h2, h3, h4, h5⟩ := r
  refine ⟨R.fr, R.f, R.dj, fun j sv e => ?_, fun j k d1 d2 e1 e2 x1 x2 e3 => ?_, by rw [List.length_set, List.length_set]; exact R.len⟩
  · rcases get_set_some e with ⟨rfl, e1, hl⟩ | ⟨ne, e1⟩
    · cases e1; exact ⟨v, List.getElem?_set_self (Nat.lt_of_lt_of_le hl R.len), a, o, ev, h1, h2, h3, h4⟩
    · rw [List.getElem?_set_ne ne]; exact R.slot j sv e1
  · rcases get_set_some e1 with ⟨rfl, z, hl⟩ | ⟨n1, z1⟩
    · rcases get_set_some e2 with ⟨rfl, z, _⟩ | ⟨n2, z2⟩
      · rfl
      · rw [List.getElem?_set_self (Nat.lt_of_lt_of_le hl R.len), List.getElem?_set_ne n2] at e3
        exact absurd e3.symm (ap z2 x2)
    · rcases get_set_some e2 with ⟨rfl, z, hl⟩ | ⟨n2, z2⟩
      · rw [List.getElem?_set_self (Nat.lt_of_lt_of_le hl R.len), List.getElem?_set_ne n1] at e3
        exact absurd e3 (ap z1 (by cases d1 <;> first | rfl | cases x1))
      · rw [List.getElem?_set_ne n1, List.getElem?_set_ne n2] at e3
        exact R.uniq j k d1 d2 z1 z2 x1 x2 e3
/-- the object of slot i is changed -/
theorem Rel.mut (R : Rel K Fr F ρ σ H) {i : Nat} {a : Addr} {e : D} {o : HO} (h : ρ[i]? = some (some (.own e))) (hs : σ[i]? = some (some (.ref a))) (w : Own K F o d) : Rel K Fr F (ρ.set i (some (.own d))) σ (upd H a o) := by
  obtain ⟨v, e1, a', o', e2, h1, h2, h3, h4⟩ := R.slot i _ h
  rw [hs] at e1
  have e3 : v = .ref a := (Option.some.inj (Option.some.inj e1)).symm
  rw [e3] at e2
  cases e2
  refine ⟨fun b u z => ?_, fun b u z => ?_, R.dj, fun j sv e => ?_, fun j k d1 d2 z1 z2 x1 x2 z3 => ?_, by rw [List.length_set]; exact R.len⟩
  · rw [upd_ne (ne_of_none z h4)]; exact R.fr b u z
  · rw [upd_ne (ne_of_none z h3)]; exact R.f b u z
  · rcases get_set_some e with ⟨rfl, e4, hl⟩ | ⟨ne, e4⟩
    · cases e4; exact ⟨_, hs, a, o, rfl, upd_same, w, h3, h4⟩
    · obtain ⟨v', e5, s⟩ := R.slot j sv e4
      refine ⟨v', e5, ?_⟩
      cases sv with
      | val d => exact s
      | bor d => exact s
      | lck d => exact s
      | own d' =>
        obtain ⟨b, o2, e6, g1, g2, g3, g4⟩ := s
        refine ⟨b, o2, e6, ?_, g2, g3, g4⟩
        rw [upd_ne (fun z => ne (R.uniq i j _ _ h e4 rfl rfl (by rw [hs, e5, e6, z])))]
        exact g1
  · have q : ∀ (m : Nat) (t : SV), (ρ.set i (some (.own d)))[m]? = some (some t) → ∃ t', ρ[m]? = some (some t') ∧ t'.ex = t.ex ∧ t'.ob = t.ob := fun m t zm => by
      rcases get_set_some zm with ⟨rfl, z, _⟩ | ⟨_, z⟩
      · cases z; exact ⟨_, h, rfl, rfl⟩
      · exact ⟨_, z, rfl, rfl⟩
    obtain ⟨t1, q1, y1, _⟩ := q j d1 z1
    obtain ⟨t2, q2, _, y2⟩ := q k d2 z2
    exact R.uniq j k _ _ q1 q2 (y1.trans x1) (y2.trans x2) z3
/-- lock: the object of slot i may only be read -/
theorem Rel.lock (R : Rel K Fr F ρ σ H) {i : Nat} (h : ρ[i]? = some (some (.own d))) : ∃ a o, σ[i]? = some (some (.ref a)) ∧ Fr a = none ∧ Own K F o d ∧ H a = some o ∧ Rel K (Fr.upd a o) F (ρ.set i (some (.lck d))) σ H := by
  obtain ⟨v, e1, a, o, rfl, h1, h2, h3, h4⟩ := R.slot i _ h
  refine ⟨a, o, e1, h4, h2, h1, fun b u z => ?_, R.f, fun b u z => ?_, fun j sv e => ?_, fun j k d1 d2 z1 z2 x1 x2 z3 => ?_, by rw [List.length_set]; exact R.len⟩
  · by_cases q : b = a
    · subst q; have z : L2.upd Fr.h b o b = some u := z; rw [upd_same] at z; rw [h1]; exact z
    · have z : L2.upd Fr.h a o b = some u := z; rw [upd_ne q] at z; exact R.fr b u z
  · by_cases q : b = a
    · subst q; exact h3
    · have z : L2.upd Fr.h a o b = some u := z; rw [upd_ne q] at z; exact R.dj b u z
  · rcases get_set_some e with ⟨rfl, e4, hl⟩ | ⟨ne, e4⟩
    · cases e4; exact ⟨_, e1, a, o, rfl, ⟨upd_same, fun z => Fr.hs a z h4⟩, h2⟩
    · obtain ⟨v', e5, s⟩ := R.slot j sv e4
      refine ⟨v', e5, ?_⟩
      cases sv with
      | val d => exact s
      | bor d' =>
        obtain ⟨b, o2, e6, g1, g2⟩ := s
        exact ⟨b, o2, e6, ⟨(upd_ne (ne_of_none g1.1 h4)).trans g1.1, g1.2⟩, g2⟩
      | lck d' =>
        obtain ⟨b, o2, e6, g1, g2⟩ := s
        exact ⟨b, o2, e6, ⟨(upd_ne (ne_of_none g1.1 h4)).trans g1.1, g1.2⟩, g2⟩
      | own d' =>
        obtain ⟨b, o2, e6, g1, g2, g3, g4⟩ := s
        refine ⟨b, o2, e6, g1, g2, g3, ?_⟩
        exact (upd_ne (fun z => ne (R.uniq i j _ _ h e4 rfl rfl (by rw [e1, e5, e6, z])))).trans g4
  · have q : ∀ (m : Nat) (t : SV), (ρ.set i (some (.lck d)))[m]? = some (some t) → ∃ t', ρ[m]? = some (some t') ∧ t'.ex = t.ex ∧ t'.ob = t.ob := fun m t zm => by
      rcases get_set_some zm with ⟨rfl, z, _⟩ | ⟨_, z⟩
      · cases z; exact ⟨_, h, rfl, rfl⟩
      · exact ⟨_, z, rfl, rfl⟩
    obtain ⟨t1, q1, y1, _⟩ := q j d1 z1
    obtain ⟨t2, q2, _, y2⟩ := q k d2 z2
    exact R.uniq j k _ _ q1 q2 (y1.trans x1) (y2.trans x2) z3
theorem Rel.unlock {a : Addr} {o : HO} {e : D} (R : Rel K (Fr.upd a o) F ρ σ H) {i : Nat} (h : ρ[i]? = some (some (.lck e))) (hs : σ[i]? = some (some (.ref a))) (hF : Fr a = none) (w : Own K F o d) : Rel K Fr F (ρ.set i (some (.own d))) σ H := by
  have ap : ∀ {j : Nat} {t : SV} {b : Addr}, i ≠ j → ρ[j]? = some (some t) → t.ob = true → σ[j]? = some (some (.ref b)) → b ≠ a := fun ne e5 x e6 z => ne (R.uniq _ _ _ _ h e5 rfl x (by rw [hs, e6, z]))
  refine ⟨fun b u z => ?_, R.f, fun b u z => ?_, fun j sv e4 => ?_, fun j k d1 d2 z1 z2 x1 x2 z3 => ?_, by rw [List.length_set]; exact R.len⟩
  · exact R.fr b u ((upd_ne (ne_of_none z hF)).trans z)
  · exact R.dj b u ((upd_ne (ne_of_none z hF)).trans z)
  · rcases get_set_some e4 with ⟨rfl, e5, hl⟩ | ⟨ne, e5⟩
    · cases e5; exact ⟨_, hs, a, o, rfl, R.fr a o upd_same, w, R.dj a o upd_same, hF⟩
    · obtain ⟨v', e6, s⟩ := R.slot j sv e5
      refine ⟨v', e6, ?_⟩
      cases sv with
      | val d => exact s
      | own d' =>
        obtain ⟨b, o2, e7, g1, g2, g3, g4⟩ := s
        refine ⟨b, o2, e7, g1, g2, g3, ?_⟩
        exact (upd_ne (ap ne e5 rfl (by rw [e6, e7]))).symm.trans g4
      | bor d' =>
        obtain ⟨b, o2, e7, g1, g2⟩ := s
        exact ⟨b, o2, e7, ⟨(upd_ne (ap ne e5 rfl (by rw [e6, e7]))).symm.trans g1.1, g1.2⟩, g2⟩
      | lck d' =>
        obtain ⟨b, o2, e7, g1, g2⟩ := s
        exact ⟨b, o2, e7, ⟨(upd_ne (ap ne e5 rfl (by rw [e6, e7]))).symm.trans g1.1, g1.2⟩, g2⟩
  · have q : ∀ (m : Nat) (t : SV), (ρ.set i (some (.own d)))[m]? = some (some t) → ∃ t', ρ[m]? = some (some t') ∧ t'.ex = t.ex ∧ t'.ob = t.ob := fun m t zm => by
      rcases get_set_some zm with ⟨rfl, z, _⟩ | ⟨_, z⟩
      · cases z; exact ⟨_, h, rfl, rfl⟩
      · exact ⟨_, z, rfl, rfl⟩
    obtain ⟨t1, q1, y1, _⟩ := q j d1 z1
    obtain ⟨t2, q2, _, y2⟩ := q k d2 z2
    exact R.uniq j k _ _ q1 q2 (y1.trans x1) (y2.trans x2) z3
end
end Ev

set_option Elab.async false
set_option linter.all false
set_option maxRecDepth 100000
/-! Ev. E: statements, loops. -/
set_option autoImplicit false
namespace Ev
open PySem PySem.Spec PyProof.Rows L2

inductive Out where
  | nx | bk | ct | rt (o : Opd) | ex (C : Addr) (f : Str) (d : D)
  deriving Inhabited
abbrev SM := Rho → Option (Out × Rho)
def Fin (K : PySem.W.Frag) (Wx : WX) (Fr : Frm) (F : Hp) (ρ : Rho) (σ : St) (H : Hp) (Dn : Ends) : Out → Prop
  | .nx => Dn.nx σ H
  | .bk => Dn.bk σ H
  | .ct => Dn.ct σ H
  | .rt o => ∀ v, ORel K Fr F ρ σ H v o → Dn.rt v H
  | .ex C f d => ∀ dd v, H dd = some (.xd [(f, v)]) → Rep K F v d → Wx (.ref C) (some dd) σ H
/-- slots outside W stay -/
def Keep (W : List Nat) (σ σ' : St) : Prop := σ'.length = σ.length ∧ ∀ i, i ∉ W → σ'[i]? = σ[i]?
theorem Keep.refl (W : List Nat) (σ : St) : Keep W σ σ := ⟨rfl, fun _ _ => rfl⟩
theorem Keep.trans {W W2 : List Nat} {σ σ1 σ2 : St} (a : Keep W σ σ1) (b : Keep W2 σ1 σ2) : Keep (W ++ W2) σ σ2 :=
  ⟨b.1.trans a.1, fun i h => (b.2 i fun z => h (List.mem_append_right _ z)).trans (a.2 i fun z => h (List.mem_append_left _ z))⟩
theorem Keep.mono {W W2 : List Nat} {σ σ1 : St} (a : Keep W σ σ1) (h : ∀ i ∈ W, i ∈ W2) : Keep W2 σ σ1 := ⟨a.1, fun i z => a.2 i fun y => z (h i y)⟩
theorem Keep.set {i : Nat} {σ : St} {x : Option V} : Keep [i] σ (σ.set i x) := ⟨by simp, fun j h => List.getElem?_set_ne (fun e => h (by simp [e]))⟩

def tS (K : PySem.W.Frag) (Wx : WX) (W : List Nat) (m : SM) : TS := fun Dn σ H => ∃ Fr F ρ out ρ', Rel K Fr F ρ σ H ∧ m ρ = some (out, ρ') ∧
  ∀ F' H' σ', Same F F' → Rel K Fr F' ρ' σ' H' → Keep W σ σ' → Fin K Wx Fr F' ρ' σ' H' Dn out
def tG (K : PySem.W.Frag) (W : List Nat) (m : D → Rho → Option Rho) : TG := fun v σ H Q => ∃ Fr F ρ d ρ', Rel K Fr F ρ σ H ∧ Rep K F v d ∧ m d ρ = some ρ' ∧ ∀ F' H' σ', Same F F' → Rel K Fr F' ρ' σ' H' → Keep W σ σ' → Q σ' H'
def tGs (K : PySem.W.Frag) (W : List Nat) (m : List D → Rho → Option Rho) : TGs := fun vs σ H Q => ∃ Fr F ρ ds ρ', Rel K Fr F ρ σ H ∧ Reps K F vs ds ∧ m ds ρ = some ρ' ∧ ∀ F' H' σ', Same F F' → Rel K Fr F' ρ' σ' H' → Keep W σ σ' → Q σ' H'
structure SE (X : Cx) (Wx : WX) (st : Stmt) (W : List Nat) (m : SM) : Prop where
  ps : PS X st (tS X.K Wx W m)
structure SsE (X : Cx) (Wx : WX) (st : List Stmt) (W : List Nat) (m : SM) : Prop where
  pss : PSs X st (tS X.K Wx W m)
structure GE (X : Cx) (tg : Expr) (W : List Nat) (m : D → Rho → Option Rho) : Prop where
  pg : PG X tg (tG X.K W m)
structure GsE (X : Cx) (ts : List Expr) (W : List Nat) (m : List D → Rho → Option Rho) : Prop where
  pgs : PGs X ts (tGs X.K W m)
theorem pgs_imp {X : Cx} {es : List Expr} {t t' : TGs} (h : PGs X es t) (w : ∀ v σ H Q, t' v σ H Q → t v σ H Q) : PGs X es t' := ⟨fun pins s σ H vs us Q I r q => h.run pins s σ H vs us Q I r (w vs σ H Q q)⟩

section
variable {X : Cx} {Wx : WX} {st : Stmt} {rest : List Stmt} {e a b : Expr} {es : List Expr} {pos : Pos} {m ma mb : EM} {W W1 W2 : List Nat} {s1 s2 : SM}

def nextM : SM := fun ρ => some (.nx, ρ)
def seqM (s1 s2 : SM) : SM := fun ρ => match s1 ρ with
  | some (.nx, ρ1) => s2 ρ1
  | r => r
theorem sse_nil : SsE X Wx [] [] nextM := ⟨pss_imp pss_nil fun Dn σ H ⟨Fr, F, ρ, out, ρ', R, em, k⟩ => by cases em; exact k F H σ (Same.refl F) R (.refl _ _)⟩
theorem sse_one (h : SE X Wx st W s1) : SsE X Wx [st] W s1 := ⟨pss_one h.ps⟩
theorem fin_nx {K : PySem.W.Frag} {Wx : WX} {Fr : Frm} {F H : Hp} {ρ : Rho} {σ : St} {Dn : Ends} {nx : St → Hp → Prop} {out : Out} (h : Fin K Wx Fr F ρ σ H Dn out) (ne : out ≠ .nx) : Fin K Wx Fr F ρ σ H { Dn with nx := nx } out := by
  cases out with
  | nx => exact absurd rfl ne
  | bk => exact h
  | ct => exact h
  | rt o => exact h
  | ex C f d => exact h
theorem sse_cons (h1 : SE X Wx st W1 s1) (h2 : SsE X Wx rest W2 s2) : SsE X Wx (st :: rest) (W1 ++ W2) (seqM s1 s2) := by
  refine ⟨pss_imp (pss_cons h1.ps h2.pss) fun Dn σ H ⟨Fr, F, ρ, out, ρ', R, em, k⟩ => ?_⟩
  unfold seqM at em
  split at em
  · rename_i ρ1 e1
    exact ⟨Fr, F, ρ, _, _, R, e1, fun F1 H1 σ1 q1 R1 k1 => ⟨Fr, F1, ρ1, out, ρ', R1, em, fun F2 H2 σ2 q2 R2 k2 => k F2 H2 σ2 (q1.trans q2) R2 (k1.trans k2)⟩⟩
  · rename_i hne
    exact ⟨Fr, F, ρ, _, _, R, em, fun F1 H1 σ1 q1 R1 k1 => fin_nx (k F1 H1 σ1 q1 R1 (k1.mono fun i h => List.mem_append_left _ h)) fun z => hne _ (by rw [em, z])⟩
def passM : SM := nextM
def breakM : SM := fun ρ => some (.bk, ρ)
def contM : SM := fun ρ => some (.ct, ρ)
def neverM : SM := fun _ => none
theorem se_pass : SE X Wx (.Pass pos) [] nextM := ⟨ps_imp ps_pass fun Dn σ H ⟨Fr, F, ρ, out, ρ', R, em, k⟩ => by cases em; exact k F H σ (Same.refl F) R (.refl _ _)⟩
theorem se_break : SE X Wx (.Break pos) [] breakM := ⟨ps_imp ps_break fun Dn σ H ⟨Fr, F, ρ, out, ρ', R, em, k⟩ => by cases em; exact k F H σ (Same.refl F) R (.refl _ _)⟩
theorem se_cont : SE X Wx (.Continue pos) [] contM := ⟨ps_imp ps_continue fun Dn σ H ⟨Fr, F, ρ, out, ρ', R, em, k⟩ => by cases em; exact k F H σ (Same.refl F) R (.refl _ _)⟩
theorem se_never : SE X Wx st [] neverM := ⟨ps_imp ps_never fun Dn σ H ⟨Fr, F, ρ, out, ρ', R, em, k⟩ => by cases em⟩
/-- an expression for its effect -/
def exprM (m : EM) : SM := fun ρ => match m ρ with
  | some (_, ρ') => some (.nx, ρ')
  | none => none
theorem se_expr (h : OE X e m) (hs : swapsWith e none pos.line X.env = pure false := by rfl) : SE X Wx (.Expr e pos) [] (exprM m) := by
  refine ⟨ps_imp (ps_expr h.pe hs) fun Dn σ H ⟨Fr, F, ρ, out, ρ', R, em, k⟩ => ?_⟩
  unfold exprM at em
  split at em
  · rename_i o ρ1 e1
    cases em
    exact ⟨Fr, F, ρ, _, _, R, e1, fun F1 H1 v q1 R1 _ => k F1 H1 σ q1 R1 (.refl _ _)⟩
  · cases em
def retM (m : EM) : SM := fun ρ => match m ρ with
  | some (o, ρ') => some (.rt o, ρ')
  | none => none
theorem se_ret (h : OE X e m) : SE X Wx (.Return (some e) pos) [] (retM m) := by
  refine ⟨ps_imp (ps_ret h.pe) fun Dn σ H ⟨Fr, F, ρ, out, ρ', R, em, k⟩ => ?_⟩
  unfold retM at em
  split at em
  · rename_i o ρ1 e1
    cases em
    exact ⟨Fr, F, ρ, _, _, R, e1, fun F1 H1 v q1 R1 r => k F1 H1 σ q1 R1 (.refl _ _) v r⟩
  · cases em
theorem se_retN : SE X Wx (.Return none pos) [] (retM (constM .non)) :=
  ⟨ps_imp ps_retN fun Dn σ H ⟨Fr, F, ρ, out, ρ', R, em, k⟩ => by cases em; exact k F H σ (Same.refl F) R (.refl _ _) .non .non⟩
def ifS (t : TM) (s1 s2 : SM) : SM := fun ρ => match t ρ with
  | some (true, ρ') => s1 ρ'
  | some (false, ρ') => s2 ρ'
  | none => none
theorem se_if {c : Expr} {sa sb : List Stmt} {t : TM} (hc : TeE X c t) (h1 : SsE X Wx sa W1 s1) (h2 : SsE X Wx sb W2 s2) : SE X Wx (.If c sa sb pos) (W1 ++ W2) (ifS t s1 s2) := by
  refine ⟨ps_imp (ps_if hc.pt h1.pss h2.pss) fun Dn σ H ⟨Fr, F, ρ, out, ρ', R, em, k⟩ => ?_⟩
  unfold ifS at em
  split at em
  · rename_i ρ1 e1
    exact ⟨Fr, F, ρ, _, _, R, e1, fun F1 H1 q1 R1 => iteT ⟨Fr, F1, ρ1, out, ρ', R1, em, fun F2 H2 σ2 q2 R2 k2 => k F2 H2 σ2 (q1.trans q2) R2 (k2.mono fun i h => List.mem_append_left _ h)⟩⟩
  · rename_i ρ1 e1
    exact ⟨Fr, F, ρ, _, _, R, e1, fun F1 H1 q1 R1 => iteF ⟨Fr, F1, ρ1, out, ρ', R1, em, fun F2 H2 σ2 q2 R2 k2 => k F2 H2 σ2 (q1.trans q2) R2 (k2.mono fun i h => List.mem_append_right _ h)⟩⟩
  · cases em

/-! targets -/
@[simp] def nameG (i : Nat) : D → Rho → Option Rho := fun d ρ => some (ρ.set i (some (.val d)))
theorem ge_name {i : Nat} {x : Str} (hN : X.N.Nodup) (hi : X.N[i]? = some x := by rfl) (hx : Loc X.env.scope x := by first | exact Or.inl rfl | exact Or.inr rfl) (hf : X.fn x = true ∨ X.env.scope.names.lookup x = some .local := by first | exact .inl rfl | exact .inr rfl) : GE X (.Name x pos) [i] (nameG i) := by
  refine ⟨pg_imp (pg_name hN hi hx hf) fun v σ H Q ⟨Fr, F, ρ, d, ρ', R, r, em, k⟩ => ?_⟩
  cases em
  exact k F H _ (Same.refl F) (R.assign i r) .set
def nilG : List D → Rho → Option Rho := fun ds ρ => match ds with
  | [] => some ρ
  | _ => none
def consG (g : D → Rho → Option Rho) (gs : List D → Rho → Option Rho) : List D → Rho → Option Rho := fun ds ρ => match ds with
  | d :: ds => match g d ρ with
    | some ρ' => gs ds ρ'
    | none => none
  | [] => none
theorem gse_nil : GsE X [] [] nilG := by
  refine ⟨pgs_imp pgs_nil fun v σ H Q ⟨Fr, F, ρ, d, ρ', R, r, em, k⟩ => ?_⟩
  unfold nilG at em
  split at em
  · cases em; cases r; exact ⟨rfl, k F H σ (Same.refl F) R (.refl _ _)⟩
  · cases em
theorem gse_cons {g : D → Rho → Option Rho} {gs : List D → Rho → Option Rho} (h1 : GE X e W1 g) (h2 : GsE X es W2 gs)
    (hs : (assignEach (e :: es) X.env).map (·.2) = assign e X.env :: (assignEach es X.env).map (·.2) := by rfl) : GsE X (e :: es) (W1 ++ W2) (consG g gs) := by
  refine ⟨pgs_imp (pgs_cons h1.pg h2.pgs hs) fun v σ H Q ⟨Fr, F, ρ, d, ρ', R, r, em, k⟩ => ?_⟩
  unfold consG at em
  split at em
  · rename_i d0 ds0
    split at em
    · rename_i ρ1 e1
      cases r with
      | cons r1 r2 =>
        exact ⟨_, _, rfl, Fr, F, ρ, d0, ρ1, R, r1, e1, fun F1 H1 σ1 q1 R1 k1 => ⟨Fr, F1, ρ1, ds0, ρ', R1, r2.mono q1, em, fun F2 H2 σ2 q2 R2 k2 => k F2 H2 σ2 (q1.trans q2) R2 (k1.trans k2)⟩⟩
    · cases em
  · cases em
/-- a, b = a tuple -/
def tupG (n : Nat) (gs : List D → Rho → Option Rho) : D → Rho → Option Rho := fun d ρ => match d with
  | .tup ds => if ds.length = n then gs ds ρ else none
  | _ => none
theorem ge_tup {k0 n : Nat} {gs : List D → Rho → Option Rho} (hc : X.calm = true) (h : GsE X es W gs)
    (hn : (assignEach es X.env).length = n := by rfl) (hst : (assignEach es X.env).findIdx? (·.1) = none := by rfl) : GE X (.Tuple es k0 pos) W (tupG n gs) := by
  refine ⟨pg_imp (pg_tup hc h.pgs hn hst) fun v σ H Q ⟨Fr, F, ρ, d, ρ', R, r, em, k⟩ => ?_⟩
  unfold tupG at em
  split at em
  · split at em
    · rename_i hl
      cases r with
      | tup q rs => exact ⟨_, _, rfl, SqT.of (R.f _ _ q), by rw [rs.length]; exact hl, Fr, F, ρ, _, ρ', R, rs, em, k⟩
    · cases em
  · cases em

/-! name = e -/
def setM (i : Nat) (m : EM) : SM := fun ρ => match m ρ with
  | some (.tmp d, ρ') => some (.nx, ρ'.set i (some (.own d)))
  | some (o, ρ') => match escO o ρ' with
    | some (d, ρ2) => some (.nx, ρ2.set i (some (.val d)))
    | none => none
  | none => none
theorem setM_ok {i : Nat} {te : TE} {Dn : Ends} {σ : St} {H : Hp} (w : ∀ Q, tE X.K m σ H Q → te σ H Q) (h : tS X.K Wx [i] (setM i m) Dn σ H) : tAsg te (gName i) Dn σ H := by
  obtain ⟨Fr, F, ρ, out, ρ', R, em, k⟩ := h
  refine w _ ?_
  unfold setM at em
  split at em
  · rename_i d ρ1 e1
    cases em
    exact ⟨Fr, F, ρ, _, _, R, e1, fun F1 H1 v q1 R1 r => k F1 H1 _ q1 (R1.assignOwn i r) .set⟩
  · rename_i o ρ1 e1 hne
    split at em
    · rename_i d ρ2 e2
      cases em
      refine ⟨Fr, F, ρ, _, _, R, hne, fun F1 H1 v q1 R1 r => ?_⟩
      obtain ⟨F2, q2, R2, r2⟩ := R1.escO r e2
      exact k F2 H1 _ (q1.trans q2) (R2.assign i r2) .set
    · cases em
  · cases em
theorem se_set (i : Nat) {x : Str} {pos' : Pos} (hN : X.N.Nodup) (h : OE X e m) (hi : X.N[i]? = some x := by rfl) (hx : Loc X.env.scope x := by first | exact Or.inl rfl | exact Or.inr rfl) (hs : swapsWith e (some (.Name x pos')) pos.line X.env = pure false := by rfl) (hf : X.fn x = true ∨ X.env.scope.names.lookup x = some .local := by first | exact .inl rfl | exact .inr rfl) :
    SE X Wx (.Assign [.Name x pos'] e pos) [i] (setM i m) := ⟨ps_imp (ps_set hN hi hx h.pe hs hf) fun Dn σ H h => setM_ok (fun _ z => z) h⟩
/-- target = e -/
def asgM (g : D → Rho → Option Rho) (m : EM) : SM := fun ρ => match esc m ρ with
  | some (d, ρ1) => match g d ρ1 with
    | some ρ2 => some (.nx, ρ2)
    | none => none
  | none => none
theorem se_asg {tg : Expr} {g : D → Rho → Option Rho} (h : OE X e m) (hg : GE X tg W g) (hs : swapsWithSole [tg] e pos.line X.env = pure false := by rfl) (hw : swappedStores [tg] e X.env = pure none := by rfl)
    (h1 : (assignEach [tg] X.env).map (·.2) = [assign tg X.env] := by rfl) : SE X Wx (.Assign [tg] e pos) W (asgM g m) := by
  refine ⟨ps_imp (ps_asg h.ve.pe hg.pg hs hw h1) fun Dn σ H ⟨Fr, F, ρ, out, ρ', R, em, k⟩ => ?_⟩
  unfold asgM at em
  split at em
  · rename_i d ρ1 e1
    split at em
    · rename_i ρ2 e2
      cases em
      exact ⟨Fr, F, ρ, _, _, R, e1, fun F1 H1 v q1 R1 r => ⟨Fr, F1, ρ1, d, _, R1, r, e2, fun F2 H2 σ2 q2 R2 k2 => k F2 H2 σ2 (q1.trans q2) R2 k2⟩⟩
    · cases em
  · cases em
/-- a, b = x, y: names -/
def parM (i j : Nat) (ma mb : EM) : SM := fun ρ => match esc ma ρ with
  | some (d, ρ1) => match esc mb ρ1 with
    | some (e, ρ2) => some (.nx, (ρ2.set i (some (.val d))).set j (some (.val e)))
    | none => none
  | none => none
theorem se_par {i j : Nat} {x y : Str} {px py pt : Pos} {kt k2 pt2} (hc : X.calm = true) (hN : X.N.Nodup) (h1 : OE X a ma) (h2 : OE X b mb) (hi : X.N[i]? = some x := by rfl) (hj : X.N[j]? = some y := by rfl) (hij : i ≠ j := by decide)
    (hx : X.env.scope.names.lookup x = some .local := by rfl) (hy : X.env.scope.names.lookup y = some .local := by rfl)
    (hw : swappedStores [.Tuple [.Name x px, .Name y py] kt pt] (.Tuple [a, b] k2 pt2) X.env = pure (some [x, y]) := by rfl)
    (hs : swapsWithSole [.Tuple [.Name x px, .Name y py] kt pt] (.Tuple [a, b] k2 pt2) pos.line X.env = pure false := by rfl)
    (s1 : starEach [a, b] X.env = (false, eval a X.env) :: starEach [b] X.env := by rfl) (s2 : starEach [b] X.env = (false, eval b X.env) :: starEach [] X.env := by rfl) :
    SE X Wx (.Assign [.Tuple [.Name x px, .Name y py] kt pt] (.Tuple [a, b] k2 pt2) pos) [i, j] (parM i j ma mb) := by
  refine ⟨ps_imp (ps_par hc hN hi hj hij hx hy (pa_cons h1.ve.pe (pa_cons h2.ve.pe pa_nil s2) s1) hw hs) fun Dn σ H ⟨Fr, F, ρ, out, ρ', R, em, k⟩ => ?_⟩
  unfold parM at em
  split at em
  · rename_i d ρ1 e1
    split at em
    · rename_i e ρ2 e2
      cases em
      refine ⟨Fr, F, ρ, _, _, R, e1, fun F1 H1 v q1 R1 r1 => ⟨Fr, F1, ρ1, _, _, R1, e2, fun F2 H2 w q2 R2 r2 => ⟨v, w, rfl, ?_⟩⟩⟩
      exact k F2 H2 _ (q1.trans q2) ((R2.assign i (r1.mono q2)).assign j r2) ((Keep.set (i := i)).trans (Keep.set (i := j)))
    · cases em
  · cases em
/-- name op= e, ints and texts: as name = name op e -/
def augM (i : Nat) (g : D → D → Option Opd) (m : EM) : SM := fun ρ => match ρ[i]? with
  | some (some (.val d)) => match frz m ρ with
    | some (o, ρ1) => match look o ρ1 with
      | some e => match g d e with
        | some (.val r) => some (.nx, ρ1.set i (some (.val r)))
        | _ => none
      | none => none
    | none => none
  | _ => none
theorem se_aug {op : Operator} {r : R2} {g : D → D → Option Opd} (i : Nat) {x : Str} {pos' : Pos} (hN : X.N.Nodup) (ho : OpR X (inplaceOp op) r) (hs : OpS X r g) (h : OE X e m) (hi : X.N[i]? = some x := by rfl) (hx : Loc X.env.scope x := by first | exact Or.inl rfl | exact Or.inr rfl)
    (hf : X.fn x = true ∨ X.env.scope.names.lookup x = some .local := by first | exact .inl rfl | exact .inr rfl) : SE X Wx (.AugAssign (.Name x pos') op e pos) [i] (augM i g m) := by
  refine ⟨ps_imp (ps_aug hN hi hx h.ne.pe (op := op) (ti := r) ho hf) fun Dn σ H ⟨Fr, F, ρ, out, ρ', R, em, k⟩ => ?_⟩
  unfold augM at em
  split at em
  · rename_i d e1
    obtain ⟨v, e2, rv⟩ := R.slot i _ e1
    split at em
    · rename_i o ρ1 e3
      split at em
      · rename_i e' e4
        split at em
        · rename_i r' e5
          cases em
          refine ⟨v, e2, Fr, F, ρ, _, _, R, e3, fun F1 H1 y q1 R1 r1 => ?_⟩
          refine hs R1 (.inl (Rep.mono q1 rv)) (r1.look R1 e4) e5 fun F2 H2 z q2 R2 r2 => ?_
          exact k F2 H2 _ (q1.trans q2) (R2.assign i r2) .set
        · cases em
      · cases em
    · cases em
  · cases em
def rIAdd : R2 := fun x y H Q => rI0 (fun i j => .int (i + j)) x y H Q ∨ (∃ i j, x = .str i ∧ y = .str j ∧ i.length + j.length ≤ sizeLine ∧ Q (.str (i ++ j)) H)
def iaddG : D → D → Option Opd
  | .int i, .int j => some (.val (.int (i + j)))
  | .str s, .str t => if s.length + t.length ≤ sizeLine then some (.val (.str (s ++ t))) else none
  | _, _ => none
theorem op_iadd : OpR X (inplaceOp .Add) rIAdd := iop_add.or iop_add_str
theorem ops_iadd : OpS X rIAdd iaddG := by
  intro Fr F H ρ σ x y d e o Q R hx hy g k
  unfold iaddG at g
  split at g
  · rename_i i j
    cases g
    cases hx.int
    cases hy.int
    exact .inl ⟨i, j, rfl, rfl, after_val R (.int _) k⟩
  · rename_i i j
    split at g
    · rename_i h
      cases g
      cases hx.str
      cases hy.str
      exact .inr ⟨i, j, rfl, rfl, h, after_val R (.str _) k⟩
    · cases g
  · cases g
theorem se_iadd (i : Nat) {x : Str} {pos' : Pos} (hN : X.N.Nodup) (h : OE X e m) (hi : X.N[i]? = some x := by rfl) (hx : Loc X.env.scope x := by first | exact Or.inl rfl | exact Or.inr rfl)
    (hf : X.fn x = true ∨ X.env.scope.names.lookup x = some .local := by first | exact .inl rfl | exact .inr rfl) : SE X Wx (.AugAssign (.Name x pos') .Add e pos) [i] (augM i iaddG m) := se_aug i hN op_iadd ops_iadd h hi hx hf
theorem se_isub (i : Nat) {x : Str} {pos' : Pos} (hN : X.N.Nodup) (h : OE X e m) (hi : X.N[i]? = some x := by rfl) (hx : Loc X.env.scope x := by first | exact Or.inl rfl | exact Or.inr rfl)
    (hf : X.fn x = true ∨ X.env.scope.names.lookup x = some .local := by first | exact .inl rfl | exact .inr rfl) : SE X Wx (.AugAssign (.Name x pos') .Sub e pos) [i] (augM i subG m) := se_aug i hN iop_sub ops_I0 h hi hx hf

/-! xs[i] = e, xs[i] += e: xs a name's own list -/
def putM (i : Nat) (mi m : EM) : SM := fun ρ => match esc m ρ with
  | some (d, ρ1) => match ρ1[i]? with
    | some (some _) => match frz mi ρ1 with
      | some (.val (.int k), ρ2) => match ρ2[i]? with
        | some (some (.own (.lst ds))) => match ixN ds.length k with
          | some j => some (.nx, ρ2.set i (some (.own (.lst (ds.set j d)))))
          | none => none
        | _ => none
      | _ => none
    | _ => none
  | none => none
theorem se_put (i : Nat) {x : Str} {px tpos : Pos} (h : OE X e m) (hb : OE X b mb) (hN : X.N[i]? = some x := by rfl) (hv : Vis X.env.scope x := by first | exact Or.inl rfl | exact Or.inr (Or.inl rfl) | exact Or.inr (Or.inr rfl)) (hd : (x == ("__debug__" : Str)) = false := by decide)
    (hcd : (x == ("__classdict__" : Str)) = false := by decide) (ha : ∀ v, assign (.Subscript (.Name x px) b tpos) X.env v = (do
      let ov ← holding [v] (eval (.Name x px) X.env)
      let iv ← holding [v, ov] (eval b X.env)
      standAt tpos
      holding [v, ov, iv] (setItem ov iv v)
      release [v, ov, iv] []) := by intro _; rfl) (hs : swapsWithSole [.Subscript (.Name x px) b tpos] e pos.line X.env = pure false := by rfl) (hw : swappedStores [.Subscript (.Name x px) b tpos] e X.env = pure none := by rfl)
    (h1 : (assignEach [.Subscript (.Name x px) b tpos] X.env).map (·.2) = [assign (.Subscript (.Name x px) b tpos) X.env] := by rfl) :
    SE X Wx (.Assign [.Subscript (.Name x px) b tpos] e pos) [] (putM i mb m) := by
  refine ⟨ps_imp (ps_asg h.ve.pe (pg_sub (pe_var hN hv hd hcd) hb.ne.pe set_list ha) hs hw h1) fun Dn σ H ⟨Fr, F, ρ, out, ρ', R, em, k⟩ => ?_⟩
  unfold putM at em
  split at em
  · rename_i d ρ1 e1
    split at em
    · rename_i sv e0
      split at em
      · rename_i n ρ2 e2
        split at em
        · rename_i ds e3
          split at em
          · rename_i j e4
            cases em
            refine ⟨Fr, F, ρ, _, _, R, e1, fun F1 H1 v q1 R1 r1 => ?_⟩
            obtain ⟨u, eu, _⟩ := R1.slot i _ e0
            refine ⟨u, eu, Fr, F1, ρ1, _, _, R1, e2, fun F2 H2 y q2 R2 r2 => ?_⟩
            cases r2
            obtain ⟨u', eu', a', o', ea, g1, g2, g3, g4⟩ := R2.slot i _ e3
            rw [eu] at eu'; cases eu'
            subst ea
            cases g2 with
            | lst rs =>
              refine ⟨a', _, n, j, rfl, rfl, g1, by rw [rs.length]; exact e4, ?_⟩
              exact k F2 _ σ (q1.trans q2) (R2.mut e3 eu (.lst (Reps.set (r1.mono q2) j rs))) (.refl _ _)
          · cases em
        · cases em
      · cases em
    · cases em
  · cases em
/-- o[i], by values -/
theorem get_list : PGet X (fun o i H Q => ∃ p xs k v, o = .ref p ∧ i = .int k ∧ SqL X.K H p xs ∧ 0 ≤ k ∧ xs[k.toNat]? = some v ∧ Q v H) := by
  intro pins s σ H o i ov iv Q I ro ri h
  obtain ⟨p, xs, k, v, rfl, rfl, hq, h0, hx, q⟩ := h
  cases ro
  obtain ⟨t, rfl⟩ := ri
  obtain ⟨its, r, pl, hz⟩ := I.list hq
  obtain ⟨w, ew, rw'⟩ := r.get hx
  have hn := line63
  have hl := some_lt hx
  exact wpAny_getItem_list pl.isList h0 (by omega) (by simpa using ew) ⟨v, H, I, rw', q⟩
def augAtM (i : Nat) (mi : EM) (g : D → D → Option Opd) (m : EM) : SM := fun ρ => match ρ[i]? with
  | some (some _) => match frz mi ρ with
    | some (.val (.int k), ρ1) => match ρ1[i]? with
      | some (some (.own (.lst ds))) => if 0 ≤ k then match ds[k.toNat]? with
        | some old => match frz m ρ1 with
          | some (o, ρ2) => match look o ρ2 with
            | some e => match g old e with
              | some (.val r) => match ρ2[i]? with
                | some (some (.own (.lst ds2))) => if k.toNat < ds2.length then some (.nx, ρ2.set i (some (.own (.lst (ds2.set k.toNat r))))) else none
                | _ => none
              | _ => none
            | none => none
          | none => none
        | none => none else none
      | _ => none
    | _ => none
  | _ => none
theorem se_augAt {op : Operator} {r : R2} {g : D → D → Option Opd} (i : Nat) {x : Str} {px tpos : Pos} (ho : OpR X (inplaceOp op) r) (hs : OpS X r g) (h : OE X e m) (hb : OE X b mb) (hN : X.N[i]? = some x := by rfl) (hv : Vis X.env.scope x := by first | exact Or.inl rfl | exact Or.inr (Or.inl rfl) | exact Or.inr (Or.inr rfl)) (hd : (x == ("__debug__" : Str)) = false := by decide)
    (hcd : (x == ("__classdict__" : Str)) = false := by decide) (ha : ∀ ov iv new, augStore b ov iv new = (do holding [new, ov, iv] (setItem ov iv new); release [new, ov, iv] []; pure .next) := by intros; rfl) :
    SE X Wx (.AugAssign (.Subscript (.Name x px) b tpos) op e pos) [] (augAtM i mb g m) := by
  refine ⟨ps_imp (ps_augS (pe_var hN hv hd hcd) hb.ne.pe get_list h.ne.pe (op := op) (tip := r) ho set_list ha) fun Dn σ H ⟨Fr, F, ρ, out, ρ', R, em, k⟩ => ?_⟩
  unfold augAtM at em
  split at em
  · rename_i sv e0
    split at em
    · rename_i n ρ1 e1
      split at em
      · rename_i ds e2
        split at em
        · rename_i h0
          split at em
          · rename_i old e3
            split at em
            · rename_i o ρ2 e4
              split at em
              · rename_i ev e5
                split at em
                · rename_i rr e6
                  split at em
                  · rename_i ds2 e7
                    split at em
                    · rename_i hl
                      cases em
                      obtain ⟨u, eu, _⟩ := R.slot i _ e0
                      refine ⟨u, eu, Fr, F, ρ, _, _, R, e1, fun F1 H1 y q1 R1 r1 => ?_⟩
                      cases r1
                      obtain ⟨u', eu', a', o', ea, g1, g2, g3, g4⟩ := R1.slot i _ e2
                      rw [eu] at eu'; cases eu'
                      subst ea
                      cases g2 with
                      | lst rs =>
                        obtain ⟨vo, evo, rvo⟩ := rs.get e3
                        refine ⟨a', _, n, vo, rfl, rfl, SqL.of g1, h0, evo, Fr, F1, ρ1, _, _, R1, e4, fun F2 H2 z q2 R2 r2 => ?_⟩
                        refine hs R2 (.inl (Rep.mono q2 rvo)) (r2.look R2 e5) e6 fun F3 H3 w q3 R3 r3 => ?_
                        obtain ⟨u'', eu'', a'', o'', ea2, f1, f2, f3, f4⟩ := R3.slot i _ e7
                        rw [eu] at eu''; cases eu''
                        cases ea2
                        cases f2 with
                        | lst rs2 =>
                          refine ⟨a', _, n, n.toNat, rfl, rfl, f1, ?_, ?_⟩
                          · unfold ixN
                            rw [if_pos h0, rs2.length, if_pos (by omega)]
                          · exact k F3 _ σ ((q1.trans q2).trans q3) (R3.mut e7 eu (.lst (Reps.set r3 _ rs2))) (.refl _ _)
                    · cases em
                  · cases em
                · cases em
              · cases em
            · cases em
          · cases em
        · cases em
      · cases em
    · cases em
  · cases em
theorem se_iaddAt (i : Nat) {x : Str} {px tpos : Pos} (h : OE X e m) (hb : OE X b mb) (hN : X.N[i]? = some x := by rfl) (hv : Vis X.env.scope x := by first | exact Or.inl rfl | exact Or.inr (Or.inl rfl) | exact Or.inr (Or.inr rfl)) (hd : (x == ("__debug__" : Str)) = false := by decide)
    (hcd : (x == ("__classdict__" : Str)) = false := by decide) (ha : ∀ ov iv new, augStore b ov iv new = (do holding [new, ov, iv] (setItem ov iv new); release [new, ov, iv] []; pure .next) := by intros; rfl) :
    SE X Wx (.AugAssign (.Subscript (.Name x px) b tpos) .Add e pos) [] (augAtM i mb iaddG m) := se_augAt i op_iadd ops_iadd h hb hN hv hd hcd ha
theorem se_isubAt (i : Nat) {x : Str} {px tpos : Pos} (h : OE X e m) (hb : OE X b mb) (hN : X.N[i]? = some x := by rfl) (hv : Vis X.env.scope x := by first | exact Or.inl rfl | exact Or.inr (Or.inl rfl) | exact Or.inr (Or.inr rfl)) (hd : (x == ("__debug__" : Str)) = false := by decide)
    (hcd : (x == ("__classdict__" : Str)) = false := by decide) (ha : ∀ ov iv new, augStore b ov iv new = (do holding [new, ov, iv] (setItem ov iv new); release [new, ov, iv] []; pure .next) := by intros; rfl) :
    SE X Wx (.AugAssign (.Subscript (.Name x px) b tpos) .Sub e pos) [] (augAtM i mb subG m) := se_augAt i iop_sub ops_I0 h hb hN hv hd hcd ha

/-! while -/
def whileL (t : TM) (s : SM) : Nat → Rho → Option (Out × Rho)
  | 0, _ => none
  | n + 1, ρ => match t ρ with
    | some (true, ρ1) => match s ρ1 with
      | some (.nx, ρ2) => whileL t s n ρ2
      | some (.ct, ρ2) => whileL t s n ρ2
      | some (.bk, ρ2) => some (.nx, ρ2)
      | some (.rt o, ρ2) => some (.rt o, ρ2)
      | some (.ex C f d, ρ2) => some (.ex C f d, ρ2)
      | none => none
    | some (false, ρ1) => some (.nx, ρ1)
    | none => none
def lots : Nat := 2 ^ 64
def whileM (t : TM) (s : SM) : SM := fun ρ => whileL t s lots ρ
theorem se_while {c : Expr} {body : List Stmt} {t : TM} (hp : PassesOwn (model X.prog X.w) X.A X.env X.xe) (hc : TeE X c t) (hb : SsE X Wx body W s1) : SE X Wx (.While c body [] pos) W (whileM t s1) := by
  refine ⟨ps_imp (ps_while hp hc.pt hb.pss) fun Dn σ H ⟨Fr, F, ρ, out, ρ', R, em, k⟩ => ?_⟩
  refine ⟨fun n σ1 H1 => ∃ F1 ρ1, Same F F1 ∧ Rel X.K Fr F1 ρ1 σ1 H1 ∧ Keep W σ σ1 ∧ whileL t s1 n ρ1 = some (out, ρ'), ⟨lots, F, ρ, Same.refl F, R, .refl _ _, em⟩, ?_⟩
  rintro n σ1 H1 ⟨F1, ρ1, q1, R1, k1, e1⟩
  cases n with
  | zero => cases e1
  | succ n =>
    rw [whileL] at e1
    split at e1
    · rename_i ρ2 e2
      refine ⟨Fr, F1, ρ1, _, _, R1, e2, fun F2 H2 q2 R2 => iteT ?_⟩
      refine ⟨fun σ3 H3 => ∃ F3 ρ3, Same F F3 ∧ Rel X.K Fr F3 ρ3 σ3 H3 ∧ Keep W σ σ3 ∧ whileL t s1 n ρ3 = some (out, ρ'), fun σ3 H3 z => ⟨n, Nat.lt_succ_self n, z⟩, ?_⟩
      have km : ∀ {σ3 : St}, Keep W σ1 σ3 → Keep W σ σ3 := fun k3 => (k1.trans k3).mono fun i h => (List.mem_append.mp h).elim id id
      split at e1
      · rename_i ρ3 e3
        exact ⟨Fr, F2, ρ2, _, _, R2, e3, fun F3 H3 σ3 q3 R3 k3 => ⟨F3, ρ3, (q1.trans q2).trans q3, R3, km k3, e1⟩⟩
      · rename_i ρ3 e3
        exact ⟨Fr, F2, ρ2, _, _, R2, e3, fun F3 H3 σ3 q3 R3 k3 => ⟨F3, ρ3, (q1.trans q2).trans q3, R3, km k3, e1⟩⟩
      · rename_i ρ3 e3
        cases e1
        exact ⟨Fr, F2, ρ2, _, _, R2, e3, fun F3 H3 σ3 q3 R3 k3 => k F3 H3 σ3 ((q1.trans q2).trans q3) R3 (km k3)⟩
      · rename_i o ρ3 e3
        cases e1
        exact ⟨Fr, F2, ρ2, _, _, R2, e3, fun F3 H3 σ3 q3 R3 k3 => k F3 H3 σ3 ((q1.trans q2).trans q3) R3 (km k3)⟩
      · rename_i ρ3 e3
        cases e1
        exact ⟨Fr, F2, ρ2, _, _, R2, e3, fun F3 H3 σ3 q3 R3 k3 => k F3 H3 σ3 ((q1.trans q2).trans q3) R3 (km k3)⟩
      · cases e1
    · rename_i ρ2 e2
      cases e1
      exact ⟨Fr, F1, ρ1, _, _, R1, e2, fun F2 H2 q2 R2 => iteF (k F2 H2 σ1 (q1.trans q2) R2 k1)⟩
    · cases e1

/-! what is walked -/
abbrev IM := Rho → Option (List D × Option (Nat × D) × Rho)
/-- J yields these values, at any later heap -/
def IterOk (K : PySem.W.Frag) (Fr : Frm) (F0 : Hp) (J : It) (ds : List D) : Prop := ∀ F H, Same F0 F → Same Fr.vis H → Same F H → (∀ i d, ds[i]? = some d → J.go i H ∧ ∀ x H', J.yld i H x H' →
  ∃ F', Same F F' ∧ Same H H' ∧ (∀ Fr' ρ σ, Rel K Fr' F ρ σ H → Rel K Fr' F' ρ σ H') ∧ Rep K F' x d) ∧ J.stop ds.length H
def Lock (K : PySem.W.Frag) (Fr Fr' : Frm) (F : Hp) (σ : St) : Option (Nat × D) → Prop
  | none => Fr' = Fr
  | some (j, d) => ∃ a o, σ[j]? = some (some (.ref a)) ∧ Fr a = none ∧ Fr' = Fr.upd a o ∧ Own K F o d
def tI (K : PySem.W.Frag) (m : IM) : TI := fun σ H R => ∃ Fr F ρ ds lk ρ', Rel K Fr F ρ σ H ∧ m ρ = some (ds, lk, ρ') ∧
  ∀ Fr' F' H' J, Same F F' → Rel K Fr' F' ρ' σ H' → Lock K Fr Fr' F' σ lk → IterOk K Fr' F' J ds → R J H'
/-- L: the names that may be locked -/
structure IE (X : Cx) (tg it : Expr) (L : List Nat) (m : IM) : Prop where
  pi : PI X tg it (tI X.K m)
  lk : ∀ ρ ds j d ρ', m ρ = some (ds, some (j, d), ρ') → j ∈ L
def unlock (lk : Option (Nat × D)) (ρ : Rho) : Option Rho := match lk with
  | none => some ρ
  | some (j, d) => match ρ[j]? with
    | some (some (.lck _)) => some (ρ.set j (some (.own d)))
    | _ => none
theorem Lock.open {K : PySem.W.Frag} {Fr Fr' : Frm} {F F2 H : Hp} {ρ ρ' : Rho} {σ σ' : St} {lk : Option (Nat × D)} (l : Lock K Fr Fr' F σ lk) (e : Same F F2) (R : Rel K Fr' F2 ρ σ' H) (hs : ∀ j d, lk = some (j, d) → σ'[j]? = σ[j]?) (h : unlock lk ρ = some ρ') : Rel K Fr F2 ρ' σ' H := by
  cases lk with
  | none => cases h; cases l; exact R
  | some p =>
    obtain ⟨j, d⟩ := p
    obtain ⟨a, o, e1, e2, e3, w⟩ := l
    subst e3
    dsimp only [Ev.unlock] at h
    split at h
    · rename_i d' e4
      cases h
      exact R.unlock e4 (by rw [hs j d rfl, e1]) e2 (w.mono e)
    · cases h
def forL (g : D → Rho → Option Rho) (s : SM) : List D → Rho → Option (Out × Rho)
  | [], ρ => some (.nx, ρ)
  | d :: ds, ρ => match g d ρ with
    | some ρ1 => match s ρ1 with
      | some (.nx, ρ2) => forL g s ds ρ2
      | some (.ct, ρ2) => forL g s ds ρ2
      | some (.bk, ρ2) => some (.nx, ρ2)
      | some (.rt o, ρ2) => some (.rt o, ρ2)
      | some (.ex C f d, ρ2) => some (.ex C f d, ρ2)
      | none => none
    | none => none
def forM (it : IM) (g : D → Rho → Option Rho) (s : SM) : SM := fun ρ => match it ρ with
  | some (ds, lk, ρ1) => match forL g s ds ρ1 with
    | some (out, ρ2) => match unlock lk ρ2 with
      | some ρ3 => some (out, ρ3)
      | none => none
    | none => none
  | none => none
theorem Lock.orel {K : PySem.W.Frag} {Fr Fr' : Frm} {F F2 H : Hp} {ρ ρ' : Rho} {σ σ' : St} {lk : Option (Nat × D)} {v : V} {o : Opd} (l : Lock K Fr Fr' F σ lk) (h : unlock lk ρ = some ρ') (hs : ∀ j d, lk = some (j, d) → σ'[j]? = σ[j]?)
    (r : ORel K Fr' F2 ρ σ' H v o) : ORel K Fr F2 ρ' σ' H v o := by
  cases o with
  | val d => exact r
  | var i => exact r
  | tmp d =>
    cases lk with
    | none => cases h; cases l; exact r
    | some p =>
      obtain ⟨j, d'⟩ := p
      obtain ⟨b, o', e1, e2, e3, w⟩ := l
      subst e3
      obtain ⟨a, u, rfl, h1, h2, h3, h4, h5⟩ := r
      have h4 : L2.upd Fr.h b o' a = none := h4
      have hab : a ≠ b := fun z => by subst z; rw [upd_same] at h4; cases h4
      dsimp only [Ev.unlock] at h
      split at h
      · rename_i d2 e4
        cases h
        refine ⟨a, u, rfl, h1, h2, h3, by rw [upd_ne hab] at h4; exact h4, fun i e e5 => ?_⟩
        rcases get_set_some e5 with ⟨rfl, _, _⟩ | ⟨_, e6⟩
        · rw [hs _ _ rfl, e1]
          intro z
          exact hab (V.ref.inj (Option.some.inj (Option.some.inj z))).symm
        · exact h5 i e e6
      · cases h
theorem Lock.fin {K : PySem.W.Frag} {Wx : WX} {Fr Fr' : Frm} {F F2 H : Hp} {ρ ρ' : Rho} {σ σ' : St} {lk : Option (Nat × D)} {Dn : Ends} {out : Out} (l : Lock K Fr Fr' F σ lk) (h : unlock lk ρ = some ρ') (hs : ∀ j d, lk = some (j, d) → σ'[j]? = σ[j]?)
    (k : Fin K Wx Fr F2 ρ' σ' H Dn out) : Fin K Wx Fr' F2 ρ σ' H Dn out := by
  cases out with
  | nx => exact k
  | bk => exact k
  | ct => exact k
  | rt o => exact fun v r => k v (l.orel h hs r)
  | ex C f d => exact k
theorem se_for {tg it : Expr} {body : List Stmt} {L : List Nat} {mi : IM} {g : D → Rho → Option Rho} (hp : PassesOwn (model X.prog X.w) X.A X.env X.xe) (hc : X.calm = true) (hi : IE X tg it L mi) (hg : GE X tg W1 g) (hb : SsE X Wx body W2 s1)
    (hL : ∀ j ∈ L, j ∉ W1 ++ W2 := by decide) (hs : ∀ x, foldedSetIterable it X.env x = pure x := by intro _; rfl) : SE X Wx (.For tg it body [] pos) (W1 ++ W2) (forM mi g s1) := by
  refine ⟨ps_imp (ps_for hp hc hi.pi hg.pg hb.pss hs) fun Dn σ H ⟨Fr, F, ρ, out, ρ', R, em, k⟩ => ?_⟩
  unfold forM at em
  split at em
  · rename_i ds lk ρ1 e1
    split at em
    · rename_i out2 ρ2 e2
      split at em
      · rename_i ρ3 e3
        cases em
        have hj : ∀ {σ2 : St}, Keep (W1 ++ W2) σ σ2 → ∀ j d, lk = some (j, d) → σ2[j]? = σ[j]? := fun k2 j d z => k2.2 j (hL j (hi.lk ρ ds j d ρ1 (by rw [e1, z])))
        refine ⟨Fr, F, ρ, ds, lk, ρ1, R, e1, fun Fr' F1 H1 J q1 R1 l ok => ?_⟩
        refine ⟨fun i n σ2 H2 => ∃ F2 ρx, Same F1 F2 ∧ Rel X.K Fr' F2 ρx σ2 H2 ∧ Keep (W1 ++ W2) σ σ2 ∧ i ≤ ds.length ∧ n = ds.length - i ∧ forL g s1 (ds.drop i) ρx = some (out, ρ2), ⟨ds.length, F1, ρ1, Same.refl F1, R1, .refl _ _, Nat.zero_le _, rfl, e2⟩, ?_⟩
        rintro i n σ2 H2 ⟨F2, ρx, q2, R2, k2, hle, rfl, e4⟩
        have km : ∀ {σ3 : St}, Keep (W1 ++ W2) σ2 σ3 → Keep (W1 ++ W2) σ σ3 := fun k3 => (k2.trans k3).mono fun i h => (List.mem_append.mp h).elim id id
        obtain ⟨item, stop⟩ := ok F2 H2 q2 (Frm.vis_same R2.fr) R2.f
        by_cases hlt : i < ds.length
        · rw [List.drop_eq_getElem_cons hlt, forL] at e4
          obtain ⟨go, yl⟩ := item i _ (List.getElem?_eq_getElem hlt)
          refine .inr ⟨go, fun σ3 H3 => ∃ F3 ρy, Same F1 F3 ∧ Rel X.K Fr' F3 ρy σ3 H3 ∧ Keep (W1 ++ W2) σ σ3 ∧ forL g s1 (ds.drop (i + 1)) ρy = some (out, ρ2), fun σ3 H3 ⟨F3, ρy, z1, z2, z3, z4⟩ => ⟨ds.length - (i + 1), by omega, F3, ρy, z1, z2, z3, hlt, rfl, z4⟩, fun x H' y => ?_⟩
          obtain ⟨F3, q3, q4, tr, rx⟩ := yl x H' y
          split at e4
          · rename_i ρ4 e5
            refine ⟨Fr', F3, ρx, _, ρ4, tr _ _ _ R2, rx, e5, fun F4 H4 σ4 q5 R4 k4 => ?_⟩
            split at e4
            · rename_i ρ5 e6
              exact ⟨Fr', F4, ρ4, _, _, R4, e6, fun F5 H5 σ5 q6 R5 k5 => ⟨F5, ρ5, ((q2.trans q3).trans q5).trans q6, R5, km (k4.trans k5), e4⟩⟩
            · rename_i ρ5 e6
              exact ⟨Fr', F4, ρ4, _, _, R4, e6, fun F5 H5 σ5 q6 R5 k5 => ⟨F5, ρ5, ((q2.trans q3).trans q5).trans q6, R5, km (k4.trans k5), e4⟩⟩
            · rename_i ρ5 e6
              cases e4
              exact ⟨Fr', F4, ρ4, _, _, R4, e6, fun F5 H5 σ5 q6 R5 k5 => k F5 H5 σ5 ((((q1.trans q2).trans q3).trans q5).trans q6) (l.open (((q2.trans q3).trans q5).trans q6) R5 (hj (km (k4.trans k5))) e3) (km (k4.trans k5))⟩
            · rename_i o ρ5 e6
              cases e4
              refine ⟨Fr', F4, ρ4, _, _, R4, e6, fun F5 H5 σ5 q6 R5 k5 => ?_⟩
              have z := k F5 H5 σ5 ((((q1.trans q2).trans q3).trans q5).trans q6) (l.open (((q2.trans q3).trans q5).trans q6) R5 (hj (km (k4.trans k5))) e3) (km (k4.trans k5))
              exact fun v r => z v (l.orel e3 (hj (km (k4.trans k5))) r)
            · rename_i ρ5 e6
              cases e4
              exact ⟨Fr', F4, ρ4, _, _, R4, e6, fun F5 H5 σ5 q6 R5 k5 => k F5 H5 σ5 ((((q1.trans q2).trans q3).trans q5).trans q6) (l.open (((q2.trans q3).trans q5).trans q6) R5 (hj (km (k4.trans k5))) e3) (km (k4.trans k5))⟩
            · cases e4
          · cases e4
        · have ei : i = ds.length := by omega
          subst ei
          rw [List.drop_length, forL] at e4
          cases e4
          exact .inl ⟨stop, k F2 H2 σ2 (q1.trans q2) (l.open q2 R2 (hj k2) e3) k2⟩
      · cases em
    · cases em
  · cases em

/-! sources -/
def charsD (s : Str) : List D := s.cps.toList.map fun c => .str ⟨#[c]⟩
/-- a list, a tuple, a text -/
def itemsD : D → Option (List D)
  | .str s => some (charsD s)
  | d => seqD d
def seqI (m : EM) : IM := fun ρ => match frz m ρ with
  | some (.val d, ρ1) => match itemsD d with
    | some ds => some (ds, none, ρ1)
    | none => none
  | some (.var j, ρ1) => match ρ1[j]? with
    | some (some (.own d)) => match seqD d with
      | some ds => some (ds, some (j, d), ρ1.set j (some (.lck d)))
      | none => none
    | some (some sv) => match itemsD sv.d with
      | some ds => some (ds, none, ρ1)
      | none => none
    | _ => none
  | _ => none
theorem pi_or {tg it : Expr} {w1 w2 : TI} (h1 : PI X tg it w1) (h2 : PI X tg it w2) : PI X tg it (fun σ H R => w1 σ H R ∨ w2 σ H R) := ⟨fun pins s σ H R I h => by
  rcases h with h | h
  · exact h1.run pins s σ H R I h
  · exact h2.run pins s σ H R I h⟩
end
end Ev

set_option Elab.async false
set_option linter.all false
set_option maxRecDepth 100000
/-! Ev. F: what is walked, comprehensions. -/
set_option autoImplicit false
namespace Ev
open PySem PySem.Spec PyProof.Rows L2

theorem iter_list {K : PySem.W.Frag} {Fr : Frm} {F G : Hp} {a : Addr} {vs : List V} {ds : List D} (hG : ∀ H, Same Fr.vis H → Same F H → Same G H) (h : SqL K G a vs) (r : Reps K F vs ds) : IterOk K Fr F (Itl K a) ds := by
  intro F2 H q f1 f2
  have hh : SqL K H a vs := sameL (hG H f1 (q.trans f2)) h
  refine ⟨fun i d e => ?_, vs, hh, by rw [r.length]; exact Nat.le_refl _⟩
  obtain ⟨v, e1, rv⟩ := r.get e
  refine ⟨⟨vs, v, hh, e1⟩, fun x H' y => ?_⟩
  obtain ⟨rfl, y⟩ := y
  have e2 := y vs hh
  rw [e1] at e2; cases e2
  exact ⟨F2, Same.refl _, Same.refl _, fun _ _ _ z => z, rv.mono q⟩
theorem iter_tup {K : PySem.W.Frag} {Fr : Frm} {F : Hp} {a : Addr} {vs : List V} {ds : List D} (h : SqT K F a vs) (r : Reps K F vs ds) : IterOk K Fr F (Itt K a) ds := by
  intro F2 H q f1 f2
  have hh : SqT K H a vs := sameT (q.trans f2) h
  refine ⟨fun i d e => ?_, vs, hh, by rw [r.length]; exact Nat.le_refl _⟩
  obtain ⟨v, e1, rv⟩ := r.get e
  refine ⟨⟨vs, v, hh, e1⟩, fun x H' y => ?_⟩
  obtain ⟨rfl, y⟩ := y
  have e2 := y vs hh
  rw [e1] at e2; cases e2
  exact ⟨F2, Same.refl _, Same.refl _, fun _ _ _ z => z, rv.mono q⟩
theorem iter_str {K : PySem.W.Frag} {Fr : Frm} {F : Hp} (x : Str) : IterOk K Fr F (Its x) (charsD x) := by
  intro F2 H q f1 f2
  refine ⟨fun i d e => ?_, ?_⟩
  · unfold charsD at e
    rw [List.getElem?_map] at e
    cases e1 : x.cps.toList[i]? with
    | none => rw [e1] at e; cases e
    | some c =>
      rw [e1] at e
      cases e
      have hi := some_lt e1
      refine ⟨(show i < x.cps.size by simpa using hi), fun v H' y => ?_⟩
      obtain ⟨rfl, c', e2, rfl⟩ := y
      have e3 : x.cps[i]? = some c := by simpa using e1
      rw [e3] at e2; cases e2
      exact ⟨F2, Same.refl _, Same.refl _, fun _ _ _ z => z, .str _⟩
  · show x.cps.size ≤ (charsD x).length
    unfold charsD
    simp
def rangeD (lo : Int) (n : Nat) : List D := (List.range n).map fun (i : Nat) => D.int (lo + i)
theorem iter_range {K : PySem.W.Frag} {Fr : Frm} {F : Hp} (lo : Int) (n : Nat) : IterOk K Fr F (Itr lo n) (rangeD lo n) := by
  intro F2 H q f1 f2
  refine ⟨fun i d e => ?_, by show n ≤ (rangeD lo n).length; unfold rangeD; simp⟩
  unfold rangeD at e
  rw [List.getElem?_map] at e
  by_cases hi : i < n
  · rw [List.getElem?_range hi] at e
    cases e
    refine ⟨hi, fun v H' y => ?_⟩
    obtain ⟨rfl, rfl⟩ := y
    exact ⟨F2, Same.refl _, Same.refl _, fun _ _ _ z => z, .int _⟩
  · rw [List.getElem?_eq_none (by simpa using hi)] at e; cases e

section
variable {X : Cx} {Wx : WX} {e a b : Expr} {es : List Expr} {tg : Expr} {pos : Pos} {m ma mb : EM} {W W1 W2 : List Nat}

/-- the walk over a value as it stands in F -/
def iAny (K : PySem.W.Frag) (te : TE) (tn : TA) : TI := fun σ H R => iList K te σ H R ∨ iTup K te σ H R ∨ iStr te σ H R
theorem pi_any {te : TE} (h : PE X e te) : PI X tg e (fun σ H R => iList X.K te σ H R ∨ iTup X.K te σ H R ∨ iStr te σ H R) := pi_or (pi_list h) (pi_or (pi_tup h) (pi_str h))
/-- over a value that is no name's own -/
def seqI0 (m : EM) : IM := fun ρ => match frz m ρ with
  | some (.val d, ρ1) => match itemsD d with
    | some ds => some (ds, none, ρ1)
    | none => none
  | _ => none
theorem seq_val {Fr : Frm} {F H : Hp} {ρ1 : Rho} {σ : St} {R : It → Hp → Prop} {d : D} {ds : List D} (w : ∀ Q, (∀ F' H' v, Same F F' → Rel X.K Fr F' ρ1 σ H' → Rep X.K F' v d → Q v H') → tN X.K (frz m) σ H Q) (e2 : itemsD d = some ds)
    (k : ∀ F' H' J, Same F F' → Rel X.K Fr F' ρ1 σ H' → IterOk X.K Fr F' J ds → R J H') : iList X.K (tN X.K (frz m)) σ H R ∨ iTup X.K (tN X.K (frz m)) σ H R ∨ iStr (tN X.K (frz m)) σ H R := by
  cases d with
  | lst xs =>
    cases e2
    refine .inl (w _ fun F1 H1 v q1 R1 r => ?_)
    cases r with
    | lst h rs => exact ⟨_, rfl, ⟨_, SqL.of (R1.f _ _ h)⟩, k F1 H1 _ q1 R1 (iter_list (G := F1) (fun _ _ z => z) (SqL.of h) rs)⟩
  | rol xs =>
    cases e2
    refine .inl (w _ fun F1 H1 v q1 R1 r => ?_)
    cases r with
    | rol h rs => exact ⟨_, rfl, ⟨_, sameL R1.f h⟩, k F1 H1 _ q1 R1 (iter_list (G := F1) (fun _ _ z => z) h rs)⟩
  | tup xs =>
    cases e2
    refine .inr (.inl (w _ fun F1 H1 v q1 R1 r => ?_))
    cases r with
    | tup h rs => exact ⟨_, rfl, ⟨_, SqT.of (R1.f _ _ h)⟩, k F1 H1 _ q1 R1 (iter_tup (SqT.of h) rs)⟩
  | str x =>
    cases e2
    refine .inr (.inr (w _ fun F1 H1 v q1 R1 r => ?_))
    cases r
    exact ⟨x, rfl, k F1 H1 _ q1 R1 (iter_str x)⟩
  | ins C ks ds => cases e2
  | dct ks ds => cases e2
  | dtt ks ds => cases e2
  | non => cases e2
  | bl b => cases e2
  | int i => cases e2
theorem ie_seq (h : OE X e m) : IE X tg e [] (seqI0 m) := by
  refine ⟨pi_imp (pi_any h.ne.pe) fun σ H R ⟨Fr, F, ρ, ds, lk, ρ', Rr, em, k⟩ => ?_, fun ρ ds j d ρ' em => ?_⟩
  · unfold seqI0 at em
    split at em
    · rename_i d ρ1 e1
      split at em
      · rename_i ds' e2
        cases em
        exact seq_val (fun Q q => ⟨Fr, F, ρ, _, _, Rr, e1, q⟩) e2 fun F' H' J q1 R1 ok => k Fr F' H' J q1 R1 rfl ok
      · cases em
    · cases em
  · exfalso
    unfold seqI0 at em
    split at em
    · split at em
      · cases em
      · cases em
    · cases em
/-- over what a name holds -/
def nameI (j : Nat) : IM := fun ρ => match ρ[j]? with
  | some (some (.val d)) => match itemsD d with
    | some ds => some (ds, none, ρ)
    | none => none
  | some (some (.own d)) => match seqD d with
    | some ds => some (ds, some (j, d), ρ.set j (some (.lck d)))
    | none => none
  | some (some (.bor d)) => match seqD d with
    | some ds => some (ds, none, ρ)
    | none => none
  | some (some (.lck d)) => match seqD d with
    | some ds => some (ds, none, ρ)
    | none => none
  | _ => none
theorem own_seq {K : PySem.W.Frag} {F : Hp} {o : HO} {d : D} {ds : List D} (w : Own K F o d) (e : seqD d = some ds) : ∃ vs, o = .lst vs ∧ Reps K F vs ds := by
  cases w with
  | lst r => cases e; exact ⟨_, rfl, r⟩
  | ins l r => cases e
  | dct l r => cases e
  | dtt l r => cases e
theorem ie_name (j : Nat) {x : Str} (hN : X.N[j]? = some x := by rfl) (hv : Vis X.env.scope x := by first | exact Or.inl rfl | exact Or.inr (Or.inl rfl) | exact Or.inr (Or.inr rfl)) (hd : (x == ("__debug__" : Str)) = false := by decide)
    (hcd : (x == ("__classdict__" : Str)) = false := by decide) : IE X tg (.Name x pos) [j] (nameI j) := by
  have h := pe_var (X := X) (pos := pos) hN hv hd hcd
  refine ⟨pi_imp (pi_any (tg := tg) h) fun σ H R ⟨Fr, F, ρ, ds, lk, ρ', Rr, em, k⟩ => ?_, fun ρ ds i d ρ' em => ?_⟩
  · unfold nameI at em
    split at em
    · rename_i d e1
      obtain ⟨v, ev, r⟩ := Rr.slot j _ e1
      split at em
      · rename_i ds' e2
        cases em
        cases r with
        | lst hh rs => cases e2; exact .inl ⟨_, ev, _, rfl, ⟨_, SqL.of (Rr.f _ _ hh)⟩, k Fr F H _ (Same.refl F) Rr rfl (iter_list (G := F) (fun _ _ z => z) (SqL.of hh) rs)⟩
        | rol hh rs => cases e2; exact .inl ⟨_, ev, _, rfl, ⟨_, sameL Rr.f hh⟩, k Fr F H _ (Same.refl F) Rr rfl (iter_list (G := F) (fun _ _ z => z) hh rs)⟩
        | tup hh rs => cases e2; exact .inr (.inl ⟨_, ev, _, rfl, ⟨_, SqT.of (Rr.f _ _ hh)⟩, k Fr F H _ (Same.refl F) Rr rfl (iter_tup (SqT.of hh) rs)⟩)
        | str x => cases e2; exact .inr (.inr ⟨_, ev, x, rfl, k Fr F H _ (Same.refl F) Rr rfl (iter_str x)⟩)
        | non => cases e2
        | bl b => cases e2
        | int i => cases e2
        | ins h l r => cases e2
        | dct h l r => cases e2
        | dtt h l r => cases e2
      · cases em
    · rename_i d e1
      split at em
      · rename_i ds' e2
        cases em
        obtain ⟨a, o, es, hFr, w, hH, R2⟩ := Rr.lock e1
        obtain ⟨vs, rfl, rs⟩ := own_seq w e2
        refine .inl ⟨_, es, a, rfl, ⟨vs, SqL.of hH⟩, k _ F H _ (Same.refl F) R2 ⟨a, _, es, hFr, rfl, w⟩ ?_⟩
        exact iter_list (G := (Fr.upd a (.lst vs)).vis) (fun _ z _ => z) (SqL.of (Frm.vis_of ⟨upd_same, fun z => Fr.hs a z hFr⟩)) rs
      · cases em
    · rename_i d e1
      obtain ⟨v, ev, a, o, rfl, h1, w⟩ := Rr.slot j _ e1
      split at em
      · rename_i ds' e2
        cases em
        obtain ⟨vs, rfl, rs⟩ := own_seq w e2
        exact .inl ⟨_, ev, a, rfl, ⟨vs, SqL.of (Rr.fr _ _ h1.1)⟩, k Fr F H _ (Same.refl F) Rr rfl (iter_list (G := Fr.vis) (fun _ z _ => z) (SqL.of (Frm.vis_of h1)) rs)⟩
      · cases em
    · rename_i d e1
      obtain ⟨v, ev, a, o, rfl, h1, w⟩ := Rr.slot j _ e1
      split at em
      · rename_i ds' e2
        cases em
        obtain ⟨vs, rfl, rs⟩ := own_seq w e2
        exact .inl ⟨_, ev, a, rfl, ⟨vs, SqL.of (Rr.fr _ _ h1.1)⟩, k Fr F H _ (Same.refl F) Rr rfl (iter_list (G := Fr.vis) (fun _ z _ => z) (SqL.of (Frm.vis_of h1)) rs)⟩
      · cases em
    · cases em
  · unfold nameI at em
    split at em
    · split at em <;> cases em
    · split at em
      · cases em; simp
      · cases em
    · split at em <;> cases em
    · split at em <;> cases em
    · cases em
/-- over range(n), range(a, b) -/
def inR (i : Int) : Bool := decide (-(2 ^ 62) ≤ i) && decide (i < 2 ^ 62)
theorem inR_iff {i : Int} (h : inR i = true) : -(2 ^ 62) ≤ i ∧ i < 2 ^ 62 := by
  unfold inR at h
  rw [Bool.and_eq_true] at h
  exact ⟨of_decide_eq_true h.1, of_decide_eq_true h.2⟩
def rng1 (m : DM) : IM := fun ρ => match m ρ with
  | some ([.int j], ρ') => if inR j then some (rangeD 0 j.toNat, none, ρ') else none
  | _ => none
def rng2 (m : DM) : IM := fun ρ => match m ρ with
  | some ([.int i, .int j], ρ') => if inR i && inR j then some (rangeD i (j - i).toNat, none, ρ') else none
  | _ => none
theorem ie_range1 {dm : DM} {p : Pos} (hg : Gl X "range") (hm : X.mg "range" = none) (h : DE X [a] dm) (hs : starEach [a] X.env = [(false, eval a X.env)] := by rfl) : IE X tg (.Call (.Name "range" p) [a] [] pos) [] (rng1 dm) := by
  refine ⟨pi_imp (pi_range1 hg hm h.pa hs) fun σ H R ⟨Fr, F, ρ, ds, lk, ρ', Rr, em, k⟩ => ?_, fun ρ ds j d ρ' em => ?_⟩
  · unfold rng1 at em
    split at em
    · rename_i j ρ1 e1
      split at em
      · rename_i hj
        cases em
        refine ⟨Fr, F, ρ, _, _, Rr, e1, fun F1 H1 vs q1 R1 r => ?_⟩
        cases r with
        | cons r1 r2 =>
          cases r2; cases r1
          exact ⟨j, rfl, (inR_iff hj).1, (inR_iff hj).2, k Fr F1 H1 _ q1 R1 rfl (iter_range 0 _)⟩
      · cases em
    · cases em
  · exfalso
    unfold rng1 at em
    split at em
    · split at em <;> cases em
    · cases em
theorem ie_range2 {dm : DM} {p : Pos} (hg : Gl X "range") (hm : X.mg "range" = none) (h : DE X [a, b] dm) (hs : starEach [a, b] X.env = [(false, eval a X.env), (false, eval b X.env)] := by rfl) (hs2 : starEach [b] X.env = [(false, eval b X.env)] := by rfl) :
    IE X tg (.Call (.Name "range" p) [a, b] [] pos) [] (rng2 dm) := by
  refine ⟨pi_imp (pi_range2 hg hm h.pa hs hs2) fun σ H R ⟨Fr, F, ρ, ds, lk, ρ', Rr, em, k⟩ => ?_, fun ρ ds j d ρ' em => ?_⟩
  · unfold rng2 at em
    split at em
    · rename_i i j ρ1 e1
      split at em
      · rename_i hj
        cases em
        rw [Bool.and_eq_true] at hj
        refine ⟨Fr, F, ρ, _, _, Rr, e1, fun F1 H1 vs q1 R1 r => ?_⟩
        cases r with
        | cons r1 r2 =>
          cases r2 with
          | cons r2 r3 =>
            cases r3; cases r1; cases r2
            exact ⟨i, j, rfl, ⟨(inR_iff hj.1).1, (inR_iff hj.1).2, (inR_iff hj.2).1, (inR_iff hj.2).2⟩, k Fr F1 H1 _ q1 R1 rfl (iter_range i _)⟩
      · cases em
    · cases em
  · exfalso
    unfold rng2 at em
    split at em
    · split at em <;> cases em
    · cases em

/-! comprehensions -/
@[simp] def wipeR (ρ : Rho) : List Nat → Rho
  | [] => ρ
  | v :: vs => (wipeR ρ vs).set v none
@[simp] def backR (ρ0 ρ : Rho) : List Nat → Rho
  | [] => ρ
  | v :: vs => (backR ρ0 ρ vs).set v (ρ0[v]?.getD none)
/-- these slots hold no object -/
@[simp] def bare (ρ : Rho) (vs : List Nat) : Bool := vs.all fun v => match ρ[v]? with
  | some (some sv) => !sv.ob
  | _ => true
def compL (vs : List Nat) (g : D → Rho → Option Rho) (t : TM) (el : VM) : List D → List D → Rho → Option (List D × Rho)
  | [], acc, ρ => some (acc, ρ)
  | d :: ds, acc, ρ => match g d ρ with
    | some ρ1 => match t ρ1 with
      | some (true, ρ2) => match el ρ2 with
        | some (y, ρ3) => if acc.length < sizeLine then compL vs g t el ds (acc ++ [y]) (wipeR ρ3 vs) else none
        | none => none
      | some (false, ρ2) => compL vs g t el ds acc (wipeR ρ2 vs)
      | none => none
    | none => none
def compM (vs : List Nat) (it : IM) (g : D → Rho → Option Rho) (t : TM) (el : VM) : EM := fun ρ => match it ρ with
  | some (ds, lk, ρ1) => if bare ρ1 vs then match compL vs g t el ds [] (wipeR ρ1 vs) with
    | some (acc, ρ2) => match unlock lk (backR ρ1 ρ2 vs) with
      | some ρ3 => some (.tmp (.lst acc), ρ3)
      | none => none
    | none => none else none
  | none => none
def yesM : TM := fun ρ => some (true, ρ)
structure IfE (X : Cx) (ifs : List Expr) (t : TM) : Prop where
  pts : PTs X ifs (tT X.K t)
theorem pts_imp {ifs : List Expr} {t t' : TT} (h : PTs X ifs t) (w : ∀ σ H Q, t' σ H Q → t σ H Q) : PTs X ifs t' := ⟨fun pins s σ H Q I q => h.run pins s σ H Q I (w σ H Q q)⟩
theorem if_nil : IfE X [] yesM := ⟨pts_imp pts_nil fun σ H Q ⟨Fr, F, ρ, b, ρ', R, em, k⟩ => by cases em; exact k F H (Same.refl F) R⟩
theorem if_one {c : Expr} {t : TM} (h : TeE X c t) : IfE X [c] t := ⟨pts_one h.pt⟩

theorem wipe_get {σ : St} {i : Nat} : ∀ {vs : List Nat}, (wipe σ vs)[i]? = if i ∈ vs then (if i < σ.length then some none else none) else σ[i]?
  | [] => by rw [if_neg (by simp)]; rfl
  | v :: vs => by
    unfold wipe
    rw [get_set_of, wipe_length, wipe_get (vs := vs)]
    by_cases e : v = i
    · subst e; simp
    · have ne : ¬ i = v := fun z => e z.symm
      simp [e, ne]
theorem wipeR_get {ρ : Rho} {i : Nat} : ∀ {vs : List Nat}, (wipeR ρ vs)[i]? = if i ∈ vs then (if i < ρ.length then some none else none) else ρ[i]?
  | [] => by rw [if_neg (by simp)]; rfl
  | v :: vs => by
    have hl : (wipeR ρ vs).length = ρ.length := by
      clear i
      induction vs with
      | nil => rfl
      | cons w ws ih => unfold wipeR; rw [List.length_set, ih]
    unfold wipeR
    rw [get_set_of, hl, wipeR_get (vs := vs)]
    by_cases e : v = i
    · subst e; simp
    · have ne : ¬ i = v := fun z => e z.symm
      simp [e, ne]
theorem wipeR_len (ρ : Rho) : ∀ vs : List Nat, (wipeR ρ vs).length = ρ.length
  | [] => rfl
  | v :: vs => by unfold wipeR; rw [List.length_set, wipeR_len ρ vs]
theorem backR_len (ρ0 ρ : Rho) : ∀ vs : List Nat, (backR ρ0 ρ vs).length = ρ.length
  | [] => rfl
  | v :: vs => by unfold backR; rw [List.length_set, backR_len ρ0 ρ vs]
theorem backR_get {ρ0 ρ : Rho} {i : Nat} : ∀ {vs : List Nat}, (backR ρ0 ρ vs)[i]? = if i ∈ vs then (if i < ρ.length then some (ρ0[i]?.getD none) else none) else ρ[i]?
  | [] => by rw [if_neg (by simp)]; rfl
  | v :: vs => by
    unfold backR
    rw [get_set_of, backR_len, backR_get (vs := vs)]
    by_cases e : v = i
    · subst e; simp
    · have ne : ¬ i = v := fun z => e z.symm
      simp [e, ne]
theorem wipe_keep {W vs : List Nat} {σ σ2 : St} (k : Keep W (wipe σ vs) σ2) (h : ∀ i ∈ W, i ∈ vs) : wipe σ2 vs = wipe σ vs := by
  apply List.ext_getElem?
  intro i
  rw [wipe_get, wipe_get]
  have hl : σ2.length = σ.length := by rw [k.1, wipe_length]
  by_cases hi : i ∈ vs
  · rw [if_pos hi, if_pos hi, hl]
  · rw [if_neg hi, if_neg hi, k.2 i (fun z => hi (h i z)), wipe_get, if_neg hi]
/-- the slots of vs forgotten on both sides -/
theorem Rel.wipes {K : PySem.W.Frag} {Fr : Frm} {F H : Hp} {ρ : Rho} {σ : St} (R : Rel K Fr F ρ σ H) (vs : List Nat) : Rel K Fr F (wipeR ρ vs) (wipe σ vs) H := by
  have q : ∀ {i : Nat} {sv : SV}, (wipeR ρ vs)[i]? = some (some sv) → i ∉ vs ∧ ρ[i]? = some (some sv) ∧ (wipe σ vs)[i]? = σ[i]? := fun {i sv} e => by
    rw [wipeR_get] at e
    by_cases hi : i ∈ vs
    · rw [if_pos hi] at e
      split at e <;> cases e
    · rw [if_neg hi] at e
      exact ⟨hi, e, by rw [wipe_get, if_neg hi]⟩
  refine ⟨R.fr, R.f, R.dj, fun i sv e => ?_, fun i j s t e1 e2 x1 x2 e3 => ?_, by rw [wipeR_len, wipe_length]; exact R.len⟩
  · obtain ⟨_, e1, e2⟩ := q e
    rw [e2]; exact R.slot i sv e1
  · obtain ⟨_, z1, y1⟩ := q e1
    obtain ⟨_, z2, y2⟩ := q e2
    rw [y1, y2] at e3
    exact R.uniq i j s t z1 z2 x1 x2 e3
/-- .. and come back, an object less hidden -/
theorem Rel.back {K : PySem.W.Frag} {Fr : Frm} {F1 F H1 H : Hp} {ρ1 ρ : Rho} {σ : St} {vs : List Nat} {p : Addr} {o : HO} (R1 : Rel K Fr F1 ρ1 σ H1) (hp : Fr p = none) (R : Rel K (Fr.hide p o) F ρ (wipe σ vs) H) (q : Same F1 F) (hb : bare ρ1 vs = true) : Rel K Fr F (backR ρ1 ρ vs) σ H := by
  have bar : ∀ {i : Nat} {sv : SV}, i ∈ vs → ρ1[i]? = some (some sv) → sv.ob = false := fun {i sv} hi e => by
    have := List.all_eq_true.mp hb i hi
    rw [e] at this
    simpa using this
  have g : ∀ {i : Nat} {sv : SV}, (backR ρ1 ρ vs)[i]? = some (some sv) → (i ∈ vs ∧ ρ1[i]? = some (some sv) ∧ sv.ob = false) ∨ (i ∉ vs ∧ ρ[i]? = some (some sv) ∧ (wipe σ vs)[i]? = σ[i]?) := fun {i sv} e => by
    rw [backR_get] at e
    by_cases hi : i ∈ vs
    · rw [if_pos hi] at e
      split at e
      · have e2 : ρ1[i]?.getD none = some sv := Option.some.inj e
        have e3 : ρ1[i]? = some (some sv) := by
          cases z : ρ1[i]? with
          | none => rw [z] at e2; cases e2
          | some w => rw [z] at e2; exact congrArg some e2
        exact .inl ⟨hi, e3, bar hi e3⟩
      · cases e
    · rw [if_neg hi] at e
      exact .inr ⟨hi, e, by rw [wipe_get, if_neg hi]⟩
  have up : ∀ {b : Addr} {u : HO}, Fr b = some u → (Fr.hide p o) b = some u := fun {b u} z => by
    show L2.upd Fr.h p o b = some u
    rw [upd_ne (ne_of_none z hp)]; exact z
  have dn : ∀ {b : Addr}, (Fr.hide p o) b = none → Fr b = none := fun {b} z => by
    have z : L2.upd Fr.h p o b = none := z
    by_cases e : b = p
    · subst e; exact hp
    · rw [upd_ne e] at z; exact z
  have vis : ∀ {b : Addr} {u : HO}, ((Fr.hide p o) b = some u ∧ ¬ (Fr.hide p o).hid b) → (Fr b = some u ∧ ¬ Fr.hid b) := fun {b u} ⟨z1, z2⟩ => by
    have ne : b ≠ p := fun e => z2 (.inr e)
    have z1 : L2.upd Fr.h p o b = some u := z1
    rw [upd_ne ne] at z1
    exact ⟨z1, fun z => z2 (.inl z)⟩
  refine ⟨fun b u z => R.fr b u (up z), R.f, fun b u z => R.dj b u (up z), fun i sv e => ?_, fun i j s t e1 e2 x1 x2 e3 => ?_, ?_⟩
  · rcases g e with ⟨hi, e1, x⟩ | ⟨hi, e1, e2⟩
    · obtain ⟨v, ev, s⟩ := R1.slot i sv e1
      refine ⟨v, ev, ?_⟩
      cases sv with
      | val d => exact Rep.mono q s
      | own d => cases x
      | bor d => cases x
      | lck d => cases x
    · obtain ⟨v, ev, s⟩ := R.slot i sv e1
      rw [e2] at ev
      refine ⟨v, ev, ?_⟩
      cases sv with
      | val d => exact s
      | own d => obtain ⟨b, u, z1, z2, z3, z4, z5⟩ := s; exact ⟨b, u, z1, z2, z3, z4, dn z5⟩
      | bor d => obtain ⟨b, u, z1, z2, z3⟩ := s; exact ⟨b, u, z1, vis z2, z3⟩
      | lck d => obtain ⟨b, u, z1, z2, z3⟩ := s; exact ⟨b, u, z1, vis z2, z3⟩
  · rcases g e1 with ⟨_, _, y1⟩ | ⟨h1, z1, y1⟩
    · cases s with
      | val d => cases x1
      | own d => cases y1
      | bor d => cases x1
      | lck d => cases y1
    · rcases g e2 with ⟨_, _, y2⟩ | ⟨h2, z2, y2⟩
      · rw [x2] at y2; cases y2
      · exact R.uniq i j s t z1 z2 x1 x2 (by rw [y1, y2]; exact e3)
  · rw [backR_len]
    have := R.len
    rw [wipe_length] at this
    exact this
/-- a hidden object, new -/
theorem Rel.hide {K : PySem.W.Frag} {Fr : Frm} {F H : Hp} {ρ : Rho} {σ : St} {p : Addr} {o : HO} (R : Rel K Fr F ρ σ H) (h : H p = none) : Rel K (Fr.hide p o) F ρ σ (upd H p o) := by
  have hF : F p = none := R.f.free h
  have hFr : Fr p = none := R.fr.free h
  refine ⟨fun b u z => ?_, fun b u z => ?_, fun b u z => ?_, fun i sv e => ?_, R.uniq, R.len⟩
  · have z : L2.upd Fr.h p o b = some u := z
    by_cases e : b = p
    · subst e; rw [upd_same] at z ⊢; exact z
    · rw [upd_ne e] at z ⊢; exact R.fr b u z
  · rw [upd_ne (ne_of_none z hF)]; exact R.f b u z
  · have z : L2.upd Fr.h p o b = some u := z
    by_cases e : b = p
    · subst e; exact hF
    · rw [upd_ne e] at z; exact R.dj b u z
  · obtain ⟨v, ev, s⟩ := R.slot i sv e
    have np : ∀ {b : Addr} {u : HO}, H b = some u → b ≠ p := fun z => ne_of_none z h
    refine ⟨v, ev, ?_⟩
    cases sv with
    | val d => exact s
    | own d =>
      obtain ⟨b, u, z1, z2, z3, z4, z5⟩ := s
      exact ⟨b, u, z1, by rw [upd_ne (np z2)]; exact z2, z3, z4, (upd_ne (np z2)).trans z5⟩
    | bor d =>
      obtain ⟨b, u, z1, z2, z3⟩ := s
      have ne := ne_of_none z2.1 hFr
      exact ⟨b, u, z1, ⟨(upd_ne ne).trans z2.1, fun z => z.elim z2.2 ne⟩, z3⟩
    | lck d =>
      obtain ⟨b, u, z1, z2, z3⟩ := s
      have ne := ne_of_none z2.1 hFr
      exact ⟨b, u, z1, ⟨(upd_ne ne).trans z2.1, fun z => z.elim z2.2 ne⟩, z3⟩
/-- the hidden object changes -/
theorem Rel.rehide {K : PySem.W.Frag} {Fr : Frm} {F H : Hp} {ρ : Rho} {σ : St} {p : Addr} {o u : HO} (R : Rel K (Fr.hide p o) F ρ σ H) : Rel K (Fr.hide p u) F ρ σ (upd H p u) := by
  have hF : F p = none := R.dj p o upd_same
  have same : ∀ {b : Addr}, b ≠ p → (Fr.hide p u) b = (Fr.hide p o) b := fun e => (upd_ne e).trans (upd_ne e).symm
  refine ⟨fun b w z => ?_, fun b w z => ?_, fun b w z => ?_, fun i sv e => ?_, R.uniq, R.len⟩
  · by_cases e : b = p
    · subst e
      have z : L2.upd Fr.h b u b = some w := z
      rw [upd_same] at z ⊢; exact z
    · rw [upd_ne e]; exact R.fr b w ((same e).symm.trans z)
  · rw [upd_ne (ne_of_none z hF)]; exact R.f b w z
  · by_cases e : b = p
    · subst e; exact hF
    · exact R.dj b w ((same e).symm.trans z)
  · obtain ⟨v, ev, s⟩ := R.slot i sv e
    refine ⟨v, ev, ?_⟩
    cases sv with
    | val d => exact s
    | own d =>
      obtain ⟨b, w, z1, z2, z3, z4, z5⟩ := s
      have ne : b ≠ p := fun z => by
        subst z
        have z5 : L2.upd Fr.h b o b = none := z5
        rw [upd_same] at z5; cases z5
      exact ⟨b, w, z1, by rw [upd_ne ne]; exact z2, z3, z4, (same ne).trans z5⟩
    | bor d =>
      obtain ⟨b, w, z1, z2, z3⟩ := s
      have ne : b ≠ p := fun z => z2.2 (.inr z)
      exact ⟨b, w, z1, ⟨(same ne).trans z2.1, z2.2⟩, z3⟩
    | lck d =>
      obtain ⟨b, w, z1, z2, z3⟩ := s
      have ne : b ≠ p := fun z => z2.2 (.inr z)
      exact ⟨b, w, z1, ⟨(same ne).trans z2.1, z2.2⟩, z3⟩

theorem lc_read {L vs : List Nat} {it : IM} {g : D → Rho → Option Rho} {t : TM} {el : VM} (hW : ∀ i ∈ W, i ∈ vs) {σ : St} {H : Hp} {Q : VK} (h : tE X.K (compM vs it g t el) σ H Q) :
    tLc (tI X.K it) (tG X.K W g) (tT X.K t) (tV X.K el) vs σ H Q := by
  obtain ⟨Fr, F, ρ, o, ρ', R, em, k⟩ := h
  unfold compM at em
  split at em
  · rename_i ds lk ρ1 e1
    split at em
    · rename_i hb
      split at em
      · rename_i acc ρ2 e2
        split at em
        · rename_i ρ3 e3
          cases em
          refine ⟨Fr, F, ρ, ds, lk, ρ1, R, e1, fun Fr' F1 H1 J q1 R1 l ok p hp => ?_⟩
          have hFr' : Fr' p = none := R1.fr.free hp
          refine ⟨fun i n H2 => ∃ F2 ρx vacc ac, Same F1 F2 ∧ Rel X.K (Fr'.hide p (.lst vacc)) F2 ρx (wipe σ vs) H2 ∧ Reps X.K F2 vacc ac ∧ i ≤ ds.length ∧ n = ds.length - i ∧ compL vs g t el (ds.drop i) ac ρx = some (acc, ρ2),
            ⟨ds.length, F1, wipeR ρ1 vs, [], [], Same.refl F1, (R1.wipes vs).hide hp, .nil, Nat.zero_le _, rfl, e2⟩, ?_⟩
          rintro i n H2 ⟨F2, ρx, vacc, ac, q2, R2, rs, hle, rfl, e4⟩
          have frS : Same Fr'.h H2 := fun b u z => R2.fr b u ((upd_ne (ne_of_none z hFr')).trans z)
          obtain ⟨item, stop⟩ := ok F2 H2 q2 (Frm.vis_same frS) R2.f
          by_cases hlt : i < ds.length
          · rw [List.drop_eq_getElem_cons hlt, compL] at e4
            obtain ⟨go, yl⟩ := item i _ (List.getElem?_eq_getElem hlt)
            refine .inr ⟨go, fun H3 => ∃ F3 ρx vacc ac, Same F1 F3 ∧ Rel X.K (Fr'.hide p (.lst vacc)) F3 ρx (wipe σ vs) H3 ∧ Reps X.K F3 vacc ac ∧ compL vs g t el (ds.drop (i + 1)) ac ρx = some (acc, ρ2),
              fun H3 ⟨F3, ρy, va, ay, z1, z2, z3, z4⟩ => ⟨ds.length - (i + 1), by omega, F3, ρy, va, ay, z1, z2, z3, hlt, rfl, z4⟩, fun x H' y => ?_⟩
            obtain ⟨F3, q3, q4, tr, rx⟩ := yl x H' y
            split at e4
            · rename_i ρ4 e5
              refine ⟨Fr'.hide p (.lst vacc), F3, ρx, _, ρ4, tr _ _ _ R2, rx, e5, fun F4 H4 σ4 q5 R4 k4 => ⟨wipe_keep k4 hW, ?_⟩⟩
              have hw : wipe σ4 vs = wipe σ vs := wipe_keep k4 hW
              split at e4
              · rename_i ρ5 e6
                split at e4
                · rename_i y ρ6 e7
                  split at e4
                  · rename_i hz
                    refine ⟨_, F4, ρ4, _, _, R4, e6, fun F5 H5 q6 R5 => iteT ⟨_, F5, ρ5, _, _, R5, e7, fun F6 H6 yv q7 R6 ry => ?_⟩⟩
                    have rs6 := rs.mono (((q3.trans q5).trans q6).trans q7)
                    refine ⟨vacc, R6.fr p _ upd_same, by rw [rs.length]; exact hz, F6, wipeR ρ6 vs, vacc ++ [yv], ac ++ [y], (((q2.trans q3).trans q5).trans q6).trans q7, ?_, rs6.append (.cons ry .nil), e4⟩
                    rw [← hw]
                    exact (R6.rehide (u := .lst (vacc ++ [yv]))).wipes vs
                  · cases e4
                · cases e4
              · rename_i ρ5 e6
                refine ⟨_, F4, ρ4, _, _, R4, e6, fun F5 H5 q6 R5 => iteF ⟨F5, wipeR ρ5 vs, vacc, ac, ((q2.trans q3).trans q5).trans q6, ?_, rs.mono ((q3.trans q5).trans q6), e4⟩⟩
                rw [← hw]
                exact R5.wipes vs
              · cases e4
            · cases e4
          · have ei : i = ds.length := by omega
            subst ei
            rw [List.drop_length, compL] at e4
            cases e4
            refine .inl ⟨stop, ?_⟩
            have R3 := R1.back hFr' R2 q2 hb
            have hF2 : F2 p = none := R2.dj p _ upd_same
            have w : ORel X.K Fr' F2 (backR ρ1 ρ2 vs) σ H2 (.ref p) (.tmp (.lst acc)) := by
              refine ⟨p, _, rfl, R2.fr p _ upd_same, .lst rs, hF2, hFr', fun i e z1 z2 => ?_⟩
              rw [backR_get] at z1
              by_cases hi : i ∈ vs
              · rw [if_pos hi] at z1
                split at z1
                · have z3 : ρ1[i]?.getD none = some (.own e) := Option.some.inj z1
                  have z4 : ρ1[i]? = some (some (.own e)) := by
                    cases z : ρ1[i]? with
                    | none => rw [z] at z3; cases z3
                    | some w => rw [z] at z3; exact congrArg some z3
                  have := List.all_eq_true.mp hb i hi
                  rw [z4] at this
                  cases this
                · cases z1
              · rw [if_neg hi] at z1
                obtain ⟨v, ev, a, u, rfl, _, _, _, y5⟩ := R2.slot i _ z1
                rw [wipe_get, if_neg hi, z2] at ev
                cases ev
                have y5 : L2.upd Fr'.h p (.lst vacc) p = none := y5
                rw [upd_same] at y5
                cases y5
            exact k F2 H2 _ (q1.trans q2) (l.open q2 R3 (fun _ _ _ => rfl) e3) (l.orel e3 (fun _ _ _ => rfl) w)
        · cases em
      · cases em
    · cases em
  · cases em
theorem oe_comp {elt iter : Expr} {ifs : List Expr} {scope : Scope} {own : List (Str × Nat)} {L : List Nat} {it : IM} {g : D → Rho → Option Rho} {t : TM} {el : EM} (hc : X.calm = true) (hN : X.N.Nodup) (hi : IE X tg iter L it) (ok : BlkOk X.N X.env.scope scope own)
    (hg : ∀ (s : Shared) (H : Hp) (C : Addr) (cl : List (Str × Addr)) (fp : List Addr), GE (X.blk s H scope (compEnvC scope cl C X.env) fp) tg W g)
    (ht : ∀ (s : Shared) (H : Hp) (C : Addr) (cl : List (Str × Addr)) (fp : List Addr), IfE (X.blk s H scope (compEnvC scope cl C X.env) fp) ifs t)
    (he : ∀ (s : Shared) (H : Hp) (C : Addr) (cl : List (Str × Addr)) (fp : List Addr), OE (X.blk s H scope (compEnvC scope cl C X.env) fp) elt el)
    (hW : ∀ i ∈ W, i ∈ own.map (·.2) := by decide) (hs : ∀ x, foldedSetIterable iter X.env x = pure x := by intro _; rfl) : OE X (.ListComp elt [⟨tg, iter, ifs, 0⟩] scope pos) (compM (own.map (·.2)) it g t (esc el)) :=
  ⟨pe_imp (pe_lc hc hN hi.pi ok (fun s H C cl fp => (hg s H C cl fp).pg) (fun s H C cl fp => (ht s H C cl fp).pts) (fun s H C cl fp => (he s H C cl fp).ve.pe) hs) fun σ H Q h => lc_read (L := L) hW h⟩
theorem se_setComp (i : Nat) {y : Str} {py spos : Pos} {elt iter : Expr} {ifs : List Expr} {scope : Scope} {own : List (Str × Nat)} {L : List Nat} {it : IM} {g : D → Rho → Option Rho} {t : TM} {el : EM} (hc : X.calm = true) (hN : X.N.Nodup) (hi : IE X tg iter L it) (ok : BlkOk X.N X.env.scope scope own)
    (hg : ∀ (s : Shared) (H : Hp) (C : Addr) (cl : List (Str × Addr)) (fp : List Addr), GE (X.blk s H scope (compEnvC scope cl C X.env) fp) tg W g)
    (ht : ∀ (s : Shared) (H : Hp) (C : Addr) (cl : List (Str × Addr)) (fp : List Addr), IfE (X.blk s H scope (compEnvC scope cl C X.env) fp) ifs t)
    (he : ∀ (s : Shared) (H : Hp) (C : Addr) (cl : List (Str × Addr)) (fp : List Addr), OE (X.blk s H scope (compEnvC scope cl C X.env) fp) elt el)
    (hsw : swapsWith (.ListComp elt [⟨tg, iter, ifs, 0⟩] scope pos) (some (.Name y py)) spos.line X.env = pure true)
    (hW : ∀ i ∈ W, i ∈ own.map (·.2) := by decide) (hy : X.N[i]? = some y := by rfl) (hyl : X.env.scope.names.lookup y = some .local := by rfl) (hs : ∀ x, foldedSetIterable iter X.env x = pure x := by intro _; rfl) :
    SE X Wx (.Assign [.Name y py] (.ListComp elt [⟨tg, iter, ifs, 0⟩] scope pos) spos) [i] (setM i (compM (own.map (·.2)) it g t (esc el))) :=
  ⟨ps_imp (ps_setLc hc hN hy hyl hsw hi.pi ok (fun s H C cl fp => (hg s H C cl fp).pg) (fun s H C cl fp => (ht s H C cl fp).pts) (fun s H C cl fp => (he s H C cl fp).ve.pe) hs) fun Dn σ H h => setM_ok (fun Q z => lc_read (L := L) hW z) h⟩
end
end Ev

set_option Elab.async false
set_option linter.all false
set_option maxRecDepth 100000
/-! Ev. G: defs and their calls. -/
set_option autoImplicit false
namespace Ev
open PySem PySem.Spec PyProof.Rows L2

/-- a def: from what its parameters hold to what it hands back, and what the parameters that it changes hold then -/
abbrev Fn := List SV → Option (Opd × Rho)
/-- the promise: np parameters -/
def spF (K : PySem.W.Frag) (fn : Fn) (np : Nat) : Sp := fun vs H Q _ => vs.length = np ∧ ∃ (Fr : Frm) (F : Hp) (args : List SV) (o : Opd) (post : Rho), args.length = np ∧ Rel K Fr F (args.map some) (vs.map some) H ∧ fn args = some (o, post) ∧
  ∀ F' H' v, Same F F' → Rel K Fr F' post (vs.map some) H' → ORel K Fr F' post (vs.map some) H' v o → Q v H'

/-! a def by its body -/
@[simp] def keepIO (io : List Nat) (ρ : Rho) : Nat → Rho
  | 0 => []
  | n + 1 => keepIO io ρ n ++ [if n ∈ io then ρ[n]?.getD none else none]
def retF (np : Nat) (io : List Nat) (o : Opd) (ρ : Rho) : Option (Opd × Rho) := match o with
  | .val d => some (.val d, keepIO io ρ np)
  | .tmp d => some (.tmp d, keepIO io ρ np)
  | .var i => match ρ[i]? with
    | some (some (.own d)) => if np ≤ i then some (.tmp d, keepIO io ρ np) else some (.val d, keepIO io (ρ.set i (some (.val d))) np)
    | some (some (.val d)) => some (.val d, keepIO io ρ np)
    | _ => none
def fnM (np nl : Nat) (io : List Nat) (body : SM) : Fn := fun args => match body (args.map some ++ List.replicate nl none) with
  | some (.rt o, ρ) => retF np io o ρ
  | some (.nx, ρ) => some (.val .non, keepIO io ρ np)
  | _ => none
theorem keepIO_len (io : List Nat) (ρ : Rho) : ∀ n : Nat, (keepIO io ρ n).length = n
  | 0 => rfl
  | n + 1 => by rw [keepIO, List.length_append, keepIO_len io ρ n]; rfl
theorem keepIO_get {io : List Nat} {ρ : Rho} {i : Nat} {sv : SV} : ∀ {n : Nat}, (keepIO io ρ n)[i]? = some (some sv) → i ∈ io ∧ i < n ∧ ρ[i]? = some (some sv)
  | 0, h => by simp [keepIO] at h
  | n + 1, h => by
    rw [keepIO] at h
    by_cases hi : i < n
    · rw [List.getElem?_append_left (by rw [keepIO_len]; exact hi)] at h
      obtain ⟨a, b, c⟩ := keepIO_get h
      exact ⟨a, by omega, c⟩
    · rw [List.getElem?_append_right (by rw [keepIO_len]; omega), keepIO_len] at h
      have hl := some_lt h
      simp only [List.length_singleton] at hl
      have e : i = n := by omega
      subst e
      rw [Nat.sub_self] at h
      have h2 : (if i ∈ io then ρ[i]?.getD none else none) = some sv := Option.some.inj h
      by_cases hm : i ∈ io
      · rw [if_pos hm] at h2
        refine ⟨hm, Nat.lt_succ_self i, ?_⟩
        cases z : ρ[i]? with
        | none => rw [z] at h2; cases h2
        | some w => rw [z] at h2; exact congrArg some h2
      · rw [if_neg hm] at h2; cases h2
section
variable {K : PySem.W.Frag} {Fr : Frm} {F H F' H' : Hp} {ρ ρ' : Rho} {σ : St} {v : V} {o : Opd} {d : D}
theorem Rel.pad (R : Rel K Fr F ρ σ H) (hl : ρ.length = σ.length) (n m : Nat) (hnm : n ≤ m) : Rel K Fr F (ρ ++ List.replicate n none) (σ ++ List.replicate m none) H := by
  have q : ∀ {i : Nat} {sv : SV}, (ρ ++ List.replicate n none)[i]? = some (some sv) → ρ[i]? = some (some sv) ∧ (σ ++ List.replicate m none)[i]? = σ[i]? := fun {i sv} e => by
    by_cases hi : i < ρ.length
    · rw [List.getElem?_append_left hi] at e
      exact ⟨e, List.getElem?_append_left (by omega)⟩
    · rw [List.getElem?_append_right (by omega), List.getElem?_replicate] at e
      split at e <;> cases e
  refine ⟨R.fr, R.f, R.dj, fun i sv e => ?_, fun i j s t e1 e2 x1 x2 e3 => ?_, by simp [hl]; omega⟩
  · obtain ⟨e1, e2⟩ := q e; rw [e2]; exact R.slot i sv e1
  · obtain ⟨z1, y1⟩ := q e1
    obtain ⟨z2, y2⟩ := q e2
    rw [y1, y2] at e3
    exact R.uniq i j s t z1 z2 x1 x2 e3
theorem Rel.keepIO (R : Rel K Fr F ρ σ H) {io : List Nat} {n : Nat} {τ : St} (hτ : ∀ i ∈ io, i < n → σ[i]? = τ[i]?) (hl : n ≤ τ.length) : Rel K Fr F (keepIO io ρ n) τ H := by
  refine ⟨R.fr, R.f, R.dj, fun i sv e => ?_, fun i j s t e1 e2 x1 x2 e3 => ?_, by rw [keepIO_len]; exact hl⟩
  · obtain ⟨h1, h2, h3⟩ := keepIO_get e
    rw [← hτ i h1 h2]; exact R.slot i sv h3
  · obtain ⟨h1, h2, h3⟩ := keepIO_get e1
    obtain ⟨g1, g2, g3⟩ := keepIO_get e2
    rw [← hτ i h1 h2, ← hτ j g1 g2] at e3
    exact R.uniq i j s t h3 g3 x1 x2 e3
theorem ORel.keepIO {io : List Nat} {n : Nat} {τ : St} (hτ : ∀ i ∈ io, i < n → σ[i]? = τ[i]?) (r : ORel K Fr F ρ σ H v (.tmp d)) : ORel K Fr F (Ev.keepIO io ρ n) τ H v (.tmp d) := by
  obtain ⟨a, u, e, h1, h2, h3, h4, h5⟩ := r
  refine ⟨a, u, e, h1, h2, h3, h4, fun i e1 e2 => ?_⟩
  obtain ⟨g1, g2, g3⟩ := keepIO_get e2
  rw [← hτ i g1 g2]
  exact h5 i _ g3
end
section
variable {P : Program} {w : World} {K : PySem.W.Frag} {mg : Str → Option Value} {base : Heap}
/-- THE RULE for a def -/
theorem fn_ok {x qual : Str} {st : Stmt} {f : Addr} {fd : FuncData} {N ps : List Str} {k np nl : Nat} {io : List Nat} {m : SM} (Fu : Fun K x qual st f fd) (S : FnScope N ps (defScope st)) (hnp : ps.length = np) (hnl : np + nl = N.length)
    (hbody : ∀ (cdv : Value) (A : Around) (outer : List PySem.Env) (s : Shared) (H : Hp) (E : XK), Room k (A.deeper (envOfC qual (defScope st) s.heap.objs.size f cdv)) →
      ∃ W, (∀ i ∈ io, i ∉ W) ∧ SsE (cxOf CX0 P w K mg base N qual (defScope st) f cdv A outer s H E).nox (fun _ _ _ _ => False) (defBody st) W m) : FnOk P w K mg base CX0 (k + 1) f fd ps (spF K (fnM np nl io m) np) := by
  refine Fu.ok S (fun vs H Q E h => h.1.trans hnp.symm) (fun cdv A outer s H vs Q E hr h => ?_)
  obtain ⟨W, hio, hb⟩ := hbody cdv A outer s H E hr
  refine ⟨_, hb.pss, ?_⟩
  obtain ⟨hl, Fr, F, args, o, post, ha, R, ef, k⟩ := h
  unfold fnM at ef
  have R0 : Rel K Fr F (args.map some ++ List.replicate nl none) (L2.start N vs) H := by
    unfold L2.start
    exact R.pad (by simp [ha, hl]) _ _ (by omega)
  have gets : ∀ {σ' : St}, Keep W (L2.start N vs) σ' → ∀ i ∈ io, i < np → σ'[i]? = (vs.map some)[i]? := fun kp i hi hn => by
    rw [kp.2 i (hio i hi)]
    unfold L2.start
    rw [List.getElem?_append_left (by simpa [hl] using hn)]
  have lv : np ≤ (vs.map (some : V → Option V)).length := by simp [hl]
  show tS K (fun _ _ _ _ => False) W m _ (L2.start N vs) H
  split at ef
  · rename_i oo ρ1 e1
    refine ⟨Fr, F, _, _, _, R0, e1, fun F1 H1 σ1 q1 R1 k1 v r => ?_⟩
    have g := gets k1
    unfold retF at ef
    split at ef
    · rename_i d
      cases ef
      exact k F1 H1 v q1 (R1.keepIO g lv) r
    · rename_i d
      cases ef
      exact k F1 H1 v q1 (R1.keepIO g lv) (r.keepIO g)
    · rename_i i
      have r : σ1[i]? = some (some v) := r
      split at ef
      · rename_i d e2
        split at ef
        · rename_i hi
          cases ef
          obtain ⟨v', e3, a, u, ev, h1, h2, h3, h4⟩ := R1.slot i _ e2
          rw [r] at e3; cases e3
          refine k F1 H1 v q1 (R1.keepIO g lv) ⟨a, u, ev, h1, h2, h3, h4, fun j e5 e6 e7 => ?_⟩
          obtain ⟨g1, g2, g3⟩ := keepIO_get e6
          have := R1.uniq i j _ _ e2 g3 rfl rfl (by rw [r, g j g1 g2, e7])
          omega
        · cases ef
          obtain ⟨F2, q2, R2, r2⟩ := R1.escO (o := .var i) (v := v) (d := d) (ρ' := ρ1.set i (some (.val d))) r (by
            unfold escO
            simp only [e2])
          exact k F2 H1 v (q1.trans q2) (R2.keepIO g lv) r2
      · rename_i d e2
        cases ef
        obtain ⟨v', e3, h1⟩ := R1.slot i _ e2
        rw [r] at e3; cases e3
        exact k F1 H1 v q1 (R1.keepIO g lv) h1
      · cases ef
  · rename_i ρ1 e1
    cases ef
    exact ⟨Fr, F, _, _, _, R0, e1, fun F1 H1 σ1 q1 R1 k1 => k F1 H1 .non q1 (R1.keepIO (gets k1) lv) .non⟩
  · cases ef
end

/-! a call -/
def argOne (io : Bool) (o : Opd) (ρ : Rho) : Option SV := match o with
  | .val d => if io then none else some (.val d)
  | .var i => match ρ[i]? with
    | some (some (.val d)) => if io then none else some (.val d)
    | some (some (.own d)) => if io then some (.own d) else some (.bor d)
    | some (some (.bor d)) => if io then none else some (.bor d)
    | some (some (.lck d)) => if io then none else some (.bor d)
    | _ => none
  | .tmp _ => none
def argsAll (io : List Nat) (ρ : Rho) : Nat → List Opd → Option (List SV)
  | _, [] => some []
  | k, o :: os => match argOne (decide (k ∈ io)) o ρ with
    | some s => match argsAll io ρ (k + 1) os with
      | some ss => some (s :: ss)
      | none => none
    | none => none
def putBack (io : List Nat) (post : Rho) : Nat → List Opd → Rho → Option Rho
  | _, [], ρ => some ρ
  | k, o :: os, ρ => if k ∈ io then match o, post[k]? with
      | .var i, some (some (.own d)) => putBack io post (k + 1) os (ρ.set i (some (.own d)))
      | .var i, some (some (.val d)) => putBack io post (k + 1) os (ρ.set i (some (.val d)))
      | _, _ => none
    else putBack io post (k + 1) os ρ
/-- the names at the places of io, at the others -/
@[simp] def varsAt (io : List Nat) (b : Bool) : Nat → List Opd → List Nat
  | _, [] => []
  | k, .var i :: os => if decide (k ∈ io) = b then i :: varsAt io b (k + 1) os else varsAt io b (k + 1) os
  | k, _ :: os => varsAt io b (k + 1) os
@[simp] def nodupB : List Nat → Bool
  | [] => true
  | i :: is => !is.contains i && nodupB is
@[simp] def apartB : List Nat → List Nat → Bool
  | [], _ => true
  | i :: is, js => !js.contains i && apartB is js
@[simp] def exclOk (io : List Nat) (os : List Opd) : Bool := nodupB (varsAt io true 0 os) && apartB (varsAt io true 0 os) (varsAt io false 0 os)
def callM (fn : Fn) (io : List Nat) (am : AM) : EM := fun ρ => match am ρ with
  | some (os, ρ1) => if exclOk io os then match argsAll io ρ1 0 os with
    | some svs => match fn svs with
      | some (.val d, post) => match putBack io post 0 os ρ1 with
        | some ρ2 => some (.val d, ρ2)
        | none => none
      | some (.tmp d, post) => match putBack io post 0 os ρ1 with
        | some ρ2 => some (.tmp d, ρ2)
        | none => none
      | _ => none
    | none => none else none
  | none => none

theorem argsAll_get {io : List Nat} {ρ : Rho} : ∀ {k : Nat} {os : List Opd} {svs : List SV}, argsAll io ρ k os = some svs → svs.length = os.length ∧ ∀ p sv, svs[p]? = some sv → ∃ o, os[p]? = some o ∧ argOne (decide (k + p ∈ io)) o ρ = some sv
  | k, [], svs, h => by
    cases h
    exact ⟨rfl, fun p sv e => by simp at e⟩
  | k, o :: os, svs, h => by
    unfold argsAll at h
    split at h
    · rename_i s e1
      split at h
      · rename_i ss e2
        cases h
        obtain ⟨l, ih⟩ := argsAll_get e2
        refine ⟨by simp [l], fun p sv e => ?_⟩
        cases p with
        | zero => simp at e; subst e; exact ⟨o, rfl, e1⟩
        | succ p =>
          obtain ⟨o', g1, g2⟩ := ih p sv (by simpa using e)
          exact ⟨o', by simpa using g1, by rw [show k + (p + 1) = k + 1 + p by omega]; exact g2⟩
      · cases h
    · cases h
theorem putBack_len {io : List Nat} {post : Rho} : ∀ {k : Nat} {os : List Opd} {ρ ρ' : Rho}, putBack io post k os ρ = some ρ' → ρ'.length = ρ.length
  | k, [], ρ, ρ', h => by cases h; rfl
  | k, o :: os, ρ, ρ', h => by
    unfold putBack at h
    split at h
    · split at h
      · rw [putBack_len h, List.length_set]
      · rw [putBack_len h, List.length_set]
      · cases h
    · exact putBack_len h
theorem putBack_get {io : List Nat} {post : Rho} {i : Nat} {sv : SV} : ∀ {k : Nat} {os : List Opd} {ρ ρ' : Rho}, putBack io post k os ρ = some ρ' → ρ'[i]? = some (some sv) →
    (ρ[i]? = some (some sv) ∧ ∀ p, os[p]? = some (.var i) → k + p ∉ io) ∨ ∃ p, os[p]? = some (.var i) ∧ k + p ∈ io ∧ post[k + p]? = some (some sv) ∧ ((∃ d, sv = .own d) ∨ ∃ d, sv = .val d)
  | k, [], ρ, ρ', h, e => by
    cases h
    exact .inl ⟨e, fun p z => by simp at z⟩
  | k, o :: os, ρ, ρ', h, e => by
    have up : (∃ p, os[p]? = some (.var i) ∧ k + 1 + p ∈ io ∧ post[k + 1 + p]? = some (some sv) ∧ ((∃ d, sv = .own d) ∨ ∃ d, sv = .val d)) →
        ∃ p, (o :: os)[p]? = some (.var i) ∧ k + p ∈ io ∧ post[k + p]? = some (some sv) ∧ ((∃ d, sv = .own d) ∨ ∃ d, sv = .val d) := fun ⟨p, z1, z2, z3, z4⟩ =>
      ⟨p + 1, by simpa using z1, by rw [show k + (p + 1) = k + 1 + p by omega]; exact z2, by rw [show k + (p + 1) = k + 1 + p by omega]; exact z3, z4⟩
    unfold putBack at h
    by_cases hk : k ∈ io
    · rw [if_pos hk] at h
      have go : ∀ (i0 : Nat) (out : SV), o = .var i0 → post[k]? = some (some out) → ((∃ d, out = .own d) ∨ ∃ d, out = .val d) → putBack io post (k + 1) os (ρ.set i0 (some out)) = some ρ' →
          (ρ[i]? = some (some sv) ∧ ∀ p, (o :: os)[p]? = some (.var i) → k + p ∉ io) ∨ ∃ p, (o :: os)[p]? = some (.var i) ∧ k + p ∈ io ∧ post[k + p]? = some (some sv) ∧ ((∃ d, sv = .own d) ∨ ∃ d, sv = .val d) := fun i0 out eo ep eo2 h => by
        rcases putBack_get h e with ⟨z1, z2⟩ | z
        · rcases get_set_some z1 with ⟨rfl, z3, _⟩ | ⟨ne, z3⟩
          · cases z3
            exact .inr ⟨0, by rw [eo]; rfl, hk, ep, eo2⟩
          · refine .inl ⟨z3, fun p hp => ?_⟩
            cases p with
            | zero => simp at hp; rw [eo] at hp; cases hp; exact absurd rfl ne
            | succ p => rw [show k + (p + 1) = k + 1 + p by omega]; exact z2 p (by simpa using hp)
        · exact .inr (up z)
      split at h
      · rename_i i0 d ep; exact go i0 _ rfl ep (.inl ⟨d, rfl⟩) h
      · rename_i i0 d ep; exact go i0 _ rfl ep (.inr ⟨d, rfl⟩) h
      · cases h
    · rw [if_neg hk] at h
      rcases putBack_get h e with ⟨z1, z2⟩ | z
      · refine .inl ⟨z1, fun p hp => ?_⟩
        cases p with
        | zero => exact hk
        | succ p => rw [show k + (p + 1) = k + 1 + p by omega]; exact z2 p (by simpa using hp)
      · exact .inr (up z)
theorem varsAt_mem {io : List Nat} {b : Bool} {i : Nat} : ∀ {k : Nat} {os : List Opd} {p : Nat}, os[p]? = some (.var i) → decide (k + p ∈ io) = b → i ∈ varsAt io b k os
  | k, [], p, h, _ => by simp at h
  | k, o :: os, 0, h, hb => by
    simp at h; subst h
    unfold varsAt
    rw [if_pos (by simpa using hb)]
    exact List.mem_cons_self
  | k, o :: os, p + 1, h, hb => by
    have ih := varsAt_mem (k := k + 1) (os := os) (p := p) (by simpa using h) ((congrArg (fun z => decide (z ∈ io)) (show k + 1 + p = k + (p + 1) by omega)).trans hb)
    cases o with
    | var j =>
      unfold varsAt
      split
      · exact List.mem_cons_of_mem _ ih
      · exact ih
    | val d => exact ih
    | tmp d => exact ih
theorem varsAt_one {io : List Nat} {i : Nat} : ∀ {k : Nat} {os : List Opd} {p q : Nat}, nodupB (varsAt io true k os) = true → os[p]? = some (.var i) → os[q]? = some (.var i) → k + p ∈ io → k + q ∈ io → p = q
  | k, [], p, q, _, h, _, _, _ => by simp at h
  | k, o :: os, p, q, hn, h1, h2, m1, m2 => by
    have step : nodupB (varsAt io true (k + 1) os) = true := by
      cases o with
      | var j =>
        unfold varsAt at hn
        split at hn
        · unfold nodupB at hn; rw [Bool.and_eq_true] at hn; exact hn.2
        · exact hn
      | val d => exact hn
      | tmp d => exact hn
    have no : o = .var i → k ∈ io → ∀ r, os[r]? = some (.var i) → k + 1 + r ∈ io → False := fun e hk r z1 z2 => by
      subst e
      unfold varsAt at hn
      rw [if_pos (by simpa using hk)] at hn
      unfold nodupB at hn
      rw [Bool.and_eq_true] at hn
      have := varsAt_mem (io := io) (b := true) (k := k + 1) z1 (by simpa using z2)
      simp [this] at hn
    cases p with
    | zero =>
      cases q with
      | zero => rfl
      | succ q => exact (no (by simpa using h1) m1 q (by simpa using h2) (by rw [show k + 1 + q = k + (q + 1) by omega]; exact m2)).elim
    | succ p =>
      cases q with
      | zero => exact (no (by simpa using h2) m2 p (by simpa using h1) (by rw [show k + 1 + p = k + (p + 1) by omega]; exact m1)).elim
      | succ q =>
        exact congrArg (· + 1) (varsAt_one step (by simpa using h1) (by simpa using h2) (by rw [show k + 1 + p = k + (p + 1) by omega]; exact m1) (by rw [show k + 1 + q = k + (q + 1) by omega]; exact m2))
theorem apartB_of : ∀ {is js : List Nat} {i : Nat}, apartB is js = true → i ∈ is → i ∈ js → False
  | [], _, _, _, h, _ => by simp at h
  | j :: is, js, i, h, h1, h2 => by
    unfold apartB at h
    rw [Bool.and_eq_true] at h
    rcases List.mem_cons.mp h1 with rfl | h1
    · simp [h2] at h
    · exact apartB_of h.2 h1 h2
theorem excl_of {io : List Nat} {os : List Opd} (h : exclOk io os = true) {p q i : Nat} (hp : p ∈ io) (e1 : os[p]? = some (.var i)) (e2 : os[q]? = some (.var i)) : p = q := by
  unfold exclOk at h
  rw [Bool.and_eq_true] at h
  by_cases hq : q ∈ io
  · exact varsAt_one h.1 e1 e2 (by rw [Nat.zero_add]; exact hp) (by rw [Nat.zero_add]; exact hq)
  · exact (apartB_of h.2 (varsAt_mem e1 (by rw [Nat.zero_add]; simpa using hp)) (varsAt_mem e2 (by rw [Nat.zero_add]; simpa using hq))).elim

section
open Classical in
/-- the caller's own objects that the callee is not given to change -/
noncomputable def callFr (Fr : Frm) (ρ : Rho) (σ : St) (H : Hp) (ios : Nat → Prop) : Frm :=
  ⟨fun b => match Fr.h b with
    | some o => some o
    | none => if ∃ i d, ρ[i]? = some (some (.own d)) ∧ ¬ ios i ∧ σ[i]? = some (some (.ref b)) then H b else none, fun _ => False, fun _ h => h.elim⟩
variable {K : PySem.W.Frag} {Fr : Frm} {F H : Hp} {ρ : Rho} {σ : St} {ios : Nat → Prop}
theorem callFr_fr {b : Addr} {o : HO} (h : Fr b = some o) : (callFr Fr ρ σ H ios) b = some o := by
  show (match Fr.h b with | some o => some o | none => _) = some o
  rw [h]
theorem callFr_some (R : Rel K Fr F ρ σ H) {b : Addr} {o : HO} (h : (callFr Fr ρ σ H ios) b = some o) : H b = some o ∧ F b = none := by
  unfold callFr at h
  dsimp only at h
  split at h
  · rename_i u e
    cases h
    exact ⟨R.fr _ _ e, R.dj _ _ e⟩
  · split at h
    · rename_i e hc
      obtain ⟨i, d, e1, _, e2⟩ := hc
      obtain ⟨v, e3, a, u, ev, h1, h2, h3, h4⟩ := R.slot i _ e1
      rw [e2] at e3
      have : v = .ref b := (Option.some.inj (Option.some.inj e3)).symm
      rw [this] at ev
      cases ev
      exact ⟨h, h3⟩
    · cases h
theorem callFr_own {i : Nat} {d : D} {b : Addr} (e : ρ[i]? = some (some (.own d))) (hi : ¬ ios i) (hs : σ[i]? = some (some (.ref b))) (hF : Fr b = none) : (callFr Fr ρ σ H ios) b = H b := by
  show (match Fr.h b with | some o => some o | none => _) = H b
  rw [hF]
  exact if_pos ⟨i, d, e, hi, hs⟩
theorem callFr_io (R : Rel K Fr F ρ σ H) {i : Nat} {d : D} {b : Addr} (e : ρ[i]? = some (some (.own d))) (hi : ios i) (hs : σ[i]? = some (some (.ref b))) (hF : Fr b = none) : (callFr Fr ρ σ H ios) b = none := by
  show (match Fr.h b with | some o => some o | none => _) = none
  rw [hF]
  refine if_neg fun ⟨j, d', e1, e2, e3⟩ => ?_
  have := R.uniq i j _ _ e e1 rfl rfl (by rw [hs, e3])
  subst this
  exact e2 hi
end

section
variable {X : Cx} {e : Expr} {es : List Expr} {am : AM} {fn : Fn} {io : List Nat} {np k : Nat}
theorem nrel_get {K : PySem.W.Frag} {F : Hp} {σ : St} : ∀ {vs : List V} {os : List Opd} {p : Nat} {o : Opd}, NRels K F σ vs os → os[p]? = some o → ∃ v, vs[p]? = some v ∧ NRel K F σ v o
  | _, _, _, _, .nil, e => by simp at e
  | _, _, 0, _, .cons h _, e => by simp at e; subst e; exact ⟨_, rfl, h⟩
  | _, _, p + 1, o, .cons _ r, e => by
    obtain ⟨v, h1, h2⟩ := nrel_get (p := p) (o := o) r (by simpa using e)
    exact ⟨v, by simpa using h1, h2⟩
theorem call_core {σ : St} {H1 : Hp} {Q : VK} {E : XK} {Fr : Frm} {F1 : Hp} {ρ1 ρ' : Rho} {os : List Opd} {vs : List V} {svs : List SV} {o : Opd} {post : Rho} (R1 : Rel X.K Fr F1 ρ1 σ H1) (rs : NRels X.K F1 σ vs os) (hlen : os.length = np) (hx : exclOk io os = true) (e2 : argsAll io ρ1 0 os = some svs)
    (e3 : fn svs = some (o, post)) (hvar : ∀ i, o ≠ .var i) (e4 : putBack io post 0 os ρ1 = some ρ') (kk : ∀ F' H' v, Same F1 F' → Rel X.K Fr F' ρ' σ H' → ORel X.K Fr F' ρ' σ H' v o → Q v H') : spF X.K fn np vs H1 Q E := by
  have hvl : vs.length = os.length := Paired.length rs
  obtain ⟨svl, sget⟩ := argsAll_get e2
  let ios : Nat → Prop := fun i => ∃ p, p ∈ io ∧ os[p]? = some (.var i)
  -- a position's operand and value
  have opd : ∀ {p : Nat} {sv : SV}, svs[p]? = some sv → ∃ o v, os[p]? = some o ∧ vs[p]? = some v ∧ NRel X.K F1 σ v o ∧ argOne (decide (p ∈ io)) o ρ1 = some sv := fun {p sv} z => by
    obtain ⟨o, g1, g2⟩ := sget p sv z
    obtain ⟨v, g3, g4⟩ := nrel_get rs g1
    exact ⟨o, v, g1, g3, g4, by rw [Nat.zero_add] at g2; exact g2⟩
  -- an object handed over: its name
  have obj : ∀ {p : Nat} {sv : SV}, svs[p]? = some sv → sv.ob = true → ∃ i v t, os[p]? = some (.var i) ∧ vs[p]? = some v ∧ σ[i]? = some (some v) ∧ ρ1[i]? = some (some t) ∧ t.ob = true ∧ (sv.ex = true → t.ex = true ∧ p ∈ io ∧ ∃ d, t = .own d ∧ sv = .own d) ∧ (sv.ex = false → p ∉ io ∧ sv = .bor t.d) := fun {p sv} z hob => by
    obtain ⟨o, v, g1, g2, g3, g4⟩ := opd z
    cases o with
    | val d =>
      unfold argOne at g4
      dsimp only at g4
      split at g4
      · cases g4
      · cases g4; cases hob
    | tmp d => cases g4
    | var i =>
      unfold argOne at g4
      dsimp only at g4
      by_cases hp : p ∈ io
      · simp only [hp, decide_true, if_true] at g4
        split at g4
        · cases g4
        · rename_i d e5; cases g4; exact ⟨i, v, _, g1, g2, g3, e5, rfl, fun _ => ⟨rfl, hp, d, rfl, rfl⟩, fun z => by cases z⟩
        · cases g4
        · cases g4
        · cases g4
      · simp only [hp, decide_false, Bool.false_eq_true, if_false] at g4
        split at g4
        · cases g4; cases hob
        · rename_i d e5; cases g4; exact ⟨i, v, _, g1, g2, g3, e5, rfl, fun z => (by cases z), fun _ => ⟨hp, rfl⟩⟩
        · rename_i d e5; cases g4; exact ⟨i, v, _, g1, g2, g3, e5, rfl, fun z => (by cases z), fun _ => ⟨hp, rfl⟩⟩
        · rename_i d e5; cases g4; exact ⟨i, v, _, g1, g2, g3, e5, rfl, fun z => (by cases z), fun _ => ⟨hp, rfl⟩⟩
        · cases g4
  have R2 : Rel X.K (callFr Fr ρ1 σ H1 ios) F1 (svs.map some) (vs.map some) H1 := by
    have un : ∀ {p : Nat} {sv : SV}, (svs.map some)[p]? = some (some sv) → svs[p]? = some sv := fun {p sv} z => by
      rw [List.getElem?_map] at z
      cases y : svs[p]? with
      | none => rw [y] at z; cases z
      | some s => rw [y] at z; exact Option.some.inj z
    refine ⟨fun b u z => (callFr_some R1 z).1, R1.f, fun b u z => (callFr_some R1 z).2, fun p sv z => ?_, fun p q s t z1 z2 x1 x2 z3 => ?_, by simp [svl, hvl]⟩
    · have z' := un z
      obtain ⟨o, v, g1, g2, g3, g4⟩ := opd z'
      refine ⟨v, by rw [List.getElem?_map, g2]; rfl, ?_⟩
      by_cases hob : sv.ob = true
      · obtain ⟨i, v', t, y1, y2, y3, y4, y5, y6, y7⟩ := obj z' hob
        rw [g2] at y2; cases y2
        obtain ⟨v2, e5, s⟩ := R1.slot i t y4
        rw [y3] at e5; cases e5
        by_cases hex : sv.ex = true
        · obtain ⟨_, hp, d, rfl, rfl⟩ := y6 hex
          obtain ⟨a, u, ev, h1, h2, h3, h4⟩ := s
          exact ⟨a, u, ev, h1, h2, h3, callFr_io R1 y4 ⟨p, hp, y1⟩ (by rw [y3, ev]) h4⟩
        · obtain ⟨hp, rfl⟩ := y7 (by simpa using hex)
          cases t with
          | val d => cases y5
          | own d =>
            obtain ⟨a, u, ev, h1, h2, h3, h4⟩ := s
            refine ⟨a, u, ev, ⟨?_, fun z => z⟩, h2⟩
            rw [callFr_own y4 (fun ⟨p', hp', y'⟩ => hp (by rw [← excl_of hx hp' y' y1]; exact hp')) (by rw [y3, ev]) h4]
            exact h1
          | bor d => obtain ⟨a, u, ev, h1, h2⟩ := s; exact ⟨a, u, ev, ⟨callFr_fr h1.1, fun z => z⟩, h2⟩
          | lck d => obtain ⟨a, u, ev, h1, h2⟩ := s; exact ⟨a, u, ev, ⟨callFr_fr h1.1, fun z => z⟩, h2⟩
      · cases sv with
        | own d => exact absurd rfl hob
        | bor d => exact absurd rfl hob
        | lck d => exact absurd rfl hob
        | val d =>
          cases o with
          | val d' =>
            unfold argOne at g4
            dsimp only at g4
            split at g4
            · cases g4
            · cases g4; exact g3
          | tmp d' => cases g4
          | var i =>
            obtain ⟨vv, e5, s⟩ : ∃ vv, σ[i]? = some (some vv) ∧ Rep X.K F1 vv d := by
              unfold argOne at g4
              dsimp only at g4
              split at g4
              · rename_i d' e5
                split at g4
                · cases g4
                · cases g4; exact R1.slot i _ e5
              · split at g4 <;> cases g4
              · split at g4 <;> cases g4
              · split at g4 <;> cases g4
              · cases g4
            have g3 : σ[i]? = some (some v) := g3
            rw [g3] at e5; cases e5
            exact s
    · have z1' := un z1
      have z2' := un z2
      have hob1 : s.ob = true := by cases s <;> first | rfl | cases x1
      obtain ⟨i, v1, t1, y1, y2, y3, y4, y5, y6, _⟩ := obj z1' hob1
      obtain ⟨j, v2, t2, w1, w2, w3, w4, w5, _, _⟩ := obj z2' x2
      obtain ⟨hex, hp, _⟩ := y6 x1
      have e5 : v1 = v2 := by
        rw [List.getElem?_map, List.getElem?_map, y2, w2] at z3
        exact Option.some.inj (Option.some.inj z3)
      subst e5
      have := R1.uniq i j t1 t2 y4 w4 hex w5 (by rw [y3, w3])
      subst this
      exact excl_of hx hp y1 w1
  refine ⟨by rw [hvl, hlen], callFr Fr ρ1 σ H1 ios, F1, svs, o, post, by rw [svl, hlen], R2, e3, fun F2 H2 v q2 R3 r => ?_⟩
  have vget : ∀ {p i : Nat}, os[p]? = some (.var i) → σ[i]? = (vs.map some)[p]? := fun {p i} z => by
    obtain ⟨v, g1, g2⟩ := nrel_get rs z
    rw [List.getElem?_map, g1]
    exact g2
  -- what stood at a changed name before
  have was : ∀ {p i : Nat}, p ∈ io → os[p]? = some (.var i) → ∃ d, ρ1[i]? = some (some (.own d)) := fun {p i} hp z => by
    obtain ⟨sv, g1⟩ : ∃ sv, svs[p]? = some sv := ⟨svs[p]'(by rw [svl]; exact some_lt z), List.getElem?_eq_getElem _⟩
    obtain ⟨o', v', g2, g3, g4, g5⟩ := opd g1
    rw [z] at g2; cases g2
    unfold argOne at g5
    dsimp only at g5
    simp only [hp, decide_true, if_true] at g5
    split at g5
    · cases g5
    · rename_i d e5; exact ⟨d, e5⟩
    · cases g5
    · cases g5
    · cases g5
  have R4 : Rel X.K Fr F2 ρ' σ H2 := by
    refine ⟨fun b u z => R3.fr b u (callFr_fr z), R3.f, fun b u z => R3.dj b u (callFr_fr z), fun i sv z => ?_, fun i j s t z1 z2 x1 x2 z3 => ?_, by rw [putBack_len e4]; exact R1.len⟩
    · rcases putBack_get e4 z with ⟨z1, z2⟩ | ⟨p, z1, z2, z3, z4⟩
      · obtain ⟨v, e5, s⟩ := R1.slot i sv z1
        refine ⟨v, e5, ?_⟩
        cases sv with
        | val d => exact Rep.mono q2 s
        | bor d => obtain ⟨a, u, ev, h1, h2⟩ := s; exact ⟨a, u, ev, h1, h2.mono q2⟩
        | lck d => obtain ⟨a, u, ev, h1, h2⟩ := s; exact ⟨a, u, ev, h1, h2.mono q2⟩
        | own d =>
          obtain ⟨a, u, ev, h1, h2, h3, h4⟩ := s
          have hf : (callFr Fr ρ1 σ H1 ios) a = some u := by
            rw [callFr_own z1 (fun ⟨p', hp', y'⟩ => z2 p' y' (by rw [Nat.zero_add]; exact hp')) (by rw [e5, ev]) h4]
            exact h1
          exact ⟨a, u, ev, R3.fr _ _ hf, h2.mono q2, R3.dj _ _ hf, h4⟩
      · rw [Nat.zero_add] at z2 z3
        obtain ⟨v, e5, s⟩ := R3.slot p sv z3
        refine ⟨v, by rw [vget z1]; exact e5, ?_⟩
        rcases z4 with ⟨d, rfl⟩ | ⟨d, rfl⟩
        · obtain ⟨a, u, ev, h1, h2, h3, h4⟩ := s
          refine ⟨a, u, ev, h1, h2, h3, ?_⟩
          cases y : Fr.h a with
          | none => rfl
          | some u' => rw [callFr_fr y] at h4; cases h4
        · exact s
    · have old : ∀ {i : Nat} {s : SV}, ρ'[i]? = some (some s) → ∃ t, ρ1[i]? = some (some t) ∧ (s.ex = true → t.ex = true) ∧ (s.ob = true → t.ob = true) := fun {i s} z => by
        rcases putBack_get e4 z with ⟨z1, _⟩ | ⟨p, z1, z2, z3, z4⟩
        · exact ⟨s, z1, id, id⟩
        · rw [Nat.zero_add] at z2
          obtain ⟨d, e5⟩ := was z2 z1
          exact ⟨_, e5, fun _ => rfl, fun _ => rfl⟩
      obtain ⟨t1, g1, g2, _⟩ := old z1
      obtain ⟨t2, g3, _, g4⟩ := old z2
      exact R1.uniq i j t1 t2 g1 g3 (g2 x1) (g4 x2) z3
  refine kk F2 H2 v q2 R4 ?_
  cases o with
  | val d => exact r
  | var i => exact absurd rfl (hvar i)
  | tmp d =>
    obtain ⟨a, u, ev, h1, h2, h3, h4, h5⟩ := r
    have hFr : Fr a = none := by
      cases y : Fr.h a with
      | none => rfl
      | some u' => rw [callFr_fr y] at h4; cases h4
    refine ⟨a, u, ev, h1, h2, h3, hFr, fun i d' z z5 => ?_⟩
    rcases putBack_get e4 z with ⟨z1, z2⟩ | ⟨p, z1, z2, z3, z4⟩
    · obtain ⟨v', e5, b, u', ev', y1, y2, y3, y4⟩ := R1.slot i _ z1
      rw [z5] at e5
      have : v' = v := (Option.some.inj (Option.some.inj e5)).symm
      rw [this, ev] at ev'
      cases ev'
      rw [callFr_own z1 (fun ⟨p', hp', y'⟩ => z2 p' y' (by rw [Nat.zero_add]; exact hp')) (by rw [z5, ev]) y4, y1] at h4
      cases h4
    · rw [Nat.zero_add] at z2 z3
      exact h5 p d' z3 (by rw [← vget z1]; exact z5)
theorem call_read {σ : St} {H : Hp} {Q : VK} {E : XK} (h : tE X.K (callM fn io am) σ H Q) (hn : ∀ ρ os ρ', am ρ = some (os, ρ') → os.length = np) : tCall (spF X.K fn np) [] E (tA X.K am) σ H Q := by
  obtain ⟨Fr, F, ρ, o, ρ', R, em, kk⟩ := h
  unfold callM at em
  split at em
  · rename_i os ρ1 e1
    split at em
    · rename_i hx
      split at em
      · rename_i svs e2
        have main : ∀ (o : Opd) (post : Rho), fn svs = some (o, post) → (∀ i, o ≠ .var i) → putBack io post 0 os ρ1 = some ρ' → (∀ F' H' v, Same F F' → Rel X.K Fr F' ρ' σ H' → ORel X.K Fr F' ρ' σ H' v o → Q v H') →
            tCall (spF X.K fn np) [] E (tA X.K am) σ H Q := fun o post e3 hvar e4 kk => by
          refine ⟨Fr, F, ρ, os, ρ1, R, e1, fun F1 H1 vs q1 R1 rs => ?_⟩
          dsimp only
          rw [List.append_nil]
          exact call_core R1 rs (hn _ _ _ e1) hx e2 e3 hvar e4 fun F2 H2 v q2 R4 r => kk F2 H2 v (q1.trans q2) R4 r
        split at em
        · rename_i d post e3
          split at em
          · rename_i ρ2 e4
            cases em
            exact main _ post e3 (fun i z => nomatch z) e4 kk
          · cases em
        · rename_i d post e3
          split at em
          · rename_i ρ2 e4
            cases em
            exact main _ post e3 (fun i z => nomatch z) e4 kk
          · cases em
        · cases em
      · cases em
    · cases em
  · cases em
/-- how many operands -/
theorem nilA_len {ρ ρ' : Rho} {os : List Opd} (h : nilA ρ = some (os, ρ')) : os.length = 0 := by cases h; rfl
theorem consA_len {n : Nat} {m : EM} {r : AM} (hr : ∀ ρ os ρ', r ρ = some (os, ρ') → os.length = n) : ∀ ρ os ρ', consA m r ρ = some (os, ρ') → os.length = n + 1 := fun ρ os ρ' h => by
  unfold consA at h
  split at h
  · split at h
    · rename_i e; cases h; simp [hr _ _ _ e]
    · cases h
  · cases h
theorem oe_call {f : Addr} {fd : FuncData} {ps : List Str} {x : Str} {p pos : Pos} (Fo : FnOk X.prog X.w X.K X.mg X.base CX0 k f fd ps (spF X.K fn np)) (hr : Room k X.A) (hm : X.mg x = some (.ref f)) (hk : PySem.W.keepIn X.K (.ref f) = true) (hb : Binds X.K fd ps [])
    (ha : AE X (e :: es) am) (hn : ∀ ρ os ρ', am ρ = some (os, ρ') → os.length = np) (hg : Gl X x := by rfl) (hdb : (x == ("__debug__" : Str)) = false := by decide) (he : starEach (e :: es) X.env = (false, eval e X.env) :: starEach es X.env := by rfl) (hpl : (backTo pos (starEach es X.env)).any (·.1) = false := by rfl) :
    OE X (.Call (.Name x p) (e :: es) [] pos) (callM fn io am) :=
  ⟨pe_imp (pe_call Fo hr hg hm hk hb .nil pass0 ha.pa hdb he hpl) fun σ H Q h => call_read h hn⟩
/-- a def that a caller may call -/
structure Callee (P : Program) (w : World) (K : PySem.W.Frag) (mg : Str → Option Value) (base : Heap) (k : Nat) (x : Str) (np : Nat) (fn : Fn) : Prop where
  ex : ∃ f fd ps, FnOk P w K mg base CX0 k f fd ps (spF K fn np) ∧ mg x = some (.ref f) ∧ PySem.W.keepIn K (.ref f) = true ∧ Binds K fd ps []
theorem oe_callC {x : Str} {p pos : Pos} (c : Callee X.prog X.w X.K X.mg X.base k x np fn) (hr : Room k X.A) (ha : AE X (e :: es) am) (hn : ∀ ρ os ρ', am ρ = some (os, ρ') → os.length = np) (hg : Gl X x := by rfl) (hdb : (x == ("__debug__" : Str)) = false := by decide)
    (he : starEach (e :: es) X.env = (false, eval e X.env) :: starEach es X.env := by rfl) (hpl : (backTo pos (starEach es X.env)).any (·.1) = false := by rfl) : OE X (.Call (.Name x p) (e :: es) [] pos) (callM fn io am) := by
  obtain ⟨f, fd, ps, F, hm, hk, hb⟩ := c.ex
  exact oe_call F hr hm hk hb ha hn hg hdb he hpl
theorem room64 {k : Nat} {A : Around} (r : Room k A) : A.units + 64 < cLine := by have := r.un; omega
end
end Ev

set_option Elab.async false
set_option linter.all false
set_option maxRecDepth 100000
/-! Ev. H: built-ins, methods of lists. -/
set_option autoImplicit false
namespace Ev
open PySem PySem.Spec PyProof.Rows L2

abbrev Viws (K : PySem.W.Frag) (F H : Hp) : List V → List D → Prop := Paired (Viw K F H)
def CalS (X : Cx) (r : List V → Hp → VK → Prop) (g : List D → Option Opd) : Prop :=
  ∀ {Fr : Frm} {F H : Hp} {ρ : Rho} {σ : St} {vs : List V} {ds : List D} {o : Opd} {Q : VK}, Rel X.K Fr F ρ σ H → Viws X.K F H vs ds → g ds = some o → After X.K Fr F ρ σ o Q → r vs H Q
def biM (g : List D → Option Opd) (am : AM) : EM := fun ρ => match am ρ with
  | some (os, ρ') => match looks os ρ' with
    | some ds => match g ds with
      | some o => some (o, ρ')
      | none => none
    | none => none
  | none => none
theorem looks_viw {K : PySem.W.Frag} {Fr : Frm} {F H : Hp} {ρ : Rho} {σ : St} (R : Rel K Fr F ρ σ H) : ∀ {vs : List V} {os : List Opd} {ds : List D}, NRels K F σ vs os → looks os ρ = some ds → Viws K F H vs ds
  | _, _, _, .nil, e => by cases e; exact .nil
  | _, _, _, .cons h r, e => by
    unfold looks at e
    split at e
    · rename_i d e1
      split at e
      · rename_i ds e2
        cases e
        exact .cons (NRel.look R h e1) (looks_viw R r e2)
      · cases e
    · cases e
theorem bi_read {X : Cx} {r : List V → Hp → VK → Prop} {g : List D → Option Opd} {am : AM} (hs : CalS X r g) {σ : St} {H : Hp} {Q : VK} (h : tE X.K (biM g am) σ H Q) : tCB r (tA X.K am) σ H Q := by
  obtain ⟨Fr, F, ρ, o, ρ', R, em, k⟩ := h
  unfold biM at em
  split at em
  · rename_i os ρ1 e1
    split at em
    · rename_i ds e2
      split at em
      · rename_i o' e3
        cases em
        exact ⟨Fr, F, ρ, _, _, R, e1, fun F1 H1 vs q1 R1 rs => hs R1 (looks_viw R1 rs e2) e3 fun F2 H2 v q2 R2 r2 => k F2 H2 v (q1.trans q2) R2 r2⟩
      · cases em
    · cases em
  · cases em
section
variable {X : Cx} {x : Str} {p pos : Pos} {e : Expr} {es : List Expr} {id T : String} {r : List V → Hp → VK → Prop} {g : List D → Option Opd} {am : AM}
theorem oe_bi (hc : CallR X (.builtin id) r) (hs : CalS X r g) (ha : AE X (e :: es) am) (hm : X.mg x = none) (hv : bootBuiltins x = some (.builtin id)) (hg : Gl X x := by rfl) (hn : x ≠ "__name__" := by decide) (hdb : (x == ("__debug__" : Str)) = false := by decide)
    (he : starEach (e :: es) X.env = (false, eval e X.env) :: starEach es X.env := by rfl) (hpl : (backTo pos (starEach es X.env)).any (·.1) = false := by rfl) : OE X (.Call (.Name x p) (e :: es) [] pos) (biM g am) :=
  ⟨pe_imp (pe_callB hc hg hm hv ha.pa hn hdb he hpl) fun _ _ _ => bi_read hs⟩
theorem oe_ty (hc : CallR X (.type T) r) (hs : CalS X r g) (ha : AE X (e :: es) am) (hm : X.mg x = none) (hv : bootBuiltins x = some (.type T)) (hg : Gl X x := by rfl) (hn : x ≠ "__name__" := by decide) (hdb : (x == ("__debug__" : Str)) = false := by decide)
    (he : starEach (e :: es) X.env = (false, eval e X.env) :: starEach es X.env := by rfl) (hpl : (backTo pos (starEach es X.env)).any (·.1) = false := by rfl) : OE X (.Call (.Name x p) (e :: es) [] pos) (biM g am) :=
  ⟨pe_imp (pe_callTy hc hg hm hv ha.pa hn hdb he hpl) fun _ _ _ => bi_read hs⟩
end
theorem vw1 {K : PySem.W.Frag} {F H : Hp} {vs : List V} {d : D} (h : Viws K F H vs [d]) : ∃ v, vs = [v] ∧ Viw K F H v d := by
  cases h with
  | cons h r => cases r; exact ⟨_, rfl, h⟩
theorem vw2 {K : PySem.W.Frag} {F H : Hp} {vs : List V} {d e : D} (h : Viws K F H vs [d, e]) : ∃ v w, vs = [v, w] ∧ Viw K F H v d ∧ Viw K F H w e := by
  cases h with
  | cons h r =>
    cases r with
    | cons h2 r => cases r; exact ⟨_, _, rfl, h, h2⟩

/-! ints and truth values out of items -/
def intsOf : List D → Option (List Int)
  | [] => some []
  | .int i :: ds => match intsOf ds with
    | some is => some (i :: is)
    | none => none
  | _ :: _ => none
def bolsOf : List D → Option (List Bool)
  | [] => some []
  | .bl i :: ds => match bolsOf ds with
    | some is => some (i :: is)
    | none => none
  | _ :: _ => none
theorem intsOf_eq : ∀ {ds : List D} {ns : List Int}, intsOf ds = some ns → ds = ns.map D.int
  | [], ns, h => by cases h; rfl
  | d :: ds, ns, h => by
    unfold intsOf at h
    split at h
    · rename_i z; cases z
    · rename_i i ds' z
      cases z
      split at h
      · rename_i is e; cases h; rw [intsOf_eq e]; rfl
      · cases h
    · cases h
theorem bolsOf_eq : ∀ {ds : List D} {ns : List Bool}, bolsOf ds = some ns → ds = ns.map D.bl
  | [], ns, h => by cases h; rfl
  | d :: ds, ns, h => by
    unfold bolsOf at h
    split at h
    · rename_i z; cases z
    · rename_i i ds' z
      cases z
      split at h
      · rename_i is e; cases h; rw [bolsOf_eq e]; rfl
      · cases h
    · cases h
theorem intsOf_map : ∀ ns : List Int, intsOf (ns.map D.int) = some ns
  | [] => rfl
  | n :: ns => by simp [intsOf, intsOf_map ns]
theorem bolsOf_map : ∀ ns : List Bool, bolsOf (ns.map D.bl) = some ns
  | [] => rfl
  | n :: ns => by simp [bolsOf, bolsOf_map ns]
/-- the items of a list (no tuple) -/
def listD : D → Option (List D)
  | .lst xs => some xs
  | .rol xs => some xs
  | _ => none
theorem Viw.list {K : PySem.W.Frag} {F H : Hp} {v : V} {d : D} {ds : List D} (s : Same F H) (h : Viw K F H v d) (e : listD d = some ds) : ∃ a vs, v = .ref a ∧ SqL K H a vs ∧ Reps K F vs ds := by
  cases d <;> cases e
  · obtain ⟨a, vs, e1, q, r⟩ := h.lst s; exact ⟨a, vs, e1, SqL.of q, r⟩
  · obtain ⟨a, vs, e1, q, r⟩ := h.rol s; exact ⟨a, vs, e1, q, r⟩

section
variable {X : Cx}
/-- len -/
def lenG : List D → Option Opd
  | [.str s] => if s.length ≤ sizeLine then some (.val (.int s.length)) else none
  | [d] => match seqD d with
    | some ds => some (.val (.int ds.length))
    | none => none
  | _ => none
theorem cs_len : CalS X (fun xs H Q => ∃ x n, xs = [x] ∧ LenV X.K x H n ∧ Q (.int n) H) lenG := by
  intro Fr F H ρ σ vs ds o Q R hv g k
  unfold lenG at g
  split at g
  · rename_i s
    split at g
    · rename_i hs
      cases g
      obtain ⟨v, rfl, w⟩ := vw1 hv
      cases w.str
      exact ⟨_, s.length, rfl, ⟨hs, rfl⟩, after_val R (.int _) k⟩
    · cases g
  · split at g
    · rename_i d hne ds' e
      cases g
      obtain ⟨v, rfl, w⟩ := vw1 hv
      obtain ⟨a, vs, rfl, q, r⟩ := w.seq R.f e
      refine ⟨_, ds'.length, rfl, ?_, after_val R (.int _) k⟩
      rcases q with q | q
      · exact .inl ⟨vs, q, r.length.symm⟩
      · exact .inr ⟨vs, q, r.length.symm⟩
    · cases g
  · cases g
/-- int(n), int(a truth value) -/
def intFG : List D → Option Opd
  | [.int i] => some (.val (.int i))
  | [.bl b] => some (.val (.int (if b then 1 else 0)))
  | _ => none
theorem cs_int : CalS X (fun xs H Q => (∃ i, xs = [.int i] ∧ Q (.int i) H) ∨ ∃ k, xs = [.bl k] ∧ Q (.int (if k then 1 else 0)) H) intFG := by
  intro Fr F H ρ σ vs ds o Q R hv g k
  unfold intFG at g
  split at g
  · rename_i i
    cases g
    obtain ⟨v, rfl, w⟩ := vw1 hv
    cases w.int
    exact .inl ⟨i, rfl, after_val R (.int _) k⟩
  · rename_i b
    cases g
    obtain ⟨v, rfl, w⟩ := vw1 hv
    cases w.bl
    exact .inr ⟨b, rfl, after_val R (.int _) k⟩
  · cases g
/-- abs, and of two ints min, max -/
def absG : List D → Option Opd
  | [.int i] => some (.val (.int (if i < 0 then -i else i)))
  | _ => none
theorem cs_abs : CalS X (fun xs H Q => ∃ i, xs = [.int i] ∧ Q (.int (if i < 0 then -i else i)) H) absG := by
  intro Fr F H ρ σ vs ds o Q R hv g k
  unfold absG at g
  split at g
  · rename_i i
    cases g
    obtain ⟨v, rfl, w⟩ := vw1 hv
    cases w.int
    exact ⟨i, rfl, after_val R (.int _) k⟩
  · cases g
/-- sum, any, all, max, min of a list -/
def sumG : List D → Option Opd
  | [d] => match listD d with
    | some ds => match intsOf ds with
      | some ns => some (.val (.int ns.sum))
      | none => none
    | none => none
  | _ => none
theorem cs_sum : CalS X (rSum X.K) sumG := by
  intro Fr F H ρ σ vs ds o Q R hv g k
  unfold sumG at g
  split at g
  · rename_i d
    split at g
    · rename_i ds' e1
      split at g
      · rename_i ns e2
        cases g
        obtain ⟨v, rfl, w⟩ := vw1 hv
        obtain ⟨a, vs, rfl, q, r⟩ := w.list R.f e1
        rw [intsOf_eq e2] at r
        rw [r.ints] at q
        exact ⟨a, ns, rfl, q, after_val R (.int _) k⟩
      · cases g
    · cases g
  · cases g
def boolsG (f : List Bool → Bool) : List D → Option Opd
  | [d] => match listD d with
    | some ds => match bolsOf ds with
      | some ns => some (.val (.bl (f ns)))
      | none => none
    | none => none
  | _ => none
abbrev anyG := boolsG fun bs => bs.any id
abbrev allG := boolsG fun bs => bs.all id
theorem cs_any : CalS X (rAny X.K) anyG := by
  intro Fr F H ρ σ vs ds o Q R hv g k
  unfold anyG boolsG at g
  split at g
  · rename_i d
    split at g
    · rename_i ds' e1
      split at g
      · rename_i ns e2
        cases g
        obtain ⟨v, rfl, w⟩ := vw1 hv
        obtain ⟨a, vs, rfl, q, r⟩ := w.list R.f e1
        rw [bolsOf_eq e2] at r
        rw [r.bls] at q
        exact ⟨a, ns, rfl, q, after_val R (.bl _) k⟩
      · cases g
    · cases g
  · cases g
theorem cs_all : CalS X (rAll X.K) allG := by
  intro Fr F H ρ σ vs ds o Q R hv g k
  unfold allG boolsG at g
  split at g
  · rename_i d
    split at g
    · rename_i ds' e1
      split at g
      · rename_i ns e2
        cases g
        obtain ⟨v, rfl, w⟩ := vw1 hv
        obtain ⟨a, vs, rfl, q, r⟩ := w.list R.f e1
        rw [bolsOf_eq e2] at r
        rw [r.bls] at q
        exact ⟨a, ns, rfl, q, after_val R (.bl _) k⟩
      · cases g
    · cases g
  · cases g
def maxI : List Int → Option Int
  | [] => none
  | n :: ns => some (ns.foldl max n)
def minI : List Int → Option Int
  | [] => none
  | n :: ns => some (ns.foldl min n)
theorem foldl_max : ∀ (ns : List Int) (n : Int), n ≤ ns.foldl max n ∧ (∀ x ∈ ns, x ≤ ns.foldl max n) ∧ (ns.foldl max n = n ∨ ns.foldl max n ∈ ns)
  | [], n => ⟨Int.le_refl _, fun x h => (by cases h), .inl rfl⟩
  | m :: ns, n => by
    obtain ⟨h1, h2, h3⟩ := foldl_max ns (max n m)
    have hn : n ≤ max n m := by omega
    have hm : m ≤ max n m := by omega
    refine ⟨Int.le_trans hn h1, fun x hx => ?_, ?_⟩
    · rcases List.mem_cons.mp hx with rfl | hx
      · exact Int.le_trans hm h1
      · exact h2 x hx
    · rcases h3 with h3 | h3
      · rw [List.foldl_cons, h3]
        by_cases q : n ≤ m
        · right; rw [show max n m = m by omega]; exact List.mem_cons_self
        · left; omega
      · exact .inr (List.mem_cons_of_mem _ h3)
theorem foldl_min : ∀ (ns : List Int) (n : Int), ns.foldl min n ≤ n ∧ (∀ x ∈ ns, ns.foldl min n ≤ x) ∧ (ns.foldl min n = n ∨ ns.foldl min n ∈ ns)
  | [], n => ⟨Int.le_refl _, fun x h => (by cases h), .inl rfl⟩
  | m :: ns, n => by
    obtain ⟨h1, h2, h3⟩ := foldl_min ns (min n m)
    have hn : min n m ≤ n := by omega
    have hm : min n m ≤ m := by omega
    refine ⟨Int.le_trans h1 hn, fun x hx => ?_, ?_⟩
    · rcases List.mem_cons.mp hx with rfl | hx
      · exact Int.le_trans h1 hm
      · exact h2 x hx
    · rcases h3 with h3 | h3
      · rw [List.foldl_cons, h3]
        by_cases q : n ≤ m
        · left; omega
        · right; rw [show min n m = m by omega]; exact List.mem_cons_self
      · exact .inr (List.mem_cons_of_mem _ h3)
theorem maxI_spec {ns : List Int} {m : Int} (h : maxI ns = some m) : m ∈ ns ∧ ∀ x ∈ ns, x ≤ m := by
  cases ns with
  | nil => cases h
  | cons n ns =>
    cases h
    obtain ⟨h1, h2, h3⟩ := foldl_max ns n
    refine ⟨?_, fun x hx => ?_⟩
    · rcases h3 with h3 | h3
      · rw [h3]; exact List.mem_cons_self
      · exact List.mem_cons_of_mem _ h3
    · rcases List.mem_cons.mp hx with rfl | hx
      · exact h1
      · exact h2 x hx
theorem minI_spec {ns : List Int} {m : Int} (h : minI ns = some m) : m ∈ ns ∧ ∀ x ∈ ns, m ≤ x := by
  cases ns with
  | nil => cases h
  | cons n ns =>
    cases h
    obtain ⟨h1, h2, h3⟩ := foldl_min ns n
    refine ⟨?_, fun x hx => ?_⟩
    · rcases h3 with h3 | h3
      · rw [h3]; exact List.mem_cons_self
      · exact List.mem_cons_of_mem _ h3
    · rcases List.mem_cons.mp hx with rfl | hx
      · exact h1
      · exact h2 x hx
def extG (f : List Int → Option Int) : List D → Option Opd
  | [d] => match listD d with
    | some ds => match intsOf ds with
      | some ns => match f ns with
        | some m => some (.val (.int m))
        | none => none
      | none => none
    | none => none
  | _ => none
abbrev maxG := extG maxI
abbrev minG := extG minI
theorem cs_max : CalS X (rMax X.K) maxG := by
  intro Fr F H ρ σ vs ds o Q R hv g k
  unfold maxG extG at g
  split at g
  · rename_i d
    split at g
    · rename_i ds' e1
      split at g
      · rename_i ns e2
        split at g
        · rename_i m e3
          cases g
          obtain ⟨v, rfl, w⟩ := vw1 hv
          obtain ⟨a, vs, rfl, q, r⟩ := w.list R.f e1
          rw [intsOf_eq e2] at r
          rw [r.ints] at q
          obtain ⟨z1, z2⟩ := maxI_spec e3
          refine ⟨a, ns, rfl, q, List.length_pos_of_mem z1, fun m' h1 h2 => ?_⟩
          have : m' = m := Int.le_antisymm (z2 _ h1) (h2 _ z1)
          subst this
          exact after_val R (.int _) k
        · cases g
      · cases g
    · cases g
  · cases g
theorem cs_min : CalS X (rMin X.K) minG := by
  intro Fr F H ρ σ vs ds o Q R hv g k
  unfold minG extG at g
  split at g
  · rename_i d
    split at g
    · rename_i ds' e1
      split at g
      · rename_i ns e2
        split at g
        · rename_i m e3
          cases g
          obtain ⟨v, rfl, w⟩ := vw1 hv
          obtain ⟨a, vs, rfl, q, r⟩ := w.list R.f e1
          rw [intsOf_eq e2] at r
          rw [r.ints] at q
          obtain ⟨z1, z2⟩ := minI_spec e3
          refine ⟨a, ns, rfl, q, List.length_pos_of_mem z1, fun m' h1 h2 => ?_⟩
          have : m' = m := Int.le_antisymm (h2 _ z1) (z2 _ h1)
          subst this
          exact after_val R (.int _) k
        · cases g
      · cases g
    · cases g
  · cases g
/-- list(xs), tuple(xs) -/
def listG : List D → Option Opd
  | [d] => match seqD d with
    | some ds => some (.tmp (.lst ds))
    | none => none
  | _ => none
theorem cs_list : CalS X (fun xs H Q => ∃ p ys, xs = [.ref p] ∧ (SqL X.K H p ys ∨ SqT X.K H p ys) ∧ ∀ l, H l = none → Q (.ref l) (upd H l (.lst ys))) listG := by
  intro Fr F H ρ σ vs ds o Q R hv g k
  unfold listG at g
  split at g
  · split at g
    · rename_i ds' e
      cases g
      obtain ⟨v, rfl, w⟩ := vw1 hv
      obtain ⟨a, vs, rfl, q, r⟩ := w.seq R.f e
      exact ⟨a, vs, rfl, q, fun l hl => after_new R hl r k⟩
    · cases g
  · cases g
def tupleG : List D → Option Opd
  | [d] => match seqD d with
    | some ds => some (.val (.tup ds))
    | none => none
  | _ => none
theorem cs_tuple : CalS X (fun xs H Q => ∃ p ys, xs = [.ref p] ∧ ((SqL X.K H p ys ∧ ∀ l, H l = none → Q (.ref l) (upd H l (.tup ys))) ∨ (SqT X.K H p ys ∧ Q (.ref p) H))) tupleG := by
  intro Fr F H ρ σ vs ds o Q R hv g k
  unfold tupleG at g
  split at g
  · rename_i d
    split at g
    · rename_i ds' e
      cases g
      obtain ⟨v, rfl, w⟩ := vw1 hv
      cases d <;> cases e
      · have hx0 : Rep X.K F v (.tup ds') := by
          rcases w with z | ⟨a, o, e1, h1, h2⟩
          · exact z
          · cases h2
        obtain ⟨a, vs, rfl, q, r⟩ := w.tup R.f
        exact ⟨a, vs, rfl, .inr ⟨q, after_val R hx0 k⟩⟩
      · obtain ⟨a, vs, rfl, q, r⟩ := w.lst R.f
        exact ⟨a, vs, rfl, .inl ⟨SqL.of q, fun l hl => after_tup R hl r k⟩⟩
      · obtain ⟨a, vs, rfl, q, r⟩ := w.rol R.f
        exact ⟨a, vs, rfl, .inl ⟨q, fun l hl => after_tup R hl r k⟩⟩
    · cases g
  · cases g
variable {e : Expr} {es : List Expr} {am : AM} {m ma mb : EM} {p pos : Pos} {a b : Expr}
theorem oe_len (ha : AE X [e] am) (hm : X.mg "len" = none) (hg : Gl X "len" := by rfl) (he : starEach [e] X.env = (false, eval e X.env) :: starEach [] X.env := by rfl) : OE X (.Call (.Name "len" p) [e] [] pos) (biM lenG am) := oe_bi call_len cs_len ha hm PySem.boot_len hg (by decide) (by decide) he
theorem oe_int_ (ha : AE X [e] am) (hm : X.mg "int" = none) (hg : Gl X "int" := by rfl) (he : starEach [e] X.env = (false, eval e X.env) :: starEach [] X.env := by rfl) : OE X (.Call (.Name "int" p) [e] [] pos) (biM intFG am) := oe_ty call_int1 cs_int ha hm (by decide +kernel) hg (by decide) (by decide) he
theorem oe_abs (ha : AE X [e] am) (hm : X.mg "abs" = none) (hg : Gl X "abs" := by rfl) (he : starEach [e] X.env = (false, eval e X.env) :: starEach [] X.env := by rfl) : OE X (.Call (.Name "abs" p) [e] [] pos) (biM absG am) := oe_bi call_abs cs_abs ha hm (by decide +kernel) hg (by decide) (by decide) he
theorem oe_sum (hc : X.calm = true) (ha : AE X [e] am) (hm : X.mg "sum" = none) (hg : Gl X "sum" := by rfl) (he : starEach [e] X.env = (false, eval e X.env) :: starEach [] X.env := by rfl) : OE X (.Call (.Name "sum" p) [e] [] pos) (biM sumG am) := oe_bi (cr_sum hc) cs_sum ha hm (by decide +kernel) hg (by decide) (by decide) he
theorem oe_any (hc : X.calm = true) (ha : AE X [e] am) (hm : X.mg "any" = none) (hg : Gl X "any" := by rfl) (he : starEach [e] X.env = (false, eval e X.env) :: starEach [] X.env := by rfl) : OE X (.Call (.Name "any" p) [e] [] pos) (biM anyG am) := oe_bi (cr_any hc) cs_any ha hm (by decide +kernel) hg (by decide) (by decide) he
theorem oe_all (hc : X.calm = true) (ha : AE X [e] am) (hm : X.mg "all" = none) (hg : Gl X "all" := by rfl) (he : starEach [e] X.env = (false, eval e X.env) :: starEach [] X.env := by rfl) : OE X (.Call (.Name "all" p) [e] [] pos) (biM allG am) := oe_bi (cr_all hc) cs_all ha hm (by decide +kernel) hg (by decide) (by decide) he
theorem oe_max (hc : X.calm = true) (ha : AE X [e] am) (hm : X.mg "max" = none) (hg : Gl X "max" := by rfl) (he : starEach [e] X.env = (false, eval e X.env) :: starEach [] X.env := by rfl) : OE X (.Call (.Name "max" p) [e] [] pos) (biM maxG am) := oe_bi (cr_max hc) cs_max ha hm (by decide +kernel) hg (by decide) (by decide) he
theorem oe_min (hc : X.calm = true) (ha : AE X [e] am) (hm : X.mg "min" = none) (hg : Gl X "min" := by rfl) (he : starEach [e] X.env = (false, eval e X.env) :: starEach [] X.env := by rfl) : OE X (.Call (.Name "min" p) [e] [] pos) (biM minG am) := oe_bi (cr_min hc) cs_min ha hm (by decide +kernel) hg (by decide) (by decide) he
theorem oe_list (ha : AE X [e] am) (hm : X.mg "list" = none) (hg : Gl X "list" := by rfl) (he : starEach [e] X.env = (false, eval e X.env) :: starEach [] X.env := by rfl) : OE X (.Call (.Name "list" p) [e] [] pos) (biM listG am) := oe_ty call_list_of cs_list ha hm (by decide +kernel) hg (by decide) (by decide) he
theorem oe_tuple (ha : AE X [e] am) (hm : X.mg "tuple" = none) (hg : Gl X "tuple" := by rfl) (he : starEach [e] X.env = (false, eval e X.env) :: starEach [] X.env := by rfl) : OE X (.Call (.Name "tuple" p) [e] [] pos) (biM tupleG am) := oe_ty call_tuple_of cs_tuple ha hm (by decide +kernel) hg (by decide) (by decide) he

/-! isinstance, by the written types -/
def tyD : D → String
  | .non => "NoneType"
  | .bl _ => "bool"
  | .int _ => "int"
  | .str _ => "str"
  | .tup _ => "tuple"
  | .lst _ => "list"
  | .rol _ => "list"
  | .ins _ _ _ => ""
  | .dct _ _ => "dict"
  | .dtt _ _ => "dict"
def isIns : D → Bool
  | .ins _ _ _ => true
  | _ => false
theorem tyX_sqT {K : PySem.W.Frag} {H : Hp} {a : Addr} {vs : List V} (h : SqT K H a vs) : TyX K H (.ref a) (.type "tuple") := by
  rcases h with (h | ⟨o, h⟩) | ⟨o, _, _, h, c, _⟩
  · exact .base (.tup h)
  · exact .fTuple h
  · exact .kTuple h c
theorem tyX_sqL {K : PySem.W.Frag} {H : Hp} {a : Addr} {vs : List V} (h : SqL K H a vs) : TyX K H (.ref a) (.type "list") := by
  rcases h with (h | ⟨o, h⟩) | ⟨o, _, _, h, c, _⟩
  · exact .base (.lst h)
  · exact .base (.frz h)
  · exact .kList h c
theorem Viw.ty {K : PySem.W.Frag} {F H : Hp} {v : V} {d : D} (s : Same F H) (h : Viw K F H v d) (hi : isIns d = false) : TyX K H v (.type (tyD d)) := by
  cases d with
  | ins C ks ds => cases hi
  | dct ks ds => rcases h with h | ⟨a, o, e1, h1, h2⟩
                 · cases h with
                   | dct h l r => exact .base (.dK (s _ _ h))
                 · cases h2 with
                   | dct l r => subst e1; exact .base (.dK h1)
  | dtt ks ds => rcases h with h | ⟨a, o, e1, h1, h2⟩
                 · cases h with
                   | dtt h l r => exact .base (.dT (s _ _ h))
                 · cases h2 with
                   | dtt l r => subst e1; exact .base (.dT h1)
  | non => cases h.non; exact .base .non
  | bl b => cases h.bl; exact .base (.bl b)
  | int i => cases h.int; exact .base (.int i)
  | str x => cases h.str; exact .base (.str x)
  | tup xs => obtain ⟨a, vs, rfl, q, r⟩ := h.tup s; exact tyX_sqT q
  | lst xs => obtain ⟨a, vs, rfl, q, r⟩ := h.lst s; exact tyX_sqL (SqL.of q)
  | rol xs => obtain ⟨a, vs, rfl, q, r⟩ := h.rol s; exact tyX_sqL q
def isiAny (t : String) : List String → Option Bool
  | [] => some false
  | T :: Ts => match kitB t T with
    | some true => some true
    | some false => isiAny t Ts
    | none => none
theorem isi_kit {K : PySem.W.Frag} {t : String} : ∀ {Ts : List String} {b : Bool}, isiAny t Ts = some b → PySem.W.kitAny K (.type t) (Ts.map Value.type) = some b
  | [], b, h => by cases h; rfl
  | T :: Ts, b, h => by
    unfold isiAny at h
    split at h
    · rename_i e; cases h; exact kitAny_cons (b := true) (kit_ty e) (fun z => nomatch z) (fun _ => rfl)
    · rename_i e; exact kitAny_cons (b := false) (kit_ty e) (fun _ => isi_kit h) (fun z => nomatch z)
    · cases h
def isiD (Ts : List String) (d : D) : Option Bool := if isIns d = true then none else isiAny (tyD d) Ts
theorem isiD_some {Ts : List String} {d : D} {b : Bool} (h : isiD Ts d = some b) : isIns d = false ∧ isiAny (tyD d) Ts = some b := by
  unfold isiD at h
  split at h
  · cases h
  · rename_i z; exact ⟨by simpa using z, h⟩
def isiM (Ts : List String) (m : EM) : EM := fun ρ => match frz m ρ with
  | some (o, ρ') => match look o ρ' with
    | some d => match isiD Ts d with
      | some b => some (.val (.bl b), ρ')
      | none => none
    | none => none
  | none => none
theorem isiM_some {Ts : List String} {ρ ρ' : Rho} {o : Opd} (h : isiM Ts m ρ = some (o, ρ')) : ∃ o' d b, frz m ρ = some (o', ρ') ∧ look o' ρ' = some d ∧ isiD Ts d = some b ∧ o = .val (.bl b) := by
  unfold isiM at h
  split at h
  · split at h
    · split at h
      · cases h; exact ⟨_, _, _, by assumption, by assumption, by assumption, rfl⟩
      · cases h
    · cases h
  · cases h
theorem pe_type {T : String} {x : Str} {p : Pos} (hg : Gl X x) (hm : X.mg x = none) (hv : bootBuiltins x = some (.type T)) (hn : x ≠ "__name__" := by decide) (hd : (x == ("__debug__" : Str)) = false := by decide) : PE X (.Name x p) (tC (.ty T)) := pe_bltn hg hm hv rfl hn hd
theorem oe_isi1 {T : String} {x : Str} {p2 : Pos} (ha : OE X a m) (hm : X.mg "isinstance" = none) (hm2 : X.mg x = none) (hv : bootBuiltins x = some (.type T)) (hg2 : Gl X x := by rfl) (hg : Gl X "isinstance" := by rfl) (hn : x ≠ "__name__" := by decide) (hd : (x == ("__debug__" : Str)) = false := by decide)
    (s1 : starEach [a, .Name x p2] X.env = (false, eval a X.env) :: starEach [.Name x p2] X.env := by rfl) (s2 : starEach [.Name x p2] X.env = (false, eval (.Name x p2) X.env) :: starEach [] X.env := by rfl)
    (hpl : (backTo pos (starEach [.Name x p2] X.env)).any (·.1) = false := by rfl) : OE X (.Call (.Name "isinstance" p) [a, .Name x p2] [] pos) (isiM [T] m) := by
  refine ⟨pe_imp (pe_callB call_isi hg hm (by decide +kernel) (pa_cons ha.ne.pe (pa_cons (pe_type hg2 hm2 hv hn hd) pa_nil s2) s1) (by decide) (by decide) s1 hpl) fun σ H Q ⟨Fr, F, ρ, o, ρ', R, em, k⟩ => ?_⟩
  obtain ⟨o', d, b, e1, e2, e3, rfl⟩ := isiM_some em
  obtain ⟨e0, e3⟩ := isiD_some e3
  refine ⟨Fr, F, ρ, _, _, R, e1, fun F1 H1 v q1 R1 r => ?_⟩
  have e4 : PySem.W.kitOne X.K (.type (tyD d)) (.type T) = some b := by
    unfold isiAny at e3
    split at e3
    · rename_i e; cases e3; exact kit_ty e
    · rename_i e; cases e3; exact kit_ty e
    · cases e3
  exact ⟨v, .ty T, .type (tyD d), .type T, b, rfl, .ty T, (r.look R1 e2).ty R1.f e0, e4, k F1 H1 _ q1 R1 (.bl b)⟩
theorem oe_isi2 {T T2 : String} {x x2 : Str} {p2 p3 tp : Pos} {k0} (ha : OE X a m) (hm : X.mg "isinstance" = none) (hm2 : X.mg x = none) (hv : bootBuiltins x = some (.type T)) (hm3 : X.mg x2 = none) (hv3 : bootBuiltins x2 = some (.type T2)) (hg2 : Gl X x := by rfl) (hg3 : Gl X x2 := by rfl) (hg : Gl X "isinstance" := by rfl)
    (hn : x ≠ "__name__" := by decide) (hd : (x == ("__debug__" : Str)) = false := by decide) (hn3 : x2 ≠ "__name__" := by decide) (hd3 : (x2 == ("__debug__" : Str)) = false := by decide)
    (s1 : starEach [a, .Tuple [.Name x p2, .Name x2 p3] k0 tp] X.env = (false, eval a X.env) :: starEach [.Tuple [.Name x p2, .Name x2 p3] k0 tp] X.env := by rfl) (s2 : starEach [.Tuple [.Name x p2, .Name x2 p3] k0 tp] X.env = (false, eval (.Tuple [.Name x p2, .Name x2 p3] k0 tp) X.env) :: starEach [] X.env := by rfl)
    (s3 : starEach [.Name x p2, .Name x2 p3] X.env = (false, eval (.Name x p2) X.env) :: starEach [.Name x2 p3] X.env := by rfl) (s4 : starEach [.Name x2 p3] X.env = (false, eval (.Name x2 p3) X.env) :: starEach [] X.env := by rfl)
    (hpl : (backTo pos (starEach [.Tuple [.Name x p2, .Name x2 p3] k0 tp] X.env)).any (·.1) = false := by rfl) : OE X (.Call (.Name "isinstance" p) [a, .Tuple [.Name x p2, .Name x2 p3] k0 tp] [] pos) (isiM [T, T2] m) := by
  refine ⟨pe_imp (pe_callB call_isiT hg hm (by decide +kernel) (pa_cons ha.ne.pe (pa_cons (pe_tup (pa_cons (pe_type hg2 hm2 hv hn hd) (pa_cons (pe_type hg3 hm3 hv3 hn3 hd3) pa_nil s4) s3)) pa_nil s2) s1) (by decide) (by decide) s1 hpl) fun σ H Q ⟨Fr, F, ρ, o, ρ', R, em, k⟩ => ?_⟩
  obtain ⟨o', d, b, e1, e2, e3, rfl⟩ := isiM_some em
  obtain ⟨e0, e3⟩ := isiD_some e3
  refine ⟨Fr, F, ρ, _, _, R, e1, fun F1 H1 v q1 R1 r => ⟨by show 2 ≤ sizeLine; decide, fun q hq => ?_⟩⟩
  obtain ⟨R2, s2⟩ := R1.new (.tup [.ty T, .ty T2]) hq
  exact ⟨v, q, [.ty T, .ty T2], .type (tyD d), [.type T, .type T2], b, rfl, upd_same, .cons (.ty T) (.cons (.ty T2) .nil), ((r.mono s2).look R2 e2).ty R2.f e0, isi_kit (Ts := [T, T2]) e3, k _ _ _ (q1.trans s2) R2 (.bl b)⟩

/-! x in xs, flat items -/
def flatD : D → Bool
  | .non => true
  | .bl _ => true
  | .int _ => true
  | .str _ => true
  | _ => false
def eqF : D → D → Bool
  | .non, .non => true
  | .bl a, .bl b => a == b
  | .bl a, .int b => (if a then 1 else 0) == b
  | .int a, .bl b => a == (if b then 1 else 0)
  | .int a, .int b => a == b
  | .str a, .str b => a == b
  | _, _ => false
def inF (d : D) (ds : List D) : Bool := ds.any fun e => eqF e d
def inG (neg : Bool) (d e : D) : Option Opd := match seqD e with
  | some ds => if flatD d && ds.all flatD then some (.val (.bl (if neg then !inF d ds else inF d ds))) else none
  | none => none
theorem flat_v {K : PySem.W.Frag} {F : Hp} {v : V} {d : D} (h : Rep K F v d) (f : flatD d = true) : flatV v = true := by
  cases h <;> first | rfl | cases f
theorem eq_v {K : PySem.W.Frag} {F : Hp} {v w : V} {d e : D} (h : Rep K F v d) (g : Rep K F w e) (f : flatD d = true) (f2 : flatD e = true) : eqV v w = eqF d e := by
  cases h <;> cases g <;> first | rfl | exact nomatch f | exact nomatch f2
theorem in_v {K : PySem.W.Frag} {F : Hp} {v : V} {d : D} (h : Rep K F v d) (f : flatD d = true) : ∀ {vs : List V} {ds : List D}, Reps K F vs ds → ds.all flatD = true → vs.all flatV = true ∧ inV v vs = inF d ds
  | _, _, .nil, _ => ⟨rfl, rfl⟩
  | _, _, .cons g r, z => by
    rw [List.all_cons, Bool.and_eq_true] at z
    obtain ⟨h1, h2⟩ := in_v h f r z.2
    refine ⟨by rw [List.all_cons, flat_v g z.1, h1]; rfl, ?_⟩
    unfold inV inF at h2 ⊢
    rw [List.any_cons, List.any_cons, eq_v g h z.1 f, h2]
theorem ops_in (neg : Bool) : OpS X (rIn X.K neg) (inG neg) := by
  intro Fr F H ρ σ x y d e o Q R hx hy g k
  unfold inG at g
  split at g
  · rename_i ds e1
    split at g
    · rename_i z
      cases g
      rw [Bool.and_eq_true] at z
      obtain ⟨a, vs, rfl, q, r⟩ := hy.seq R.f e1
      have hx0 : Rep X.K F x d := by
        rcases hx with z' | ⟨a, o, e1, h1, h2⟩
        · exact z'
        · cases h2 <;> cases z.1
      obtain ⟨h1, h2⟩ := in_v hx0 z.1 r z.2
      refine ⟨a, vs, rfl, q, flat_v hx0 z.1, h1, ?_⟩
      rw [h2]
      exact after_val R (.bl _) k
    · cases g
  · cases g
theorem oe_in (ha : OE X a ma) (hb : OE X b mb) (hm : behindInMarks .In b = false := by rfl) : OE X (.Compare a [.In] [b] pos) (binM (inG false) ma mb) := oe_cmp op_in_seq (ops_in false) ha hb hm
theorem oe_nin (ha : OE X a ma) (hb : OE X b mb) (hm : behindInMarks .NotIn b = false := by rfl) : OE X (.Compare a [.NotIn] [b] pos) (binM (inG true) ma mb) := oe_cmp op_notIn_seq (ops_in true) ha hb hm
theorem te_in (ha : OE X a ma) (hb : OE X b mb) (hm : behindInMarks .In b = false := by rfl) : TeE X (.Compare a [.In] [b] pos) (boolM (binM (inG false) ma mb)) := te_cmp op_in_seq (ops_in false) ha hb hm
theorem te_nin (ha : OE X a ma) (hb : OE X b mb) (hm : behindInMarks .NotIn b = false := by rfl) : TeE X (.Compare a [.NotIn] [b] pos) (boolM (binM (inG true) ma mb)) := te_cmp op_notIn_seq (ops_in true) ha hb hm
/-- is of truth values -/
def isBG (neg : Bool) : D → D → Option Opd
  | .bl a, .bl b => some (.val (.bl (if neg then !decide (a = b) else decide (a = b))))
  | _, _ => none
theorem ops_isB : OpS X rIsB (isBG false) := by
  intro Fr F H ρ σ x y d e o Q R hx hy g k
  unfold isBG at g
  split at g
  · rename_i a b
    cases g
    cases hx.bl
    cases hy.bl
    exact ⟨a, b, rfl, rfl, after_val R (.bl _) k⟩
  · cases g
theorem oe_isB (ha : OE X a ma) (hb : OE X b mb) : OE X (.Compare a [.Is] [b] pos) (binM (isBG false) ma mb) := oe_cmp op_isBl ops_isB ha hb (nomark _)
theorem te_isB (ha : OE X a ma) (hb : OE X b mb) : TeE X (.Compare a [.Is] [b] pos) (boolM (binM (isBG false) ma mb)) := te_cmp op_isBl ops_isB ha hb (nomark _)

/-! methods of a name's own list -/
def methM (i : Nat) (dm : DM) (g : List D → List D → Option (List D × D)) : EM := fun ρ => match ρ[i]? with
  | some (some (.own (.lst _))) => match dm ρ with
    | some (as, ρ') => match ρ'[i]? with
      | some (some (.own (.lst ds))) => match g ds as with
        | some (ds2, r) => some (.val r, ρ'.set i (some (.own (.lst ds2))))
        | none => none
      | _ => none
    | none => none
  | _ => none
/-- r asks of a list and values what g gives -/
def MetS (K : PySem.W.Frag) (r : V → List V → Hp → VK → Prop) (g : List D → List D → Option (List D × D)) : Prop :=
  ∀ {F H : Hp} {a : Addr} {vs ws : List V} {ds as ds2 : List D} {d : D} {Q : VK}, H a = some (.lst vs) → Same F H → F a = none → Reps K F vs ds → Reps K F ws as → g ds as = some (ds2, d) →
    (∀ v vs2, Rep K F v d → Reps K F vs2 ds2 → Q v (upd H a (.lst vs2))) → r (.ref a) ws H Q
theorem meth_read {i : Nat} {dm : DM} {g : List D → List D → Option (List D × D)} {r : V → List V → Hp → VK → Prop} (hs : MetS X.K r g) {σ : St} {H : Hp} {Q : VK} (h : tE X.K (methM i dm g) σ H Q) :
    ∃ v, σ[i]? = some (some v) ∧ tyV X.K "list" v H ∧ tD X.K dm σ H fun xs H2 => r v xs H2 Q := by
  obtain ⟨Fr, F, ρ, o, ρ', R, em, k⟩ := h
  unfold methM at em
  split at em
  · rename_i ds0 e0
    split at em
    · rename_i as ρ1 e1
      split at em
      · rename_i ds e2
        split at em
        · rename_i ds2 rr e3
          cases em
          obtain ⟨u, eu, a, o, rfl, h1, h2, _⟩ := R.slot i _ e0
          cases h2 with
          | lst rs0 =>
            refine ⟨_, eu, .inl ⟨rfl, _, SqL.of h1⟩, Fr, F, ρ, _, _, R, e1, fun F1 H1 ws q1 R1 rw' => ?_⟩
            obtain ⟨u', eu', a', o', ea, g1, g2, g3, g4⟩ := R1.slot i _ e2
            rw [eu] at eu'; cases eu'
            cases ea
            cases g2 with
            | lst rs =>
              refine hs g1 R1.f g3 rs rw' e3 fun v vs2 rv rs2 => ?_
              exact k F1 _ v q1 (R1.mut e2 eu (.lst rs2)) rv
        · cases em
      · cases em
    · cases em
  · cases em
variable {x name : Str} {px apos cpos : Pos} {dm : DM} {g : List D → List D → Option (List D × D)} {r : V → List V → Hp → VK → Prop} {id : String}
theorem oe_meth (i : Nat) (slot : PySem.Slot "list" name id) (hty : typeOf (.builtin id) = pure (.type "method_descriptor")) (hm : MtR X id r) (hs : MetS X.K r g) (hd : DE X (e :: es) dm)
    (hN : X.N[i]? = some x := by rfl) (hv : Vis X.env.scope x := by first | exact Or.inl rfl | exact Or.inr (Or.inl rfl) | exact Or.inr (Or.inr rfl)) (hdb : (x == ("__debug__" : Str)) = false := by decide) (hcd : (x == ("__classdict__" : Str)) = false := by decide)
    (hbase : attributeBase (.Name x px) name X.env (eval (.Name x px) X.env) = eval (.Name x px) X.env := by rfl)
    (hfew : ((backTo cpos (starEach (e :: es) X.env)).all (fun x => !x.1) && (backToKw cpos (keywordEach [] X.env)).all (fun x => x.1.isSome)
      && decide ((e :: es).length + ([] : List Keyword).length + (if ([] : List Keyword).isEmpty then 0 else 1) < 30)) = true := by rfl)
    (hline : (apos.endLine == cpos.line) = true := by rfl) (hst : starEach (e :: es) X.env = (false, eval e X.env) :: starEach es X.env := by rfl) (hplain : (backTo cpos (starEach es X.env)).any (·.1) = false := by rfl) :
    OE X (.Call (.Attribute (.Name x px) name apos) (e :: es) [] cpos) (methM i dm g) :=
  ⟨pe_imp (pe_bm PySem.F.plainAttrs_list slot hty hm (pe_var hN hv hdb hcd) hd.pa hbase hfew hline hst hplain) fun σ H Q h => meth_read hs h⟩
theorem oe_meth0 (i : Nat) (slot : PySem.Slot "list" name id) (hty : typeOf (.builtin id) = pure (.type "method_descriptor")) (hm : MtR X id r) (hs : MetS X.K r g)
    (hN : X.N[i]? = some x := by rfl) (hv : Vis X.env.scope x := by first | exact Or.inl rfl | exact Or.inr (Or.inl rfl) | exact Or.inr (Or.inr rfl)) (hdb : (x == ("__debug__" : Str)) = false := by decide) (hcd : (x == ("__classdict__" : Str)) = false := by decide)
    (hbase : attributeBase (.Name x px) name X.env (eval (.Name x px) X.env) = eval (.Name x px) X.env := by rfl) (hline : (apos.endLine == cpos.line) = true := by rfl) :
    OE X (.Call (.Attribute (.Name x px) name apos) [] [] cpos) (methM i nilD g) := by
  refine ⟨pe_imp (pe_bm0 PySem.F.plainAttrs_list slot hty hm (pe_var hN hv hdb hcd) hbase hline) fun σ H Q h => ?_⟩
  obtain ⟨Fr, F, ρ, o, ρ', R, em, k⟩ := h
  unfold methM nilD at em
  split at em
  · rename_i ds0 e0
    dsimp only at em
    rw [e0] at em
    dsimp only at em
    split at em
    · rename_i ds2 rr e3
      cases em
      obtain ⟨u, eu, a, o, rfl, h1, h2, h3, _⟩ := R.slot i _ e0
      cases h2 with
      | lst rs =>
        refine ⟨_, eu, .inl ⟨rfl, _, SqL.of h1⟩, ?_⟩
        exact hs h1 R.f h3 rs .nil e3 fun v vs2 rv rs2 => k F _ v (Same.refl F) (R.mut e0 eu (.lst rs2)) rv
    · cases em
  · cases em
def appendG (ds as : List D) : Option (List D × D) := match as with
  | [d] => if ds.length < sizeLine then some (ds ++ [d], .non) else none
  | _ => none
theorem ms_append : MetS X.K rAppend appendG := by
  intro F H a vs ws ds as ds2 d Q h1 h2 h3 r1 r2 e k
  unfold appendG at e
  split at e
  · rename_i d0
    split at e
    · rename_i hl
      cases e
      cases r2 with
      | cons r2 r3 =>
        cases r3
        exact ⟨a, vs, _, rfl, rfl, h1, by rw [r1.length]; exact hl, k _ _ .non (r1.append (.cons r2 .nil))⟩
    · cases e
  · cases e
def extendG (ds as : List D) : Option (List D × D) := match as with
  | [.lst es] => if ds.length + es.length ≤ sizeLine then some (ds ++ es, .non) else none
  | _ => none
theorem ms_extend : MetS X.K rExtend extendG := by
  intro F H a vs ws ds as ds2 d Q h1 h2 h3 r1 r2 e k
  unfold extendG at e
  split at e
  · rename_i es
    split at e
    · rename_i hl
      cases e
      cases r2 with
      | cons r2 r3 =>
        cases r3
        cases r2 with
        | lst q rs => exact ⟨a, _, vs, _, rfl, rfl, h1, h2 _ _ q, by rw [r1.length, rs.length]; exact hl, k _ _ .non (r1.append rs)⟩
    · cases e
  · cases e
def popG (ds as : List D) : Option (List D × D) := match as with
  | [] => match ds[ds.length - 1]? with
    | some d => some (ds.dropLast, d)
    | none => none
  | _ => none
theorem ms_pop : MetS X.K rPop popG := by
  intro F H a vs ws ds as ds2 d Q h1 h2 h3 r1 r2 e k
  unfold popG at e
  split at e
  · split at e
    · rename_i d0 e0
      cases e
      cases r2
      obtain ⟨v, ev, rv⟩ := r1.get e0
      exact ⟨a, vs, v, rfl, rfl, h1, by rw [r1.length]; exact ev, k _ _ rv r1.dropLast⟩
    · cases e
  · cases e
def popAtG (ds as : List D) : Option (List D × D) := match as with
  | [.int i] => match ixN ds.length i with
    | some j => match ds[j]? with
      | some d => some (ds.eraseIdx j, d)
      | none => none
    | none => none
  | _ => none
def rSized (r : V → List V → Hp → VK → Prop) : V → List V → Hp → VK → Prop := fun x vs H Q => ∃ l xs, x = .ref l ∧ H l = some (.lst xs) ∧ (xs.length ≤ sizeLine → r x vs H Q)
theorem mt_sized {id : String} {r : V → List V → Hp → VK → Prop} (h : MtR X id r) : MtR X id (rSized r) := by
  intro pins s σ H x xs v us Q I rx rs q
  obtain ⟨l, ys, rfl, e, q⟩ := q
  obtain ⟨z, _⟩ := I.lstM e
  exact h pins s σ H _ xs v us Q I rx rs (q z)
theorem ms_popAt : MetS X.K (rSized rPopAt) popAtG := by
  intro F H a vs ws ds as ds2 d Q h1 h2 h3 r1 r2 e k
  refine ⟨a, vs, rfl, h1, fun hz => ?_⟩
  unfold popAtG at e
  split at e
  · rename_i i
    split at e
    · rename_i j ej
      split at e
      · rename_i d0 e0
        cases e
        cases r2 with
        | cons r2 r3 =>
          cases r3; cases r2
          obtain ⟨v, ev, rv⟩ := r1.get e0
          obtain ⟨z1, z2, z3, z4⟩ := ixN_seq ej
          have hn := line63
          rw [r1.length] at hz
          exact ⟨a, vs, i, j, v, rfl, rfl, h1, by omega, by omega, by rw [r1.length]; exact z1, ev, k _ _ rv (r1.eraseIdx j)⟩
      · cases e
    · cases e
  · cases e
def insertG (ds as : List D) : Option (List D × D) := match as with
  | [.int i, d] => if ds.length < sizeLine ∧ 0 ≤ i ∧ i < 2 ^ 63 then some (ds.take i.toNat ++ [d] ++ ds.drop i.toNat, .non) else none
  | _ => none
def rInsert : V → List V → Hp → VK → Prop := fun x vs H Q => ∃ (l : Addr) (xs : List V) (i : Int) (y : V), x = .ref l ∧ vs = [.int i, y] ∧ H l = some (.lst xs) ∧ xs.length < sizeLine ∧ 0 ≤ i ∧ i < 2 ^ 63 ∧
    Q .non (upd H l (.lst (xs.take i.toNat ++ [y] ++ xs.drop i.toNat)))
theorem ms_insert : MetS X.K rInsert insertG := by
  intro F H a vs ws ds as ds2 d Q h1 h2 h3 r1 r2 e k
  unfold insertG at e
  split at e
  · rename_i i d0
    split at e
    · rename_i hl
      cases e
      cases r2 with
      | cons r2 r3 =>
        cases r2
        cases r3 with
        | cons r3 r4 =>
          cases r4
          exact ⟨a, vs, i, _, rfl, rfl, h1, by rw [r1.length]; exact hl.1, hl.2.1, hl.2.2, k _ _ .non (((r1.take _).append (.cons r3 .nil)).append (r1.drop _))⟩
    · cases e
  · cases e
variable {px apos cpos : Pos} {x : Str} {dm : DM}
theorem oe_append (i : Nat) (hd : DE X [e] dm) (hN : X.N[i]? = some x := by rfl) (hv : Vis X.env.scope x := by first | exact Or.inl rfl | exact Or.inr (Or.inl rfl) | exact Or.inr (Or.inr rfl)) (hdb : (x == ("__debug__" : Str)) = false := by decide) (hcd : (x == ("__classdict__" : Str)) = false := by decide)
    (hbase : attributeBase (.Name x px) "append" X.env (eval (.Name x px) X.env) = eval (.Name x px) X.env := by rfl)
    (hfew : ((backTo cpos (starEach [e] X.env)).all (fun x => !x.1) && (backToKw cpos (keywordEach [] X.env)).all (fun x => x.1.isSome)
      && decide ([e].length + ([] : List Keyword).length + (if ([] : List Keyword).isEmpty then 0 else 1) < 30)) = true := by rfl)
    (hline : (apos.endLine == cpos.line) = true := by rfl) (hst : starEach [e] X.env = (false, eval e X.env) :: starEach [] X.env := by rfl) :
    OE X (.Call (.Attribute (.Name x px) "append" apos) [e] [] cpos) (methM i dm appendG) := oe_meth i PySem.F.slot_list_append PySem.F.type_list_append mt_append ms_append hd hN hv hdb hcd hbase hfew hline hst
theorem oe_extend (i : Nat) (hd : DE X [e] dm) (hN : X.N[i]? = some x := by rfl) (hv : Vis X.env.scope x := by first | exact Or.inl rfl | exact Or.inr (Or.inl rfl) | exact Or.inr (Or.inr rfl)) (hdb : (x == ("__debug__" : Str)) = false := by decide) (hcd : (x == ("__classdict__" : Str)) = false := by decide)
    (hbase : attributeBase (.Name x px) "extend" X.env (eval (.Name x px) X.env) = eval (.Name x px) X.env := by rfl)
    (hfew : ((backTo cpos (starEach [e] X.env)).all (fun x => !x.1) && (backToKw cpos (keywordEach [] X.env)).all (fun x => x.1.isSome)
      && decide ([e].length + ([] : List Keyword).length + (if ([] : List Keyword).isEmpty then 0 else 1) < 30)) = true := by rfl)
    (hline : (apos.endLine == cpos.line) = true := by rfl) (hst : starEach [e] X.env = (false, eval e X.env) :: starEach [] X.env := by rfl) :
    OE X (.Call (.Attribute (.Name x px) "extend" apos) [e] [] cpos) (methM i dm extendG) := oe_meth i PySem.F.slot_list_extend PySem.F.type_list_extend mt_extend ms_extend hd hN hv hdb hcd hbase hfew hline hst
theorem oe_popAt (i : Nat) (hd : DE X [e] dm) (hN : X.N[i]? = some x := by rfl) (hv : Vis X.env.scope x := by first | exact Or.inl rfl | exact Or.inr (Or.inl rfl) | exact Or.inr (Or.inr rfl)) (hdb : (x == ("__debug__" : Str)) = false := by decide) (hcd : (x == ("__classdict__" : Str)) = false := by decide)
    (hbase : attributeBase (.Name x px) "pop" X.env (eval (.Name x px) X.env) = eval (.Name x px) X.env := by rfl)
    (hfew : ((backTo cpos (starEach [e] X.env)).all (fun x => !x.1) && (backToKw cpos (keywordEach [] X.env)).all (fun x => x.1.isSome)
      && decide ([e].length + ([] : List Keyword).length + (if ([] : List Keyword).isEmpty then 0 else 1) < 30)) = true := by rfl)
    (hline : (apos.endLine == cpos.line) = true := by rfl) (hst : starEach [e] X.env = (false, eval e X.env) :: starEach [] X.env := by rfl) :
    OE X (.Call (.Attribute (.Name x px) "pop" apos) [e] [] cpos) (methM i dm popAtG) := oe_meth i PySem.F.slot_list_pop PySem.F.type_list_pop (mt_sized mt_popAt) ms_popAt hd hN hv hdb hcd hbase hfew hline hst
theorem oe_pop (i : Nat) (hN : X.N[i]? = some x := by rfl) (hv : Vis X.env.scope x := by first | exact Or.inl rfl | exact Or.inr (Or.inl rfl) | exact Or.inr (Or.inr rfl)) (hdb : (x == ("__debug__" : Str)) = false := by decide) (hcd : (x == ("__classdict__" : Str)) = false := by decide)
    (hbase : attributeBase (.Name x px) "pop" X.env (eval (.Name x px) X.env) = eval (.Name x px) X.env := by rfl) (hline : (apos.endLine == cpos.line) = true := by rfl) :
    OE X (.Call (.Attribute (.Name x px) "pop" apos) [] [] cpos) (methM i nilD popG) := oe_meth0 i PySem.F.slot_list_pop PySem.F.type_list_pop mt_pop ms_pop hN hv hdb hcd hbase hline

/-! zip, reversed -/
def zipD (xs ys : List D) : List D := List.zipWith (fun x y => .tup [x, y]) xs ys
def zipI (dm : DM) : IM := fun ρ => match dm ρ with
  | some ([a, b], ρ') => match listD a, listD b with
    | some xs, some ys => some (zipD xs ys, none, ρ')
    | _, _ => match a, b with
      | .tup xs, .tup ys => some (zipD xs ys, none, ρ')
      | _, _ => none
  | _ => none
theorem zip_item {Fr : Frm} {F : Hp} {J : It} {vs ws : List V} {ds es : List D} (r1 : Reps X.K F vs ds) (r2 : Reps X.K F ws es)
    (go : ∀ F2 H, Same F F2 → Same F2 H → ∀ i x y, vs[i]? = some x → ws[i]? = some y → J.go i H ∧ ∀ v H', J.yld i H v H' → ∃ T, v = .ref T ∧ H T = none ∧ H' = upd H T (.tup [x, y]))
    (stop : ∀ F2 H, Same F F2 → Same F2 H → ∀ i, (vs.length ≤ i ∨ ws.length ≤ i) → J.stop i H) : IterOk X.K Fr F J (zipD ds es) := by
  intro F2 H q f1 f2
  refine ⟨fun i d e => ?_, stop F2 H q f2 _ (by unfold zipD; rw [List.length_zipWith, r1.length, r2.length]; omega)⟩
  unfold zipD at e
  rw [List.getElem?_zipWith] at e
  cases e1 : ds[i]? with
  | none => rw [e1] at e; cases e
  | some d1 =>
    cases e2 : es[i]? with
    | none => rw [e1, e2] at e; cases e
    | some d2 =>
      rw [e1, e2] at e
      cases e
      obtain ⟨v1, g1, s1⟩ := r1.get e1
      obtain ⟨v2, g2, s2⟩ := r2.get e2
      obtain ⟨h1, h2⟩ := go F2 H q f2 i v1 v2 g1 g2
      refine ⟨h1, fun v H' y => ?_⟩
      obtain ⟨T, rfl, hT, rfl⟩ := h2 v H' y
      have hF : F2 T = none := f2.free hT
      refine ⟨upd F2 T (.tup [v1, v2]), same_new hF, same_new hT, fun Fr' ρ σ R => (R.new _ hT).1, .tup upd_same ?_⟩
      exact .cons ((s1.mono q).mono (same_new hF)) (.cons ((s2.mono q).mono (same_new hF)) .nil)
theorem zipI_lk {ρ ρ' : Rho} {ds : List D} {j : Nat} {d : D} (h : zipI dm ρ = some (ds, some (j, d), ρ')) : False := by
  unfold zipI at h
  split at h
  · split at h
    · cases h
    · split at h <;> cases h
  · cases h
theorem Rep.list {K : PySem.W.Frag} {F : Hp} {v : V} {d : D} {ds : List D} (h : Rep K F v d) (e : listD d = some ds) : ∃ a vs, v = .ref a ∧ SqL K F a vs ∧ Reps K F vs ds := by
  cases h with
  | lst q r => cases e; exact ⟨_, _, rfl, SqL.of q, r⟩
  | rol q r => cases e; exact ⟨_, _, rfl, q, r⟩
  | non => cases e
  | bl => cases e
  | int => cases e
  | str => cases e
  | ins => cases e
  | dct => cases e
  | dtt => cases e
  | tup => cases e
theorem ie_zip {elts : List Expr} {kk : Nat} {tpos : Pos} (hm : X.mg "zip" = none) (hd : DE X [a, b] dm) (hg : Gl X "zip" := by rfl)
    (hs : starEach [a, b] X.env = (false, eval a X.env) :: starEach [b] X.env := by rfl) (hpl : (backTo pos (starEach [b] X.env)).any (·.1) = false := by rfl) :
    IE X (.Tuple elts kk tpos) (.Call (.Name "zip" p) [a, b] [] pos) [] (zipI dm) := by
  refine ⟨pi_imp (RZ.pi_zipA hg hm hd.pa hs hpl) fun σ H R ⟨Fr, F, ρ, ds, lk, ρ', Rr, em, k⟩ => ?_, fun ρ ds j d ρ' em => (zipI_lk em).elim⟩
  unfold zipI at em
  split at em
  · rename_i d1 d2 ρ1 e1
    split at em
    · rename_i xs ys h1 h2
      cases em
      refine ⟨Fr, F, ρ, _, _, Rr, e1, fun F1 H1 vs q1 R1 rs => ?_⟩
      cases rs with
      | cons r1 rs =>
        cases rs with
        | cons r2 rs =>
          cases rs
          obtain ⟨c1, v1, rfl, s1, t1⟩ := r1.list h1
          obtain ⟨c2, v2, rfl, s2, t2⟩ := r2.list h2
          refine ⟨c1, c2, v1, v2, rfl, .inl ⟨sameL R1.f s1, sameL R1.f s2, k Fr F1 H1 _ q1 R1 rfl (zip_item t1 t2 (fun F2 H2 q f i x y z1 z2 => ?_) fun F2 H2 q f i z => ?_)⟩⟩
          · have u1 := sameL (q.trans f) s1
            have u2 := sameL (q.trans f) s2
            refine ⟨⟨v1, v2, x, y, u1, u2, z1, z2⟩, fun v H' ⟨T, x', y', e1, e2, e3, e4, e5⟩ => ⟨T, e1, e2, ?_⟩⟩
            have g1 := e4 _ u1
            have g2 := e5 _ u2
            rw [z1] at g1; rw [z2] at g2
            cases g1; cases g2
            exact e3
          · exact ⟨v1, v2, sameL (q.trans f) s1, sameL (q.trans f) s2, z⟩
    · split at em
      · rename_i xs ys _
        cases em
        refine ⟨Fr, F, ρ, _, _, Rr, e1, fun F1 H1 vs q1 R1 rs => ?_⟩
        cases rs with
        | cons r1 rs =>
          cases rs with
          | cons r2 rs =>
            cases rs
            cases r1 with
            | tup s1 t1 =>
              cases r2 with
              | tup s2 t2 =>
                rename_i c1 v1 c2 v2
                have s1 := SqT.of (K := X.K) s1
                have s2 := SqT.of (K := X.K) s2
                refine ⟨c1, c2, v1, v2, rfl, .inr ⟨sameT R1.f s1, sameT R1.f s2, k Fr F1 H1 _ q1 R1 rfl (zip_item t1 t2 (fun F2 H2 q f i x y z1 z2 => ?_) fun F2 H2 q f i z => ?_)⟩⟩
                · have u1 := sameT (q.trans f) s1
                  have u2 := sameT (q.trans f) s2
                  refine ⟨⟨v1, v2, x, y, u1, u2, z1, z2⟩, fun v H' ⟨T, x', y', e1, e2, e3, e4, e5⟩ => ⟨T, e1, e2, ?_⟩⟩
                  have g1 := e4 _ u1
                  have g2 := e5 _ u2
                  rw [z1] at g1; rw [z2] at g2
                  cases g1; cases g2
                  exact e3
                · exact ⟨v1, v2, sameT (q.trans f) s1, sameT (q.trans f) s2, z⟩
      · cases em
  · cases em
def revI (m : EM) : IM := fun ρ => match esc m ρ with
  | some (d, ρ') => match seqD d with
    | some ds => some (ds.reverse, none, ρ')
    | none => none
  | none => none
theorem ie_rev (hm : X.mg "reversed" = none) (h : OE X a m) {tg : Expr} (hg : Gl X "reversed" := by rfl) (hs : starEach [a] X.env = (false, eval a X.env) :: starEach [] X.env := by rfl) :
    IE X tg (.Call (.Name "reversed" p) [a] [] pos) [] (revI m) := by
  refine ⟨pi_imp (RT.pi_revA hg hm h.ve.pe hs) fun σ H R ⟨Fr, F, ρ, ds, lk, ρ', Rr, em, k⟩ => ?_, fun ρ ds j d ρ' em => ?_⟩
  · unfold revI at em
    split at em
    · rename_i d ρ1 e1
      split at em
      · rename_i ds' e2
        cases em
        refine ⟨Fr, F, ρ, _, _, Rr, e1, fun F1 H1 v q1 R1 r => ?_⟩
        have item : ∀ {J : It} {vs : List V}, Reps X.K F1 vs ds' → (∀ F2 H2, Same F1 F2 → Same F2 H2 → ∀ i x, i < vs.length → vs[vs.length - 1 - i]? = some x → J.go i H2 ∧ ∀ v H', J.yld i H2 v H' → H' = H2 ∧ v = x) →
            (∀ i H2, vs.length ≤ i → J.stop i H2) → IterOk X.K Fr F1 J ds'.reverse := fun {J vs} t go stop F2 H2 q f1 f2 => by
          refine ⟨fun i d e => ?_, stop _ _ (by rw [List.length_reverse, t.length]; exact Nat.le_refl _)⟩
          have hi : i < vs.length := by rw [t.length, ← List.length_reverse]; exact some_lt e
          have t2 : Reps X.K F1 vs.reverse ds'.reverse := t.reverse
          obtain ⟨x, z1, z2⟩ := t2.get e
          rw [List.getElem?_reverse hi] at z1
          obtain ⟨g1, g2⟩ := go F2 H2 q f2 i x hi z1
          refine ⟨g1, fun v H' y => ?_⟩
          obtain ⟨rfl, rfl⟩ := g2 v H' y
          exact ⟨F2, Same.refl _, Same.refl _, fun _ _ _ z => z, z2.mono q⟩
        have lists : ∀ {c : Addr} {vs : List V}, v = .ref c → SqL X.K F1 c vs → Reps X.K F1 vs ds' → ∃ (a : Addr) (xs : List V), v = .ref a ∧ ((SqL X.K H1 a xs ∧ R (Itv X.K a xs.length) H1) ∨ (SqT X.K H1 a xs ∧ R (RT.ItvT X.K a xs.length) H1)) := fun {c vs} ev s t => by
          refine ⟨c, vs, ev, .inl ⟨sameL R1.f s, k Fr F1 H1 _ q1 R1 rfl (item t (fun F2 H2 q f i x hi z => ?_) fun i H2 z => z)⟩⟩
          refine ⟨⟨hi, vs, x, sameL (q.trans f) s, z⟩, fun w H' ⟨y1, y2⟩ => ⟨y1, ?_⟩⟩
          have y3 := y2 _ (sameL (q.trans f) s)
          rw [z] at y3; cases y3; rfl
        cases r with
        | lst s t => cases e2; exact lists rfl (SqL.of s) t
        | rol s t => cases e2; exact lists rfl s t
        | tup s t =>
          cases e2
          rename_i c vs
          refine ⟨c, vs, rfl, .inr ⟨SqT.of (R1.f _ _ s), k Fr F1 H1 _ q1 R1 rfl (item t (fun F2 H2 q f i x hi z => ?_) fun i H2 z => z)⟩⟩
          refine ⟨⟨hi, vs, x, SqT.of (f _ _ (q _ _ s)), z⟩, fun w H' ⟨y1, y2⟩ => ⟨y1, ?_⟩⟩
          have y3 := y2 _ (SqT.of (f _ _ (q _ _ s)))
          rw [z] at y3; cases y3; rfl
        | ins => cases e2
        | dct => cases e2
        | dtt => cases e2
        | non => cases e2
        | bl => cases e2
        | int => cases e2
        | str => cases e2
      · cases em
    · cases em
  · exfalso
    unfold revI at em
    split at em
    · split at em <;> cases em
    · cases em
end
end Ev

set_option Elab.async false
set_option linter.all false
set_option maxRecDepth 100000
/-! Ev. I: the end of a law. -/
set_option autoImplicit false
namespace Ev
open PySem PySem.Spec PyProof.Rows L2

/-- a def stands at the top -/
structure DefAt (K : PySem.W.Frag) (mg : Str → Option Value) (x : Str) (st : Stmt) : Prop where
  ex : ∃ f fd, Fun K x x st f fd ∧ mg x = some (.ref f)
theorem def_mk {K : PySem.W.Frag} {h : Heap} {mg : Str → Option Value} {x : Str} {st : Stmt} {f : Addr} {oc : Value} {od an : Option Addr} {osl : Array (Option Value)} {kV doc pm cdv ct : Value} (X : K.In h) (G : h.Ns mainGlobals mg)
    (a : PySem.W.nsIn K mainGlobals x = some (some (.ref f))) (l : K.lookup f = some ⟨oc, od, .func (PySem.W.fnOf x x (defArgs st) (defBody st) (defScope st) .none kV doc pm an cdv ct), osl⟩)
    (c : PySem.W.codeIn K cdv x = true) (k : PySem.W.keepIn K (.ref f) = true) : DefAt K mg x st := ⟨f, _, fun_mk l c k, PySem.W.mg_of X G a⟩
theorem callee_of {P : Program} {w : World} {K : PySem.W.Frag} {mg : Str → Option Value} {base : Heap} {x : Str} {st : Stmt} {k np : Nat} {ps : List Str} {fn : Fn} (d : DefAt K mg x st)
    (ok : ∀ {f : Addr} {fd : FuncData}, Fun K x x st f fd → FnOk P w K mg base CX0 k f fd ps (spF K fn np))
    (hb : ∀ (kV doc pm : Value) (an : Option Addr) (cdv ct : Value) (us : List Value), us.length = ps.length → bindArgs (PySem.W.fnOf x x (defArgs st) (defBody st) (defScope st) .none kV doc pm an cdv ct) ⟨us, []⟩ = pure (ps.zip us)) : Callee P w K mg base k x np fn := by
  obtain ⟨f, fd, F, hm⟩ := d.ex
  exact ⟨f, fd, ps, ok F, hm, F.kp, F.binds hb⟩
def noFr : Frm := ⟨fun _ => none, fun _ => False, fun _ h => h.elim⟩
/-- the law's promise out of its value -/
theorem law_sp {K : PySem.W.Frag} {fn : Fn} {H : Hp} {a : Addr} {ns : List Int} {E : XK} (hS : SqL K H a (ns.map V.int)) (h : ∃ post, fn [.val (.rol (ns.map D.int))] = some (.val (.bl true), post)) : spF K fn 1 [.ref a] H (fun v _ => v = .bl true) E := by
  obtain ⟨post, h⟩ := h
  refine ⟨rfl, noFr, H, [.val (.rol (ns.map D.int))], _, post, rfl, ⟨fun b o z => (nomatch z), Same.refl H, fun b o z => (nomatch z), fun i sv e => ?_, fun i j s t e1 e2 x1 x2 e3 => ?_, Nat.le_refl _⟩, h, fun F' H' v _ _ r => ?_⟩
  · cases i with
    | zero => cases e; exact ⟨_, rfl, .rol hS (Reps.of_ints ns)⟩
    | succ i => cases e
  · cases i with
    | zero => cases e1; cases x1
    | succ i => cases e1
  · cases r; rfl
end Ev

set_option Elab.async false
set_option linter.all false
set_option maxRecDepth 100000
/-! Ev. J: instances. -/
set_option autoImplicit false
namespace Ev
open PySem PySem.Spec PyProof.Rows L2

section
variable {K : PySem.W.Frag} {Fr : Frm} {F F' H H' : Hp} {ρ ρ' : Rho} {σ : St} {v : V} {d : D}
/-- an instance, seen -/
theorem Viw.ins {C : Addr} {ks : List Str} {ds : List D} (s : Same F H) (h : Viw K F H v (.ins C ks ds)) : ∃ a dx vs, v = .ref a ∧ H a = some (.ins C dx (ks.zip vs)) ∧ ks.length = vs.length ∧ Reps K F vs ds := by
  rcases h with h | ⟨a, o, e1, h1, h2⟩
  · cases h with
    | ins h l r => exact ⟨_, _, _, rfl, s _ _ h, l, r⟩
  · cases h2 with
    | ins l r => exact ⟨_, _, _, e1, h1, l, r⟩
theorem zip_look {f : Str} : ∀ {ks : List Str} {vs : List V} {ds : List D} {d : D}, Reps K F vs ds → (ks.zip ds).lookup f = some d → ∃ v, (ks.zip vs).lookup f = some v ∧ Rep K F v d
  | [], _, _, _, _, h => by simp at h
  | _ :: _, _, _, _, .nil, h => by simp at h
  | k :: ks, _, _, _, .cons r rs, h => by
    rw [List.zip_cons_cons, List.lookup_cons] at h ⊢
    cases e : f == k with
    | true => rw [e] at h; cases h; exact ⟨_, rfl, r⟩
    | false => rw [e] at h; exact zip_look rs h
/-! fields -/
def fldD (Cs : List Addr) (f : Str) : D → Option D
  | .ins C ks ds => if C ∈ Cs then (ks.zip ds).lookup f else none
  | _ => none
def fldM (Cs : List Addr) (f : Str) (m : EM) : EM := fun ρ => match frz m ρ with
  | some (o, ρ') => match look o ρ' with
    | some d => match fldD Cs f d with
      | some e => some (.val e, ρ')
      | none => none
    | none => none
  | none => none
end
/-- these classes keep the attribute in the instance -/
def Flds (K : PySem.W.Frag) (Cs : List Addr) (f : Str) : Prop := ∀ C ∈ Cs, Cls K C ∧ NoAttr K C f
section
variable {X : Cx} {Wx : WX} {a e : Expr} {es : List Expr} {m ma : EM} {am : AM} {pos : Pos} {f : Str} {Cs : List Addr} {W : List Nat} {np k : Nat} {fn : Fn}
theorem oe_fld (ha : OE X e m) (hc : Flds X.K Cs f) (hb : attributeBase e f X.env (eval e X.env) = eval e X.env := by rfl) : OE X (.Attribute e f pos) (fldM Cs f m) := by
  refine ⟨pe_imp (pe_fld ha.ne.pe hb) fun σ H Q ⟨Fr, F, ρ, o, ρ', R, em, k⟩ => ?_⟩
  unfold fldM at em
  split at em
  · rename_i o' ρ1 e1
    split at em
    · rename_i d e2
      split at em
      · rename_i d' e3
        cases em
        refine ⟨Fr, F, ρ, _, _, R, e1, fun F1 H1 v q1 R1 r => ?_⟩
        cases d with
        | ins C ks ds =>
          dsimp only [fldD] at e3
          split at e3
          · rename_i hm
            obtain ⟨a, dx, vs, rfl, h1, h2, h3⟩ := (r.look R1 e2).ins R1.f
            obtain ⟨w, h4, h5⟩ := zip_look h3 e3
            exact ⟨a, C, dx, _, w, rfl, h1, (hc C hm).1, (hc C hm).2, h4, k F1 H1 w q1 R1 h5⟩
          · cases e3
        | _ => cases e3
      · cases em
    · cases em
  · cases em
/-! self.f = e -/
def putK (f : Str) : List Str → List Str
  | [] => [f]
  | k :: ks => if k = f then k :: ks else k :: putK f ks
def putA {α : Type} (f : Str) (y : α) : List Str → List α → List α
  | [], _ => [y]
  | _ :: _, [] => []
  | k :: ks, x :: xs => if k = f then y :: xs else x :: putA f y ks xs
theorem putF_zip {f : Str} {y : V} : ∀ {ks : List Str} {vs : List V}, ks.length = vs.length → putF f y (ks.zip vs) = (putK f ks).zip (putA f y ks vs) ∧ (putK f ks).length = (putA f y ks vs).length
  | [], [], _ => ⟨rfl, rfl⟩
  | [], _ :: _, h => by simp at h
  | _ :: _, [], h => by simp at h
  | k :: ks, v :: vs, h => by
    obtain ⟨h1, h2⟩ := putF_zip (f := f) (y := y) (ks := ks) (vs := vs) (by simpa using h)
    rw [List.zip_cons_cons, putF, putK, putA]
    by_cases e : k = f
    · rw [if_pos e, if_pos e, if_pos e]; exact ⟨rfl, by simpa using h⟩
    · rw [if_neg e, if_neg e, if_neg e, h1]; exact ⟨rfl, by simpa using h2⟩
theorem Reps.putA {K : PySem.W.Frag} {F : Hp} {f : Str} {y : V} {d : D} (h : Rep K F y d) : ∀ {ks : List Str} {vs : List V} {ds : List D}, Reps K F vs ds → Reps K F (Ev.putA f y ks vs) (Ev.putA f d ks ds)
  | [], _, _, _ => .cons h .nil
  | _ :: _, _, _, .nil => .nil
  | k :: ks, _, _, .cons r rs => by
    unfold Ev.putA
    by_cases e : k = f
    · rw [if_pos e, if_pos e]; exact .cons h rs
    · rw [if_neg e, if_neg e]; exact .cons r (Reps.putA h rs)
def fldS (Cs : List Addr) (i : Nat) (f : Str) (m : EM) : SM := fun ρ => match esc m ρ with
  | some (d, ρ1) => match ρ1[i]? with
    | some (some (.own (.ins C ks ds))) => if C ∈ Cs ∧ ks.length < 1000 then some (.nx, ρ1.set i (some (.own (.ins C (putK f ks) (putA f d ks ds))))) else none
    | _ => none
  | none => none
theorem se_fld (i : Nat) {x : Str} {px pos' : Pos} (h : OE X e m) (hc : Flds X.K Cs f) (hN : X.N[i]? = some x := by rfl) (hv : Vis X.env.scope x := by first | exact Or.inl rfl | exact Or.inr (Or.inl rfl) | exact Or.inr (Or.inr rfl)) (hd : (x == ("__debug__" : Str)) = false := by decide)
    (hcd : (x == ("__classdict__" : Str)) = false := by decide) (hs : swapsWith e (some (.Attribute (.Name x px) f pos')) pos.line X.env = pure false := by rfl) : SE X Wx (.Assign [.Attribute (.Name x px) f pos'] e pos) [] (fldS Cs i f m) := by
  refine ⟨ps_imp (ps_fld (pe_var hN hv hd hcd) h.ve.pe hs) fun Dn σ H ⟨Fr, F, ρ, out, ρ', R, em, k⟩ => ?_⟩
  unfold fldS at em
  split at em
  · rename_i d ρ1 e1
    split at em
    · rename_i C ks ds e2
      split at em
      · rename_i hm
        cases em
        refine ⟨Fr, F, ρ, _, _, R, e1, fun F1 H1 v q1 R1 r1 => ?_⟩
        obtain ⟨u, eu, a, o, ea, g1, g2, g3, g4⟩ := R1.slot i _ e2
        subst ea
        refine ⟨_, eu, ?_⟩
        cases g2 with
        | @ins _ dx _ vs _ l rs =>
          obtain ⟨z1, z2⟩ := putF_zip (f := f) (y := v) l
          refine ⟨a, C, dx, _, rfl, g1, (hc C hm.1).1, (hc C hm.1).2, ?_, ?_⟩
          · rw [List.length_zip]; omega
          · rw [z1]
            exact k F1 _ σ q1 (R1.mut e2 eu (.ins z2 (Reps.putA r1 rs))) (.refl _ _)
      · cases em
    · cases em
  · cases em
/-! C(e, ..) -/
def makeM (C : Addr) (fn : Fn) (am : AM) : EM := fun ρ => match am ρ with
  | some (os, ρ1) => match argsAll [] ρ1 1 os with
    | some ss => match fn (.own (.ins C [] []) :: ss) with
      | some (.val .non, post) => match (post : Rho)[0]? with
        | some (some (SV.own d)) => some (.tmp d, ρ1)
        | _ => none
      | _ => none
    | none => none
  | none => none
theorem argOne_app {b : Bool} {o : Opd} {ρ ρ2 : Rho} {s : SV} (h : argOne b o ρ = some s) : argOne b o (ρ ++ ρ2) = some s := by
  cases o with
  | val d => exact h
  | tmp d => exact h
  | var i =>
    unfold argOne at h ⊢
    dsimp only at h ⊢
    cases e : ρ[i]? with
    | none => rw [e] at h; cases h
    | some x => rw [List.getElem?_append_left (some_lt e), e]; rw [e] at h; exact h
theorem args_self {n : Nat} {ρ ρ2 : Rho} : ∀ {k : Nat} {os : List Opd} {ss : List SV}, 1 ≤ k → argsAll [] ρ k os = some ss → argsAll [0] (ρ ++ ρ2) k os = some ss
  | k, [], ss, _, h => by cases h; rfl
  | k, o :: os, ss, hk, h => by
    unfold argsAll at h ⊢
    have hk0 : decide (k ∈ [0]) = false := decide_eq_false (by simp; omega)
    have hk1 : decide (k ∈ ([] : List Nat)) = false := decide_eq_false (by simp)
    rw [hk1] at h
    rw [hk0]
    split at h
    · rename_i s e1
      split at h
      · rename_i ss' e2
        cases h
        rw [argOne_app e1, args_self (n := n) (by omega) e2]
      · cases h
    · cases h
theorem back_self {ρ : Rho} {post : Rho} : ∀ {k : Nat} {os : List Opd}, 1 ≤ k → putBack [0] post k os ρ = some ρ
  | k, [], _ => rfl
  | k, o :: os, hk => by
    unfold putBack
    rw [if_neg (by simp; omega)]
    exact back_self (by omega)
theorem NRels.app {K : PySem.W.Frag} {F : Hp} {σ σ2 : St} : ∀ {vs : List V} {os : List Opd}, NRels K F σ vs os → NRels K F (σ ++ σ2) vs os
  | _, _, .nil => .nil
  | _, _, .cons (a := v) (b := o) h r => .cons (by
      cases o with
      | val d => exact h
      | tmp d => exact h
      | var i =>
        have h : σ[i]? = some (some v) := h
        show (σ ++ σ2)[i]? = some (some v)
        rw [List.getElem?_append_left (some_lt h)]; exact h) (NRels.app r)
theorem Rel.pad1 {K : PySem.W.Frag} {Fr : Frm} {F H : Hp} {ρ : Rho} {σ : St} (R : Rel K Fr F ρ σ H) (n : Nat) (hn : ρ.length + n ≤ σ.length) : Rel K Fr F (ρ ++ List.replicate n none) σ H := by
  have old : ∀ {i : Nat} {s : SV}, (ρ ++ List.replicate n none)[i]? = some (some s) → ρ[i]? = some (some s) := fun {i s} h => by
    by_cases hi : i < ρ.length
    · rwa [List.getElem?_append_left hi] at h
    · rw [List.getElem?_append_right (by omega), List.getElem?_replicate] at h
      split at h <;> cases h
  exact ⟨R.fr, R.f, R.dj, fun i s h => R.slot i s (old h), fun i j s t h1 h2 => R.uniq i j s t (old h1) (old h2), by rw [List.length_append, List.length_replicate]; omega⟩
theorem own_new {K : PySem.W.Frag} {F : Hp} {C dx : Addr} : Own K F (.ins C dx []) (.ins C [] []) := Own.ins (ks := []) (vs := []) (ds := []) rfl .nil
theorem Rel.obj {K : PySem.W.Frag} {Fr : Frm} {F H : Hp} {ρ : Rho} {σ : St} (R : Rel K Fr F ρ σ H) {i : Nat} {s : SV} (h : ρ[i]? = some (some s)) (ho : s.ob = true) : ∃ a, σ[i]? = some (some (.ref a)) ∧ H a ≠ none := by
  obtain ⟨v, e, r⟩ := R.slot i s h
  cases s with
  | val d => cases ho
  | own d => obtain ⟨a, o, e2, h1, _⟩ := r; exact ⟨a, by rw [e, e2], by rw [h1]; exact fun z => nomatch z⟩
  | bor d => obtain ⟨a, o, e2, h1, _⟩ := r; exact ⟨a, by rw [e, e2], by rw [R.fr _ _ h1.1]; exact fun z => nomatch z⟩
  | lck d => obtain ⟨a, o, e2, h1, _⟩ := r; exact ⟨a, by rw [e, e2], by rw [R.fr _ _ h1.1]; exact fun z => nomatch z⟩
theorem get_snoc {α : Type} {l : List α} {x y : α} {i : Nat} (h : (l ++ [x])[i]? = some y) : l[i]? = some y ∨ (i = l.length ∧ y = x) := by
  by_cases hi : i < l.length
  · rw [List.getElem?_append_left hi] at h; exact .inl h
  · rw [List.getElem?_append_right (by omega)] at h
    have hl := some_lt h
    simp at hl
    have e : i = l.length := by omega
    subst e
    simp at h
    exact .inr ⟨rfl, h.symm⟩
theorem Rel.snoc {K : PySem.W.Frag} {Fr : Frm} {F H : Hp} {ρ : Rho} {σ : St} {x : Addr} {o : HO} {d : D} (R : Rel K Fr F ρ σ H) (hl : ρ.length = σ.length) (hx : H x = some o) (w : Own K F o d) (hF : F x = none) (hFr : Fr x = none)
    (hn : ∀ (i : Nat) (s : SV), ρ[i]? = some (some s) → s.ob = true → σ[i]? ≠ some (some (.ref x))) : Rel K Fr F (ρ ++ [some (.own d)]) (σ ++ [some (.ref x)]) H := by
  have sg : ∀ {i : Nat} {s : SV}, ρ[i]? = some (some s) → (σ ++ [some (V.ref x)])[i]? = σ[i]? := fun {i s} h => List.getElem?_append_left (by have := some_lt h; omega)
  have sl : (σ ++ [some (V.ref x)])[ρ.length]? = some (some (.ref x)) := by rw [hl]; simp
  refine ⟨R.fr, R.f, R.dj, fun i s h => ?_, fun i j s t h1 h2 x1 x2 z => ?_, by simp [hl]⟩
  · rcases get_snoc h with h | ⟨rfl, he⟩
    · obtain ⟨v, e, r⟩ := R.slot i s h
      exact ⟨v, by rw [sg h, e], r⟩
    · cases he
      exact ⟨_, sl, x, o, rfl, hx, w, hF, hFr⟩
  · rcases get_snoc h1 with h1 | ⟨rfl, he1⟩
    · rcases get_snoc h2 with h2 | ⟨rfl, he2⟩
      · rw [sg h1, sg h2] at z; exact R.uniq i j s t h1 h2 x1 x2 z
      · cases he2
        rw [sg h1, sl] at z
        exact absurd z (hn i s h1 (by cases s <;> first | rfl | cases x1))
    · cases he1
      rcases get_snoc h2 with h2 | ⟨rfl, he2⟩
      · rw [sg h2, sl] at z
        exact absurd z.symm (hn j t h2 x2)
      · rfl
theorem Rel.cutS {K : PySem.W.Frag} {Fr : Frm} {F H : Hp} {ρ r : Rho} {σ s : St} (R : Rel K Fr F (ρ ++ r) (σ ++ s) H) (hl : ρ.length ≤ σ.length) : Rel K Fr F ρ σ H := by
  have up : ∀ {i : Nat} {x : SV}, ρ[i]? = some (some x) → (ρ ++ r)[i]? = some (some x) ∧ (σ ++ s)[i]? = σ[i]? := fun {i x} h => ⟨by rw [List.getElem?_append_left (some_lt h)]; exact h, List.getElem?_append_left (by have := some_lt h; omega)⟩
  refine ⟨R.fr, R.f, R.dj, fun i x h => ?_, fun i j x t h1 h2 x1 x2 z => ?_, hl⟩
  · obtain ⟨v, e, r⟩ := R.slot i x (up h).1
    exact ⟨v, by rw [← (up h).2, e], r⟩
  · exact R.uniq i j x t (up h1).1 (up h2).1 x1 x2 (by rw [(up h1).2, (up h2).2]; exact z)
theorem vars_no {b : Bool} {i : Nat} : ∀ {k : Nat} {os : List Opd}, i ∈ varsAt [0] b k os → ∃ p : Nat, os[p]? = some (Opd.var i)
  | k, [], h => by simp [varsAt] at h
  | k, o :: os, h => by
    have rest : i ∈ varsAt [0] b (k + 1) os → ∃ p : Nat, (o :: os)[p]? = some (Opd.var i) := fun h => by
      obtain ⟨p, hp⟩ := vars_no h
      exact ⟨p + 1, by simpa using hp⟩
    cases o with
    | val d => exact rest h
    | tmp d => exact rest h
    | var j =>
      unfold varsAt at h
      split at h
      · rcases List.mem_cons.1 h with rfl | h
        · exact ⟨0, rfl⟩
        · exact rest h
      · exact rest h
theorem vars_none : ∀ {k : Nat} {os : List Opd}, 1 ≤ k → varsAt [0] true k os = []
  | k, [], _ => rfl
  | k, o :: os, hk => by
    have ih := vars_none (k := k + 1) (os := os) (by omega)
    cases o with
    | val d => exact ih
    | tmp d => exact ih
    | var j =>
      unfold varsAt
      rw [if_neg (by simp; omega)]
      exact ih
theorem make_read {σ : St} {H : Hp} {Q : VK} {E : XK} {C : Addr} (h : tE X.K (makeM C fn am) σ H Q) (hn : ∀ ρ os ρ', am ρ = some (os, ρ') → os.length + 1 = np) : tMake C (spF X.K fn np) [] E (tA X.K am) σ H Q := by
  obtain ⟨Fr, F, ρ, o, ρ', R, em, kk⟩ := h
  unfold makeM at em
  split at em
  · rename_i os ρ1 e1
    split at em
    · rename_i ss e2
      split at em
      · rename_i post e3
        split at em
        · rename_i d e4
          cases em
          refine ⟨Fr, F, ρ, os, _, R, e1, fun F1 H1 vs q1 R1 rs x dx hx hdx hne => ?_⟩
          have S1 : Same H1 (upd H1 dx (.own x)) := same_new hdx
          have hx' : (upd H1 dx (.own x)) x = none := by rw [upd_ne (fun z => hne z.symm)]; exact hx
          have S2 : Same H1 (upd (upd H1 dx (.own x)) x (.ins C dx [])) := S1.trans (same_new hx')
          have R2 := R1.grow (Same.refl F1) S2 (R1.f.trans S2) R1.dj (fun b z1 z2 => absurd z2 z1)
          have Rp := R2.pad1 (σ.length - ρ'.length) (by have := R2.len; omega)
          have hpl : (ρ' ++ List.replicate (σ.length - ρ'.length) (none : Option SV)).length = σ.length := by rw [List.length_append, List.length_replicate]; have := R2.len; omega
          have Rp1 := R1.pad1 (σ.length - ρ'.length) (by have := R2.len; omega)
          generalize hr : List.replicate (σ.length - ρ'.length) (none : Option SV) = rr at Rp hpl Rp1
          have R3 := Rp.snoc (d := .ins C [] []) hpl upd_same own_new (R1.f.free hx) (R1.fr.free hx) (fun i s z1 z2 z3 => by
            obtain ⟨a, z4, z5⟩ := Rp1.obj z1 z2
            rw [z4] at z3
            cases z3
            exact z5 hx)
          have rs' : NRels X.K F1 (σ ++ [some (V.ref x)]) (.ref x :: vs) (.var σ.length :: os) := .cons (by show (σ ++ [some (V.ref x)])[σ.length]? = _; simp) rs.app
          have hxo : exclOk [0] (.var σ.length :: os) = true := by
            unfold exclOk
            rw [Bool.and_eq_true]
            have e5 : varsAt [0] true 0 (.var σ.length :: os) = [σ.length] := by unfold varsAt; rw [if_pos (by simp), vars_none (by omega)]
            have e6 : varsAt [0] false 0 (.var σ.length :: os) = varsAt [0] false 1 os := by conv => lhs; unfold varsAt; rw [if_neg (by simp)]
            rw [e5, e6]
            refine ⟨by simp [nodupB], ?_⟩
            unfold apartB apartB
            rw [Bool.and_true, Bool.not_eq_true', ← Bool.not_eq_true]
            intro hc
            have hm := List.contains_iff_mem.1 hc
            obtain ⟨p, hp⟩ := vars_no hm
            obtain ⟨v, _, g⟩ := nrel_get rs hp
            have g : σ[σ.length]? = some (some v) := g
            simp at g
          have eA : argsAll [0] ((ρ' ++ rr) ++ [some (.own (.ins C [] []))]) 0 (.var σ.length :: os) = some (.own (.ins C [] []) :: ss) := by
            unfold argsAll
            have e5 : argOne (decide (0 ∈ [0])) (.var σ.length) ((ρ' ++ rr) ++ [some (.own (.ins C [] []))]) = some (.own (.ins C [] [])) := by
              unfold argOne
              dsimp only
              rw [← hpl, List.getElem?_append_right (Nat.le_refl _)]
              simp
            rw [e5, List.append_assoc, args_self (n := 0) (Nat.le_refl 1) e2]
          have eB : putBack [0] post 0 (.var σ.length :: os) ((ρ' ++ rr) ++ [some (.own (.ins C [] []))]) = some ((ρ' ++ rr) ++ [some (.own d)]) := by
            conv => lhs; unfold putBack
            rw [if_pos (by simp), e4]
            dsimp only
            rw [back_self (by omega), ← hpl]
            simp
          rw [List.append_nil]
          refine call_core R3 rs' (by rw [List.length_cons]; exact hn _ _ _ e1) hxo eA e3 (fun i z => nomatch z) eB fun F2 H2 v q2 R4 r => ?_
          cases r
          refine ⟨rfl, kk F2 H2 (.ref x) (q1.trans q2) ?_ ?_⟩
          · rw [List.append_assoc] at R4
            exact R4.cutS R1.len
          · have z0 : (((ρ' ++ rr) ++ [some (SV.own d)]))[σ.length]? = some (some (.own d)) := by rw [← hpl]; simp
            obtain ⟨v', z1, a, o, z2, z3, z4, z5, z6⟩ := R4.slot _ _ z0
            have z7 : v' = .ref x := by simp at z1; exact z1.symm
            rw [z7] at z2
            refine ⟨a, o, z2, z3, z4, z5, z6, fun i e y1 y2 => ?_⟩
            have y3 : (((ρ' ++ rr) ++ [some (SV.own d)]))[i]? = some (some (.own e)) := by rw [List.append_assoc, List.getElem?_append_left (some_lt y1)]; exact y1
            have hi := some_lt y2
            have := R4.uniq i σ.length _ _ y3 z0 rfl rfl (by rw [List.getElem?_append_left hi, y2]; simp)
            omega
        · cases em
      · cases em
    · cases em
  · cases em
/-- a class whose instances a def makes -/
structure MakerOf (P : Program) (w : World) (K : PySem.W.Frag) (mg : Str → Option Value) (base : Heap) (k : Nat) (x : Str) (C : Addr) (np : Nat) (fn : Fn) : Prop where
  ex : ∃ f fd ps, Mk K C f ∧ FnOk P w K mg base CX0 k f fd ps (spF K fn np) ∧ mg x = some (.ref C) ∧ Binds K fd ps []
theorem oe_make {x : Str} {p pos : Pos} {C : Addr} (c : MakerOf X.prog X.w X.K X.mg X.base k x C np fn) (hr : Room (k + 1) X.A) (ha : AE X (e :: es) am) (hn : ∀ ρ os ρ', am ρ = some (os, ρ') → os.length + 1 = np) (hg : Gl X x := by rfl) (hdb : (x == ("__debug__" : Str)) = false := by decide)
    (he : starEach (e :: es) X.env = (false, eval e X.env) :: starEach es X.env := by rfl) (hpl : (backTo pos (starEach es X.env)).any (·.1) = false := by rfl) : OE X (.Call (.Name x p) (e :: es) [] pos) (makeM C fn am) := by
  obtain ⟨f, fd, ps, M, Fo, hm, hb⟩ := c.ex
  exact ⟨pe_imp (pe_make M Fo hr hg hm hb .nil pass0 ha.pa hdb he hpl) fun σ H Q h => make_read h hn⟩
/-! o.m(e, ..) -/
def insD (C : Addr) (nm : Str) : D → Bool
  | .ins C' ks ds => decide (C' = C) && decide (nm ∉ ks) && decide (ks.length = ds.length)
  | _ => false
def methC (C : Addr) (nm : Str) (fn : Fn) (io : List Nat) (m : EM) (am : AM) : EM := fun ρ => match frz m ρ with
  | some (o, ρ1) => match look o ρ1 with
    | some d => if insD C nm d = true then match am ρ1 with
      | some (os, ρ2) => if exclOk io (o :: os) then match argsAll io ρ2 0 (o :: os) with
        | some svs => match fn svs with
          | some (.val d, post) => match putBack io post 0 (o :: os) ρ2 with
            | some ρ3 => some (.val d, ρ3)
            | none => none
          | some (.tmp d, post) => match putBack io post 0 (o :: os) ρ2 with
            | some ρ3 => some (.tmp d, ρ3)
            | none => none
          | _ => none
        | none => none else none
      | none => none else none
    | none => none
  | none => none
theorem look_none {nm : Str} : ∀ {ks : List Str} {vs : List V}, nm ∉ ks → (ks.zip vs).lookup nm = none
  | [], _, _ => rfl
  | _ :: _, [], _ => rfl
  | k :: ks, v :: vs, h => by
    rw [List.zip_cons_cons, List.lookup_cons]
    have h1 : (nm == k) = false := by
      rw [beq_eq_false_iff_ne]; exact fun e => h (by rw [e]; exact List.mem_cons_self ..)
    rw [h1]
    exact look_none fun z => h (List.mem_cons_of_mem _ z)
theorem methC_some {C : Addr} {nm : Str} {io : List Nat} {ρ ρ3 : Rho} {r : Opd} (h : methC C nm fn io m am ρ = some (r, ρ3)) : ∃ o ρ1 d os ρ2 svs post, frz m ρ = some (o, ρ1) ∧ look o ρ1 = some d ∧ insD C nm d = true ∧ am ρ1 = some (os, ρ2) ∧ exclOk io (o :: os) = true ∧
    argsAll io ρ2 0 (o :: os) = some svs ∧ fn svs = some (r, post) ∧ (∀ i, r ≠ .var i) ∧ putBack io post 0 (o :: os) ρ2 = some ρ3 := by
  unfold methC at h
  split at h
  · rename_i o ρ1 e1
    split at h
    · rename_i d e2
      split at h
      · rename_i hi
        split at h
        · rename_i os ρ2 e3
          split at h
          · rename_i hx
            split at h
            · rename_i svs e4
              split at h
              · rename_i d' post e5
                split at h
                · rename_i ρ' e6
                  cases h
                  exact ⟨o, ρ1, d, os, ρ2, svs, post, e1, e2, hi, e3, hx, e4, e5, (fun i z => nomatch z), e6⟩
                · cases h
              · rename_i d' post e5
                split at h
                · rename_i ρ' e6
                  cases h
                  exact ⟨o, ρ1, d, os, ρ2, svs, post, e1, e2, hi, e3, hx, e4, e5, (fun i z => nomatch z), e6⟩
                · cases h
              · cases h
            · cases h
          · cases h
        · cases h
      · cases h
    · cases h
  · cases h
theorem insD_some {K : PySem.W.Frag} {F H : Hp} {v : V} {C : Addr} {nm : Str} {d : D} (s : Same F H) (h : Viw K F H v d) (hi : insD C nm d = true) : ∃ a dx fs, v = .ref a ∧ H a = some (.ins C dx fs) ∧ fs.lookup nm = none := by
  cases d with
  | ins C' ks ds =>
    unfold insD at hi
    rw [Bool.and_eq_true, Bool.and_eq_true, decide_eq_true_iff, decide_eq_true_iff] at hi
    obtain ⟨⟨rfl, h2⟩, _⟩ := hi
    obtain ⟨a, dx, vs, rfl, h3, _, _⟩ := h.ins s
    exact ⟨a, dx, _, rfl, h3, look_none h2⟩
  | _ => cases hi
theorem methC_read {C : Addr} {nm : Str} {io : List Nat} {σ : St} {H : Hp} {Q : VK} {E : XK} (h : tE X.K (methC C nm fn io m am) σ H Q) (hn : ∀ ρ os ρ', am ρ = some (os, ρ') → os.length + 1 = np) : tMeth C nm (spF X.K fn np) [] E (tN X.K (frz m)) (tA X.K am) σ H Q := by
  obtain ⟨Fr, F, ρ, r, ρ3, R, em, kk⟩ := h
  obtain ⟨o, ρ1, d, os, ρ2, svs, post, e1, e2, hi, e3, hx, e4, e5, hv, e6⟩ := methC_some em
  refine ⟨Fr, F, ρ, o, ρ1, R, e1, fun F1 H1 v q1 R1 r1 => ?_⟩
  obtain ⟨a, dx, fs, rfl, h1, h2⟩ := insD_some R1.f (r1.look R1 e2) hi
  refine ⟨a, dx, fs, rfl, h1, h2, Fr, F1, ρ1, os, ρ2, R1, e3, fun F2 H2 vs q2 R2 rs => ?_⟩
  show spF X.K fn np (V.ref a :: (vs ++ [])) H2 Q E
  rw [List.append_nil]
  exact call_core R2 (.cons (r1.mono q2) rs) (by rw [List.length_cons]; exact hn _ _ _ e3) hx e4 e5 hv e6 fun F' H' v q R' r' => kk F' H' v ((q1.trans q2).trans q) R' r'
/-- a method that may be called -/
structure MethOf (P : Program) (w : World) (K : PySem.W.Frag) (mg : Str → Option Value) (base : Heap) (k : Nat) (C : Addr) (nm : Str) (np : Nat) (fn : Fn) : Prop where
  ex : ∃ f fd ps, Cls K C ∧ Meth K C nm f ∧ FnOk P w K mg base CX0 k f fd ps (spF K fn np) ∧ Binds K fd ps []
theorem oe_mcall {C : Addr} {nm : Str} {io : List Nat} {apos pos : Pos} {o : Expr} {pl : Sem Bool} (c : MethOf X.prog X.w X.K X.mg X.base k C nm np fn) (hr : Room k X.A) (ho : OE X o m) (ha : AE X (e :: es) am) (hn : ∀ ρ os ρ', am ρ = some (os, ρ') → os.length + 1 = np)
    (hst : starEach (e :: es) X.env = (false, eval e X.env) :: starEach es X.env := by rfl) (hpl : (backTo pos (starEach es X.env)).any (·.1) = false := by rfl)
    (ht : eval (.Call (.Attribute o nm apos) (e :: es) [] pos) X.env = (do
      let ov ← eval o X.env
      standAt apos.atName
      let (f, first) ← holding [ov] (getMethod ov nm pl)
      callWith pos f first (backTo pos (starEach (e :: es) X.env)) (backToKw pos (keywordEach [] X.env))) := by rfl) : OE X (.Call (.Attribute o nm apos) (e :: es) [] pos) (methC C nm fn io m am) := by
  obtain ⟨f, fd, ps, hc, hm, Fo, hb⟩ := c.ex
  exact ⟨pe_imp (pe_meth (pl := pl) ho.ne.pe hc hm Fo hr hb .nil pass0 ha.pa hst hpl ht) fun σ H Q h => methC_read h hn⟩
theorem tNil_of {σ : St} {H : Hp} {Q : List V → Hp → Prop} (h : tA X.K nilA σ H Q) : tNil σ H Q := by
  obtain ⟨Fr, F, ρ, os, ρ', R, em, k⟩ := h
  cases em
  exact k F H [] (Same.refl F) R .nil
theorem oe_mcall0 {C : Addr} {nm : Str} {io : List Nat} {apos pos : Pos} {o : Expr} {pl : Sem Bool} (c : MethOf X.prog X.w X.K X.mg X.base k C nm 1 fn) (hr : Room k X.A) (ho : OE X o m)
    (ht : eval (.Call (.Attribute o nm apos) [] [] pos) X.env = (do
      let ov ← eval o X.env
      standAt apos.atName
      let (f, first) ← holding [ov] (getMethod ov nm pl)
      callWith pos f first (backTo pos (starEach [] X.env)) (backToKw pos (keywordEach [] X.env))) := by rfl) : OE X (.Call (.Attribute o nm apos) [] [] pos) (methC C nm fn io m nilA) := by
  obtain ⟨f, fd, ps, hc, hm, Fo, hb⟩ := c.ex
  refine ⟨pe_imp (pe_meth0 (pl := pl) ho.ne.pe hc hm Fo hr hb .nil pass0 ht) fun σ H Q h => ?_⟩
  obtain ⟨Fr, F, ρ, o, ρ1, R, e1, kk⟩ := methC_read (E := _) h (fun ρ os ρ' e => by rw [nilA_len e])
  exact ⟨Fr, F, ρ, o, ρ1, R, e1, fun F1 H1 v q1 R1 r1 => by
    obtain ⟨a, dx, fs, z1, z2, z3, z4⟩ := kk F1 H1 v q1 R1 r1
    exact ⟨a, dx, fs, z1, z2, z3, tNil_of z4⟩⟩
end
end Ev

set_option Elab.async false
set_option linter.all false
set_option maxRecDepth 100000
/-! Ev. K: chains of comparisons, constants of a module, list(range(n)), properties. -/
set_option autoImplicit false
namespace Ev
open PySem PySem.Spec PyProof.Rows L2

section
variable {X : Cx} {a b c e : Expr} {m ma mb mc : EM} {am : AM} {pos : Pos} {np k : Nat} {fn : Fn}
/-! a < b < c -/
def chnM (g g' : D → D → Option Opd) (ma mb mc : EM) : EM := fun ρ => match frz ma ρ with
  | some (oa, ρ1) => match frz mb ρ1 with
    | some (ob, ρ2) => match look oa ρ2 with
      | some d => match look ob ρ2 with
        | some e => match g d e with
          | some (.val (.bl true)) => match frz mc ρ2 with
            | some (oc, ρ3) => match look ob ρ3 with
              | some e' => match look oc ρ3 with
                | some f => match g' e' f with
                  | some o => some (o, ρ3)
                  | none => none
                | none => none
              | none => none
            | none => none
          | some (.val (.bl false)) => some (.val (.bl false), ρ2)
          | _ => none
        | none => none
      | none => none
    | none => none
  | none => none
theorem chain_read {r r' : R2} {g g' : D → D → Option Opd} (hs : OpS X r g) (hs' : OpS X r' g') {σ : St} {H : Hp} {Q : VK} (h : tE X.K (chnM g g' ma mb mc) σ H Q) : tChain r r' (tN X.K (frz ma)) (tN X.K (frz mb)) (tN X.K (frz mc)) σ H Q := by
  obtain ⟨Fr, F, ρ, o, ρ', R, em, kk⟩ := h
  unfold chnM at em
  split at em
  · rename_i oa ρ1 e1
    split at em
    · rename_i ob ρ2 e2
      split at em
      · rename_i d e3
        split at em
        · rename_i ee e4
          split at em
          · rename_i e5
            split at em
            · rename_i oc ρ3 e6
              split at em
              · rename_i e' e7
                split at em
                · rename_i f e8
                  split at em
                  · rename_i o' e9
                    cases em
                    refine ⟨Fr, F, ρ, _, _, R, e1, fun F1 H1 x q1 R1 r1 => ⟨Fr, F1, ρ1, _, _, R1, e2, fun F2 H2 y q2 R2 r2 => ?_⟩⟩
                    refine hs R2 ((r1.mono q2).look R2 e3) (r2.look R2 e4) e5 fun F3 H3 v q3 R3 r3 => ?_
                    cases r3
                    refine ⟨true, rfl, ?_⟩
                    rw [if_pos rfl]
                    refine ⟨Fr, F3, ρ2, _, _, R3, e6, fun F4 H4 w q4 R4 r4 => ?_⟩
                    exact hs' R4 (((r2.mono q3).mono q4).look R4 e7) (r4.look R4 e8) e9 fun F5 H5 u q5 R5 r5 => kk F5 H5 u ((((q1.trans q2).trans q3).trans q4).trans q5) R5 r5
                  · cases em
                · cases em
              · cases em
            · cases em
          · rename_i e5
            cases em
            refine ⟨Fr, F, ρ, _, _, R, e1, fun F1 H1 x q1 R1 r1 => ⟨Fr, F1, ρ1, _, _, R1, e2, fun F2 H2 y q2 R2 r2 => ?_⟩⟩
            refine hs R2 ((r1.mono q2).look R2 e3) (r2.look R2 e4) e5 fun F3 H3 v q3 R3 r3 => ?_
            cases r3
            refine ⟨false, rfl, ?_⟩
            rw [if_neg (by decide)]
            exact kk F3 H3 _ ((q1.trans q2).trans q3) R3 (.bl false)
          · cases em
        · cases em
      · cases em
    · cases em
  · cases em
theorem oe_chain {op op' : CmpOp} {r r' : R2} {g g' : D → D → Option Opd} (ho : OpR X (compareOp op) r) (ho' : OpR X (compareOp op') r') (hs : OpS X r g) (hs' : OpS X r' g') (ha : OE X a ma) (hb : OE X b mb) (hc : OE X c mc)
    (hm : lastMarks [op, op'] [b, c] = false := by with_unfolding_all rfl) : OE X (.Compare a [op, op'] [b, c] pos) (chnM g g' ma mb mc) :=
  ⟨pe_imp (pe_chain ho ho' ha.ne.pe hb.ne.pe hc.ne.pe hm) fun σ H Q h => chain_read hs hs' h⟩
theorem oe_le_le (ha : OE X a ma) (hb : OE X b mb) (hc : OE X c mc) (hm : lastMarks [.LtE, .LtE] [b, c] = false := by with_unfolding_all rfl) : OE X (.Compare a [.LtE, .LtE] [b, c] pos) (chnM leG leG ma mb mc) := oe_chain op_le op_le ops_B0 ops_B0 ha hb hc hm
theorem oe_lt_lt (ha : OE X a ma) (hb : OE X b mb) (hc : OE X c mc) (hm : lastMarks [.Lt, .Lt] [b, c] = false := by with_unfolding_all rfl) : OE X (.Compare a [.Lt, .Lt] [b, c] pos) (chnM ltG ltG ma mb mc) := oe_chain op_lt op_lt ops_B0 ops_B0 ha hb hc hm
theorem oe_le_lt (ha : OE X a ma) (hb : OE X b mb) (hc : OE X c mc) (hm : lastMarks [.LtE, .Lt] [b, c] = false := by with_unfolding_all rfl) : OE X (.Compare a [.LtE, .Lt] [b, c] pos) (chnM leG ltG ma mb mc) := oe_chain op_le op_lt ops_B0 ops_B0 ha hb hc hm
theorem oe_lt_le (ha : OE X a ma) (hb : OE X b mb) (hc : OE X c mc) (hm : lastMarks [.Lt, .LtE] [b, c] = false := by with_unfolding_all rfl) : OE X (.Compare a [.Lt, .LtE] [b, c] pos) (chnM ltG leG ma mb mc) := oe_chain op_lt op_le ops_B0 ops_B0 ha hb hc hm
theorem te_chain {op op' : CmpOp} {r r' : R2} {g g' : D → D → Option Opd} (ho : OpR X (compareOp op) r) (ho' : OpR X (compareOp op') r') (hs : OpS X r g) (hs' : OpS X r' g') (ha : OE X a ma) (hb : OE X b mb) (hc : OE X c mc)
    (hm : lastMarks [op, op'] [b, c] = false := by with_unfolding_all rfl) : TeE X (.Compare a [op, op'] [b, c] pos) (boolM (chnM g g' ma mb mc)) := by
  refine ⟨pt_imp (pt_chain ho ho' ha.ne.pe hb.ne.pe hc.ne.pe hm) fun σ H Q ⟨Fr, F, ρ, t, ρ', R, em, kk⟩ => ?_⟩
  exact chain_read hs hs' ⟨Fr, F, ρ, _, ρ', R, boolM_some em, fun F' H' v s R' q => by cases q; exact ⟨t, rfl, kk F' H' s R'⟩⟩
theorem te_le_le (ha : OE X a ma) (hb : OE X b mb) (hc : OE X c mc) (hm : lastMarks [.LtE, .LtE] [b, c] = false := by with_unfolding_all rfl) : TeE X (.Compare a [.LtE, .LtE] [b, c] pos) (boolM (chnM leG leG ma mb mc)) := te_chain op_le op_le ops_B0 ops_B0 ha hb hc hm
theorem te_lt_lt (ha : OE X a ma) (hb : OE X b mb) (hc : OE X c mc) (hm : lastMarks [.Lt, .Lt] [b, c] = false := by with_unfolding_all rfl) : TeE X (.Compare a [.Lt, .Lt] [b, c] pos) (boolM (chnM ltG ltG ma mb mc)) := te_chain op_lt op_lt ops_B0 ops_B0 ha hb hc hm
theorem te_le_lt (ha : OE X a ma) (hb : OE X b mb) (hc : OE X c mc) (hm : lastMarks [.LtE, .Lt] [b, c] = false := by with_unfolding_all rfl) : TeE X (.Compare a [.LtE, .Lt] [b, c] pos) (boolM (chnM leG ltG ma mb mc)) := te_chain op_le op_lt ops_B0 ops_B0 ha hb hc hm
theorem te_lt_le (ha : OE X a ma) (hb : OE X b mb) (hc : OE X c mc) (hm : lastMarks [.Lt, .LtE] [b, c] = false := by with_unfolding_all rfl) : TeE X (.Compare a [.Lt, .LtE] [b, c] pos) (boolM (chnM ltG leG ma mb mc)) := te_chain op_lt op_le ops_B0 ops_B0 ha hb hc hm
/-! a constant of the module -/
structure Kst (mg : Str → Option Value) (x : Str) (d : D) : Prop where
  ex : ∃ u v, mg x = some u ∧ RelV v u ∧ ∀ (K : PySem.W.Frag) (F : Hp), Rep K F v d
theorem oe_glob {x : Str} {d : D} (c : Kst X.mg x d) (hg : Gl X x := by rfl) (hd : (x == ("__debug__" : Str)) = false := by decide) : OE X (.Name x pos) (constM d) := by
  obtain ⟨u, v, h1, h2, h3⟩ := c.ex
  refine ⟨pe_imp (pe_glob hg h1 h2 hd) fun σ H Q ⟨Fr, F, ρ, o, ρ', R, em, kk⟩ => ?_⟩
  cases em
  exact kk F H v (Same.refl F) R (h3 _ _)
theorem kst_int {mg : Str → Option Value} {x : Str} {i : Int} (h : ∃ t, mg x = some (.int i t)) : Kst mg x (.int i) := by
  obtain ⟨t, h⟩ := h
  exact ⟨_, .int i, h, ⟨t, rfl⟩, fun K F => .int i⟩
theorem kst_str {mg : Str → Option Value} {x : Str} {i : Str} (h : ∃ t, mg x = some (.str i t)) : Kst mg x (.str i) := by
  obtain ⟨t, h⟩ := h
  exact ⟨_, .str i, h, ⟨t, rfl⟩, fun K F => .str i⟩
/-! list(range(n)) -/
def lrgM (m : EM) : EM := fun ρ => match m ρ with
  | some (.val (.int n), ρ') => if inR n = true ∧ n.toNat ≤ 2 ^ 24 then some (.tmp (.lst (rangeD 0 n.toNat)), ρ') else none
  | _ => none
theorem rg_reps {K : PySem.W.Frag} {F : Hp} (n : Int) : Reps K F (rgV 0 n) (rangeD 0 n.toNat) := by
  have e1 : rgV 0 n = ((List.range n.toNat).map fun i : Nat => (0 : Int) + i).map V.int := by unfold rgV; rw [List.map_map, Int.sub_zero]; rfl
  have e2 : rangeD 0 n.toNat = ((List.range n.toNat).map fun i : Nat => (0 : Int) + i).map D.int := by unfold rangeD; rw [List.map_map]; rfl
  rw [e1, e2]
  exact Reps.of_ints _
theorem oe_listRg {p p2 pos2 : Pos} (hc : X.calm = true) (ha : OE X a m) (hm : X.mg "list" = none) (hm2 : X.mg "range" = none) (hg : Gl X "list" := by rfl) (hg2 : Gl X "range" := by rfl)
    (n1 : starEach [a] X.env = (false, eval a X.env) :: starEach [] X.env := by rfl) (n2 : starEach [.Call (.Name "range" p2) [a] [] pos2] X.env = (false, eval (.Call (.Name "range" p2) [a] [] pos2) X.env) :: starEach [] X.env := by rfl) :
    OE X (.Call (.Name "list" p) [.Call (.Name "range" p2) [a] [] pos2] [] pos) (lrgM m) := by
  refine ⟨pe_imp (pe_listRg hc hg hm (prg_1 hg2 hm2 ha.pe n1) n2) fun σ H Q ⟨Fr, F, ρ, o, ρ', R, em, kk⟩ => ?_⟩
  unfold lrgM at em
  split at em
  · rename_i n ρ1 e1
    split at em
    · rename_i h
      cases em
      refine ⟨Fr, F, ρ, _, _, R, e1, fun F1 H1 v q1 R1 r1 => ?_⟩
      cases r1
      have hi := inR_iff h.1
      refine ⟨n, rfl, ⟨by omega, by omega, hi.1, hi.2, by rw [Int.sub_zero]; exact h.2⟩, fun q hq => ?_⟩
      obtain ⟨R2, r2⟩ := R1.tmp hq (.lst (rg_reps n))
      exact kk F1 _ _ q1 R2 r2
    · cases em
  · cases em
/-! o.f, a property -/
def isInsC (C : Addr) : D → Bool
  | .ins C' _ _ => decide (C' = C)
  | _ => false
def propC (C : Addr) (fn : Fn) (m : EM) : EM := fun ρ => match frz m ρ with
  | some (o, ρ1) => match look o ρ1 with
    | some d => if isInsC C d = true then match argsAll [] ρ1 0 [o] with
      | some svs => match fn svs with
        | some (.val d, _) => some (.val d, ρ1)
        | some (.tmp d, _) => some (.tmp d, ρ1)
        | _ => none
      | none => none else none
    | none => none
  | none => none
theorem propC_some {C : Addr} {ρ ρ3 : Rho} {r : Opd} (h : propC C fn m ρ = some (r, ρ3)) : ∃ o d svs post, frz m ρ = some (o, ρ3) ∧ look o ρ3 = some d ∧ isInsC C d = true ∧ argsAll [] ρ3 0 [o] = some svs ∧ fn svs = some (r, post) ∧ (∀ i, r ≠ .var i) := by
  unfold propC at h
  split at h
  · rename_i o ρ1 e1
    split at h
    · rename_i d e2
      split at h
      · rename_i hi
        split at h
        · rename_i svs e4
          split at h
          · rename_i d' post e5
            cases h
            exact ⟨o, d, svs, post, e1, e2, hi, e4, e5, (fun i z => nomatch z)⟩
          · rename_i d' post e5
            cases h
            exact ⟨o, d, svs, post, e1, e2, hi, e4, e5, (fun i z => nomatch z)⟩
          · cases h
        · cases h
      · cases h
    · cases h
  · cases h
structure PropOn (P : Program) (w : World) (K : PySem.W.Frag) (mg : Str → Option Value) (base : Heap) (k : Nat) (C : Addr) (f : Str) (fn : Fn) : Prop where
  ex : ∃ p g fd ps, Cls K C ∧ PropOf K C f p g ∧ FnOk P w K mg base CX0 k g fd ps (spF K fn 1) ∧ Binds K fd ps []
theorem oe_prop {C : Addr} {f : Str} (c : PropOn X.prog X.w X.K X.mg X.base k C f fn) (hr : Room (k + 1) X.A) (he : OE X e m) (hab : attributeBase e f X.env (eval e X.env) = eval e X.env := by rfl) : OE X (.Attribute e f pos) (propC C fn m) := by
  obtain ⟨p, g, fd, ps, hc, hp, Fo, hb⟩ := c.ex
  refine ⟨pe_imp (pe_prop he.ne.pe hc hp Fo hr hb .nil pass0 hab) fun σ H Q ⟨Fr, F, ρ, r, ρ3, R, em, kk⟩ => ?_⟩
  obtain ⟨o, d, svs, post, e1, e2, hi, e4, e5, hv⟩ := propC_some em
  refine ⟨Fr, F, ρ, o, ρ3, R, e1, fun F1 H1 v q1 R1 r1 => ?_⟩
  cases d with
  | ins C' ks ds =>
    have := of_decide_eq_true hi
    subst this
    obtain ⟨a, dx, vs, rfl, h3, _, _⟩ := (r1.look R1 e2).ins R1.f
    refine ⟨a, dx, _, rfl, h3, ?_⟩
    exact call_core (io := []) (os := [o]) R1 (.cons r1 .nil) rfl (by
      unfold exclOk
      have e6 : varsAt [] true 0 [o] = [] := by cases o <;> simp [varsAt]
      rw [e6]; rfl) e4 e5 hv (by
      unfold putBack; rw [if_neg (by simp)]; rfl) fun F' H' v q R' r' => kk F' H' v (q1.trans q) R' r'
  | _ => cases hi
theorem flds_nil {K : PySem.W.Frag} {f : Str} : Flds K [] f := fun C h => nomatch h
theorem flds_cons {K : PySem.W.Frag} {f : Str} {C : Addr} {Cs : List Addr} (h : Cls K C) (n : NoAttr K C f) (r : Flds K Cs f) : Flds K (C :: Cs) f := fun D h2 => by
  rcases List.mem_cons.1 h2 with rfl | h2
  · exact ⟨h, n⟩
  · exact r D h2
theorem len_up {n : Nat} (h : ∀ ρ os ρ', am ρ = some (os, ρ') → os.length = n) : ∀ ρ os ρ', am ρ = some (os, ρ') → os.length + 1 = n + 1 := fun ρ os ρ' e => by rw [h ρ os ρ' e]
end
end Ev

set_option Elab.async false
set_option linter.all false
set_option maxRecDepth 100000
/-! Ev. L: dicts with ints and texts as keys. -/
set_option autoImplicit false
namespace Ev
open PySem PySem.Spec PyProof.Rows L2

def keyD : D → Option Key
  | .int i => some (.inl i)
  | .str s => some (.inr s)
  | _ => none
def dlk {κ : Type} [DecidableEq κ] (k : κ) {α : Type} : List κ → List α → Option α
  | k' :: ks, d :: ds => if k' = k then some d else dlk k ks ds
  | _, _ => none
def hasK {κ : Type} [DecidableEq κ] (k : κ) (ks : List κ) : Bool := ks.any fun k' => decide (k' = k)
def dputK {κ : Type} [DecidableEq κ] (k : κ) (ks : List κ) : List κ := if hasK k ks = true then ks else ks ++ [k]
def dputD {κ : Type} [DecidableEq κ] {α : Type} (k : κ) (d : α) (ks : List κ) (ds : List α) : List α := if hasK k ks = true then List.zipWith (fun k' x => if k' = k then d else x) ks ds else ds ++ [d]
section
variable {K : PySem.W.Frag} {F H : Hp} {v : V} {d : D}
theorem Rep.key {k : Key} (h : Rep K F v d) (e : keyD d = some k) : v = kV k := by
  cases h <;> cases e <;> rfl
theorem Viw.key {k : Key} (h : Viw K F H v d) (e : keyD d = some k) : v = kV k := by
  rcases h with h | ⟨a, o, e1, h1, h2⟩
  · exact h.key e
  · cases h2 <;> cases e
theorem dlk_val {κ : Type} [DecidableEq κ] {k : κ} : ∀ {ks : List κ} {vs : List V} {ds : List D}, Reps K F vs ds → ks.length = vs.length → (∀ d, dlk k ks ds = some d → ∃ v, valV (ks.zip vs) k = some v ∧ Rep K F v d) ∧ (dlk k ks ds = none → valV (ks.zip vs) k = none)
  | [], _, _, _, _ => ⟨(fun d h => nomatch h), fun _ => rfl⟩
  | k' :: ks, _, _, .nil, h => by simp at h
  | k' :: ks, _, _, .cons r rs, h => by
    obtain ⟨h1, h2⟩ := dlk_val (k := k) rs (ks := ks) (by simpa using h)
    rw [List.zip_cons_cons]
    by_cases e : k' = k
    · constructor
      · intro d hd
        rw [dlk, if_pos e] at hd
        cases hd
        exact ⟨_, valV_pos e, r⟩
      · intro hd
        rw [dlk, if_pos e] at hd
        cases hd
    · constructor
      · intro d hd
        rw [dlk, if_neg e] at hd
        obtain ⟨v, h3, h4⟩ := h1 d hd
        exact ⟨v, by rw [valV_neg (by exact e)]; exact h3, h4⟩
      · intro hd
        rw [dlk, if_neg e] at hd
        rw [valV_neg (by exact e)]; exact h2 hd
theorem any_zip {κ : Type} [DecidableEq κ] {k : κ} : ∀ {ks : List κ} {vs : List V}, ks.length = vs.length → ((ks.zip vs).any fun kv => decide (kv.1 = k)) = hasK k ks
  | [], _, _ => by simp [hasK]
  | k' :: ks, [], h => by simp at h
  | k' :: ks, v :: vs, h => by
    rw [List.zip_cons_cons, List.any_cons, any_zip (by simpa using h), hasK, hasK, List.any_cons]
theorem map_zip {κ : Type} [DecidableEq κ] {k : κ} {y : V} : ∀ {ks : List κ} {vs : List V}, ((ks.zip vs).map fun kv => if kv.1 = k then (kv.1, y) else kv) = ks.zip (List.zipWith (fun k' x => if k' = k then y else x) ks vs)
  | [], _ => rfl
  | _ :: _, [] => rfl
  | k' :: ks, v :: vs => by
    rw [List.zip_cons_cons, List.map_cons, map_zip, List.zipWith_cons_cons, List.zip_cons_cons]
    by_cases e : k' = k <;> simp [e]
theorem putK_zip {κ : Type} [DecidableEq κ] {k : κ} {y : V} {ks : List κ} {vs : List V} (h : ks.length = vs.length) : L2.putK (ks.zip vs) k y = (dputK k ks).zip (dputD k y ks vs) ∧ (dputK k ks).length = (dputD k y ks vs).length := by
  unfold L2.putK dputK dputD
  rw [any_zip h]
  by_cases e : hasK k ks = true
  · rw [if_pos e, if_pos e, if_pos e, map_zip]
    exact ⟨rfl, by rw [List.length_zipWith]; omega⟩
  · rw [if_neg e, if_neg e, if_neg e]
    refine ⟨?_, by simp [h]⟩
    rw [List.zip_append h]
    rfl
theorem Reps.dput {κ : Type} [DecidableEq κ] {k : κ} {y : V} (hy : Rep K F y d) : ∀ {ks : List κ} {vs : List V} {ds : List D}, Reps K F vs ds → Reps K F (List.zipWith (fun k' x => if k' = k then y else x) ks vs) (List.zipWith (fun k' x => if k' = k then d else x) ks ds)
  | [], _, _, _ => .nil
  | _ :: _, _, _, .nil => .nil
  | k' :: ks, _, _, .cons r rs => by
    rw [List.zipWith_cons_cons, List.zipWith_cons_cons]
    refine .cons ?_ (Reps.dput hy rs)
    by_cases e : k' = k
    · rw [if_pos e, if_pos e]; exact hy
    · rw [if_neg e, if_neg e]; exact r
theorem Reps.dputD {κ : Type} [DecidableEq κ] {k : κ} {y : V} (hy : Rep K F y d) {ks : List κ} {vs : List V} {ds : List D} (r : Reps K F vs ds) : Reps K F (Ev.dputD k y ks vs) (Ev.dputD k d ks ds) := by
  unfold Ev.dputD
  by_cases e : hasK k ks = true
  · rw [if_pos e, if_pos e]; exact Reps.dput hy r
  · rw [if_neg e, if_neg e]; exact r.append (.cons hy .nil)
theorem Viw.dct {ks : List Key} {ds : List D} (s : Same F H) (h : Viw K F H v (.dct ks ds)) : ∃ a vs, v = .ref a ∧ H a = some (.dK (ks.zip vs)) ∧ ks.length = vs.length ∧ Reps K F vs ds := by
  rcases h with h | ⟨a, o, e1, h1, h2⟩
  · cases h with
    | dct h l r => exact ⟨_, _, rfl, s _ _ h, l, r⟩
  · cases h2 with
    | dct l r => exact ⟨_, _, e1, h1, l, r⟩
end
/-- d[k] -/
def dgetG : D → D → Option Opd
  | .dct ks ds, k => match keyD k with
    | some kk => match dlk kk ks ds with
      | some d => some (.val d)
      | none => none
    | none => none
  | _, _ => none
/-- k in d -/
def dinG (neg : Bool) : D → D → Option Opd
  | k, .dct ks ds => match keyD k with
    | some kk => some (.val (.bl (if neg then !(dlk kk ks ds).isSome else (dlk kk ks ds).isSome)))
    | none => none
  | _, _ => none
def dnewM : EM := fun ρ => some (.tmp (.dct [] []), ρ)
def dputM (i : Nat) (mk m : EM) : SM := fun ρ => match esc m ρ with
  | some (d, ρ1) => match ρ1[i]? with
    | some (some _) => match frz mk ρ1 with
      | some (o, ρ2) => match look o ρ2 with
        | some kd => match keyD kd with
          | some k => match ρ2[i]? with
            | some (some (.own (.dct ks ds))) => if ks.length < sizeLine then some (.nx, ρ2.set i (some (.own (.dct (dputK k ks) (dputD k d ks ds))))) else none
            | _ => none
          | none => none
        | none => none
      | none => none
    | _ => none
  | none => none
section
variable {X : Cx} {Wx : WX} {a b e : Expr} {m ma mb : EM} {pos : Pos}
theorem oe_dnew : OE X (.Dict [] [] pos) dnewM := by
  refine ⟨pe_imp pe_dnewK fun σ H Q ⟨Fr, F, ρ, o, ρ', R, em, kk⟩ => ?_⟩
  cases em
  intro p hp
  obtain ⟨R2, r2⟩ := R.tmp hp (Own.dct (ks := []) (vs := []) (ds := []) rfl .nil)
  exact kk F _ _ (Same.refl F) R2 r2
theorem hu1 {A : Around} (hu : A.units + 64 < cLine) : A.units + 1 < cLine := by omega
theorem oe_dget (hu : X.A.units + 64 < cLine) (ha : OE X a ma) (hb : OE X b mb) (hs : NoSl b := by intro _ _; rfl) : OE X (.Subscript a b pos) (binM dgetG ma mb) := by
  refine ⟨pe_imp (pe_dget (hu1 hu) ha.ne.pe hb.ne.pe hs) fun σ H Q ⟨Fr, F, ρ, o, ρ', R, em, kk⟩ => ?_⟩
  obtain ⟨oa, ρ1, ob, d, e', e1, e2, e3, e4, e5⟩ := binM_some em
  refine ⟨Fr, F, ρ, oa, ρ1, R, e1, fun F1 H1 x q1 R1 r1 => ⟨Fr, F1, ρ1, ob, _, R1, e2, fun F2 H2 y q2 R2 r2 => ?_⟩⟩
  cases d with
  | dct ks ds =>
    dsimp only [dgetG] at e5
    split at e5
    · rename_i k' z1
      split at e5
      · rename_i d' z2
        cases e5
        obtain ⟨p, vs, rfl, h1, h2, h3⟩ := ((r1.mono q2).look R2 e3).dct R2.f
        obtain ⟨w, h4, h5⟩ := (dlk_val h3 h2).1 _ z2
        have h6 := (r2.look R2 e4).key z1
        subst h6
        exact ⟨p, w, rfl, by rw [← h4]; exact DGet.k h1, kk F2 H2 w (q1.trans q2) R2 h5⟩
      · cases e5
    · cases e5
  | _ => cases e5
theorem din_all {σ : St} {H : Hp} {Q : VK} {neg : Bool} (h : tE X.K (binM (dinG neg) ma mb) σ H Q) : tN X.K (frz ma) σ H fun y H1 => tN X.K (frz mb) σ H1 fun x H2 => ∃ a o, x = .ref a ∧ DGet H2 a y o ∧ Q (.bl (if neg then !o.isSome else o.isSome)) H2 := by
  obtain ⟨Fr, F, ρ, o, ρ', R, em, kk⟩ := h
  obtain ⟨oa, ρ1, ob, d, e', e1, e2, e3, e4, e5⟩ := binM_some em
  refine ⟨Fr, F, ρ, oa, ρ1, R, e1, fun F1 H1 y q1 R1 r1 => ⟨Fr, F1, ρ1, ob, _, R1, e2, fun F2 H2 x q2 R2 r2 => ?_⟩⟩
  cases e' with
  | dct ks ds =>
    unfold dinG at e5
    dsimp only at e5
    split at e5
    · rename_i k' z1
      cases e5
      obtain ⟨p, vs, rfl, h1, h2, h3⟩ := (r2.look R2 e4).dct R2.f
      have h6 := ((r1.mono q2).look R2 e3).key z1
      subst h6
      refine ⟨p, valV (ks.zip vs) k', rfl, DGet.k h1, ?_⟩
      have h7 : (valV (ks.zip vs) k').isSome = (dlk k' ks ds).isSome := by
        cases z : dlk k' ks ds with
        | none => rw [(dlk_val h3 h2).2 z]; rfl
        | some d => obtain ⟨w, h4, _⟩ := (dlk_val h3 h2).1 _ z; rw [h4]; rfl
      rw [h7]
      exact kk F2 H2 _ (q1.trans q2) R2 (.bl _)
    · cases e5
  | _ => unfold dinG at e5; cases e5
theorem oe_din (hu : X.A.units + 64 < cLine) (ha : OE X a ma) (hb : OE X b mb) (h1 : behindInMarks .In b = false := by first | exact nobehind _ (by decide) (by decide) | rfl) : OE X (.Compare a [.In] [b] pos) (binM (dinG false) ma mb) :=
  ⟨pe_imp (pe_cmp (pc_din (hu1 hu) ha.ne.pe hb.ne.pe) h1) fun σ H Q h => din_all h⟩
theorem oe_dnin (hu : X.A.units + 64 < cLine) (ha : OE X a ma) (hb : OE X b mb) (h1 : behindInMarks .NotIn b = false := by first | exact nobehind _ (by decide) (by decide) | rfl) : OE X (.Compare a [.NotIn] [b] pos) (binM (dinG true) ma mb) :=
  ⟨pe_imp (pe_cmp (pc_dnotin (hu1 hu) ha.ne.pe hb.ne.pe) h1) fun σ H Q h => din_all h⟩
theorem te_din (hu : X.A.units + 64 < cLine) (ha : OE X a ma) (hb : OE X b mb) (h1 : behindInMarks .In b = false := by first | exact nobehind _ (by decide) (by decide) | rfl) : TeE X (.Compare a [.In] [b] pos) (boolM (binM (dinG false) ma mb)) := by
  refine ⟨pt_imp (pt_cmp (pc_din (hu1 hu) ha.ne.pe hb.ne.pe) h1) fun σ H Q ⟨Fr, F, ρ, c, ρ', R, em, k⟩ => ?_⟩
  exact din_all (neg := false) (Q := fun v H' => ∃ c, v = .bl c ∧ Q c H') ⟨Fr, F, ρ, _, ρ', R, boolM_some em, fun F' H' v s R' q => by cases q; exact ⟨c, rfl, k F' H' s R'⟩⟩
theorem te_dnin (hu : X.A.units + 64 < cLine) (ha : OE X a ma) (hb : OE X b mb) (h1 : behindInMarks .NotIn b = false := by first | exact nobehind _ (by decide) (by decide) | rfl) : TeE X (.Compare a [.NotIn] [b] pos) (boolM (binM (dinG true) ma mb)) := by
  refine ⟨pt_imp (pt_cmp (pc_dnotin (hu1 hu) ha.ne.pe hb.ne.pe) h1) fun σ H Q ⟨Fr, F, ρ, c, ρ', R, em, k⟩ => ?_⟩
  exact din_all (neg := true) (Q := fun v H' => ∃ c, v = .bl c ∧ Q c H') ⟨Fr, F, ρ, _, ρ', R, boolM_some em, fun F' H' v s R' q => by cases q; exact ⟨c, rfl, k F' H' s R'⟩⟩
theorem se_dput (i : Nat) {x : Str} {px tpos : Pos} (hu : X.A.units + 64 < cLine) (h : OE X e m) (hb : OE X b mb) (hN : X.N[i]? = some x := by rfl) (hv : Vis X.env.scope x := by first | exact Or.inl rfl | exact Or.inr (Or.inl rfl) | exact Or.inr (Or.inr rfl)) (hd : (x == ("__debug__" : Str)) = false := by decide)
    (hcd : (x == ("__classdict__" : Str)) = false := by decide) (hs : swapsWith e (some (.Subscript (.Name x px) b tpos)) pos.line X.env = pure false := by rfl) : SE X Wx (.Assign [.Subscript (.Name x px) b tpos] e pos) [] (dputM i mb m) := by
  refine ⟨ps_imp (ps_dput (hu1 hu) (pe_var hN hv hd hcd) hb.ne.pe h.ve.pe hs) fun Dn σ H ⟨Fr, F, ρ, out, ρ', R, em, k⟩ => ?_⟩
  unfold dputM at em
  split at em
  · rename_i d ρ1 e1
    split at em
    · rename_i sv e0
      split at em
      · rename_i o ρ2 e2
        split at em
        · rename_i kd e3
          split at em
          · rename_i kk e4
            split at em
            · rename_i ks ds e5
              split at em
              · rename_i hl
                cases em
                refine ⟨Fr, F, ρ, _, _, R, e1, fun F1 H1 v q1 R1 r1 => ?_⟩
                obtain ⟨u, eu, _⟩ := R1.slot i _ e0
                refine ⟨u, eu, Fr, F1, ρ1, _, _, R1, e2, fun F2 H2 y q2 R2 r2 => ?_⟩
                obtain ⟨u', eu', a', o', ea, g1, g2, g3, g4⟩ := R2.slot i _ e5
                rw [eu] at eu'; cases eu'
                subst ea
                have hy := (r2.look R2 e3).key e4
                subst hy
                cases g2 with
                | @dct _ vs _ l rs =>
                  obtain ⟨z1, z2⟩ := putK_zip (k := kk) (y := v) l
                  refine ⟨a', _, rfl, DPut.k g1 (by rw [List.length_zip]; omega), ?_⟩
                  rw [z1]
                  exact k F2 _ σ (q1.trans q2) (R2.mut e5 eu (.dct z2 (Reps.dputD (r1.mono q2) rs))) (.refl _ _)
              · cases em
            · cases em
          · cases em
        · cases em
      · cases em
    · cases em
  · cases em
end

/-! keys that are tuples -/
def keysD : List D → Option (List Key)
  | [] => some []
  | d :: ds => match keyD d with
    | some k => match keysD ds with
      | some ks => some (k :: ks)
      | none => none
    | none => none
def keyT : D → Option (List Key)
  | .tup xs => keysD xs
  | _ => none
theorem Reps.keys {K : PySem.W.Frag} {F : Hp} : ∀ {vs : List V} {ds : List D} {ks : List Key}, Reps K F vs ds → keysD ds = some ks → vs = ks.map kV
  | _, _, _, .nil, e => by cases e; rfl
  | _, _, _, .cons r rs, e => by
    unfold keysD at e
    split at e
    · rename_i k e1
      split at e
      · rename_i ks e2
        cases e
        rw [List.map_cons, ← r.key e1, ← Reps.keys rs e2]
      · cases e
    · cases e
theorem Viw.keyT {K : PySem.W.Frag} {F H : Hp} {v : V} {d : D} {k : List Key} (s : Same F H) (h : Viw K F H v d) (e : Ev.keyT d = some k) : ∃ b, v = .ref b ∧ H b = some (.tup (k.map kV)) := by
  cases d with
  | tup xs =>
    obtain ⟨a, vs, e1, h1, r⟩ := h.tup1 s
    refine ⟨a, e1, ?_⟩
    rw [h1, r.keys e]
  | _ => cases e
theorem Viw.dtt {K : PySem.W.Frag} {F H : Hp} {v : V} {ks : List (List Key)} {ds : List D} (s : Same F H) (h : Viw K F H v (.dtt ks ds)) : ∃ a vs, v = .ref a ∧ H a = some (.dT (ks.zip vs)) ∧ ks.length = vs.length ∧ Reps K F vs ds := by
  rcases h with h | ⟨a, o, e1, h1, h2⟩
  · cases h with
    | dtt h l r => exact ⟨_, _, rfl, s _ _ h, l, r⟩
  · cases h2 with
    | dtt l r => exact ⟨_, _, e1, h1, l, r⟩
/-- d[k] -/
def dgetT : D → D → Option Opd
  | .dtt ks ds, k => match keyT k with
    | some kk => match dlk kk ks ds with
      | some d => some (.val d)
      | none => none
    | none => none
  | _, _ => none
/-- k in d -/
def dinT (neg : Bool) : D → D → Option Opd
  | k, .dtt ks ds => match keyT k with
    | some kk => some (.val (.bl (if neg then !(dlk kk ks ds).isSome else (dlk kk ks ds).isSome)))
    | none => none
  | _, _ => none
def dnewT : EM := fun ρ => some (.tmp (.dtt [] []), ρ)
def dputT (i : Nat) (mk m : EM) : SM := fun ρ => match esc m ρ with
  | some (d, ρ1) => match ρ1[i]? with
    | some (some _) => match frz mk ρ1 with
      | some (o, ρ2) => match look o ρ2 with
        | some kd => match keyT kd with
          | some k => match ρ2[i]? with
            | some (some (.own (.dtt ks ds))) => if ks.length < sizeLine then some (.nx, ρ2.set i (some (.own (.dtt (dputK k ks) (dputD k d ks ds))))) else none
            | _ => none
          | none => none
        | none => none
      | none => none
    | _ => none
  | none => none
/-- d.get(k) -/
def isDct : D → Bool
  | .dct _ _ => true
  | .dtt _ _ => true
  | _ => false
def getX : D → D → Option D
  | .dct ks ds, k => match keyD k with
    | some kk => some ((dlk kk ks ds).getD .non)
    | none => none
  | .dtt ks ds, k => match keyT k with
    | some kk => some ((dlk kk ks ds).getD .non)
    | none => none
  | _, _ => none
def dgetM (ma mb : EM) : EM := fun ρ => match frz ma ρ with
  | some (oa, ρ1) => match look oa ρ1 with
    | some d0 => if isDct d0 = true then match frz mb ρ1 with
      | some (ob, ρ2) => match look oa ρ2 with
        | some d => match look ob ρ2 with
          | some k => match getX d k with
            | some r => some (.val r, ρ2)
            | none => none
          | none => none
        | none => none
      | none => none
      else none
    | none => none
  | none => none
section
variable {X : Cx} {Wx : WX} {a b e : Expr} {m ma mb : EM} {pos : Pos}
theorem oe_dnewT : OE X (.Dict [] [] pos) dnewT := by
  refine ⟨pe_imp pe_dnewT fun σ H Q ⟨Fr, F, ρ, o, ρ', R, em, kk⟩ => ?_⟩
  cases em
  intro p hp
  obtain ⟨R2, r2⟩ := R.tmp hp (Own.dtt (ks := []) (vs := []) (ds := []) rfl .nil)
  exact kk F _ _ (Same.refl F) R2 r2
theorem oe_dgetT (hu : X.A.units + 64 < cLine) (ha : OE X a ma) (hb : OE X b mb) (hs : NoSl b := by intro _ _; rfl) : OE X (.Subscript a b pos) (binM dgetT ma mb) := by
  refine ⟨pe_imp (pe_dget (hu1 hu) ha.ne.pe hb.ne.pe hs) fun σ H Q ⟨Fr, F, ρ, o, ρ', R, em, kk⟩ => ?_⟩
  obtain ⟨oa, ρ1, ob, d, e', e1, e2, e3, e4, e5⟩ := binM_some em
  refine ⟨Fr, F, ρ, oa, ρ1, R, e1, fun F1 H1 x q1 R1 r1 => ⟨Fr, F1, ρ1, ob, _, R1, e2, fun F2 H2 y q2 R2 r2 => ?_⟩⟩
  cases d with
  | dtt ks ds =>
    dsimp only [dgetT] at e5
    split at e5
    · rename_i k' z1
      split at e5
      · rename_i d' z2
        cases e5
        obtain ⟨p, vs, rfl, h1, h2, h3⟩ := ((r1.mono q2).look R2 e3).dtt R2.f
        obtain ⟨w, h4, h5⟩ := (dlk_val h3 h2).1 _ z2
        obtain ⟨b', rfl, hb'⟩ := (r2.look R2 e4).keyT R2.f z1
        exact ⟨p, w, rfl, by rw [← h4]; exact DGet.t h1 hb', kk F2 H2 w (q1.trans q2) R2 h5⟩
      · cases e5
    · cases e5
  | _ => cases e5
theorem din_allT {σ : St} {H : Hp} {Q : VK} {neg : Bool} (h : tE X.K (binM (dinT neg) ma mb) σ H Q) : tN X.K (frz ma) σ H fun y H1 => tN X.K (frz mb) σ H1 fun x H2 => ∃ a o, x = .ref a ∧ DGet H2 a y o ∧ Q (.bl (if neg then !o.isSome else o.isSome)) H2 := by
  obtain ⟨Fr, F, ρ, o, ρ', R, em, kk⟩ := h
  obtain ⟨oa, ρ1, ob, d, e', e1, e2, e3, e4, e5⟩ := binM_some em
  refine ⟨Fr, F, ρ, oa, ρ1, R, e1, fun F1 H1 y q1 R1 r1 => ⟨Fr, F1, ρ1, ob, _, R1, e2, fun F2 H2 x q2 R2 r2 => ?_⟩⟩
  cases e' with
  | dtt ks ds =>
    unfold dinT at e5
    dsimp only at e5
    split at e5
    · rename_i k' z1
      cases e5
      obtain ⟨p, vs, rfl, h1, h2, h3⟩ := (r2.look R2 e4).dtt R2.f
      obtain ⟨b', rfl, hb'⟩ := ((r1.mono q2).look R2 e3).keyT R2.f z1
      refine ⟨p, valV (ks.zip vs) k', rfl, DGet.t h1 hb', ?_⟩
      have h7 : (valV (ks.zip vs) k').isSome = (dlk k' ks ds).isSome := by
        cases z : dlk k' ks ds with
        | none => rw [(dlk_val h3 h2).2 z]; rfl
        | some d => obtain ⟨w, h4, _⟩ := (dlk_val h3 h2).1 _ z; rw [h4]; rfl
      rw [h7]
      exact kk F2 H2 _ (q1.trans q2) R2 (.bl _)
    · cases e5
  | _ => unfold dinT at e5; cases e5
theorem oe_dinT (hu : X.A.units + 64 < cLine) (ha : OE X a ma) (hb : OE X b mb) (h1 : behindInMarks .In b = false := by first | exact nobehind _ (by decide) (by decide) | rfl) : OE X (.Compare a [.In] [b] pos) (binM (dinT false) ma mb) :=
  ⟨pe_imp (pe_cmp (pc_din (hu1 hu) ha.ne.pe hb.ne.pe) h1) fun σ H Q h => din_allT h⟩
theorem oe_dninT (hu : X.A.units + 64 < cLine) (ha : OE X a ma) (hb : OE X b mb) (h1 : behindInMarks .NotIn b = false := by first | exact nobehind _ (by decide) (by decide) | rfl) : OE X (.Compare a [.NotIn] [b] pos) (binM (dinT true) ma mb) :=
  ⟨pe_imp (pe_cmp (pc_dnotin (hu1 hu) ha.ne.pe hb.ne.pe) h1) fun σ H Q h => din_allT h⟩
theorem te_dinT (hu : X.A.units + 64 < cLine) (ha : OE X a ma) (hb : OE X b mb) (h1 : behindInMarks .In b = false := by first | exact nobehind _ (by decide) (by decide) | rfl) : TeE X (.Compare a [.In] [b] pos) (boolM (binM (dinT false) ma mb)) := by
  refine ⟨pt_imp (pt_cmp (pc_din (hu1 hu) ha.ne.pe hb.ne.pe) h1) fun σ H Q ⟨Fr, F, ρ, c, ρ', R, em, k⟩ => ?_⟩
  exact din_allT (neg := false) (Q := fun v H' => ∃ c, v = .bl c ∧ Q c H') ⟨Fr, F, ρ, _, ρ', R, boolM_some em, fun F' H' v s R' q => by cases q; exact ⟨c, rfl, k F' H' s R'⟩⟩
theorem te_dninT (hu : X.A.units + 64 < cLine) (ha : OE X a ma) (hb : OE X b mb) (h1 : behindInMarks .NotIn b = false := by first | exact nobehind _ (by decide) (by decide) | rfl) : TeE X (.Compare a [.NotIn] [b] pos) (boolM (binM (dinT true) ma mb)) := by
  refine ⟨pt_imp (pt_cmp (pc_dnotin (hu1 hu) ha.ne.pe hb.ne.pe) h1) fun σ H Q ⟨Fr, F, ρ, c, ρ', R, em, k⟩ => ?_⟩
  exact din_allT (neg := true) (Q := fun v H' => ∃ c, v = .bl c ∧ Q c H') ⟨Fr, F, ρ, _, ρ', R, boolM_some em, fun F' H' v s R' q => by cases q; exact ⟨c, rfl, k F' H' s R'⟩⟩
theorem se_dputT (i : Nat) {x : Str} {px tpos : Pos} (hu : X.A.units + 64 < cLine) (h : OE X e m) (hb : OE X b mb) (hN : X.N[i]? = some x := by rfl) (hv : Vis X.env.scope x := by first | exact Or.inl rfl | exact Or.inr (Or.inl rfl) | exact Or.inr (Or.inr rfl)) (hd : (x == ("__debug__" : Str)) = false := by decide)
    (hcd : (x == ("__classdict__" : Str)) = false := by decide) (hs : swapsWith e (some (.Subscript (.Name x px) b tpos)) pos.line X.env = pure false := by rfl) : SE X Wx (.Assign [.Subscript (.Name x px) b tpos] e pos) [] (dputT i mb m) := by
  refine ⟨ps_imp (ps_dput (hu1 hu) (pe_var hN hv hd hcd) hb.ne.pe h.ve.pe hs) fun Dn σ H ⟨Fr, F, ρ, out, ρ', R, em, k⟩ => ?_⟩
  unfold dputT at em
  split at em
  · rename_i d ρ1 e1
    split at em
    · rename_i sv e0
      split at em
      · rename_i o ρ2 e2
        split at em
        · rename_i kd e3
          split at em
          · rename_i kk e4
            split at em
            · rename_i ks ds e5
              split at em
              · rename_i hl
                cases em
                refine ⟨Fr, F, ρ, _, _, R, e1, fun F1 H1 v q1 R1 r1 => ?_⟩
                obtain ⟨u, eu, _⟩ := R1.slot i _ e0
                refine ⟨u, eu, Fr, F1, ρ1, _, _, R1, e2, fun F2 H2 y q2 R2 r2 => ?_⟩
                obtain ⟨u', eu', a', o', ea, g1, g2, g3, g4⟩ := R2.slot i _ e5
                rw [eu] at eu'; cases eu'
                subst ea
                obtain ⟨b', rfl, hb'⟩ := (r2.look R2 e3).keyT R2.f e4
                cases g2 with
                | @dtt _ vs _ l rs =>
                  obtain ⟨z1, z2⟩ := putK_zip (k := kk) (y := v) l
                  refine ⟨a', _, rfl, DPut.t g1 hb' (by rw [List.length_zip]; omega), ?_⟩
                  rw [z1]
                  exact k F2 _ σ (q1.trans q2) (R2.mut e5 eu (.dtt z2 (Reps.dputD (r1.mono q2) rs))) (.refl _ _)
              · cases em
            · cases em
          · cases em
        · cases em
      · cases em
    · cases em
  · cases em
theorem Viw.isD {K : PySem.W.Frag} {F H : Hp} {v : V} {d : D} (s : Same F H) (h : Viw K F H v d) (e : isDct d = true) : ∃ a, v = .ref a ∧ IsD H a := by
  cases d with
  | dct ks ds => obtain ⟨p, vs, rfl, h1, _⟩ := h.dct s; exact ⟨p, rfl, .inl ⟨_, .inl h1⟩⟩
  | dtt ks ds => obtain ⟨p, vs, rfl, h1, _⟩ := h.dtt s; exact ⟨p, rfl, .inr ⟨_, .inl h1⟩⟩
  | _ => cases e
theorem getV {κ : Type} [DecidableEq κ] {K : PySem.W.Frag} {F : Hp} {k : κ} {ks : List κ} {vs : List V} {ds : List D} (h3 : Reps K F vs ds) (h2 : ks.length = vs.length) : Rep K F ((valV (ks.zip vs) k).getD .non) ((dlk k ks ds).getD .non) := by
  cases z : dlk k ks ds with
  | none => rw [(dlk_val h3 h2).2 z]; exact .non
  | some d => obtain ⟨w, h4, h5⟩ := (dlk_val h3 h2).1 _ z; rw [h4]; exact h5
theorem oe_getm {apos : Pos} (hu : X.A.units + 64 < cLine) (ha : OE X a ma) (hb : OE X b mb) (hbase : attributeBase a "get" X.env (eval a X.env) = eval a X.env := by rfl)
    (hfew : ((backTo pos (starEach [b] X.env)).all (fun x => !x.1) && (backToKw pos (keywordEach [] X.env)).all (fun x => x.1.isSome)
      && decide (([b] : List Expr).length + ([] : List Keyword).length + (if ([] : List Keyword).isEmpty then 0 else 1) < 30)) = true := by rfl)
    (hline : (apos.endLine == pos.line) = true := by rfl) (htr : backTo pos (starEach [b] X.env) = [(false, eval b X.env)] := by rfl) :
    OE X (.Call (.Attribute a "get" apos) [b] [] pos) (dgetM ma mb) := by
  refine ⟨pe_imp (pe_dget1 (hu1 hu) ha.ne.pe hb.ne.pe ⟨hbase, hfew, hline, htr⟩) fun σ H Q ⟨Fr, F, ρ, o, ρ', R, em, kk⟩ => ?_⟩
  unfold dgetM at em
  split at em
  · rename_i oa ρ1 e1
    split at em
    · rename_i d0 e2
      split at em
      · rename_i hd
        split at em
        · rename_i ob ρ2 e3
          split at em
          · rename_i d e4
            split at em
            · rename_i k e5
              split at em
              · rename_i r e6
                cases em
                refine ⟨Fr, F, ρ, _, _, R, e1, fun F1 H1 x q1 R1 r1 => ?_⟩
                obtain ⟨p, rfl, hp⟩ := (r1.look R1 e2).isD R1.f hd
                refine ⟨p, rfl, hp, Fr, F1, ρ1, _, _, R1, e3, fun F2 H2 y q2 R2 r2 => ?_⟩
                have w := (r1.mono q2).look R2 e4
                have w2 := r2.look R2 e5
                cases d with
                | dct ks ds =>
                  dsimp only [getX] at e6
                  split at e6
                  · rename_i kk' z1
                    cases e6
                    obtain ⟨p', vs, ep, h1, h2, h3⟩ := w.dct R2.f
                    cases ep
                    have h6 := w2.key z1
                    subst h6
                    exact ⟨_, DGet.k h1, kk F2 H2 _ (q1.trans q2) R2 (getV h3 h2)⟩
                  · cases e6
                | dtt ks ds =>
                  dsimp only [getX] at e6
                  split at e6
                  · rename_i kk' z1
                    cases e6
                    obtain ⟨p', vs, ep, h1, h2, h3⟩ := w.dtt R2.f
                    cases ep
                    obtain ⟨b', rfl, hb'⟩ := w2.keyT R2.f z1
                    exact ⟨_, DGet.t h1 hb', kk F2 H2 _ (q1.trans q2) R2 (getV h3 h2)⟩
                  · cases e6
                | _ => cases e6
              · cases em
            · cases em
          · cases em
        · cases em
      · cases em
    · cases em
  · cases em
end
end Ev

set_option Elab.async false
set_option linter.all false
set_option maxRecDepth 100000
/-! Ev. N: xs.index(x). -/
set_option autoImplicit false
namespace Ev
open PySem PySem.Spec PyProof.Rows L2

/-- the first place of y -/
def indexD (y : D) (ds : List D) : Option Nat := if flatD y && ds.all flatD then ds.findIdx? fun z => eqF z y else none
def indexM (m : EM) (am : AM) : EM := fun ρ => match frz m ρ with
  | some (o, ρ1) => match look o ρ1 with
    | some d1 => match listD d1 with
      | some _ => match am ρ1 with
        | some (os, ρ2) => match look o ρ2 with
          | some d2 => match listD d2 with
            | some ds => match looks os ρ2 with
              | some [y] => match indexD y ds with
                | some j => some (.val (.int (j : Nat)), ρ2)
                | none => none
              | _ => none
            | none => none
          | none => none
        | none => none
      | none => none
    | none => none
  | none => none
theorem indexM_some {m : EM} {am : AM} {ρ ρ2 : Rho} {r : Opd} (h : indexM m am ρ = some (r, ρ2)) : ∃ o ρ1 d1 ds1 os d2 ds y j, frz m ρ = some (o, ρ1) ∧ look o ρ1 = some d1 ∧ listD d1 = some ds1 ∧ am ρ1 = some (os, ρ2) ∧ look o ρ2 = some d2 ∧ listD d2 = some ds ∧ looks os ρ2 = some [y] ∧ indexD y ds = some j ∧ r = .val (.int (j : Nat)) := by
  unfold indexM at h
  split at h
  · rename_i o ρ1 e1
    split at h
    · rename_i d1 e2
      split at h
      · rename_i ds1 e3
        split at h
        · rename_i os ρ2' e4
          split at h
          · rename_i d2 e5
            split at h
            · rename_i ds e6
              split at h
              · rename_i y e7
                split at h
                · rename_i j e8
                  cases h
                  exact ⟨o, ρ1, d1, ds1, os, d2, ds, y, j, e1, e2, e3, e4, e5, e6, e7, e8, rfl⟩
                · cases h
              · cases h
            · cases h
          · cases h
        · cases h
      · cases h
    · cases h
  · cases h
theorem flat_view {K : PySem.W.Frag} {F H : Hp} {v : V} {d : D} (h : Viw K F H v d) (f : flatD d = true) : Rep K F v d := by
  rcases h with h | ⟨a, o, e1, h1, h2⟩
  · exact h
  · cases h2 <;> cases f
section
variable {X : Cx} {o e : Expr} {m : EM} {am : AM} {apos cpos : Pos}
theorem oe_index (ho : OE X o m) (ha : AE X [e] am)
    (hbase : attributeBase o "index" X.env (eval o X.env) = eval o X.env := by rfl)
    (hfew : ((backTo cpos (starEach [e] X.env)).all (fun x => !x.1) && (backToKw cpos (keywordEach [] X.env)).all (fun x => x.1.isSome)
      && decide ([e].length + ([] : List Keyword).length + (if ([] : List Keyword).isEmpty then 0 else 1) < 30)) = true := by rfl)
    (hline : (apos.endLine == cpos.line) = true := by rfl) (hst : starEach [e] X.env = (false, eval e X.env) :: starEach [] X.env := by rfl) (hplain : (backTo cpos (starEach [] X.env)).any (·.1) = false := by rfl) :
    OE X (.Call (.Attribute o "index" apos) [e] [] cpos) (indexM m am) := by
  refine ⟨pe_imp (pe_bm PySem.F.plainAttrs_list PySem.F.slot_list_index rfl mt_index ho.ne.pe ha.pa hbase hfew hline hst hplain) fun σ H Q ⟨Fr, F, ρ, r, ρ2, R, em, kk⟩ => ?_⟩
  obtain ⟨oo, ρ1, d1, ds1, os, d2, ds, y, j, e1, e2, e3, e4, e5, e6, e7, e8, rfl⟩ := indexM_some em
  refine ⟨Fr, F, ρ, oo, ρ1, R, e1, fun F1 H1 v q1 R1 r1 => ?_⟩
  obtain ⟨a, vs1, rfl, h1, _⟩ := (r1.look R1 e2).list R1.f e3
  refine ⟨.inl ⟨rfl, vs1, h1⟩, Fr, F1, ρ1, os, _, R1, e4, fun F2 H2 ws q2 R2 rs => ?_⟩
  obtain ⟨a', vs, ea, h2, h3⟩ := ((r1.mono q2).look R2 e5).list R2.f e6
  cases ea
  have hv := looks_viw R2 rs e7
  obtain ⟨w, rfl, hw⟩ := vw1 hv
  unfold indexD at e8
  split at e8
  · rename_i hf
    rw [Bool.and_eq_true] at hf
    have hw' := flat_view hw hf.1
    obtain ⟨hj1, hj2, hj3⟩ := List.findIdx?_eq_some_iff_getElem.1 e8
    have hz : ds[j]? = some ds[j] := List.getElem?_eq_getElem hj1
    obtain ⟨z, z1, z2⟩ := h3.get hz
    have fz : flatD ds[j] = true := List.all_eq_true.1 hf.2 _ (List.getElem_mem hj1)
    refine ⟨a, vs, w, j, z, rfl, rfl, h2, flat_v hw' hf.1, (in_v hw' hf.1 h3 hf.2).1, z1, by rw [eq_v z2 hw' fz hf.1]; exact hj2, fun n z' hn hz' => ?_, kk F2 H2 _ (q1.trans q2) R2 (.int _)⟩
    have hnl : n < ds.length := by omega
    obtain ⟨u, u1, u2⟩ := h3.get (List.getElem?_eq_getElem hnl)
    rw [hz'] at u1
    cases u1
    have fu : flatD ds[n] = true := List.all_eq_true.1 hf.2 _ (List.getElem_mem hnl)
    rw [eq_v u2 hw' fu hf.1]
    have := hj3 n hn
    simpa using this
  · cases e8
end
end Ev

set_option Elab.async false
set_option linter.all false
set_option maxRecDepth 100000
/-! Ev. O: the end of a law whose text has classes. -/
set_option autoImplicit false
namespace Ev
open PySem PySem.Spec PyProof.Rows L2

/-- a def stands in the class at C -/
structure MethAt (K : PySem.W.Frag) (C : Addr) (nm qual : Str) (st : Stmt) : Prop where
  ex : ∃ f fd, Fun K nm qual st f fd ∧ PySem.W.findIn K (.ref C) nm = some (some (.ref f)) ∧ PySem.W.isFn K (.ref f) = true
theorem meth_mk {K : PySem.W.Frag} {C : Addr} {nm qual : Str} {st : Stmt} {f : Addr} {oc : Value} {od an : Option Addr} {osl : Array (Option Value)} {kV doc pm cdv ct : Value}
    (a : PySem.W.findIn K (.ref C) nm = some (some (.ref f))) (i : PySem.W.isFn K (.ref f) = true) (l : K.lookup f = some ⟨oc, od, .func (PySem.W.fnOf nm qual (defArgs st) (defBody st) (defScope st) .none kV doc pm an cdv ct), osl⟩)
    (c : PySem.W.codeIn K cdv qual = true) (k : PySem.W.keepIn K (.ref f) = true) : MethAt K C nm qual st := ⟨f, _, fun_mk l c k, a, i⟩
/-- a class at the top -/
structure ClsAt (K : PySem.W.Frag) (mg : Str → Option Value) (x : Str) (C : Addr) : Prop where
  cl : Cls K C
  makes : PySem.W.makesIn K C = true
  kp : PySem.W.keepIn K (.ref C) = true
  at_ : mg x = some (.ref C)
theorem cls_mk {K : PySem.W.Frag} {h : Heap} {mg : Str → Option Value} {x : Str} {C : Addr} (X : K.In h) (G : h.Ns mainGlobals mg) (a : PySem.W.nsIn K mainGlobals x = some (some (.ref C)))
    (pg : PySem.W.plainGet K C Str.empty = true) (hd : PySem.W.hasDictIn K C = true) (po : PySem.W.plainOver K C = true) (sa : PySem.W.findIn K (.ref C) "__setattr__" = some (some (.builtin "object.__setattr__")))
    (mk : PySem.W.makesIn K C = true) (kp : PySem.W.keepIn K (.ref C) = true) : ClsAt K mg x C := ⟨⟨pg, hd, po, sa⟩, mk, kp, PySem.W.mg_of X G a⟩
theorem maker_of {P : Program} {w : World} {K : PySem.W.Frag} {mg : Str → Option Value} {base : Heap} {x qual : Str} {C : Addr} {st : Stmt} {k np : Nat} {ps : List Str} {fn : Fn} (c : ClsAt K mg x C) (d : MethAt K C "__init__" qual st)
    (ok : ∀ {f : Addr} {fd : FuncData}, Fun K "__init__" qual st f fd → FnOk P w K mg base CX0 k f fd ps (spF K fn np))
    (hb : ∀ (kV doc pm : Value) (an : Option Addr) (cdv ct : Value) (us : List Value), us.length = ps.length → bindArgs (PySem.W.fnOf "__init__" qual (defArgs st) (defBody st) (defScope st) .none kV doc pm an cdv ct) ⟨us, []⟩ = pure (ps.zip us)) : MakerOf P w K mg base k x C np fn := by
  obtain ⟨f, fd, F, h1, h2⟩ := d.ex
  exact ⟨f, fd, ps, ⟨c.makes, h1, h2, c.kp⟩, ok F, c.at_, F.binds hb⟩
theorem methof_of {P : Program} {w : World} {K : PySem.W.Frag} {mg : Str → Option Value} {base : Heap} {nm qual : Str} {C : Addr} {st : Stmt} {k np : Nat} {ps : List Str} {fn : Fn} (c : Cls K C) (d : MethAt K C nm qual st)
    (ok : ∀ {f : Addr} {fd : FuncData}, Fun K nm qual st f fd → FnOk P w K mg base CX0 k f fd ps (spF K fn np))
    (hb : ∀ (kV doc pm : Value) (an : Option Addr) (cdv ct : Value) (us : List Value), us.length = ps.length → bindArgs (PySem.W.fnOf nm qual (defArgs st) (defBody st) (defScope st) .none kV doc pm an cdv ct) ⟨us, []⟩ = pure (ps.zip us)) : MethOf P w K mg base k C nm np fn := by
  obtain ⟨f, fd, F, h1, h2⟩ := d.ex
  exact ⟨f, fd, ps, c, ⟨h1, h2, F.kp⟩, ok F, F.binds hb⟩
/-- the law's promise: True -/
def spTrue (K : PySem.W.Frag) : Sp := fun vs H Q _ => ∃ (a : Addr) (ns : List Int), vs = [.ref a] ∧ SqL K H a (ns.map V.int) ∧ ns.length ≤ 63 ∧ ∀ H', Q (.bl true) H'
theorem law_spT {K : PySem.W.Frag} {fn : Fn} (h : ∀ ns : List Int, ns.length ≤ 63 → ∃ post, fn [.val (.rol (ns.map D.int))] = some (.val (.bl true), post)) : ∀ vs H Q E, spTrue K vs H Q E → spF K fn 1 vs H Q E := by
  rintro vs H Q E ⟨a, ns, rfl, hS, hl, hq⟩
  obtain ⟨h1, Fr, F, args, o, post, h2, h3, h4, h5⟩ := law_sp (E := E) hS (h ns hl)
  refine ⟨h1, Fr, F, args, o, post, h2, h3, h4, fun F' H' v q R r => ?_⟩
  rw [h5 F' H' v q R r]
  exact hq H'
end Ev

set_option Elab.async false
set_option linter.all false
set_option maxRecDepth 100000
/-! Ev. Q: the greater, the lesser of two. -/
set_option autoImplicit false
namespace Ev
open PySem PySem.Spec PyProof.Rows L2
theorem kst_i {K : PySem.W.Frag} {h : Heap} {mg : Str → Option Value} {x : Str} {i : Int} {t : Tok} (X : K.In h) (G : h.Ns mainGlobals mg) (a : PySem.W.nsIn K mainGlobals x = some (some (.int i t))) : Kst mg x (.int i) := kst_int ⟨t, PySem.W.mg_of X G a⟩
theorem kst_s {K : PySem.W.Frag} {h : Heap} {mg : Str → Option Value} {x : Str} {i : Str} {t : Tok} (X : K.In h) (G : h.Ns mainGlobals mg) (a : PySem.W.nsIn K mainGlobals x = some (some (.str i t))) : Kst mg x (.str i) := kst_str ⟨t, PySem.W.mg_of X G a⟩
section
variable {X : Cx} {a b : Expr} {am : AM} {pos p : Pos}
def max2G : List D → Option Opd
  | [.int i, .int j] => some (.val (.int (if j > i then j else i)))
  | _ => none
def min2G : List D → Option Opd
  | [.int i, .int j] => some (.val (.int (if j < i then j else i)))
  | _ => none
theorem cs_max2 : CalS X (fun xs H Q => ∃ i j, xs = [.int i, .int j] ∧ Q (.int (if j > i then j else i)) H) max2G := by
  intro Fr F H ρ σ vs ds o Q R hv g k
  unfold max2G at g
  split at g
  · rename_i i j
    cases g
    cases hv with
    | cons h1 hv => cases hv with
      | cons h2 hv =>
        cases hv
        cases h1.int
        cases h2.int
        exact ⟨i, j, rfl, after_val R (.int _) k⟩
  · cases g
theorem cs_min2 : CalS X (fun xs H Q => ∃ i j, xs = [.int i, .int j] ∧ Q (.int (if j < i then j else i)) H) min2G := by
  intro Fr F H ρ σ vs ds o Q R hv g k
  unfold min2G at g
  split at g
  · rename_i i j
    cases g
    cases hv with
    | cons h1 hv => cases hv with
      | cons h2 hv =>
        cases hv
        cases h1.int
        cases h2.int
        exact ⟨i, j, rfl, after_val R (.int _) k⟩
  · cases g
theorem oe_max2 (hc : X.calm = true) (ha : AE X [a, b] am) (hm : X.mg "max" = none) (hg : Gl X "max" := by rfl) (he : starEach [a, b] X.env = (false, eval a X.env) :: starEach [b] X.env := by rfl) (hpl : (backTo pos (starEach [b] X.env)).any (·.1) = false := by rfl) : OE X (.Call (.Name "max" p) [a, b] [] pos) (biM max2G am) := oe_bi (call_max2 hc) cs_max2 ha hm (by decide +kernel) hg (by decide) (by decide) he hpl
theorem oe_min2 (hc : X.calm = true) (ha : AE X [a, b] am) (hm : X.mg "min" = none) (hg : Gl X "min" := by rfl) (he : starEach [a, b] X.env = (false, eval a X.env) :: starEach [b] X.env := by rfl) (hpl : (backTo pos (starEach [b] X.env)).any (·.1) = false := by rfl) : OE X (.Call (.Name "min" p) [a, b] [] pos) (biM min2G am) := oe_bi (call_min2 hc) cs_min2 ha hm (by decide +kernel) hg (by decide) (by decide) he hpl
end
end Ev

set_option Elab.async false
set_option linter.all false
set_option maxRecDepth 100000
/-! Ev. S: x in xs, items of any depth. -/
set_option autoImplicit false
namespace Ev
open PySem PySem.Spec PyProof.Rows L2
section
variable {X : Cx} {a b : Expr} {ma mb : EM} {pos p : Pos}
def itemsP : PyData → Option (List PyData)
  | .list ds => some ds
  | .tuple ds => some ds
  | _ => none
def inE (neg : Bool) (d e : D) : Option Opd := match inG neg d e with
  | some o => some o
  | none => match toPy d with
    | some p => match toPy e with
      | some q => match itemsP q with
        | some ds => if SeqAt.shaped p = true ∧ SeqAt.shaped q = true then some (.val (.bl (if neg then !ds.any fun z => PyData.eqv z p else ds.any fun z => PyData.eqv z p))) else none
        | none => none
      | none => none
    | none => none
def rInE (K : PySem.W.Frag) (neg : Bool) : R2 := fun x y H Q => rIn K neg x y H Q ∨ ∃ d q ds, Dp K H x d ∧ Dp K H y q ∧ itemsP q = some ds ∧ SeqAt.shaped d = true ∧ SeqAt.shaped q = true ∧ Q (.bl (if neg then !ds.any fun z => PyData.eqv z d else ds.any fun z => PyData.eqv z d)) H
theorem op_inE (hu : X.A.units + 65 < cLine) : OpR X (compareOp .In) (rInE X.K false) := by
  intro pins s σ H x y v u Q I rx ry h
  rcases h with h | ⟨d, q, ds, hd, he, eq, sd, se, q⟩
  · exact op_in_seq _ _ _ _ _ _ _ _ _ I rx ry h
  · obtain ⟨as, r1⟩ := Dp.reads I d x v hd rx
    obtain ⟨bs, r2⟩ := Dp.reads I _ y u he ry
    cases he <;> cases eq
    · exact SeqAt.in_list_reads r2 r1 (SeqAt.canLay_of_shaped se) (SeqAt.canLay_of_shaped sd) (room_in_shaped sd hu) ⟨.bl _, H, I, rfl, q⟩
    · exact SeqAt.in_tuple_reads r2 r1 (SeqAt.canLay_of_shaped se) (SeqAt.canLay_of_shaped sd) (room_in_shaped sd hu) ⟨.bl _, H, I, rfl, q⟩
theorem op_ninE (hu : X.A.units + 65 < cLine) : OpR X (compareOp .NotIn) (rInE X.K true) := by
  intro pins s σ H x y v u Q I rx ry h
  rcases h with h | ⟨d, q, ds, hd, he, eq, sd, se, q⟩
  · exact op_notIn_seq _ _ _ _ _ _ _ _ _ I rx ry h
  · obtain ⟨as, r1⟩ := Dp.reads I d x v hd rx
    obtain ⟨bs, r2⟩ := Dp.reads I _ y u he ry
    cases he <;> cases eq
    · exact SeqAt.notIn_list_reads r2 r1 (SeqAt.canLay_of_shaped se) (SeqAt.canLay_of_shaped sd) (room_in_shaped sd hu) ⟨.bl _, H, I, rfl, q⟩
    · exact SeqAt.notIn_tuple_reads r2 r1 (SeqAt.canLay_of_shaped se) (SeqAt.canLay_of_shaped sd) (room_in_shaped sd hu) ⟨.bl _, H, I, rfl, q⟩
theorem ops_inE (neg : Bool) : OpS X (rInE X.K neg) (inE neg) := by
  intro Fr F H ρ σ x y d e o Q R hx hy g k
  unfold inE at g
  split at g
  · rename_i o' e1
    cases g
    exact .inl (ops_in neg R hx hy e1 k)
  · split at g
    · rename_i p e2
      split at g
      · rename_i q e3
        split at g
        · rename_i ds e4
          split at g
          · rename_i z
            cases g
            exact .inr ⟨p, q, ds, hx.dp R.f e2, hy.dp R.f e3, e4, z.1, z.2, after_val R (.bl _) k⟩
          · cases g
        · cases g
      · cases g
    · cases g
theorem room65 {k : Nat} {A : Around} (r : Room k A) : A.units + 65 < cLine := by have := r.un; omega
theorem oe_inE (hu : X.A.units + 65 < cLine) (ha : OE X a ma) (hb : OE X b mb) (hm : behindInMarks .In b = false := by rfl) : OE X (.Compare a [.In] [b] pos) (binM (inE false) ma mb) := oe_cmp (op_inE hu) (ops_inE false) ha hb hm
theorem oe_ninE (hu : X.A.units + 65 < cLine) (ha : OE X a ma) (hb : OE X b mb) (hm : behindInMarks .NotIn b = false := by rfl) : OE X (.Compare a [.NotIn] [b] pos) (binM (inE true) ma mb) := oe_cmp (op_ninE hu) (ops_inE true) ha hb hm
theorem te_inE (hu : X.A.units + 65 < cLine) (ha : OE X a ma) (hb : OE X b mb) (hm : behindInMarks .In b = false := by rfl) : TeE X (.Compare a [.In] [b] pos) (boolM (binM (inE false) ma mb)) := te_cmp (op_inE hu) (ops_inE false) ha hb hm
theorem te_ninE (hu : X.A.units + 65 < cLine) (ha : OE X a ma) (hb : OE X b mb) (hm : behindInMarks .NotIn b = false := by rfl) : TeE X (.Compare a [.NotIn] [b] pos) (boolM (binM (inE true) ma mb)) := te_cmp (op_ninE hu) (ops_inE true) ha hb hm
end
end Ev

set_option Elab.async false
set_option linter.all false
set_option maxRecDepth 100000
/-! Ev. U: any, all of lists of truth values, ints, Nones. -/
set_option autoImplicit false
namespace Ev
open PySem PySem.Spec PyProof.Rows L2
def tvV : V → Option Bool
  | .non => some false
  | .bl b => some b
  | .int i => some (i != 0)
  | _ => none
def tvD : D → Option Bool
  | .non => some false
  | .bl b => some b
  | .int i => some (i != 0)
  | _ => none
def tvs : List D → Option (List Bool)
  | [] => some []
  | d :: ds => match tvD d, tvs ds with
    | some b, some bs => some (b :: bs)
    | _, _ => none
theorem tv_reps {K : PySem.W.Frag} {F : Hp} : ∀ {vs : List V} {ds : List D} {bs : List Bool}, Reps K F vs ds → tvs ds = some bs → vs.map tvV = bs.map some
  | _, _, bs, .nil, e => by cases e; rfl
  | v :: _, _, bs, .cons h r, e => by
    rw [tvs] at e
    split at e
    · rename_i b bs' e1 e2
      cases e
      have ih := tv_reps r e2
      have h1 : tvV v = some b := by
        cases h <;> first | exact e1 | (cases e1; done)
      rw [List.map_cons, List.map_cons, ih, h1]
    · cases e
theorem truth_tv {prog : Program} {w : World} {A : Around} {xs : List V} {bs : List Bool} {its : List Value} (rv : Vals xs its) (e : xs.map tvV = bs.map some) :
    TruthOf prog w A (fun i v => its.toArray[i]? = some v) (fun i => bs.getD i false) := fun i v s Q E hv hq => by
  have hv' : its[i]? = some v := by simpa using hv
  have hi : i < its.length := (List.getElem?_eq_some_iff.1 hv').1
  have hl := rv.length
  have hx : xs[i]? = some xs[i] := List.getElem?_eq_getElem (by omega)
  obtain ⟨u, hu, hr⟩ := rv.get hx
  rw [hv'] at hu; cases hu
  have h2 : (bs.map some)[i]? = some (tvV xs[i]) := by rw [← e, List.getElem?_map, hx]; rfl
  rw [List.getElem?_map] at h2
  obtain ⟨b, hb, hb2⟩ := Option.map_eq_some_iff.mp h2
  have hg : bs.getD i false = b := by rw [List.getD_eq_getElem?_getD, hb] <;> rfl
  have hq' : Q (bs.getD i false) s := hq
  rw [hg] at hq'
  generalize xs[i] = x at hr hb2
  cases x with
  | non => cases hb2; cases hr; exact truthy_none hq'
  | bl c => cases hb2; cases hr; exact wpAny_truthy_bool hq'
  | int k => cases hb2; obtain ⟨t, rfl⟩ := hr; exact truthy_int hq'
  | _ => cases hb2
section
variable {X : Cx} {pos p : Pos} {e : Expr} {am : AM}
def rAnyE (K : PySem.W.Frag) : List V → Hp → VK → Prop := fun vs H Q => ∃ (a : Addr) (xs : List V) (bs : List Bool), vs = [V.ref a] ∧ SqL K H a xs ∧ xs.map tvV = bs.map some ∧ Q (.bl (bs.any id)) H
def rAllE (K : PySem.W.Frag) : List V → Hp → VK → Prop := fun vs H Q => ∃ (a : Addr) (xs : List V) (bs : List Bool), vs = [V.ref a] ∧ SqL K H a xs ∧ xs.map tvV = bs.map some ∧ Q (.bl (bs.all id)) H
theorem cr_anyE (hc : X.calm = true) : CallR X (.builtin "any") (rAnyE X.K) := by
  intro pins s σ H vs us Q I r h
  obtain ⟨a, xs, bs, rfl, hs, ht, q⟩ := h
  obtain ⟨its, rv, hl, _⟩ := I.list hs
  rw [Vals.ref1 r]
  have hlen := rv.length
  have hlen2 := congrArg List.length ht
  rw [List.length_map, List.length_map] at hlen2
  refine call_any_walk (iter_any hl.isList fun s₂ e2 st hne => ?_)
  subst e2
  refine ⟨_, _, _, _, _, _, _, rfl, Walks.list (A := X.A.in1) (I.ok.hd hc) _ a hne its.toArray, st, truth_tv rv ht, fun h' tk hk => ?_⟩
  refine ⟨.bl _, H, I.kept fun b o eo => hk b o (fun hmem => ?_) (Heap.get?_push_of_some _ eo), ?_, q⟩
  · rcases List.mem_cons.mp hmem with e1 | hmem
    · exact absurd (e1 ▸ Heap.lt_size eo) (Nat.lt_irrefl _)
    · cases hmem
  · show Value.bool _ = Value.bool _
    rw [← L2.any_range, List.size_toArray, ← hlen, hlen2]
theorem cr_allE (hc : X.calm = true) : CallR X (.builtin "all") (rAllE X.K) := by
  intro pins s σ H vs us Q I r h
  obtain ⟨a, xs, bs, rfl, hs, ht, q⟩ := h
  obtain ⟨its, rv, hl, _⟩ := I.list hs
  rw [Vals.ref1 r]
  have hlen := rv.length
  have hlen2 := congrArg List.length ht
  rw [List.length_map, List.length_map] at hlen2
  refine call_all_walk (iter_any hl.isList fun s₂ e2 st hne => ?_)
  subst e2
  refine ⟨_, _, _, _, _, _, _, rfl, Walks.list (A := X.A.in1) (I.ok.hd hc) _ a hne its.toArray, st, truth_tv rv ht, fun h' tk hk => ?_⟩
  refine ⟨.bl _, H, I.kept fun b o eo => hk b o (fun hmem => ?_) (Heap.get?_push_of_some _ eo), ?_, q⟩
  · rcases List.mem_cons.mp hmem with e1 | hmem
    · exact absurd (e1 ▸ Heap.lt_size eo) (Nat.lt_irrefl _)
    · cases hmem
  · show Value.bool _ = Value.bool _
    rw [← L2.all_range, List.size_toArray, ← hlen, hlen2]
def truG (f : List Bool → Bool) : List D → Option Opd
  | [d] => match listD d with
    | some ds => match tvs ds with
      | some ns => some (.val (.bl (f ns)))
      | none => none
    | none => none
  | _ => none
abbrev anyT := truG fun bs => bs.any id
abbrev allT := truG fun bs => bs.all id
theorem cs_anyE : CalS X (rAnyE X.K) anyT := by
  intro Fr F H ρ σ vs ds o Q R hv g k
  unfold anyT truG at g
  split at g
  · rename_i d
    split at g
    · rename_i ds' e1
      split at g
      · rename_i ns e2
        cases g
        obtain ⟨v, rfl, w⟩ := vw1 hv
        obtain ⟨a, vs, rfl, q, r⟩ := w.list R.f e1
        exact ⟨a, vs, ns, rfl, q, tv_reps r e2, after_val R (.bl _) k⟩
      · cases g
    · cases g
  · cases g
theorem cs_allE : CalS X (rAllE X.K) allT := by
  intro Fr F H ρ σ vs ds o Q R hv g k
  unfold allT truG at g
  split at g
  · rename_i d
    split at g
    · rename_i ds' e1
      split at g
      · rename_i ns e2
        cases g
        obtain ⟨v, rfl, w⟩ := vw1 hv
        obtain ⟨a, vs, rfl, q, r⟩ := w.list R.f e1
        exact ⟨a, vs, ns, rfl, q, tv_reps r e2, after_val R (.bl _) k⟩
      · cases g
    · cases g
  · cases g
theorem oe_anyT (hc : X.calm = true) (ha : AE X [e] am) (hm : X.mg "any" = none) (hg : Gl X "any" := by rfl) (he : starEach [e] X.env = (false, eval e X.env) :: starEach [] X.env := by rfl) : OE X (.Call (.Name "any" p) [e] [] pos) (biM anyT am) := oe_bi (cr_anyE hc) cs_anyE ha hm (by decide +kernel) hg (by decide) (by decide) he
theorem oe_allT (hc : X.calm = true) (ha : AE X [e] am) (hm : X.mg "all" = none) (hg : Gl X "all" := by rfl) (he : starEach [e] X.env = (false, eval e X.env) :: starEach [] X.env := by rfl) : OE X (.Call (.Name "all" p) [e] [] pos) (biM allT am) := oe_bi (cr_allE hc) cs_allE ha hm (by decide +kernel) hg (by decide) (by decide) he
theorem ops_isnB : OpS X rNotB (isBG true) := by
  intro Fr F H ρ σ x y d e o Q R hx hy g k
  unfold isBG at g
  split at g
  · rename_i a b
    cases g
    cases hx.bl
    cases hy.bl
    exact ⟨a, b, rfl, rfl, after_val R (.bl _) k⟩
  · cases g
variable {a b : Expr} {ma mb : EM}
theorem oe_isnB (ha : OE X a ma) (hb : OE X b mb) : OE X (.Compare a [.IsNot] [b] pos) (binM (isBG true) ma mb) := oe_cmp op_notBl ops_isnB ha hb (nomark _)
theorem te_isnB (ha : OE X a ma) (hb : OE X b mb) : TeE X (.Compare a [.IsNot] [b] pos) (boolM (binM (isBG true) ma mb)) := te_cmp op_notBl ops_isnB ha hb (nomark _)
end
end Ev

set_option Elab.async false
set_option linter.all false
set_option maxRecDepth 100000
set_option maxHeartbeats 1000000
/-! Ev. Z: zip of a list and a tuple, either way round. -/
set_option autoImplicit false
namespace Ev
open PySem PySem.Spec PyProof.Rows L2 RZ
def ItrK (k : Bool) (h : Heap) (it l : Addr) (i : Nat) : Prop := match k with
  | true => h.IsListIter it l i
  | false => h.IsTupleIter it l i
def Cnt (k : Bool) (h : Heap) (l : Addr) (its : Array Value) : Prop := match k with
  | true => h.IsList l its
  | false => h.IsTuple l its
theorem ItrK.up {k : Bool} {h h' : Heap} {it l : Addr} {i : Nat} (x : ItrK k h it l i) (e : ∀ o, h.get? it = some o → h'.get? it = some o) : ItrK k h' it l i := by
  cases k with
  | true => exact Heap.IsListIter.at x e
  | false => exact Heap.IsTupleIter.at x e
theorem Cnt.up {k : Bool} {h h' : Heap} {l : Addr} {its : Array Value} (x : Cnt k h l its) (e : ∀ o, h.get? l = some o → h'.get? l = some o) : Cnt k h' l its := by
  cases k <;> (obtain ⟨o, ho, r⟩ := x; exact ⟨o, e o ho, r⟩)
theorem ItrK.lt {k : Bool} {h : Heap} {it l : Addr} {i : Nat} (x : ItrK k h it l i) : it < h.objs.size := by
  cases k <;> (obtain ⟨o, ho, r⟩ := x; exact Heap.lt_size ho)
theorem Cnt.lt {k : Bool} {h : Heap} {l : Addr} {its : Array Value} (x : Cnt k h l its) : l < h.objs.size := by
  cases k <;> (obtain ⟨o, ho, r⟩ := x; exact Heap.lt_size ho)
theorem ItrK.obj {k : Bool} {h : Heap} {it l : Addr} {i : Nat} (x : ItrK k h it l i) : ∃ o, h.get? it = some o ∧ ∀ v, o.data ≠ .cell v := by
  cases k <;> (obtain ⟨o, ho, _, hd⟩ := x; exact ⟨o, ho, fun v q => by rw [hd] at q; cases q⟩)
section
variable {prog : Program} {w : World} {A : Around} {E : Value → Shared → Prop} {s : Shared}
theorem nextK_item {k : Bool} {it l : Addr} {i : Nat} {its : Array Value} {x : Value} {Q : Value → Shared → Prop} (h1 : ItrK k s.heap it l i) (h2 : Cnt k s.heap l its) (hx : its[i]? = some x)
    (q : ∀ h', ItrK k h' it l (i + 1) → Heap.SameBut it s.heap h' → Q x { s with heap := h' }) : wpAny (model prog w) A (Builtin.SmallTypes.nextOf (.ref it)) Q E s := by
  cases k with
  | true => exact wpAny_nextOf_list_item h1 h2 hx q
  | false => exact nextOf_tuple_item h1 h2 hx q
theorem nextK_end {k : Bool} {it l : Addr} {i : Nat} {its : Array Value} {Q : Value → Shared → Prop} (hh : A.handled = none) (h1 : ItrK k s.heap it l i) (h2 : Cnt k s.heap l its) (hx : its[i]? = none)
    (q : ∀ h' e, Heap.ExtBut it s.heap h' → (∃ o, h'.get? e = some o ∧ o.cls = .type "StopIteration") → E (.ref e) { s with heap := h' }) : wpAny (model prog w) A (Builtin.SmallTypes.nextOf (.ref it)) Q E s := by
  cases k with
  | true => exact wpAny_nextOf_list_end hh h1 h2 hx q
  | false => exact nextOf_tuple_end hh h1 h2 hx q
theorem zipK_item {k k' : Bool} {z TI TO i1 i2 l1 l2 : Addr} {n1 n2 : Nat} {xs ys : Array Value} {x y a b : Value} {Q : Value → Shared → Prop} (D : ZipApart z TI TO i1 i2 l1 l2) (hz : IsZip s.heap z TI TO .none)
    (hTI : IsPair s.heap TI (.ref i1) (.ref i2)) (hTO : IsPair s.heap TO a b) (u1 : ItrK k s.heap i1 l1 n1) (u2 : ItrK k' s.heap i2 l2 n2) (c1 : Cnt k s.heap l1 xs) (c2 : Cnt k' s.heap l2 ys) (hx : xs[n1]? = some x) (hy : ys[n2]? = some y)
    (q : ∀ h', IsZip h' z TI TO (rawInt s.heap.objs.size) → IsPair h' TO x y → ItrK k h' i1 l1 (n1 + 1) → ItrK k' h' i2 l2 (n2 + 1) → IsPair h' s.heap.objs.size x y → h'.objs.size = s.heap.objs.size + 1 →
      (∀ c o, c ≠ z → c ≠ TO → c ≠ i1 → c ≠ i2 → s.heap.get? c = some o → h'.get? c = some o) → Q (.ref s.heap.objs.size) { s with heap := h' }) : wpAny (model prog w) A (Builtin.«zip.__next__» ⟨[.ref z], []⟩) (fun fin s' => ∃ v, fin = .done (.ret v) ∧ Q v s') E s := by
  show wpAny _ _ (field (.ref z) 2 >>= _) _ _ _; refine wpAny_bind (wpAny_field hz rfl (x := .bool false) rfl ?_); show wpAny _ _ (field (.ref z) 3 >>= _) _ _ _
  refine wpAny_bind (wpAny_field hz rfl (x := .ref TI) rfl (wpAny_bind (wpAny_seqItems hTI rfl ?_))); show wpAny _ _ (Builtin.SmallTypes.ownedTupleIsFree (.ref z) >>= _) _ _ _; refine wpAny_bind ?_
  unfold Builtin.SmallTypes.ownedTupleIsFree
  refine wpAny_bind (wpAny_field hz rfl (x := .none) rfl (wpAny_pure ?_)); simp only [if_true]
  refine wpAny_bind (wpAny_rule (wpAny_bind (wpAny_field hz rfl (x := .ref TO) rfl (wpAny_bind (wpAny_setField_rec hz (by simp) fun g1 w1 s1 => ?_)))))
  replace w1 : IsZip g1 z TI TO .ellipsis := w1
  refine wpAny_bind ?_; simp only [List.zipIdx_cons, List.zipIdx_nil, List.forIn_cons, List.forIn_nil]
  refine wpAny_bind (wpAny_bind (wpAny_onRaise ?_)); show wpAny _ _ (Builtin.SmallTypes.nextOf (.ref i1) >>= _) _ _ _
  refine wpAny_bind (nextK_item (u1.up fun o e => s1.extBut _ _ D.i1z e) (c1.up fun o e => s1.extBut _ _ D.l1z e) hx fun g2 v1 s2 => wpAny_pure ?_)
  have p2 : IsPair g2 TO a b := s2.extBut _ _ D.TOi1 (s1.extBut _ _ D.TOz hTO)
  refine wpAny_bind (wpAny_seqItems p2 rfl (wpAny_bind (wpAny_updateSeq_pair p2 fun g3 p3 s3 => ?_))); replace p3 : IsPair g3 TO x b := p3
  refine wpAny_bind (wpAny_letGo (wpAny_pure ?_)); refine wpAny_bind (wpAny_bind (wpAny_onRaise ?_)); show wpAny _ _ (Builtin.SmallTypes.nextOf (.ref i2) >>= _) _ _ _
  have up3 : ∀ c o, c ≠ z → c ≠ i1 → c ≠ TO → s.heap.get? c = some o → g3.get? c = some o := fun c o q1 q2 q3 e => s3.extBut _ _ q3 (s2.extBut _ _ q2 (s1.extBut _ _ q1 e))
  refine wpAny_bind (nextK_item (u2.up fun o e => up3 _ o D.i2z D.i12.symm D.TOi2.symm e) (c2.up fun o e => up3 _ o D.l2z D.l2i1 D.l2TO e) hy fun g4 v2 s4 => wpAny_pure ?_)
  have p4 : IsPair g4 TO x b := s4.extBut _ _ D.TOi2 p3
  refine wpAny_bind (wpAny_seqItems p4 rfl (wpAny_bind (wpAny_updateSeq_pair p4 fun g5 p5 s5 => ?_))); replace p5 : IsPair g5 TO x y := p5
  refine wpAny_bind (wpAny_letGo (wpAny_pure (wpAny_pure ?_))); refine wpAny_bind (wpAny_seqItems p5 rfl (wpAny_bind (wpAny_newTuple ?_)))
  have sz : g5.objs.size = s.heap.objs.size := by rw [s5.1, s4.1, s3.1, s2.1, s1.1]
  have w5 : IsZip g5 z TI TO .ellipsis := s5.extBut _ _ D.TOz.symm (s4.extBut _ _ D.i2z.symm (s3.extBut _ _ D.TOz.symm (s2.extBut _ _ D.i1z.symm w1)))
  have up5 : ∀ c o, c ≠ z → c ≠ TO → c ≠ i1 → c ≠ i2 → s.heap.get? c = some o → g5.get? c = some o := fun c o q1 q2 q3 q4 e => s5.extBut _ _ q2 (s4.extBut _ _ q4 (up3 c o q1 q3 q2 e))
  have v15 : ItrK k g5 i1 l1 (n1 + 1) := v1.up fun o e => s5.extBut _ _ D.TOi1.symm (s4.extBut _ _ D.i12 (s3.extBut _ _ D.TOi1.symm e))
  have v25 : ItrK k' g5 i2 l2 (n2 + 1) := v2.up fun o e => s5.extBut _ _ D.TOi2.symm e
  have zl : z < g5.objs.size := Heap.lt_size w5
  show wpAny _ _ (Builtin.SmallTypes.ownedTupleHandOut (.ref z) (.ref g5.objs.size) >>= _) _ _ _; refine wpAny_bind ?_
  unfold Builtin.SmallTypes.ownedTupleHandOut
  have w6 : IsZip (g5.push { cls := .type "tuple", data := .seq #[x, y] }) z TI TO .ellipsis := Heap.get?_push_of_some _ w5
  refine wpAny_bind (wpAny_setField_rec w6 (by simp) fun g7 w7 s7 => ?_); replace w7 : IsZip g7 z TI TO (rawInt g5.objs.size) := w7
  refine wpAny_setField_rec w7 (by simp) fun g8 w8 s8 => ?_; replace w8 : IsZip g8 z TI TO (rawInt g5.objs.size) := w8
  have up : ∀ c o, c ≠ z → g5.get? c = some o → g8.get? c = some o := fun c o q1 e => s8.extBut _ _ q1 (s7.extBut _ _ q1 (Heap.get?_push_of_some _ e))
  have new : IsPair g8 g5.objs.size x y := s8.extBut _ _ (Nat.ne_of_gt zl) (s7.extBut _ _ (Nat.ne_of_gt zl) (Heap.get?_push_size _ rfl))
  have sz8 : g8.objs.size = g5.objs.size + 1 := by rw [s8.1, s7.1, Heap.size_push]
  rw [sz] at w8 new sz8; refine wpAny_pure ⟨_, rfl, ?_⟩; show Q (.ref g5.objs.size) _; rw [sz]
  exact q g8 w8 (up _ _ D.TOz p5) (v15.up fun o e => up _ o D.i1z e) (v25.up fun o e => up _ o D.i2z e) new sz8 fun c o q1 q2 q3 q4 e => up c o q1 (up5 c o q1 q2 q3 q4 e)
theorem zipK_end {k k' : Bool} {z TI TO i1 i2 l1 l2 : Addr} {n1 n2 : Nat} {xs ys : Array Value} {a b : Value} {Q : PySem.Fin → Shared → Prop} (hh : A.handled = none) (D : ZipApart z TI TO i1 i2 l1 l2) (hz : IsZip s.heap z TI TO .none)
    (hTI : IsPair s.heap TI (.ref i1) (.ref i2)) (hTO : IsPair s.heap TO a b) (u1 : ItrK k s.heap i1 l1 n1) (u2 : ItrK k' s.heap i2 l2 n2) (c1 : Cnt k s.heap l1 xs) (c2 : Cnt k' s.heap l2 ys) (fin : xs[n1]? = none ∨ ys[n2]? = none)
    (q : ∀ h' e, (∀ c o, c ≠ z → c ≠ TO → c ≠ i1 → c ≠ i2 → s.heap.get? c = some o → h'.get? c = some o) → (∃ o, h'.get? e = some o ∧ o.cls = .type "StopIteration") → E (.ref e) { s with heap := h' }) : wpAny (model prog w) A (Builtin.«zip.__next__» ⟨[.ref z], []⟩) Q E s := by
  show wpAny _ _ (field (.ref z) 2 >>= _) _ _ _; refine wpAny_bind (wpAny_field hz rfl (x := .bool false) rfl ?_); show wpAny _ _ (field (.ref z) 3 >>= _) _ _ _
  refine wpAny_bind (wpAny_field hz rfl (x := .ref TI) rfl (wpAny_bind (wpAny_seqItems hTI rfl ?_))); show wpAny _ _ (Builtin.SmallTypes.ownedTupleIsFree (.ref z) >>= _) _ _ _; refine wpAny_bind ?_
  unfold Builtin.SmallTypes.ownedTupleIsFree
  refine wpAny_bind (wpAny_field hz rfl (x := .none) rfl (wpAny_pure ?_)); simp only [if_true]
  refine wpAny_bind (wpAny_rule (wpAny_bind (wpAny_field hz rfl (x := .ref TO) rfl (wpAny_bind (wpAny_setField_rec hz (by simp) fun g1 w1 s1 => ?_)))))
  replace w1 : IsZip g1 z TI TO .ellipsis := w1
  refine wpAny_bind ?_; simp only [List.zipIdx_cons, List.zipIdx_nil, List.forIn_cons, List.forIn_nil]
  refine wpAny_bind (wpAny_bind (wpAny_onRaise ?_)); show wpAny _ _ (Builtin.SmallTypes.nextOf (.ref i1) >>= _) _ _ _
  cases hx : xs[n1]? with
  | none =>
    refine wpAny_bind (nextK_end hh (u1.up fun o e => s1.extBut _ _ D.i1z e) (c1.up fun o e => s1.extBut _ _ D.l1z e) hx fun g2 e s2 ⟨oe, h1, h2⟩ => ?_)
    have w2 : IsZip g2 z TI TO .ellipsis := s2 _ _ D.i1z.symm w1
    have ne : e ≠ z := by rintro rfl; rw [w2] at h1; cases h1; simp at h2
    refine wpAny_setField_rec w2 (by simp) fun g3 _ s3 => q g3 e (fun c o q1 _ q3 _ x => s3.extBut _ _ q1 (s2 _ _ q3 (s1.extBut _ _ q1 x))) ⟨oe, s3.extBut _ _ ne h1, h2⟩
  | some x =>
    have hy : ys[n2]? = none := by rcases fin with h | h; rw [hx] at h; cases h; exact h
    refine wpAny_bind (nextK_item (u1.up fun o e => s1.extBut _ _ D.i1z e) (c1.up fun o e => s1.extBut _ _ D.l1z e) hx fun g2 v1 s2 => wpAny_pure ?_)
    have p2 : IsPair g2 TO a b := s2.extBut _ _ D.TOi1 (s1.extBut _ _ D.TOz hTO)
    refine wpAny_bind (wpAny_seqItems p2 rfl (wpAny_bind (wpAny_updateSeq_pair p2 fun g3 p3 s3 => ?_)))
    refine wpAny_bind (wpAny_letGo (wpAny_pure ?_)); refine wpAny_bind (wpAny_bind (wpAny_onRaise ?_)); show wpAny _ _ (Builtin.SmallTypes.nextOf (.ref i2) >>= _) _ _ _
    have up3 : ∀ c o, c ≠ z → c ≠ i1 → c ≠ TO → s.heap.get? c = some o → g3.get? c = some o := fun c o q1 q2 q3 e => s3.extBut _ _ q3 (s2.extBut _ _ q2 (s1.extBut _ _ q1 e))
    refine wpAny_bind (nextK_end hh (u2.up fun o e => up3 _ o D.i2z D.i12.symm D.TOi2.symm e) (c2.up fun o e => up3 _ o D.l2z D.l2i1 D.l2TO e) hy fun g4 e s4 ⟨oe, h1, h2⟩ => ?_)
    have w4 : IsZip g4 z TI TO .ellipsis := s4 _ _ D.i2z.symm (s3.extBut _ _ D.TOz.symm (s2.extBut _ _ D.i1z.symm w1))
    have ne : e ≠ z := by rintro rfl; rw [w4] at h1; cases h1; simp at h2
    refine wpAny_setField_rec w4 (by simp) fun g5 _ s5 => q g5 e (fun c o q1 q2 q3 q4 x => s5.extBut _ _ q1 (s4 _ _ q4 (up3 c o q1 q3 q2 x))) ⟨oe, s5.extBut _ _ ne h1, h2⟩
theorem pyNextK_item {k k' : Bool} {z TI TO i1 i2 l1 l2 : Addr} {n1 n2 : Nat} {xs ys : Array Value} {x y a b : Value} {Q : Option Value → Shared → Prop} (D : ZipApart z TI TO i1 i2 l1 l2) (hz : IsZip s.heap z TI TO .none)
    (hTI : IsPair s.heap TI (.ref i1) (.ref i2)) (hTO : IsPair s.heap TO a b) (u1 : ItrK k s.heap i1 l1 n1) (u2 : ItrK k' s.heap i2 l2 n2) (c1 : Cnt k s.heap l1 xs) (c2 : Cnt k' s.heap l2 ys) (hx : xs[n1]? = some x) (hy : ys[n2]? = some y)
    (q : ∀ h', IsZip h' z TI TO (rawInt s.heap.objs.size) → IsPair h' TO x y → ItrK k h' i1 l1 (n1 + 1) → ItrK k' h' i2 l2 (n2 + 1) → IsPair h' s.heap.objs.size x y → h'.objs.size = s.heap.objs.size + 1 →
      (∀ c o, c ≠ z → c ≠ TO → c ≠ i1 → c ≠ i2 → s.heap.get? c = some o → h'.get? c = some o) → Q (some (.ref s.heap.objs.size)) { s with heap := h' }) : wpAny (model prog w) A (pyNext (.ref z)) Q E s := by
  have t : s.TypeIs (.ref z) "zip" := ⟨_, hz, rfl⟩
  unfold pyNext
  exact wpAny_bind (wpAny_attempt (wpAny_callSpecial?_slot (name := Str.ofString "__next__") t F.slot_zip_next (wpAny_call_entry F.slot_zip_next t F.entry_zip_next (zipK_item D hz hTI hTO u1 u2 c1 c2 hx hy fun h' e1 e2 e3 e4 e5 e6 e7 => wpAny_pure (q h' e1 e2 e3 e4 e5 e6 e7)) (F.args_zip_next_1 _))))
theorem pyNextK_end {k k' : Bool} {z TI TO i1 i2 l1 l2 : Addr} {n1 n2 : Nat} {xs ys : Array Value} {a b : Value} {Q : Option Value → Shared → Prop} (hh : A.handled = none) (D : ZipApart z TI TO i1 i2 l1 l2) (hz : IsZip s.heap z TI TO .none)
    (hTI : IsPair s.heap TI (.ref i1) (.ref i2)) (hTO : IsPair s.heap TO a b) (u1 : ItrK k s.heap i1 l1 n1) (u2 : ItrK k' s.heap i2 l2 n2) (c1 : Cnt k s.heap l1 xs) (c2 : Cnt k' s.heap l2 ys) (fin : xs[n1]? = none ∨ ys[n2]? = none)
    (q : ∀ h', (∀ c o, c ≠ z → c ≠ TO → c ≠ i1 → c ≠ i2 → s.heap.get? c = some o → h'.get? c = some o) → Q none { s with heap := h' }) : wpAny (model prog w) A (pyNext (.ref z)) Q E s := by
  have t : s.TypeIs (.ref z) "zip" := ⟨_, hz, rfl⟩
  unfold pyNext
  refine wpAny_bind (wpAny_attempt (wpAny_callSpecial?_slot (name := Str.ofString "__next__") t F.slot_zip_next (wpAny_call_entry F.slot_zip_next t F.entry_zip_next (zipK_end hh D hz hTI hTO u1 u2 c1 c2 fin fun h' e up ⟨o, ho, hc⟩ => ?_) (F.args_zip_next_1 _))))
  exact wpAny_bind (wpAny_isInstance (T := "StopIteration") (b := true) ⟨o, ho, hc⟩ isSubtype_stop (wpAny_pure (q _ up)))
end
def nmK (k : Bool) : String := if k then "list_iterator" else "tuple_iterator"
abbrev kH1 (k : Bool) (h : Heap) (l : Addr) : Heap := h.push { cls := .type (nmK k), data := .fields #[.ref l, .int 0 0] }
abbrev kH2 (k k' : Bool) (h : Heap) (l l' : Addr) : Heap := (kH1 k h l).push { cls := .type (nmK k'), data := .fields #[.ref l', .int 0 0] }
abbrev kH3 (k k' : Bool) (h : Heap) (l l' : Addr) : Heap := (kH2 k k' h l l').push { cls := .type "tuple", data := .seq #[.ref h.objs.size, .ref (kH1 k h l).objs.size] }
abbrev kH4 (k k' : Bool) (h : Heap) (l l' : Addr) : Heap := (kH3 k k' h l l').push { cls := .type "tuple", data := .seq #[.none, .none] }
abbrev kH5 (k k' : Bool) (h : Heap) (l l' : Addr) : Heap := (kH4 k k' h l l').push { cls := .type "zip", data := .fields #[.none, .bool false, .bool false, .ref (kH2 k k' h l l').objs.size, .ref (kH3 k k' h l l').objs.size] }
theorem meetsK {k k' : Bool} (hk : k ≠ k') (l l' : Addr) (xs ys : Array Value) : Meets (Builtin.«zip.__new__» ⟨[.type "zip", .ref l, .ref l'], []⟩) (fun _ R s => Cnt k s.heap l xs ∧ Cnt k' s.heap l' ys ∧ R (.ok (.ret (.ref (kH4 k k' s.heap l l').objs.size))) { s with heap := kH5 k k' s.heap l l' }) :=
  .of_wp fun prog w A R s h => by
    obtain ⟨hp, g, d, tk, os⟩ := s
    obtain ⟨c1, c2, h⟩ := h
    have hsub := sub_zip
    cases k <;> cases k'
    · exact absurd rfl hk
    · have m1 : Heap.IsTuple (Shared.heap ⟨hp, g, d, tk, os⟩) l xs := c1
      have m2 : Heap.IsList (Shared.heap ⟨hp.push { cls := .type "tuple_iterator", data := .fields #[.ref l, .int 0 0] }, g, d, tk, os⟩) l' ys := Heap.IsList.push c2 _
      wp_walk using wpAny_pyIter_tuple m1, wpAny_pyIter_list m2
      exact ⟨_, rfl, h⟩
    · have m1 : Heap.IsList (Shared.heap ⟨hp, g, d, tk, os⟩) l xs := c1
      have m2 : Heap.IsTuple (Shared.heap ⟨hp.push { cls := .type "list_iterator", data := .fields #[.ref l, .int 0 0] }, g, d, tk, os⟩) l' ys := Heap.IsTuple.push c2 _
      wp_walk using wpAny_pyIter_list m1, wpAny_pyIter_tuple m2
      exact ⟨_, rfl, h⟩
    · exact absurd rfl hk
section
variable {prog : Program} {w : World} {A : Around} {E : Value → Shared → Prop} {s : Shared}
theorem callK {k k' : Bool} (hk : k ≠ k') {l l' : Addr} {xs ys : Array Value} {Q : Value → Shared → Prop} (c1 : Cnt k s.heap l xs) (c2 : Cnt k' s.heap l' ys)
    (h : ∀ h', IsZip h' (s.heap.objs.size + 4) (s.heap.objs.size + 2) (s.heap.objs.size + 3) .none → IsPair h' (s.heap.objs.size + 2) (.ref s.heap.objs.size) (.ref (s.heap.objs.size + 1)) → IsPair h' (s.heap.objs.size + 3) .none .none →
      ItrK k h' s.heap.objs.size l 0 → ItrK k' h' (s.heap.objs.size + 1) l' 0 → (∀ c o, s.heap.get? c = some o → h'.get? c = some o) → Q (.ref (s.heap.objs.size + 4)) { s with heap := h' }) : wpAny (model prog w) A (call (.type "zip") [.ref l, .ref l']) Q E s := by
  refine callType_new F.called_zip (by decide) (F.typeCall_zip_2 _ _) (F.newCall_zip_2 _ _) (fun obj => F.args_object_init_3 obj _ _) F.entry_zip_new (meetsK hk l l' xs ys) ⟨c1, c2, ?_⟩
  have e1 : (kH1 k s.heap l).objs.size = s.heap.objs.size + 1 := Heap.size_push ..
  have e2 : (kH2 k k' s.heap l l').objs.size = s.heap.objs.size + 2 := by rw [Heap.size_push, e1]
  have e3 : (kH3 k k' s.heap l l').objs.size = s.heap.objs.size + 3 := by rw [Heap.size_push, e2]
  have e4 : (kH4 k k' s.heap l l').objs.size = s.heap.objs.size + 4 := by rw [Heap.size_push, e3]
  have u5 : (kH5 k k' s.heap l l').get? (kH4 k k' s.heap l l').objs.size = some _ := Heap.get?_push_size _ rfl
  have u4 : (kH5 k k' s.heap l l').get? (kH3 k k' s.heap l l').objs.size = some _ := Heap.get?_push_of_some _ (Heap.get?_push_size _ rfl)
  have u3 : (kH5 k k' s.heap l l').get? (kH2 k k' s.heap l l').objs.size = some _ := Heap.get?_push_of_some _ (Heap.get?_push_of_some _ (Heap.get?_push_size _ rfl))
  have u2 : (kH5 k k' s.heap l l').get? (kH1 k s.heap l).objs.size = some _ := Heap.get?_push_of_some _ (Heap.get?_push_of_some _ (Heap.get?_push_of_some _ (Heap.get?_push_size _ rfl)))
  have u1 : (kH5 k k' s.heap l l').get? s.heap.objs.size = some _ := Heap.get?_push_of_some _ (Heap.get?_push_of_some _ (Heap.get?_push_of_some _ (Heap.get?_push_of_some _ (Heap.get?_push_size _ rfl))))
  show _ ∧ _; rw [e2, e3, e4] at u5; rw [e1, e2] at u3; rw [e3] at u4; rw [e1] at u2; rw [e4]
  refine ⟨⟨_, u5, rfl⟩, h _ u5 u3 u4 ?_ ?_ fun c o x => Heap.get?_push_of_some _ (Heap.get?_push_of_some _ (Heap.get?_push_of_some _ (Heap.get?_push_of_some _ (Heap.get?_push_of_some _ x))))⟩
  · cases k <;> exact ⟨_, u1, rfl, rfl⟩
  · cases k' <;> exact ⟨_, u2, rfl, rfl⟩
end
def SqK (k : Bool) (K : PySem.W.Frag) (H : Hp) (a : Addr) (xs : List V) : Prop := match k with
  | true => SqL K H a xs
  | false => SqT K H a xs
theorem SqK.cnt {X : Cx} {pins : List (Addr × Obj)} {σ : L2.St} {H : Hp} {s : Shared} (I : Inv X pins σ H s) {k : Bool} {a : Addr} {xs : List V} (h : SqK k X.K H a xs) : ∃ its : List Value, Vals xs its ∧ Cnt k s.heap a its.toArray := by
  cases k with
  | true => obtain ⟨its, rv, p, _⟩ := I.list h; exact ⟨its, rv, p.isList⟩
  | false => obtain ⟨its, rv, p, _⟩ := I.tuple h; exact ⟨its, rv, p⟩
theorem SqK.inj {X : Cx} {pins : List (Addr × Obj)} {σ : L2.St} {H : Hp} {s : Shared} (I : Inv X pins σ H s) {k : Bool} {a : Addr} {xs ys : List V} (h : SqK k X.K H a xs) (g : SqK k X.K H a ys) : xs = ys := by
  cases k with
  | true => exact I.list_inj h g
  | false => exact I.tuple_inj h g
def ItzK (k k' : Bool) (K : PySem.W.Frag) (a b : Addr) : It :=
  ⟨fun i H => ∃ (xs ys : List V) (x y : V), SqK k K H a xs ∧ SqK k' K H b ys ∧ xs[i]? = some x ∧ ys[i]? = some y, fun i H v H' => ∃ T x y, v = .ref T ∧ H T = none ∧ H' = upd H T (.tup [x, y]) ∧ (∀ xs, SqK k K H a xs → xs[i]? = some x) ∧ ∀ ys, SqK k' K H b ys → ys[i]? = some y,
    fun i H => ∃ xs ys : List V, SqK k K H a xs ∧ SqK k' K H b ys ∧ (xs.length ≤ i ∨ ys.length ≤ i)⟩
theorem five {z TI TO i1 i2 c : Addr} (h : c ∈ [z, TI, TO, i1, i2]) : c = z ∨ c = TI ∨ c = TO ∨ c = i1 ∨ c = i2 := by simpa using h
theorem turn_zipK {k k' : Bool} {P : Program} {w : World} {K : PySem.W.Frag} {elts : List Expr} {kk : Nat} {tpos : Pos} {a b z TI TO i1 i2 : Addr} (D : ZipApart z TI TO i1 i2 a b) :
    Turn P w K (.Tuple elts kk tpos) (ItzK k k' K a b) [z, TI, TO, i1, i2] z (fun i h => IsZip h z TI TO .none ∧ IsPair h TI (.ref i1) (.ref i2) ∧ (∃ x y, IsPair h TO x y) ∧ ItrK k h i1 a i ∧ ItrK k' h i2 b i) where
  mem := by simp
  obj := fun i h ⟨w1, w2, ⟨x, y, w3⟩, w4, w5⟩ c hc => by
    rcases five hc with rfl | rfl | rfl | rfl | rfl
    · exact ⟨_, w1, fun v q => nomatch q⟩
    · exact ⟨_, w2, fun v q => nomatch q⟩
    · exact ⟨_, w3, fun v q => nomatch q⟩
    · exact w4.obj
    · exact w5.obj
  keep := fun i h h' ⟨w1, w2, ⟨x, y, w3⟩, w4, w5⟩ up => ⟨up z (by simp) _ w1, up TI (by simp) _ w2, ⟨x, y, up TO (by simp) _ w3⟩, w4.up fun o q => up i1 (by simp) o q, w5.up fun o q => up i2 (by simp) o q⟩
  item := by
    rintro X rfl rfl rfl hc i pins s σ H E I hf ⟨w1, w2, ⟨x0, y0, w3⟩, w4, w5⟩ ⟨xs, ys, x, y, q1, q2, hx, hy⟩
    obtain ⟨its, rv, p⟩ := q1.cnt I
    obtain ⟨its2, rv2, p2⟩ := q2.cnt I
    obtain ⟨u, hu, ru⟩ := rv.get hx
    obtain ⟨u2, hu2, ru2⟩ := rv2.get hy
    have zl : z < s.heap.objs.size := Heap.lt_size w1
    refine pyNextK_item D w1 w2 w3 w4 w5 p p2 (x := u) (y := u2) (by simpa using hu) (by simpa using hu2) fun h' z' TO' v1 v2 hT sz up => ⟨_, rfl, wpAny_letOwnedTupleGo_zip (s := { s with heap := h' }) z' fun h'' z'' sb => ?_⟩
    have hT2 : h''.get? s.heap.objs.size = some { cls := .type "tuple", data := .seq #[u, u2] } := (sb.2 _ (Nat.ne_of_gt zl)).trans hT
    have new : ObjOk X.prog X.w (upd H s.heap.objs.size (.tup [x, y])) h'' s.heap.objs.size (.tup [x, y]) := ⟨by show 2 ≤ sizeLine; decide, [u, u2], .cons ru (.cons ru2 .nil), ⟨_, hT2, rfl, _, rfl⟩⟩
    have J : Inv X pins σ (upd H s.heap.objs.size (.tup [x, y])) { s with heap := h'' } := I.turnedNew (t' := s.toks) (ch := [z, TI, TO, i1, i2]) (fun c o hb q => (sb.2 c (fun r => hb (by simp [r]))).trans (up c o (fun r => hb (by simp [r])) (fun r => hb (by simp [r])) (fun r => hb (by simp [r])) (fun r => hb (by simp [r])) q)) hf (Nat.le_refl _) new
    refine ⟨.ref s.heap.objs.size, _, J, rfl, ⟨_, x, y, rfl, I.hok.fresh (Nat.le_refl _), rfl, fun l hl => by rw [hl.inj I q1]; exact hx, fun l hl => by rw [hl.inj I q2]; exact hy⟩, ⟨z'', (sb.2 _ D.TIz).trans (up _ _ D.TIz D.TITO D.TIi1 D.TIi2 w2), ⟨u, u2, (sb.2 _ D.TOz).trans TO'⟩, v1.up fun o q => (sb.2 _ D.i1z).trans q, v2.up fun o q => (sb.2 _ D.i2z).trans q⟩, fun c hcm => ?_⟩
    have hlt : c < s.heap.objs.size := by
      rcases five hcm with r | r | r | r | r
      · rw [r]; exact zl
      · rw [r]; exact Heap.lt_size w2
      · rw [r]; exact Heap.lt_size w3
      · rw [r]; exact w4.lt
      · rw [r]; exact w5.lt
    rw [upd_ne (Nat.ne_of_lt hlt)]; exact (hf c hcm).1
  done := by
    rintro X rfl rfl rfl hc i pins s σ H E I hf ⟨w1, w2, ⟨x0, y0, w3⟩, w4, w5⟩ ⟨xs, ys, q1, q2, fin⟩
    obtain ⟨its, rv, p⟩ := q1.cnt I
    obtain ⟨its2, rv2, p2⟩ := q2.cnt I
    have m1 := rv.length
    have m2 := rv2.length
    refine pyNextK_end (I.ok.hd hc) D w1 w2 w3 w4 w5 p p2 ?_ fun h' up => ⟨rfl, I.turnedL (t' := s.toks) (ch := [z, TI, TO, i1, i2]) (fun c o hb q => up c o (fun r => hb (by simp [r])) (fun r => hb (by simp [r])) (fun r => hb (by simp [r])) (fun r => hb (by simp [r])) q) hf⟩
    rcases fin with q | q
    · exact .inl (by simp; omega)
    · exact .inr (by simp; omega)
  self := fun A i s Q E st h => wpAny_pyIter_zip st.1 h
def iZipK (k k' : Bool) (K : PySem.W.Frag) (ta : TA) : TI := fun σ H R => ta σ H fun vs H1 => ∃ a b xs ys, vs = [.ref a, .ref b] ∧ SqK k K H1 a xs ∧ SqK k' K H1 b ys ∧ R (ItzK k k' K a b) H1
theorem pi_zipK {k k' : Bool} (hk : k ≠ k') {X : Cx} {e e2 : Expr} {ta : TA} {p pos tpos : Pos} {elts : List Expr} {kk : Nat} (hg : Gl X "zip") (hm : X.mg "zip" = none) (ha : PA X [e, e2] ta)
    (hs : starEach [e, e2] X.env = (false, eval e X.env) :: starEach [e2] X.env := by rfl) (hpl : (backTo pos (starEach [e2] X.env)).any (·.1) = false := by rfl) : PI X (.Tuple elts kk tpos) (.Call (.Name "zip" p) [e, e2] [] pos) (iZipK k k' X.K ta) := by
  refine ⟨fun pins s σ H R I h => Call_ (ld_blt I hg hm PyProof.Rows.boot_zip (PyProof.Rows.callWith_type1 (thn (ha.run pos pins s σ H _ I h) fun us s1 ⟨vs, H1, I1, r1, a, b, xs, ys, ex, q1, q2, q⟩ => ?_) hs hpl))⟩
  subst ex
  cases r1 with
  | cons r rr =>
    cases rr with
    | cons r' rr =>
      cases rr; cases r; cases r'
      obtain ⟨its, rv, p1⟩ := q1.cnt I1
      obtain ⟨its2, rv2, p2⟩ := q2.cnt I1
      refine callK hk p1 p2 fun h' z1 z2 z3 z4 z5 up => wpAny_pyIter_zip z1 ?_
      refine ⟨s1.heap.objs.size + 4, [s1.heap.objs.size + 4, s1.heap.objs.size + 2, s1.heap.objs.size + 3, s1.heap.objs.size, s1.heap.objs.size + 1], _, _, H1, rfl, I1.kept (t' := s1.toks) up, turn_zipK (PySem.W.ktu_apart s1.heap.objs.size a b p1.lt p2.lt), ⟨z1, z2, ⟨_, _, z3⟩, z4, z5⟩, fun c hcm => ?_, q⟩
      have hle : s1.heap.objs.size ≤ c := by rcases five hcm with r | r | r | r | r <;> (rw [r]; first | exact Nat.le_add_right _ _ | exact Nat.le_refl _)
      exact I1.fpOk hle (I1.hok.fresh hle)
/-- zip of any two -/
def zipI2 (dm : DM) : IM := fun ρ => match zipI dm ρ with
  | some r => some r
  | none => match dm ρ with
    | some ([a, .tup ys], ρ') => match listD a with
      | some xs => some (zipD xs ys, none, ρ')
      | none => none
    | some ([.tup xs, b], ρ') => match listD b with
      | some ys => some (zipD xs ys, none, ρ')
      | none => none
    | _ => none
theorem sameK {k : Bool} {K : PySem.W.Frag} {F H : Hp} {a : Addr} {xs : List V} (s : Same F H) (h : SqK k K F a xs) : SqK k K H a xs := by
  cases k with
  | true => exact sameL s h
  | false => exact sameT s h
section
variable {X : Cx} {a b : Expr} {dm : DM} {pos p : Pos}
theorem zipK_turn {k k' : Bool} {Fr : Frm} {F1 : Hp} {c1 c2 : Addr} {v1 v2 : List V} {xs ys : List D} (s1 : SqK k X.K F1 c1 v1) (s2 : SqK k' X.K F1 c2 v2) (t1 : Reps X.K F1 v1 xs) (t2 : Reps X.K F1 v2 ys) : IterOk X.K Fr F1 (ItzK k k' X.K c1 c2) (zipD xs ys) :=
  zip_item t1 t2 (fun F2 H2 q f i x y z1 z2 => by
    have u1 := sameK (q.trans f) s1
    have u2 := sameK (q.trans f) s2
    refine ⟨⟨v1, v2, x, y, u1, u2, z1, z2⟩, fun v H' ⟨T, x', y', e1, e2, e3, e4, e5⟩ => ⟨T, e1, e2, ?_⟩⟩
    have g1 := e4 _ u1
    have g2 := e5 _ u2
    rw [z1] at g1; rw [z2] at g2; cases g1; cases g2; exact e3) fun F2 H2 q f i z => ⟨v1, v2, sameK (q.trans f) s1, sameK (q.trans f) s2, z⟩
theorem zipI2_lk {ρ ρ' : Rho} {ds : List D} {j : Nat} {d : D} (h : zipI2 dm ρ = some (ds, some (j, d), ρ')) : False := by
  unfold zipI2 at h
  split at h
  · rename_i r e; cases h; exact zipI_lk e
  · split at h
    · split at h <;> cases h
    · split at h <;> cases h
    · cases h
theorem ie_zip2 {elts : List Expr} {kk : Nat} {tpos : Pos} (hm : X.mg "zip" = none) (hd : DE X [a, b] dm) (hg : Gl X "zip" := by rfl)
    (hs : starEach [a, b] X.env = (false, eval a X.env) :: starEach [b] X.env := by rfl) (hpl : (backTo pos (starEach [b] X.env)).any (·.1) = false := by rfl) : IE X (.Tuple elts kk tpos) (.Call (.Name "zip" p) [a, b] [] pos) [] (zipI2 dm) := by
  refine ⟨⟨fun pins s σ H R I ⟨Fr, F, ρ, ds, lk, ρ', Rr, em, k⟩ => ?_⟩, fun ρ ds j d ρ' em => (zipI2_lk em).elim⟩
  unfold zipI2 at em
  split at em
  · rename_i r e
    cases em
    exact (ie_zip hm hd hg hs hpl).pi.run pins s σ H R I ⟨Fr, F, ρ, ds, lk, ρ', Rr, e, k⟩
  · split at em
    · rename_i d1 ys ρ1 e1
      split at em
      · rename_i xs h1
        cases em
        refine (pi_zipK (k := true) (k' := false) (by decide) hg hm hd.pa hs hpl).run pins s σ H R I ⟨Fr, F, ρ, _, _, Rr, e1, fun F1 H1 vs q1 R1 rs => ?_⟩
        cases rs with
        | cons r1 rs =>
          cases rs with
          | cons r2 rs =>
            cases rs
            obtain ⟨c1, v1, rfl, s1, t1⟩ := r1.list h1
            cases r2 with
            | tup s2 t2 =>
              exact ⟨c1, _, v1, _, rfl, sameL R1.f s1, sameT R1.f (SqT.of s2), k Fr F1 H1 _ q1 R1 rfl (zipK_turn (k := true) (k' := false) s1 (SqT.of s2) t1 t2)⟩
      · cases em
    · rename_i xs d2 ρ1 _ e1
      split at em
      · rename_i ys h2
        cases em
        refine (pi_zipK (k := false) (k' := true) (by decide) hg hm hd.pa hs hpl).run pins s σ H R I ⟨Fr, F, ρ, _, _, Rr, e1, fun F1 H1 vs q1 R1 rs => ?_⟩
        cases rs with
        | cons r1 rs =>
          cases rs with
          | cons r2 rs =>
            cases rs
            obtain ⟨c2, v2, rfl, s2, t2⟩ := r2.list h2
            cases r1 with
            | tup s1 t1 =>
              exact ⟨_, c2, _, v2, rfl, sameT R1.f (SqT.of s1), sameL R1.f s2, k Fr F1 H1 _ q1 R1 rfl (zipK_turn (k := false) (k' := true) (SqT.of s1) s2 t1 t2)⟩
      · cases em
    · cases em
end
end Ev

set_option Elab.async false
set_option linter.all false
set_option maxRecDepth 100000
/-! Ev. V: x in anything, len of dicts too, sorted of ints. -/
set_option autoImplicit false
namespace Ev
open PySem PySem.Spec PyProof.Rows L2
section
variable {X : Cx} {a b e : Expr} {ma mb : EM} {am : AM} {pos p : Pos}
theorem binM_mk {g : D → D → Option Opd} {ρ ρ1 ρ' : Rho} {oa ob o : Opd} {d e : D} (e1 : frz ma ρ = some (oa, ρ1)) (e2 : frz mb ρ1 = some (ob, ρ')) (e3 : look oa ρ' = some d) (e4 : look ob ρ' = some e) (e5 : g d e = some o) : binM g ma mb ρ = some (o, ρ') := by
  unfold binM
  rw [e1]; dsimp only
  rw [e2]; dsimp only
  rw [e3]; dsimp only
  rw [e4]; dsimp only
  rw [e5]
/-- x in a list, a tuple, a dict -/
def inX (neg : Bool) (d e : D) : Option Opd := match e with
  | .dct ks ds => dinG neg d (.dct ks ds)
  | .dtt ks ds => dinT neg d (.dtt ks ds)
  | e => inE neg d e
theorem inX_or {neg : Bool} {ρ ρ' : Rho} {o : Opd} (h : binM (inX neg) ma mb ρ = some (o, ρ')) : (binM (dinG neg) ma mb ρ = some (o, ρ') ∨ binM (inE neg) ma mb ρ = some (o, ρ')) ∨ binM (dinT neg) ma mb ρ = some (o, ρ') := by
  obtain ⟨oa, ρ1, ob, d, e', e1, e2, e3, e4, e5⟩ := binM_some h
  cases e' with
  | dct ks ds => exact .inl (.inl (binM_mk e1 e2 e3 e4 e5))
  | dtt ks ds => exact .inr (binM_mk e1 e2 e3 e4 e5)
  | _ => exact .inl (.inr (binM_mk e1 e2 e3 e4 e5))
theorem OE.or {m m1 m2 : EM} {e : Expr} (h1 : OE X e m1) (h2 : OE X e m2) (h : ∀ ρ o ρ', m ρ = some (o, ρ') → m1 ρ = some (o, ρ') ∨ m2 ρ = some (o, ρ')) : OE X e m := by
  refine ⟨⟨fun pins s σ H Q I q => ?_⟩⟩
  obtain ⟨Fr, F, ρ, o, ρ', R, em, k⟩ := q
  rcases h ρ o ρ' em with z | z
  · exact h1.pe.run pins s σ H Q I ⟨Fr, F, ρ, o, ρ', R, z, k⟩
  · exact h2.pe.run pins s σ H Q I ⟨Fr, F, ρ, o, ρ', R, z, k⟩
theorem OE.or3 {m m1 m2 m3 : EM} {e : Expr} (h1 : OE X e m1) (h2 : OE X e m2) (h3 : OE X e m3) (h : ∀ ρ o ρ', m ρ = some (o, ρ') → (m1 ρ = some (o, ρ') ∨ m2 ρ = some (o, ρ')) ∨ m3 ρ = some (o, ρ')) : OE X e m := by
  refine ⟨⟨fun pins s σ H Q I q => ?_⟩⟩
  obtain ⟨Fr, F, ρ, o, ρ', R, em, k⟩ := q
  rcases h ρ o ρ' em with (z | z) | z
  · exact h1.pe.run pins s σ H Q I ⟨Fr, F, ρ, o, ρ', R, z, k⟩
  · exact h2.pe.run pins s σ H Q I ⟨Fr, F, ρ, o, ρ', R, z, k⟩
  · exact h3.pe.run pins s σ H Q I ⟨Fr, F, ρ, o, ρ', R, z, k⟩
theorem oe_inX (hu : X.A.units + 65 < cLine) (ha : OE X a ma) (hb : OE X b mb) (hm : behindInMarks .In b = false := by first | exact nobehind _ (by decide) (by decide) | rfl) : OE X (.Compare a [.In] [b] pos) (binM (inX false) ma mb) :=
  (oe_din (by omega) ha hb hm).or3 (oe_inE hu ha hb hm) (oe_dinT (by omega) ha hb hm) fun _ _ _ => inX_or
theorem oe_ninX (hu : X.A.units + 65 < cLine) (ha : OE X a ma) (hb : OE X b mb) (hm : behindInMarks .NotIn b = false := by first | exact nobehind _ (by decide) (by decide) | rfl) : OE X (.Compare a [.NotIn] [b] pos) (binM (inX true) ma mb) :=
  (oe_dnin (by omega) ha hb hm).or3 (oe_ninE hu ha hb hm) (oe_dninT (by omega) ha hb hm) fun _ _ _ => inX_or
/-- d[k]: lists, tuples, dicts -/
def atX (d k : D) : Option Opd := match d with
  | .dct ks ds => dgetG (.dct ks ds) k
  | .dtt ks ds => dgetT (.dtt ks ds) k
  | d => atD d k
theorem oe_atX (hu : X.A.units + 64 < cLine) (ha : OE X a ma) (hb : OE X b mb) (hs : NoSl b := by intro _ _; rfl) (hp : PlainIx b := by exact fun _ _ => rfl) : OE X (.Subscript a b pos) (binM atX ma mb) :=
  (oe_at ha hb hp).or3 (oe_dget hu ha hb hs) (oe_dgetT hu ha hb hs) fun ρ o ρ' h => by
    obtain ⟨oa, ρ1, ob, d, e', e1, e2, e3, e4, e5⟩ := binM_some h
    cases d with
    | dct ks ds => exact .inl (.inr (binM_mk e1 e2 e3 e4 e5))
    | dtt ks ds => exact .inr (binM_mk e1 e2 e3 e4 e5)
    | _ => exact .inl (.inl (binM_mk e1 e2 e3 e4 e5))
theorem boolM_mk {m : EM} {ρ ρ' : Rho} {c : Bool} (h : m ρ = some (.val (.bl c), ρ')) : boolM m ρ = some (c, ρ') := by unfold boolM; rw [h]
theorem TeE.or {m m1 m2 : EM} {e : Expr} (h1 : TeE X e (boolM m1)) (h2 : TeE X e (boolM m2)) (h : ∀ ρ o ρ', m ρ = some (o, ρ') → m1 ρ = some (o, ρ') ∨ m2 ρ = some (o, ρ')) : TeE X e (boolM m) := by
  refine ⟨⟨fun pins s σ H Q I q => ?_⟩⟩
  obtain ⟨Fr, F, ρ, c, ρ', R, em, k⟩ := q
  rcases h ρ _ ρ' (boolM_some em) with z | z
  · exact h1.pt.run pins s σ H Q I ⟨Fr, F, ρ, c, ρ', R, boolM_mk z, k⟩
  · exact h2.pt.run pins s σ H Q I ⟨Fr, F, ρ, c, ρ', R, boolM_mk z, k⟩
theorem TeE.or3 {m m1 m2 m3 : EM} {e : Expr} (h1 : TeE X e (boolM m1)) (h2 : TeE X e (boolM m2)) (h3 : TeE X e (boolM m3)) (h : ∀ ρ o ρ', m ρ = some (o, ρ') → (m1 ρ = some (o, ρ') ∨ m2 ρ = some (o, ρ')) ∨ m3 ρ = some (o, ρ')) : TeE X e (boolM m) := by
  refine ⟨⟨fun pins s σ H Q I q => ?_⟩⟩
  obtain ⟨Fr, F, ρ, c, ρ', R, em, k⟩ := q
  rcases h ρ _ ρ' (boolM_some em) with (z | z) | z
  · exact h1.pt.run pins s σ H Q I ⟨Fr, F, ρ, c, ρ', R, boolM_mk z, k⟩
  · exact h2.pt.run pins s σ H Q I ⟨Fr, F, ρ, c, ρ', R, boolM_mk z, k⟩
  · exact h3.pt.run pins s σ H Q I ⟨Fr, F, ρ, c, ρ', R, boolM_mk z, k⟩
theorem te_inX (hu : X.A.units + 65 < cLine) (ha : OE X a ma) (hb : OE X b mb) (hm : behindInMarks .In b = false := by first | exact nobehind _ (by decide) (by decide) | rfl) : TeE X (.Compare a [.In] [b] pos) (boolM (binM (inX false) ma mb)) :=
  (te_din (by omega) ha hb hm).or3 (te_inE hu ha hb hm) (te_dinT (by omega) ha hb hm) fun _ _ _ => inX_or
theorem te_ninX (hu : X.A.units + 65 < cLine) (ha : OE X a ma) (hb : OE X b mb) (hm : behindInMarks .NotIn b = false := by first | exact nobehind _ (by decide) (by decide) | rfl) : TeE X (.Compare a [.NotIn] [b] pos) (boolM (binM (inX true) ma mb)) :=
  (te_dnin (by omega) ha hb hm).or3 (te_ninE hu ha hb hm) (te_dninT (by omega) ha hb hm) fun _ _ _ => inX_or
/-- len, of dicts too -/
def lenX : List D → Option Opd
  | [.dct ks ds] => some (.val (.int ks.length))
  | ds => lenG ds
theorem cs_lenX : CalS X (fun xs H Q => (∃ x n, xs = [x] ∧ LenV X.K x H n ∧ Q (.int n) H) ∨ ∃ a kvs, xs = [V.ref a] ∧ H a = some (.dK kvs) ∧ Q (.int kvs.length) H) lenX := by
  intro Fr F H ρ σ vs ds o Q R hv g k
  unfold lenX at g
  split at g
  · rename_i ks es
    cases g
    obtain ⟨v, rfl, w⟩ := vw1 hv
    obtain ⟨p, vs, rfl, h1, h2, h3⟩ := w.dct R.f
    refine .inr ⟨p, _, rfl, h1, ?_⟩
    rw [List.length_zip, h2, Nat.min_self, ← h2]
    exact after_val R (.int _) k
  · exact .inl (cs_len R hv g k)
theorem oe_lenX (ha : AE X [e] am) (hm : X.mg "len" = none) (hg : Gl X "len" := by rfl) (he : starEach [e] X.env = (false, eval e X.env) :: starEach [] X.env := by rfl) : OE X (.Call (.Name "len" p) [e] [] pos) (biM lenX am) := oe_bi (call_len.or call_lenD) cs_lenX ha hm PySem.boot_len hg (by decide) (by decide) he
theorem sorted_unique : ∀ {a b : List Int}, a.Perm b → a.Pairwise (· ≤ ·) → b.Pairwise (· ≤ ·) → a = b
  | [], b, h, _, _ => (List.nil_perm.1 h).symm
  | x :: a, [], h, _, _ => absurd h.length_eq (by simp)
  | x :: a, y :: b, h, ha, hb => by
    rw [List.pairwise_cons] at ha hb
    have hx : x ∈ y :: b := h.mem_iff.1 (by simp)
    have hy : y ∈ x :: a := h.mem_iff.2 (by simp)
    have e : x = y := by
      rcases List.mem_cons.1 hx with e | hx
      · exact e
      · rcases List.mem_cons.1 hy with e | hy
        · exact e.symm
        · have := hb.1 x hx
          have := ha.1 y hy
          omega
    subst e
    rw [sorted_unique (List.perm_cons x |>.1 h) ha.2 hb.2]
def srtI (ns : List Int) : List Int := ns.mergeSort (fun a b => decide (a ≤ b))
theorem srtI_perm (ns : List Int) : (srtI ns).Perm ns := List.mergeSort_perm ..
theorem srtI_sorted (ns : List Int) : (srtI ns).Pairwise (· ≤ ·) := by
  have h := List.pairwise_mergeSort (le := fun a b : Int => decide (a ≤ b)) (fun a b c h1 h2 => by simp at *; omega) (fun a b => by simp; omega) ns
  exact h.imp fun h => by simpa using h
theorem srtI_eq {ns ms : List Int} (h : ms.Perm ns) (hs : ms.Pairwise (· ≤ ·)) : srtI ns = ms := sorted_unique ((srtI_perm ns).trans h.symm) (srtI_sorted ns) hs
def sortG : List D → Option Opd
  | [d] => match listD d with
    | some ds => match intsOf ds with
      | some ns => some (.tmp (.lst ((srtI ns).map D.int)))
      | none => none
    | none => none
  | _ => none
theorem cs_sort : CalS X (rSortedI X.K) sortG := by
  intro Fr F H ρ σ vs ds o Q R hv g k
  unfold sortG at g
  split at g
  · rename_i d
    split at g
    · rename_i ds' e1
      split at g
      · rename_i ns e2
        cases g
        obtain ⟨v, rfl, w⟩ := vw1 hv
        obtain ⟨a, vs, rfl, q, r⟩ := w.list R.f e1
        rw [intsOf_eq e2] at r
        rw [r.ints] at q
        refine ⟨a, ns, rfl, q, fun ns' p h1 h2 hp => ?_⟩
        rw [← srtI_eq h1 h2]
        exact after_new R hp (Reps.of_ints _) k
      · cases g
    · cases g
  · cases g
theorem oe_sorted (ha : AE X [e] am) (hm : X.mg "sorted" = none) (hg : Gl X "sorted" := by rfl) (he : starEach [e] X.env = (false, eval e X.env) :: starEach [] X.env := by rfl) : OE X (.Call (.Name "sorted" p) [e] [] pos) (biM sortG am) := oe_bi cr_sortedI cs_sort ha hm (by decide +kernel) hg (by decide) (by decide) he
theorem oe_callC0 {k : Nat} {fn : Fn} {io : List Nat} {x : Str} (c : Callee X.prog X.w X.K X.mg X.base k x 0 fn) (hr : Room k X.A) (hg : Gl X x := by rfl) (hdb : (x == ("__debug__" : Str)) = false := by decide) : OE X (.Call (.Name x p) [] [] pos) (callM fn io nilA) := by
  obtain ⟨f, fd, ps, F, hm, hk, hb⟩ := c.ex
  refine ⟨pe_imp (pe_call0 F hr hg hm hk hb .nil pass0 hdb) fun σ H Q h => ?_⟩
  obtain ⟨Fr, F2, ρ, os, ρ', R, em, kk⟩ := call_read (E := E0) h (fun _ _ _ h => nilA_len h)
  cases em
  exact kk F2 H [] (Same.refl F2) R .nil
end
end Ev

set_option Elab.async false
set_option linter.all false
set_option maxRecDepth 100000
/-! Ev. W: operators of own classes (__eq__, __add__, __mul__, __contains__); isinstance of an own class. -/
set_option autoImplicit false
namespace Ev
open PySem PySem.Spec PyProof.Rows L2
section
variable {X : Cx} {a b e : Expr} {m ma mb : EM} {am : AM} {pos p : Pos} {k : Nat} {fn : Fn} {C : Addr}
/-- a.op(b), a an instance of C -/
def ownM (C : Addr) (fn : Fn) (ok : D → Bool) (ma mb : EM) : EM := fun ρ => match frz ma ρ with
  | some (oa, ρ1) => match frz mb ρ1 with
    | some (ob, ρ2) => match look oa ρ2 with
      | some d => match look ob ρ2 with
        | some e => if isInsC C d = true then if ok e = true then match argsAll [] ρ2 0 [oa, ob] with
          | some svs => match fn svs with
            | some (.val v, _) => some (.val v, ρ2)
            | some (.tmp v, _) => some (.tmp v, ρ2)
            | _ => none
          | none => none else none else none
        | none => none
      | none => none
    | none => none
  | none => none
theorem ownM_some {ok : D → Bool} {ρ ρ' : Rho} {o : Opd} (h : ownM C fn ok ma mb ρ = some (o, ρ')) : ∃ oa ρ1 ob d e svs post, frz ma ρ = some (oa, ρ1) ∧ frz mb ρ1 = some (ob, ρ') ∧ look oa ρ' = some d ∧ look ob ρ' = some e ∧
    isInsC C d = true ∧ ok e = true ∧ argsAll [] ρ' 0 [oa, ob] = some svs ∧ fn svs = some (o, post) ∧ (∀ i, o ≠ .var i) := by
  unfold ownM at h
  split at h
  · split at h
    · split at h
      · split at h
        · split at h
          · split at h
            · split at h
              · split at h
                · cases h
                  exact ⟨_, _, _, _, _, _, _, by assumption, by assumption, by assumption, by assumption, by assumption, by assumption, by assumption, by assumption, fun _ z => nomatch z⟩
                · cases h
                  exact ⟨_, _, _, _, _, _, _, by assumption, by assumption, by assumption, by assumption, by assumption, by assumption, by assumption, by assumption, fun _ z => nomatch z⟩
                · cases h
              · cases h
            · cases h
          · cases h
        · cases h
      · cases h
    · cases h
  · cases h
/-- a in b, b an instance of C -/
def conM (C : Addr) (fn : Fn) (ma mb : EM) : EM := fun ρ => match frz ma ρ with
  | some (oa, ρ1) => match frz mb ρ1 with
    | some (ob, ρ2) => match look ob ρ2 with
      | some e => if isInsC C e = true then match argsAll [] ρ2 0 [ob, oa] with
          | some svs => match fn svs with
            | some (.val (.bl v), _) => some (.val (.bl v), ρ2)
            | _ => none
          | none => none else none
      | none => none
    | none => none
  | none => none
theorem conM_some {ρ ρ' : Rho} {o : Opd} (h : conM C fn ma mb ρ = some (o, ρ')) : ∃ oa ρ1 ob e svs post b, frz ma ρ = some (oa, ρ1) ∧ frz mb ρ1 = some (ob, ρ') ∧ look ob ρ' = some e ∧
    isInsC C e = true ∧ argsAll [] ρ' 0 [ob, oa] = some svs ∧ fn svs = some (o, post) ∧ o = .val (.bl b) := by
  unfold conM at h
  split at h
  · split at h
    · split at h
      · split at h
        · split at h
          · split at h
            · cases h
              exact ⟨_, _, _, _, _, _, _, by assumption, by assumption, by assumption, by assumption, by assumption, by assumption, rfl⟩
            · cases h
          · cases h
        · cases h
      · cases h
    · cases h
  · cases h
theorem not_NI {v : V} {w : Value} (h : RelV v w) : w ≠ .notImplemented := by
  cases v <;> first
    | (cases (show w = _ from h); exact fun z => nomatch z)
    | (obtain ⟨t, q⟩ := (show ∃ t, w = _ from h); cases q; exact fun z => nomatch z)
    | (intro z; subst z; exact h.elim)
theorem back_of {Q : Value → Shared → Prop} {v : Value} {s : Shared} (h : v ≠ .notImplemented) (q : Q v s) : PySem.W.CmpBack Q v s := by
  cases v <;> first | exact q | exact absurd rfl h
/-- the own def is called with two values -/
theorem run_two {f : Addr} {fd : FuncData} {ps : List Str} {sp : Sp} (F : FnOk X.prog X.w X.K X.mg X.base CX0 k f fd ps sp) (hb : Binds X.K fd ps []) (hr : Room k X.A) {pins : List (Addr × Obj)} {s : Shared} {σ : L2.St} {H : Hp} {x y : V} {u v : Value} {Q : VK}
    (I : Inv X pins σ H s) (rx : RelV x u) (ry : RelV y v) (h : sp [x, y] H Q E0) : wpAny (model X.prog X.w) X.A (call (.ref f) [u, v]) (EP X pins σ Q) X.xe s := by
  have hl := F.len _ _ _ _ h
  have r2 : Vals [x, y] [u, v] := .cons rx (.cons ry .nil)
  refine wpAny_call (codeAny_mono (F.run X.A X.stack s H ⟨[u, v], []⟩ [u, v] [x, y] Q E0 hr I.env0 (by
    have := hb s [u, v] I.kIn (by simpa using hl)
    simpa using this) r2 h) fun r s' hq => ?_)
  cases r with
  | error e => exact False.elim hq
  | ok fl =>
    cases fl with
    | ret w => exact I.after hq
    | next => exact False.elim hq
    | brk => exact False.elim hq
    | cont => exact False.elim hq
/-- an own class's def for an operator -/
structure OwnOp (P : Program) (w : World) (K : PySem.W.Frag) (mg : Str → Option Value) (base : Heap) (k : Nat) (C : Addr) (nm : Str) (fn : Fn) : Prop where
  ex : ∃ f fd ps, PySem.W.findIn K (.ref C) nm = some (some (.ref f)) ∧ PySem.W.isFn K (.ref f) = true ∧ FnOk P w K mg base CX0 k f fd ps (spF K fn 2) ∧ Binds K fd ps []
def isIns2 (C : Addr) : V → V → Hp → Prop := fun x y H => (∃ a dx fs, x = .ref a ∧ H a = some (.ins C dx fs)) ∧ ∃ a dx fs, y = .ref a ∧ H a = some (.ins C dx fs)
theorem cmp_own {f : Addr} {fd : FuncData} {ps : List Str} {sp : Sp} (hr : Room k X.A) (F : FnOk X.prog X.w X.K X.mg X.base CX0 k f fd ps sp) (hb : Binds X.K fd ps []) (hs : PySem.W.findIn X.K (.ref C) "__eq__" = some (some (.ref f))) (hf : PySem.W.isFn X.K (.ref f) = true) :
    OpR X (compareOp .Eq) (fun x y H Q => isIns2 C x y H ∧ sp [x, y] H Q E0) := by
  intro pins s σ H x y v u Q I rx ry h
  obtain ⟨⟨⟨a, dx, fs, rfl, ha⟩, b, dy, gs, rfl, hb'⟩, q⟩ := h
  cases rx
  cases ry
  obtain ⟨mA, J, _⟩ := ins_get I.hok ha
  obtain ⟨mB, J', _⟩ := ins_get I.hok hb'
  obtain ⟨od, J, _⟩ := J.look
  obtain ⟨od', J', _⟩ := J'.look
  obtain ⟨m, hF⟩ := I.fr
  show wpAny _ _ (richCompare .Eq (.ref a) (.ref b)) _ _ _
  refine PySem.W.cmp_K (op := .Eq) (tb := .ref C) (by have := hr.un; omega) hF I.ok.mod.kin J J'.type (by simp [PySem.W.notFirst]) hs hf ?_
  refine wpAny_mono (run_two (x := .ref a) (y := .ref b) F hb hr I rfl rfl q) (fun r s' z => ?_) fun _ _ x => x
  obtain ⟨v, H', I', rv, z⟩ := z
  exact back_of (not_NI rv) ⟨v, H', I', rv, z⟩
theorem add_own {op : Operator} {nm : Str} {f : Addr} {fd : FuncData} {ps : List Str} {sp : Sp} (hr : Room k X.A) (F : FnOk X.prog X.w X.K X.mg X.base CX0 k f fd ps sp) (hb : Binds X.K fd ps []) (hs : PySem.W.findIn X.K (.ref C) nm = some (some (.ref f))) (hf : PySem.W.isFn X.K (.ref f) = true)
    (hn : PySem.dunder op.info.2 = nm) (hc : PySem.W.selfFirst X.K C = true) : OpR X (binaryOp op) (fun x y H Q => isIns2 C x y H ∧ sp [x, y] H Q E0) := by
  intro pins s σ H x y v u Q I rx ry h
  obtain ⟨⟨⟨a, dx, fs, rfl, ha⟩, b, dy, gs, rfl, hb'⟩, q⟩ := h
  cases rx
  cases ry
  obtain ⟨mA, J, _⟩ := ins_get I.hok ha
  obtain ⟨mB, J', _⟩ := ins_get I.hok hb'
  obtain ⟨od, J, _⟩ := J.look
  obtain ⟨od', J', _⟩ := J'.look
  obtain ⟨m, hF⟩ := I.fr
  refine PySem.W.binop_K hF I.ok.mod.kin J J'.type hc (by rw [hn]; exact hs) hf ?_
  refine wpAny_mono (run_two (x := .ref a) (y := .ref b) F hb hr I rfl rfl q) (fun r s' z => ?_) fun _ _ x => x
  obtain ⟨v, H', I', rv, z⟩ := z
  exact back_of (not_NI rv) ⟨v, H', I', rv, z⟩
/-- what * asks of a class whose right operand is an int -/
structure TimesC (K : PySem.W.Frag) (C : Addr) (nm rn : Str) : Prop where
  sf : PySem.W.selfFirst K C = true
  rc : PySem.W.findIn K (.ref C) rn = some none
  fo : ∃ fo, PySem.W.findIn K (.type "int") nm = some fo
  ro : ∃ ro, PySem.W.findIn K (.type "int") rn = some ro
  sb : PySem.W.subIn K (.type "int") (.ref C) = some false
theorem mul_own {op : Operator} {nm rn : Str} {f : Addr} {fd : FuncData} {ps : List Str} {sp : Sp} (hr : Room k X.A) (F : FnOk X.prog X.w X.K X.mg X.base CX0 k f fd ps sp) (hb : Binds X.K fd ps []) (hs : PySem.W.findIn X.K (.ref C) nm = some (some (.ref f))) (hf : PySem.W.isFn X.K (.ref f) = true)
    (hn : PySem.dunder op.info.2 = nm) (hn2 : PySem.dunderR op.info.2 = rn) (hc : TimesC X.K C nm rn) : OpR X (binaryOp op) (fun x y H Q => ((∃ a dx fs, x = .ref a ∧ H a = some (.ins C dx fs)) ∧ ∃ i, y = .int i) ∧ sp [x, y] H Q E0) := by
  intro pins s σ H x y v u Q I rx ry h
  obtain ⟨⟨⟨a, dx, fs, rfl, ha⟩, i, rfl⟩, q⟩ := h
  cases rx
  obtain ⟨t, ry'⟩ := id ry
  subst ry'
  obtain ⟨mA, J, _⟩ := ins_get I.hok ha
  obtain ⟨od, J, _⟩ := J.look
  obtain ⟨m, hF⟩ := I.fr
  obtain ⟨fo, h1⟩ := hc.fo
  obtain ⟨ro, h2⟩ := hc.ro
  refine PySem.W.ksp_binT (T := "int") hF I.ok.mod.kin J rfl hc.sf (by rw [hn]; exact hs) hf (by rw [hn2]; exact hc.rc) (.inl rfl) (by rw [hn]; exact h1) (by rw [hn2]; exact h2) hc.sb ?_
  refine wpAny_mono (run_two (x := .ref a) (y := .int i) F hb hr I rfl ry q) (fun r s' z => ?_) fun _ _ x => x
  obtain ⟨v, H', I', rv, z⟩ := z
  exact back_of (not_NI rv) ⟨v, H', I', rv, z⟩
theorem in_own {f : Addr} {fd : FuncData} {ps : List Str} {sp : Sp} (hr : Room k X.A) (F : FnOk X.prog X.w X.K X.mg X.base CX0 k f fd ps sp) (hb : Binds X.K fd ps []) (hs : PySem.W.findIn X.K (.ref C) "__contains__" = some (some (.ref f))) (hf : PySem.W.isFn X.K (.ref f) = true) :
    OpR X (compareOp .In) (fun x y H Q => (∃ a dx fs, y = .ref a ∧ H a = some (.ins C dx fs)) ∧ sp [y, x] H (fun v H' => ∃ b, v = .bl b ∧ Q (.bl b) H') E0) := by
  intro pins s σ H x y v u Q I rx ry h
  obtain ⟨⟨a, dx, fs, rfl, ha⟩, q⟩ := h
  cases ry
  obtain ⟨mA, J, _⟩ := ins_get I.hok ha
  obtain ⟨od, J, _⟩ := J.look
  obtain ⟨m, hF⟩ := I.fr
  refine PySem.W.in_K hF I.ok.mod.kin J hs hf ?_
  refine wpAny_mono (run_two (x := .ref a) F hb hr I rfl rx q) (fun r s' z => ?_) fun _ _ x => x
  obtain ⟨v, H', I', rv, b, rfl, z⟩ := z
  cases rv
  exact wpAny_truthy_bool ⟨.bl b, H', I', rfl, z⟩
/-! the expressions -/
theorem ins_viw {K : PySem.W.Frag} {F H : Hp} {v : V} {d : D} (s : Same F H) (h : Viw K F H v d) (hi : isInsC C d = true) : ∃ a dx fs, v = .ref a ∧ H a = some (.ins C dx fs) := by
  cases d with
  | ins C' ks ds =>
    have := of_decide_eq_true hi
    subst this
    obtain ⟨a, dx, vs, rfl, h3, _, _⟩ := h.ins s
    exact ⟨a, dx, _, rfl, h3⟩
  | _ => cases hi
theorem args2_ok {o1 o2 : Opd} : exclOk [] [o1, o2] = true := by
  unfold exclOk
  have e6 : varsAt [] true 0 [o1, o2] = [] := by cases o1 <;> cases o2 <;> simp [varsAt]
  rw [e6]; rfl
theorem back2 {o1 o2 : Opd} {post ρ : Rho} : putBack [] post 0 [o1, o2] ρ = some ρ := by
  unfold putBack; rw [if_neg (by simp)]; unfold putBack; rw [if_neg (by simp)]; rfl
theorem own_read {ok : D → Bool} {r : R2} {σ : L2.St} {H : Hp} {Q : VK} (hs : ∀ {F H : Hp} {x y : V} {d e : D} {Q : VK}, Same F H → Viw X.K F H x d → Viw X.K F H y e → isInsC C d = true → ok e = true → spF X.K fn 2 [x, y] H Q E0 → r x y H Q) (h : tE X.K (ownM C fn ok ma mb) σ H Q) : tOp r (tN X.K (frz ma)) (tN X.K (frz mb)) σ H Q := by
  obtain ⟨Fr, F, ρ, o, ρ', R, em, kk⟩ := h
  obtain ⟨oa, ρ1, ob, d, e, svs, post, e1, e2, e3, e4, hi, ho, e5, e6, hv⟩ := ownM_some em
  refine ⟨Fr, F, ρ, oa, ρ1, R, e1, fun F1 H1 v q1 R1 r1 => ⟨Fr, F1, ρ1, ob, ρ', R1, e2, fun F2 H2 u q2 R2 r2 => ?_⟩⟩
  have r1' := r1.mono q2
  refine hs R2.f (r1'.look R2 e3) (r2.look R2 e4) hi ho ?_
  exact call_core (io := []) (os := [oa, ob]) R2 (.cons r1' (.cons r2 .nil)) rfl args2_ok e5 e6 hv back2 fun F' H' v q R' r' => kk F' H' v ((q1.trans q2).trans q) R' r'
def inOk (C : Addr) : D → Bool := isInsC C
theorem oe_ownEq {nm : Str} (c : OwnOp X.prog X.w X.K X.mg X.base k C nm fn) (hn : nm = "__eq__") (hr : Room k X.A) (ha : OE X a ma) (hb : OE X b mb) (hm : behindInMarks .Eq b = false := by rfl) : OE X (.Compare a [.Eq] [b] pos) (ownM C fn (isInsC C) ma mb) := by
  subst hn
  obtain ⟨f, fd, ps, hs, hf, F, hbi⟩ := c.ex
  exact ⟨pe_imp (pe_cmpR (cmp_own hr F hbi hs hf) ha.ne.pe hb.ne.pe hm) fun σ H Q h => own_read (fun s x y i j q => ⟨⟨ins_viw s x i, ins_viw s y j⟩, q⟩) h⟩
theorem te_ownEq {nm : Str} (c : OwnOp X.prog X.w X.K X.mg X.base k C nm fn) (hn : nm = "__eq__") (hr : Room k X.A) (ha : OE X a ma) (hb : OE X b mb) (hm : behindInMarks .Eq b = false := by rfl) : TeE X (.Compare a [.Eq] [b] pos) (boolM (ownM C fn (isInsC C) ma mb)) := by
  subst hn
  obtain ⟨f, fd, ps, hs, hf, F, hbi⟩ := c.ex
  refine ⟨pt_imp (pt_cmpR (cmp_own hr F hbi hs hf) ha.ne.pe hb.ne.pe hm) fun σ H Q ⟨Fr, F, ρ, t, ρ', R, em, kk⟩ => ?_⟩
  exact own_read (fun s x y i j q => ⟨⟨ins_viw s x i, ins_viw s y j⟩, q⟩) ⟨Fr, F, ρ, _, ρ', R, boolM_some em, fun F' H' v s R' q => by cases q; exact ⟨t, rfl, kk F' H' s R'⟩⟩
theorem oe_ownAdd {nm : Str} (c : OwnOp X.prog X.w X.K X.mg X.base k C nm fn) (hn : nm = "__add__") (hc : PySem.W.selfFirst X.K C = true) (hr : Room k X.A) (ha : OE X a ma) (hb : OE X b mb) : OE X (.BinOp a .Add b pos) (ownM C fn (isInsC C) ma mb) := by
  subst hn
  obtain ⟨f, fd, ps, hs, hf, F, hbi⟩ := c.ex
  exact ⟨pe_imp (pe_op (add_own hr F hbi hs hf (by decide +kernel) hc) ha.ne.pe hb.ne.pe) fun σ H Q h => own_read (fun s x y i j q => ⟨⟨ins_viw s x i, ins_viw s y j⟩, q⟩) h⟩
def isIntD : D → Bool
  | .int _ => true
  | _ => false
theorem int_viw {K : PySem.W.Frag} {F H : Hp} {v : V} {d : D} (h : Viw K F H v d) (hi : isIntD d = true) : ∃ i, v = .int i := by
  cases d with
  | int i => cases h.int; exact ⟨_, rfl⟩
  | _ => cases hi
theorem oe_ownMul {nm : Str} (c : OwnOp X.prog X.w X.K X.mg X.base k C nm fn) (hn : nm = "__mul__") (hc : TimesC X.K C "__mul__" "__rmul__") (hr : Room k X.A) (ha : OE X a ma) (hb : OE X b mb) : OE X (.BinOp a .Mult b pos) (ownM C fn isIntD ma mb) := by
  subst hn
  obtain ⟨f, fd, ps, hs, hf, F, hbi⟩ := c.ex
  exact ⟨pe_imp (pe_op (mul_own hr F hbi hs hf (by decide +kernel) (by decide +kernel) hc) ha.ne.pe hb.ne.pe) fun σ H Q h => own_read (fun s x y i j q => ⟨⟨ins_viw s x i, int_viw y j⟩, q⟩) h⟩
theorem con_read {r : R2} {σ : L2.St} {H : Hp} {Q : VK} (hs : ∀ {F H : Hp} {x y : V} {e : D} {Q : VK}, Same F H → Viw X.K F H y e → isInsC C e = true → spF X.K fn 2 [y, x] H (fun v H' => ∃ b, v = .bl b ∧ Q (.bl b) H') E0 → r x y H Q) (h : tE X.K (conM C fn ma mb) σ H Q) : tOp r (tN X.K (frz ma)) (tN X.K (frz mb)) σ H Q := by
  obtain ⟨Fr, F, ρ, o, ρ', R, em, kk⟩ := h
  obtain ⟨oa, ρ1, ob, e, svs, post, bb, e1, e2, e4, hi, e5, e6, rfl⟩ := conM_some em
  refine ⟨Fr, F, ρ, oa, ρ1, R, e1, fun F1 H1 v q1 R1 r1 => ⟨Fr, F1, ρ1, ob, ρ', R1, e2, fun F2 H2 u q2 R2 r2 => ?_⟩⟩
  have r1' := r1.mono q2
  refine hs R2.f (r2.look R2 e4) hi ?_
  exact call_core (io := []) (os := [ob, oa]) R2 (.cons r2 (.cons r1' .nil)) rfl args2_ok e5 e6 (fun i z => nomatch z) back2 fun F' H' v q R' r' => by
    cases r'
    exact ⟨bb, rfl, kk F' H' _ ((q1.trans q2).trans q) R' (.bl bb)⟩
theorem oe_ownIn {nm : Str} (c : OwnOp X.prog X.w X.K X.mg X.base k C nm fn) (hn : nm = "__contains__") (hr : Room k X.A) (ha : OE X a ma) (hb : OE X b mb) (hm : behindInMarks .In b = false := by first | exact nobehind _ (by decide) (by decide) | rfl) : OE X (.Compare a [.In] [b] pos) (conM C fn ma mb) := by
  subst hn
  obtain ⟨f, fd, ps, hs, hf, F, hbi⟩ := c.ex
  exact ⟨pe_imp (pe_cmpR (in_own hr F hbi hs hf) ha.ne.pe hb.ne.pe hm) fun σ H Q h => con_read (fun s y i q => ⟨ins_viw s y i, q⟩) h⟩
theorem te_ownIn {nm : Str} (c : OwnOp X.prog X.w X.K X.mg X.base k C nm fn) (hn : nm = "__contains__") (hr : Room k X.A) (ha : OE X a ma) (hb : OE X b mb) (hm : behindInMarks .In b = false := by first | exact nobehind _ (by decide) (by decide) | rfl) : TeE X (.Compare a [.In] [b] pos) (boolM (conM C fn ma mb)) := by
  subst hn
  obtain ⟨f, fd, ps, hs, hf, F, hbi⟩ := c.ex
  refine ⟨pt_imp (pt_cmpR (in_own hr F hbi hs hf) ha.ne.pe hb.ne.pe hm) fun σ H Q ⟨Fr, F, ρ, t, ρ', R, em, kk⟩ => ?_⟩
  exact con_read (fun s y i q => ⟨ins_viw s y i, q⟩) ⟨Fr, F, ρ, _, ρ', R, boolM_some em, fun F' H' v s R' q => by cases q; exact ⟨t, rfl, kk F' H' s R'⟩⟩
/-! isinstance(x, C) -/
structure InsK (K : PySem.W.Frag) (C : Addr) : Prop where
  cl : Cls K C
  ha : PySem.W.findIn K (.ref C) "__class__" = some (some (.builtin "object.__class__"))
  hn : PySem.W.specialIn K (.builtin "object.__class__") "__get__" = some (some (.builtin "getset_descriptor.__get__"))
  htk : PySem.W.takesIn K (.builtin "object.__class__") = some true
  hm : PySem.W.mroIn K C (.type "object") = some true
  me : PySem.W.kitOne K (.ref C) (.ref C) = some true
structure IsC (K : PySem.W.Frag) (mg : Str → Option Value) (x : Str) (C : Addr) : Prop where
  nm : mg x = some (.ref C)
  ic : InsK K C
  t1 : PySem.W.kitOne K (.type "int") (.ref C) = some false
  t2 : PySem.W.kitOne K (.type "bool") (.ref C) = some false
  t3 : PySem.W.kitOne K (.type "str") (.ref C) = some false
  t4 : PySem.W.kitOne K (.type "NoneType") (.ref C) = some false
  t5 : PySem.W.kitOne K (.type "tuple") (.ref C) = some false
  t6 : PySem.W.kitOne K (.type "list") (.ref C) = some false
  t7 : PySem.W.kitOne K (.type "dict") (.ref C) = some false
def isCD (C : Addr) : D → Option Bool
  | .ins C' ks ds => if C' = C then some true else none
  | _ => some false
theorem isCD_ins {C C' : Addr} {ks : List Str} {ds : List D} {b : Bool} (h : isCD C (.ins C' ks ds) = some b) : C' = C ∧ b = true := by
  dsimp only [isCD] at h
  by_cases e : C' = C
  · rw [if_pos e] at h; exact ⟨e, (Option.some.inj h).symm⟩
  · rw [if_neg e] at h; cases h
def isCM (C : Addr) (m : EM) : EM := fun ρ => match frz m ρ with
  | some (o, ρ') => match look o ρ' with
    | some d => match isCD C d with
      | some b => some (.val (.bl b), ρ')
      | none => none
    | none => none
  | none => none
theorem isCM_some {ρ ρ' : Rho} {o : Opd} (h : isCM C m ρ = some (o, ρ')) : ∃ o' d b, frz m ρ = some (o', ρ') ∧ look o' ρ' = some d ∧ isCD C d = some b ∧ o = .val (.bl b) := by
  unfold isCM at h
  split at h
  · split at h
    · split at h
      · cases h; exact ⟨_, _, _, by assumption, by assumption, by assumption, rfl⟩
      · cases h
    · cases h
  · cases h
theorem oe_isC {x : Str} {p2 : Pos} (c : IsC X.K X.mg x C) (ha : OE X a m) (hm : X.mg "isinstance" = none) (hg2 : Gl X x := by rfl) (hg : Gl X "isinstance" := by rfl) (hd : (x == ("__debug__" : Str)) = false := by decide)
    (s1 : starEach [a, .Name x p2] X.env = (false, eval a X.env) :: starEach [.Name x p2] X.env := by rfl) (s2 : starEach [.Name x p2] X.env = (false, eval (.Name x p2) X.env) :: starEach [] X.env := by rfl)
    (hpl : (backTo pos (starEach [.Name x p2] X.env)).any (·.1) = false := by rfl) : OE X (.Call (.Name "isinstance" p) [a, .Name x p2] [] pos) (isCM C m) := by
  refine ⟨pe_imp (pe_callB call_isi hg hm (by decide +kernel) (pa_cons ha.ne.pe (pa_cons (pe_glob (v := .ref C) hg2 c.nm rfl hd) pa_nil s2) s1) (by decide) (by decide) s1 hpl) fun σ H Q ⟨Fr, F, ρ, o, ρ', R, em, k⟩ => ?_⟩
  obtain ⟨o', d, b, e1, e2, e3, rfl⟩ := isCM_some em
  refine ⟨Fr, F, ρ, _, _, R, e1, fun F1 H1 v q1 R1 r => ?_⟩
  have w := r.look R1 e2
  have fin : ∀ t, TyX X.K H1 v t → PySem.W.kitOne X.K t (.ref C) = some b → _ := fun t ty e4 => (⟨v, .ref C, t, .ref C, b, rfl, .own C, ty, e4, k F1 H1 _ q1 R1 (.bl b)⟩ : rIsi X.K [v, .ref C] H1 Q)
  cases d with
  | ins C' ks ds =>
    obtain ⟨rfl, rfl⟩ := isCD_ins e3
    obtain ⟨a, dx, vs, rfl, h3, _, _⟩ := w.ins R1.f
    exact fin (.ref C') (.base (TyOf.ins h3 c.ic.cl c.ic.ha c.ic.hn c.ic.htk c.ic.hm)) c.ic.me
  | non => cases e3; exact fin _ (w.ty R1.f rfl) c.t4
  | bl _ => cases e3; exact fin _ (w.ty R1.f rfl) c.t2
  | int _ => cases e3; exact fin _ (w.ty R1.f rfl) c.t1
  | str _ => cases e3; exact fin _ (w.ty R1.f rfl) c.t3
  | lst _ => cases e3; exact fin _ (w.ty R1.f rfl) c.t6
  | tup _ => cases e3; exact fin _ (w.ty R1.f rfl) c.t5
  | dct _ _ => cases e3; exact fin _ (w.ty R1.f rfl) c.t7
  | dtt _ _ => cases e3; exact fin _ (w.ty R1.f rfl) c.t7
  | _ => cases e3; exact fin _ (w.ty R1.f rfl) c.t6
end
end Ev

set_option Elab.async false
set_option linter.all false
set_option maxRecDepth 100000
/-! Ev. X: list of a dict; the end with operators, properties, isinstance of own classes. -/
set_option autoImplicit false
namespace Ev
open PySem PySem.Spec PyProof.Rows L2
section
variable {X : Cx} {e : Expr} {am : AM} {pos p : Pos}
def keyDV : Key → D
  | .inl i => .int i
  | .inr s => .str s
theorem rep_key {K : PySem.W.Frag} {F : Hp} (k : Key) : Rep K F (kV k) (keyDV k) := by
  cases k with
  | inl i => exact .int i
  | inr s => exact .str s
theorem reps_keys {K : PySem.W.Frag} {F : Hp} : ∀ (ks : List Key), Reps K F (ks.map kV) (ks.map keyDV)
  | [] => .nil
  | k :: ks => .cons (rep_key k) (reps_keys ks)
def listX : List D → Option Opd
  | [.dct ks ds] => some (.tmp (.lst (ks.map keyDV)))
  | ds => listG ds
theorem cs_listX (hc : X.calm = true) : CalS X (fun xs H Q => (∃ p ys, xs = [.ref p] ∧ (SqL X.K H p ys ∨ SqT X.K H p ys) ∧ ∀ l, H l = none → Q (.ref l) (upd H l (.lst ys))) ∨ rListD xs H Q) listX := by
  intro Fr F H ρ σ vs ds o Q R hv g k
  unfold listX at g
  split at g
  · rename_i ks es
    cases g
    obtain ⟨v, rfl, w⟩ := vw1 hv
    obtain ⟨p, vs, rfl, h1, h2, h3⟩ := w.dct R.f
    refine .inr ⟨p, _, rfl, h1, fun q hq => ?_⟩
    have e : (ks.zip vs).map (fun kv => kV kv.1) = ks.map kV := by
      have z : ∀ (l : List (Key × V)), l.map (fun kv => kV kv.1) = (l.map Prod.fst).map kV := fun l => by rw [List.map_map]; rfl
      rw [z, List.map_fst_zip (by omega)]
    rw [e]
    exact after_new R hq (reps_keys ks) k
  · exact .inl (cs_list R hv g k)
theorem oe_listX (hc : X.calm = true) (ha : AE X [e] am) (hm : X.mg "list" = none) (hg : Gl X "list" := by rfl) (he : starEach [e] X.env = (false, eval e X.env) :: starEach [] X.env := by rfl) : OE X (.Call (.Name "list" p) [e] [] pos) (biM listX am) := oe_ty (call_list_of.or (call_list_dK hc)) (cs_listX hc) ha hm (by decide +kernel) hg (by decide) (by decide) he
end
/-- a new object that is not changed from now on -/
def fzM (m : EM) : EM := fun ρ => match esc m ρ with
  | some (d, ρ') => some (.val d, ρ')
  | none => none
theorem OE.fz {X : Cx} {e : Expr} {m : EM} (h : OE X e m) : OE X e (fzM m) := by
  refine ⟨pe_imp h.ve.pe fun σ H Q ⟨Fr, F, ρ, o, ρ', R, em, kk⟩ => ?_⟩
  unfold fzM at em
  split at em
  · rename_i d ρ1 e1
    cases em
    exact ⟨Fr, F, ρ, d, _, R, e1, fun F' H' v s R' r => kk F' H' v s R' r⟩
  · cases em
/-! the end -/
theorem ownop_of {P : Program} {w : World} {K : PySem.W.Frag} {mg : Str → Option Value} {base : Heap} {nm qual : Str} {C : Addr} {st : Stmt} {k : Nat} {ps : List Str} {fn : Fn} (d : MethAt K C nm qual st)
    (ok : ∀ {f : Addr} {fd : FuncData}, Fun K nm qual st f fd → FnOk P w K mg base CX0 k f fd ps (spF K fn 2))
    (hb : ∀ (kV doc pm : Value) (an : Option Addr) (cdv ct : Value) (us : List Value), us.length = ps.length → bindArgs (PySem.W.fnOf nm qual (defArgs st) (defBody st) (defScope st) .none kV doc pm an cdv ct) ⟨us, []⟩ = pure (ps.zip us)) : OwnOp P w K mg base k C nm fn := by
  obtain ⟨f, fd, F, h1, h2⟩ := d.ex
  exact ⟨f, fd, ps, h1, h2, ok F, F.binds hb⟩
/-- a property stands in the class at C -/
structure PropAt (K : PySem.W.Frag) (C : Addr) (nm qual : Str) (st : Stmt) : Prop where
  ex : ∃ p f fd, Fun K nm qual st f fd ∧ PropOf K C nm p f
theorem prop_mk {K : PySem.W.Frag} {C p : Addr} {nm qual : Str} {st : Stmt} {f : Addr} {oc : Value} {od an : Option Addr} {osl : Array (Option Value)} {kV doc pm cdv ct : Value} {rest : List Value}
    (a : PySem.W.findIn K (.ref C) nm = some (some (.ref p))) (g : PySem.W.specialIn K (.ref p) "__get__" = some (some (.builtin "property.__get__"))) (t : PySem.W.takesIn K (.ref p) = some true) (r : PySem.W.recIn K p "property" = some (.ref f :: rest))
    (l : K.lookup f = some ⟨oc, od, .func (PySem.W.fnOf nm qual (defArgs st) (defBody st) (defScope st) .none kV doc pm an cdv ct), osl⟩)
    (c : PySem.W.codeIn K cdv qual = true) (k : PySem.W.keepIn K (.ref f) = true) : PropAt K C nm qual st := ⟨p, f, _, fun_mk l c k, ⟨a, g, t, rest, r⟩⟩
theorem propon_of {P : Program} {w : World} {K : PySem.W.Frag} {mg : Str → Option Value} {base : Heap} {nm qual : Str} {C : Addr} {st : Stmt} {k : Nat} {ps : List Str} {fn : Fn} (c : Cls K C) (d : PropAt K C nm qual st)
    (ok : ∀ {f : Addr} {fd : FuncData}, Fun K nm qual st f fd → FnOk P w K mg base CX0 k f fd ps (spF K fn 1))
    (hb : ∀ (kV doc pm : Value) (an : Option Addr) (cdv ct : Value) (us : List Value), us.length = ps.length → bindArgs (PySem.W.fnOf nm qual (defArgs st) (defBody st) (defScope st) .none kV doc pm an cdv ct) ⟨us, []⟩ = pure (ps.zip us)) : PropOn P w K mg base k C nm fn := by
  obtain ⟨p, f, fd, F, h1⟩ := d.ex
  exact ⟨p, f, fd, ps, c, h1, ok F, F.binds hb⟩
theorem isc_mk {K : PySem.W.Frag} {mg : Str → Option Value} {x : Str} {C : Addr} (c : ClsAt K mg x C)
    (ha : PySem.W.findIn K (.ref C) "__class__" = some (some (.builtin "object.__class__"))) (hn : PySem.W.specialIn K (.builtin "object.__class__") "__get__" = some (some (.builtin "getset_descriptor.__get__")))
    (htk : PySem.W.takesIn K (.builtin "object.__class__") = some true) (hm : PySem.W.mroIn K C (.type "object") = some true) (me : PySem.W.kitOne K (.ref C) (.ref C) = some true)
    (t1 : PySem.W.kitOne K (.type "int") (.ref C) = some false) (t2 : PySem.W.kitOne K (.type "bool") (.ref C) = some false) (t3 : PySem.W.kitOne K (.type "str") (.ref C) = some false)
    (t4 : PySem.W.kitOne K (.type "NoneType") (.ref C) = some false) (t5 : PySem.W.kitOne K (.type "tuple") (.ref C) = some false) (t6 : PySem.W.kitOne K (.type "list") (.ref C) = some false)
    (t7 : PySem.W.kitOne K (.type "dict") (.ref C) = some false) : IsC K mg x C := ⟨c.at_, ⟨c.cl, ha, hn, htk, hm, me⟩, t1, t2, t3, t4, t5, t6, t7⟩
theorem timesc_mk {K : PySem.W.Frag} {C : Addr} {nm rn : Str} {fo ro : Option Value} (sf : PySem.W.selfFirst K C = true) (rc : PySem.W.findIn K (.ref C) rn = some none) (h1 : PySem.W.findIn K (.type "int") nm = some fo)
    (h2 : PySem.W.findIn K (.type "int") rn = some ro) (sb : PySem.W.subIn K (.type "int") (.ref C) = some false) : TimesC K C nm rn := ⟨sf, rc, ⟨_, h1⟩, ⟨_, h2⟩, sb⟩
end Ev

set_option Elab.async false
set_option linter.all false
set_option maxRecDepth 100000
/-! Ev. R: starred items of displays; comprehensions of two clauses. -/
set_option autoImplicit false
namespace Ev
open PySem PySem.Spec PyProof.Rows L2
/-- *e, .. -/
def starD (m : EM) (r : DM) : DM := fun ρ => match frz m ρ with
  | some (o, ρ1) => match look o ρ1 with
    | some d => match seqD d with
      | some xs => match r ρ1 with
        | some (ds, ρ2) => some (xs ++ ds, ρ2)
        | none => none
      | none => none
    | none => none
  | none => none
section
variable {X : Cx} {Wx : WX} {e a b : Expr} {es : List Expr} {m ma mb : EM} {pos : Pos}
theorem de_star {p : Pos} {r : DM} (h : OE X e m) (hr : DE X es r) (hs : starEach (.Starred e p :: es) X.env = (true, eval e X.env) :: starEach es X.env := by rfl) : DE X (.Starred e p :: es) (starD m r) := by
  refine ⟨pa_imp (StX.pa_star h.ne.pe hr.pa hs) fun σ H Q ⟨Fr, F, ρ, os, ρ', R, em, k⟩ => ?_⟩
  unfold starD at em
  split at em
  · rename_i o ρ1 e1
    split at em
    · rename_i d e2
      split at em
      · rename_i xs e3
        split at em
        · rename_i ds ρ2 e4
          cases em
          refine ⟨Fr, F, ρ, _, _, R, e1, fun F1 H1 v s1 R1 q => ?_⟩
          obtain ⟨p, vs, rfl, h1, h2⟩ := (q.look R1 e2).seq R1.f e3
          exact ⟨p, vs, rfl, h1.symm, Fr, F1, ρ1, _, _, R1, e4, fun F2 H2 ws s2 R2 q2 => k F2 H2 _ (s1.trans s2) R2 ((h2.mono s2).append q2)⟩
        · cases em
      · cases em
    · cases em
  · cases em
end

/-! two clauses -/
def compL2 (vs vs1 : List Nat) (g : D → Rho → Option Rho) (t : TM) (it1 : IM) (g1 : D → Rho → Option Rho) (t1 : TM) (el : VM) : List D → List D → Rho → Option (List D × Rho)
  | [], acc, ρ => some (acc, ρ)
  | d :: ds, acc, ρ => match g d ρ with
    | some ρ1 => match t ρ1 with
      | some (true, ρ2) => match it1 ρ2 with
        | some (ds1, none, ρ3) => match compL vs1 g1 t1 el ds1 acc (wipeR ρ3 vs1) with
          | some (acc', ρ4) => compL2 vs vs1 g t it1 g1 t1 el ds acc' (wipeR ρ4 vs)
          | none => none
        | _ => none
      | some (false, ρ2) => compL2 vs vs1 g t it1 g1 t1 el ds acc (wipeR ρ2 vs)
      | none => none
    | none => none
def compM2 (vs vs1 : List Nat) (it : IM) (g : D → Rho → Option Rho) (t : TM) (it1 : IM) (g1 : D → Rho → Option Rho) (t1 : TM) (el : VM) : EM := fun ρ => match it ρ with
  | some (ds, lk, ρ1) => if bare ρ1 vs then match compL2 vs vs1 g t it1 g1 t1 el ds [] (wipeR ρ1 vs) with
    | some (acc, ρ2) => match unlock lk (backR ρ1 ρ2 vs) with
      | some ρ3 => some (.tmp (.lst acc), ρ3)
      | none => none
    | none => none else none
  | none => none
theorem wipe_sub {σ : St} {vs vs1 : List Nat} (h : ∀ i ∈ vs1, i ∈ vs) : wipe (wipe σ vs1) vs = wipe σ vs := by
  apply List.ext_getElem?
  intro i
  rw [wipe_get, wipe_get, wipe_length, wipe_get]
  by_cases hi : i ∈ vs
  · rw [if_pos hi, if_pos hi]
  · rw [if_neg hi, if_neg hi, if_neg (fun z => hi (h i z))]
section
variable {X : Cx} {Wx : WX} {W W1 : List Nat} {tg tg1 : Expr} {pos : Pos}
theorem lc2_read {L vs vs1 : List Nat} {it it1 : IM} {g g1 : D → Rho → Option Rho} {t t1 : TM} {el : VM} (hW : ∀ i ∈ W, i ∈ vs) (hW1 : ∀ i ∈ W1, i ∈ vs1) (hv : ∀ i ∈ vs1, i ∈ vs) {σ : St} {H : Hp} {Q : VK} (h : tE X.K (compM2 vs vs1 it g t it1 g1 t1 el) σ H Q) :
    tLc2 (tI X.K it) (tG X.K W g) (tT X.K t) (tI X.K it1) (tG X.K W1 g1) (tT X.K t1) (tV X.K el) vs vs1 σ H Q := by
  obtain ⟨Fr, F, ρ, o, ρ', R, em, k⟩ := h
  unfold compM2 at em
  split at em
  · rename_i ds lk ρ1 e1
    split at em
    · rename_i hb
      split at em
      · rename_i acc ρ2 e2
        split at em
        · rename_i ρ3 e3
          cases em
          refine ⟨Fr, F, ρ, ds, lk, ρ1, R, e1, fun Fr' F1 H1 J q1 R1 l ok p hp => ?_⟩
          have hFr' : Fr' p = none := R1.fr.free hp
          refine ⟨fun i n H2 => ∃ F2 ρx vacc ac, Same F1 F2 ∧ Rel X.K (Fr'.hide p (.lst vacc)) F2 ρx (wipe σ vs) H2 ∧ Reps X.K F2 vacc ac ∧ i ≤ ds.length ∧ n = ds.length - i ∧ compL2 vs vs1 g t it1 g1 t1 el (ds.drop i) ac ρx = some (acc, ρ2),
            ⟨ds.length, F1, wipeR ρ1 vs, [], [], Same.refl F1, (R1.wipes vs).hide hp, .nil, Nat.zero_le _, rfl, e2⟩, ?_⟩
          rintro i n H2 ⟨F2, ρx, vacc, ac, q2, R2, rs, hle, rfl, e4⟩
          have frS : Same Fr'.h H2 := fun b u z => R2.fr b u ((upd_ne (ne_of_none z hFr')).trans z)
          obtain ⟨item, stop⟩ := ok F2 H2 q2 (Frm.vis_same frS) R2.f
          by_cases hlt : i < ds.length
          · rw [List.drop_eq_getElem_cons hlt, compL2] at e4
            obtain ⟨go, yl⟩ := item i _ (List.getElem?_eq_getElem hlt)
            refine .inr ⟨go, fun H3 => ∃ F3 ρx vacc ac, Same F1 F3 ∧ Rel X.K (Fr'.hide p (.lst vacc)) F3 ρx (wipe σ vs) H3 ∧ Reps X.K F3 vacc ac ∧ compL2 vs vs1 g t it1 g1 t1 el (ds.drop (i + 1)) ac ρx = some (acc, ρ2),
              fun H3 ⟨F3, ρy, va, ay, z1, z2, z3, z4⟩ => ⟨ds.length - (i + 1), by omega, F3, ρy, va, ay, z1, z2, z3, hlt, rfl, z4⟩, fun x H' y => ?_⟩
            obtain ⟨F3, q3, q4, tr, rx⟩ := yl x H' y
            split at e4
            · rename_i ρ4 e5
              refine ⟨Fr'.hide p (.lst vacc), F3, ρx, _, ρ4, tr _ _ _ R2, rx, e5, fun F4 H4 σ4 q5 R4 k4 => ⟨wipe_keep k4 hW, ?_⟩⟩
              have hw : wipe σ4 vs = wipe σ vs := wipe_keep k4 hW
              split at e4
              · rename_i ρ5 e6
                split at e4
                · rename_i ds1 ρ6 e7
                  split at e4
                  · rename_i acc' ρ7 e8
                    refine ⟨_, F4, ρ4, _, _, R4, e6, fun F5 H5 q6 R5 => iteT ⟨_, F5, ρ5, _, _, _, R5, e7, fun Fr2 F6 H6 J1 q7 R6 l1 ok1 => ?_⟩⟩
                    cases l1
                    have rs6 := rs.mono (((q3.trans q5).trans q6).trans q7)
                    refine ⟨fun j n H7 => ∃ F7 ρy va ay, Same F6 F7 ∧ Rel X.K (Fr'.hide p (.lst va)) F7 ρy (wipe σ4 vs1) H7 ∧ Reps X.K F7 va ay ∧ j ≤ ds1.length ∧ n = ds1.length - j ∧ compL vs1 g1 t1 el (ds1.drop j) ay ρy = some (acc', ρ7),
                      ⟨ds1.length, F6, wipeR ρ6 vs1, vacc, ac, Same.refl F6, R6.wipes vs1, rs6, Nat.zero_le _, rfl, e8⟩, ?_⟩
                    rintro j n H7 ⟨F7, ρy, va, ay, q8, R7, rs7, hle7, rfl, e9⟩
                    have frS7 : Same (Fr'.hide p (.lst vacc)).vis H7 := by
                      rw [Frm.vis_hide (u := .lst va)]
                      exact Frm.vis_same R7.fr
                    obtain ⟨item1, stop1⟩ := ok1 F7 H7 q8 frS7 R7.f
                    by_cases hlt1 : j < ds1.length
                    · rw [List.drop_eq_getElem_cons hlt1, compL] at e9
                      obtain ⟨go1, yl1⟩ := item1 j _ (List.getElem?_eq_getElem hlt1)
                      refine .inr ⟨go1, fun H8 => ∃ F8 ρy va ay, Same F6 F8 ∧ Rel X.K (Fr'.hide p (.lst va)) F8 ρy (wipe σ4 vs1) H8 ∧ Reps X.K F8 va ay ∧ compL vs1 g1 t1 el (ds1.drop (j + 1)) ay ρy = some (acc', ρ7),
                        fun H8 ⟨F8, ρz, vz, az, z1, z2, z3, z4⟩ => ⟨ds1.length - (j + 1), by omega, F8, ρz, vz, az, z1, z2, z3, hlt1, rfl, z4⟩, fun x1 H' y1 => ?_⟩
                      obtain ⟨F8, q9, q10, tr1, rx1⟩ := yl1 x1 H' y1
                      split at e9
                      · rename_i ρ8 e10
                        refine ⟨Fr'.hide p (.lst va), F8, ρy, _, ρ8, tr1 _ _ _ R7, rx1, e10, fun F9 H9 σ9 q11 R9 k9 => ⟨wipe_keep k9 hW1, ?_⟩⟩
                        have hw9 : wipe σ9 vs1 = wipe σ4 vs1 := wipe_keep k9 hW1
                        split at e9
                        · rename_i ρ9 e11
                          split at e9
                          · rename_i yv ρ10 e12
                            split at e9
                            · rename_i hz
                              refine ⟨_, F9, ρ8, _, _, R9, e11, fun F10 H10 q12 R10 => iteT ⟨_, F10, ρ9, _, _, R10, e12, fun F11 H11 yy q13 R11 ry => ?_⟩⟩
                              have rs11 := rs7.mono (((q9.trans q11).trans q12).trans q13)
                              refine ⟨va, R11.fr p _ upd_same, by rw [rs7.length]; exact hz, F11, wipeR ρ10 vs1, va ++ [yy], ay ++ [yv], (((q8.trans q9).trans q11).trans q12).trans q13, ?_, rs11.append (.cons ry .nil), e9⟩
                              rw [← hw9]
                              exact (R11.rehide (u := .lst (va ++ [yy]))).wipes vs1
                            · cases e9
                          · cases e9
                        · rename_i ρ9 e11
                          refine ⟨_, F9, ρ8, _, _, R9, e11, fun F10 H10 q12 R10 => iteF ⟨F10, wipeR ρ9 vs1, va, ay, ((q8.trans q9).trans q11).trans q12, ?_, rs7.mono ((q9.trans q11).trans q12), e9⟩⟩
                          rw [← hw9]
                          exact R10.wipes vs1
                        · cases e9
                      · cases e9
                    · have ej : j = ds1.length := by omega
                      subst ej
                      rw [List.drop_length, compL] at e9
                      cases e9
                      refine .inl ⟨stop1, F7, wipeR ρ7 vs, va, _, (((((q2.trans q3).trans q5).trans q6).trans q7).trans q8), ?_, rs7, e4⟩
                      have := R7.wipes vs
                      rw [wipe_sub hv, hw] at this
                      exact this
                  · cases e4
                · cases e4
              · rename_i ρ5 e6
                refine ⟨_, F4, ρ4, _, _, R4, e6, fun F5 H5 q6 R5 => iteF ⟨F5, wipeR ρ5 vs, vacc, ac, ((q2.trans q3).trans q5).trans q6, ?_, rs.mono ((q3.trans q5).trans q6), e4⟩⟩
                rw [← hw]
                exact R5.wipes vs
              · cases e4
            · cases e4
          · have ei : i = ds.length := by omega
            subst ei
            rw [List.drop_length, compL2] at e4
            cases e4
            refine .inl ⟨stop, ?_⟩
            have R3 := R1.back hFr' R2 q2 hb
            have hF2 : F2 p = none := R2.dj p _ upd_same
            have w : ORel X.K Fr' F2 (backR ρ1 ρ2 vs) σ H2 (.ref p) (.tmp (.lst acc)) := by
              refine ⟨p, _, rfl, R2.fr p _ upd_same, .lst rs, hF2, hFr', fun i e z1 z2 => ?_⟩
              rw [backR_get] at z1
              by_cases hi : i ∈ vs
              · rw [if_pos hi] at z1
                split at z1
                · have z3 : ρ1[i]?.getD none = some (.own e) := Option.some.inj z1
                  have z4 : ρ1[i]? = some (some (.own e)) := by
                    cases z : ρ1[i]? with
                    | none => rw [z] at z3; cases z3
                    | some w => rw [z] at z3; exact congrArg some z3
                  have := List.all_eq_true.mp hb i hi
                  rw [z4] at this
                  cases this
                · cases z1
              · rw [if_neg hi] at z1
                obtain ⟨v, ev, a, u, rfl, _, _, _, y5⟩ := R2.slot i _ z1
                rw [wipe_get, if_neg hi, z2] at ev
                cases ev
                have y5 : L2.upd Fr'.h p (.lst vacc) p = none := y5
                rw [upd_same] at y5
                cases y5
            exact k F2 H2 _ (q1.trans q2) (l.open q2 R3 (fun _ _ _ => rfl) e3) (l.orel e3 (fun _ _ _ => rfl) w)
        · cases em
      · cases em
    · cases em
  · cases em
theorem oe_comp2 {elt iter iter1 : Expr} {ifs ifs1 : List Expr} {scope : Scope} {own : List (Str × Nat)} {vs1 : List Nat} {L L1 : List Nat} {it it1 : IM} {g g1 : D → Rho → Option Rho} {t t1 : TM} {el : EM} (hc : X.calm = true) (hN : X.N.Nodup) (hi : IE X tg iter L it) (ok : BlkOk X.N X.env.scope scope own)
    (hg : ∀ (s : Shared) (H : Hp) (C : Addr) (cl : List (Str × Addr)) (fp : List Addr), GE (X.blk s H scope (compEnvC scope cl C X.env) fp) tg W g)
    (ht : ∀ (s : Shared) (H : Hp) (C : Addr) (cl : List (Str × Addr)) (fp : List Addr), IfE (X.blk s H scope (compEnvC scope cl C X.env) fp) ifs t)
    (hi1 : ∀ (s : Shared) (H : Hp) (C : Addr) (cl : List (Str × Addr)) (fp : List Addr), IE (X.blk s H scope (compEnvC scope cl C X.env) fp) tg1 iter1 L1 it1)
    (hg1 : ∀ (s : Shared) (H : Hp) (C : Addr) (cl : List (Str × Addr)) (fp : List Addr), GE (X.blk s H scope (compEnvC scope cl C X.env) fp) tg1 W1 g1)
    (ht1 : ∀ (s : Shared) (H : Hp) (C : Addr) (cl : List (Str × Addr)) (fp : List Addr), IfE (X.blk s H scope (compEnvC scope cl C X.env) fp) ifs1 t1)
    (he : ∀ (s : Shared) (H : Hp) (C : Addr) (cl : List (Str × Addr)) (fp : List Addr), OE (X.blk s H scope (compEnvC scope cl C X.env) fp) elt el)
    (hv : ∀ i ∈ vs1, i ∈ own.map (·.2) := by decide) (hW : ∀ i ∈ W, i ∈ own.map (·.2) := by decide) (hW1 : ∀ i ∈ W1, i ∈ vs1 := by decide) (hs : ∀ x, foldedSetIterable iter X.env x = pure x := by intro _; rfl) (hs1 : ∀ env x, foldedSetIterable iter1 env x = pure x := by intro _ _; rfl) :
    OE X (.ListComp elt [⟨tg, iter, ifs, 0⟩, ⟨tg1, iter1, ifs1, 0⟩] scope pos) (compM2 (own.map (·.2)) vs1 it g t it1 g1 t1 (esc el)) :=
  ⟨pe_imp (pe_lc2 hc hN hi.pi ok hv (fun s H C cl fp => (hg s H C cl fp).pg) (fun s H C cl fp => (ht s H C cl fp).pts) (fun s H C cl fp => (hi1 s H C cl fp).pi) (fun s H C cl fp => (hg1 s H C cl fp).pg) (fun s H C cl fp => (ht1 s H C cl fp).pts) (fun s H C cl fp => (he s H C cl fp).ve.pe) hs hs1) fun σ H Q h => lc2_read (L := L) hW hW1 hv h⟩
theorem se_setComp2 (i : Nat) {y : Str} {py spos : Pos} {elt iter iter1 : Expr} {ifs ifs1 : List Expr} {scope : Scope} {own : List (Str × Nat)} {vs1 : List Nat} {L L1 : List Nat} {it it1 : IM} {g g1 : D → Rho → Option Rho} {t t1 : TM} {el : EM} (hc : X.calm = true) (hN : X.N.Nodup) (hi : IE X tg iter L it) (ok : BlkOk X.N X.env.scope scope own)
    (hg : ∀ (s : Shared) (H : Hp) (C : Addr) (cl : List (Str × Addr)) (fp : List Addr), GE (X.blk s H scope (compEnvC scope cl C X.env) fp) tg W g)
    (ht : ∀ (s : Shared) (H : Hp) (C : Addr) (cl : List (Str × Addr)) (fp : List Addr), IfE (X.blk s H scope (compEnvC scope cl C X.env) fp) ifs t)
    (hi1 : ∀ (s : Shared) (H : Hp) (C : Addr) (cl : List (Str × Addr)) (fp : List Addr), IE (X.blk s H scope (compEnvC scope cl C X.env) fp) tg1 iter1 L1 it1)
    (hg1 : ∀ (s : Shared) (H : Hp) (C : Addr) (cl : List (Str × Addr)) (fp : List Addr), GE (X.blk s H scope (compEnvC scope cl C X.env) fp) tg1 W1 g1)
    (ht1 : ∀ (s : Shared) (H : Hp) (C : Addr) (cl : List (Str × Addr)) (fp : List Addr), IfE (X.blk s H scope (compEnvC scope cl C X.env) fp) ifs1 t1)
    (he : ∀ (s : Shared) (H : Hp) (C : Addr) (cl : List (Str × Addr)) (fp : List Addr), OE (X.blk s H scope (compEnvC scope cl C X.env) fp) elt el)
    (hsw : swapsWith (.ListComp elt [⟨tg, iter, ifs, 0⟩, ⟨tg1, iter1, ifs1, 0⟩] scope pos) (some (.Name y py)) spos.line X.env = pure true)
    (hv : ∀ i ∈ vs1, i ∈ own.map (·.2) := by decide) (hW : ∀ i ∈ W, i ∈ own.map (·.2) := by decide) (hW1 : ∀ i ∈ W1, i ∈ vs1 := by decide) (hy : X.N[i]? = some y := by rfl) (hyl : X.env.scope.names.lookup y = some .local := by rfl) (hs : ∀ x, foldedSetIterable iter X.env x = pure x := by intro _; rfl) (hs1 : ∀ env x, foldedSetIterable iter1 env x = pure x := by intro _ _; rfl) :
    SE X Wx (.Assign [.Name y py] (.ListComp elt [⟨tg, iter, ifs, 0⟩, ⟨tg1, iter1, ifs1, 0⟩] scope pos) spos) [i] (setM i (compM2 (own.map (·.2)) vs1 it g t it1 g1 t1 (esc el))) :=
  ⟨ps_imp (ps_setLc2 hc hN hy hyl hsw hi.pi ok hv (fun s H C cl fp => (hg s H C cl fp).pg) (fun s H C cl fp => (ht s H C cl fp).pts) (fun s H C cl fp => (hi1 s H C cl fp).pi) (fun s H C cl fp => (hg1 s H C cl fp).pg) (fun s H C cl fp => (ht1 s H C cl fp).pts) (fun s H C cl fp => (he s H C cl fp).ve.pe) hs hs1) fun Dn σ H h => setM_ok (fun Q z => lc2_read (L := L) hW hW1 hv z) h⟩
end
end Ev

set_option Elab.async false
set_option linter.all false
set_option maxRecDepth 100000
set_option maxHeartbeats 1000000
/-! Ev. P: enumerate of a list or a tuple. -/
set_option autoImplicit false
namespace Ev
open PySem PySem.Spec PyProof.Rows L2 RZ
section
variable {prog : Program} {w : World} {A : Around} {E : Value → Shared → Prop} {s : Shared}
theorem enumK_item {k : Bool} {e it l : Addr} {i : Nat} {xs : Array Value} {x old : Value} {Q : Value → Shared → Prop} (he : IsEnum s.heap e it i old) (u : ItrK k s.heap it l i) (c : Cnt k s.heap l xs) (hx : xs[i]? = some x) (hne : e ≠ it)
    (q : ∀ h', IsEnumOut h' e it ((i : Int) + 1) x s.heap.objs.size → ItrK k h' it l (i + 1) → h'.get? s.heap.objs.size = some { cls := .type "tuple", data := .seq #[.int i s.toks, x] } → h'.objs.size = s.heap.objs.size + 1 →
      (∀ b o, b ≠ e → b ≠ it → s.heap.get? b = some o → h'.get? b = some o) → Q (.ref s.heap.objs.size) { s with heap := h', toks := s.toks + 1 }) : wpAny (model prog w) A (Builtin.«enumerate.__next__» ⟨[.ref e], []⟩) (fun fin s' => ∃ v, fin = .done (.ret v) ∧ Q v s') E s := by
  obtain ⟨hp, g, d, tk, os⟩ := s; show wpAny _ _ (field (.ref e) 2 >>= _) _ _ _; refine wpAny_bind (wpAny_field he rfl (x := .ref it) rfl (wpAny_bind (nextK_item u c hx fun g1 v1 s1 => ?_)))
  replace s1 : Heap.SameBut it hp g1 := s1; have w1 : IsEnum g1 e it i old := (s1.2 e hne).trans he
  show wpAny _ _ (field (.ref e) 3 >>= _) _ _ ⟨g1, g, d, tk, os⟩; refine wpAny_bind (wpAny_field w1 rfl (x := rawInt i) rfl ?_); show wpAny _ _ (field (.ref e) 4 >>= _) _ _ ⟨g1, g, d, tk, os⟩
  refine wpAny_bind (wpAny_field w1 rfl (x := .none) rfl ?_); show wpAny _ _ (mkInt i >>= _) _ _ ⟨g1, g, d, tk, os⟩; refine wpAny_bind (wpAny_mkInt ?_)
  show wpAny _ _ (setField (.ref e) 3 (rawInt ((i : Int) + 1)) >>= _) _ _ ⟨g1, g, d, tk + 1, os⟩; refine wpAny_bind (wpAny_setField_rec w1 (by simp) fun g2 w2 s2 => ?_)
  replace s2 : Heap.SameBut e g1 g2 := s2; replace w2 : IsEnum g2 e it ((i : Int) + 1) old := w2
  show wpAny _ _ (setField (.ref e) 4 .none >>= _) _ _ ⟨g2, g, d, tk + 1, os⟩; refine wpAny_bind (wpAny_setField_rec w2 (by simp) fun g3 w3 s3 => ?_)
  replace s3 : Heap.SameBut e g2 g3 := s3; replace w3 : IsEnum g3 e it ((i : Int) + 1) old := w3
  show wpAny _ _ (newTuple [.int i tk, x] >>= _) _ _ ⟨g3, g, d, tk + 1, os⟩; refine wpAny_bind (wpAny_newTuple ?_)
  have w4 : IsEnum (g3.push { cls := .type "tuple", data := .seq #[.int i tk, x] }) e it ((i : Int) + 1) old := Heap.get?_push_of_some _ w3
  generalize hg4 : g3.push { cls := .type "tuple", data := .seq #[.int i tk, x] } = g4 at w4
  have sz : g3.objs.size = hp.objs.size := by rw [s3.1, s2.1, s1.1]
  have el : e < hp.objs.size := Heap.lt_size he
  have t4 : g4.get? hp.objs.size = some { cls := .type "tuple", data := .seq #[.int i tk, x] } := by rw [← hg4, ← sz]; exact Heap.get?_push_size _ rfl
  have z4 : g4.objs.size = hp.objs.size + 1 := by rw [← hg4, Heap.size_push, sz]
  have up4 : ∀ b o, b ≠ e → b ≠ it → hp.get? b = some o → g4.get? b = some o := fun b o q1 q2 y => by rw [← hg4]; exact Heap.get?_push_of_some _ (s3.extBut b o q1 (s2.extBut b o q1 (s1.extBut b o q2 y)))
  have v4 : ItrK k g4 it l (i + 1) := v1.up fun o y => by rw [← hg4]; exact Heap.get?_push_of_some _ (s3.extBut it o (Ne.symm hne) (s2.extBut it o (Ne.symm hne) y))
  show wpAny _ _ (Builtin.SmallTypes.ownedTupleIsFree (.ref e) >>= _) _ _ ⟨g4, g, d, tk + 1, os⟩; rw [sz]; clear hg4 w3 s3 w2 s2 w1 s1 v1 sz g3 g2 g1; refine wpAny_bind ?_
  unfold Builtin.SmallTypes.ownedTupleIsFree; refine wpAny_bind (wpAny_field w4 rfl (x := .none) rfl (wpAny_pure ?_)); simp only [if_true]
  refine wpAny_bind (wpAny_rule (wpAny_bind (wpAny_field w4 rfl (x := old) rfl (wpAny_bind (wpAny_setField_rec w4 (by simp) fun g5 w5 s5 => ?_)))))
  replace s5 : Heap.SameBut e g4 g5 := s5; replace w5 : IsEnum g5 e it ((i : Int) + 1) x := w5
  show wpAny _ _ (Builtin.SmallTypes.ownedTupleHandOut (.ref e) (.ref hp.objs.size) >>= _) _ _ ⟨g5, g, d, tk + 1, os⟩; refine wpAny_bind ?_
  unfold Builtin.SmallTypes.ownedTupleHandOut; refine wpAny_bind (wpAny_setField_rec w5 (by simp) fun g6 w6 s6 => ?_)
  replace s6 : Heap.SameBut e g5 g6 := s6; replace w6 : IsEnumOut g6 e it ((i : Int) + 1) x hp.objs.size := w6; refine wpAny_setField_rec w6 (by simp) fun g7 w7 s7 => ?_
  replace s7 : Heap.SameBut e g6 g7 := s7; replace w7 : IsEnumOut g7 e it ((i : Int) + 1) x hp.objs.size := w7
  refine wpAny_bind (wpAny_letGo (wpAny_pure ⟨_, rfl, q g7 w7 (v4.up fun o y => s7.extBut it o (Ne.symm hne) (s6.extBut it o (Ne.symm hne) (s5.extBut it o (Ne.symm hne) y))) ?_ ?_ ?_⟩))
  · exact s7.extBut _ _ (Nat.ne_of_gt el) (s6.extBut _ _ (Nat.ne_of_gt el) (s5.extBut _ _ (Nat.ne_of_gt el) t4))
  · rw [s7.1, s6.1, s5.1, z4]
  · exact fun b o q1 q2 y => s7.extBut b o q1 (s6.extBut b o q1 (s5.extBut b o q1 (up4 b o q1 q2 y)))
theorem nxK_item {k : Bool} {e it l : Addr} {i : Nat} {xs : Array Value} {x old : Value} {Q : Option Value → Shared → Prop} (he : IsEnum s.heap e it i old) (u : ItrK k s.heap it l i) (c : Cnt k s.heap l xs) (hx : xs[i]? = some x) (hne : e ≠ it)
    (q : ∀ h', IsEnumOut h' e it ((i : Int) + 1) x s.heap.objs.size → ItrK k h' it l (i + 1) → h'.get? s.heap.objs.size = some { cls := .type "tuple", data := .seq #[.int i s.toks, x] } → h'.objs.size = s.heap.objs.size + 1 →
      (∀ b o, b ≠ e → b ≠ it → s.heap.get? b = some o → h'.get? b = some o) → Q (some (.ref s.heap.objs.size)) { s with heap := h', toks := s.toks + 1 }) : wpAny (model prog w) A (pyNext (.ref e)) Q E s := by
  have t : s.TypeIs (.ref e) "enumerate" := ⟨_, he, rfl⟩
  unfold pyNext; exact wpAny_bind (wpAny_attempt (wpAny_callSpecial?_slot (name := Str.ofString "__next__") t F.slot_enumerate_next (wpAny_call_entry F.slot_enumerate_next t F.entry_enumerate_next (enumK_item he u c hx hne fun h' a b c d k => wpAny_pure (q h' a b c d k)) (F.args_enumerate_next_1 _))))
theorem nxK_end {k : Bool} {e it l : Addr} {i : Nat} {xs : Array Value} {old : Value} {Q : Option Value → Shared → Prop} (hh : A.handled = none) (he : IsEnum s.heap e it i old) (u : ItrK k s.heap it l i) (c : Cnt k s.heap l xs) (hx : xs[i]? = none)
    (q : ∀ h', Heap.ExtBut it s.heap h' → Q none { s with heap := h' }) : wpAny (model prog w) A (pyNext (.ref e)) Q E s := by
  have t : s.TypeIs (.ref e) "enumerate" := ⟨_, he, rfl⟩
  unfold pyNext; refine wpAny_bind (wpAny_attempt (wpAny_callSpecial?_slot (name := Str.ofString "__next__") t F.slot_enumerate_next (wpAny_call_entry F.slot_enumerate_next t F.entry_enumerate_next ?_ (F.args_enumerate_next_1 _))))
  show wpAny _ _ (field (.ref e) 2 >>= _) _ _ _; refine wpAny_bind (wpAny_field he rfl (x := .ref it) rfl (wpAny_bind (nextK_end hh u c hx fun h' x up ⟨o, ho, hc⟩ => ?_)))
  exact wpAny_bind (wpAny_isInstance (T := "StopIteration") (b := true) ⟨o, ho, hc⟩ isSubtype_stop (wpAny_pure (q _ up)))
end
abbrev enH (h : Heap) (l : Addr) : Heap := (kH1 false h l).push { cls := .type "enumerate", data := .fields #[.none, .bool false, .ref h.objs.size, rawInt 0, .none, .none] }
theorem enumT_new (l : Addr) (o : Obj) (xs : Array Value) (n : Nat) : Meets (Builtin.«enumerate.__new__» ⟨[.type "enumerate", .ref l], []⟩) (fun _ R s => (s.heap.get? l = some o ∧ o.cls = .type "tuple" ∧ o.data = .seq xs n) ∧ R (.ok (.ret (.ref (kH1 false s.heap l).objs.size))) { s with heap := enH s.heap l }) :=
  .of_wp fun prog w A R s h => by
    obtain ⟨hp, g, d, tk, os⟩ := s
    obtain ⟨⟨ho, hc, hd⟩, h⟩ := h
    obtain ⟨c, dct, dt, sl⟩ := o
    replace hc : c = .type "tuple" := hc
    replace hd : dt = .seq xs n := hd
    subst hc hd
    have hsub := sub_enumerate
    have m1 : Heap.IsTuple (Shared.heap ⟨hp, g, d, tk, os⟩) l xs := ⟨_, ho, rfl, n, rfl⟩
    wp_walk using AutoSeq1.wpAny_loadPart' ho
    refine wpAny_stack_any fun st => wpAny_pure ?_
    split
    · rename_i c _ _ _ _ _
      cases (c == Value.type "enumerate") <;> (wp_walk using AutoSeq1.wpAny_loadPart' ho, wpAny_pyIter_tuple m1; exact ⟨_, rfl, h⟩)
    · wp_walk using AutoSeq1.wpAny_loadPart' ho, wpAny_pyIter_tuple m1
      exact ⟨_, rfl, h⟩
section
variable {prog : Program} {w : World} {A : Around} {E : Value → Shared → Prop} {s : Shared}
theorem enumT_call {l : Addr} {xs : Array Value} {Q : Value → Shared → Prop} (c : Cnt false s.heap l xs)
    (q : ∀ h', IsEnum h' (s.heap.objs.size + 1) s.heap.objs.size 0 .none → ItrK false h' s.heap.objs.size l 0 → (∀ b o, s.heap.get? b = some o → h'.get? b = some o) → Q (.ref (s.heap.objs.size + 1)) { s with heap := h' }) : wpAny (model prog w) A (call (.type "enumerate") [.ref l]) Q E s := by
  obtain ⟨o, ho, hc, n, hd⟩ := c
  refine callType_new F.called_enumerate (by decide) (F.typeCall_enumerate_1 _) (F.newCall_enumerate_1 _) (fun obj => F.args_object_init_2 obj _) F.entry_enumerate_new (enumT_new l o xs n) ⟨⟨ho, hc, hd⟩, ?_⟩
  have e1 : (kH1 false s.heap l).objs.size = s.heap.objs.size + 1 := Heap.size_push ..
  have u2 : (enH s.heap l).get? (kH1 false s.heap l).objs.size = some _ := Heap.get?_push_size _ rfl
  have u1 : (enH s.heap l).get? s.heap.objs.size = some _ := Heap.get?_push_of_some _ (Heap.get?_push_size _ rfl)
  show _ ∧ _; rw [e1] at u2; rw [e1]
  exact ⟨⟨_, u2, rfl⟩, q _ u2 ⟨_, u1, rfl, rfl⟩ fun b o x => Heap.get?_push_of_some _ (Heap.get?_push_of_some _ x)⟩
end
/-- the tuple at a, each item in a new pair -/
def ItenT (K : PySem.W.Frag) (a : Addr) : It :=
  ⟨fun i H => ∃ (xs : List V) (x : V), SqT K H a xs ∧ xs[i]? = some x, fun i H v H' => ∃ T x, v = .ref T ∧ H T = none ∧ H' = upd H T (.tup [.int (i : Nat), x]) ∧ ∀ xs, SqT K H a xs → xs[i]? = some x, fun i H => ∃ xs : List V, SqT K H a xs ∧ xs.length ≤ i⟩
theorem turn_enumT {P : Program} {w : World} {K : PySem.W.Frag} {elts : List Expr} {kk : Nat} {tpos : Pos} (a e it : Addr) : Turn P w K (.Tuple elts kk tpos) (ItenT K a) [e, it] e (fun i h => (∃ old, IsEnum h e it ((i : Nat) : Int) old) ∧ ItrK false h it a i ∧ e ≠ it) where
  mem := by simp
  obj := fun i h ⟨⟨old, he⟩, u, _⟩ b hb => by
    have e' : b = e ∨ b = it := by simpa using hb
    rcases e' with rfl | rfl
    · exact ⟨_, he, fun v q => nomatch q⟩
    · exact u.obj
  keep := fun i h h' ⟨⟨old, he⟩, u, hne⟩ up => ⟨⟨old, up e (by simp) _ he⟩, u.up fun o q => up it (by simp) o q, hne⟩
  item := by
    rintro X rfl rfl rfl hc i pins s σ H E I hf ⟨⟨old, he⟩, u, hne⟩ ⟨xs, x, q1, hx⟩
    obtain ⟨its, rv, p, _⟩ := I.tuple q1
    obtain ⟨v, hv, ru⟩ := rv.get hx
    have el : e < s.heap.objs.size := Heap.lt_size he
    have il : it < s.heap.objs.size := u.lt
    refine nxK_item (k := false) he u p (x := v) (by simpa using hv) hne fun h' ho u' hT sz up => ⟨_, rfl, wpAny_letOwnedTupleGo_enum (s := { s with heap := h', toks := s.toks + 1 }) ho fun h'' he' sb => ?_⟩
    have hT2 : h''.get? s.heap.objs.size = some { cls := .type "tuple", data := .seq #[.int i s.toks, v] } := (sb.2 _ (Nat.ne_of_gt el)).trans hT
    have new : ObjOk X.prog X.w (upd H s.heap.objs.size (.tup [.int (i : Nat), x])) h'' s.heap.objs.size (.tup [.int (i : Nat), x]) := ⟨by show 2 ≤ sizeLine; decide, [.int i s.toks, v], .cons ⟨_, rfl⟩ (.cons ru .nil), ⟨_, hT2, rfl, _, rfl⟩⟩
    have J : Inv X pins σ (upd H s.heap.objs.size (.tup [.int (i : Nat), x])) { s with heap := h'', toks := s.toks + 1 } := I.turnedNew (ch := [e, it]) (fun b o hb q => (sb.2 b (fun z => hb (by simp [z]))).trans (up b o (fun z => hb (by simp [z])) (fun z => hb (by simp [z])) q)) hf (Nat.le_refl _) new
    refine ⟨.ref s.heap.objs.size, _, J, rfl, ⟨_, x, rfl, I.hok.fresh (Nat.le_refl _), rfl, fun ys hy => by rw [I.tuple_inj hy q1]; exact hx⟩, ⟨⟨v, ?_⟩, u'.up fun o q => (sb.2 it (Ne.symm hne)).trans q, hne⟩, fun b hb => ?_⟩
    · rw [show ((i + 1 : Nat) : Int) = (i : Int) + 1 by omega]; exact he'
    · have hb' : b < s.heap.objs.size := by
        have e' : b = e ∨ b = it := by simpa using hb
        rcases e' with rfl | rfl
        · exact el
        · exact il
      rw [upd_ne (Nat.ne_of_lt hb')]; exact (hf b hb).1
  done := by
    rintro X rfl rfl rfl hc i pins s σ H E I hf ⟨⟨old, he⟩, u, hne⟩ ⟨xs, q1, hx⟩
    obtain ⟨its, rv, p, _⟩ := I.tuple q1
    obtain ⟨f0, f1, f2, f3, f4, f5⟩ := hf it (by simp)
    have hl := rv.length
    exact nxK_end (k := false) (I.ok.hd hc) he u p (by simp; omega) fun h' eb => ⟨rfl, I.turned (t' := s.toks) (fun b o hb q => eb b o hb q) f0 f1 f3 f4 f5⟩
  self := fun A i s Q E st h => let ⟨⟨_, he⟩, _⟩ := st; wpAny_pyIter_enum he h
def iEnumT (K : PySem.W.Frag) (ta : TA) : TI := fun σ H R => ta σ H fun vs H1 => ∃ a xs, vs = [.ref a] ∧ SqT K H1 a xs ∧ R (ItenT K a) H1
theorem pi_enumT {X : Cx} {e : Expr} {ta : TA} {p pos tpos : Pos} {elts : List Expr} {kk : Nat} (hg : Gl X "enumerate") (hm : X.mg "enumerate" = none) (ha : PA X [e] ta) (hs : starEach [e] X.env = [(false, eval e X.env)] := by rfl) : PI X (.Tuple elts kk tpos) (.Call (.Name "enumerate" p) [e] [] pos) (iEnumT X.K ta) := by
  refine ⟨fun pins s σ H R I h => Call_ (ld_blt I hg hm boot_enumerate (PyProof.Rows.callWith_type1 (thn (ha.run pos pins s σ H _ I h) fun us s1 ⟨vs, H1, I1, r1, a, xs, ex, hq, q⟩ => ?_) hs rfl))⟩
  subst ex
  cases r1 with
  | cons r rr =>
    cases rr; cases r
    obtain ⟨its, rv, p', hz⟩ := I1.tuple hq
    refine enumT_call (xs := its.toArray) p' fun h' he u up => wpAny_pyIter_enum he ?_
    have I2 : Inv X pins σ H1 { s1 with heap := h' } := I1.kept (t' := s1.toks) up
    refine ⟨s1.heap.objs.size + 1, [s1.heap.objs.size + 1, s1.heap.objs.size], _, _, H1, rfl, I2, turn_enumT a (s1.heap.objs.size + 1) s1.heap.objs.size, ⟨⟨.none, he⟩, u, Nat.succ_ne_self _⟩, fun b hb => ?_, q⟩
    have e' : b = s1.heap.objs.size + 1 ∨ b = s1.heap.objs.size := by simpa using hb
    have hle : s1.heap.objs.size ≤ b := by rcases e' with z | z <;> (rw [z]; omega)
    exact I1.fpOk hle (I1.hok.fresh hle)
/-! .. as a walk -/
def enumD (ds : List D) : List D := ds.mapIdx fun i d => .tup [.int (i : Nat), d]
def enumI (m : DM) : IM := fun ρ => match m ρ with
  | some ([d], ρ1) => match seqD d with
    | some ds => some (enumD ds, none, ρ1)
    | none => none
  | _ => none
theorem enum_item {K : PySem.W.Frag} {Fr : Frm} {F : Hp} {J : It} {vs : List V} {ds : List D} (r1 : Reps K F vs ds)
    (go : ∀ F2 H, Same F F2 → Same F2 H → ∀ i x, vs[i]? = some x → J.go i H ∧ ∀ v H', J.yld i H v H' → ∃ T, v = .ref T ∧ H T = none ∧ H' = upd H T (.tup [.int (i : Nat), x]))
    (stop : ∀ F2 H, Same F F2 → Same F2 H → ∀ i, vs.length ≤ i → J.stop i H) : IterOk K Fr F J (enumD ds) := by
  intro F2 H q f1 f2
  refine ⟨fun i d e => ?_, stop F2 H q f2 _ (by unfold enumD; rw [List.length_mapIdx, r1.length]; exact Nat.le_refl _)⟩
  unfold enumD at e
  rw [List.getElem?_mapIdx] at e
  cases e1 : ds[i]? with
  | none => rw [e1] at e; cases e
  | some d1 =>
    rw [e1] at e
    cases e
    obtain ⟨v1, g1, s1⟩ := r1.get e1
    obtain ⟨h1, h2⟩ := go F2 H q f2 i v1 g1
    refine ⟨h1, fun v H' y => ?_⟩
    obtain ⟨T, rfl, hT, rfl⟩ := h2 v H' y
    have hF : F2 T = none := f2.free hT
    refine ⟨upd F2 T (.tup [.int (i : Nat), v1]), same_new hF, same_new hT, fun Fr' ρ σ R => (R.new _ hT).1, .tup upd_same ?_⟩
    exact .cons (.int _) (.cons ((s1.mono q).mono (same_new hF)) .nil)
section
variable {X : Cx} {a : Expr} {dm : DM} {p pos : Pos}
theorem ie_enum {elts : List Expr} {kk : Nat} {tpos : Pos} (hm : X.mg "enumerate" = none) (hd : DE X [a] dm) (hg : Gl X "enumerate" := by rfl) (hs : starEach [a] X.env = [(false, eval a X.env)] := by rfl) :
    IE X (.Tuple elts kk tpos) (.Call (.Name "enumerate" p) [a] [] pos) [] (enumI dm) := by
  refine ⟨pi_imp (pi_or (pi_enum hg hm hd.pa hs) (pi_enumT hg hm hd.pa hs)) fun σ H R ⟨Fr, F, ρ, ds, lk, ρ', Rr, em, k⟩ => ?_, fun ρ ds j d ρ' em => ?_⟩
  · unfold enumI at em
    split at em
    · rename_i d r1 e1
      split at em
      · rename_i xs e2
        cases em
        have lists : (∀ {Q : List V → Hp → Prop}, (∀ F' H' vs, Same F F' → Rel X.K Fr F' ρ' σ H' → Reps X.K F' vs [d] → Q vs H') → tD X.K dm σ H Q) := fun {Q} q => ⟨Fr, F, ρ, _, _, Rr, e1, q⟩
        cases d with
        | tup ys =>
          cases e2
          refine .inr (lists fun F1 H1 vs q1 R1 rs => ?_)
          cases rs with
          | cons r rr =>
            cases rr
            cases r with
            | tup h t =>
              rename_i c ws
              refine ⟨c, ws, rfl, SqT.of (R1.f _ _ h), k Fr F1 H1 _ q1 R1 rfl (enum_item t (fun F2 H2 q f i x hx => ?_) fun F2 H2 q f i hi => ⟨ws, SqT.of (f _ _ (q _ _ h)), hi⟩)⟩
              refine ⟨⟨ws, x, SqT.of (f _ _ (q _ _ h)), hx⟩, fun v H' ⟨T, y, e3, e4, e5, e6⟩ => ⟨T, e3, e4, ?_⟩⟩
              have := e6 _ (SqT.of (f _ _ (q _ _ h)))
              rw [hx] at this; cases this
              exact e5
        | lst ys =>
          cases e2
          refine .inl (lists fun F1 H1 vs q1 R1 rs => ?_)
          cases rs with
          | cons r rr =>
            cases rr
            cases r with
            | lst h t =>
              rename_i c ws
              refine ⟨c, ws, rfl, SqL.of (R1.f _ _ h), k Fr F1 H1 _ q1 R1 rfl (enum_item t (fun F2 H2 q f i x hx => ?_) fun F2 H2 q f i hi => ⟨ws, SqL.of (f _ _ (q _ _ h)), hi⟩)⟩
              refine ⟨⟨ws, x, SqL.of (f _ _ (q _ _ h)), hx⟩, fun v H' ⟨T, y, e3, e4, e5, e6⟩ => ⟨T, e3, e4, ?_⟩⟩
              have := e6 _ (SqL.of (f _ _ (q _ _ h)))
              rw [hx] at this; cases this
              exact e5
        | rol ys =>
          cases e2
          refine .inl (lists fun F1 H1 vs q1 R1 rs => ?_)
          cases rs with
          | cons r rr =>
            cases rr
            cases r with
            | rol h t =>
              rename_i c ws
              refine ⟨c, ws, rfl, sameL R1.f h, k Fr F1 H1 _ q1 R1 rfl (enum_item t (fun F2 H2 q f i x hx => ?_) fun F2 H2 q f i hi => ⟨ws, sameL (q.trans f) h, hi⟩)⟩
              refine ⟨⟨ws, x, sameL (q.trans f) h, hx⟩, fun v H' ⟨T, y, e3, e4, e5, e6⟩ => ⟨T, e3, e4, ?_⟩⟩
              have := e6 _ (sameL (q.trans f) h)
              rw [hx] at this; cases this
              exact e5
        | _ => cases e2
      · cases em
    · cases em
  · exfalso
    unfold enumI at em
    split at em
    · split at em <;> cases em
    · cases em
end
end Ev

set_option Elab.async false
set_option linter.all false
set_option maxRecDepth 100000
/-! Ev. XA: defs that may raise an own error with one field. -/
set_option autoImplicit false
namespace Ev
open PySem PySem.Spec PyProof.Rows L2

inductive XR where
  | ok (o : Opd) (post : Rho)
  | ex (C : Addr) (f : Str) (d : D) (post : Rho)
abbrev FnX := List SV → Option XR
/-- its ends without an error -/
def fnN (fn : FnX) : Fn := fun a => match fn a with
  | some (.ok o post) => some (o, post)
  | _ => none
open Classical in
/-- its ends by an error of C with field f, as if the field's value were handed back -/
noncomputable def fnE (C : Addr) (f : Str) (fn : FnX) : Fn := fun a => match fn a with
  | some (.ex C' f' d post) => if C' = C ∧ f' = f then some (.val d, post) else none
  | _ => none
theorem fnE_self {C : Addr} {f : Str} {d : D} {post : Rho} {fn : FnX} {a : List SV} (h : fn a = some (.ex C f d post)) : fnE C f fn a = some (.val d, post) := by
  unfold fnE; rw [h]; exact if_pos ⟨rfl, rfl⟩
theorem fnE_some {C : Addr} {f : Str} {o : Opd} {post : Rho} {fn : FnX} {a : List SV} (h : fnE C f fn a = some (o, post)) : ∃ d, o = .val d ∧ fn a = some (.ex C f d post) := by
  unfold fnE at h
  split at h
  · rename_i C' f' d post' e
    split at h
    · rename_i hc
      obtain ⟨rfl, rfl⟩ := hc
      cases h
      exact ⟨d, rfl, e⟩
    · cases h
  · cases h
def spX (K : PySem.W.Frag) (fn : FnX) (np : Nat) : Sp := fun vs H Q E => spF K (fnN fn) np vs H Q E ∨
  ∃ C f, spF K (fnE C f fn) np vs H (fun v H' => ∀ dd, H' dd = some (.xd [(f, v)]) → E (.ref C) (some dd) H') E
def fnX (np nl : Nat) (io : List Nat) (body : SM) : FnX := fun args => match body (args.map some ++ List.replicate nl none) with
  | some (.rt o, ρ) => match retF np io o ρ with
    | some (o', post) => some (.ok o' post)
    | none => none
  | some (.nx, ρ) => some (.ok (.val .non) (keepIO io ρ np))
  | some (.ex C f d, ρ) => some (.ex C f d (keepIO io ρ np))
  | _ => none
theorem fnN_fnX {np nl : Nat} {io : List Nat} {body : SM} : fnN (fnX np nl io body) = fnM np nl io body := by
  funext a
  unfold fnN fnX fnM
  rcases body (a.map some ++ List.replicate nl none) with _ | ⟨o, ρ⟩
  · rfl
  cases o with
  | rt o =>
    dsimp only
    rcases retF np io o ρ with _ | ⟨o', post⟩ <;> rfl
  | _ => rfl
theorem fnX_ex {np nl : Nat} {io : List Nat} {body : SM} {a : List SV} {C : Addr} {f : Str} {d : D} {post : Rho} (h : fnX np nl io body a = some (.ex C f d post)) :
    ∃ ρ, body (a.map some ++ List.replicate nl none) = some (.ex C f d, ρ) ∧ post = keepIO io ρ np := by
  unfold fnX at h
  split at h
  · split at h <;> cases h
  · cases h
  · rename_i C' f' d' ρ e
    cases h
    exact ⟨ρ, e, rfl⟩
  · cases h
section
variable {P : Program} {w : World} {K : PySem.W.Frag} {mg : Str → Option Value} {base : Heap}
/-- a body that ends without an error -/
theorem body_read {Wx : WX} {N : List Str} {np nl : Nat} {io W : List Nat} {m : SM} {vs : List V} {H : Hp} {Q : VK} {E : XK} (hnl : np + nl = N.length) (hio : ∀ i ∈ io, i ∉ W) (h : spF K (fnM np nl io m) np vs H Q E) :
    tS K Wx W m { nx := fun _ H' => Q .non H', rt := Q } (L2.start N vs) H := by
  obtain ⟨hl, Fr, F, args, o, post, ha, R, ef, k⟩ := h
  unfold fnM at ef
  have R0 : Rel K Fr F (args.map some ++ List.replicate nl none) (L2.start N vs) H := by
    unfold L2.start
    exact R.pad (by simp [ha, hl]) _ _ (by omega)
  have gets : ∀ {σ' : St}, Keep W (L2.start N vs) σ' → ∀ i ∈ io, i < np → σ'[i]? = (vs.map some)[i]? := fun kp i hi hn => by
    rw [kp.2 i (hio i hi)]
    unfold L2.start
    rw [List.getElem?_append_left (by simpa [hl] using hn)]
  have lv : np ≤ (vs.map (some : V → Option V)).length := by simp [hl]
  split at ef
  · rename_i oo ρ1 e1
    refine ⟨Fr, F, _, _, _, R0, e1, fun F1 H1 σ1 q1 R1 k1 v r => ?_⟩
    have g := gets k1
    unfold retF at ef
    split at ef
    · rename_i d
      cases ef
      exact k F1 H1 v q1 (R1.keepIO g lv) r
    · rename_i d
      cases ef
      exact k F1 H1 v q1 (R1.keepIO g lv) (r.keepIO g)
    · rename_i i
      have r : σ1[i]? = some (some v) := r
      split at ef
      · rename_i d e2
        split at ef
        · rename_i hi
          cases ef
          obtain ⟨v', e3, a, u, ev, h1, h2, h3, h4⟩ := R1.slot i _ e2
          rw [r] at e3; cases e3
          refine k F1 H1 v q1 (R1.keepIO g lv) ⟨a, u, ev, h1, h2, h3, h4, fun j e5 e6 e7 => ?_⟩
          obtain ⟨g1, g2, g3⟩ := keepIO_get e6
          have := R1.uniq i j _ _ e2 g3 rfl rfl (by rw [r, g j g1 g2, e7])
          omega
        · cases ef
          obtain ⟨F2, q2, R2, r2⟩ := R1.escO (o := .var i) (v := v) (d := d) (ρ' := ρ1.set i (some (.val d))) r (by
            unfold escO
            simp only [e2])
          exact k F2 H1 v (q1.trans q2) (R2.keepIO g lv) r2
      · rename_i d e2
        cases ef
        obtain ⟨v', e3, h1⟩ := R1.slot i _ e2
        rw [r] at e3; cases e3
        exact k F1 H1 v q1 (R1.keepIO g lv) h1
      · cases ef
  · rename_i ρ1 e1
    cases ef
    exact ⟨Fr, F, _, _, _, R0, e1, fun F1 H1 σ1 q1 R1 k1 => k F1 H1 .non q1 (R1.keepIO (gets k1) lv) .non⟩
  · cases ef
/-- THE RULE for a def that may raise -/
theorem fn_okX {x qual : Str} {st : Stmt} {f : Addr} {fd : FuncData} {N ps : List Str} {k np nl : Nat} {io : List Nat} {m : SM} (Fu : Fun K x qual st f fd) (S : FnScope N ps (defScope st)) (hnp : ps.length = np) (hnl : np + nl = N.length)
    (hbody : ∀ (cdv : Value) (A : Around) (outer : List PySem.Env) (s : Shared) (H : Hp) (E : XK), Room k (A.deeper (envOfC qual (defScope st) s.heap.objs.size f cdv)) →
      ∃ W, (∀ i ∈ io, i ∉ W) ∧ SsE (cxOf (L2.CX P w) P w K mg base N qual (defScope st) f cdv A outer s H E) (fun cls d _ H' => E cls d H') (defBody st) W m) : FnOk P w K mg base (L2.CX P w) (k + 1) f fd ps (spX K (fnX np nl io m) np) := by
  refine Fu.okX S (fun vs H Q E h => ?_) (fun cdv A outer s H vs Q E hr h => ?_)
  · rcases h with h | ⟨C, g, h⟩
    · exact h.1.trans hnp.symm
    · exact h.1.trans hnp.symm
  obtain ⟨W, hio, hb⟩ := hbody cdv A outer s H E hr
  refine ⟨_, hb.pss, ?_⟩
  rcases h with h | ⟨C, g, h⟩
  · rw [fnN_fnX] at h
    exact body_read hnl hio h
  · obtain ⟨hl, Fr, F, args, o, post, ha, R, ef, k⟩ := h
    obtain ⟨d, rfl, ef2⟩ := fnE_some ef
    obtain ⟨ρ1, e1, rfl⟩ := fnX_ex ef2
    have R0 : Rel K Fr F (args.map some ++ List.replicate nl none) (L2.start N vs) H := by
      unfold L2.start
      exact R.pad (by simp [ha, hl]) _ _ (by omega)
    have lv : np ≤ (vs.map (some : V → Option V)).length := by simp [hl]
    refine ⟨Fr, F, _, _, _, R0, e1, fun F1 H1 σ1 q1 R1 k1 dd v hd rv => ?_⟩
    have gets : ∀ i ∈ io, i < np → σ1[i]? = (vs.map some)[i]? := fun i hi hn => by
      rw [k1.2 i (hio i hi)]
      unfold L2.start
      rw [List.getElem?_append_left (by simpa [hl] using hn)]
    exact k F1 H1 v q1 (R1.keepIO gets lv) rv dd hd
end

/-! a call that may raise -/
inductive XO where
  | ok (o : Opd)
  | ex (C : Addr) (f : Str) (d : D)
abbrev XM := Rho → Option (XO × Rho)
def callX (fn : FnX) (io : List Nat) (am : AM) : XM := fun ρ => match am ρ with
  | some (os, ρ1) => if exclOk io os then match argsAll io ρ1 0 os with
    | some svs => match fn svs with
      | some (.ok (.val d) post) => match putBack io post 0 os ρ1 with
        | some ρ2 => some (.ok (.val d), ρ2)
        | none => none
      | some (.ok (.tmp d) post) => match putBack io post 0 os ρ1 with
        | some ρ2 => some (.ok (.tmp d), ρ2)
        | none => none
      | some (.ex C f d post) => match putBack io post 0 os ρ1 with
        | some ρ2 => some (.ex C f d, ρ2)
        | none => none
      | _ => none
    | none => none else none
  | none => none
/-- what a reading of a part that may raise tells -/
def tX (K : PySem.W.Frag) (Wx : WX) (m : XM) : TE := fun σ H Q => ∃ Fr F ρ xo ρ', Rel K Fr F ρ σ H ∧ m ρ = some (xo, ρ') ∧ match xo with
  | .ok o => ∀ F' H' v, Same F F' → Rel K Fr F' ρ' σ H' → ORel K Fr F' ρ' σ H' v o → Q v H'
  | .ex C f d => ∀ F' H' dd v, Same F F' → Rel K Fr F' ρ' σ H' → H' dd = some (.xd [(f, v)]) → Rep K F' v d → Wx (.ref C) (some dd) σ H'
structure OX (X : Cx) (Wx : WX) (e : Expr) (m : XM) : Prop where
  pe : PE X e (tX X.K Wx m)
section
variable {X : Cx} {Wx : WX} {e : Expr} {es : List Expr} {am : AM} {fn : FnX} {io : List Nat} {np k : Nat} {pos : Pos} {m : XM}
theorem callX_read {σ : St} {H : Hp} {Q : VK} (h : tX X.K Wx (callX fn io am) σ H Q) (hn : ∀ ρ os ρ', am ρ = some (os, ρ') → os.length = np) : tCallS (spX X.K fn np) (WE Wx) (tA X.K am) σ H Q := by
  obtain ⟨Fr, F, ρ, xo, ρ', R, em, kk⟩ := h
  unfold callX at em
  split at em
  · rename_i os ρ1 e1
    split at em
    · rename_i hx
      split at em
      · rename_i svs e2
        have main : ∀ (o : Opd) (post : Rho), fn svs = some (.ok o post) → (∀ i, o ≠ .var i) → putBack io post 0 os ρ1 = some ρ' → (∀ F' H' v, Same F F' → Rel X.K Fr F' ρ' σ H' → ORel X.K Fr F' ρ' σ H' v o → Q v H') →
            tCallS (spX X.K fn np) (WE Wx) (tA X.K am) σ H Q := fun o post e3 hvar e4 kk => by
          refine ⟨Fr, F, ρ, os, ρ1, R, e1, fun F1 H1 vs q1 R1 rs => .inl ?_⟩
          have e3' : fnN fn svs = some (o, post) := by unfold fnN; rw [e3]
          exact call_core R1 rs (hn _ _ _ e1) hx e2 e3' hvar e4 fun F2 H2 v q2 R4 r => kk F2 H2 v (q1.trans q2) R4 r
        split at em
        · rename_i d post e3
          split at em
          · rename_i ρ2 e4
            cases em
            exact main _ post e3 (fun i z => nomatch z) e4 kk
          · cases em
        · rename_i d post e3
          split at em
          · rename_i ρ2 e4
            cases em
            exact main _ post e3 (fun i z => nomatch z) e4 kk
          · cases em
        · rename_i C f d post e3
          split at em
          · rename_i ρ2 e4
            cases em
            refine ⟨Fr, F, ρ, os, ρ1, R, e1, fun F1 H1 vs q1 R1 rs => .inr ⟨C, f, ?_⟩⟩
            exact call_core R1 rs (hn _ _ _ e1) hx e2 (fnE_self e3) (fun i z => nomatch z) e4 fun F2 H2 v q2 R4 r dd hd => kk F2 H2 dd v (q1.trans q2) R4 hd r
          · cases em
        · cases em
      · cases em
    · cases em
  · cases em
/-- a def that may raise -/
structure CalleeX (P : Program) (w : World) (K : PySem.W.Frag) (mg : Str → Option Value) (base : Heap) (k : Nat) (x : Str) (np : Nat) (fn : FnX) : Prop where
  ex : ∃ f fd ps, FnOk P w K mg base (L2.CX P w) k f fd ps (spX K fn np) ∧ mg x = some (.ref f) ∧ PySem.W.keepIn K (.ref f) = true ∧ Binds K fd ps []
theorem ox_call {x : Str} {p : Pos} (c : CalleeX X.prog X.w X.K X.mg X.base k x np fn) (hr : Room k X.A) (tk : Takes X Wx) (ha : AE X (e :: es) am) (hn : ∀ ρ os ρ', am ρ = some (os, ρ') → os.length = np) (hg : Gl X x := by rfl) (hdb : (x == ("__debug__" : Str)) = false := by decide)
    (he : starEach (e :: es) X.env = (false, eval e X.env) :: starEach es X.env := by rfl) (hpl : (backTo pos (starEach es X.env)).any (·.1) = false := by rfl) : OX X Wx (.Call (.Name x p) (e :: es) [] pos) (callX fn io am) := by
  obtain ⟨f, fd, ps, F, hm, hk, hb⟩ := c.ex
  exact ⟨pe_imp (pe_callS F hr hg hm hk hb (fun σ => passAt tk σ) ha.pa hdb he hpl) fun σ H Q h => callX_read h hn⟩
def exprX (m : XM) : SM := fun ρ => match m ρ with
  | some (.ok _, ρ') => some (.nx, ρ')
  | some (.ex C f d, ρ') => some (.ex C f d, ρ')
  | none => none
theorem se_exprX (h : OX X Wx e m) (hs : swapsWith e none pos.line X.env = pure false := by rfl) : SE X Wx (.Expr e pos) [] (exprX m) := by
  refine ⟨ps_imp (ps_expr h.pe hs) fun Dn σ H ⟨Fr, F, ρ, out, ρ', R, em, k⟩ => ?_⟩
  unfold exprX at em
  split at em
  · rename_i o ρ1 e1
    cases em
    exact ⟨Fr, F, ρ, _, _, R, e1, fun F1 H1 v q1 R1 _ => k F1 H1 σ q1 R1 (.refl _ _)⟩
  · rename_i C f d ρ1 e1
    cases em
    exact ⟨Fr, F, ρ, _, _, R, e1, fun F1 H1 dd v q1 R1 hd rv => k F1 H1 σ q1 R1 (.refl _ _) dd v hd rv⟩
  · cases em
def retX (m : XM) : SM := fun ρ => match m ρ with
  | some (.ok o, ρ') => some (.rt o, ρ')
  | some (.ex C f d, ρ') => some (.ex C f d, ρ')
  | none => none
theorem se_retX (h : OX X Wx e m) : SE X Wx (.Return (some e) pos) [] (retX m) := by
  refine ⟨ps_imp (ps_ret h.pe) fun Dn σ H ⟨Fr, F, ρ, out, ρ', R, em, k⟩ => ?_⟩
  unfold retX at em
  split at em
  · rename_i o ρ1 e1
    cases em
    exact ⟨Fr, F, ρ, _, _, R, e1, fun F1 H1 v q1 R1 r => k F1 H1 σ q1 R1 (.refl _ _) v r⟩
  · rename_i C f d ρ1 e1
    cases em
    exact ⟨Fr, F, ρ, _, _, R, e1, fun F1 H1 dd v q1 R1 hd rv => k F1 H1 σ q1 R1 (.refl _ _) dd v hd rv⟩
  · cases em
end
end Ev

set_option Elab.async false
set_option linter.all false
set_option maxRecDepth 100000
/-! Ev. XB: try: .. except X as e: return .. -/
set_option autoImplicit false
namespace Ev
open PySem PySem.Spec PyProof.Rows L2
/-- what an except suite's expression tells: a the error, d its dict, in slot i -/
def tH (K : PySem.W.Frag) (a d : Addr) (f : Str) (i : Nat) (hm : D → EM) : TE := fun σ H Q => ∃ Fr F ρ v dv o ρ', Rel K Fr F ρ σ H ∧ σ[i]? = some (some (.ref a)) ∧ H d = some (.xd [(f, v)]) ∧ Rep K F v dv ∧ hm dv ρ = some (o, ρ') ∧
  ∀ F' H' w, Same F F' → Rel K Fr F' ρ' σ H' → ORel K Fr F' ρ' σ H' w o → Q w H'
structure HE (X : Cx) (i : Nat) (C : Addr) (f : Str) (e : Expr) (hm : D → EM) : Prop where
  pe : ∀ (a : Addr) (oe : Obj) (d : Addr) (pn : List (Addr × Obj)), Zc (.ref C) (some d) oe → (∃ vs, oe.data = .fields vs) → PE (X.suite a ((a, oe) :: pn)) e (tH X.K a d f i hm)
theorem Rel.blank {K : PySem.W.Frag} {Fr : Frm} {F H : Hp} {ρ : Rho} {σ : St} {i : Nat} {x : Option V} (R : Rel K Fr F ρ σ H) : Rel K Fr F (ρ.set i none) (σ.set i x) H := by
  have up : ∀ {j : Nat} {sv : SV}, (ρ.set i none)[j]? = some (some sv) → j ≠ i ∧ ρ[j]? = some (some sv) := fun {j sv} e => by
    rw [List.getElem?_set] at e
    split at e
    · split at e <;> cases e
    · rename_i ne
      exact ⟨fun z => ne z.symm, e⟩
  have gs : ∀ {j : Nat}, j ≠ i → (σ.set i x)[j]? = σ[j]? := fun {j} h => List.getElem?_set_ne (fun e => h e.symm)
  refine ⟨R.fr, R.f, R.dj, fun j sv e => ?_, fun j l s t e1 e2 x1 x2 e3 => ?_, by simpa using R.len⟩
  · obtain ⟨h1, h2⟩ := up e
    rw [gs h1]; exact R.slot j sv h2
  · obtain ⟨h1, h2⟩ := up e1
    obtain ⟨g1, g2⟩ := up e2
    rw [gs h1, gs g1] at e3
    exact R.uniq j l s t h2 g2 x1 x2 e3
open Classical in
noncomputable def tryM (s : SM) (C : Addr) (f : Str) (i : Nat) (hm : D → EM) : SM := fun ρ => match s ρ with
  | some (.ex C' f' d, ρ1) => if C' = C ∧ f' = f ∧ i < ρ1.length then match hm d (ρ1.set i none) with
    | some (o, ρ2) => some (.rt o, ρ2)
    | none => none else none
  | r => r
section
variable {X : Cx} {Wx : WX} {pos : Pos}
theorem se_tryX {x n : Str} {C : Addr} {f : Str} {i : Nat} {body : List Stmt} {e : Expr} {W : List Nat} {s1 : SM} {hm : D → EM} {np rp pos' : Pos} (hm' : X.mg x = some (.ref C)) (hex : PySem.W.exmOne X.K (.ref C) (.ref C) = some true) (hN : X.N.Nodup)
    (hb : ∀ (Wx' : WX) (pn : List (Addr × Obj)) (xe : Value → Shared → Prop), Takes (X.tr pn xe) Wx' → PassesOwn (model X.prog X.w) X.A X.env xe → SsE (X.tr pn xe) Wx' body W s1) (he : HE X i C f e hm)
    (hs : X.stack = X.env :: X.outer := by rfl) (hf : X.env.frame = some X.env.locals := by rfl) (hi : X.N[i]? = some n := by rfl) (hln : X.env.kindOf n = some .local := by rfl) (hg : Gl X x := by rfl) (hdb : (x == ("__debug__" : Str)) = false := by decide) :
    SE X Wx (.Try body [.ExceptHandler (some (.Name x np)) (some n) [.Return (some e) rp] pos'] [] [] pos) (i :: W) (tryM s1 C f i hm) := by
  refine ⟨ps_imp (ps_try_as (i := i) (tb := fun W' => tS X.K W' W s1) (ts := fun a cls d D σ H => cls = .ref C ∧ ∃ dd, d = some dd ∧ tH X.K a dd f i hm σ H D.rt) hs hf hN hi hln ⟨hg, hdb, .inl hm'⟩ takes0 (fun W' pn xe tk po => (hb W' pn xe tk po).pss) (fun a oe cls d pn hz hv => ?_)) fun Dn σ H ⟨Fr, F, ρ, out, ρ', R, em, k⟩ => ?_⟩
  · refine ⟨fun pins s σ H D I h => ?_⟩
    obtain ⟨rfl, dd, rfl, h⟩ := h
    exact (pss_one (ps_ret (he.pe a oe dd pn hz hv))).run pins s σ H D I h
  · unfold tryM at em
    split at em
    · rename_i C' f' d ρ1 e1
      split at em
      · rename_i hc
        obtain ⟨rfl, rfl, hil⟩ := hc
        split at em
        · rename_i o ρ2 e2
          cases em
          refine ⟨Fr, F, ρ, _, ρ1, R, e1, fun F1 H1 σ1 q1 R1 k1 dd v hd rv => ⟨true, hex, fun _ a ha => ⟨rfl, dd, rfl, Fr, F1, ρ1.set i none, v, d, o, _, R1.blank, ?_, hd, rv, e2, fun F2 H2 w q2 R2 r => ?_⟩, fun z => nomatch z⟩⟩
          · have hl : i < σ1.length := Nat.lt_of_lt_of_le hil R1.len
            rw [List.getElem?_set_self hl]
          · exact k F2 H2 (σ1.set i (some (.ref a))) (q1.trans q2) R2 ((k1.trans Keep.set).mono fun j hj => by
              rcases List.mem_append.1 hj with h | h
              · exact List.mem_cons_of_mem _ h
              · rw [List.mem_singleton.1 h]; exact List.mem_cons_self) w r
        · cases em
      · cases em
    · rename_i hne
      refine ⟨Fr, F, ρ, out, ρ', R, em, fun F1 H1 σ1 q1 R1 k1 => ?_⟩
      have z := k F1 H1 σ1 q1 R1 (k1.mono fun j hj => List.mem_cons_of_mem _ hj)
      cases out with
      | nx => exact z
      | bk => exact z
      | ct => exact z
      | rt o => exact z
      | ex C' f' d => exact absurd em (hne _ _ _ _)
/-! the suite's expression -/
theorem he_fld {C : Addr} {f n : Str} {i : Nat} {p : Pos} (T : XfC X.K C) (hno : PySem.W.findIn X.K (.ref C) f = some none) (hN : X.N[i]? = some n := by rfl) (hv : Vis X.env.scope n := by first | exact Or.inl rfl | exact Or.inr (Or.inl rfl) | exact Or.inr (Or.inr rfl)) (hd : (n == ("__debug__" : Str)) = false := by decide)
    (hcd : (n == ("__classdict__" : Str)) = false := by decide) (hb : ∀ e : Sem Value, attributeBase (.Name n p) f X.env (eval (.Name n p) X.env) = eval (.Name n p) X.env := by intro _; rfl) : HE X i C f (.Attribute (.Name n p) f pos) (fun dv => constM dv) := by
  refine ⟨fun a oe d pn hz hf => ?_⟩
  have hp : PE (X.suite a ((a, oe) :: pn)) (.Name n p) (tVar i) := pe_var hN hv hd hcd
  refine pe_imp (pe_xf T hno hz hf hp (hb (pure .none))) fun σ H Q ⟨Fr, F, ρ, v, dv, o, ρ', R, hi, hd, rv, em, k⟩ => ?_
  cases em
  exact ⟨_, hi, rfl, rfl, d, _, v, rfl, hd, by simp [List.lookup], k F H v (Same.refl F) R rv⟩
theorem he_cmp {C : Addr} {f n : Str} {i : Nat} {p : Pos} {b : Expr} {mb : EM} {op : CmpOp} {r : R2} {g : D → D → Option Opd} (T : XfC X.K C) (hno : PySem.W.findIn X.K (.ref C) f = some none) (ho : ∀ a pn, OpR (X.suite a pn) (compareOp op) r) (hs : ∀ a pn, OpS (X.suite a pn) r g)
    (hb' : ∀ a pn, OE (X.suite a pn) b mb) (hm : behindInMarks op b = false) (hN : X.N[i]? = some n := by rfl) (hv : Vis X.env.scope n := by first | exact Or.inl rfl | exact Or.inr (Or.inl rfl) | exact Or.inr (Or.inr rfl)) (hd : (n == ("__debug__" : Str)) = false := by decide)
    (hcd : (n == ("__classdict__" : Str)) = false := by decide) (hb : ∀ e : Sem Value, attributeBase (.Name n p) f X.env (eval (.Name n p) X.env) = eval (.Name n p) X.env := by intro _; rfl) {pos2 : Pos} : HE X i C f (.Compare (.Attribute (.Name n p) f pos) [op] [b] pos2) (fun dv => binM g (constM dv) mb) := by
  refine ⟨fun a oe d pn hz hf => ?_⟩
  have hp : PE (X.suite a ((a, oe) :: pn)) (.Name n p) (tVar i) := pe_var hN hv hd hcd
  refine pe_imp (pe_cmpR (ho _ _) (pe_xf T hno hz hf hp (hb (pure .none))) (hb' _ _).ne.pe hm) fun σ H Q ⟨Fr, F, ρ, v, dv, o, ρ', R, hi, hd, rv, em, k⟩ => ?_
  obtain ⟨oa, ρ1, ob, d1, d2, e1, e2, e3, e4, e5⟩ := binM_some em
  cases e1
  cases e3
  refine ⟨_, hi, rfl, rfl, d, _, v, rfl, hd, by simp [List.lookup], Fr, F, ρ, ob, _, R, e2, fun F2 H2 y s2 R2 q2 => ?_⟩
  exact hs _ _ R2 (.inl (rv.mono s2)) (q2.look R2 e4) e5 fun F3 H3 w s3 R3 q3 => k F3 H3 w (s2.trans s3) R3 q3
end
end Ev

set_option Elab.async false
set_option linter.all false
set_option maxRecDepth 100000
/-! Ev. XC: own errors over PricedError with one field; raise. -/
set_option autoImplicit false
namespace Ev
open PySem PySem.Spec PyProof.Rows L2
/-- the base class of the own errors, in the text: no __init__ of its own -/
structure ExcBase (K : PySem.W.Frag) (mg : Str → Option Value) (CP : Addr) (mc : Value) : Prop where
  hm : mg "PricedError" = some (.ref CP)
  rd : ClX.CRead K CP mc
  at_ : PySem.W.findCls K (.ref CP) mc "__init__" = some (.val (.builtin "ValueError.__init__"))
theorem pe_cinit {X : Cx} {e : Expr} {es : List Expr} {ta : TA} {p1 p2 pos : Pos} {CP : Addr} {mc : Value} {pl : Sem Bool} (pb : ExcBase X.K X.mg CP mc) (ha : PA X (e :: es) ta) (hg : Gl X "PricedError" := by rfl)
    (hc : eval (.Call (.Attribute (.Name "PricedError" p1) "__init__" p2) (e :: es) [] pos) X.env = (do
      let ov ← eval (.Name "PricedError" p1) X.env
      standAt p2.atName
      let (f, first) ← holding [ov] (getMethod ov "__init__" pl)
      callWith pos f first (backTo pos (starEach (e :: es) X.env)) (backToKw pos (keywordEach [] X.env))) := by rfl)
    (he : starEach (e :: es) X.env = (false, eval e X.env) :: starEach es X.env := by rfl) (hpl : (backTo pos (starEach es X.env)).any (·.1) = false := by rfl) :
    PE X (.Call (.Attribute (.Name "PricedError" p1) "__init__" p2) (e :: es) [] pos) (tVeI X.K ta) := by
  refine ⟨fun pins s σ H Q I h => ?_⟩
  refine PySem.W.methodCall_KW (ld_glob I hg pb.hm ?_) hc
  refine PySem.W.method_cls I.kIn pb.rd.ga (PySem.W.cls_value I.kIn pb.rd.rd pb.at_ (by decide +kernel) ?_)
  show wpAny _ _ (callWith pos (Value.builtin "ValueError.__init__") [] (backTo pos (starEach (e :: es) X.env)) []) _ _ _
  refine PyProof.Rows.callWith_method1 (thn (ha.run pos pins _ σ H _ (I.tok _) h) fun us s1 ⟨vs, H1, I1, r1, a, C, ws, ev, hl, T, ea, q⟩ => ?_) he hpl
  subst ev
  cases r1 with
  | @cons _ u0 _ ur ra rw' =>
    obtain rfl : u0 = Value.ref a := ra
    have hlen : ur.length ≤ sizeLine := by
      rw [← Paired.length rw', sizeLine_eq]
      omega
    exact oinit_ok T I1 ea hlen fun s' J => ⟨.non, H1, J, rfl, q⟩
/-- what the field is given: anything, or a short text -/
def okV (so : Bool) (v : V) : Prop := so = true → ∃ z : Str, v = .str z ∧ z.length ≤ 1000
def spInit (C : Addr) (f : Str) (so : Bool) : Sp := fun vs H Q _ => ∃ a v, vs = [.ref a, v] ∧ okV so v ∧ H a = some (exo a C none) ∧ ∀ dx, H dx = none → dx ≠ a → Q .non (upd (upd H dx (exd dx [(f, v)])) a (exo a C (some dx)))
def tInit (K : PySem.W.Frag) (f : Str) (te2 : TE) : TS := tSeq (tDrop (tVeI K (tCons (tVar 0) (tCons te2 tNil)))) (tOst K f (tVar 0) (tVar 1))
section
variable {P : Program} {w : World} {K : PySem.W.Frag} {mg : Str → Option Value} {base : Heap}
theorem exc_fn {qual par f : Str} {st : Stmt} {fI C : Addr} {fd : FuncData} {so : Bool} {te2 : TE} (Fu : Fun K "__init__" qual st fI fd) (S : FnScope ["self", par] ["self", par] (defScope st)) (T : OexC K C) (hno : PySem.W.findIn K (.ref C) f = some none)
    (hps : ∀ (cdv : Value) (A : Around) (outer : List PySem.Env) (s : Shared) (H : Hp) (E : XK), PSs (cxOf CX0 P w K mg base ["self", par] qual (defScope st) fI cdv A outer s H E).nox (defBody st) (tInit K f te2))
    (h2 : ∀ (v : V) (σ : St) (H : Hp) (Q : VK), okV so v → σ[1]? = some (some v) → (∀ x, Q x H) → te2 σ H Q) : FnOk P w K mg base CX0 1 fI fd ["self", par] (spInit C f so) := by
  refine Fu.ok (k := 0) S (fun vs H Q E h => ?_) (fun cdv A outer s H vs Q E hr h => ⟨_, hps cdv A outer s H E, ?_⟩)
  · obtain ⟨a, v, rfl, _⟩ := h; rfl
  · obtain ⟨a, v, rfl, hv, ha, q⟩ := h
    refine ⟨.ref a, rfl, h2 v _ H _ hv rfl fun x => ⟨a, C, [x], rfl, by simp, T, ha, ?_⟩⟩
    refine ⟨v, rfl, .ref a, rfl, a, C, rfl, T, hno, .inl ⟨ha, fun dx hdx hne => ?_⟩⟩
    exact q dx hdx hne
theorem te_any {t : Str} : ∀ (v : V) (σ : St) (H : Hp) (Q : VK), okV false v → σ[1]? = some (some v) → (∀ x, Q x H) → tC (.str t) σ H Q := fun v σ H Q _ _ q => q _
def rAddT : R2 := fun x y H Q => ∃ i j : Str, x = V.str i ∧ y = V.str j ∧ i.length + j.length ≤ sizeLine ∧ Q (V.str (i ++ j)) H
theorem te_text {t : Str} (ht : t.length ≤ 1000) : ∀ (v : V) (σ : St) (H : Hp) (Q : VK), okV true v → σ[1]? = some (some v) → (∀ x, Q x H) → tOp rAddT (tC (.str t)) (tVar 1) σ H Q := fun v σ H Q hv hs q => by
  obtain ⟨z, rfl, hz⟩ := hv rfl
  refine ⟨_, hs, t, z, rfl, rfl, ?_, q _⟩
  rw [sizeLine_eq]; omega
/-- an own error's class -/
structure ExcOf (P : Program) (w : World) (K : PySem.W.Frag) (mg : Str → Option Value) (base : Heap) (x : Str) (C : Addr) (f : Str) (so : Bool) : Prop where
  ex : ∃ fI fd ps, OexC K C ∧ PySem.W.findIn K (.ref C) "__init__" = some (some (.ref fI)) ∧ PySem.W.typeIn K (.ref fI) = some (.type "function") ∧ FnOk P w K mg base CX0 1 fI fd ps (spInit C f so) ∧ mg x = some (.ref C) ∧ Binds K fd ps []
end
def okD (so : Bool) (d : D) : Bool := !so || match d with
  | .str z => decide (z.length ≤ 1000)
  | _ => false
theorem okD_V {K : PySem.W.Frag} {F : Hp} {v : V} {d : D} {so : Bool} (h : okD so d = true) (r : Rep K F v d) : okV so v := fun hs => by
  subst hs
  unfold okD at h
  cases d with
  | str z => cases r; exact ⟨z, rfl, by simpa using h⟩
  | _ => cases h
def raiseM (C : Addr) (f : Str) (so : Bool) (m : EM) : SM := fun ρ => match esc m ρ with
  | some (d, ρ') => if okD so d = true then some (.ex C f d, ρ') else none
  | none => none
section
variable {X : Cx} {Wx : WX} {e : Expr} {m : EM} {p pos pos2 : Pos}
theorem heap_raise {H1 : Hp} {a dx : Addr} {o1 o2 o3 o4 : HO} (ha : H1 a = none) (hne : dx ≠ a) : upd (del (upd (upd (upd H1 a o1) dx o2) a o3) a) dx o4 = upd H1 dx o4 := by
  funext b
  by_cases hb : b = dx
  · subst hb; rw [upd_same, upd_same]
  · rw [upd_ne hb, upd_ne hb]
    by_cases hba : b = a
    · subst hba; rw [del_same, ha]
    · rw [del_ne hba, upd_ne hba, upd_ne hb, upd_ne hba]
theorem se_raise {x f : Str} {C : Addr} {so : Bool} (c : ExcOf X.prog X.w X.K X.mg X.base x C f so) (hr : Room 2 X.A) (tk : Takes X Wx) (h : OE X e m) (hc : X.calm = true := by rfl) (hg : Gl X x := by rfl) (hdb : (x == ("__debug__" : Str)) = false := by decide)
    (he : starEach [e] X.env = (false, eval e X.env) :: starEach [] X.env := by rfl) (hpl : (backTo pos (starEach [] X.env)).any (·.1) = false := by rfl) : SE X Wx (.Raise (some (.Call (.Name x p) [e] [] pos)) none pos2) [] (raiseM C f so m) := by
  obtain ⟨fI, fd, ps, T, iC, tI, F1, hm, hb⟩ := c.ex
  refine ⟨ps_imp (ps_raise hc tk (pmk_oex T iC tI F1 hr hb .nil pass0 hg hm (pa_cons h.ve.pe pa_nil he) hdb he hpl)) fun Dn σ H ⟨Fr, F, ρ, out, ρ', R, em, k⟩ => ?_⟩
  unfold raiseM at em
  split at em
  · rename_i d ρ1 e1
    split at em
    · rename_i hd
      cases em
      refine ⟨Fr, F, ρ, d, _, R, e1, fun F1 H1 v q1 R1 rv => ⟨by simp, fun a ha => ⟨a, v, by simp, okD_V hd rv, upd_same, fun dx hdx hne => ⟨rfl, dx, [(f, v)], upd_same, by rw [upd_ne hne, upd_same], by rw [upd_ne hne] at hdx; exact hdx, ?_⟩⟩⟩⟩
      have hdx' : H1 dx = none := by rw [upd_ne hne] at hdx; exact hdx
      rw [heap_raise ha hne]
      have S1 : Same H1 (upd H1 dx (.xd [(f, v)])) := same_new hdx'
      exact k F1 _ σ q1 (R1.grow (Same.refl F1) S1 (R1.f.trans S1) R1.dj (fun b z1 z2 => absurd z2 z1)) (.refl _ _) dx v upd_same rv
    · cases em
  · cases em
end
end Ev

set_option Elab.async false
set_option linter.all false
set_option maxRecDepth 100000
/-! Ev. XD: instances made and methods called that may raise. -/
set_option autoImplicit false
namespace Ev
open PySem PySem.Spec PyProof.Rows L2
section
variable {X : Cx} {CX : CXT} {k : Nat} {f C : Addr} {fd : FuncData} {ps : List Str} {sp : Sp} {E : St → XK} {x m : Str} {p pos apos : Pos} {e o : Expr} {es : List Expr} {te ta : TE} {t : TA}
theorem run_makeS {ds : List Value} {dvs : List V} {pins : List (Addr × Obj)} {σ : St} {H : Hp} {s : Shared} {Q : VK} {us : List Value} {vs : List V} (M : Mk X.K C f) (F : FnOk X.prog X.w X.K X.mg X.base CX k f fd ps sp) (hr : Room (k + 1) X.A) (hb : Binds X.K fd ps ds) (hd : Vals dvs ds)
    (hx : PassesAt CX X σ (E σ)) (I : Inv X pins σ H s) (r : Vals vs us)
    (h : ∀ x dx, H x = none → H dx = none → dx ≠ x → sp (.ref x :: (vs ++ dvs)) (upd (upd H dx (.own x)) x (.ins C dx [])) (fun v H2 => v = .non ∧ Q (.ref x) H2) (E σ)) :
    wpAny (model X.prog X.w) X.A (call (.ref C) us) (EP X pins σ Q) X.xe s := by
  have hq := h (s.heap.objs.size + 1) s.heap.objs.size (I.hok.fresh (Nat.le_succ _)) (I.hok.fresh (Nat.le_refl _)) (Nat.ne_of_lt (Nat.lt_succ_self _))
  have I2 := Inv.made (C := C) I
  have r2 : Vals (V.ref (s.heap.objs.size + 1) :: (vs ++ dvs)) (Value.ref (s.heap.objs.size + 1) :: (us ++ ds)) := .cons rfl (r.append hd)
  have hl : (Value.ref (s.heap.objs.size + 1) :: us ++ ds).length = ps.length := by
    have e := r2.length
    rw [F.len _ _ _ _ hq] at e
    exact e.symm
  refine wpAny_call (make_map (f := f) I.kIn M.makes M.init (beq_iff_eq.mp M.fn) (codeAny_mono (F.run _ X.stack _ _ ⟨Value.ref (s.heap.objs.size + 1) :: us, []⟩ (Value.ref (s.heap.objs.size + 1) :: (us ++ ds)) _ _ (E σ) (hr.make C us [])
    (I2.env0.make C us []) (hb _ (Value.ref (s.heap.objs.size + 1) :: us) I2.kIn hl) r2 hq) fun r s' hq' => ?_))
  cases r with
  | error e => exact hx pins _ _ e s' I2 hq'
  | ok fl =>
    cases fl with
    | ret u =>
      obtain ⟨v, H', I3, rv, ev, q3⟩ := I2.after hq'
      subst ev
      exact ⟨rv, ⟨V.ref (s.heap.objs.size + 1), H', I3, rfl, q3⟩⟩
    | next => exact False.elim hq'
    | brk => exact False.elim hq'
    | cont => exact False.elim hq'
def tMakeS (C : Addr) (sp : Sp) (E : St → XK) (t : TA) : TE := fun σ H Q => t σ H fun vs H1 => ∀ x dx, H1 x = none → H1 dx = none → dx ≠ x → sp (.ref x :: vs) (upd (upd H1 dx (.own x)) x (.ins C dx [])) (fun v H2 => v = .non ∧ Q (.ref x) H2) (E σ)
theorem pe_makeS (M : Mk X.K C f) (F : FnOk X.prog X.w X.K X.mg X.base CX k f fd ps sp) (hr : Room (k + 1) X.A) (hg : Gl X x) (hm : X.mg x = some (.ref C)) (hb : Binds X.K fd ps []) (hx : ∀ σ, PassesAt CX X σ (E σ))
    (ha : PA X (e :: es) t) (hdb : (x == ("__debug__" : Str)) = false := by decide) (he : starEach (e :: es) X.env = (false, eval e X.env) :: starEach es X.env := by rfl) (hpl : (backTo pos (starEach es X.env)).any (·.1) = false := by rfl) :
    PE X (.Call (.Name x p) (e :: es) [] pos) (tMakeS C sp E t) := by
  refine ⟨fun pins s σ H Q I h => ?_⟩
  refine wpAny_Call_Name_kw (ld_glob I hg hm ?_ hdb)
  refine PySem.W.callWith_K (h₀ := X.base) I.ok.mod.kin M.kp (thn (ha.run pos pins s σ H _ I h) fun us s1 ⟨vs, H1, I1, r, q⟩ => ⟨I1.kIn, ?_⟩) he hpl
  exact run_makeS M F hr hb .nil (hx σ) I1 r fun x dx z1 z2 z3 => by rw [List.append_nil]; exact q x dx z1 z2 z3
def tMethS (C : Addr) (m : Str) (sp : Sp) (E : St → XK) (ta : TE) (t : TA) : TE := fun σ H Q => ta σ H fun x H1 => ∃ a dx fs, x = .ref a ∧ H1 a = some (.ins C dx fs) ∧ fs.lookup m = none ∧ t σ H1 fun vs H2 => sp (x :: vs) H2 Q (E σ)
theorem pe_methS {pl : Sem Bool} (he : PE X o ta) (c : Cls X.K C) (hm : Meth X.K C m f) (F : FnOk X.prog X.w X.K X.mg X.base CX k f fd ps sp) (hr : Room k X.A) (hb : Binds X.K fd ps []) (hx : ∀ σ, PassesAt CX X σ (E σ)) (ha : PA X (e :: es) t)
    (hst : starEach (e :: es) X.env = (false, eval e X.env) :: starEach es X.env := by rfl) (hpl : (backTo pos (starEach es X.env)).any (·.1) = false := by rfl)
    (ht : eval (.Call (.Attribute o m apos) (e :: es) [] pos) X.env = (do
      let ov ← eval o X.env
      standAt apos.atName
      let (f, first) ← holding [ov] (getMethod ov m pl)
      callWith pos f first (backTo pos (starEach (e :: es) X.env)) (backToKw pos (keywordEach [] X.env))) := by rfl) :
    PE X (.Call (.Attribute o m apos) (e :: es) [] pos) (tMethS C m sp E ta t) := by
  refine ⟨fun pins s σ H Q I h => ?_⟩
  refine PySem.W.methodCall_KW (pl := pl) (thn (he.run pins s σ H _ I h) fun u s1 ⟨x, H1, I1, rx, a, dx, fs, ex, ea, l, q⟩ => ?_) ht
  subst ex
  obtain rfl : u = Value.ref a := rx
  refine getmeth_ok I1 ea c hm l ?_
  refine PySem.W.callWith_K (first := [.ref a]) (h₀ := X.base) I.ok.mod.kin hm.kp (thn (ha.run pos pins s1 σ H1 _ I1 q) fun us s2 ⟨vs, H2, I2, r, q2⟩ => ⟨I2.kIn, ?_⟩) hst hpl
  exact run_fnS (us := .ref a :: us) (vs := .ref a :: vs) F hr hb (hx σ) I2 (.cons rfl r) q2
end

/-! readings -/
section
variable {X : Cx} {Wx : WX} {e : Expr} {es : List Expr} {m : EM} {am : AM} {pos : Pos} {np k : Nat} {fn : FnX} {io : List Nat}
theorem make_core {fn : Fn} {σ : St} {H1 : Hp} {Q : VK} {E : XK} {C x dx : Addr} {Fr : Frm} {F1 : Hp} {ρ' : Rho} {os : List Opd} {ss : List SV} {vs : List V} {o : D} {d : D} {post : Rho} (R1 : Rel X.K Fr F1 ρ' σ H1) (rs : NRels X.K F1 σ vs os) (hlen : os.length + 1 = np) (e2 : argsAll [] ρ' 1 os = some ss)
    (e3 : fn (.own (.ins C [] []) :: ss) = some (.val o, post)) (e4 : (post : Rho)[0]? = some (some (.own d))) (hx : H1 x = none) (hdx : H1 dx = none) (hne : dx ≠ x)
    (kk : ∀ F' H' v, Same F1 F' → Rel X.K Fr F' ρ' σ H' → Rep X.K F' v o → ORel X.K Fr F' ρ' σ H' (.ref x) (.tmp d) → Q v H') : spF X.K fn np (.ref x :: vs) (upd (upd H1 dx (.own x)) x (.ins C dx [])) Q E := by
  have S1 : Same H1 (upd H1 dx (.own x)) := same_new hdx
  have hx' : (upd H1 dx (.own x)) x = none := by rw [upd_ne (fun z => hne z.symm)]; exact hx
  have S2 : Same H1 (upd (upd H1 dx (.own x)) x (.ins C dx [])) := S1.trans (same_new hx')
  have R2 := R1.grow (Same.refl F1) S2 (R1.f.trans S2) R1.dj (fun b z1 z2 => absurd z2 z1)
  have Rp := R2.pad1 (σ.length - ρ'.length) (by have := R2.len; omega)
  have hpl : (ρ' ++ List.replicate (σ.length - ρ'.length) (none : Option SV)).length = σ.length := by rw [List.length_append, List.length_replicate]; have := R2.len; omega
  have Rp1 := R1.pad1 (σ.length - ρ'.length) (by have := R2.len; omega)
  generalize hr : List.replicate (σ.length - ρ'.length) (none : Option SV) = rr at Rp hpl Rp1
  have R3 := Rp.snoc (d := .ins C [] []) hpl upd_same own_new (R1.f.free hx) (R1.fr.free hx) (fun i s z1 z2 z3 => by
    obtain ⟨a, z4, z5⟩ := Rp1.obj z1 z2
    rw [z4] at z3
    cases z3
    exact z5 hx)
  have rs' : NRels X.K F1 (σ ++ [some (V.ref x)]) (.ref x :: vs) (.var σ.length :: os) := .cons (by show (σ ++ [some (V.ref x)])[σ.length]? = _; simp) rs.app
  have hxo : exclOk [0] (.var σ.length :: os) = true := by
    unfold exclOk
    rw [Bool.and_eq_true]
    have e5 : varsAt [0] true 0 (.var σ.length :: os) = [σ.length] := by unfold varsAt; rw [if_pos (by simp), vars_none (by omega)]
    have e6 : varsAt [0] false 0 (.var σ.length :: os) = varsAt [0] false 1 os := by conv => lhs; unfold varsAt; rw [if_neg (by simp)]
    rw [e5, e6]
    refine ⟨by simp [nodupB], ?_⟩
    unfold apartB apartB
    rw [Bool.and_true, Bool.not_eq_true', ← Bool.not_eq_true]
    intro hc
    have hm := List.contains_iff_mem.1 hc
    obtain ⟨p, hp⟩ := vars_no hm
    obtain ⟨v, _, g⟩ := nrel_get rs hp
    have g : σ[σ.length]? = some (some v) := g
    simp at g
  have eA : argsAll [0] ((ρ' ++ rr) ++ [some (.own (.ins C [] []))]) 0 (.var σ.length :: os) = some (.own (.ins C [] []) :: ss) := by
    unfold argsAll
    have e5 : argOne (decide (0 ∈ [0])) (.var σ.length) ((ρ' ++ rr) ++ [some (.own (.ins C [] []))]) = some (.own (.ins C [] [])) := by
      unfold argOne
      dsimp only
      rw [← hpl, List.getElem?_append_right (Nat.le_refl _)]
      simp
    rw [e5, List.append_assoc, args_self (n := 0) (Nat.le_refl 1) e2]
  have eB : putBack [0] post 0 (.var σ.length :: os) ((ρ' ++ rr) ++ [some (.own (.ins C [] []))]) = some ((ρ' ++ rr) ++ [some (.own d)]) := by
    conv => lhs; unfold putBack
    rw [if_pos (by simp), e4]
    dsimp only
    rw [back_self (by omega), ← hpl]
    simp
  refine call_core R3 rs' (by rw [List.length_cons]; exact hlen) hxo eA e3 (fun i z => nomatch z) eB fun F2 H2 v q2 R4 r => ?_
  refine kk F2 H2 v q2 ?_ r ?_
  · rw [List.append_assoc] at R4
    exact R4.cutS R1.len
  · have z0 : (((ρ' ++ rr) ++ [some (SV.own d)]))[σ.length]? = some (some (.own d)) := by rw [← hpl]; simp
    obtain ⟨v', z1, a, o, z2, z3, z4, z5, z6⟩ := R4.slot _ _ z0
    have z7 : v' = .ref x := by simp at z1; exact z1.symm
    rw [z7] at z2
    refine ⟨a, o, z2, z3, z4, z5, z6, fun i e y1 y2 => ?_⟩
    have y3 : (((ρ' ++ rr) ++ [some (SV.own d)]))[i]? = some (some (.own e)) := by rw [List.append_assoc, List.getElem?_append_left (some_lt y1)]; exact y1
    have hi := some_lt y2
    have := R4.uniq i σ.length _ _ y3 z0 rfl rfl (by rw [List.getElem?_append_left hi, y2]; simp)
    omega
def makeX (C : Addr) (fn : FnX) (am : AM) : XM := fun ρ => match am ρ with
  | some (os, ρ1) => match argsAll [] ρ1 1 os with
    | some ss => match fn (.own (.ins C [] []) :: ss) with
      | some (.ok (.val .non) post) => match (post : Rho)[0]? with
        | some (some (SV.own d)) => some (.ok (.tmp d), ρ1)
        | _ => none
      | some (.ex C' f d' post) => match (post : Rho)[0]? with
        | some (some (SV.own _)) => some (.ex C' f d', ρ1)
        | _ => none
      | _ => none
    | none => none
  | none => none
theorem makeX_read {C : Addr} {σ : St} {H : Hp} {Q : VK} (h : tX X.K Wx (makeX C fn am) σ H Q) (hn : ∀ ρ os ρ', am ρ = some (os, ρ') → os.length + 1 = np) : tMakeS C (spX X.K fn np) (WE Wx) (tA X.K am) σ H Q := by
  obtain ⟨Fr, F, ρ, xo, ρ', R, em, kk⟩ := h
  unfold makeX at em
  split at em
  · rename_i os ρ1 e1
    split at em
    · rename_i ss e2
      split at em
      · rename_i post e3
        split at em
        · rename_i d e4
          cases em
          refine ⟨Fr, F, ρ, os, _, R, e1, fun F1 H1 vs q1 R1 rs x dx hx hdx hne => .inl ?_⟩
          have e3' : fnN fn (.own (.ins C [] []) :: ss) = some (.val .non, post) := by unfold fnN; rw [e3]
          exact make_core R1 rs (hn _ _ _ e1) e2 e3' e4 hx hdx hne fun F2 H2 v q2 R4 r r2 => by
            cases r
            exact ⟨rfl, kk F2 H2 (.ref x) (q1.trans q2) R4 r2⟩
        · cases em
      · rename_i C' f d' post e3
        split at em
        · rename_i d e4
          cases em
          refine ⟨Fr, F, ρ, os, _, R, e1, fun F1 H1 vs q1 R1 rs x dx hx hdx hne => .inr ⟨C', f, ?_⟩⟩
          exact make_core R1 rs (hn _ _ _ e1) e2 (fnE_self e3) e4 hx hdx hne fun F2 H2 v q2 R4 r r2 dd hd => kk F2 H2 dd v (q1.trans q2) R4 hd r
        · cases em
      · cases em
    · cases em
  · cases em
structure MakerX (P : Program) (w : World) (K : PySem.W.Frag) (mg : Str → Option Value) (base : Heap) (k : Nat) (x : Str) (C : Addr) (np : Nat) (fn : FnX) : Prop where
  ex : ∃ f fd ps, Mk K C f ∧ FnOk P w K mg base (L2.CX P w) k f fd ps (spX K fn np) ∧ mg x = some (.ref C) ∧ Binds K fd ps []
theorem ox_make {x : Str} {p : Pos} {C : Addr} (c : MakerX X.prog X.w X.K X.mg X.base k x C np fn) (hr : Room (k + 1) X.A) (tk : Takes X Wx) (ha : AE X (e :: es) am) (hn : ∀ ρ os ρ', am ρ = some (os, ρ') → os.length + 1 = np) (hg : Gl X x := by rfl) (hdb : (x == ("__debug__" : Str)) = false := by decide)
    (he : starEach (e :: es) X.env = (false, eval e X.env) :: starEach es X.env := by rfl) (hpl : (backTo pos (starEach es X.env)).any (·.1) = false := by rfl) : OX X Wx (.Call (.Name x p) (e :: es) [] pos) (makeX C fn am) := by
  obtain ⟨f, fd, ps, M, Fo, hm, hb⟩ := c.ex
  exact ⟨pe_imp (pe_makeS M Fo hr hg hm hb (fun σ => passAt tk σ) ha.pa hdb he hpl) fun σ H Q h => makeX_read h hn⟩
def methX (C : Addr) (nm : Str) (fn : FnX) (io : List Nat) (m : EM) (am : AM) : XM := fun ρ => match frz m ρ with
  | some (o, ρ1) => match look o ρ1 with
    | some d => if insD C nm d = true then match am ρ1 with
      | some (os, ρ2) => if exclOk io (o :: os) then match argsAll io ρ2 0 (o :: os) with
        | some svs => match fn svs with
          | some (.ok (.val d) post) => match putBack io post 0 (o :: os) ρ2 with
            | some ρ3 => some (.ok (.val d), ρ3)
            | none => none
          | some (.ok (.tmp d) post) => match putBack io post 0 (o :: os) ρ2 with
            | some ρ3 => some (.ok (.tmp d), ρ3)
            | none => none
          | some (.ex C' f d post) => match putBack io post 0 (o :: os) ρ2 with
            | some ρ3 => some (.ex C' f d, ρ3)
            | none => none
          | _ => none
        | none => none else none
      | none => none else none
    | none => none
  | none => none
theorem methX_read {C : Addr} {nm : Str} {σ : St} {H : Hp} {Q : VK} (h : tX X.K Wx (methX C nm fn io m am) σ H Q) (hn : ∀ ρ os ρ', am ρ = some (os, ρ') → os.length + 1 = np) : tMethS C nm (spX X.K fn np) (WE Wx) (tN X.K (frz m)) (tA X.K am) σ H Q := by
  obtain ⟨Fr, F, ρ, xo, ρ3, R, em, kk⟩ := h
  unfold methX at em
  split at em
  · rename_i o ρ1 e1
    split at em
    · rename_i d e2
      split at em
      · rename_i hi
        split at em
        · rename_i os ρ2 e3
          split at em
          · rename_i hx
            split at em
            · rename_i svs e4
              refine ⟨Fr, F, ρ, o, ρ1, R, e1, fun F1 H1 v q1 R1 r1 => ?_⟩
              obtain ⟨a, dx, fs, rfl, h1, h2⟩ := insD_some R1.f (r1.look R1 e2) hi
              refine ⟨a, dx, fs, rfl, h1, h2, Fr, F1, ρ1, os, ρ2, R1, e3, fun F2 H2 vs q2 R2 rs => ?_⟩
              have nr : NRels X.K F2 σ (V.ref a :: vs) (o :: os) := .cons (r1.mono q2) rs
              have nl : (o :: os).length = np := by rw [List.length_cons]; exact hn _ _ _ e3
              split at em
              · rename_i d' post e5
                split at em
                · rename_i ρ4 e6
                  cases em
                  have e5' : fnN fn svs = some (.val d', post) := by unfold fnN; rw [e5]
                  exact .inl (call_core R2 nr nl hx e4 e5' (fun i z => nomatch z) e6 fun F' H' v q R' r' => kk F' H' v ((q1.trans q2).trans q) R' r')
                · cases em
              · rename_i d' post e5
                split at em
                · rename_i ρ4 e6
                  cases em
                  have e5' : fnN fn svs = some (.tmp d', post) := by unfold fnN; rw [e5]
                  exact .inl (call_core R2 nr nl hx e4 e5' (fun i z => nomatch z) e6 fun F' H' v q R' r' => kk F' H' v ((q1.trans q2).trans q) R' r')
                · cases em
              · rename_i C' f d' post e5
                split at em
                · rename_i ρ4 e6
                  cases em
                  exact .inr ⟨C', f, call_core R2 nr nl hx e4 (fnE_self e5) (fun i z => nomatch z) e6 fun F' H' v q R' r' dd hd => kk F' H' dd v ((q1.trans q2).trans q) R' hd r'⟩
                · cases em
              · cases em
            · cases em
          · cases em
        · cases em
      · cases em
    · cases em
  · cases em
structure MethX (P : Program) (w : World) (K : PySem.W.Frag) (mg : Str → Option Value) (base : Heap) (k : Nat) (C : Addr) (nm : Str) (np : Nat) (fn : FnX) : Prop where
  ex : ∃ f fd ps, Cls K C ∧ Meth K C nm f ∧ FnOk P w K mg base (L2.CX P w) k f fd ps (spX K fn np) ∧ Binds K fd ps []
theorem ox_meth {C : Addr} {nm : Str} {apos : Pos} {o : Expr} {pl : Sem Bool} (c : MethX X.prog X.w X.K X.mg X.base k C nm np fn) (hr : Room k X.A) (tk : Takes X Wx) (ho : OE X o m) (ha : AE X (e :: es) am) (hn : ∀ ρ os ρ', am ρ = some (os, ρ') → os.length + 1 = np)
    (hst : starEach (e :: es) X.env = (false, eval e X.env) :: starEach es X.env := by rfl) (hpl : (backTo pos (starEach es X.env)).any (·.1) = false := by rfl)
    (ht : eval (.Call (.Attribute o nm apos) (e :: es) [] pos) X.env = (do
      let ov ← eval o X.env
      standAt apos.atName
      let (f, first) ← holding [ov] (getMethod ov nm pl)
      callWith pos f first (backTo pos (starEach (e :: es) X.env)) (backToKw pos (keywordEach [] X.env))) := by rfl) : OX X Wx (.Call (.Attribute o nm apos) (e :: es) [] pos) (methX C nm fn io m am) := by
  obtain ⟨f, fd, ps, hc, hm, Fo, hb⟩ := c.ex
  exact ⟨pe_imp (pe_methS (pl := pl) ho.ne.pe hc hm Fo hr hb (fun σ => passAt tk σ) ha.pa hst hpl ht) fun σ H Q h => methX_read h hn⟩
end
end Ev

set_option Elab.async false
set_option linter.all false
set_option maxRecDepth 100000
/-! Ev. XE: the end of a law whose text has own errors. -/
set_option autoImplicit false
namespace Ev
open PySem PySem.Spec PyProof.Rows L2
theorem he_eq {X : Cx} {pos : Pos} {C : Addr} {f n : Str} {i : Nat} {p : Pos} {b : Expr} {mb : EM} (T : XfC X.K C) (hno : PySem.W.findIn X.K (.ref C) f = some none) (hu : X.A.units + 64 < cLine)
    (hb' : ∀ a pn, OE (X.suite a pn) b mb) (hN : X.N[i]? = some n := by rfl) (hv : Vis X.env.scope n := by first | exact Or.inl rfl | exact Or.inr (Or.inl rfl) | exact Or.inr (Or.inr rfl)) (hd : (n == ("__debug__" : Str)) = false := by decide)
    (hcd : (n == ("__classdict__" : Str)) = false := by decide) (hb : ∀ e : Sem Value, attributeBase (.Name n p) f X.env (eval (.Name n p) X.env) = eval (.Name n p) X.env := by intro _; rfl) {pos2 : Pos} : HE X i C f (.Compare (.Attribute (.Name n p) f pos) [.Eq] [b] pos2) (fun dv => binM eqG (constM dv) mb) :=
  he_cmp (r := rEqD X.K) T hno (fun a pn => op_eqD (X := X.suite a pn) hu) (fun a pn => ops_eq (X := X.suite a pn)) hb' (nomark _) hN hv hd hcd hb
theorem he_is {X : Cx} {pos : Pos} {C : Addr} {f n : Str} {i : Nat} {p : Pos} {b : Expr} {mb : EM} (T : XfC X.K C) (hno : PySem.W.findIn X.K (.ref C) f = some none)
    (hb' : ∀ a pn, OE (X.suite a pn) b mb) (hN : X.N[i]? = some n := by rfl) (hv : Vis X.env.scope n := by first | exact Or.inl rfl | exact Or.inr (Or.inl rfl) | exact Or.inr (Or.inr rfl)) (hd : (n == ("__debug__" : Str)) = false := by decide)
    (hcd : (n == ("__classdict__" : Str)) = false := by decide) (hb : ∀ e : Sem Value, attributeBase (.Name n p) f X.env (eval (.Name n p) X.env) = eval (.Name n p) X.env := by intro _; rfl) {pos2 : Pos} : HE X i C f (.Compare (.Attribute (.Name n p) f pos) [.Is] [b] pos2) (fun dv => binM isG (constM dv) mb) :=
  he_cmp T hno (fun a pn => op_isN (X := X.suite a pn)) (fun a pn => ops_is (X := X.suite a pn)) hb' (nomark _) hN hv hd hcd hb
/-! x *= e for whole numbers -/
def imulG : D → D → Option Opd := intG (fun i j => decide (-(2 ^ 64) < i ∧ i < 2 ^ 64) || decide (-(2 ^ 64) < j ∧ j < 2 ^ 64)) fun i j => i * j
theorem ops_imul {X : Cx} : OpS X (rI CMul fun i j => .int (i * j)) imulG := ops_I fun i j h => by
  rw [Bool.or_eq_true, decide_eq_true_eq, decide_eq_true_eq] at h
  exact h
theorem se_imul {X : Cx} {Wx : WX} {e : Expr} {m : EM} {pos : Pos} (i : Nat) {x : Str} {pos' : Pos} (hN : X.N.Nodup) (h : OE X e m) (hi : X.N[i]? = some x := by rfl) (hx : Loc X.env.scope x := by first | exact Or.inl rfl | exact Or.inr rfl)
    (hf : X.fn x = true ∨ X.env.scope.names.lookup x = some .local := by first | exact .inl rfl | exact .inr rfl) : SE X Wx (.AugAssign (.Name x pos') .Mult e pos) [i] (augM i imulG m) := se_aug i hN iop_mul ops_imul h hi hx hf
/-- an own error's class at the top -/
structure ExcAt (K : PySem.W.Frag) (mg : Str → Option Value) (x : Str) (C : Addr) (f : Str) : Prop where
  gC : mg x = some (.ref C)
  T : OexC K C
  nof : PySem.W.findIn K (.ref C) f = some none
  te : PySem.W.exmOne K (.ref C) (.ref C) = some true
  xf : XfC K C
theorem exc_mk {K : PySem.W.Frag} {h : Heap} {mg : Str → Option Value} {x f : Str} {C : Addr} {nm q : Str} {N : Addr} {bs bm : List Value} {sn : List Str} {sub : List Value} {ab : Bool} {col : Option Bool} {dd : Option Addr} {k0 k1 k2 k3 k5 : Option Value} (X : K.In h) (G : h.Ns mainGlobals mg)
    (a : PySem.W.nsIn K mainGlobals x = some (some (.ref C))) (l : K.lookup C = some (excClassObj nm q C N bs bm true sn sub ab col dd k0 k1 k2 k3 k5 "ValueError.__new__")) (rv : PySem.HandSPX.refsVE bm = true)
    (sa : PySem.W.findIn K (.ref C) "__setattr__" = some (some (.builtin "object.__setattr__"))) (exC : PySem.W.subIn K (.ref C) (.type "BaseException") = some true) (tyC : PySem.W.typeIn K (.ref C) = some (.type "type")) (kC : PySem.W.keepIn K (.ref C) = true)
    (nof : PySem.W.findIn K (.ref C) f = some none) (te : PySem.W.exmOne K (.ref C) (.ref C) = some true) (ga : PySem.W.findIn K (.ref C) "__getattribute__" = some (some (.builtin "BaseException.__getattribute__"))) (gg : PySem.W.findIn K (.ref C) "__getattr__" = some none)
    (hd : PySem.W.hasDictIn K C = true) : ExcAt K mg x C f := ⟨PySem.W.mg_of X G a, ⟨⟨_, _, _, _, _, _, _, _, _, _, _, _, _, _, _, l, rv⟩, sa, exC, tyC, kC⟩, nof, te, ⟨ga, gg, exC, hd⟩⟩
theorem pbase_mk {K : PySem.W.Frag} {h : Heap} {mg : Str → Option Value} {CP : Addr} (X : K.In h) (G : h.Ns mainGlobals mg) (a : PySem.W.nsIn K mainGlobals "PricedError" = some (some (.ref CP))) (r : PySem.W.readsIn K CP (.type "type") = true)
    (g : PySem.W.specialIn K (.ref CP) "__getattribute__" = some (some (.builtin "type.__getattribute__"))) (f : PySem.W.findCls K (.ref CP) (.type "type") "__init__" = some (.val (.builtin "ValueError.__init__"))) : ExcBase K mg CP (.type "type") := ⟨PySem.W.mg_of X G a, ⟨r, g⟩, f⟩
section
variable {P : Program} {w : World} {K : PySem.W.Frag} {mg : Str → Option Value} {base : Heap} {x qual nm : Str} {C : Addr} {st : Stmt} {k np : Nat} {ps : List Str}
theorem exc_of {f : Str} {so : Bool} (c : ExcAt K mg x C f) (d : MethAt K C "__init__" qual st) (ok : ∀ {fI : Addr} {fd : FuncData}, Fun K "__init__" qual st fI fd → FnOk P w K mg base CX0 1 fI fd ps (spInit C f so))
    (hb : ∀ (kV doc pm : Value) (an : Option Addr) (cdv ct : Value) (us : List Value), us.length = ps.length → bindArgs (PySem.W.fnOf "__init__" qual (defArgs st) (defBody st) (defScope st) .none kV doc pm an cdv ct) ⟨us, []⟩ = pure (ps.zip us)) : ExcOf P w K mg base x C f so := by
  obtain ⟨fI, fd, F, h1, h2⟩ := d.ex
  exact ⟨fI, fd, ps, c.T, h1, beq_iff_eq.mp h2, ok F, c.gC, F.binds hb⟩
theorem calleex_of {fn : FnX} (d : DefAt K mg x st) (ok : ∀ {f : Addr} {fd : FuncData}, Fun K x x st f fd → FnOk P w K mg base (L2.CX P w) k f fd ps (spX K fn np))
    (hb : ∀ (kV doc pm : Value) (an : Option Addr) (cdv ct : Value) (us : List Value), us.length = ps.length → bindArgs (PySem.W.fnOf x x (defArgs st) (defBody st) (defScope st) .none kV doc pm an cdv ct) ⟨us, []⟩ = pure (ps.zip us)) : CalleeX P w K mg base k x np fn := by
  obtain ⟨f, fd, F, hm⟩ := d.ex
  exact ⟨f, fd, ps, ok F, hm, F.kp, F.binds hb⟩
theorem makerx_of {fn : FnX} (c : ClsAt K mg x C) (d : MethAt K C "__init__" qual st) (ok : ∀ {f : Addr} {fd : FuncData}, Fun K "__init__" qual st f fd → FnOk P w K mg base (L2.CX P w) k f fd ps (spX K fn np))
    (hb : ∀ (kV doc pm : Value) (an : Option Addr) (cdv ct : Value) (us : List Value), us.length = ps.length → bindArgs (PySem.W.fnOf "__init__" qual (defArgs st) (defBody st) (defScope st) .none kV doc pm an cdv ct) ⟨us, []⟩ = pure (ps.zip us)) : MakerX P w K mg base k x C np fn := by
  obtain ⟨f, fd, F, h1, h2⟩ := d.ex
  exact ⟨f, fd, ps, ⟨c.makes, h1, h2, c.kp⟩, ok F, c.at_, F.binds hb⟩
theorem methx_of {fn : FnX} (c : Cls K C) (d : MethAt K C nm qual st) (ok : ∀ {f : Addr} {fd : FuncData}, Fun K nm qual st f fd → FnOk P w K mg base (L2.CX P w) k f fd ps (spX K fn np))
    (hb : ∀ (kV doc pm : Value) (an : Option Addr) (cdv ct : Value) (us : List Value), us.length = ps.length → bindArgs (PySem.W.fnOf nm qual (defArgs st) (defBody st) (defScope st) .none kV doc pm an cdv ct) ⟨us, []⟩ = pure (ps.zip us)) : MethX P w K mg base k C nm np fn := by
  obtain ⟨f, fd, F, h1, h2⟩ := d.ex
  exact ⟨f, fd, ps, c, ⟨h1, h2, F.kp⟩, ok F, F.binds hb⟩
end
end Ev

set_option Elab.async false
set_option linter.all false
set_option maxRecDepth 100000
/-! Ev. XG: == of tuples of own instances whose own == says True of each two. -/
set_option autoImplicit false
namespace Ev
open PySem PySem.Spec PyProof.Rows L2
section
variable {X : Cx} {a b : Expr} {ma mb : EM} {pos : Pos} {k : Nat} {fn : Fn} {C : Addr} {K : PySem.W.Frag}
/-- the own == says True of each two -/
def eqAll (C : Addr) (fn : Fn) : List D → List D → Bool
  | [], [] => true
  | d :: ds, e :: es => isInsC C d && (isInsC C e && ((match fn [.val d, .val e] with | some (.val (.bl true), _) => true | _ => false) && eqAll C fn ds es))
  | _, _ => false
/-- a == b, tuples of instances of C -/
def eqTM (C : Addr) (fn : Fn) (ma mb : EM) : EM := fun ρ => match frz ma ρ with
  | some (oa, ρ1) => match frz mb ρ1 with
    | some (ob, ρ2) => match look oa ρ2 with
      | some (.tup ds) => match look ob ρ2 with
        | some (.tup es) => if eqAll C fn ds es = true then some (.val (.bl true), ρ2) else none
        | _ => none
      | _ => none
    | none => none
  | none => none
theorem eqTM_some {ρ ρ' : Rho} {o : Opd} (h : eqTM C fn ma mb ρ = some (o, ρ')) : ∃ oa ρ1 ob ds es, frz ma ρ = some (oa, ρ1) ∧ frz mb ρ1 = some (ob, ρ') ∧ look oa ρ' = some (.tup ds) ∧ look ob ρ' = some (.tup es) ∧ eqAll C fn ds es = true ∧ o = .val (.bl true) := by
  unfold eqTM at h
  split at h
  · split at h
    · split at h
      · split at h
        · split at h
          · cases h
            exact ⟨_, _, _, _, _, by assumption, by assumption, by assumption, by assumption, by assumption, rfl⟩
          · cases h
        · cases h
      · cases h
    · cases h
  · cases h
/-- the own == says True of the two -/
def REq (K : PySem.W.Frag) (fn : Fn) : Addr → Addr → Hp → Prop := fun a b H => ∃ d e post, Rep K H (.ref a) d ∧ Rep K H (.ref b) e ∧ fn [.val d, .val e] = some (.val (.bl true), post)
theorem rep_args {H : Hp} {u v : V} {d e : D} (h1 : Rep K H u d) (h2 : Rep K H v e) : Rel K ⟨fun _ => none, fun _ => False, fun _ h => h.elim⟩ H [some (.val d), some (.val e)] [some u, some v] H := by
  refine ⟨fun _ _ h => (nomatch h), fun _ _ h => h, fun _ _ h => (nomatch h), fun i sv h => ?_, fun i j s t h1 h2 h3 => ?_, Nat.le_refl _⟩
  · match i, h with
    | 0, h => cases h; exact ⟨u, rfl, h1⟩
    | 1, h => cases h; exact ⟨v, rfl, h2⟩
    | _ + 2, h => cases h
  · match i, h1 with
    | 0, h1 => cases h1; cases h3
    | 1, h1 => cases h1; cases h3
    | _ + 2, h1 => cases h1
theorem spEq_spF (vs : List V) (H : Hp) (Q : VK) (E : XK) (h : spEq (REq K fn) vs H Q E) : spF K fn 2 vs H Q E := by
  obtain ⟨a, b, rfl, ⟨d, e, post, r1, r2, hf⟩, q⟩ := h
  refine ⟨rfl, _, H, [.val d, .val e], _, post, rfl, rep_args r1 r2, hf, fun F' H' v s R hv => ?_⟩
  cases hv
  exact q H' (fun a o x => R.f _ _ (s _ _ x))
theorem prs_of {F H : Hp} (s : Same F H) : ∀ {ds es : List D} {xs ys : List V}, Reps K F xs ds → Reps K F ys es → eqAll C fn ds es = true → Prs (DIns C (REq K fn)) xs ys H
  | [], [], _, _, .nil, .nil, _ => Prs.nil
  | [], _ :: _, _, _, _, _, h => by unfold eqAll at h; cases h
  | _ :: _, [], _, _, _, _, h => by unfold eqAll at h; cases h
  | d :: ds, e :: es, _, _, .cons r1 rs1, .cons r2 rs2, h => by
    unfold eqAll at h
    rw [Bool.and_eq_true, Bool.and_eq_true, Bool.and_eq_true] at h
    obtain ⟨i1, i2, hm, hr⟩ := h
    obtain ⟨a, dx, fs, rfl, ha⟩ := ins_viw s (.inl r1) i1
    obtain ⟨b, dy, gs, rfl, hb⟩ := ins_viw s (.inl r2) i2
    refine Prs.cons ⟨a, b, dx, dy, fs, gs, rfl, rfl, ha, hb, d, e, ?_⟩ (prs_of s rs1 rs2 hr)
    split at hm
    · rename_i post hf
      exact ⟨post, r1.mono s, r2.mono s, hf⟩
    · cases hm
theorem rel_ext {Fr : Frm} {F H H' : Hp} {ρ : Rho} {σ : L2.St} (R : Rel K Fr F ρ σ H) (e : Ext H H') : Rel K Fr F ρ σ H' :=
  R.grow (fun _ _ h => h) e (fun b o h => e _ _ (R.f _ _ h)) R.dj (fun b h1 h2 => absurd h2 h1)
theorem eqT_read {σ : L2.St} {H : Hp} {Q : VK} (h : tE X.K (eqTM C fn ma mb) σ H Q) : tOp (rEqG (DTup X.K (DIns C (REq X.K fn)))) (tN X.K (frz ma)) (tN X.K (frz mb)) σ H Q := by
  obtain ⟨Fr, F, ρ, o, ρ', R, em, kk⟩ := h
  obtain ⟨oa, ρ1, ob, ds, es, e1, e2, e3, e4, e5, rfl⟩ := eqTM_some em
  refine ⟨Fr, F, ρ, oa, ρ1, R, e1, fun F1 H1 v q1 R1 r1 => ⟨Fr, F1, ρ1, ob, ρ', R1, e2, fun F2 H2 u q2 R2 r2 => ?_⟩⟩
  have r1' := r1.mono q2
  obtain ⟨p, xs, rfl, hp, rp⟩ := (r1'.look R2 e3).tup R2.f
  obtain ⟨q, ys, rfl, hq, rq⟩ := (r2.look R2 e4).tup R2.f
  refine ⟨⟨p, q, xs, ys, rfl, rfl, hp, hq, prs_of R2.f rp rq e5⟩, fun H' ex => ?_⟩
  exact kk F2 H' _ (q1.trans q2) (rel_ext R2 ex) (.bl true)
theorem mon_req : ∀ a b H H', Ext H H' → REq K fn a b H → REq K fn a b H' := fun a b H H' e h => by
  obtain ⟨d, e1, post, r1, r2, hf⟩ := h
  exact ⟨d, e1, post, r1.mono e, r2.mono e, hf⟩
theorem op_eqT {nm : Str} (c : OwnOp X.prog X.w X.K X.mg X.base k C nm fn) (hn : nm = "__eq__") (hr : Room (k + 1) X.A) : OpR X (compareOp .Eq) (rEqG (DTup X.K (DIns C (REq X.K fn)))) := by
  subst hn
  obtain ⟨f, fd, ps, hs, hf, F, hbi⟩ := c.ex
  have F' := F.imp (sp' := spEq (REq X.K fn)) (fun vs H Q E h => spEq_spF vs H Q E h)
  exact op_eqG (rcG_tup (mon_ins mon_req) (eqG_ins F' hs hf hbi (E := E0) (fun _ _ _ _ _ _ _ h => h.elim))) hr
theorem oe_eqT {nm : Str} (c : OwnOp X.prog X.w X.K X.mg X.base k C nm fn) (hn : nm = "__eq__") (hr : Room (k + 1) X.A) (ha : OE X a ma) (hb : OE X b mb) (hm : behindInMarks .Eq b = false := by rfl) : OE X (.Compare a [.Eq] [b] pos) (eqTM C fn ma mb) :=
  ⟨pe_imp (pe_cmpR (op_eqT c hn hr) ha.ne.pe hb.ne.pe hm) fun σ H Q h => eqT_read h⟩
theorem te_eqT {nm : Str} (c : OwnOp X.prog X.w X.K X.mg X.base k C nm fn) (hn : nm = "__eq__") (hr : Room (k + 1) X.A) (ha : OE X a ma) (hb : OE X b mb) (hm : behindInMarks .Eq b = false := by rfl) : TeE X (.Compare a [.Eq] [b] pos) (boolM (eqTM C fn ma mb)) := by
  refine ⟨pt_imp (pt_cmpR (op_eqT c hn hr) ha.ne.pe hb.ne.pe hm) fun σ H Q ⟨Fr, F, ρ, t, ρ', R, em, kk⟩ => ?_⟩
  exact eqT_read ⟨Fr, F, ρ, _, ρ', R, boolM_some em, fun F' H' v s R' q => by cases q; exact ⟨t, rfl, kk F' H' s R'⟩⟩
end
end Ev

set_option Elab.async false
set_option linter.all false
set_option maxRecDepth 100000
set_option autoImplicit false
namespace Ev.W
open PySem PySem.Spec PyProof.Rows L2 Ev
noncomputable def m_is_whole (κ : String → Nat) : Fn := fnM 3 0 []
    (retM (andV (isiM ["int"] (varM 0)) (andV (notV (isiM ["bool"] (varM 0))) (chnM leG leG (varM 1) (varM 0) (varM 2)))))
noncomputable def m_lower (κ : String → Nat) : Fn := fnM 2 0 []
    (seqM (ifS (boolM (binM isG (varM 0) (constM .non))) (retM (varM 1)) nextM)
    (seqM (ifS (boolM (binM isG (varM 1) (constM .non))) (retM (varM 0)) nextM)
    (retM (ifM (boolM (binM leG (varM 0) (varM 1))) (varM 0) (varM 1)))))
noncomputable def m_lowest (κ : String → Nat) : Fn := fnM 1 2 []
    (seqM (setM 1 (constM .non))
    (seqM (forM (nameI 0) (nameG 2) (setM 1 (callM (m_lower κ) [] (consA (varM 1) (consA (varM 2) nilA)))))
    (retM (varM 1))))
noncomputable def m_highest (κ : String → Nat) : Fn := fnM 1 2 []
    (seqM (setM 1 (constM .non))
    (seqM (forM (nameI 0) (nameG 2) (ifS (andM (boolM (binM isnG (varM 2) (constM .non))) (orM (boolM (binM isG (varM 1) (constM .non))) (boolM (binM gtG (varM 2) (varM 1))))) (setM 1 (varM 2)) nextM))
    (retM (varM 1))))
noncomputable def m_bits_of (κ : String → Nat) : Fn := fnM 2 1 []
    (retM (compM [2] (rng1 (consD (varM 1) nilD)) (nameG 2) (truM (binM andG (binM shrG (varM 0) (varM 2)) (constM (.int 1)))) (esc (varM 2))))
noncomputable def m_row_of (κ : String → Nat) : Fn := fnM 2 1 []
    (retM (biM tupleG (consA (compM [2] (rng1 (consD (varM 1) nilD)) (nameG 2) yesM (esc (binM andG (binM shrG (varM 0) (binM subG (binM subG (varM 1) (constM (.int 1))) (varM 2))) (constM (.int 1))))) nilA)))
noncomputable def m_rows_of (κ : String → Nat) : Fn := fnM 1 1 []
    (retM (compM [1] (rng1 (consD (binM shlG (constM (.int 1)) (varM 0)) nilD)) (nameG 1) yesM (esc (callM (m_row_of κ) [] (consA (varM 1) (consA (varM 0) nilA))))))
noncomputable def m_Table____init__ (κ : String → Nat) : Fn := fnM 3 1 [0]
    (seqM (ifS (notM (truM (callM (m_is_whole κ) [] (consA (varM 1) (consA (constM (.int 0)) (consA (constM (.int 4)) nilA)))))) neverM nextM)
    (seqM (ifS (orM (notM (truM (isiM ["tuple"] (varM 2)))) (boolM (binM neG (biM lenX (consA (varM 2) nilA)) (binM shlG (constM (.int 1)) (varM 1))))) neverM nextM)
    (seqM (forM (nameI 2) (nameG 3) (ifS (andM (boolM (binM isnG (varM 3) (constM .non))) (notM (truM (callM (m_is_whole κ) [] (consA (varM 3) (consA (constM (.int 0)) (consA (constM (.int 100000000000000000000000000000000000000000000000000)) nilA))))))) neverM nextM))
    (seqM (fldS [κ "Table"] 0 "places" (varM 1))
    (seqM (fldS [κ "Table"] 0 "prices" (varM 2))
    (seqM (fldS [κ "Table"] 0 "least" (callM (m_lowest κ) [] (consA (varM 2) nilA)))
    (fldS [κ "Table"] 0 "most" (callM (m_highest κ) [] (consA (varM 2) nilA)))))))))
noncomputable def m_swapped (κ : String → Nat) : Fn := fnM 1 1 []
    (retM (fzM (makeM (κ "Table") (m_Table____init__ κ) (consA (fldM [κ "Table"] "places" (varM 0)) (consA (biM tupleG (consA (compM [1] (revI (fldM [κ "Table"] "prices" (varM 0))) (nameG 1) yesM (esc (varM 1))) nilA)) nilA)))))
noncomputable def m_is_told (κ : String → Nat) : Fn := fnM 1 0 []
    (seqM (ifS (orM (notM (truM (isCM (κ "Table") (varM 0)))) (orM (boolM (binM eqG (fldM [κ "Table"] "places" (varM 0)) (constM (.int 0)))) (boolM (binM isG (fldM [κ "Table"] "least" (varM 0)) (constM .non))))) (retM (constM (.bl false))) nextM)
    (retM (binM leG (fldM [κ "Table"] "most" (varM 0)) (constM (.int 1000)))))
noncomputable def m_softened (κ : String → Nat) : Fn := fnM 1 1 []
    (retM (fzM (makeM (κ "Table") (m_Table____init__ κ) (consA (fldM [κ "Table"] "places" (varM 0)) (consA (biM tupleG (consA (compM [1] (seqI0 (fldM [κ "Table"] "prices" (varM 0))) (nameG 1) yesM (esc (ifM (boolM (binM isG (varM 1) (constM .non))) (constM (.int 1)) (constM (.int 0))))) nilA)) nilA)))))
noncomputable def m_Table__crisp (κ : String → Nat) : Fn := fnM 1 0 []
    (retM (binM eqG (fldM [κ "Table"] "least" (varM 0)) (fldM [κ "Table"] "most" (varM 0))))
noncomputable def m_check_rules (κ : String → Nat) : Fn := fnM 1 1 []
    (forM (rng1 (consD (biM lenX (consA (fldM [κ "Lot"] "tables" (varM 0)) nilA)) nilD)) (nameG 1) (ifS (notM (truM (propC (κ "Table") (m_Table__crisp κ) (binM atX (fldM [κ "Lot"] "tables" (varM 0)) (varM 1))))) neverM nextM))
noncomputable def m_Table____eq__ (κ : String → Nat) : Fn := fnM 2 0 []
    (retM (andV (isCM (κ "Table") (varM 1)) (andV (binM eqG (fldM [κ "Table"] "places" (varM 0)) (fldM [κ "Table"] "places" (varM 1))) (binM eqG (fldM [κ "Table"] "prices" (varM 0)) (fldM [κ "Table"] "prices" (varM 1))))))
noncomputable def m_Lot____init__ (κ : String → Nat) : Fn := fnM 2 2 [0]
    (seqM (ifS (orM (notM (truM (isiM ["tuple"] (varM 1)))) (notM (boolM (chnM leG leG (constM (.int 1)) (biM lenX (consA (varM 1) nilA)) (constM (.int 16)))))) neverM nextM)
    (seqM (forM (rng1 (consD (biM lenX (consA (varM 1) nilA)) nilD)) (nameG 2) (ifS (notM (truM (callM (m_is_told κ) [] (consA (binM atX (varM 1) (varM 2)) nilA)))) neverM nextM))
    (seqM (fldS [κ "Lot"] 0 "tables" (varM 1))
    (fldS [κ "Lot"] 0 "swaps" (biM allT (consA (compM [3] (nameI 1) (nameG 3) yesM (esc (ownM (κ "Table") (m_Table____eq__ κ) (isInsC (κ "Table")) (callM (m_swapped κ) [] (consA (varM 3) nilA)) (varM 3)))) nilA))))))
noncomputable def m_soft_lot (κ : String → Nat) : Fn := fnM 1 1 []
    (seqM (exprM (callM (m_check_rules κ) [] (consA (varM 0) nilA)))
    (retM (fzM (makeM (κ "Lot") (m_Lot____init__ κ) (consA (biM tupleG (consA (compM [1] (seqI0 (fldM [κ "Lot"] "tables" (varM 0))) (nameG 1) yesM (esc (callM (m_softened κ) [] (consA (varM 1) nilA)))) nilA)) nilA)))))
noncomputable def m_shape_rows (κ : String → Nat) : Fn := fnM 3 4 []
    (seqM (setM 3 (lstM nilD))
    (seqM (forM (seqI0 (callM (m_rows_of κ) [] (consA (varM 0) nilA))) (nameG 4) (seqM (setM 5 (andV (binM isnG (varM 1) (constM .non)) (biM allT (consA (compM [6] (nameI 1) (nameG 6) yesM (esc (binM eqG (binM atX (varM 4) (varM 6)) (constM (.int 1))))) nilA))))
    (ifS (orM (truM (varM 5)) (andM (boolM (binM isnG (varM 2) (constM .non))) (truM (biM allT (consA (compM [6] (nameI 2) (nameG 6) yesM (esc (binM eqG (binM atX (varM 4) (varM 6)) (constM (.int 0))))) nilA))))) (exprM (methM 3 (consD (varM 4) nilD) appendG)) nextM)))
    (retM (varM 3))))
noncomputable def m_Table__open_numbers (κ : String → Nat) : Fn := fnM 1 1 []
    (retM (compM [1] (rng1 (consD (biM lenX (consA (fldM [κ "Table"] "prices" (varM 0)) nilA)) nilD)) (nameG 1) (boolM (binM isnG (binM atX (fldM [κ "Table"] "prices" (varM 0)) (varM 1)) (constM .non))) (esc (varM 1))))
noncomputable def m_Table__open_rows (κ : String → Nat) : Fn := fnM 1 1 []
    (retM (compM [1] (seqI0 (methC (κ "Table") "open_numbers" (m_Table__open_numbers κ) [] (varM 0) nilA)) (nameG 1) yesM (esc (callM (m_row_of κ) [] (consA (varM 1) (consA (fldM [κ "Table"] "places" (varM 0)) nilA))))))
noncomputable def m_shape (κ : String → Nat) : Fn := fnM 1 5 []
    (seqM (setM 1 (methC (κ "Table") "open_rows" (m_Table__open_rows κ) [] (varM 0) nilA))
    (seqM (setM 2 (lstM (consD (constM .non) (starD (compM [5] (rng1 (consD (binM shlG (constM (.int 1)) (fldM [κ "Table"] "places" (varM 0))) nilD)) (nameG 5) yesM (esc (biM tupleG (consA (callM (m_bits_of κ) [] (consA (varM 5) (consA (fldM [κ "Table"] "places" (varM 0)) nilA))) nilA)))) nilD))))
    (seqM (forM (nameI 2) (nameG 3) (forM (nameI 2) (nameG 4) (ifS (boolM (binM eqG (callM (m_shape_rows κ) [] (consA (fldM [κ "Table"] "places" (varM 0)) (consA (varM 3) (consA (varM 4) nilA)))) (varM 1))) (retM (tupM (consD (varM 3) (consD (varM 4) nilD)))) nextM)))
    (retM (constM .non)))))
noncomputable def m_left_out_kinds (κ : String → Nat) : Fn := fnM 1 2 []
    (seqM (exprM (callM (m_check_rules κ) [] (consA (varM 0) nilA)))
    (seqM (setM 1 (lstM nilD))
    (seqM (ifS (truM (biM allT (consA (compM [2] (seqI0 (fldM [κ "Lot"] "tables" (varM 0))) (nameG 2) yesM (esc (binM isnG (binM atX (fldM [κ "Table"] "prices" (varM 2)) (constM (.int 0))) (constM .non)))) nilA))) (exprM (methM 1 (consD (constM (.str "zero")) nilD) appendG)) nextM)
    (seqM (ifS (truM (biM allT (consA (compM [2] (seqI0 (fldM [κ "Lot"] "tables" (varM 0))) (nameG 2) yesM (esc (binM isnG (binM atX (fldM [κ "Table"] "prices" (varM 2)) (binM subG (biM lenX (consA (fldM [κ "Table"] "prices" (varM 2)) nilA)) (constM (.int 1)))) (constM .non)))) nilA))) (exprM (methM 1 (consD (constM (.str "one")) nilD) appendG)) nextM)
    (seqM (ifS (truM (biM allT (consA (compM [2] (seqI0 (fldM [κ "Lot"] "tables" (varM 0))) (nameG 2) yesM (esc (binM isnG (callM (m_shape κ) [] (consA (varM 2) nilA)) (constM .non)))) nilA))) (exprM (methM 1 (consD (constM (.str "cut")) nilD) appendG)) nextM)
    (retM (biM tupleG (consA (varM 1) nilA))))))))
noncomputable def m__law_begin (κ : String → Nat) : Fn := fnM 1 1 []
    (retM (lstM (consD (compM [1] (nameI 0) (nameG 1) yesM (esc (biM intFG (consA (varM 1) nilA)))) (consD (constM (.int 0)) (consD (constM (.int 0)) (consD (constM (.int 7)) nilD))))))
noncomputable def m__law_draw (κ : String → Nat) : Fn := fnM 2 3 [0]
    (seqM (ifS (boolM (binM gtG (binM atX (varM 0) (constM (.int 2))) (constM (.int 0)))) (seqM (setM 3 (binM atX (varM 0) (constM (.int 2))))
    (seqM (putM 0 (constM (.int 2)) (binM divG (varM 3) (varM 1)))
    (retM (binM modG (biM intFG (consA (varM 3) nilA)) (varM 1))))) nextM)
    (seqM (setM 2 (constM (.int 0)))
    (seqM (ifS (boolM (binM ltG (binM atX (varM 0) (constM (.int 1))) (biM lenX (consA (binM atX (varM 0) (constM (.int 0))) nilA)))) (seqM (setM 4 (binM atX (binM atX (varM 0) (constM (.int 0))) (binM atX (varM 0) (constM (.int 1)))))
    (setM 2 (binM addG (binM mulG (constM (.int 2)) (biM absG (consA (varM 4) nilA))) (biM intFG (consA (binM ltG (varM 4) (constM (.int 0))) nilA))))) nextM)
    (seqM (augAtM 0 (constM (.int 1)) iaddG (constM (.int 1)))
    (seqM (ifS (boolM (binM geG (varM 2) (binM mulG (constM (.int 2)) (binM powG (constM (.int 10)) (constM (.int 18)))))) (seqM (setM 3 (binM modG (biM intFG (consA (binM divG (varM 2) (constM (.int 2))) nilA)) (binM shlG (constM (.int 1)) (constM (.int 6000)))))
    (seqM (putM 0 (constM (.int 2)) (binM divG (varM 3) (varM 1)))
    (retM (binM modG (biM intFG (consA (varM 3) nilA)) (varM 1))))) nextM)
    (seqM (putM 0 (constM (.int 3)) (binM modG (biM intFG (consA (binM addG (binM addG (binM addG (binM mulG (binM atX (varM 0) (constM (.int 3))) (constM (.int 48271))) (binM mulG (binM modG (biM intFG (consA (varM 2) nilA)) (constM (.int 2147483629))) (constM (.int 16807)))) (binM mulG (binM atX (varM 0) (constM (.int 1))) (constM (.int 69621)))) (constM (.int 11))) nilA)) (constM (.int 2147483647))))
    (retM (binM modG (biM intFG (consA (binM divG (binM atX (varM 0) (constM (.int 3))) (constM (.int 16))) nilA)) (varM 1)))))))))
noncomputable def m__law_pick (κ : String → Nat) : Fn := fnM 2 0 [0]
    (retM (binM atX (varM 1) (callM (m__law_draw κ) [0] (consA (varM 0) (consA (biM lenX (consA (varM 1) nilA)) nilA)))))
noncomputable def m__law_rare (κ : String → Nat) : Fn := fnM 2 0 [0]
    (retM (binM eqG (callM (m__law_draw κ) [0] (consA (varM 0) (consA (varM 1) nilA))) (binM divG (varM 1) (constM (.int 2)))))
noncomputable def m__law_row (κ : String → Nat) : Fn := fnM 2 1 []
    (retM (biM tupleG (consA (compM [2] (rng1 (consD (varM 1) nilD)) (nameG 2) yesM (esc (binM andG (binM shrG (varM 0) (binM subG (binM subG (varM 1) (constM (.int 1))) (varM 2))) (constM (.int 1))))) nilA)))
noncomputable def m__law_rows (κ : String → Nat) : Fn := fnM 1 1 []
    (retM (compM [1] (rng1 (consD (binM shlG (constM (.int 1)) (varM 0)) nilD)) (nameG 1) yesM (esc (callM (m__law_row κ) [] (consA (varM 1) (consA (varM 0) nilA))))))
noncomputable def m__law_sum (κ : String → Nat) : Fn := fnM 1 2 []
    (seqM (setM 1 (constM (.int 0)))
    (seqM (forM (nameI 0) (nameG 2) (seqM (ifS (boolM (binM isG (varM 2) (constM .non))) (retM (constM .non)) nextM)
    (augM 1 iaddG (varM 2))))
    (retM (varM 1))))
noncomputable def m__law_low (κ : String → Nat) : Fn := fnM 1 2 []
    (seqM (setM 1 (constM .non))
    (seqM (forM (nameI 0) (nameG 2) (ifS (andM (boolM (binM isnG (varM 2) (constM .non))) (orM (boolM (binM isG (varM 1) (constM .non))) (boolM (binM ltG (varM 2) (varM 1))))) (setM 1 (varM 2)) nextM))
    (retM (varM 1))))
noncomputable def m__law_times (κ : String → Nat) : Fn := fnM 2 0 []
    (seqM (ifS (boolM (binM isG (varM 0) (constM .non))) (retM (constM .non)) nextM)
    (retM (binM mulG (varM 0) (varM 1))))
noncomputable def m__law_above (κ : String → Nat) : Fn := fnM 2 0 []
    (seqM (ifS (boolM (binM isG (varM 1) (constM .non))) (retM (constM (.bl false))) nextM)
    (retM (orV (binM isG (varM 0) (constM .non)) (binM gtG (varM 0) (varM 1)))))
noncomputable def m__law_most (κ : String → Nat) : Fn := fnM 3 0 []
    (retM (binM orG (binM orG (binM andG (varM 0) (varM 1)) (binM andG (varM 0) (varM 2))) (binM andG (varM 1) (varM 2))))
noncomputable def m__law_breach_one (κ : String → Nat) : Fn := fnM 3 2 []
    (seqM (setM 3 (binM subG (biM lenX (consA (varM 1) nilA)) (constM (.int 1))))
    (seqM (forM (nameI 2) (nameG 4) (ifS (truM (callM (m__law_above κ) [] (consA (binM atX (varM 1) (ifM (boolM (binM eqG (varM 0) (constM (.str "zero")))) (constM (.int 0)) (varM 3))) (consA (binM atX (varM 1) (varM 4)) nilA)))) (retM (constM (.bl true))) nextM))
    (retM (constM (.bl false)))))
noncomputable def m__law_breach_two (κ : String → Nat) : Fn := fnM 3 4 []
    (seqM (forM (nameI 2) (nameG 3) (forM (nameI 2) (nameG 4) (seqM (setM 5 (callM (m__law_times κ) [] (consA (binM atX (varM 1) (binM andG (varM 3) (varM 4))) (consA (constM (.int 2)) nilA))))
    (seqM (setM 6 (callM (m__law_times κ) [] (consA (binM atX (varM 1) (binM orG (varM 3) (varM 4))) (consA (constM (.int 2)) nilA))))
    (seqM (ifS (boolM (binM eqG (varM 0) (constM (.str "greatest")))) (setM 5 (varM 6)) nextM)
    (seqM (ifS (boolM (binM eqG (varM 0) (constM (.str "cut")))) (setM 5 (callM (m__law_sum κ) [] (consA (lstM (consD (binM atX (varM 1) (binM andG (varM 3) (varM 4))) (consD (binM atX (varM 1) (binM orG (varM 3) (varM 4))) nilD))) nilA))) nextM)
    (ifS (truM (callM (m__law_above κ) [] (consA (varM 5) (consA (binM addG (binM atX (varM 1) (varM 3)) (binM atX (varM 1) (varM 4))) nilA)))) (retM (constM (.bl true))) nextM)))))))
    (retM (constM (.bl false))))
noncomputable def m__law_breach_three (κ : String → Nat) : Fn := fnM 3 6 []
    (seqM (forM (rng1 (consD (biM lenX (consA (varM 2) nilA)) nilD)) (nameG 3) (forM (rng2 (consD (varM 3) (consD (biM lenX (consA (varM 2) nilA)) nilD))) (nameG 4) (forM (rng2 (consD (varM 4) (consD (biM lenX (consA (varM 2) nilA)) nilD))) (nameG 5) (seqM (setM 6 (binM atX (varM 1) (callM (m__law_most κ) [] (consA (binM atX (varM 2) (varM 3)) (consA (binM atX (varM 2) (varM 4)) (consA (binM atX (varM 2) (varM 5)) nilA))))))
    (seqM (setM 7 (binM atX (varM 1) (binM xorG (binM xorG (binM atX (varM 2) (varM 3)) (binM atX (varM 2) (varM 4))) (binM atX (varM 2) (varM 5)))))
    (seqM (setM 8 (callM (m__law_sum κ) [] (consA (lstM (consD (varM 6) (consD (varM 6) (consD (varM 7) nilD)))) nilA)))
    (seqM (ifS (boolM (binM eqG (varM 0) (constM (.str "twos")))) (setM 8 (callM (m__law_times κ) [] (consA (varM 6) (consA (constM (.int 3)) nilA)))) nextM)
    (seqM (ifS (boolM (binM eqG (varM 0) (constM (.str "sums")))) (setM 8 (callM (m__law_times κ) [] (consA (varM 7) (consA (constM (.int 3)) nilA)))) nextM)
    (ifS (truM (callM (m__law_above κ) [] (consA (varM 8) (consA (binM addG (binM addG (binM atX (varM 1) (binM atX (varM 2) (varM 3))) (binM atX (varM 1) (binM atX (varM 2) (varM 4)))) (binM atX (varM 1) (binM atX (varM 2) (varM 5)))) nilA)))) (retM (constM (.bl true))) nextM)))))))))
    (retM (constM (.bl false))))
noncomputable def m__law_keeps (κ : String → Nat) : Fn := fnM 2 2 []
    (seqM (setM 2 (compM [3] (rng1 (consD (biM lenX (consA (varM 1) nilA)) nilD)) (nameG 3) (boolM (binM isnG (binM atX (varM 1) (varM 3)) (constM .non))) (esc (varM 3))))
    (seqM (ifS (boolM (binM (inX false) (varM 0) (tupM (consD (constM (.str "zero")) (consD (constM (.str "one")) nilD))))) (retM (notV (callM (m__law_breach_one κ) [] (consA (varM 0) (consA (varM 1) (consA (varM 2) nilA)))))) nextM)
    (seqM (ifS (boolM (binM (inX false) (varM 0) (tupM (consD (constM (.str "least")) (consD (constM (.str "greatest")) (consD (constM (.str "cut")) nilD)))))) (retM (notV (callM (m__law_breach_two κ) [] (consA (varM 0) (consA (varM 1) (consA (varM 2) nilA)))))) nextM)
    (retM (notV (callM (m__law_breach_three κ) [] (consA (varM 0) (consA (varM 1) (consA (varM 2) nilA)))))))))
noncomputable def m__law_kept (κ : String → Nat) : Fn := fnM 2 1 []
    (retM (biM allT (consA (compM [2] (nameI 1) (nameG 2) yesM (esc (callM (m__law_keeps κ) [] (consA (varM 0) (consA (binM atX (varM 2) (constM (.int 1))) nilA))))) nilA)))
noncomputable def m__law_cost (κ : String → Nat) : Fn := fnM 1 0 [0]
    (seqM (ifS (truM (callM (m__law_rare κ) [0] (consA (varM 0) (consA (constM (.int 11)) nilA)))) (retM (callM (m__law_draw κ) [0] (consA (varM 0) (consA (constM (.int 1001)) nilA)))) nextM)
    (retM (callM (m__law_draw κ) [0] (consA (varM 0) (consA (constM (.int 6)) nilA)))))
noncomputable def m__law_opened (κ : String → Nat) : Fn := fnM 2 0 [0, 1]
    (seqM (ifS (boolM (binM isG (callM (m__law_low κ) [] (consA (varM 1) nilA)) (constM .non))) (putM 1 (callM (m__law_draw κ) [0] (consA (varM 0) (consA (biM lenX (consA (varM 1) nilA)) nilA))) (callM (m__law_cost κ) [0] (consA (varM 0) nilA))) nextM)
    (retM (varM 1)))
noncomputable def m__law_crisp (κ : String → Nat) : Fn := fnM 3 3 [0]
    (seqM (setM 3 (callM (m__law_cost κ) [0] (consA (varM 0) nilA)))
    (seqM (setM 4 (compM [5] (rng1 (consD (binM shlG (constM (.int 1)) (varM 1)) nilD)) (nameG 5) yesM (esc (ifM (boolM (binM ltG (callM (m__law_draw κ) [0] (consA (varM 0) (consA (constM (.int 8)) nilA))) (varM 2))) (constM .non) (varM 3)))))
    (retM (tupM (consD (varM 1) (consD (biM tupleG (consA (callM (m__law_opened κ) [0, 1] (consA (varM 0) (consA (varM 4) nilA))) nilA)) nilD))))))
noncomputable def m__law_shape_rows (κ : String → Nat) : Fn := fnM 3 5 []
    (seqM (setM 3 (lstM nilD))
    (seqM (forM (seqI0 (callM (m__law_rows κ) [] (consA (varM 0) nilA))) (nameG 4) (seqM (setM 5 (andV (binM isnG (varM 1) (constM .non)) (biM allT (consA (compM [7] (nameI 1) (nameG 7) yesM (esc (binM eqG (binM atX (varM 4) (varM 7)) (constM (.int 1))))) nilA))))
    (seqM (setM 6 (andV (binM isnG (varM 2) (constM .non)) (biM allT (consA (compM [7] (nameI 2) (nameG 7) yesM (esc (binM eqG (binM atX (varM 4) (varM 7)) (constM (.int 0))))) nilA))))
    (ifS (orM (truM (varM 5)) (truM (varM 6))) (exprM (methM 3 (consD (varM 4) nilD) appendG)) nextM))))
    (retM (varM 3))))
noncomputable def m__law_spots (κ : String → Nat) : Fn := fnM 1 3 []
    (seqM (setM 1 (lstM (consD (constM .non) nilD)))
    (seqM (forM (rng1 (consD (binM shlG (constM (.int 1)) (varM 0)) nilD)) (nameG 2) (exprM (methM 1 (consD (biM tupleG (consA (compM [3] (rng1 (consD (varM 0) nilD)) (nameG 3) (boolM (binM eqG (binM andG (binM shrG (varM 2) (varM 3)) (constM (.int 1))) (constM (.int 1)))) (esc (varM 3))) nilA)) nilD) appendG)))
    (retM (varM 1))))
noncomputable def m__law_shape (κ : String → Nat) : Fn := fnM 1 5 []
    (seqM (setM 1 (compM [5] (rng1 (consD (binM shlG (constM (.int 1)) (binM atX (varM 0) (constM (.int 0)))) nilD)) (nameG 5) (boolM (binM isnG (binM atX (binM atX (varM 0) (constM (.int 1))) (varM 5)) (constM .non))) (esc (callM (m__law_row κ) [] (consA (varM 5) (consA (binM atX (varM 0) (constM (.int 0))) nilA))))))
    (seqM (setM 2 (callM (m__law_spots κ) [] (consA (binM atX (varM 0) (constM (.int 0))) nilA)))
    (seqM (forM (nameI 2) (nameG 3) (forM (nameI 2) (nameG 4) (ifS (boolM (binM eqG (callM (m__law_shape_rows κ) [] (consA (binM atX (varM 0) (constM (.int 0))) (consA (varM 3) (consA (varM 4) nilA)))) (varM 1))) (retM (tupM (consD (varM 3) (consD (varM 4) nilD)))) nextM)))
    (retM (constM .non)))))
noncomputable def m__law_rule (κ : String → Nat) : Fn := fnM 1 10 [0]
    (seqM (setM 1 (ifM (truM (callM (m__law_rare κ) [0] (consA (varM 0) (consA (constM (.int 15)) nilA)))) (constM (.int 4)) (binM addG (constM (.int 1)) (callM (m__law_draw κ) [0] (consA (varM 0) (consA (constM (.int 3)) nilA))))))
    (seqM (setM 2 (callM (m__law_draw κ) [0] (consA (varM 0) (consA (constM (.int 4)) nilA))))
    (seqM (setM 3 (callM (m__law_draw κ) [0] (consA (varM 0) (consA (constM (.int 5)) nilA))))
    (seqM (ifS (boolM (binM eqG (varM 3) (constM (.int 4)))) (retM (callM (m__law_crisp κ) [0] (consA (varM 0) (consA (varM 1) (consA (binM addG (constM (.int 1)) (callM (m__law_draw κ) [0] (consA (varM 0) (consA (constM (.int 6)) nilA)))) nilA))))) nextM)
    (seqM (setM 4 (callM (m__law_spots κ) [] (consA (varM 1) nilA)))
    (seqM (setM 5 (callM (m__law_pick κ) [0] (consA (varM 0) (consA (varM 4) nilA))))
    (seqM (setM 6 (callM (m__law_pick κ) [0] (consA (varM 0) (consA (varM 4) nilA))))
    (seqM (setM 7 (callM (m__law_shape_rows κ) [] (consA (varM 1) (consA (varM 5) (consA (varM 6) nilA)))))
    (seqM (setM 8 (compM [10] (seqI0 (callM (m__law_rows κ) [] (consA (varM 1) nilA))) (nameG 10) yesM (esc (ifM (boolM (binM (inX false) (varM 10) (varM 7))) (varM 2) (constM .non)))))
    (seqM (ifS (boolM (binM eqG (varM 3) (constM (.int 3)))) (seqM (setM 9 (callM (m__law_draw κ) [0] (consA (varM 0) (consA (biM lenX (consA (varM 8) nilA)) nilA))))
    (putM 8 (varM 9) (ifM (boolM (binM isG (binM atX (varM 8) (varM 9)) (constM .non))) (varM 2) (constM .non)))) nextM)
    (seqM (ifS (boolM (binM isG (callM (m__law_low κ) [] (consA (varM 8) nilA)) (constM .non))) (putM 8 (callM (m__law_draw κ) [0] (consA (varM 0) (consA (biM lenX (consA (varM 8) nilA)) nilA))) (varM 2)) nextM)
    (retM (tupM (consD (varM 1) (consD (biM tupleG (consA (varM 8) nilA)) nilD)))))))))))))))
noncomputable def m__law_softened (κ : String → Nat) : Fn := fnM 1 1 []
    (retM (tupM (consD (binM atX (varM 0) (constM (.int 0))) (consD (biM tupleG (consA (compM [1] (seqI0 (binM atX (varM 0) (constM (.int 1)))) (nameG 1) yesM (esc (ifM (boolM (binM isG (varM 1) (constM .non))) (constM (.int 1)) (constM (.int 0))))) nilA)) nilD))))
noncomputable def x_check_rules (κ : String → Nat) : FnX := fnX 1 1 []
    (forM (rng1 (consD (biM lenX (consA (fldM [κ "Lot"] "tables" (varM 0)) nilA)) nilD)) (nameG 1) (ifS (notM (truM (propC (κ "Table") (m_Table__crisp κ) (binM atX (fldM [κ "Lot"] "tables" (varM 0)) (varM 1))))) (raiseM (κ "BadLot") "at" false (varM 1)) nextM))
noncomputable def x_left_out_kinds (κ : String → Nat) : FnX := fnX 1 2 []
    (seqM (exprX (callX (x_check_rules κ) [] (consA (varM 0) nilA)))
    (seqM (setM 1 (lstM nilD))
    (seqM (ifS (truM (biM allT (consA (compM [2] (seqI0 (fldM [κ "Lot"] "tables" (varM 0))) (nameG 2) yesM (esc (binM isnG (binM atX (fldM [κ "Table"] "prices" (varM 2)) (constM (.int 0))) (constM .non)))) nilA))) (exprM (methM 1 (consD (constM (.str "zero")) nilD) appendG)) nextM)
    (seqM (ifS (truM (biM allT (consA (compM [2] (seqI0 (fldM [κ "Lot"] "tables" (varM 0))) (nameG 2) yesM (esc (binM isnG (binM atX (fldM [κ "Table"] "prices" (varM 2)) (binM subG (biM lenX (consA (fldM [κ "Table"] "prices" (varM 2)) nilA)) (constM (.int 1)))) (constM .non)))) nilA))) (exprM (methM 1 (consD (constM (.str "one")) nilD) appendG)) nextM)
    (seqM (ifS (truM (biM allT (consA (compM [2] (seqI0 (fldM [κ "Lot"] "tables" (varM 0))) (nameG 2) yesM (esc (binM isnG (callM (m_shape κ) [] (consA (varM 2) nilA)) (constM .non)))) nilA))) (exprM (methM 1 (consD (constM (.str "cut")) nilD) appendG)) nextM)
    (retM (biM tupleG (consA (varM 1) nilA))))))))
noncomputable def x_Lot____init__ (κ : String → Nat) : FnX := fnX 2 2 [0]
    (seqM (ifS (orM (notM (truM (isiM ["tuple"] (varM 1)))) (notM (boolM (chnM leG leG (constM (.int 1)) (biM lenX (consA (varM 1) nilA)) (constM (.int 16)))))) (raiseM (κ "BadLot") "at" false (constM .non)) nextM)
    (seqM (forM (rng1 (consD (biM lenX (consA (varM 1) nilA)) nilD)) (nameG 2) (ifS (notM (truM (callM (m_is_told κ) [] (consA (binM atX (varM 1) (varM 2)) nilA)))) (raiseM (κ "BadLot") "at" false (varM 2)) nextM))
    (seqM (fldS [κ "Lot"] 0 "tables" (varM 1))
    (fldS [κ "Lot"] 0 "swaps" (biM allT (consA (compM [3] (nameI 1) (nameG 3) yesM (esc (ownM (κ "Table") (m_Table____eq__ κ) (isInsC (κ "Table")) (callM (m_swapped κ) [] (consA (varM 3) nilA)) (varM 3)))) nilA))))))
noncomputable def x_soft_lot (κ : String → Nat) : FnX := fnX 1 1 []
    (seqM (exprX (callX (x_check_rules κ) [] (consA (varM 0) nilA)))
    (retX (makeX (κ "Lot") (x_Lot____init__ κ) (consA (biM tupleG (consA (compM [1] (seqI0 (fldM [κ "Lot"] "tables" (varM 0))) (nameG 1) yesM (esc (callM (m_softened κ) [] (consA (varM 1) nilA)))) nilA)) nilA))))
noncomputable def m__law_refused (κ : String → Nat) : Fn := fnM 2 1 []
    (seqM (tryM (ifS (boolM (binM eqG (varM 0) (constM (.int 0)))) (exprX (callX (x_left_out_kinds κ) [] (consA (varM 1) nilA))) (exprX (callX (x_soft_lot κ) [] (consA (varM 1) nilA)))) (κ "BadLot") "at" 2 (fun dv => constM dv))
    (retM (constM (.str "let"))))
noncomputable def m__law_lot_of (κ : String → Nat) : Fn := fnM 1 1 []
    (retM (fzM (makeM (κ "Lot") (m_Lot____init__ κ) (consA (biM tupleG (consA (compM [1] (nameI 0) (nameG 1) yesM (esc (fzM (makeM (κ "Table") (m_Table____init__ κ) (consA (binM atX (varM 1) (constM (.int 0))) (consA (binM atX (varM 1) (constM (.int 1))) nilA)))))) nilA)) nilA))))
noncomputable def m_Lot____eq__ (κ : String → Nat) : Fn := fnM 2 0 []
    (retM (andV (isCM (κ "Lot") (varM 1)) (eqTM (κ "Table") (m_Table____eq__ κ) (fldM [κ "Lot"] "tables" (varM 0)) (fldM [κ "Lot"] "tables" (varM 1)))))
noncomputable def m_law (κ : String → Nat) : Fn := fnM 1 15 []
    (seqM (setM 1 (callM (m__law_begin κ) [] (consA (varM 0) nilA)))
    (seqM (setM 2 (compM [14] (rng1 (consD (binM addG (constM (.int 1)) (callM (m__law_draw κ) [0] (consA (varM 1) (consA (constM (.int 3)) nilA)))) nilD)) (nameG 14) yesM (esc (callM (m__law_rule κ) [0] (consA (varM 1) nilA)))))
    (seqM (forM (nameI 2) (tupG 2 (consG (nameG 3) (consG (nameG 12) nilG))) (seqM (setM 13 (fzM (makeM (κ "Table") (m_Table____init__ κ) (consA (varM 3) (consA (varM 12) nilA)))))
    (seqM (ifS (boolM (binM neG (callM (m_shape κ) [] (consA (varM 13) nilA)) (callM (m__law_shape κ) [] (consA (tupM (consD (varM 3) (consD (varM 12) nilD))) nilA)))) (retM (constM (.bl false))) nextM)
    (seqM (setM 7 (callM (m_softened κ) [] (consA (varM 13) nilA)))
    (ifS (orM (boolM (binM neG (fldM [κ "Table"] "places" (varM 7)) (varM 3))) (boolM (binM neG (fldM [κ "Table"] "prices" (varM 7)) (binM atX (callM (m__law_softened κ) [] (consA (tupM (consD (varM 3) (consD (varM 12) nilD))) nilA)) (constM (.int 1)))))) (retM (constM (.bl false))) nextM)))))
    (seqM (setM 3 (binM addG (constM (.int 1)) (callM (m__law_draw κ) [0] (consA (varM 1) (consA (constM (.int 3)) nilA)))))
    (seqM (setM 4 (callM (m__law_pick κ) [0] (consA (varM 1) (consA (callM (m__law_spots κ) [] (consA (varM 3) nilA)) nilA))))
    (seqM (setM 5 (callM (m__law_pick κ) [0] (consA (varM 1) (consA (callM (m__law_spots κ) [] (consA (varM 3) nilA)) nilA))))
    (seqM (ifS (boolM (binM neG (callM (m_shape_rows κ) [] (consA (varM 3) (consA (varM 4) (consA (varM 5) nilA)))) (callM (m__law_shape_rows κ) [] (consA (varM 3) (consA (varM 4) (consA (varM 5) nilA)))))) (retM (constM (.bl false))) nextM)
    (seqM (setM 6 (callM (m__law_lot_of κ) [] (consA (varM 2) nilA)))
    (seqM (setM 7 (compM [13] (nameI 2) (nameG 13) yesM (esc (callM (m__law_softened κ) [] (consA (varM 13) nilA)))))
    (seqM (setM 8 (compM [15] (seqI0 (lstM (consD (constM (.str "zero")) (consD (constM (.str "one")) (consD (constM (.str "cut")) nilD))))) (nameG 15) (truM (callM (m__law_kept κ) [] (consA (varM 15) (consA (varM 7) nilA)))) (esc (varM 15))))
    (seqM (ifS (orM (boolM (binM neG (biM listX (consA (callM (m_left_out_kinds κ) [] (consA (varM 6) nilA)) nilA)) (varM 8))) (notM (boolM (ownM (κ "Lot") (m_Lot____eq__ κ) (isInsC (κ "Lot")) (callM (m_soft_lot κ) [] (consA (varM 6) nilA)) (callM (m__law_lot_of κ) [] (consA (varM 7) nilA)))))) (retM (constM (.bl false))) nextM)
    (seqM (setM 9 (callM (m__law_draw κ) [0] (consA (varM 1) (consA (binM addG (biM lenX (consA (varM 2) nilA)) (constM (.int 1))) nilA))))
    (seqM (setM 10 (tupM (consD (constM (.int 1)) (consD (tupM (consD (callM (m__law_draw κ) [0] (consA (varM 1) (consA (constM (.int 3)) nilA))) (consD (binM addG (constM (.int 3)) (callM (m__law_draw κ) [0] (consA (varM 1) (consA (constM (.int 3)) nilA)))) nilD))) nilD))))
    (seqM (setM 11 (callM (m__law_lot_of κ) [] (consA (binM addG (binM addG (cutM (varM 2) noP (someP (varM 9))) (lstM (consD (varM 10) nilD))) (cutM (varM 2) (someP (varM 9)) noP)) nilA)))
    (retM (andV (binM eqG (callM (m__law_refused κ) [] (consA (callM (m__law_draw κ) [0] (consA (varM 1) (consA (constM (.int 2)) nilA))) (consA (varM 11) nilA))) (varM 9)) (binM eqG (callM (m__law_refused κ) [] (consA (callM (m__law_draw κ) [0] (consA (varM 1) (consA (constM (.int 2)) nilA))) (consA (varM 6) nilA))) (constM (.str "let")))))))))))))))))))
end Ev.W

set_option Elab.async false
set_option linter.all false
set_option maxRecDepth 100000
set_option autoImplicit false
namespace Ev.W
open PySem PySem.Spec PyProof.Rows L2 Ev
def topS (i : Nat) : Stmt := PySem.Challenge.pw_pricedrules_k71_shapes_of_rules.main.body.getD i (.Pass ⟨0, 0, 0, 0⟩)
/-- the built-ins' names are free; constants; classes -/
structure Bl (K : PySem.W.Frag) (mg : Str → Option Value) (κ : String → Nat) : Prop where
  abs_ : mg "abs" = none
  all_ : mg "all" = none
  bool_ : mg "bool" = none
  int_ : mg "int" = none
  isinstance_ : mg "isinstance" = none
  len_ : mg "len" = none
  list_ : mg "list" = none
  range_ : mg "range" = none
  reversed_ : mg "reversed" = none
  tuple_ : mg "tuple" = none
  k_DEAREST : Kst mg "DEAREST" (.int 1000)
  k_GREATEST : Kst mg "GREATEST" (.int 100000000000000000000000000000000000000000000000000)
  k_PLACES : Kst mg "PLACES" (.int 4)
  k_TABLES : Kst mg "TABLES" (.int 16)
  is_Lot : IsC K mg "Lot" (κ "Lot")
  is_Table : IsC K mg "Table" (κ "Table")
  cl_Lot : Cls K (κ "Lot")
  cl_Table : Cls K (κ "Table")
  no_Lot_swaps : NoAttr K (κ "Lot") "swaps"
  no_Lot_tables : NoAttr K (κ "Lot") "tables"
  no_Table_least : NoAttr K (κ "Table") "least"
  no_Table_most : NoAttr K (κ "Table") "most"
  no_Table_places : NoAttr K (κ "Table") "places"
  no_Table_prices : NoAttr K (κ "Table") "prices"
  ea_BadLot : ExcAt K mg "BadLot" (κ "BadLot") "at"
/-! BadLot -/
abbrev s_BadLot____init__ : Stmt := inClass (topS 5) 0
theorem sc_BadLot____init__ : FnScope ["self", "at"] ["self", "at"] (defScope s_BadLot____init__) := ⟨rfl, rfl, rfl, by decide +kernel, rfl, by decide +kernel, by decide +kernel⟩
theorem ok_BadLot____init__ {P : Program} {w : World} {K : PySem.W.Frag} {mg : Str → Option Value} {base : Heap} {C CP fI : Addr} {mc : Value} {fd : FuncData} (Fu : Fun K "__init__" "BadLot.__init__" s_BadLot____init__ fI fd) (T : OexC K C) (hno : PySem.W.findIn K (.ref C) "at" = some none) (pb : ExcBase K mg CP mc) :
    FnOk P w K mg base CX0 1 fI fd ["self", "at"] (spInit C "at" false) :=
  exc_fn Fu sc_BadLot____init__ T hno (fun cdv A outer s H E => pss_cons (ps_expr (pe_cinit pb (pa_cons (pe_var (i := 0) rfl (Or.inl rfl)) (pa_cons pe_str pa_nil)))) (pss_one (ps_ost (pe_var (i := 0) rfl (Or.inl rfl)) (pe_var (i := 1) rfl (Or.inl rfl))))) te_any
/-! is_whole -/
abbrev s_is_whole : Stmt := topS 7
theorem sc_is_whole : FnScope ["value", "low", "high"] ["value", "low", "high"] (defScope s_is_whole) := ⟨rfl, rfl, rfl, by decide +kernel, rfl, by decide +kernel, by decide +kernel⟩
theorem ok_is_whole {P : Program} {w : World} {K : PySem.W.Frag} {mg : Str → Option Value} {κ : String → Nat} {base : Heap} {f : Addr} {fd : FuncData} (Fu : Fun K "is_whole" "is_whole" s_is_whole f fd) (b : Bl K mg κ)  :
    FnOk P w K mg base CX0 1 f fd ["value", "low", "high"] (spF K (m_is_whole κ) 3) := by
  refine fn_ok (k := 0) (io := []) Fu sc_is_whole rfl rfl (fun cdv A outer s H E hr => ?_)
  have hu := room64 hr
  exact ⟨_, by decide, (sse_one (se_ret (oe_and (oe_isi1 (oe_var 0) b.isinstance_ b.int_ (by decide +kernel)) (oe_and (oe_not (oe_isi1 (oe_var 0) b.isinstance_ b.bool_ (by decide +kernel))) (oe_one (oe_le_le (oe_var 1) (oe_var 0) (oe_var 2)))))))⟩
/-! lower -/
abbrev s_lower : Stmt := topS 11
theorem sc_lower : FnScope ["first", "second"] ["first", "second"] (defScope s_lower) := ⟨rfl, rfl, rfl, by decide +kernel, rfl, by decide +kernel, by decide +kernel⟩
theorem ok_lower {P : Program} {w : World} {K : PySem.W.Frag} {mg : Str → Option Value} {κ : String → Nat} {base : Heap} {f : Addr} {fd : FuncData} (Fu : Fun K "lower" "lower" s_lower f fd) (b : Bl K mg κ)  :
    FnOk P w K mg base CX0 1 f fd ["first", "second"] (spF K (m_lower κ) 2) := by
  refine fn_ok (k := 0) (io := []) Fu sc_lower rfl rfl (fun cdv A outer s H E hr => ?_)
  have hu := room64 hr
  exact ⟨_, by decide, (sse_cons (se_if (te_is (oe_var 0) oe_non) (sse_one (se_ret (oe_var 1))) sse_nil)
    (sse_cons (se_if (te_is (oe_var 1) oe_non) (sse_one (se_ret (oe_var 0))) sse_nil)
    (sse_one (se_ret (oe_if (te_le (oe_var 0) (oe_var 1)) (oe_var 0) (oe_var 1))))))⟩
/-! lowest -/
abbrev s_lowest : Stmt := topS 12
theorem sc_lowest : FnScope ["prices", "best", "price"] ["prices"] (defScope s_lowest) := ⟨rfl, rfl, rfl, by decide +kernel, rfl, by decide +kernel, by decide +kernel⟩
theorem ok_lowest {P : Program} {w : World} {K : PySem.W.Frag} {mg : Str → Option Value} {κ : String → Nat} {base : Heap} {f : Addr} {fd : FuncData} (Fu : Fun K "lowest" "lowest" s_lowest f fd) (b : Bl K mg κ) (c_lower : Callee P w K mg base 1 "lower" 2 (m_lower κ)) :
    FnOk P w K mg base CX0 2 f fd ["prices"] (spF K (m_lowest κ) 1) := by
  refine fn_ok (k := 1) (io := []) Fu sc_lowest rfl rfl (fun cdv A outer s H E hr => ?_)
  have hu := room64 hr
  exact ⟨_, by decide, (sse_cons (se_set 1 sc_lowest.nd oe_non)
    (sse_cons (se_for PassesOwn.never rfl (ie_name 0) (ge_name (i := 2) sc_lowest.nd) (sse_one (se_set 1 sc_lowest.nd (oe_callC c_lower (hr.mono (by decide)) (ae_cons (oe_var 1) (ae_cons (oe_var 2) ae_nil)) (consA_len (consA_len (fun _ _ _ h => nilA_len h)))))))
    (sse_one (se_ret (oe_var 1)))))⟩
/-! highest -/
abbrev s_highest : Stmt := topS 13
theorem sc_highest : FnScope ["prices", "best", "price"] ["prices"] (defScope s_highest) := ⟨rfl, rfl, rfl, by decide +kernel, rfl, by decide +kernel, by decide +kernel⟩
theorem ok_highest {P : Program} {w : World} {K : PySem.W.Frag} {mg : Str → Option Value} {κ : String → Nat} {base : Heap} {f : Addr} {fd : FuncData} (Fu : Fun K "highest" "highest" s_highest f fd) (b : Bl K mg κ)  :
    FnOk P w K mg base CX0 1 f fd ["prices"] (spF K (m_highest κ) 1) := by
  refine fn_ok (k := 0) (io := []) Fu sc_highest rfl rfl (fun cdv A outer s H E hr => ?_)
  have hu := room64 hr
  exact ⟨_, by decide, (sse_cons (se_set 1 sc_highest.nd oe_non)
    (sse_cons (se_for PassesOwn.never rfl (ie_name 0) (ge_name (i := 2) sc_highest.nd) (sse_one (se_if ((tw_and (te_isn (oe_var 2) oe_non) (tw_and1 ((tw_or (te_is (oe_var 1) oe_non) (tw_or1 (te_gt (oe_var 2) (oe_var 1))))).te))).te (sse_one (se_set 1 sc_highest.nd (oe_var 2))) sse_nil)))
    (sse_one (se_ret (oe_var 1)))))⟩
/-! bits_of -/
abbrev s_bits_of : Stmt := topS 14
theorem sc_bits_of : FnScope ["mask", "many", "spot"] ["mask", "many"] (defScope s_bits_of) := ⟨rfl, rfl, rfl, by decide +kernel, rfl, by decide +kernel, by decide +kernel⟩
theorem ok_bits_of {P : Program} {w : World} {K : PySem.W.Frag} {mg : Str → Option Value} {κ : String → Nat} {base : Heap} {f : Addr} {fd : FuncData} (Fu : Fun K "bits_of" "bits_of" s_bits_of f fd) (b : Bl K mg κ)  :
    FnOk P w K mg base CX0 1 f fd ["mask", "many"] (spF K (m_bits_of κ) 2) := by
  refine fn_ok (k := 0) (io := []) Fu sc_bits_of rfl rfl (fun cdv A outer s H E hr => ?_)
  have hu := room64 hr
  exact ⟨_, by decide, (sse_one (se_ret (oe_comp rfl sc_bits_of.nd (ie_range1 (by rfl) b.range_ (de_cons (oe_var 1) de_nil)) (blkOk_by (own := [("spot", 2)]) (by exact rfl)) (fun _ _ _ _ _ => (ge_name (i := 2) sc_bits_of.nd)) (fun _ _ _ _ _ => (if_one (te_tru (oe_band (oe_shr (oe_var 0) (oe_var 2)) oe_int)))) (fun _ _ _ _ _ => (oe_var 2)))))⟩
/-! row_of -/
abbrev s_row_of : Stmt := topS 17
theorem sc_row_of : FnScope ["number", "places", "place"] ["number", "places"] (defScope s_row_of) := ⟨rfl, rfl, rfl, by decide +kernel, rfl, by decide +kernel, by decide +kernel⟩
theorem ok_row_of {P : Program} {w : World} {K : PySem.W.Frag} {mg : Str → Option Value} {κ : String → Nat} {base : Heap} {f : Addr} {fd : FuncData} (Fu : Fun K "row_of" "row_of" s_row_of f fd) (b : Bl K mg κ)  :
    FnOk P w K mg base CX0 1 f fd ["number", "places"] (spF K (m_row_of κ) 2) := by
  refine fn_ok (k := 0) (io := []) Fu sc_row_of rfl rfl (fun cdv A outer s H E hr => ?_)
  have hu := room64 hr
  exact ⟨_, by decide, (sse_one (se_ret (oe_tuple (ae_cons (oe_comp rfl sc_row_of.nd (ie_range1 (by rfl) b.range_ (de_cons (oe_var 1) de_nil)) (blkOk_by (own := [("place", 2)]) (by exact rfl)) (fun _ _ _ _ _ => (ge_name (i := 2) sc_row_of.nd)) (fun _ _ _ _ _ => if_nil) (fun _ _ _ _ _ => (oe_band (oe_shr (oe_var 0) (oe_sub (oe_sub (oe_var 1) oe_int) (oe_var 2))) oe_int))) ae_nil) b.tuple_)))⟩
/-! rows_of -/
abbrev s_rows_of : Stmt := topS 18
theorem sc_rows_of : FnScope ["places", "number"] ["places"] (defScope s_rows_of) := ⟨rfl, rfl, rfl, by decide +kernel, rfl, by decide +kernel, by decide +kernel⟩
theorem ok_rows_of {P : Program} {w : World} {K : PySem.W.Frag} {mg : Str → Option Value} {κ : String → Nat} {base : Heap} {f : Addr} {fd : FuncData} (Fu : Fun K "rows_of" "rows_of" s_rows_of f fd) (b : Bl K mg κ) (c_row_of : Callee P w K mg base 1 "row_of" 2 (m_row_of κ)) :
    FnOk P w K mg base CX0 2 f fd ["places"] (spF K (m_rows_of κ) 1) := by
  refine fn_ok (k := 1) (io := []) Fu sc_rows_of rfl rfl (fun cdv A outer s H E hr => ?_)
  have hu := room64 hr
  exact ⟨_, by decide, (sse_one (se_ret (oe_comp rfl sc_rows_of.nd (ie_range1 (by rfl) b.range_ (de_cons (oe_shl oe_int (oe_var 0)) de_nil)) (blkOk_by (own := [("number", 1)]) (by exact rfl)) (fun _ _ _ _ _ => (ge_name (i := 1) sc_rows_of.nd)) (fun _ _ _ _ _ => if_nil) (fun _ _ _ _ _ => (oe_callC c_row_of (hr.mono (by decide)) (ae_cons (oe_var 1) (ae_cons (oe_var 0) ae_nil)) (consA_len (consA_len (fun _ _ _ h => nilA_len h))))))))⟩
/-! Table.__init__ -/
abbrev s_Table____init__ : Stmt := inClass (topS 22) 0
theorem sc_Table____init__ : FnScope ["self", "places", "prices", "price"] ["self", "places", "prices"] (defScope s_Table____init__) := ⟨rfl, rfl, rfl, by decide +kernel, rfl, by decide +kernel, by decide +kernel⟩
theorem ok_Table____init__ {P : Program} {w : World} {K : PySem.W.Frag} {mg : Str → Option Value} {κ : String → Nat} {base : Heap} {f : Addr} {fd : FuncData} (Fu : Fun K "__init__" "Table.__init__" s_Table____init__ f fd) (b : Bl K mg κ) (c_highest : Callee P w K mg base 1 "highest" 1 (m_highest κ)) (c_is_whole : Callee P w K mg base 1 "is_whole" 3 (m_is_whole κ)) (c_lowest : Callee P w K mg base 2 "lowest" 1 (m_lowest κ)) :
    FnOk P w K mg base CX0 3 f fd ["self", "places", "prices"] (spF K (m_Table____init__ κ) 3) := by
  refine fn_ok (k := 2) (io := [0]) Fu sc_Table____init__ rfl rfl (fun cdv A outer s H E hr => ?_)
  have hu := room64 hr
  exact ⟨_, by decide, (sse_cons (se_if (te_not (te_tru (oe_callC c_is_whole (hr.mono (by decide)) (ae_cons (oe_var 1) (ae_cons oe_int (ae_cons (oe_glob b.k_PLACES) ae_nil))) (consA_len (consA_len (consA_len (fun _ _ _ h => nilA_len h))))))) (sse_one se_never) sse_nil)
    (sse_cons (se_if ((tw_or (te_not (te_tru (oe_isi1 (oe_var 2) b.isinstance_ b.tuple_ (by decide +kernel)))) (tw_or1 (te_ne hu (oe_lenX (ae_cons (oe_var 2) ae_nil) b.len_) (oe_shl oe_int (oe_var 1)))))).te (sse_one se_never) sse_nil)
    (sse_cons (se_for PassesOwn.never rfl (ie_name 2) (ge_name (i := 3) sc_Table____init__.nd) (sse_one (se_if ((tw_and (te_isn (oe_var 3) oe_non) (tw_and1 (te_not (te_tru (oe_callC c_is_whole (hr.mono (by decide)) (ae_cons (oe_var 3) (ae_cons oe_int (ae_cons (oe_glob b.k_GREATEST) ae_nil))) (consA_len (consA_len (consA_len (fun _ _ _ h => nilA_len h)))))))))).te (sse_one se_never) sse_nil)))
    (sse_cons (se_fld 0 (oe_var 1) (flds_cons b.cl_Table b.no_Table_places flds_nil))
    (sse_cons (se_fld 0 (oe_var 2) (flds_cons b.cl_Table b.no_Table_prices flds_nil))
    (sse_cons (se_fld 0 (oe_callC c_lowest (hr.mono (by decide)) (ae_cons (oe_var 2) ae_nil) (consA_len (fun _ _ _ h => nilA_len h))) (flds_cons b.cl_Table b.no_Table_least flds_nil))
    (sse_one (se_fld 0 (oe_callC c_highest (hr.mono (by decide)) (ae_cons (oe_var 2) ae_nil) (consA_len (fun _ _ _ h => nilA_len h))) (flds_cons b.cl_Table b.no_Table_most flds_nil)))))))))⟩
/-! swapped -/
abbrev s_swapped : Stmt := topS 23
theorem sc_swapped : FnScope ["table", "price"] ["table"] (defScope s_swapped) := ⟨rfl, rfl, rfl, by decide +kernel, rfl, by decide +kernel, by decide +kernel⟩
theorem ok_swapped {P : Program} {w : World} {K : PySem.W.Frag} {mg : Str → Option Value} {κ : String → Nat} {base : Heap} {f : Addr} {fd : FuncData} (Fu : Fun K "swapped" "swapped" s_swapped f fd) (b : Bl K mg κ) (c_Table____init__ : MakerOf P w K mg base 3 "Table" (κ "Table") 3 (m_Table____init__ κ)) :
    FnOk P w K mg base CX0 5 f fd ["table"] (spF K (m_swapped κ) 1) := by
  refine fn_ok (k := 4) (io := []) Fu sc_swapped rfl rfl (fun cdv A outer s H E hr => ?_)
  have hu := room64 hr
  exact ⟨_, by decide, (sse_one (se_ret (oe_make c_Table____init__ (hr.mono (by decide)) (ae_cons (oe_fld (oe_var 0) (flds_cons b.cl_Table b.no_Table_places flds_nil)) (ae_cons (oe_tuple (ae_cons (oe_comp rfl sc_swapped.nd (ie_rev b.reversed_ (oe_fld (oe_var 0) (flds_cons b.cl_Table b.no_Table_prices flds_nil))) (blkOk_by (own := [("price", 1)]) (by exact rfl)) (fun _ _ _ _ _ => (ge_name (i := 1) sc_swapped.nd)) (fun _ _ _ _ _ => if_nil) (fun _ _ _ _ _ => (oe_var 1))) ae_nil) b.tuple_) ae_nil)) (len_up (consA_len (consA_len (fun _ _ _ h => nilA_len h))))).fz))⟩
/-! is_told -/
abbrev s_is_told : Stmt := topS 27
theorem sc_is_told : FnScope ["table"] ["table"] (defScope s_is_told) := ⟨rfl, rfl, rfl, by decide +kernel, rfl, by decide +kernel, by decide +kernel⟩
theorem ok_is_told {P : Program} {w : World} {K : PySem.W.Frag} {mg : Str → Option Value} {κ : String → Nat} {base : Heap} {f : Addr} {fd : FuncData} (Fu : Fun K "is_told" "is_told" s_is_told f fd) (b : Bl K mg κ)  :
    FnOk P w K mg base CX0 1 f fd ["table"] (spF K (m_is_told κ) 1) := by
  refine fn_ok (k := 0) (io := []) Fu sc_is_told rfl rfl (fun cdv A outer s H E hr => ?_)
  have hu := room64 hr
  exact ⟨_, by decide, (sse_cons (se_if ((tw_or (te_not (te_tru (oe_isC b.is_Table (oe_var 0) b.isinstance_))) (tw_or (te_eq hu (oe_fld (oe_var 0) (flds_cons b.cl_Table b.no_Table_places flds_nil)) oe_int) (tw_or1 (te_is (oe_fld (oe_var 0) (flds_cons b.cl_Table b.no_Table_least flds_nil)) oe_non))))).te (sse_one (se_ret oe_bl)) sse_nil)
    (sse_one (se_ret (oe_le (oe_fld (oe_var 0) (flds_cons b.cl_Table b.no_Table_most flds_nil)) (oe_glob b.k_DEAREST)))))⟩
/-! softened -/
abbrev s_softened : Stmt := topS 30
theorem sc_softened : FnScope ["table", "price"] ["table"] (defScope s_softened) := ⟨rfl, rfl, rfl, by decide +kernel, rfl, by decide +kernel, by decide +kernel⟩
theorem ok_softened {P : Program} {w : World} {K : PySem.W.Frag} {mg : Str → Option Value} {κ : String → Nat} {base : Heap} {f : Addr} {fd : FuncData} (Fu : Fun K "softened" "softened" s_softened f fd) (b : Bl K mg κ) (c_Table____init__ : MakerOf P w K mg base 3 "Table" (κ "Table") 3 (m_Table____init__ κ)) :
    FnOk P w K mg base CX0 5 f fd ["table"] (spF K (m_softened κ) 1) := by
  refine fn_ok (k := 4) (io := []) Fu sc_softened rfl rfl (fun cdv A outer s H E hr => ?_)
  have hu := room64 hr
  exact ⟨_, by decide, (sse_one (se_ret (oe_make c_Table____init__ (hr.mono (by decide)) (ae_cons (oe_fld (oe_var 0) (flds_cons b.cl_Table b.no_Table_places flds_nil)) (ae_cons (oe_tuple (ae_cons (oe_comp rfl sc_softened.nd (ie_seq (oe_fld (oe_var 0) (flds_cons b.cl_Table b.no_Table_prices flds_nil))) (blkOk_by (own := [("price", 1)]) (by exact rfl)) (fun _ _ _ _ _ => (ge_name (i := 1) sc_softened.nd)) (fun _ _ _ _ _ => if_nil) (fun _ _ _ _ _ => (oe_if (te_is (oe_var 1) oe_non) oe_int oe_int))) ae_nil) b.tuple_) ae_nil)) (len_up (consA_len (consA_len (fun _ _ _ h => nilA_len h))))).fz))⟩
/-! Table.crisp -/
abbrev s_Table__crisp : Stmt := inClass (topS 22) 2
theorem sc_Table__crisp : FnScope ["self"] ["self"] (defScope s_Table__crisp) := ⟨rfl, rfl, rfl, by decide +kernel, rfl, by decide +kernel, by decide +kernel⟩
theorem ok_Table__crisp {P : Program} {w : World} {K : PySem.W.Frag} {mg : Str → Option Value} {κ : String → Nat} {base : Heap} {f : Addr} {fd : FuncData} (Fu : Fun K "crisp" "Table.crisp" s_Table__crisp f fd) (b : Bl K mg κ)  :
    FnOk P w K mg base CX0 1 f fd ["self"] (spF K (m_Table__crisp κ) 1) := by
  refine fn_ok (k := 0) (io := []) Fu sc_Table__crisp rfl rfl (fun cdv A outer s H E hr => ?_)
  have hu := room64 hr
  exact ⟨_, by decide, (sse_one (se_ret (oe_eq hu (oe_fld (oe_var 0) (flds_cons b.cl_Table b.no_Table_least flds_nil)) (oe_fld (oe_var 0) (flds_cons b.cl_Table b.no_Table_most flds_nil)))))⟩
/-! check_rules -/
abbrev s_check_rules : Stmt := topS 31
theorem sc_check_rules : FnScope ["lot", "at"] ["lot"] (defScope s_check_rules) := ⟨rfl, rfl, rfl, by decide +kernel, rfl, by decide +kernel, by decide +kernel⟩
theorem ok_check_rules {P : Program} {w : World} {K : PySem.W.Frag} {mg : Str → Option Value} {κ : String → Nat} {base : Heap} {f : Addr} {fd : FuncData} (Fu : Fun K "check_rules" "check_rules" s_check_rules f fd) (b : Bl K mg κ) (c_Table__crisp : PropOn P w K mg base 1 (κ "Table") "crisp" (m_Table__crisp κ)) :
    FnOk P w K mg base CX0 3 f fd ["lot"] (spF K (m_check_rules κ) 1) := by
  refine fn_ok (k := 2) (io := []) Fu sc_check_rules rfl rfl (fun cdv A outer s H E hr => ?_)
  have hu := room64 hr
  exact ⟨_, by decide, (sse_one (se_for PassesOwn.never rfl (ie_range1 (by rfl) b.range_ (de_cons (oe_lenX (ae_cons (oe_fld (oe_var 0) (flds_cons b.cl_Lot b.no_Lot_tables flds_nil)) ae_nil) b.len_) de_nil)) (ge_name (i := 1) sc_check_rules.nd) (sse_one (se_if (te_not (te_tru (oe_prop c_Table__crisp (hr.mono (by decide)) (oe_atX hu (oe_fld (oe_var 0) (flds_cons b.cl_Lot b.no_Lot_tables flds_nil)) (oe_var 1))))) (sse_one se_never) sse_nil))))⟩
/-! Table.__eq__ -/
abbrev s_Table____eq__ : Stmt := inClass (topS 22) 7
theorem sc_Table____eq__ : FnScope ["self", "other"] ["self", "other"] (defScope s_Table____eq__) := ⟨rfl, rfl, rfl, by decide +kernel, rfl, by decide +kernel, by decide +kernel⟩
theorem ok_Table____eq__ {P : Program} {w : World} {K : PySem.W.Frag} {mg : Str → Option Value} {κ : String → Nat} {base : Heap} {f : Addr} {fd : FuncData} (Fu : Fun K "__eq__" "Table.__eq__" s_Table____eq__ f fd) (b : Bl K mg κ)  :
    FnOk P w K mg base CX0 1 f fd ["self", "other"] (spF K (m_Table____eq__ κ) 2) := by
  refine fn_ok (k := 0) (io := []) Fu sc_Table____eq__ rfl rfl (fun cdv A outer s H E hr => ?_)
  have hu := room64 hr
  exact ⟨_, by decide, (sse_one (se_ret (oe_and (oe_isC b.is_Table (oe_var 1) b.isinstance_) (oe_and (oe_eq hu (oe_fld (oe_var 0) (flds_cons b.cl_Table b.no_Table_places flds_nil)) (oe_fld (oe_var 1) (flds_cons b.cl_Table b.no_Table_places flds_nil))) (oe_one (oe_eq hu (oe_fld (oe_var 0) (flds_cons b.cl_Table b.no_Table_prices flds_nil)) (oe_fld (oe_var 1) (flds_cons b.cl_Table b.no_Table_prices flds_nil))))))))⟩
/-! Lot.__init__ -/
abbrev s_Lot____init__ : Stmt := inClass (topS 28) 0
theorem sc_Lot____init__ : FnScope ["self", "tables", "at", "table"] ["self", "tables"] (defScope s_Lot____init__) := ⟨rfl, rfl, rfl, by decide +kernel, rfl, by decide +kernel, by decide +kernel⟩
theorem ok_Lot____init__ {P : Program} {w : World} {K : PySem.W.Frag} {mg : Str → Option Value} {κ : String → Nat} {base : Heap} {f : Addr} {fd : FuncData} (Fu : Fun K "__init__" "Lot.__init__" s_Lot____init__ f fd) (b : Bl K mg κ) (c_Table____eq__ : OwnOp P w K mg base 1 (κ "Table") "__eq__" (m_Table____eq__ κ)) (c_is_told : Callee P w K mg base 1 "is_told" 1 (m_is_told κ)) (c_swapped : Callee P w K mg base 5 "swapped" 1 (m_swapped κ)) :
    FnOk P w K mg base CX0 6 f fd ["self", "tables"] (spF K (m_Lot____init__ κ) 2) := by
  refine fn_ok (k := 5) (io := [0]) Fu sc_Lot____init__ rfl rfl (fun cdv A outer s H E hr => ?_)
  have hu := room64 hr
  exact ⟨_, by decide, (sse_cons (se_if ((tw_or (te_not (te_tru (oe_isi1 (oe_var 1) b.isinstance_ b.tuple_ (by decide +kernel)))) (tw_or1 (te_not (te_le_le oe_int (oe_lenX (ae_cons (oe_var 1) ae_nil) b.len_) (oe_glob b.k_TABLES)))))).te (sse_one se_never) sse_nil)
    (sse_cons (se_for PassesOwn.never rfl (ie_range1 (by rfl) b.range_ (de_cons (oe_lenX (ae_cons (oe_var 1) ae_nil) b.len_) de_nil)) (ge_name (i := 2) sc_Lot____init__.nd) (sse_one (se_if (te_not (te_tru (oe_callC c_is_told (hr.mono (by decide)) (ae_cons (oe_atX hu (oe_var 1) (oe_var 2)) ae_nil) (consA_len (fun _ _ _ h => nilA_len h))))) (sse_one se_never) sse_nil)))
    (sse_cons (se_fld 0 (oe_var 1) (flds_cons b.cl_Lot b.no_Lot_tables flds_nil))
    (sse_one (se_fld 0 (oe_allT rfl (ae_cons (oe_comp rfl sc_Lot____init__.nd (ie_name 1) (blkOk_by (own := [("table", 3)]) (by exact rfl)) (fun _ _ _ _ _ => (ge_name (i := 3) sc_Lot____init__.nd)) (fun _ _ _ _ _ => if_nil) (fun _ _ _ _ _ => (oe_ownEq c_Table____eq__ rfl (hr.mono (by decide)) (oe_callC c_swapped (hr.mono (by decide)) (ae_cons (oe_var 3) ae_nil) (consA_len (fun _ _ _ h => nilA_len h))) (oe_var 3)))) ae_nil) b.all_) (flds_cons b.cl_Lot b.no_Lot_swaps flds_nil))))))⟩
/-! soft_lot -/
abbrev s_soft_lot : Stmt := topS 32
theorem sc_soft_lot : FnScope ["lot", "table"] ["lot"] (defScope s_soft_lot) := ⟨rfl, rfl, rfl, by decide +kernel, rfl, by decide +kernel, by decide +kernel⟩
theorem ok_soft_lot {P : Program} {w : World} {K : PySem.W.Frag} {mg : Str → Option Value} {κ : String → Nat} {base : Heap} {f : Addr} {fd : FuncData} (Fu : Fun K "soft_lot" "soft_lot" s_soft_lot f fd) (b : Bl K mg κ) (c_Lot____init__ : MakerOf P w K mg base 6 "Lot" (κ "Lot") 2 (m_Lot____init__ κ)) (c_check_rules : Callee P w K mg base 3 "check_rules" 1 (m_check_rules κ)) (c_softened : Callee P w K mg base 5 "softened" 1 (m_softened κ)) :
    FnOk P w K mg base CX0 8 f fd ["lot"] (spF K (m_soft_lot κ) 1) := by
  refine fn_ok (k := 7) (io := []) Fu sc_soft_lot rfl rfl (fun cdv A outer s H E hr => ?_)
  have hu := room64 hr
  exact ⟨_, by decide, (sse_cons (se_expr (oe_callC c_check_rules (hr.mono (by decide)) (ae_cons (oe_var 0) ae_nil) (consA_len (fun _ _ _ h => nilA_len h))))
    (sse_one (se_ret (oe_make c_Lot____init__ (hr.mono (by decide)) (ae_cons (oe_tuple (ae_cons (oe_comp rfl sc_soft_lot.nd (ie_seq (oe_fld (oe_var 0) (flds_cons b.cl_Lot b.no_Lot_tables flds_nil))) (blkOk_by (own := [("table", 1)]) (by exact rfl)) (fun _ _ _ _ _ => (ge_name (i := 1) sc_soft_lot.nd)) (fun _ _ _ _ _ => if_nil) (fun _ _ _ _ _ => (oe_callC c_softened (hr.mono (by decide)) (ae_cons (oe_var 1) ae_nil) (consA_len (fun _ _ _ h => nilA_len h))))) ae_nil) b.tuple_) ae_nil) (len_up (consA_len (fun _ _ _ h => nilA_len h)))).fz)))⟩
/-! shape_rows -/
abbrev s_shape_rows : Stmt := topS 33
theorem sc_shape_rows : FnScope ["places", "ones", "zeros", "found", "row", "full", "spot"] ["places", "ones", "zeros"] (defScope s_shape_rows) := ⟨rfl, rfl, rfl, by decide +kernel, rfl, by decide +kernel, by decide +kernel⟩
theorem ok_shape_rows {P : Program} {w : World} {K : PySem.W.Frag} {mg : Str → Option Value} {κ : String → Nat} {base : Heap} {f : Addr} {fd : FuncData} (Fu : Fun K "shape_rows" "shape_rows" s_shape_rows f fd) (b : Bl K mg κ) (c_rows_of : Callee P w K mg base 2 "rows_of" 1 (m_rows_of κ)) :
    FnOk P w K mg base CX0 3 f fd ["places", "ones", "zeros"] (spF K (m_shape_rows κ) 3) := by
  refine fn_ok (k := 2) (io := []) Fu sc_shape_rows rfl rfl (fun cdv A outer s H E hr => ?_)
  have hu := room64 hr
  exact ⟨_, by decide, (sse_cons (se_set 3 sc_shape_rows.nd (oe_lst de_nil))
    (sse_cons (se_for PassesOwn.never rfl (ie_seq (oe_callC c_rows_of (hr.mono (by decide)) (ae_cons (oe_var 0) ae_nil) (consA_len (fun _ _ _ h => nilA_len h)))) (ge_name (i := 4) sc_shape_rows.nd) (sse_cons (se_set 5 sc_shape_rows.nd (oe_and (oe_isn (oe_var 1) oe_non) (oe_one (oe_allT rfl (ae_cons (oe_comp rfl sc_shape_rows.nd (ie_name 1) (blkOk_by (own := [("spot", 6)]) (by exact rfl)) (fun _ _ _ _ _ => (ge_name (i := 6) sc_shape_rows.nd)) (fun _ _ _ _ _ => if_nil) (fun _ _ _ _ _ => (oe_eq hu (oe_atX hu (oe_var 4) (oe_var 6)) oe_int))) ae_nil) b.all_))))
    (sse_one (se_if ((tw_or (te_tru (oe_var 5)) (tw_or1 ((tw_and (te_isn (oe_var 2) oe_non) (tw_and1 (te_tru (oe_allT rfl (ae_cons (oe_comp rfl sc_shape_rows.nd (ie_name 2) (blkOk_by (own := [("spot", 6)]) (by exact rfl)) (fun _ _ _ _ _ => (ge_name (i := 6) sc_shape_rows.nd)) (fun _ _ _ _ _ => if_nil) (fun _ _ _ _ _ => (oe_eq hu (oe_atX hu (oe_var 4) (oe_var 6)) oe_int))) ae_nil) b.all_))))).te))).te (sse_one (se_expr (oe_append 3 (de_cons (oe_var 4) de_nil)))) sse_nil))))
    (sse_one (se_ret (oe_var 3)))))⟩
/-! Table.open_numbers -/
abbrev s_Table__open_numbers : Stmt := inClass (topS 22) 4
theorem sc_Table__open_numbers : FnScope ["self", "number"] ["self"] (defScope s_Table__open_numbers) := ⟨rfl, rfl, rfl, by decide +kernel, rfl, by decide +kernel, by decide +kernel⟩
theorem ok_Table__open_numbers {P : Program} {w : World} {K : PySem.W.Frag} {mg : Str → Option Value} {κ : String → Nat} {base : Heap} {f : Addr} {fd : FuncData} (Fu : Fun K "open_numbers" "Table.open_numbers" s_Table__open_numbers f fd) (b : Bl K mg κ)  :
    FnOk P w K mg base CX0 1 f fd ["self"] (spF K (m_Table__open_numbers κ) 1) := by
  refine fn_ok (k := 0) (io := []) Fu sc_Table__open_numbers rfl rfl (fun cdv A outer s H E hr => ?_)
  have hu := room64 hr
  exact ⟨_, by decide, (sse_one (se_ret (oe_comp rfl sc_Table__open_numbers.nd (ie_range1 (by rfl) b.range_ (de_cons (oe_lenX (ae_cons (oe_fld (oe_var 0) (flds_cons b.cl_Table b.no_Table_prices flds_nil)) ae_nil) b.len_) de_nil)) (blkOk_by (own := [("number", 1)]) (by exact rfl)) (fun _ _ _ _ _ => (ge_name (i := 1) sc_Table__open_numbers.nd)) (fun _ _ _ _ _ => (if_one (te_isn (oe_atX hu (oe_fld (oe_var 0) (flds_cons b.cl_Table b.no_Table_prices flds_nil)) (oe_var 1)) oe_non))) (fun _ _ _ _ _ => (oe_var 1)))))⟩
/-! Table.open_rows -/
abbrev s_Table__open_rows : Stmt := inClass (topS 22) 5
theorem sc_Table__open_rows : FnScope ["self", "number"] ["self"] (defScope s_Table__open_rows) := ⟨rfl, rfl, rfl, by decide +kernel, rfl, by decide +kernel, by decide +kernel⟩
theorem ok_Table__open_rows {P : Program} {w : World} {K : PySem.W.Frag} {mg : Str → Option Value} {κ : String → Nat} {base : Heap} {f : Addr} {fd : FuncData} (Fu : Fun K "open_rows" "Table.open_rows" s_Table__open_rows f fd) (b : Bl K mg κ) (c_Table__open_numbers : MethOf P w K mg base 1 (κ "Table") "open_numbers" 1 (m_Table__open_numbers κ)) (c_row_of : Callee P w K mg base 1 "row_of" 2 (m_row_of κ)) :
    FnOk P w K mg base CX0 2 f fd ["self"] (spF K (m_Table__open_rows κ) 1) := by
  refine fn_ok (k := 1) (io := []) Fu sc_Table__open_rows rfl rfl (fun cdv A outer s H E hr => ?_)
  have hu := room64 hr
  exact ⟨_, by decide, (sse_one (se_ret (oe_comp rfl sc_Table__open_rows.nd (ie_seq (oe_mcall0 c_Table__open_numbers (hr.mono (by decide)) (oe_var 0))) (blkOk_by (own := [("number", 1)]) (by exact rfl)) (fun _ _ _ _ _ => (ge_name (i := 1) sc_Table__open_rows.nd)) (fun _ _ _ _ _ => if_nil) (fun _ _ _ _ _ => (oe_callC c_row_of (hr.mono (by decide)) (ae_cons (oe_var 1) (ae_cons (oe_fld (oe_var 0) (flds_cons b.cl_Table b.no_Table_places flds_nil)) ae_nil)) (consA_len (consA_len (fun _ _ _ h => nilA_len h))))))))⟩
/-! shape -/
abbrev s_shape : Stmt := topS 34
theorem sc_shape : FnScope ["table", "rows", "lots", "ones", "zeros", "mask"] ["table"] (defScope s_shape) := ⟨rfl, rfl, rfl, by decide +kernel, rfl, by decide +kernel, by decide +kernel⟩
theorem ok_shape {P : Program} {w : World} {K : PySem.W.Frag} {mg : Str → Option Value} {κ : String → Nat} {base : Heap} {f : Addr} {fd : FuncData} (Fu : Fun K "shape" "shape" s_shape f fd) (b : Bl K mg κ) (c_Table__open_rows : MethOf P w K mg base 2 (κ "Table") "open_rows" 1 (m_Table__open_rows κ)) (c_bits_of : Callee P w K mg base 1 "bits_of" 2 (m_bits_of κ)) (c_shape_rows : Callee P w K mg base 3 "shape_rows" 3 (m_shape_rows κ)) :
    FnOk P w K mg base CX0 4 f fd ["table"] (spF K (m_shape κ) 1) := by
  refine fn_ok (k := 3) (io := []) Fu sc_shape rfl rfl (fun cdv A outer s H E hr => ?_)
  have hu := room64 hr
  exact ⟨_, by decide, (sse_cons (se_set 1 sc_shape.nd (oe_mcall0 c_Table__open_rows (hr.mono (by decide)) (oe_var 0)))
    (sse_cons (se_set 2 sc_shape.nd (oe_lst (de_cons oe_non (de_star (oe_comp rfl sc_shape.nd (ie_range1 (by rfl) b.range_ (de_cons (oe_shl oe_int (oe_fld (oe_var 0) (flds_cons b.cl_Table b.no_Table_places flds_nil))) de_nil)) (blkOk_by (own := [("mask", 5)]) (by exact rfl)) (fun _ _ _ _ _ => (ge_name (i := 5) sc_shape.nd)) (fun _ _ _ _ _ => if_nil) (fun _ _ _ _ _ => (oe_tuple (ae_cons (oe_callC c_bits_of (hr.mono (by decide)) (ae_cons (oe_var 5) (ae_cons (oe_fld (oe_var 0) (flds_cons b.cl_Table b.no_Table_places flds_nil)) ae_nil)) (consA_len (consA_len (fun _ _ _ h => nilA_len h)))) ae_nil) b.tuple_))) de_nil))))
    (sse_cons (se_for PassesOwn.never rfl (ie_name 2) (ge_name (i := 3) sc_shape.nd) (sse_one (se_for PassesOwn.never rfl (ie_name 2) (ge_name (i := 4) sc_shape.nd) (sse_one (se_if (te_eq hu (oe_callC c_shape_rows (hr.mono (by decide)) (ae_cons (oe_fld (oe_var 0) (flds_cons b.cl_Table b.no_Table_places flds_nil)) (ae_cons (oe_var 3) (ae_cons (oe_var 4) ae_nil))) (consA_len (consA_len (consA_len (fun _ _ _ h => nilA_len h))))) (oe_var 1)) (sse_one (se_ret (oe_tup (de_cons (oe_var 3) (de_cons (oe_var 4) de_nil))))) sse_nil)))))
    (sse_one (se_ret oe_non)))))⟩
/-! left_out_kinds -/
abbrev s_left_out_kinds : Stmt := topS 35
theorem sc_left_out_kinds : FnScope ["lot", "found", "table"] ["lot"] (defScope s_left_out_kinds) := ⟨rfl, rfl, rfl, by decide +kernel, rfl, by decide +kernel, by decide +kernel⟩
theorem ok_left_out_kinds {P : Program} {w : World} {K : PySem.W.Frag} {mg : Str → Option Value} {κ : String → Nat} {base : Heap} {f : Addr} {fd : FuncData} (Fu : Fun K "left_out_kinds" "left_out_kinds" s_left_out_kinds f fd) (b : Bl K mg κ) (c_check_rules : Callee P w K mg base 3 "check_rules" 1 (m_check_rules κ)) (c_shape : Callee P w K mg base 4 "shape" 1 (m_shape κ)) :
    FnOk P w K mg base CX0 5 f fd ["lot"] (spF K (m_left_out_kinds κ) 1) := by
  refine fn_ok (k := 4) (io := []) Fu sc_left_out_kinds rfl rfl (fun cdv A outer s H E hr => ?_)
  have hu := room64 hr
  exact ⟨_, by decide, (sse_cons (se_expr (oe_callC c_check_rules (hr.mono (by decide)) (ae_cons (oe_var 0) ae_nil) (consA_len (fun _ _ _ h => nilA_len h))))
    (sse_cons (se_set 1 sc_left_out_kinds.nd (oe_lst de_nil))
    (sse_cons (se_if (te_tru (oe_allT rfl (ae_cons (oe_comp rfl sc_left_out_kinds.nd (ie_seq (oe_fld (oe_var 0) (flds_cons b.cl_Lot b.no_Lot_tables flds_nil))) (blkOk_by (own := [("table", 2)]) (by exact rfl)) (fun _ _ _ _ _ => (ge_name (i := 2) sc_left_out_kinds.nd)) (fun _ _ _ _ _ => if_nil) (fun _ _ _ _ _ => (oe_isn (oe_atX hu (oe_fld (oe_var 2) (flds_cons b.cl_Table b.no_Table_prices flds_nil)) oe_int) oe_non))) ae_nil) b.all_)) (sse_one (se_expr (oe_append 1 (de_cons oe_str de_nil)))) sse_nil)
    (sse_cons (se_if (te_tru (oe_allT rfl (ae_cons (oe_comp rfl sc_left_out_kinds.nd (ie_seq (oe_fld (oe_var 0) (flds_cons b.cl_Lot b.no_Lot_tables flds_nil))) (blkOk_by (own := [("table", 2)]) (by exact rfl)) (fun _ _ _ _ _ => (ge_name (i := 2) sc_left_out_kinds.nd)) (fun _ _ _ _ _ => if_nil) (fun _ _ _ _ _ => (oe_isn (oe_atX hu (oe_fld (oe_var 2) (flds_cons b.cl_Table b.no_Table_prices flds_nil)) (oe_sub (oe_lenX (ae_cons (oe_fld (oe_var 2) (flds_cons b.cl_Table b.no_Table_prices flds_nil)) ae_nil) b.len_) oe_int)) oe_non))) ae_nil) b.all_)) (sse_one (se_expr (oe_append 1 (de_cons oe_str de_nil)))) sse_nil)
    (sse_cons (se_if (te_tru (oe_allT rfl (ae_cons (oe_comp rfl sc_left_out_kinds.nd (ie_seq (oe_fld (oe_var 0) (flds_cons b.cl_Lot b.no_Lot_tables flds_nil))) (blkOk_by (own := [("table", 2)]) (by exact rfl)) (fun _ _ _ _ _ => (ge_name (i := 2) sc_left_out_kinds.nd)) (fun _ _ _ _ _ => if_nil) (fun _ _ _ _ _ => (oe_isn (oe_callC c_shape (hr.mono (by decide)) (ae_cons (oe_var 2) ae_nil) (consA_len (fun _ _ _ h => nilA_len h))) oe_non))) ae_nil) b.all_)) (sse_one (se_expr (oe_append 1 (de_cons oe_str de_nil)))) sse_nil)
    (sse_one (se_ret (oe_tuple (ae_cons (oe_var 1) ae_nil) b.tuple_))))))))⟩
/-! _law_begin -/
abbrev s__law_begin : Stmt := topS 37
theorem sc__law_begin : FnScope ["script", "cell"] ["script"] (defScope s__law_begin) := ⟨rfl, rfl, rfl, by decide +kernel, rfl, by decide +kernel, by decide +kernel⟩
theorem ok__law_begin {P : Program} {w : World} {K : PySem.W.Frag} {mg : Str → Option Value} {κ : String → Nat} {base : Heap} {f : Addr} {fd : FuncData} (Fu : Fun K "_law_begin" "_law_begin" s__law_begin f fd) (b : Bl K mg κ)  :
    FnOk P w K mg base CX0 1 f fd ["script"] (spF K (m__law_begin κ) 1) := by
  refine fn_ok (k := 0) (io := []) Fu sc__law_begin rfl rfl (fun cdv A outer s H E hr => ?_)
  have hu := room64 hr
  exact ⟨_, by decide, (sse_one (se_ret (oe_lst (de_cons (oe_comp rfl sc__law_begin.nd (ie_name 0) (blkOk_by (own := [("cell", 1)]) (by exact rfl)) (fun _ _ _ _ _ => (ge_name (i := 1) sc__law_begin.nd)) (fun _ _ _ _ _ => if_nil) (fun _ _ _ _ _ => (oe_int_ (ae_cons (oe_var 1) ae_nil) b.int_))) (de_cons oe_int (de_cons oe_int (de_cons oe_int de_nil)))))))⟩
/-! _law_draw -/
abbrev s__law_draw : Stmt := topS 38
theorem sc__law_draw : FnScope ["d", "many", "size", "found", "cell"] ["d", "many"] (defScope s__law_draw) := ⟨rfl, rfl, rfl, by decide +kernel, rfl, by decide +kernel, by decide +kernel⟩
theorem ok__law_draw {P : Program} {w : World} {K : PySem.W.Frag} {mg : Str → Option Value} {κ : String → Nat} {base : Heap} {f : Addr} {fd : FuncData} (Fu : Fun K "_law_draw" "_law_draw" s__law_draw f fd) (b : Bl K mg κ)  :
    FnOk P w K mg base CX0 1 f fd ["d", "many"] (spF K (m__law_draw κ) 2) := by
  refine fn_ok (k := 0) (io := [0]) Fu sc__law_draw rfl rfl (fun cdv A outer s H E hr => ?_)
  have hu := room64 hr
  exact ⟨_, by decide, (sse_cons (se_if (te_gt (oe_atX hu (oe_var 0) oe_int) oe_int) (sse_cons (se_set 3 sc__law_draw.nd (oe_atX hu (oe_var 0) oe_int))
    (sse_cons (se_put 0 (oe_div (oe_var 3) (oe_var 1)) oe_int)
    (sse_one (se_ret (oe_mod (oe_int_ (ae_cons (oe_var 3) ae_nil) b.int_) (oe_var 1)))))) sse_nil)
    (sse_cons (se_set 2 sc__law_draw.nd oe_int)
    (sse_cons (se_if (te_lt (oe_atX hu (oe_var 0) oe_int) (oe_lenX (ae_cons (oe_atX hu (oe_var 0) oe_int) ae_nil) b.len_)) (sse_cons (se_set 4 sc__law_draw.nd (oe_atX hu (oe_atX hu (oe_var 0) oe_int) (oe_atX hu (oe_var 0) oe_int)))
    (sse_one (se_set 2 sc__law_draw.nd (oe_add (oe_mul oe_int (oe_abs (ae_cons (oe_var 4) ae_nil) b.abs_)) (oe_int_ (ae_cons (oe_lt (oe_var 4) oe_int) ae_nil) b.int_))))) sse_nil)
    (sse_cons (se_iaddAt 0 oe_int oe_int)
    (sse_cons (se_if (te_ge (oe_var 2) (oe_mul oe_int (oe_pow oe_int oe_int))) (sse_cons (se_set 3 sc__law_draw.nd (oe_mod (oe_int_ (ae_cons (oe_div (oe_var 2) oe_int) ae_nil) b.int_) (oe_shl oe_int oe_int)))
    (sse_cons (se_put 0 (oe_div (oe_var 3) (oe_var 1)) oe_int)
    (sse_one (se_ret (oe_mod (oe_int_ (ae_cons (oe_var 3) ae_nil) b.int_) (oe_var 1)))))) sse_nil)
    (sse_cons (se_put 0 (oe_mod (oe_int_ (ae_cons (oe_add (oe_add (oe_add (oe_mul (oe_atX hu (oe_var 0) oe_int) oe_int) (oe_mul (oe_mod (oe_int_ (ae_cons (oe_var 2) ae_nil) b.int_) oe_int) oe_int)) (oe_mul (oe_atX hu (oe_var 0) oe_int) oe_int)) oe_int) ae_nil) b.int_) oe_int) oe_int)
    (sse_one (se_ret (oe_mod (oe_int_ (ae_cons (oe_div (oe_atX hu (oe_var 0) oe_int) oe_int) ae_nil) b.int_) (oe_var 1))))))))))⟩
/-! _law_pick -/
abbrev s__law_pick : Stmt := topS 39
theorem sc__law_pick : FnScope ["d", "row"] ["d", "row"] (defScope s__law_pick) := ⟨rfl, rfl, rfl, by decide +kernel, rfl, by decide +kernel, by decide +kernel⟩
theorem ok__law_pick {P : Program} {w : World} {K : PySem.W.Frag} {mg : Str → Option Value} {κ : String → Nat} {base : Heap} {f : Addr} {fd : FuncData} (Fu : Fun K "_law_pick" "_law_pick" s__law_pick f fd) (b : Bl K mg κ) (c__law_draw : Callee P w K mg base 1 "_law_draw" 2 (m__law_draw κ)) :
    FnOk P w K mg base CX0 2 f fd ["d", "row"] (spF K (m__law_pick κ) 2) := by
  refine fn_ok (k := 1) (io := [0]) Fu sc__law_pick rfl rfl (fun cdv A outer s H E hr => ?_)
  have hu := room64 hr
  exact ⟨_, by decide, (sse_one (se_ret (oe_atX hu (oe_var 1) (oe_callC c__law_draw (hr.mono (by decide)) (ae_cons (oe_var 0) (ae_cons (oe_lenX (ae_cons (oe_var 1) ae_nil) b.len_) ae_nil)) (consA_len (consA_len (fun _ _ _ h => nilA_len h)))))))⟩
/-! _law_rare -/
abbrev s__law_rare : Stmt := topS 40
theorem sc__law_rare : FnScope ["d", "many"] ["d", "many"] (defScope s__law_rare) := ⟨rfl, rfl, rfl, by decide +kernel, rfl, by decide +kernel, by decide +kernel⟩
theorem ok__law_rare {P : Program} {w : World} {K : PySem.W.Frag} {mg : Str → Option Value} {κ : String → Nat} {base : Heap} {f : Addr} {fd : FuncData} (Fu : Fun K "_law_rare" "_law_rare" s__law_rare f fd) (b : Bl K mg κ) (c__law_draw : Callee P w K mg base 1 "_law_draw" 2 (m__law_draw κ)) :
    FnOk P w K mg base CX0 2 f fd ["d", "many"] (spF K (m__law_rare κ) 2) := by
  refine fn_ok (k := 1) (io := [0]) Fu sc__law_rare rfl rfl (fun cdv A outer s H E hr => ?_)
  have hu := room64 hr
  exact ⟨_, by decide, (sse_one (se_ret (oe_eq hu (oe_callC c__law_draw (hr.mono (by decide)) (ae_cons (oe_var 0) (ae_cons (oe_var 1) ae_nil)) (consA_len (consA_len (fun _ _ _ h => nilA_len h)))) (oe_div (oe_var 1) oe_int))))⟩
/-! _law_row -/
abbrev s__law_row : Stmt := topS 41
theorem sc__law_row : FnScope ["number", "places", "place"] ["number", "places"] (defScope s__law_row) := ⟨rfl, rfl, rfl, by decide +kernel, rfl, by decide +kernel, by decide +kernel⟩
theorem ok__law_row {P : Program} {w : World} {K : PySem.W.Frag} {mg : Str → Option Value} {κ : String → Nat} {base : Heap} {f : Addr} {fd : FuncData} (Fu : Fun K "_law_row" "_law_row" s__law_row f fd) (b : Bl K mg κ)  :
    FnOk P w K mg base CX0 1 f fd ["number", "places"] (spF K (m__law_row κ) 2) := by
  refine fn_ok (k := 0) (io := []) Fu sc__law_row rfl rfl (fun cdv A outer s H E hr => ?_)
  have hu := room64 hr
  exact ⟨_, by decide, (sse_one (se_ret (oe_tuple (ae_cons (oe_comp rfl sc__law_row.nd (ie_range1 (by rfl) b.range_ (de_cons (oe_var 1) de_nil)) (blkOk_by (own := [("place", 2)]) (by exact rfl)) (fun _ _ _ _ _ => (ge_name (i := 2) sc__law_row.nd)) (fun _ _ _ _ _ => if_nil) (fun _ _ _ _ _ => (oe_band (oe_shr (oe_var 0) (oe_sub (oe_sub (oe_var 1) oe_int) (oe_var 2))) oe_int))) ae_nil) b.tuple_)))⟩
/-! _law_rows -/
abbrev s__law_rows : Stmt := topS 42
theorem sc__law_rows : FnScope ["places", "number"] ["places"] (defScope s__law_rows) := ⟨rfl, rfl, rfl, by decide +kernel, rfl, by decide +kernel, by decide +kernel⟩
theorem ok__law_rows {P : Program} {w : World} {K : PySem.W.Frag} {mg : Str → Option Value} {κ : String → Nat} {base : Heap} {f : Addr} {fd : FuncData} (Fu : Fun K "_law_rows" "_law_rows" s__law_rows f fd) (b : Bl K mg κ) (c__law_row : Callee P w K mg base 1 "_law_row" 2 (m__law_row κ)) :
    FnOk P w K mg base CX0 2 f fd ["places"] (spF K (m__law_rows κ) 1) := by
  refine fn_ok (k := 1) (io := []) Fu sc__law_rows rfl rfl (fun cdv A outer s H E hr => ?_)
  have hu := room64 hr
  exact ⟨_, by decide, (sse_one (se_ret (oe_comp rfl sc__law_rows.nd (ie_range1 (by rfl) b.range_ (de_cons (oe_shl oe_int (oe_var 0)) de_nil)) (blkOk_by (own := [("number", 1)]) (by exact rfl)) (fun _ _ _ _ _ => (ge_name (i := 1) sc__law_rows.nd)) (fun _ _ _ _ _ => if_nil) (fun _ _ _ _ _ => (oe_callC c__law_row (hr.mono (by decide)) (ae_cons (oe_var 1) (ae_cons (oe_var 0) ae_nil)) (consA_len (consA_len (fun _ _ _ h => nilA_len h))))))))⟩
/-! _law_sum -/
abbrev s__law_sum : Stmt := topS 43
theorem sc__law_sum : FnScope ["prices", "whole", "price"] ["prices"] (defScope s__law_sum) := ⟨rfl, rfl, rfl, by decide +kernel, rfl, by decide +kernel, by decide +kernel⟩
theorem ok__law_sum {P : Program} {w : World} {K : PySem.W.Frag} {mg : Str → Option Value} {κ : String → Nat} {base : Heap} {f : Addr} {fd : FuncData} (Fu : Fun K "_law_sum" "_law_sum" s__law_sum f fd) (b : Bl K mg κ)  :
    FnOk P w K mg base CX0 1 f fd ["prices"] (spF K (m__law_sum κ) 1) := by
  refine fn_ok (k := 0) (io := []) Fu sc__law_sum rfl rfl (fun cdv A outer s H E hr => ?_)
  have hu := room64 hr
  exact ⟨_, by decide, (sse_cons (se_set 1 sc__law_sum.nd oe_int)
    (sse_cons (se_for PassesOwn.never rfl (ie_name 0) (ge_name (i := 2) sc__law_sum.nd) (sse_cons (se_if (te_is (oe_var 2) oe_non) (sse_one (se_ret oe_non)) sse_nil)
    (sse_one (se_iadd 1 sc__law_sum.nd (oe_var 2)))))
    (sse_one (se_ret (oe_var 1)))))⟩
/-! _law_low -/
abbrev s__law_low : Stmt := topS 44
theorem sc__law_low : FnScope ["prices", "best", "price"] ["prices"] (defScope s__law_low) := ⟨rfl, rfl, rfl, by decide +kernel, rfl, by decide +kernel, by decide +kernel⟩
theorem ok__law_low {P : Program} {w : World} {K : PySem.W.Frag} {mg : Str → Option Value} {κ : String → Nat} {base : Heap} {f : Addr} {fd : FuncData} (Fu : Fun K "_law_low" "_law_low" s__law_low f fd) (b : Bl K mg κ)  :
    FnOk P w K mg base CX0 1 f fd ["prices"] (spF K (m__law_low κ) 1) := by
  refine fn_ok (k := 0) (io := []) Fu sc__law_low rfl rfl (fun cdv A outer s H E hr => ?_)
  have hu := room64 hr
  exact ⟨_, by decide, (sse_cons (se_set 1 sc__law_low.nd oe_non)
    (sse_cons (se_for PassesOwn.never rfl (ie_name 0) (ge_name (i := 2) sc__law_low.nd) (sse_one (se_if ((tw_and (te_isn (oe_var 2) oe_non) (tw_and1 ((tw_or (te_is (oe_var 1) oe_non) (tw_or1 (te_lt (oe_var 2) (oe_var 1))))).te))).te (sse_one (se_set 1 sc__law_low.nd (oe_var 2))) sse_nil)))
    (sse_one (se_ret (oe_var 1)))))⟩
/-! _law_times -/
abbrev s__law_times : Stmt := topS 45
theorem sc__law_times : FnScope ["price", "times"] ["price", "times"] (defScope s__law_times) := ⟨rfl, rfl, rfl, by decide +kernel, rfl, by decide +kernel, by decide +kernel⟩
theorem ok__law_times {P : Program} {w : World} {K : PySem.W.Frag} {mg : Str → Option Value} {κ : String → Nat} {base : Heap} {f : Addr} {fd : FuncData} (Fu : Fun K "_law_times" "_law_times" s__law_times f fd) (b : Bl K mg κ)  :
    FnOk P w K mg base CX0 1 f fd ["price", "times"] (spF K (m__law_times κ) 2) := by
  refine fn_ok (k := 0) (io := []) Fu sc__law_times rfl rfl (fun cdv A outer s H E hr => ?_)
  have hu := room64 hr
  exact ⟨_, by decide, (sse_cons (se_if (te_is (oe_var 0) oe_non) (sse_one (se_ret oe_non)) sse_nil)
    (sse_one (se_ret (oe_mul (oe_var 0) (oe_var 1)))))⟩
/-! _law_above -/
abbrev s__law_above : Stmt := topS 46
theorem sc__law_above : FnScope ["first", "second"] ["first", "second"] (defScope s__law_above) := ⟨rfl, rfl, rfl, by decide +kernel, rfl, by decide +kernel, by decide +kernel⟩
theorem ok__law_above {P : Program} {w : World} {K : PySem.W.Frag} {mg : Str → Option Value} {κ : String → Nat} {base : Heap} {f : Addr} {fd : FuncData} (Fu : Fun K "_law_above" "_law_above" s__law_above f fd) (b : Bl K mg κ)  :
    FnOk P w K mg base CX0 1 f fd ["first", "second"] (spF K (m__law_above κ) 2) := by
  refine fn_ok (k := 0) (io := []) Fu sc__law_above rfl rfl (fun cdv A outer s H E hr => ?_)
  have hu := room64 hr
  exact ⟨_, by decide, (sse_cons (se_if (te_is (oe_var 1) oe_non) (sse_one (se_ret oe_bl)) sse_nil)
    (sse_one (se_ret (oe_or (oe_is (oe_var 0) oe_non) (oe_one (oe_gt (oe_var 0) (oe_var 1)))))))⟩
/-! _law_most -/
abbrev s__law_most : Stmt := topS 47
theorem sc__law_most : FnScope ["first", "second", "third"] ["first", "second", "third"] (defScope s__law_most) := ⟨rfl, rfl, rfl, by decide +kernel, rfl, by decide +kernel, by decide +kernel⟩
theorem ok__law_most {P : Program} {w : World} {K : PySem.W.Frag} {mg : Str → Option Value} {κ : String → Nat} {base : Heap} {f : Addr} {fd : FuncData} (Fu : Fun K "_law_most" "_law_most" s__law_most f fd) (b : Bl K mg κ)  :
    FnOk P w K mg base CX0 1 f fd ["first", "second", "third"] (spF K (m__law_most κ) 3) := by
  refine fn_ok (k := 0) (io := []) Fu sc__law_most rfl rfl (fun cdv A outer s H E hr => ?_)
  have hu := room64 hr
  exact ⟨_, by decide, (sse_one (se_ret (oe_bor (oe_bor (oe_band (oe_var 0) (oe_var 1)) (oe_band (oe_var 0) (oe_var 2))) (oe_band (oe_var 1) (oe_var 2)))))⟩
/-! _law_breach_one -/
abbrev s__law_breach_one : Stmt := topS 48
theorem sc__law_breach_one : FnScope ["kind", "prices", "rows", "last", "t"] ["kind", "prices", "rows"] (defScope s__law_breach_one) := ⟨rfl, rfl, rfl, by decide +kernel, rfl, by decide +kernel, by decide +kernel⟩
theorem ok__law_breach_one {P : Program} {w : World} {K : PySem.W.Frag} {mg : Str → Option Value} {κ : String → Nat} {base : Heap} {f : Addr} {fd : FuncData} (Fu : Fun K "_law_breach_one" "_law_breach_one" s__law_breach_one f fd) (b : Bl K mg κ) (c__law_above : Callee P w K mg base 1 "_law_above" 2 (m__law_above κ)) :
    FnOk P w K mg base CX0 2 f fd ["kind", "prices", "rows"] (spF K (m__law_breach_one κ) 3) := by
  refine fn_ok (k := 1) (io := []) Fu sc__law_breach_one rfl rfl (fun cdv A outer s H E hr => ?_)
  have hu := room64 hr
  exact ⟨_, by decide, (sse_cons (se_set 3 sc__law_breach_one.nd (oe_sub (oe_lenX (ae_cons (oe_var 1) ae_nil) b.len_) oe_int))
    (sse_cons (se_for PassesOwn.never rfl (ie_name 2) (ge_name (i := 4) sc__law_breach_one.nd) (sse_one (se_if (te_tru (oe_callC c__law_above (hr.mono (by decide)) (ae_cons (oe_atX hu (oe_var 1) (oe_if (te_eq hu (oe_var 0) oe_str) oe_int (oe_var 3))) (ae_cons (oe_atX hu (oe_var 1) (oe_var 4)) ae_nil)) (consA_len (consA_len (fun _ _ _ h => nilA_len h))))) (sse_one (se_ret oe_bl)) sse_nil)))
    (sse_one (se_ret oe_bl))))⟩
/-! _law_breach_two -/
abbrev s__law_breach_two : Stmt := topS 49
theorem sc__law_breach_two : FnScope ["kind", "prices", "rows", "s", "t", "low", "high"] ["kind", "prices", "rows"] (defScope s__law_breach_two) := ⟨rfl, rfl, rfl, by decide +kernel, rfl, by decide +kernel, by decide +kernel⟩
theorem ok__law_breach_two {P : Program} {w : World} {K : PySem.W.Frag} {mg : Str → Option Value} {κ : String → Nat} {base : Heap} {f : Addr} {fd : FuncData} (Fu : Fun K "_law_breach_two" "_law_breach_two" s__law_breach_two f fd) (b : Bl K mg κ) (c__law_above : Callee P w K mg base 1 "_law_above" 2 (m__law_above κ)) (c__law_sum : Callee P w K mg base 1 "_law_sum" 1 (m__law_sum κ)) (c__law_times : Callee P w K mg base 1 "_law_times" 2 (m__law_times κ)) :
    FnOk P w K mg base CX0 2 f fd ["kind", "prices", "rows"] (spF K (m__law_breach_two κ) 3) := by
  refine fn_ok (k := 1) (io := []) Fu sc__law_breach_two rfl rfl (fun cdv A outer s H E hr => ?_)
  have hu := room64 hr
  exact ⟨_, by decide, (sse_cons (se_for PassesOwn.never rfl (ie_name 2) (ge_name (i := 3) sc__law_breach_two.nd) (sse_one (se_for PassesOwn.never rfl (ie_name 2) (ge_name (i := 4) sc__law_breach_two.nd) (sse_cons (se_set 5 sc__law_breach_two.nd (oe_callC c__law_times (hr.mono (by decide)) (ae_cons (oe_atX hu (oe_var 1) (oe_band (oe_var 3) (oe_var 4))) (ae_cons oe_int ae_nil)) (consA_len (consA_len (fun _ _ _ h => nilA_len h)))))
    (sse_cons (se_set 6 sc__law_breach_two.nd (oe_callC c__law_times (hr.mono (by decide)) (ae_cons (oe_atX hu (oe_var 1) (oe_bor (oe_var 3) (oe_var 4))) (ae_cons oe_int ae_nil)) (consA_len (consA_len (fun _ _ _ h => nilA_len h)))))
    (sse_cons (se_if (te_eq hu (oe_var 0) oe_str) (sse_one (se_set 5 sc__law_breach_two.nd (oe_var 6))) sse_nil)
    (sse_cons (se_if (te_eq hu (oe_var 0) oe_str) (sse_one (se_set 5 sc__law_breach_two.nd (oe_callC c__law_sum (hr.mono (by decide)) (ae_cons (oe_lst (de_cons (oe_atX hu (oe_var 1) (oe_band (oe_var 3) (oe_var 4))) (de_cons (oe_atX hu (oe_var 1) (oe_bor (oe_var 3) (oe_var 4))) de_nil))) ae_nil) (consA_len (fun _ _ _ h => nilA_len h))))) sse_nil)
    (sse_one (se_if (te_tru (oe_callC c__law_above (hr.mono (by decide)) (ae_cons (oe_var 5) (ae_cons (oe_add (oe_atX hu (oe_var 1) (oe_var 3)) (oe_atX hu (oe_var 1) (oe_var 4))) ae_nil)) (consA_len (consA_len (fun _ _ _ h => nilA_len h))))) (sse_one (se_ret oe_bl)) sse_nil)))))))))
    (sse_one (se_ret oe_bl)))⟩
/-! _law_breach_three -/
abbrev s__law_breach_three : Stmt := topS 50
theorem sc__law_breach_three : FnScope ["kind", "prices", "rows", "i", "j", "k", "most", "odd", "made"] ["kind", "prices", "rows"] (defScope s__law_breach_three) := ⟨rfl, rfl, rfl, by decide +kernel, rfl, by decide +kernel, by decide +kernel⟩
theorem ok__law_breach_three {P : Program} {w : World} {K : PySem.W.Frag} {mg : Str → Option Value} {κ : String → Nat} {base : Heap} {f : Addr} {fd : FuncData} (Fu : Fun K "_law_breach_three" "_law_breach_three" s__law_breach_three f fd) (b : Bl K mg κ) (c__law_above : Callee P w K mg base 1 "_law_above" 2 (m__law_above κ)) (c__law_most : Callee P w K mg base 1 "_law_most" 3 (m__law_most κ)) (c__law_sum : Callee P w K mg base 1 "_law_sum" 1 (m__law_sum κ)) (c__law_times : Callee P w K mg base 1 "_law_times" 2 (m__law_times κ)) :
    FnOk P w K mg base CX0 2 f fd ["kind", "prices", "rows"] (spF K (m__law_breach_three κ) 3) := by
  refine fn_ok (k := 1) (io := []) Fu sc__law_breach_three rfl rfl (fun cdv A outer s H E hr => ?_)
  have hu := room64 hr
  exact ⟨_, by decide, (sse_cons (se_for PassesOwn.never rfl (ie_range1 (by rfl) b.range_ (de_cons (oe_lenX (ae_cons (oe_var 2) ae_nil) b.len_) de_nil)) (ge_name (i := 3) sc__law_breach_three.nd) (sse_one (se_for PassesOwn.never rfl (ie_range2 (by rfl) b.range_ (de_cons (oe_var 3) (de_cons (oe_lenX (ae_cons (oe_var 2) ae_nil) b.len_) de_nil))) (ge_name (i := 4) sc__law_breach_three.nd) (sse_one (se_for PassesOwn.never rfl (ie_range2 (by rfl) b.range_ (de_cons (oe_var 4) (de_cons (oe_lenX (ae_cons (oe_var 2) ae_nil) b.len_) de_nil))) (ge_name (i := 5) sc__law_breach_three.nd) (sse_cons (se_set 6 sc__law_breach_three.nd (oe_atX hu (oe_var 1) (oe_callC c__law_most (hr.mono (by decide)) (ae_cons (oe_atX hu (oe_var 2) (oe_var 3)) (ae_cons (oe_atX hu (oe_var 2) (oe_var 4)) (ae_cons (oe_atX hu (oe_var 2) (oe_var 5)) ae_nil))) (consA_len (consA_len (consA_len (fun _ _ _ h => nilA_len h)))))))
    (sse_cons (se_set 7 sc__law_breach_three.nd (oe_atX hu (oe_var 1) (oe_bxor (oe_bxor (oe_atX hu (oe_var 2) (oe_var 3)) (oe_atX hu (oe_var 2) (oe_var 4))) (oe_atX hu (oe_var 2) (oe_var 5)))))
    (sse_cons (se_set 8 sc__law_breach_three.nd (oe_callC c__law_sum (hr.mono (by decide)) (ae_cons (oe_lst (de_cons (oe_var 6) (de_cons (oe_var 6) (de_cons (oe_var 7) de_nil)))) ae_nil) (consA_len (fun _ _ _ h => nilA_len h))))
    (sse_cons (se_if (te_eq hu (oe_var 0) oe_str) (sse_one (se_set 8 sc__law_breach_three.nd (oe_callC c__law_times (hr.mono (by decide)) (ae_cons (oe_var 6) (ae_cons oe_int ae_nil)) (consA_len (consA_len (fun _ _ _ h => nilA_len h)))))) sse_nil)
    (sse_cons (se_if (te_eq hu (oe_var 0) oe_str) (sse_one (se_set 8 sc__law_breach_three.nd (oe_callC c__law_times (hr.mono (by decide)) (ae_cons (oe_var 7) (ae_cons oe_int ae_nil)) (consA_len (consA_len (fun _ _ _ h => nilA_len h)))))) sse_nil)
    (sse_one (se_if (te_tru (oe_callC c__law_above (hr.mono (by decide)) (ae_cons (oe_var 8) (ae_cons (oe_add (oe_add (oe_atX hu (oe_var 1) (oe_atX hu (oe_var 2) (oe_var 3))) (oe_atX hu (oe_var 1) (oe_atX hu (oe_var 2) (oe_var 4)))) (oe_atX hu (oe_var 1) (oe_atX hu (oe_var 2) (oe_var 5)))) ae_nil)) (consA_len (consA_len (fun _ _ _ h => nilA_len h))))) (sse_one (se_ret oe_bl)) sse_nil))))))))))))
    (sse_one (se_ret oe_bl)))⟩
/-! _law_keeps -/
abbrev s__law_keeps : Stmt := topS 51
theorem sc__law_keeps : FnScope ["kind", "prices", "rows", "number"] ["kind", "prices"] (defScope s__law_keeps) := ⟨rfl, rfl, rfl, by decide +kernel, rfl, by decide +kernel, by decide +kernel⟩
theorem ok__law_keeps {P : Program} {w : World} {K : PySem.W.Frag} {mg : Str → Option Value} {κ : String → Nat} {base : Heap} {f : Addr} {fd : FuncData} (Fu : Fun K "_law_keeps" "_law_keeps" s__law_keeps f fd) (b : Bl K mg κ) (c__law_breach_one : Callee P w K mg base 2 "_law_breach_one" 3 (m__law_breach_one κ)) (c__law_breach_three : Callee P w K mg base 2 "_law_breach_three" 3 (m__law_breach_three κ)) (c__law_breach_two : Callee P w K mg base 2 "_law_breach_two" 3 (m__law_breach_two κ)) :
    FnOk P w K mg base CX0 3 f fd ["kind", "prices"] (spF K (m__law_keeps κ) 2) := by
  refine fn_ok (k := 2) (io := []) Fu sc__law_keeps rfl rfl (fun cdv A outer s H E hr => ?_)
  have hu := room64 hr
  exact ⟨_, by decide, (sse_cons (se_setComp 2 rfl sc__law_keeps.nd (ie_range1 (by rfl) b.range_ (de_cons (oe_lenX (ae_cons (oe_var 1) ae_nil) b.len_) de_nil)) (blkOk_by (own := [("number", 3)]) (by exact rfl)) (fun _ _ _ _ _ => (ge_name (i := 3) sc__law_keeps.nd)) (fun _ _ _ _ _ => (if_one (te_isn (oe_atX hu (oe_var 1) (oe_var 3)) oe_non))) (fun _ _ _ _ _ => (oe_var 3)) (sw_true rfl rfl rfl (by decide +kernel)))
    (sse_cons (se_if (te_inX (room65 hr) (oe_var 0) (oe_tup (de_cons oe_str (de_cons oe_str de_nil)))) (sse_one (se_ret (oe_not (oe_callC c__law_breach_one (hr.mono (by decide)) (ae_cons (oe_var 0) (ae_cons (oe_var 1) (ae_cons (oe_var 2) ae_nil))) (consA_len (consA_len (consA_len (fun _ _ _ h => nilA_len h)))))))) sse_nil)
    (sse_cons (se_if (te_inX (room65 hr) (oe_var 0) (oe_tup (de_cons oe_str (de_cons oe_str (de_cons oe_str de_nil))))) (sse_one (se_ret (oe_not (oe_callC c__law_breach_two (hr.mono (by decide)) (ae_cons (oe_var 0) (ae_cons (oe_var 1) (ae_cons (oe_var 2) ae_nil))) (consA_len (consA_len (consA_len (fun _ _ _ h => nilA_len h)))))))) sse_nil)
    (sse_one (se_ret (oe_not (oe_callC c__law_breach_three (hr.mono (by decide)) (ae_cons (oe_var 0) (ae_cons (oe_var 1) (ae_cons (oe_var 2) ae_nil))) (consA_len (consA_len (consA_len (fun _ _ _ h => nilA_len h)))))))))))⟩
/-! _law_kept -/
abbrev s__law_kept : Stmt := topS 52
theorem sc__law_kept : FnScope ["kind", "tables", "table"] ["kind", "tables"] (defScope s__law_kept) := ⟨rfl, rfl, rfl, by decide +kernel, rfl, by decide +kernel, by decide +kernel⟩
theorem ok__law_kept {P : Program} {w : World} {K : PySem.W.Frag} {mg : Str → Option Value} {κ : String → Nat} {base : Heap} {f : Addr} {fd : FuncData} (Fu : Fun K "_law_kept" "_law_kept" s__law_kept f fd) (b : Bl K mg κ) (c__law_keeps : Callee P w K mg base 3 "_law_keeps" 2 (m__law_keeps κ)) :
    FnOk P w K mg base CX0 4 f fd ["kind", "tables"] (spF K (m__law_kept κ) 2) := by
  refine fn_ok (k := 3) (io := []) Fu sc__law_kept rfl rfl (fun cdv A outer s H E hr => ?_)
  have hu := room64 hr
  exact ⟨_, by decide, (sse_one (se_ret (oe_allT rfl (ae_cons (oe_comp rfl sc__law_kept.nd (ie_name 1) (blkOk_by (own := [("table", 2)]) (by exact rfl)) (fun _ _ _ _ _ => (ge_name (i := 2) sc__law_kept.nd)) (fun _ _ _ _ _ => if_nil) (fun _ _ _ _ _ => (oe_callC c__law_keeps (hr.mono (by decide)) (ae_cons (oe_var 0) (ae_cons (oe_atX hu (oe_var 2) oe_int) ae_nil)) (consA_len (consA_len (fun _ _ _ h => nilA_len h)))))) ae_nil) b.all_)))⟩
/-! _law_cost -/
abbrev s__law_cost : Stmt := topS 53
theorem sc__law_cost : FnScope ["d"] ["d"] (defScope s__law_cost) := ⟨rfl, rfl, rfl, by decide +kernel, rfl, by decide +kernel, by decide +kernel⟩
theorem ok__law_cost {P : Program} {w : World} {K : PySem.W.Frag} {mg : Str → Option Value} {κ : String → Nat} {base : Heap} {f : Addr} {fd : FuncData} (Fu : Fun K "_law_cost" "_law_cost" s__law_cost f fd) (b : Bl K mg κ) (c__law_draw : Callee P w K mg base 1 "_law_draw" 2 (m__law_draw κ)) (c__law_rare : Callee P w K mg base 2 "_law_rare" 2 (m__law_rare κ)) :
    FnOk P w K mg base CX0 3 f fd ["d"] (spF K (m__law_cost κ) 1) := by
  refine fn_ok (k := 2) (io := [0]) Fu sc__law_cost rfl rfl (fun cdv A outer s H E hr => ?_)
  have hu := room64 hr
  exact ⟨_, by decide, (sse_cons (se_if (te_tru (oe_callC c__law_rare (hr.mono (by decide)) (ae_cons (oe_var 0) (ae_cons oe_int ae_nil)) (consA_len (consA_len (fun _ _ _ h => nilA_len h))))) (sse_one (se_ret (oe_callC c__law_draw (hr.mono (by decide)) (ae_cons (oe_var 0) (ae_cons oe_int ae_nil)) (consA_len (consA_len (fun _ _ _ h => nilA_len h)))))) sse_nil)
    (sse_one (se_ret (oe_callC c__law_draw (hr.mono (by decide)) (ae_cons (oe_var 0) (ae_cons oe_int ae_nil)) (consA_len (consA_len (fun _ _ _ h => nilA_len h)))))))⟩
/-! _law_opened -/
abbrev s__law_opened : Stmt := topS 54
theorem sc__law_opened : FnScope ["d", "prices"] ["d", "prices"] (defScope s__law_opened) := ⟨rfl, rfl, rfl, by decide +kernel, rfl, by decide +kernel, by decide +kernel⟩
theorem ok__law_opened {P : Program} {w : World} {K : PySem.W.Frag} {mg : Str → Option Value} {κ : String → Nat} {base : Heap} {f : Addr} {fd : FuncData} (Fu : Fun K "_law_opened" "_law_opened" s__law_opened f fd) (b : Bl K mg κ) (c__law_cost : Callee P w K mg base 3 "_law_cost" 1 (m__law_cost κ)) (c__law_draw : Callee P w K mg base 1 "_law_draw" 2 (m__law_draw κ)) (c__law_low : Callee P w K mg base 1 "_law_low" 1 (m__law_low κ)) :
    FnOk P w K mg base CX0 4 f fd ["d", "prices"] (spF K (m__law_opened κ) 2) := by
  refine fn_ok (k := 3) (io := [0, 1]) Fu sc__law_opened rfl rfl (fun cdv A outer s H E hr => ?_)
  have hu := room64 hr
  exact ⟨_, by decide, (sse_cons (se_if (te_is (oe_callC c__law_low (hr.mono (by decide)) (ae_cons (oe_var 1) ae_nil) (consA_len (fun _ _ _ h => nilA_len h))) oe_non) (sse_one (se_put 1 (oe_callC c__law_cost (hr.mono (by decide)) (ae_cons (oe_var 0) ae_nil) (consA_len (fun _ _ _ h => nilA_len h))) (oe_callC c__law_draw (hr.mono (by decide)) (ae_cons (oe_var 0) (ae_cons (oe_lenX (ae_cons (oe_var 1) ae_nil) b.len_) ae_nil)) (consA_len (consA_len (fun _ _ _ h => nilA_len h)))))) sse_nil)
    (sse_one (se_ret (oe_var 1))))⟩
/-! _law_crisp -/
abbrev s__law_crisp : Stmt := topS 55
theorem sc__law_crisp : FnScope ["d", "places", "barred", "price", "prices", "number"] ["d", "places", "barred"] (defScope s__law_crisp) := ⟨rfl, rfl, rfl, by decide +kernel, rfl, by decide +kernel, by decide +kernel⟩
theorem ok__law_crisp {P : Program} {w : World} {K : PySem.W.Frag} {mg : Str → Option Value} {κ : String → Nat} {base : Heap} {f : Addr} {fd : FuncData} (Fu : Fun K "_law_crisp" "_law_crisp" s__law_crisp f fd) (b : Bl K mg κ) (c__law_cost : Callee P w K mg base 3 "_law_cost" 1 (m__law_cost κ)) (c__law_draw : Callee P w K mg base 1 "_law_draw" 2 (m__law_draw κ)) (c__law_opened : Callee P w K mg base 4 "_law_opened" 2 (m__law_opened κ)) :
    FnOk P w K mg base CX0 5 f fd ["d", "places", "barred"] (spF K (m__law_crisp κ) 3) := by
  refine fn_ok (k := 4) (io := [0]) Fu sc__law_crisp rfl rfl (fun cdv A outer s H E hr => ?_)
  have hu := room64 hr
  exact ⟨_, by decide, (sse_cons (se_set 3 sc__law_crisp.nd (oe_callC c__law_cost (hr.mono (by decide)) (ae_cons (oe_var 0) ae_nil) (consA_len (fun _ _ _ h => nilA_len h))))
    (sse_cons (se_setComp 4 rfl sc__law_crisp.nd (ie_range1 (by rfl) b.range_ (de_cons (oe_shl oe_int (oe_var 1)) de_nil)) (blkOk_by (own := [("number", 5)]) (by exact rfl)) (fun _ _ _ _ _ => (ge_name (i := 5) sc__law_crisp.nd)) (fun _ _ _ _ _ => if_nil) (fun _ _ _ _ _ => (oe_if (te_lt (oe_callC c__law_draw (hr.mono (by decide)) (ae_cons (oe_var 0) (ae_cons oe_int ae_nil)) (consA_len (consA_len (fun _ _ _ h => nilA_len h)))) (oe_var 2)) oe_non (oe_var 3))) (sw_true rfl rfl rfl (by decide +kernel)))
    (sse_one (se_ret (oe_tup (de_cons (oe_var 1) (de_cons (oe_tuple (ae_cons (oe_callC c__law_opened (hr.mono (by decide)) (ae_cons (oe_var 0) (ae_cons (oe_var 4) ae_nil)) (consA_len (consA_len (fun _ _ _ h => nilA_len h)))) ae_nil) b.tuple_) de_nil)))))))⟩
/-! _law_shape_rows -/
abbrev s__law_shape_rows : Stmt := topS 56
theorem sc__law_shape_rows : FnScope ["places", "ones", "zeros", "found", "row", "high", "low", "spot"] ["places", "ones", "zeros"] (defScope s__law_shape_rows) := ⟨rfl, rfl, rfl, by decide +kernel, rfl, by decide +kernel, by decide +kernel⟩
theorem ok__law_shape_rows {P : Program} {w : World} {K : PySem.W.Frag} {mg : Str → Option Value} {κ : String → Nat} {base : Heap} {f : Addr} {fd : FuncData} (Fu : Fun K "_law_shape_rows" "_law_shape_rows" s__law_shape_rows f fd) (b : Bl K mg κ) (c__law_rows : Callee P w K mg base 2 "_law_rows" 1 (m__law_rows κ)) :
    FnOk P w K mg base CX0 3 f fd ["places", "ones", "zeros"] (spF K (m__law_shape_rows κ) 3) := by
  refine fn_ok (k := 2) (io := []) Fu sc__law_shape_rows rfl rfl (fun cdv A outer s H E hr => ?_)
  have hu := room64 hr
  exact ⟨_, by decide, (sse_cons (se_set 3 sc__law_shape_rows.nd (oe_lst de_nil))
    (sse_cons (se_for PassesOwn.never rfl (ie_seq (oe_callC c__law_rows (hr.mono (by decide)) (ae_cons (oe_var 0) ae_nil) (consA_len (fun _ _ _ h => nilA_len h)))) (ge_name (i := 4) sc__law_shape_rows.nd) (sse_cons (se_set 5 sc__law_shape_rows.nd (oe_and (oe_isn (oe_var 1) oe_non) (oe_one (oe_allT rfl (ae_cons (oe_comp rfl sc__law_shape_rows.nd (ie_name 1) (blkOk_by (own := [("spot", 7)]) (by exact rfl)) (fun _ _ _ _ _ => (ge_name (i := 7) sc__law_shape_rows.nd)) (fun _ _ _ _ _ => if_nil) (fun _ _ _ _ _ => (oe_eq hu (oe_atX hu (oe_var 4) (oe_var 7)) oe_int))) ae_nil) b.all_))))
    (sse_cons (se_set 6 sc__law_shape_rows.nd (oe_and (oe_isn (oe_var 2) oe_non) (oe_one (oe_allT rfl (ae_cons (oe_comp rfl sc__law_shape_rows.nd (ie_name 2) (blkOk_by (own := [("spot", 7)]) (by exact rfl)) (fun _ _ _ _ _ => (ge_name (i := 7) sc__law_shape_rows.nd)) (fun _ _ _ _ _ => if_nil) (fun _ _ _ _ _ => (oe_eq hu (oe_atX hu (oe_var 4) (oe_var 7)) oe_int))) ae_nil) b.all_))))
    (sse_one (se_if ((tw_or (te_tru (oe_var 5)) (tw_or1 (te_tru (oe_var 6))))).te (sse_one (se_expr (oe_append 3 (de_cons (oe_var 4) de_nil)))) sse_nil)))))
    (sse_one (se_ret (oe_var 3)))))⟩
/-! _law_spots -/
abbrev s__law_spots : Stmt := topS 57
theorem sc__law_spots : FnScope ["places", "found", "mask", "spot"] ["places"] (defScope s__law_spots) := ⟨rfl, rfl, rfl, by decide +kernel, rfl, by decide +kernel, by decide +kernel⟩
theorem ok__law_spots {P : Program} {w : World} {K : PySem.W.Frag} {mg : Str → Option Value} {κ : String → Nat} {base : Heap} {f : Addr} {fd : FuncData} (Fu : Fun K "_law_spots" "_law_spots" s__law_spots f fd) (b : Bl K mg κ)  :
    FnOk P w K mg base CX0 1 f fd ["places"] (spF K (m__law_spots κ) 1) := by
  refine fn_ok (k := 0) (io := []) Fu sc__law_spots rfl rfl (fun cdv A outer s H E hr => ?_)
  have hu := room64 hr
  exact ⟨_, by decide, (sse_cons (se_set 1 sc__law_spots.nd (oe_lst (de_cons oe_non de_nil)))
    (sse_cons (se_for PassesOwn.never rfl (ie_range1 (by rfl) b.range_ (de_cons (oe_shl oe_int (oe_var 0)) de_nil)) (ge_name (i := 2) sc__law_spots.nd) (sse_one (se_expr (oe_append 1 (de_cons (oe_tuple (ae_cons (oe_comp rfl sc__law_spots.nd (ie_range1 (by rfl) b.range_ (de_cons (oe_var 0) de_nil)) (blkOk_by (own := [("spot", 3)]) (by exact rfl)) (fun _ _ _ _ _ => (ge_name (i := 3) sc__law_spots.nd)) (fun _ _ _ _ _ => (if_one (te_eq hu (oe_band (oe_shr (oe_var 2) (oe_var 3)) oe_int) oe_int))) (fun _ _ _ _ _ => (oe_var 3))) ae_nil) b.tuple_) de_nil)))))
    (sse_one (se_ret (oe_var 1)))))⟩
/-! _law_shape -/
abbrev s__law_shape : Stmt := topS 58
theorem sc__law_shape : FnScope ["table", "rows", "lots", "ones", "zeros", "number"] ["table"] (defScope s__law_shape) := ⟨rfl, rfl, rfl, by decide +kernel, rfl, by decide +kernel, by decide +kernel⟩
theorem ok__law_shape {P : Program} {w : World} {K : PySem.W.Frag} {mg : Str → Option Value} {κ : String → Nat} {base : Heap} {f : Addr} {fd : FuncData} (Fu : Fun K "_law_shape" "_law_shape" s__law_shape f fd) (b : Bl K mg κ) (c__law_row : Callee P w K mg base 1 "_law_row" 2 (m__law_row κ)) (c__law_shape_rows : Callee P w K mg base 3 "_law_shape_rows" 3 (m__law_shape_rows κ)) (c__law_spots : Callee P w K mg base 1 "_law_spots" 1 (m__law_spots κ)) :
    FnOk P w K mg base CX0 4 f fd ["table"] (spF K (m__law_shape κ) 1) := by
  refine fn_ok (k := 3) (io := []) Fu sc__law_shape rfl rfl (fun cdv A outer s H E hr => ?_)
  have hu := room64 hr
  exact ⟨_, by decide, (sse_cons (se_setComp 1 rfl sc__law_shape.nd (ie_range1 (by rfl) b.range_ (de_cons (oe_shl oe_int (oe_atX hu (oe_var 0) oe_int)) de_nil)) (blkOk_by (own := [("number", 5)]) (by exact rfl)) (fun _ _ _ _ _ => (ge_name (i := 5) sc__law_shape.nd)) (fun _ _ _ _ _ => (if_one (te_isn (oe_atX hu (oe_atX hu (oe_var 0) oe_int) (oe_var 5)) oe_non))) (fun _ _ _ _ _ => (oe_callC c__law_row (hr.mono (by decide)) (ae_cons (oe_var 5) (ae_cons (oe_atX hu (oe_var 0) oe_int) ae_nil)) (consA_len (consA_len (fun _ _ _ h => nilA_len h))))) (sw_true rfl rfl rfl (by decide +kernel)))
    (sse_cons (se_set 2 sc__law_shape.nd (oe_callC c__law_spots (hr.mono (by decide)) (ae_cons (oe_atX hu (oe_var 0) oe_int) ae_nil) (consA_len (fun _ _ _ h => nilA_len h))))
    (sse_cons (se_for PassesOwn.never rfl (ie_name 2) (ge_name (i := 3) sc__law_shape.nd) (sse_one (se_for PassesOwn.never rfl (ie_name 2) (ge_name (i := 4) sc__law_shape.nd) (sse_one (se_if (te_eq hu (oe_callC c__law_shape_rows (hr.mono (by decide)) (ae_cons (oe_atX hu (oe_var 0) oe_int) (ae_cons (oe_var 3) (ae_cons (oe_var 4) ae_nil))) (consA_len (consA_len (consA_len (fun _ _ _ h => nilA_len h))))) (oe_var 1)) (sse_one (se_ret (oe_tup (de_cons (oe_var 3) (de_cons (oe_var 4) de_nil))))) sse_nil)))))
    (sse_one (se_ret oe_non)))))⟩
/-! _law_rule -/
abbrev s__law_rule : Stmt := topS 59
theorem sc__law_rule : FnScope ["d", "places", "price", "way", "lots", "ones", "zeros", "rows", "prices", "at", "row"] ["d"] (defScope s__law_rule) := ⟨rfl, rfl, rfl, by decide +kernel, rfl, by decide +kernel, by decide +kernel⟩
theorem ok__law_rule {P : Program} {w : World} {K : PySem.W.Frag} {mg : Str → Option Value} {κ : String → Nat} {base : Heap} {f : Addr} {fd : FuncData} (Fu : Fun K "_law_rule" "_law_rule" s__law_rule f fd) (b : Bl K mg κ) (c__law_crisp : Callee P w K mg base 5 "_law_crisp" 3 (m__law_crisp κ)) (c__law_draw : Callee P w K mg base 1 "_law_draw" 2 (m__law_draw κ)) (c__law_low : Callee P w K mg base 1 "_law_low" 1 (m__law_low κ)) (c__law_pick : Callee P w K mg base 2 "_law_pick" 2 (m__law_pick κ)) (c__law_rare : Callee P w K mg base 2 "_law_rare" 2 (m__law_rare κ)) (c__law_rows : Callee P w K mg base 2 "_law_rows" 1 (m__law_rows κ)) (c__law_shape_rows : Callee P w K mg base 3 "_law_shape_rows" 3 (m__law_shape_rows κ)) (c__law_spots : Callee P w K mg base 1 "_law_spots" 1 (m__law_spots κ)) :
    FnOk P w K mg base CX0 6 f fd ["d"] (spF K (m__law_rule κ) 1) := by
  refine fn_ok (k := 5) (io := [0]) Fu sc__law_rule rfl rfl (fun cdv A outer s H E hr => ?_)
  have hu := room64 hr
  exact ⟨_, by decide, (sse_cons (se_set 1 sc__law_rule.nd (oe_if (te_tru (oe_callC c__law_rare (hr.mono (by decide)) (ae_cons (oe_var 0) (ae_cons oe_int ae_nil)) (consA_len (consA_len (fun _ _ _ h => nilA_len h))))) oe_int (oe_add oe_int (oe_callC c__law_draw (hr.mono (by decide)) (ae_cons (oe_var 0) (ae_cons oe_int ae_nil)) (consA_len (consA_len (fun _ _ _ h => nilA_len h)))))))
    (sse_cons (se_set 2 sc__law_rule.nd (oe_callC c__law_draw (hr.mono (by decide)) (ae_cons (oe_var 0) (ae_cons oe_int ae_nil)) (consA_len (consA_len (fun _ _ _ h => nilA_len h)))))
    (sse_cons (se_set 3 sc__law_rule.nd (oe_callC c__law_draw (hr.mono (by decide)) (ae_cons (oe_var 0) (ae_cons oe_int ae_nil)) (consA_len (consA_len (fun _ _ _ h => nilA_len h)))))
    (sse_cons (se_if (te_eq hu (oe_var 3) oe_int) (sse_one (se_ret (oe_callC c__law_crisp (hr.mono (by decide)) (ae_cons (oe_var 0) (ae_cons (oe_var 1) (ae_cons (oe_add oe_int (oe_callC c__law_draw (hr.mono (by decide)) (ae_cons (oe_var 0) (ae_cons oe_int ae_nil)) (consA_len (consA_len (fun _ _ _ h => nilA_len h))))) ae_nil))) (consA_len (consA_len (consA_len (fun _ _ _ h => nilA_len h))))))) sse_nil)
    (sse_cons (se_set 4 sc__law_rule.nd (oe_callC c__law_spots (hr.mono (by decide)) (ae_cons (oe_var 1) ae_nil) (consA_len (fun _ _ _ h => nilA_len h))))
    (sse_cons (se_set 5 sc__law_rule.nd (oe_callC c__law_pick (hr.mono (by decide)) (ae_cons (oe_var 0) (ae_cons (oe_var 4) ae_nil)) (consA_len (consA_len (fun _ _ _ h => nilA_len h)))))
    (sse_cons (se_set 6 sc__law_rule.nd (oe_callC c__law_pick (hr.mono (by decide)) (ae_cons (oe_var 0) (ae_cons (oe_var 4) ae_nil)) (consA_len (consA_len (fun _ _ _ h => nilA_len h)))))
    (sse_cons (se_set 7 sc__law_rule.nd (oe_callC c__law_shape_rows (hr.mono (by decide)) (ae_cons (oe_var 1) (ae_cons (oe_var 5) (ae_cons (oe_var 6) ae_nil))) (consA_len (consA_len (consA_len (fun _ _ _ h => nilA_len h))))))
    (sse_cons (se_setComp 8 rfl sc__law_rule.nd (ie_seq (oe_callC c__law_rows (hr.mono (by decide)) (ae_cons (oe_var 1) ae_nil) (consA_len (fun _ _ _ h => nilA_len h)))) (blkOk_by (own := [("row", 10)]) (by exact rfl)) (fun _ _ _ _ _ => (ge_name (i := 10) sc__law_rule.nd)) (fun _ _ _ _ _ => if_nil) (fun _ _ _ _ _ => (oe_if (te_inX (room65 hr) (oe_var 10) (oe_var 7)) (oe_var 2) oe_non)) (sw_true rfl rfl rfl (by decide +kernel)))
    (sse_cons (se_if (te_eq hu (oe_var 3) oe_int) (sse_cons (se_set 9 sc__law_rule.nd (oe_callC c__law_draw (hr.mono (by decide)) (ae_cons (oe_var 0) (ae_cons (oe_lenX (ae_cons (oe_var 8) ae_nil) b.len_) ae_nil)) (consA_len (consA_len (fun _ _ _ h => nilA_len h)))))
    (sse_one (se_put 8 (oe_if (te_is (oe_atX hu (oe_var 8) (oe_var 9)) oe_non) (oe_var 2) oe_non) (oe_var 9)))) sse_nil)
    (sse_cons (se_if (te_is (oe_callC c__law_low (hr.mono (by decide)) (ae_cons (oe_var 8) ae_nil) (consA_len (fun _ _ _ h => nilA_len h))) oe_non) (sse_one (se_put 8 (oe_var 2) (oe_callC c__law_draw (hr.mono (by decide)) (ae_cons (oe_var 0) (ae_cons (oe_lenX (ae_cons (oe_var 8) ae_nil) b.len_) ae_nil)) (consA_len (consA_len (fun _ _ _ h => nilA_len h)))))) sse_nil)
    (sse_one (se_ret (oe_tup (de_cons (oe_var 1) (de_cons (oe_tuple (ae_cons (oe_var 8) ae_nil) b.tuple_) de_nil))))))))))))))))⟩
/-! _law_softened -/
abbrev s__law_softened : Stmt := topS 60
theorem sc__law_softened : FnScope ["table", "price"] ["table"] (defScope s__law_softened) := ⟨rfl, rfl, rfl, by decide +kernel, rfl, by decide +kernel, by decide +kernel⟩
theorem ok__law_softened {P : Program} {w : World} {K : PySem.W.Frag} {mg : Str → Option Value} {κ : String → Nat} {base : Heap} {f : Addr} {fd : FuncData} (Fu : Fun K "_law_softened" "_law_softened" s__law_softened f fd) (b : Bl K mg κ)  :
    FnOk P w K mg base CX0 1 f fd ["table"] (spF K (m__law_softened κ) 1) := by
  refine fn_ok (k := 0) (io := []) Fu sc__law_softened rfl rfl (fun cdv A outer s H E hr => ?_)
  have hu := room64 hr
  exact ⟨_, by decide, (sse_one (se_ret (oe_tup (de_cons (oe_atX hu (oe_var 0) oe_int) (de_cons (oe_tuple (ae_cons (oe_comp rfl sc__law_softened.nd (ie_seq (oe_atX hu (oe_var 0) oe_int)) (blkOk_by (own := [("price", 1)]) (by exact rfl)) (fun _ _ _ _ _ => (ge_name (i := 1) sc__law_softened.nd)) (fun _ _ _ _ _ => if_nil) (fun _ _ _ _ _ => (oe_if (te_is (oe_var 1) oe_non) oe_int oe_int))) ae_nil) b.tuple_) de_nil)))))⟩
theorem okx_check_rules {P : Program} {w : World} {K : PySem.W.Frag} {mg : Str → Option Value} {κ : String → Nat} {base : Heap} {f : Addr} {fd : FuncData} (Fu : Fun K "check_rules" "check_rules" s_check_rules f fd) (b : Bl K mg κ) (c_Table__crisp : PropOn P w K mg base 1 (κ "Table") "crisp" (m_Table__crisp κ)) (e_BadLot : ExcOf P w K mg base "BadLot" (κ "BadLot") "at" false) :
    FnOk P w K mg base (L2.CX P w) 3 f fd ["lot"] (spX K (x_check_rules κ) 1) := by
  refine fn_okX (k := 2) (io := []) Fu sc_check_rules rfl rfl (fun cdv A outer s H E hr => ?_)
  have hu := room64 hr
  exact ⟨_, by decide, (sse_one (se_for (passes_of rfl) rfl (ie_range1 (by rfl) b.range_ (de_cons (oe_lenX (ae_cons (oe_fld (oe_var 0) (flds_cons b.cl_Lot b.no_Lot_tables flds_nil)) ae_nil) b.len_) de_nil)) (ge_name (i := 1) sc_check_rules.nd) (sse_one (se_if (te_not (te_tru (oe_prop c_Table__crisp (hr.mono (by decide)) (oe_atX hu (oe_fld (oe_var 0) (flds_cons b.cl_Lot b.no_Lot_tables flds_nil)) (oe_var 1))))) (sse_one (se_raise e_BadLot (hr.mono (by decide)) (takes_of rfl rfl rfl rfl) (oe_var 1))) sse_nil))))⟩
theorem okx_left_out_kinds {P : Program} {w : World} {K : PySem.W.Frag} {mg : Str → Option Value} {κ : String → Nat} {base : Heap} {f : Addr} {fd : FuncData} (Fu : Fun K "left_out_kinds" "left_out_kinds" s_left_out_kinds f fd) (b : Bl K mg κ) (c_shape : Callee P w K mg base 4 "shape" 1 (m_shape κ)) (cx_check_rules : CalleeX P w K mg base 3 "check_rules" 1 (x_check_rules κ)) :
    FnOk P w K mg base (L2.CX P w) 5 f fd ["lot"] (spX K (x_left_out_kinds κ) 1) := by
  refine fn_okX (k := 4) (io := []) Fu sc_left_out_kinds rfl rfl (fun cdv A outer s H E hr => ?_)
  have hu := room64 hr
  exact ⟨_, by decide, (sse_cons (se_exprX (ox_call cx_check_rules (hr.mono (by decide)) (takes_of rfl rfl rfl rfl) (ae_cons (oe_var 0) ae_nil) (consA_len (fun _ _ _ h => nilA_len h))))
    (sse_cons (se_set 1 sc_left_out_kinds.nd (oe_lst de_nil))
    (sse_cons (se_if (te_tru (oe_allT rfl (ae_cons (oe_comp rfl sc_left_out_kinds.nd (ie_seq (oe_fld (oe_var 0) (flds_cons b.cl_Lot b.no_Lot_tables flds_nil))) (blkOk_by (own := [("table", 2)]) (by exact rfl)) (fun _ _ _ _ _ => (ge_name (i := 2) sc_left_out_kinds.nd)) (fun _ _ _ _ _ => if_nil) (fun _ _ _ _ _ => (oe_isn (oe_atX hu (oe_fld (oe_var 2) (flds_cons b.cl_Table b.no_Table_prices flds_nil)) oe_int) oe_non))) ae_nil) b.all_)) (sse_one (se_expr (oe_append 1 (de_cons oe_str de_nil)))) sse_nil)
    (sse_cons (se_if (te_tru (oe_allT rfl (ae_cons (oe_comp rfl sc_left_out_kinds.nd (ie_seq (oe_fld (oe_var 0) (flds_cons b.cl_Lot b.no_Lot_tables flds_nil))) (blkOk_by (own := [("table", 2)]) (by exact rfl)) (fun _ _ _ _ _ => (ge_name (i := 2) sc_left_out_kinds.nd)) (fun _ _ _ _ _ => if_nil) (fun _ _ _ _ _ => (oe_isn (oe_atX hu (oe_fld (oe_var 2) (flds_cons b.cl_Table b.no_Table_prices flds_nil)) (oe_sub (oe_lenX (ae_cons (oe_fld (oe_var 2) (flds_cons b.cl_Table b.no_Table_prices flds_nil)) ae_nil) b.len_) oe_int)) oe_non))) ae_nil) b.all_)) (sse_one (se_expr (oe_append 1 (de_cons oe_str de_nil)))) sse_nil)
    (sse_cons (se_if (te_tru (oe_allT rfl (ae_cons (oe_comp rfl sc_left_out_kinds.nd (ie_seq (oe_fld (oe_var 0) (flds_cons b.cl_Lot b.no_Lot_tables flds_nil))) (blkOk_by (own := [("table", 2)]) (by exact rfl)) (fun _ _ _ _ _ => (ge_name (i := 2) sc_left_out_kinds.nd)) (fun _ _ _ _ _ => if_nil) (fun _ _ _ _ _ => (oe_isn (oe_callC c_shape (hr.mono (by decide)) (ae_cons (oe_var 2) ae_nil) (consA_len (fun _ _ _ h => nilA_len h))) oe_non))) ae_nil) b.all_)) (sse_one (se_expr (oe_append 1 (de_cons oe_str de_nil)))) sse_nil)
    (sse_one (se_ret (oe_tuple (ae_cons (oe_var 1) ae_nil) b.tuple_))))))))⟩
theorem okx_Lot____init__ {P : Program} {w : World} {K : PySem.W.Frag} {mg : Str → Option Value} {κ : String → Nat} {base : Heap} {f : Addr} {fd : FuncData} (Fu : Fun K "__init__" "Lot.__init__" s_Lot____init__ f fd) (b : Bl K mg κ) (c_Table____eq__ : OwnOp P w K mg base 1 (κ "Table") "__eq__" (m_Table____eq__ κ)) (e_BadLot : ExcOf P w K mg base "BadLot" (κ "BadLot") "at" false) (c_is_told : Callee P w K mg base 1 "is_told" 1 (m_is_told κ)) (c_swapped : Callee P w K mg base 5 "swapped" 1 (m_swapped κ)) :
    FnOk P w K mg base (L2.CX P w) 6 f fd ["self", "tables"] (spX K (x_Lot____init__ κ) 2) := by
  refine fn_okX (k := 5) (io := [0]) Fu sc_Lot____init__ rfl rfl (fun cdv A outer s H E hr => ?_)
  have hu := room64 hr
  exact ⟨_, by decide, (sse_cons (se_if ((tw_or (te_not (te_tru (oe_isi1 (oe_var 1) b.isinstance_ b.tuple_ (by decide +kernel)))) (tw_or1 (te_not (te_le_le oe_int (oe_lenX (ae_cons (oe_var 1) ae_nil) b.len_) (oe_glob b.k_TABLES)))))).te (sse_one (se_raise e_BadLot (hr.mono (by decide)) (takes_of rfl rfl rfl rfl) oe_non)) sse_nil)
    (sse_cons (se_for (passes_of rfl) rfl (ie_range1 (by rfl) b.range_ (de_cons (oe_lenX (ae_cons (oe_var 1) ae_nil) b.len_) de_nil)) (ge_name (i := 2) sc_Lot____init__.nd) (sse_one (se_if (te_not (te_tru (oe_callC c_is_told (hr.mono (by decide)) (ae_cons (oe_atX hu (oe_var 1) (oe_var 2)) ae_nil) (consA_len (fun _ _ _ h => nilA_len h))))) (sse_one (se_raise e_BadLot (hr.mono (by decide)) (takes_of rfl rfl rfl rfl) (oe_var 2))) sse_nil)))
    (sse_cons (se_fld 0 (oe_var 1) (flds_cons b.cl_Lot b.no_Lot_tables flds_nil))
    (sse_one (se_fld 0 (oe_allT rfl (ae_cons (oe_comp rfl sc_Lot____init__.nd (ie_name 1) (blkOk_by (own := [("table", 3)]) (by exact rfl)) (fun _ _ _ _ _ => (ge_name (i := 3) sc_Lot____init__.nd)) (fun _ _ _ _ _ => if_nil) (fun _ _ _ _ _ => (oe_ownEq c_Table____eq__ rfl (hr.mono (by decide)) (oe_callC c_swapped (hr.mono (by decide)) (ae_cons (oe_var 3) ae_nil) (consA_len (fun _ _ _ h => nilA_len h))) (oe_var 3)))) ae_nil) b.all_) (flds_cons b.cl_Lot b.no_Lot_swaps flds_nil))))))⟩
theorem okx_soft_lot {P : Program} {w : World} {K : PySem.W.Frag} {mg : Str → Option Value} {κ : String → Nat} {base : Heap} {f : Addr} {fd : FuncData} (Fu : Fun K "soft_lot" "soft_lot" s_soft_lot f fd) (b : Bl K mg κ) (c_softened : Callee P w K mg base 5 "softened" 1 (m_softened κ)) (cx_Lot____init__ : MakerX P w K mg base 6 "Lot" (κ "Lot") 2 (x_Lot____init__ κ)) (cx_check_rules : CalleeX P w K mg base 3 "check_rules" 1 (x_check_rules κ)) :
    FnOk P w K mg base (L2.CX P w) 8 f fd ["lot"] (spX K (x_soft_lot κ) 1) := by
  refine fn_okX (k := 7) (io := []) Fu sc_soft_lot rfl rfl (fun cdv A outer s H E hr => ?_)
  have hu := room64 hr
  exact ⟨_, by decide, (sse_cons (se_exprX (ox_call cx_check_rules (hr.mono (by decide)) (takes_of rfl rfl rfl rfl) (ae_cons (oe_var 0) ae_nil) (consA_len (fun _ _ _ h => nilA_len h))))
    (sse_one (se_retX (ox_make cx_Lot____init__ (hr.mono (by decide)) (takes_of rfl rfl rfl rfl) (ae_cons (oe_tuple (ae_cons (oe_comp rfl sc_soft_lot.nd (ie_seq (oe_fld (oe_var 0) (flds_cons b.cl_Lot b.no_Lot_tables flds_nil))) (blkOk_by (own := [("table", 1)]) (by exact rfl)) (fun _ _ _ _ _ => (ge_name (i := 1) sc_soft_lot.nd)) (fun _ _ _ _ _ => if_nil) (fun _ _ _ _ _ => (oe_callC c_softened (hr.mono (by decide)) (ae_cons (oe_var 1) ae_nil) (consA_len (fun _ _ _ h => nilA_len h))))) ae_nil) b.tuple_) ae_nil) (len_up (consA_len (fun _ _ _ h => nilA_len h)))))))⟩
/-! _law_refused -/
abbrev s__law_refused : Stmt := topS 61
theorem sc__law_refused : FnScope ["ask", "lot", "error"] ["ask", "lot"] (defScope s__law_refused) := ⟨rfl, rfl, rfl, by decide +kernel, rfl, by decide +kernel, by decide +kernel⟩
theorem ok__law_refused {P : Program} {w : World} {K : PySem.W.Frag} {mg : Str → Option Value} {κ : String → Nat} {base : Heap} {f : Addr} {fd : FuncData} (Fu : Fun K "_law_refused" "_law_refused" s__law_refused f fd) (b : Bl K mg κ) (cx_left_out_kinds : CalleeX P w K mg base 5 "left_out_kinds" 1 (x_left_out_kinds κ)) (cx_soft_lot : CalleeX P w K mg base 8 "soft_lot" 1 (x_soft_lot κ)) :
    FnOk P w K mg base CX0 9 f fd ["ask", "lot"] (spF K (m__law_refused κ) 2) := by
  refine fn_ok (k := 8) (io := []) Fu sc__law_refused rfl rfl (fun cdv A outer s H E hr => ?_)
  have hu := room64 hr
  exact ⟨_, by decide, (sse_cons (se_tryX b.ea_BadLot.gC b.ea_BadLot.te sc__law_refused.nd (fun Wx1 pn xe tk po => (sse_one (se_if (te_eq hu (oe_var 0) oe_int) (sse_one (se_exprX (ox_call cx_left_out_kinds (hr.mono (by decide)) tk (ae_cons (oe_var 1) ae_nil) (consA_len (fun _ _ _ h => nilA_len h))))) (sse_one (se_exprX (ox_call cx_soft_lot (hr.mono (by decide)) tk (ae_cons (oe_var 1) ae_nil) (consA_len (fun _ _ _ h => nilA_len h)))))))) (he_fld b.ea_BadLot.xf b.ea_BadLot.nof))
    (sse_one (se_ret oe_str)))⟩
/-! _law_lot_of -/
abbrev s__law_lot_of : Stmt := topS 62
theorem sc__law_lot_of : FnScope ["tables", "table"] ["tables"] (defScope s__law_lot_of) := ⟨rfl, rfl, rfl, by decide +kernel, rfl, by decide +kernel, by decide +kernel⟩
theorem ok__law_lot_of {P : Program} {w : World} {K : PySem.W.Frag} {mg : Str → Option Value} {κ : String → Nat} {base : Heap} {f : Addr} {fd : FuncData} (Fu : Fun K "_law_lot_of" "_law_lot_of" s__law_lot_of f fd) (b : Bl K mg κ) (c_Lot____init__ : MakerOf P w K mg base 6 "Lot" (κ "Lot") 2 (m_Lot____init__ κ)) (c_Table____init__ : MakerOf P w K mg base 3 "Table" (κ "Table") 3 (m_Table____init__ κ)) :
    FnOk P w K mg base CX0 8 f fd ["tables"] (spF K (m__law_lot_of κ) 1) := by
  refine fn_ok (k := 7) (io := []) Fu sc__law_lot_of rfl rfl (fun cdv A outer s H E hr => ?_)
  have hu := room64 hr
  exact ⟨_, by decide, (sse_one (se_ret (oe_make c_Lot____init__ (hr.mono (by decide)) (ae_cons (oe_tuple (ae_cons (oe_comp rfl sc__law_lot_of.nd (ie_name 0) (blkOk_by (own := [("table", 1)]) (by exact rfl)) (fun _ _ _ _ _ => (ge_name (i := 1) sc__law_lot_of.nd)) (fun _ _ _ _ _ => if_nil) (fun _ _ _ _ _ => (oe_make c_Table____init__ (hr.mono (by decide)) (ae_cons (oe_atX hu (oe_var 1) oe_int) (ae_cons (oe_atX hu (oe_var 1) oe_int) ae_nil)) (len_up (consA_len (consA_len (fun _ _ _ h => nilA_len h))))).fz)) ae_nil) b.tuple_) ae_nil) (len_up (consA_len (fun _ _ _ h => nilA_len h)))).fz))⟩
/-! Lot.__eq__ -/
abbrev s_Lot____eq__ : Stmt := inClass (topS 28) 1
theorem sc_Lot____eq__ : FnScope ["self", "other"] ["self", "other"] (defScope s_Lot____eq__) := ⟨rfl, rfl, rfl, by decide +kernel, rfl, by decide +kernel, by decide +kernel⟩
theorem ok_Lot____eq__ {P : Program} {w : World} {K : PySem.W.Frag} {mg : Str → Option Value} {κ : String → Nat} {base : Heap} {f : Addr} {fd : FuncData} (Fu : Fun K "__eq__" "Lot.__eq__" s_Lot____eq__ f fd) (b : Bl K mg κ) (c_Table____eq__ : OwnOp P w K mg base 1 (κ "Table") "__eq__" (m_Table____eq__ κ)) :
    FnOk P w K mg base CX0 3 f fd ["self", "other"] (spF K (m_Lot____eq__ κ) 2) := by
  refine fn_ok (k := 2) (io := []) Fu sc_Lot____eq__ rfl rfl (fun cdv A outer s H E hr => ?_)
  have hu := room64 hr
  exact ⟨_, by decide, (sse_one (se_ret (oe_and (oe_isC b.is_Lot (oe_var 1) b.isinstance_) (oe_one (oe_eqT c_Table____eq__ rfl (hr.mono (by decide)) (oe_fld (oe_var 0) (flds_cons b.cl_Lot b.no_Lot_tables flds_nil)) (oe_fld (oe_var 1) (flds_cons b.cl_Lot b.no_Lot_tables flds_nil)))))))⟩
/-! law -/
abbrev s_law : Stmt := topS 63
theorem sc_law : FnScope ["script", "d", "tables", "places", "ones", "zeros", "lot", "soft", "due", "at", "uneven", "wrong", "prices", "table", "k", "kind"] ["script"] (defScope s_law) := ⟨rfl, rfl, rfl, by decide +kernel, rfl, by decide +kernel, by decide +kernel⟩
theorem ok_law {P : Program} {w : World} {K : PySem.W.Frag} {mg : Str → Option Value} {κ : String → Nat} {base : Heap} {f : Addr} {fd : FuncData} (Fu : Fun K "law" "law" s_law f fd) (b : Bl K mg κ) (c_Lot____eq__ : OwnOp P w K mg base 3 (κ "Lot") "__eq__" (m_Lot____eq__ κ)) (c_Table____init__ : MakerOf P w K mg base 3 "Table" (κ "Table") 3 (m_Table____init__ κ)) (c__law_begin : Callee P w K mg base 1 "_law_begin" 1 (m__law_begin κ)) (c__law_draw : Callee P w K mg base 1 "_law_draw" 2 (m__law_draw κ)) (c__law_kept : Callee P w K mg base 4 "_law_kept" 2 (m__law_kept κ)) (c__law_lot_of : Callee P w K mg base 8 "_law_lot_of" 1 (m__law_lot_of κ)) (c__law_pick : Callee P w K mg base 2 "_law_pick" 2 (m__law_pick κ)) (c__law_refused : Callee P w K mg base 9 "_law_refused" 2 (m__law_refused κ)) (c__law_rule : Callee P w K mg base 6 "_law_rule" 1 (m__law_rule κ)) (c__law_shape : Callee P w K mg base 4 "_law_shape" 1 (m__law_shape κ)) (c__law_shape_rows : Callee P w K mg base 3 "_law_shape_rows" 3 (m__law_shape_rows κ)) (c__law_softened : Callee P w K mg base 1 "_law_softened" 1 (m__law_softened κ)) (c__law_spots : Callee P w K mg base 1 "_law_spots" 1 (m__law_spots κ)) (c_left_out_kinds : Callee P w K mg base 5 "left_out_kinds" 1 (m_left_out_kinds κ)) (c_shape : Callee P w K mg base 4 "shape" 1 (m_shape κ)) (c_shape_rows : Callee P w K mg base 3 "shape_rows" 3 (m_shape_rows κ)) (c_soft_lot : Callee P w K mg base 8 "soft_lot" 1 (m_soft_lot κ)) (c_softened : Callee P w K mg base 5 "softened" 1 (m_softened κ)) :
    FnOk P w K mg base CX0 10 f fd ["script"] (spF K (m_law κ) 1) := by
  refine fn_ok (k := 9) (io := []) Fu sc_law rfl rfl (fun cdv A outer s H E hr => ?_)
  have hu := room64 hr
  exact ⟨_, by decide, (sse_cons (se_set 1 sc_law.nd (oe_callC c__law_begin (hr.mono (by decide)) (ae_cons (oe_var 0) ae_nil) (consA_len (fun _ _ _ h => nilA_len h))))
    (sse_cons (se_setComp 2 rfl sc_law.nd (ie_range1 (by rfl) b.range_ (de_cons (oe_add oe_int (oe_callC c__law_draw (hr.mono (by decide)) (ae_cons (oe_var 1) (ae_cons oe_int ae_nil)) (consA_len (consA_len (fun _ _ _ h => nilA_len h))))) de_nil)) (blkOk_by (own := [("k", 14)]) (by exact rfl)) (fun _ _ _ _ _ => (ge_name (i := 14) sc_law.nd)) (fun _ _ _ _ _ => if_nil) (fun _ _ _ _ _ => (oe_callC c__law_rule (hr.mono (by decide)) (ae_cons (oe_var 1) ae_nil) (consA_len (fun _ _ _ h => nilA_len h)))) (sw_true rfl rfl rfl (by decide +kernel)))
    (sse_cons (se_for PassesOwn.never rfl (ie_name 2) (ge_tup rfl (gse_cons (ge_name (i := 3) sc_law.nd) (gse_cons (ge_name (i := 12) sc_law.nd) gse_nil))) (sse_cons (se_set 13 sc_law.nd (oe_make c_Table____init__ (hr.mono (by decide)) (ae_cons (oe_var 3) (ae_cons (oe_var 12) ae_nil)) (len_up (consA_len (consA_len (fun _ _ _ h => nilA_len h))))).fz)
    (sse_cons (se_if (te_ne hu (oe_callC c_shape (hr.mono (by decide)) (ae_cons (oe_var 13) ae_nil) (consA_len (fun _ _ _ h => nilA_len h))) (oe_callC c__law_shape (hr.mono (by decide)) (ae_cons (oe_tup (de_cons (oe_var 3) (de_cons (oe_var 12) de_nil))) ae_nil) (consA_len (fun _ _ _ h => nilA_len h)))) (sse_one (se_ret oe_bl)) sse_nil)
    (sse_cons (se_set 7 sc_law.nd (oe_callC c_softened (hr.mono (by decide)) (ae_cons (oe_var 13) ae_nil) (consA_len (fun _ _ _ h => nilA_len h))))
    (sse_one (se_if ((tw_or (te_ne hu (oe_fld (oe_var 7) (flds_cons b.cl_Table b.no_Table_places flds_nil)) (oe_var 3)) (tw_or1 (te_ne hu (oe_fld (oe_var 7) (flds_cons b.cl_Table b.no_Table_prices flds_nil)) (oe_atX hu (oe_callC c__law_softened (hr.mono (by decide)) (ae_cons (oe_tup (de_cons (oe_var 3) (de_cons (oe_var 12) de_nil))) ae_nil) (consA_len (fun _ _ _ h => nilA_len h))) oe_int))))).te (sse_one (se_ret oe_bl)) sse_nil))))))
    (sse_cons (se_set 3 sc_law.nd (oe_add oe_int (oe_callC c__law_draw (hr.mono (by decide)) (ae_cons (oe_var 1) (ae_cons oe_int ae_nil)) (consA_len (consA_len (fun _ _ _ h => nilA_len h))))))
    (sse_cons (se_set 4 sc_law.nd (oe_callC c__law_pick (hr.mono (by decide)) (ae_cons (oe_var 1) (ae_cons (oe_callC c__law_spots (hr.mono (by decide)) (ae_cons (oe_var 3) ae_nil) (consA_len (fun _ _ _ h => nilA_len h))) ae_nil)) (consA_len (consA_len (fun _ _ _ h => nilA_len h)))))
    (sse_cons (se_set 5 sc_law.nd (oe_callC c__law_pick (hr.mono (by decide)) (ae_cons (oe_var 1) (ae_cons (oe_callC c__law_spots (hr.mono (by decide)) (ae_cons (oe_var 3) ae_nil) (consA_len (fun _ _ _ h => nilA_len h))) ae_nil)) (consA_len (consA_len (fun _ _ _ h => nilA_len h)))))
    (sse_cons (se_if (te_ne hu (oe_callC c_shape_rows (hr.mono (by decide)) (ae_cons (oe_var 3) (ae_cons (oe_var 4) (ae_cons (oe_var 5) ae_nil))) (consA_len (consA_len (consA_len (fun _ _ _ h => nilA_len h))))) (oe_callC c__law_shape_rows (hr.mono (by decide)) (ae_cons (oe_var 3) (ae_cons (oe_var 4) (ae_cons (oe_var 5) ae_nil))) (consA_len (consA_len (consA_len (fun _ _ _ h => nilA_len h)))))) (sse_one (se_ret oe_bl)) sse_nil)
    (sse_cons (se_set 6 sc_law.nd (oe_callC c__law_lot_of (hr.mono (by decide)) (ae_cons (oe_var 2) ae_nil) (consA_len (fun _ _ _ h => nilA_len h))))
    (sse_cons (se_set 7 sc_law.nd (oe_comp rfl sc_law.nd (ie_name 2) (blkOk_by (own := [("table", 13)]) (by exact rfl)) (fun _ _ _ _ _ => (ge_name (i := 13) sc_law.nd)) (fun _ _ _ _ _ => if_nil) (fun _ _ _ _ _ => (oe_callC c__law_softened (hr.mono (by decide)) (ae_cons (oe_var 13) ae_nil) (consA_len (fun _ _ _ h => nilA_len h))))))
    (sse_cons (se_setComp 8 rfl sc_law.nd (ie_seq (oe_lst (de_cons oe_str (de_cons oe_str (de_cons oe_str de_nil))))) (blkOk_by (own := [("kind", 15)]) (by exact rfl)) (fun _ _ _ _ _ => (ge_name (i := 15) sc_law.nd)) (fun _ _ _ _ _ => (if_one (te_tru (oe_callC c__law_kept (hr.mono (by decide)) (ae_cons (oe_var 15) (ae_cons (oe_var 7) ae_nil)) (consA_len (consA_len (fun _ _ _ h => nilA_len h))))))) (fun _ _ _ _ _ => (oe_var 15)) (sw_true rfl rfl rfl (by decide +kernel)))
    (sse_cons (se_if ((tw_or (te_ne hu (oe_listX rfl (ae_cons (oe_callC c_left_out_kinds (hr.mono (by decide)) (ae_cons (oe_var 6) ae_nil) (consA_len (fun _ _ _ h => nilA_len h))) ae_nil) b.list_) (oe_var 8)) (tw_or1 (te_not (te_ownEq c_Lot____eq__ rfl (hr.mono (by decide)) (oe_callC c_soft_lot (hr.mono (by decide)) (ae_cons (oe_var 6) ae_nil) (consA_len (fun _ _ _ h => nilA_len h))) (oe_callC c__law_lot_of (hr.mono (by decide)) (ae_cons (oe_var 7) ae_nil) (consA_len (fun _ _ _ h => nilA_len h)))))))).te (sse_one (se_ret oe_bl)) sse_nil)
    (sse_cons (se_set 9 sc_law.nd (oe_callC c__law_draw (hr.mono (by decide)) (ae_cons (oe_var 1) (ae_cons (oe_add (oe_lenX (ae_cons (oe_var 2) ae_nil) b.len_) oe_int) ae_nil)) (consA_len (consA_len (fun _ _ _ h => nilA_len h)))))
    (sse_cons (se_set 10 sc_law.nd (oe_tup (de_cons oe_int (de_cons (oe_tup (de_cons (oe_callC c__law_draw (hr.mono (by decide)) (ae_cons (oe_var 1) (ae_cons oe_int ae_nil)) (consA_len (consA_len (fun _ _ _ h => nilA_len h)))) (de_cons (oe_add oe_int (oe_callC c__law_draw (hr.mono (by decide)) (ae_cons (oe_var 1) (ae_cons oe_int ae_nil)) (consA_len (consA_len (fun _ _ _ h => nilA_len h))))) de_nil))) de_nil))))
    (sse_cons (se_set 11 sc_law.nd (oe_callC c__law_lot_of (hr.mono (by decide)) (ae_cons (oe_add (oe_add (oe_cut (oe_var 2) pa_no (pa_some (oe_var 9))) (oe_lst (de_cons (oe_var 10) de_nil))) (oe_cut (oe_var 2) (pa_some (oe_var 9)) pa_no)) ae_nil) (consA_len (fun _ _ _ h => nilA_len h))))
    (sse_one (se_ret (oe_and (oe_eq hu (oe_callC c__law_refused (hr.mono (by decide)) (ae_cons (oe_callC c__law_draw (hr.mono (by decide)) (ae_cons (oe_var 1) (ae_cons oe_int ae_nil)) (consA_len (consA_len (fun _ _ _ h => nilA_len h)))) (ae_cons (oe_var 11) ae_nil)) (consA_len (consA_len (fun _ _ _ h => nilA_len h)))) (oe_var 9)) (oe_one (oe_eq hu (oe_callC c__law_refused (hr.mono (by decide)) (ae_cons (oe_callC c__law_draw (hr.mono (by decide)) (ae_cons (oe_var 1) (ae_cons oe_int ae_nil)) (consA_len (consA_len (fun _ _ _ h => nilA_len h)))) (ae_cons (oe_var 6) ae_nil)) (consA_len (consA_len (fun _ _ _ h => nilA_len h)))) oe_str)))))))))))))))))))⟩
end Ev.W

set_option Elab.async false
set_option linter.all false
set_option maxRecDepth 100000
/-! Ev. M: mirrors are run. -/
set_option autoImplicit false
namespace Ev
open PySem PySem.Spec PyProof.Rows L2

/-- what is asked of a value: as an instance, so that the simplifier leaves it alone -/
class Con (α : Type) where
  p : α → Prop
def OkI {α : Type} (x : Option α) [c : Con α] : Prop := ∃ a, x = some a ∧ c.p a
/-- it gives something, and what it gives is as P says -/
def Ok {α : Type} (x : Option α) (P : α → Prop) : Prop := @OkI α x ⟨P⟩
@[simp ↓] theorem ok_def {α : Type} {x : Option α} {P : α → Prop} : Ok x P = @OkI α x ⟨P⟩ := rfl
@[simp] theorem ok_some {α : Type} {a : α} {P : α → Prop} : @OkI α (some a) ⟨P⟩ = P a := by simp [OkI]
@[simp] theorem ok_none {α : Type} {P : α → Prop} : @OkI α none ⟨P⟩ = False := by simp [OkI]
@[simp] theorem ok_guard {α : Type} {c : Prop} [Decidable c] {x : Option α} {P : α → Prop} : @OkI α (if c then x else none) ⟨P⟩ = (c ∧ Ok x P) := by by_cases h : c <;> simp [OkI, Ok, h]
theorem ok_some' {α : Type} {a : α} {P : α → Prop} : Ok (some a) P = P a := by simp
theorem ok_none' {α : Type} {P : α → Prop} : Ok none P = False := by simp
theorem Ok.imp {α : Type} {x : Option α} {P Q : α → Prop} (h : Ok x P) (w : ∀ a, P a → Q a) : Ok x Q := by obtain ⟨a, e, p⟩ := h; exact ⟨a, e, w a p⟩
theorem Ok.of {α : Type} {x : Option α} {a : α} {P : α → Prop} (h : x = some a) (p : P a) : Ok x P := ⟨a, h, p⟩
theorem Ok.eq {α : Type} {x : Option α} {a : α} (h : Ok x (· = a)) : x = some a := by obtain ⟨b, e, rfl⟩ := h; exact e

@[simp] theorem intsOf_mapf {α : Type} (f : α → Int) : ∀ l : List α, intsOf (l.map fun a => D.int (f a)) = some (l.map f)
  | [] => rfl
  | a :: l => by rw [List.map_cons, intsOf, intsOf_mapf f l]; rfl
@[simp] theorem intsOf_int (l : List Int) : intsOf (l.map D.int) = some l := by have h := intsOf_mapf (fun x => x) l; simpa using h
@[simp] theorem intsOf_nil : intsOf [] = some [] := rfl
@[simp] theorem bolsOf_mapf {α : Type} (f : α → Bool) : ∀ l : List α, bolsOf (l.map fun a => D.bl (f a)) = some (l.map f)
  | [] => rfl
  | a :: l => by rw [List.map_cons, bolsOf, bolsOf_mapf f l]; rfl
theorem toPys_int : ∀ l : List Int, toPys (l.map D.int) = some (l.map PyData.int)
  | [] => by rw [List.map_nil, toPys]; rfl
  | a :: l => by rw [List.map_cons, toPys, toPys_int l]; simp [toPy]
theorem lay_int : ∀ l : List Int, PyData.canLayAll0 (l.map PyData.int) = true
  | [] => by rw [List.map_nil, PyData.canLayAll0]
  | a :: l => by rw [List.map_cons, PyData.canLayAll0, lay_int l]; simp [PyData.canLay0]
theorem dep_int : ∀ l : List Int, PyData.depthAll (l.map PyData.int) = 0
  | [] => by rw [List.map_nil, PyData.depthAll]
  | a :: l => by rw [List.map_cons, PyData.depthAll, dep_int l]; simp [PyData.depth]
theorem eqv_int : ∀ l r : List Int, PyData.eqvAll (l.map PyData.int) (r.map PyData.int) = decide (l = r)
  | [], [] => by simp [PyData.eqvAll]
  | [], _ :: _ => by simp [PyData.eqvAll]
  | _ :: _, [] => by simp [PyData.eqvAll]
  | a :: l, b :: r => by rw [List.map_cons, List.map_cons, PyData.eqvAll, eqv_int l r]; by_cases h : a = b <;> simp [PyData.eqv, h]
theorem eqD_int {a b : Int} : eqD (.int a) (.int b) = some (decide (a = b)) := by
  unfold eqD
  simp only [toPy]
  rw [if_pos ⟨by simp [SeqAt.shaped, PyData.canLay0, PyData.depth], by simp [SeqAt.shaped, PyData.canLay0, PyData.depth]⟩, PyData.eqv]
  by_cases h : a = b <;> simp [h]
theorem eqD_str {a b : Str} (ha : PyData.strOk a = true) (hb : PyData.strOk b = true) : eqD (.str a) (.str b) = some (a == b) := by
  unfold eqD
  simp only [toPy]
  rw [if_pos ⟨by simp [SeqAt.shaped, PyData.canLay0, PyData.depth, ha], by simp [SeqAt.shaped, PyData.canLay0, PyData.depth, hb]⟩, PyData.eqv]
theorem eqD_lst {ds es : List D} {xs ys : List Int} (h : intsOf ds = some xs) (k : intsOf es = some ys) : eqD (.lst ds) (.lst es) = some (decide (xs = ys)) := by
  rw [intsOf_eq h, intsOf_eq k]
  unfold eqD
  simp only [toPy, toPys_int]
  rw [if_pos ⟨by simp [SeqAt.shaped, PyData.canLay0, PyData.depth, lay_int, dep_int], by simp [SeqAt.shaped, PyData.canLay0, PyData.depth, lay_int, dep_int]⟩, PyData.eqv, eqv_int]
theorem eqD_tup {ds es : List D} {xs ys : List Int} (h : intsOf ds = some xs) (k : intsOf es = some ys) : eqD (.tup ds) (.tup es) = some (decide (xs = ys)) := by
  rw [intsOf_eq h, intsOf_eq k]
  unfold eqD
  simp only [toPy, toPys_int]
  rw [if_pos ⟨by simp [SeqAt.shaped, PyData.canLay0, PyData.depth, lay_int, dep_int], by simp [SeqAt.shaped, PyData.canLay0, PyData.depth, lay_int, dep_int]⟩, PyData.eqv, eqv_int]
theorem eqD_bl {a b : Bool} : eqD (.bl a) (.bl b) = some (a == b) := by
  unfold eqD
  simp only [toPy]
  rw [if_pos ⟨by simp [SeqAt.shaped, PyData.canLay0, PyData.depth], by simp [SeqAt.shaped, PyData.canLay0, PyData.depth]⟩, PyData.eqv]
@[simp] theorem eqG_int {a b : Int} : eqG (.int a) (.int b) = some (.val (.bl (decide (a = b)))) := by unfold eqG; rw [eqD_int]
@[simp] theorem neG_int {a b : Int} : neG (.int a) (.int b) = some (.val (.bl (!decide (a = b)))) := by unfold neG; rw [eqD_int]
@[simp] theorem eqG_bl {a b : Bool} : eqG (.bl a) (.bl b) = some (.val (.bl (a == b))) := by unfold eqG; rw [eqD_bl]
@[simp] theorem neG_bl {a b : Bool} : neG (.bl a) (.bl b) = some (.val (.bl (!(a == b)))) := by unfold neG; rw [eqD_bl]
theorem eqG_str {a b : Str} (ha : PyData.strOk a = true) (hb : PyData.strOk b = true) : eqG (.str a) (.str b) = some (.val (.bl (a == b))) := by unfold eqG; rw [eqD_str ha hb]
theorem neG_lst {ds es : List D} {xs ys : List Int} (h : intsOf ds = some xs) (k : intsOf es = some ys) : neG (.lst ds) (.lst es) = some (.val (.bl (!decide (xs = ys)))) := by unfold neG; rw [eqD_lst h k]
theorem neG_tup {ds es : List D} {xs ys : List Int} (h : intsOf ds = some xs) (k : intsOf es = some ys) : neG (.tup ds) (.tup es) = some (.val (.bl (!decide (xs = ys)))) := by unfold neG; rw [eqD_tup h k]
theorem sumG_lst {ds : List D} {xs : List Int} (h : intsOf ds = some xs) : sumG [.lst ds] = some (.val (.int xs.sum)) := by simp [sumG, h, listD]
theorem allG_lst {ds : List D} {xs : List Bool} (h : bolsOf ds = some xs) : allG [.lst ds] = some (.val (.bl (xs.all id))) := by simp [boolsG, h, listD]
theorem minG_lst {ds : List D} {xs : List Int} {k : Int} (h : intsOf ds = some xs) (h2 : minI xs = some k) : minG [.lst ds] = some (.val (.int k)) := by simp [extG, h, h2, listD]
theorem maxG_lst {ds : List D} {xs : List Int} {k : Int} (h : intsOf ds = some xs) (h2 : maxI xs = some k) : maxG [.lst ds] = some (.val (.int k)) := by simp [extG, h, h2, listD]

section
variable {P : Opd × Rho → Prop} {PV : D × Rho → Prop} {PT : Bool × Rho → Prop} {PA : List Opd × Rho → Prop} {PD : List D × Rho → Prop} {PS : Out × Rho → Prop} {PI : List D × Option (Nat × D) × Rho → Prop} {PP : Option Int × Rho → Prop}
variable {ρ : Rho} {m ma mb : EM} {am : AM} {dm : DM} {t u : TM} {s1 s2 : SM} {i j np nl : Nat} {io : List Nat} {g : D → D → Option Opd}

def frzO : Opd → Opd
  | .tmp d => .val d
  | o => o
@[simp] theorem frzO_val (d : D) : frzO (.val d) = .val d := rfl
@[simp] theorem frzO_var : frzO (.var i) = .var i := rfl
@[simp] theorem frzO_tmp (d : D) : frzO (.tmp d) = .val d := rfl
@[simp ↓] theorem ok_frz : @OkI _ (frz m ρ) ⟨P⟩ = Ok (m ρ) fun p => P (frzO p.1, p.2) := by
  unfold frz
  rcases h : m ρ with _ | ⟨o, ρ'⟩
  · simp
  · cases o <;> simp
@[simp ↓] theorem ok_esc : @OkI _ (esc m ρ) ⟨PV⟩ = Ok (m ρ) fun p => Ok (escO p.1 p.2) PV := by
  unfold esc
  rcases h : m ρ with _ | ⟨o, ρ'⟩ <;> simp
@[simp ↓] theorem ok_const {d : D} : @OkI _ (constM d ρ) ⟨P⟩ = P (.val d, ρ) := by simp [constM]
@[simp ↓] theorem ok_bin : @OkI _ (binM g ma mb ρ) ⟨P⟩ = Ok (frz ma ρ) fun p => Ok (frz mb p.2) fun q => Ok (look p.1 q.2) fun d => Ok (look q.1 q.2) fun e => Ok (g d e) fun o => P (o, q.2) := by
  unfold binM
  rcases frz ma ρ with _ | ⟨oa, ρ1⟩
  · simp
  simp only [ok_some']
  rcases frz mb ρ1 with _ | ⟨ob, ρ2⟩
  · simp
  simp only [ok_some']
  rcases look oa ρ2 with _ | d
  · simp
  rcases look ob ρ2 with _ | e
  · simp
  simp only [ok_some']
  rcases g d e with _ | o <;> simp
def bolO : Opd → Option Bool
  | .val (.bl b) => some b
  | _ => none
@[simp] theorem bolO_bl (b : Bool) : bolO (.val (.bl b)) = some b := rfl
@[simp ↓] theorem ok_boolM : @OkI _ (boolM m ρ) ⟨PT⟩ = Ok (m ρ) fun p => Ok (bolO p.1) fun b => PT (b, p.2) := by
  unfold boolM
  rcases m ρ with _ | ⟨o, ρ'⟩
  · simp
  rcases o with d | _ | _
  · cases d <;> simp [bolO]
  · simp [bolO]
  · simp [bolO]
@[simp ↓] theorem ok_truM : @OkI _ (truM m ρ) ⟨PT⟩ = Ok (frz m ρ) fun p => Ok (look p.1 p.2) fun d => Ok (truD d) fun b => PT (b, p.2) := by
  unfold truM
  rcases frz m ρ with _ | ⟨o, ρ'⟩
  · simp
  simp only [ok_some']
  rcases look o ρ' with _ | d
  · simp
  simp only [ok_some']
  rcases truD d with _ | b <;> simp
/-- go on by a truth value -/
def Br (b : Bool) (p q : Prop) : Prop := (b = true → p) ∧ (b = false → q)
@[simp] theorem br_t {p q : Prop} : Br true p q = p := by simp [Br]
@[simp] theorem br_f {p q : Prop} : Br false p q = q := by simp [Br]
theorem br_dec {c : Prop} [Decidable c] {p q : Prop} : Br (decide c) p q = ((c → p) ∧ (¬c → q)) := by simp [Br]
theorem Br.mk {b : Bool} {p q : Prop} (h : b = true → p) (k : b = false → q) : Br b p q := ⟨h, k⟩
@[simp ↓] theorem ok_andM : @OkI _ (andM t u ρ) ⟨PT⟩ = Ok (t ρ) fun p => Br p.1 (Ok (u p.2) PT) (PT (false, p.2)) := by
  unfold andM
  rcases t ρ with _ | ⟨_ | _, ρ'⟩ <;> simp
@[simp ↓] theorem ok_orM : @OkI _ (orM t u ρ) ⟨PT⟩ = Ok (t ρ) fun p => Br p.1 (PT (true, p.2)) (Ok (u p.2) PT) := by
  unfold orM
  rcases t ρ with _ | ⟨_ | _, ρ'⟩ <;> simp
@[simp ↓] theorem ok_notM : @OkI _ (notM t ρ) ⟨PT⟩ = Ok (t ρ) fun p => PT (!p.1, p.2) := by
  unfold notM
  rcases t ρ with _ | ⟨b, ρ'⟩ <;> simp
@[simp ↓] theorem ok_yesM : @OkI _ (yesM ρ) ⟨PT⟩ = PT (true, ρ) := by simp [yesM]
@[simp ↓] theorem ok_ifM : @OkI _ (ifM t ma mb ρ) ⟨P⟩ = Ok (t ρ) fun p => Br p.1 (Ok (ma p.2) P) (Ok (mb p.2) P) := by
  unfold ifM
  rcases t ρ with _ | ⟨_ | _, ρ'⟩ <;> simp
@[simp ↓] theorem ok_andV : @OkI _ (andV ma mb ρ) ⟨P⟩ = Ok (ma ρ) fun p => Ok (bolO p.1) fun b => Br b (Ok (mb p.2) P) (P (.val (.bl false), p.2)) := by
  unfold andV
  rcases ma ρ with _ | ⟨o, ρ'⟩
  · simp
  rcases o with d | _ | _
  · cases d with
    | bl b => cases b <;> simp [bolO]
    | _ => simp [bolO]
  · simp [bolO]
  · simp [bolO]
@[simp ↓] theorem ok_orV : @OkI _ (orV ma mb ρ) ⟨P⟩ = Ok (ma ρ) fun p => Ok (bolO p.1) fun b => Br b (P (.val (.bl true), p.2)) (Ok (mb p.2) P) := by
  unfold orV
  rcases ma ρ with _ | ⟨o, ρ'⟩
  · simp
  rcases o with d | _ | _
  · cases d with
    | bl b => cases b <;> simp [bolO]
    | _ => simp [bolO]
  · simp [bolO]
  · simp [bolO]
@[simp ↓] theorem ok_notV : @OkI _ (notV ma ρ) ⟨P⟩ = Ok (ma ρ) fun p => Ok (bolO p.1) fun b => P (.val (.bl (!b)), p.2) := by
  unfold notV
  rcases ma ρ with _ | ⟨o, ρ'⟩
  · simp
  rcases o with d | _ | _
  · cases d <;> simp [bolO]
  · simp [bolO]
  · simp [bolO]
@[simp ↓] theorem ok_nilA : @OkI _ (nilA ρ) ⟨PA⟩ = PA ([], ρ) := by simp [nilA]
@[simp ↓] theorem ok_consA : @OkI _ (consA m am ρ) ⟨PA⟩ = Ok (frz m ρ) fun p => Ok (am p.2) fun q => PA (p.1 :: q.1, q.2) := by
  unfold consA
  rcases frz m ρ with _ | ⟨o, ρ'⟩
  · simp
  simp only [ok_some']
  rcases am ρ' with _ | ⟨os, ρ2⟩ <;> simp
@[simp ↓] theorem ok_nilD : @OkI _ (nilD ρ) ⟨PD⟩ = PD ([], ρ) := by simp [nilD]
@[simp ↓] theorem ok_consD : @OkI _ (consD m dm ρ) ⟨PD⟩ = Ok (esc m ρ) fun p => Ok (dm p.2) fun q => PD (p.1 :: q.1, q.2) := by
  unfold consD
  rcases esc m ρ with _ | ⟨o, ρ'⟩
  · simp
  simp only [ok_some']
  rcases dm ρ' with _ | ⟨os, ρ2⟩ <;> simp
@[simp ↓] theorem ok_tupM : @OkI _ (tupM dm ρ) ⟨P⟩ = Ok (dm ρ) fun p => p.1.length ≤ sizeLine ∧ P (.val (.tup p.1), p.2) := by
  unfold tupM
  rcases dm ρ with _ | ⟨ds, ρ'⟩
  · simp
  by_cases h : ds.length ≤ sizeLine <;> simp [h]
@[simp ↓] theorem ok_lstM : @OkI _ (lstM dm ρ) ⟨P⟩ = Ok (dm ρ) fun p => p.1.length ≤ sizeLine ∧ P (.tmp (.lst p.1), p.2) := by
  unfold lstM
  rcases dm ρ with _ | ⟨ds, ρ'⟩
  · simp
  by_cases h : ds.length ≤ sizeLine <;> simp [h]
@[simp ↓] theorem ok_biM {f : List D → Option Opd} : @OkI _ (biM f am ρ) ⟨P⟩ = Ok (am ρ) fun p => Ok (looks p.1 p.2) fun ds => Ok (f ds) fun o => P (o, p.2) := by
  unfold biM
  rcases am ρ with _ | ⟨os, ρ'⟩
  · simp
  simp only [ok_some']
  rcases looks os ρ' with _ | ds
  · simp
  simp only [ok_some']
  rcases f ds with _ | o <;> simp
@[simp ↓] theorem ok_isiM {Ts : List String} : @OkI _ (isiM Ts m ρ) ⟨P⟩ = Ok (frz m ρ) fun p => Ok (look p.1 p.2) fun d => Ok (isiD Ts d) fun b => P (.val (.bl b), p.2) := by
  unfold isiM
  rcases frz m ρ with _ | ⟨o, ρ'⟩
  · simp
  simp only [ok_some']
  rcases look o ρ' with _ | d
  · simp
  simp only [ok_some']
  rcases isiD Ts d with _ | b <;> simp
def ownL (i : Nat) (ρ : Rho) : Option (List D) := match ρ[i]? with
  | some (some (.own (.lst ds))) => some ds
  | _ => none
@[simp ↓] theorem ok_methM {f : List D → List D → Option (List D × D)} : @OkI _ (methM i dm f ρ) ⟨P⟩ = Ok (ownL i ρ) fun _ => Ok (dm ρ) fun p => Ok (ownL i p.2) fun ds => Ok (f ds p.1) fun r => P (.val r.2, p.2.set i (some (.own (.lst r.1)))) := by
  unfold methM ownL
  rcases ρ[i]? with _ | _ | sv
  · simp
  · simp
  rcases sv with d | d | d | d
  · simp
  · cases d with
    | lst ds =>
      simp only [ok_some']
      rcases dm ρ with _ | ⟨as, ρ'⟩
      · simp
      simp only [ok_some']
      rcases ρ'[i]? with _ | _ | sv
      · simp
      · simp
      rcases sv with d | d | d | d
      · simp
      · cases d with
        | lst ds2 =>
          simp only [ok_some']
          rcases f ds2 as with _ | r <;> simp
        | _ => simp
      · simp
      · simp
    | _ => simp
  · simp
  · simp
@[simp ↓] theorem ok_noP : @OkI _ (noP ρ) ⟨PP⟩ = PP (none, ρ) := by simp [noP]
def intO : Opd → Option Int
  | .val (.int i) => some i
  | _ => none
@[simp] theorem intO_int (k : Int) : intO (.val (.int k)) = some k := rfl
@[simp ↓] theorem ok_someP : @OkI _ (someP m ρ) ⟨PP⟩ = Ok (m ρ) fun p => Ok (intO p.1) fun k => PP (some k, p.2) := by
  unfold someP
  rcases m ρ with _ | ⟨o, ρ'⟩
  · simp
  rcases o with d | _ | _
  · cases d <;> simp [intO]
  · simp [intO]
  · simp [intO]
@[simp ↓] theorem ok_cutM {lo hi : PM} : @OkI _ (cutM m lo hi ρ) ⟨P⟩ = Ok (frz m ρ) fun p => Ok (lo p.2) fun q => Ok (hi q.2) fun r => Ok (look p.1 r.2) fun d => Ok (cutD d q.1 r.1) fun o => P (o, r.2) := by
  unfold cutM
  rcases frz m ρ with _ | ⟨o, ρ1⟩
  · simp
  simp only [ok_some']
  rcases lo ρ1 with _ | ⟨a, ρ2⟩
  · simp
  simp only [ok_some']
  rcases hi ρ2 with _ | ⟨b, ρ3⟩
  · simp
  simp only [ok_some']
  rcases look o ρ3 with _ | d
  · simp
  simp only [ok_some']
  rcases cutD d a b with _ | r <;> simp
@[simp] theorem isiD_int {Ts : List String} {k : Int} : isiD Ts (.int k) = isiAny "int" Ts := rfl
@[simp] theorem isiD_bl {Ts : List String} {k : Bool} : isiD Ts (.bl k) = isiAny "bool" Ts := rfl
@[simp] theorem isiD_non {Ts : List String} : isiD Ts .non = isiAny "NoneType" Ts := rfl
@[simp] theorem isiD_str {Ts : List String} {k : Str} : isiD Ts (.str k) = isiAny "str" Ts := rfl
@[simp] theorem isiD_tup {Ts : List String} {k : List D} : isiD Ts (.tup k) = isiAny "tuple" Ts := rfl
@[simp] theorem isiD_lst {Ts : List String} {k : List D} : isiD Ts (.lst k) = isiAny "list" Ts := rfl
/-! instances -/
@[simp ↓] theorem ok_fldM {Cs : List Addr} {f : Str} : @OkI _ (fldM Cs f m ρ) ⟨P⟩ = Ok (frz m ρ) fun p => Ok (look p.1 p.2) fun d => Ok (fldD Cs f d) fun e => P (.val e, p.2) := by
  unfold fldM
  rcases frz m ρ with _ | ⟨o, ρ'⟩
  · simp
  simp only [ok_some']
  rcases look o ρ' with _ | d
  · simp
  simp only [ok_some']
  rcases fldD Cs f d with _ | b <;> simp
@[simp] theorem fldD_ins {Cs : List Addr} {f : Str} {C : Addr} {ks : List Str} {ds : List D} : fldD Cs f (.ins C ks ds) = if C ∈ Cs then (ks.zip ds).lookup f else none := rfl
def ownI (Cs : List Addr) (i : Nat) (ρ : Rho) : Option (Addr × List Str × List D) := match ρ[i]? with
  | some (some (.own (.ins C ks ds))) => if C ∈ Cs ∧ ks.length < 1000 then some (C, ks, ds) else none
  | _ => none
def ownIV (Cs : List Addr) : SV → Option (Addr × List Str × List D)
  | .own (.ins C ks ds) => if C ∈ Cs ∧ ks.length < 1000 then some (C, ks, ds) else none
  | _ => none
@[simp] theorem ownIV_ins {Cs : List Addr} {C : Addr} {ks : List Str} {ds : List D} : ownIV Cs (.own (.ins C ks ds)) = if C ∈ Cs ∧ ks.length < 1000 then some (C, ks, ds) else none := rfl
@[simp ↓] theorem ok_ownI {Cs : List Addr} {PO : Addr × List Str × List D → Prop} : @OkI _ (ownI Cs i ρ) ⟨PO⟩ = Ok ρ[i]? fun s => Ok s fun sv => Ok (ownIV Cs sv) PO := by
  unfold ownI ownIV
  rcases h : ρ[i]? with _ | _ | sv
  · simp [h]
  · simp [h]
  cases sv with
  | own d => cases d <;> simp [h]
  | _ => simp [h]
@[simp ↓] theorem ok_makeM {C : Addr} {fn : Fn} : @OkI _ (makeM C fn am ρ) ⟨P⟩ = Ok (am ρ) fun p => Ok (argsAll [] p.2 1 p.1) fun ss => Ok (fn (.own (.ins C [] []) :: ss)) fun q => q.1 = .val .non ∧ ∃ d, q.2[0]? = some (some (.own d)) ∧ P (.tmp d, p.2) := by
  unfold makeM
  rcases am ρ with _ | ⟨os, ρ1⟩
  · simp
  simp only [ok_some']
  rcases argsAll [] ρ1 1 os with _ | ss
  · simp
  simp only [ok_some']
  rcases fn (.own (.ins C [] []) :: ss) with _ | ⟨o, post⟩
  · simp
  cases o with
  | val d =>
    cases d with
    | non =>
      rcases h : post[0]? with _ | _ | sv
      · simp [h]
      · simp [h]
      cases sv <;> simp [h]
    | _ => simp
  | _ => simp
@[simp ↓] theorem ok_methC {C : Addr} {nm : Str} {fn : Fn} : @OkI _ (methC C nm fn io m am ρ) ⟨P⟩ = Ok (frz m ρ) fun p => Ok (look p.1 p.2) fun d => insD C nm d = true ∧ Ok (am p.2) fun q => exclOk io (p.1 :: q.1) = true ∧ Ok (argsAll io q.2 0 (p.1 :: q.1)) fun svs =>
    Ok (fn svs) fun r => Ok (putBack io r.2 0 (p.1 :: q.1) q.2) fun ρ2 => (∀ i, r.1 ≠ .var i) ∧ P (r.1, ρ2) := by
  unfold methC
  rcases frz m ρ with _ | ⟨o, ρ1⟩
  · simp
  simp only [ok_some']
  rcases look o ρ1 with _ | d
  · simp
  simp only [ok_some']
  by_cases hi : insD C nm d = true
  · simp only [hi, if_true, true_and]
    rcases am ρ1 with _ | ⟨os, ρ2⟩
    · simp
    simp only [ok_some']
    by_cases hx : exclOk io (o :: os) = true
    · simp only [hx, if_true, true_and]
      rcases argsAll io ρ2 0 (o :: os) with _ | svs
      · simp
      simp only [ok_some']
      rcases fn svs with _ | ⟨r, post⟩
      · simp
      cases r with
      | val d =>
        simp only [ok_some']
        rcases putBack io post 0 (o :: os) ρ2 with _ | ρ3 <;> simp
      | tmp d =>
        simp only [ok_some']
        rcases putBack io post 0 (o :: os) ρ2 with _ | ρ3 <;> simp
      | var i =>
        simp only [ok_some']
        rcases putBack io post 0 (o :: os) ρ2 with _ | ρ3 <;> simp
    · simp only [hx]; rw [if_neg (by decide), ok_none]; exact propext ⟨False.elim, fun h => nomatch h.1⟩
  · simp only [hi]; rw [if_neg (by decide), ok_none]; exact propext ⟨False.elim, fun h => nomatch h.1⟩
@[simp] theorem insD_ins {C C' : Addr} {nm : Str} {ks : List Str} {ds : List D} : insD C nm (.ins C' ks ds) = (decide (C' = C) && decide (nm ∉ ks) && decide (ks.length = ds.length)) := rfl
@[simp ↓] theorem ok_lrgM : @OkI _ (lrgM m ρ) ⟨P⟩ = Ok (m ρ) fun p => Ok (intO p.1) fun n => (inR n = true ∧ n.toNat ≤ 2 ^ 24) ∧ P (.tmp (.lst (rangeD 0 n.toNat)), p.2) := by
  unfold lrgM
  rcases m ρ with _ | ⟨o, ρ'⟩
  · simp
  cases o with
  | val d =>
    cases d with
    | int n =>
      by_cases h : inR n = true ∧ n.toNat ≤ 2 ^ 24
      · simp only [ok_some', intO]; rw [if_pos h, ok_some]; exact propext ⟨fun p => ⟨h, p⟩, fun p => p.2⟩
      · simp only [ok_some', intO]; rw [if_neg h, ok_none]; exact propext ⟨False.elim, fun p => h p.1⟩
    | _ => simp [intO]
  | _ => simp [intO]
def brO (o : Opd) : Option Bool := match o with
  | .val (.bl b) => some b
  | _ => none
@[simp] theorem brO_bl {b : Bool} : brO (.val (.bl b)) = some b := rfl
@[simp ↓] theorem ok_chnM {g' : D → D → Option Opd} {mc : EM} : @OkI _ (chnM g g' ma mb mc ρ) ⟨P⟩ = Ok (frz ma ρ) fun p => Ok (frz mb p.2) fun q => Ok (look p.1 q.2) fun d => Ok (look q.1 q.2) fun e => Ok (g d e) fun o => Ok (brO o) fun b =>
    Br b (Ok (frz mc q.2) fun r => Ok (look q.1 r.2) fun e' => Ok (look r.1 r.2) fun f => Ok (g' e' f) fun o => P (o, r.2)) (P (.val (.bl false), q.2)) := by
  unfold chnM
  rcases frz ma ρ with _ | ⟨oa, ρ1⟩
  · simp
  simp only [ok_some']
  rcases frz mb ρ1 with _ | ⟨ob, ρ2⟩
  · simp
  simp only [ok_some']
  rcases look oa ρ2 with _ | d
  · simp
  simp only [ok_some']
  rcases look ob ρ2 with _ | e
  · simp
  simp only [ok_some']
  rcases g d e with _ | o
  · simp
  cases o with
  | val d =>
    cases d with
    | bl b =>
      cases b with
      | false => simp
      | true =>
        simp only [ok_some', brO_bl, br_t]
        rcases frz mc ρ2 with _ | ⟨oc, ρ3⟩
        · simp
        simp only [ok_some']
        rcases look ob ρ3 with _ | e'
        · simp
        simp only [ok_some']
        rcases look oc ρ3 with _ | f
        · simp
        simp only [ok_some']
        rcases g' e' f with _ | o <;> simp
    | _ => simp [brO]
  | _ => simp [brO]
@[simp ↓] theorem ok_dnewM : @OkI _ (dnewM ρ) ⟨P⟩ = P (.tmp (.dct [] []), ρ) := by simp [dnewM]
@[simp] theorem keyD_int {k : Int} : keyD (.int k) = some (.inl k) := rfl
@[simp] theorem keyD_str {k : Str} : keyD (.str k) = some (.inr k) := rfl
@[simp ↓] theorem dgetG_dct {ks : List Key} {ds : List D} {k : D} {PO : Opd → Prop} : @OkI _ (dgetG (.dct ks ds) k) ⟨PO⟩ = Ok (keyD k) fun kk => Ok (dlk kk ks ds) fun d => PO (.val d) := by
  unfold dgetG
  dsimp only
  rcases keyD k with _ | kk
  · simp
  simp only [ok_some']
  rcases dlk kk ks ds with _ | d <;> simp
@[simp ↓] theorem dinG_dct {neg : Bool} {ks : List Key} {ds : List D} {k : D} {PO : Opd → Prop} : @OkI _ (dinG neg k (.dct ks ds)) ⟨PO⟩ = Ok (keyD k) fun kk => PO (.val (.bl (if neg then !(dlk kk ks ds).isSome else (dlk kk ks ds).isSome))) := by
  unfold dinG
  dsimp only
  rcases keyD k with _ | kk <;> simp
@[simp ↓] theorem ok_indexM : @OkI _ (indexM m am ρ) ⟨P⟩ = Ok (frz m ρ) fun p => Ok (look p.1 p.2) fun d1 => Ok (listD d1) fun _ => Ok (am p.2) fun q => Ok (look p.1 q.2) fun d2 => Ok (listD d2) fun ds => Ok (looks q.1 q.2) fun ys => ∃ y, ys = [y] ∧ Ok (indexD y ds) fun j => P (.val (.int (j : Nat)), q.2) := by
  unfold indexM
  rcases frz m ρ with _ | ⟨o, ρ1⟩
  · simp
  simp only [ok_some']
  rcases look o ρ1 with _ | d1
  · simp
  simp only [ok_some']
  rcases listD d1 with _ | ds1
  · simp
  simp only [ok_some']
  rcases am ρ1 with _ | ⟨os, ρ2⟩
  · simp
  simp only [ok_some']
  rcases look o ρ2 with _ | d2
  · simp
  simp only [ok_some']
  rcases listD d2 with _ | ds
  · simp
  simp only [ok_some']
  rcases looks os ρ2 with _ | ys
  · simp
  simp only [ok_some']
  rcases ys with _ | ⟨y, _ | ⟨z, r⟩⟩
  · simp
  · rcases h : indexD y ds with _ | j <;> simp [h]
  · simp
/-! how slots are read -/
def rdO (i : Nat) : SV → Opd
  | .val d => .val d
  | _ => .var i
@[simp] theorem rdO_val {d : D} : rdO i (.val d) = .val d := rfl
@[simp] theorem rdO_own {d : D} : rdO i (.own d) = .var i := rfl
@[simp] theorem rdO_bor {d : D} : rdO i (.bor d) = .var i := rfl
@[simp] theorem rdO_lck {d : D} : rdO i (.lck d) = .var i := rfl
@[simp ↓] theorem ok_varM : @OkI _ (varM i ρ) ⟨P⟩ = Ok ρ[i]? fun s => Ok s fun sv => P (rdO i sv, ρ) := by
  unfold varM
  rcases ρ[i]? with _ | _ | sv
  · simp
  · simp
  cases sv <;> simp
def slotD : Option (Option SV) → Option D
  | some (some sv) => some sv.d
  | _ => none
@[simp] theorem slotD_some {sv : SV} : slotD (some (some sv)) = some sv.d := rfl
@[simp] theorem svd_val {d : D} : (SV.val d).d = d := rfl
@[simp] theorem svd_own {d : D} : (SV.own d).d = d := rfl
@[simp] theorem svd_bor {d : D} : (SV.bor d).d = d := rfl
@[simp] theorem svd_lck {d : D} : (SV.lck d).d = d := rfl
@[simp] theorem svo_val {d : D} : (SV.val d).ob = false := rfl
@[simp] theorem svo_own {d : D} : (SV.own d).ob = true := rfl
@[simp] theorem svo_bor {d : D} : (SV.bor d).ob = true := rfl
@[simp] theorem svo_lck {d : D} : (SV.lck d).ob = true := rfl
@[simp] theorem look_val {d : D} : look (.val d) ρ = some d := rfl
@[simp] theorem look_var : look (.var i) ρ = slotD ρ[i]? := by unfold look slotD; rcases h : ρ[i]? with _ | _ | sv <;> simp [h]
@[simp] theorem looks_nil : looks [] ρ = some [] := rfl
@[simp ↓] theorem looks_cons {o : Opd} {os : List Opd} {PL : List D → Prop} : @OkI _ (looks (o :: os) ρ) ⟨PL⟩ = Ok (look o ρ) fun d => Ok (looks os ρ) fun ds => PL (d :: ds) := by
  rw [looks]
  rcases look o ρ with _ | d
  · simp
  simp only [ok_some']
  rcases looks os ρ with _ | ds <;> simp
def escV (i : Nat) (ρ : Rho) : SV → Option (D × Rho)
  | .own d => some (d, ρ.set i (some (.val d)))
  | .val d => some (d, ρ)
  | _ => none
@[simp] theorem escV_own {d : D} : escV i ρ (.own d) = some (d, ρ.set i (some (.val d))) := rfl
@[simp] theorem escV_val {d : D} : escV i ρ (.val d) = some (d, ρ) := rfl
@[simp] theorem escO_val {d : D} : escO (.val d) ρ = some (d, ρ) := rfl
@[simp] theorem escO_tmp {d : D} : escO (.tmp d) ρ = some (d, ρ) := rfl
@[simp ↓] theorem escO_var : @OkI _ (escO (.var i) ρ) ⟨PV⟩ = Ok ρ[i]? fun s => Ok s fun sv => Ok (escV i ρ sv) PV := by
  unfold escO escV
  rcases h : ρ[i]? with _ | _ | sv
  · simp [h]
  · simp [h]
  cases sv <;> simp [h]
@[simp] theorem truD_non : truD .non = some false := rfl
@[simp] theorem truD_bl {b : Bool} : truD (.bl b) = some b := rfl
@[simp] theorem truD_int {k : Int} : truD (.int k) = some (k != 0) := rfl
@[simp] theorem truD_tup {xs : List D} : truD (.tup xs) = some (!xs.isEmpty) := rfl
@[simp] theorem truD_lst {xs : List D} : truD (.lst xs) = some (!xs.isEmpty) := rfl
@[simp] theorem intG_int {c : Int → Int → Bool} {f : Int → Int → Int} {k l : Int} : intG c f (.int k) (.int l) = if c k l then some (.val (.int (f k l))) else none := rfl
@[simp] theorem intB_int {f : Int → Int → Bool} {k l : Int} : intB f (.int k) (.int l) = some (.val (.bl (f k l))) := rfl
@[simp] theorem yes_eq {k l : Int} : yes k l = true := rfl
@[simp] theorem addG_int {k l : Int} : addG (.int k) (.int l) = some (.val (.int (k + l))) := rfl
@[simp] theorem iaddG_int {k l : Int} : iaddG (.int k) (.int l) = some (.val (.int (k + l))) := rfl
@[simp] theorem addG_lst {k l : List D} : addG (.lst k) (.lst l) = if k.length + l.length ≤ sizeLine then some (.tmp (.lst (k ++ l))) else none := rfl
@[simp] theorem mulG_int {k l : Int} : mulG (.int k) (.int l) = if mulOk k l then some (.val (.int (k * l))) else none := rfl
def RepOk (n : Nat) (k : Int) : Prop := -(2 ^ 63) ≤ k ∧ k < 2 ^ 63 ∧ n * k.toNat ≤ sizeLine
@[simp ↓] theorem mulG_lst {xs : List D} {k : Int} {PO : Opd → Prop} : @OkI _ (mulG (.lst xs) (.int k)) ⟨PO⟩ = (RepOk xs.length k ∧ PO (.tmp (.lst (List.replicate k.toNat xs).flatten))) := by
  unfold mulG RepOk
  by_cases h : -(2 ^ 63) ≤ k ∧ k < 2 ^ 63 ∧ xs.length * k.toNat ≤ sizeLine
  · dsimp only; rw [if_pos h, ok_some]; exact propext ⟨fun p => ⟨h, p⟩, fun p => p.2⟩
  · dsimp only; rw [if_neg h, ok_none]; exact propext ⟨fun p => p.elim, fun p => h p.1⟩
@[simp ↓] theorem mulG_tup {xs : List D} {k : Int} {PO : Opd → Prop} : @OkI _ (mulG (.tup xs) (.int k)) ⟨PO⟩ = ((xs ≠ [] ∧ 2 ≤ k ∧ k ≤ 1000 ∧ xs.length ≤ 1000) ∧ PO (.val (.tup (List.replicate k.toNat xs).flatten))) := by
  unfold mulG
  by_cases h : xs ≠ [] ∧ 2 ≤ k ∧ k ≤ 1000 ∧ xs.length ≤ 1000
  · dsimp only; rw [if_pos h, ok_some]; exact propext ⟨fun p => ⟨h, p⟩, fun p => p.2⟩
  · dsimp only; rw [if_neg h, ok_none]; exact propext ⟨fun p => p.elim, fun p => h p.1⟩
theorem repOk_small {n : Nat} {k : Int} (h0 : 0 ≤ k) (h1 : k < 1000) (h2 : n < 1000) : RepOk n k := ⟨by omega, by omega, by
  have : n * k.toNat ≤ 1000 * 1000 := Nat.mul_le_mul (by omega) (by omega)
  unfold sizeLine; omega⟩
@[simp] theorem isG_non {d : D} : isG d .non = some (.val (.bl (isNonD d))) := rfl
@[simp] theorem isnG_non {d : D} : isnG d .non = some (.val (.bl (!isNonD d))) := rfl
@[simp] theorem isNonD_non : isNonD .non = true := rfl
@[simp] theorem isNonD_int {k : Int} : isNonD (.int k) = false := rfl
@[simp ↓] theorem atD_tup {xs : List D} {k : Int} {PO : Opd → Prop} : @OkI _ (atD (.tup xs) (.int k)) ⟨PO⟩ = Ok (ixN xs.length k) fun j => Ok xs[j]? fun d => PO (.val d) := by
  unfold atD atI
  rcases h0 : ixN xs.length k with _ | j
  · simp [h0]
  rcases h : xs[j]? with _ | d <;> simp [h, h0]
@[simp ↓] theorem atD_lst {xs : List D} {k : Int} {PO : Opd → Prop} : @OkI _ (atD (.lst xs) (.int k)) ⟨PO⟩ = Ok (ixN xs.length k) fun j => Ok xs[j]? fun d => PO (.val d) := by
  unfold atD atI
  rcases h0 : ixN xs.length k with _ | j
  · simp [h0]
  rcases h : xs[j]? with _ | d <;> simp [h, h0]
@[simp] theorem ixN_zero {n : Nat} : ixN n 0 = if 0 < n then some 0 else none := by
  unfold ixN; rw [if_pos (by omega)]; by_cases h : 0 < n
  · rw [if_pos h, if_pos (by omega)]; rfl
  · rw [if_neg h, if_neg (by omega)]
@[simp] theorem ixN_one {n : Nat} : ixN n 1 = if 1 < n then some 1 else none := by
  unfold ixN; rw [if_pos (by omega)]; by_cases h : 1 < n
  · rw [if_pos h, if_pos (by omega)]; rfl
  · rw [if_neg h, if_neg (by omega)]
@[simp] theorem ixN_nat {n k : Nat} : ixN n (k : Int) = if k < n then some k else none := by
  unfold ixN; rw [if_pos (by omega)]; by_cases h : k < n
  · rw [if_pos h, if_pos (by omega), Int.toNat_natCast]
  · rw [if_neg h, if_neg (by omega)]
@[simp] theorem ixN_two {n : Nat} : ixN n 2 = if 2 < n then some 2 else none := ixN_nat (k := 2)
@[simp] theorem ixN_three {n : Nat} : ixN n 3 = if 3 < n then some 3 else none := ixN_nat (k := 3)
theorem ixN_pos {n : Nat} {k : Int} (h0 : 0 ≤ k) (h1 : k < n) : ixN n k = some k.toNat := by unfold ixN; rw [if_pos h0, if_pos h1]
@[simp] theorem seqD_lst {xs : List D} : seqD (.lst xs) = some xs := rfl
@[simp] theorem seqD_tup {xs : List D} : seqD (.tup xs) = some xs := rfl
@[simp] theorem seqD_rol {xs : List D} : seqD (.rol xs) = some xs := rfl
@[simp] theorem listD_lst {xs : List D} : listD (.lst xs) = some xs := rfl
@[simp] theorem itemsD_lst {xs : List D} : itemsD (.lst xs) = some xs := rfl
@[simp] theorem itemsD_tup {xs : List D} : itemsD (.tup xs) = some xs := rfl
@[simp] theorem itemsD_rol {xs : List D} : itemsD (.rol xs) = some xs := rfl
@[simp] theorem lenG_lst {xs : List D} : lenG [.lst xs] = some (.val (.int xs.length)) := rfl
@[simp] theorem lenG_tup {xs : List D} : lenG [.tup xs] = some (.val (.int xs.length)) := rfl
@[simp] theorem intFG_int {k : Int} : intFG [.int k] = some (.val (.int k)) := rfl
@[simp] theorem intFG_bl {b : Bool} : intFG [.bl b] = some (.val (.int (if b then 1 else 0))) := rfl
@[simp] theorem absG_int {k : Int} : absG [.int k] = some (.val (.int (if k < 0 then -k else k))) := rfl
@[simp] theorem listG_lst {xs : List D} : listG [.lst xs] = some (.tmp (.lst xs)) := rfl
@[simp] theorem listG_tup {xs : List D} : listG [.tup xs] = some (.tmp (.lst xs)) := rfl
@[simp] theorem tupleG_lst {xs : List D} : tupleG [.lst xs] = some (.val (.tup xs)) := rfl
@[simp] theorem tupleG_tup {xs : List D} : tupleG [.tup xs] = some (.val (.tup xs)) := rfl
@[simp] theorem appendG_one {ds : List D} {d : D} : appendG ds [d] = if ds.length < sizeLine then some (ds ++ [d], .non) else none := rfl
def itI (j : Nat) (ρ : Rho) : SV → Option (List D × Option (Nat × D) × Rho)
  | .val d => match itemsD d with
    | some ds => some (ds, none, ρ)
    | none => none
  | .own d => match seqD d with
    | some ds => some (ds, some (j, d), ρ.set j (some (.lck d)))
    | none => none
  | .bor d => match seqD d with
    | some ds => some (ds, none, ρ)
    | none => none
  | .lck d => match seqD d with
    | some ds => some (ds, none, ρ)
    | none => none
@[simp] theorem itI_lck {xs : List D} : itI j ρ (.lck (.lst xs)) = some (xs, none, ρ) := rfl
@[simp] theorem itI_tup {xs : List D} : itI j ρ (.val (.tup xs)) = some (xs, none, ρ) := rfl
@[simp] theorem itI_lstv {xs : List D} : itI j ρ (.val (.lst xs)) = some (xs, none, ρ) := rfl
@[simp] theorem itI_rol {xs : List D} : itI j ρ (.val (.rol xs)) = some (xs, none, ρ) := rfl
@[simp] theorem itI_own {xs : List D} : itI j ρ (.own (.lst xs)) = some (xs, some (j, .lst xs), ρ.set j (some (.lck (.lst xs)))) := rfl
@[simp] theorem itI_bor {xs : List D} : itI j ρ (.bor (.lst xs)) = some (xs, none, ρ) := rfl
@[simp] theorem unlock_none : unlock none ρ = some ρ := rfl
def unlV (j : Nat) (d : D) (ρ : Rho) : SV → Option Rho
  | .lck _ => some (ρ.set j (some (.own d)))
  | _ => none
@[simp] theorem unlV_lck {d e : D} : unlV j d ρ (.lck e) = some (ρ.set j (some (.own d))) := rfl
@[simp ↓] theorem unlock_some {d : D} {PR : Rho → Prop} : @OkI _ (unlock (some (j, d)) ρ) ⟨PR⟩ = Ok ρ[j]? fun s => Ok s fun sv => Ok (unlV j d ρ sv) PR := by
  unfold unlock unlV
  rcases h : ρ[j]? with _ | _ | sv
  · simp [h]
  · simp [h]
  cases sv <;> simp [h]
def retV (np : Nat) (io : List Nat) (i : Nat) (ρ : Rho) : SV → Option (Opd × Rho)
  | .own d => if np ≤ i then some (.tmp d, keepIO io ρ np) else some (.val d, keepIO io (ρ.set i (some (.val d))) np)
  | .val d => some (.val d, keepIO io ρ np)
  | _ => none
@[simp] theorem retV_own {d : D} : retV np io i ρ (.own d) = if np ≤ i then some (.tmp d, keepIO io ρ np) else some (.val d, keepIO io (ρ.set i (some (.val d))) np) := rfl
@[simp] theorem retV_val {d : D} : retV np io i ρ (.val d) = some (.val d, keepIO io ρ np) := rfl
@[simp] theorem retF_val {d : D} : retF np io (.val d) ρ = some (.val d, keepIO io ρ np) := rfl
@[simp] theorem retF_tmp {d : D} : retF np io (.tmp d) ρ = some (.tmp d, keepIO io ρ np) := rfl
@[simp ↓] theorem retF_var : @OkI _ (retF np io (.var i) ρ) ⟨P⟩ = Ok ρ[i]? fun s => Ok s fun sv => Ok (retV np io i ρ sv) P := by
  unfold retF retV
  rcases h : ρ[i]? with _ | _ | sv
  · simp [h]
  · simp [h]
  cases sv <;> simp [h]
@[simp] theorem argsAll_nil {k : Nat} : argsAll io ρ k [] = some [] := rfl
@[simp ↓] theorem argsAll_cons {k : Nat} {o : Opd} {os : List Opd} {PL : List SV → Prop} : @OkI _ (argsAll io ρ k (o :: os)) ⟨PL⟩ = Ok (argOne (decide (k ∈ io)) o ρ) fun s => Ok (argsAll io ρ (k + 1) os) fun ss => PL (s :: ss) := by
  rw [argsAll]
  rcases argOne (decide (k ∈ io)) o ρ with _ | s
  · simp
  simp only [ok_some']
  rcases argsAll io ρ (k + 1) os with _ | ss <;> simp
@[simp] theorem argOne_val {b : Bool} {d : D} : argOne b (.val d) ρ = if b then none else some (.val d) := rfl
def argV (b : Bool) : SV → Option SV
  | .val d => if b then none else some (.val d)
  | .own d => if b then some (.own d) else some (.bor d)
  | .bor d => if b then none else some (.bor d)
  | .lck d => if b then none else some (.bor d)
@[simp] theorem argV_own {b : Bool} {d : D} : argV b (.own d) = if b then some (.own d) else some (.bor d) := rfl
@[simp] theorem argV_bor {b : Bool} {d : D} : argV b (.bor d) = if b then none else some (.bor d) := rfl
@[simp] theorem argV_lck {b : Bool} {d : D} : argV b (.lck d) = if b then none else some (.bor d) := rfl
@[simp] theorem argV_val {b : Bool} {d : D} : argV b (.val d) = if b then none else some (.val d) := rfl
@[simp ↓] theorem argOne_var {b : Bool} {PV : SV → Prop} : @OkI _ (argOne b (.var i) ρ) ⟨PV⟩ = Ok ρ[i]? fun s => Ok s fun sv => Ok (argV b sv) PV := by
  unfold argOne argV
  rcases h : ρ[i]? with _ | _ | sv
  · simp [h]
  · simp [h]
  cases sv <;> simp [h]
@[simp] theorem putBack_nil {post : Rho} {k : Nat} : putBack io post k [] ρ = some ρ := rfl
def putO (o : Opd) (s : Option (Option SV)) (ρ : Rho) : Option Rho := match o, s with
  | .var i, some (some (.own d)) => some (ρ.set i (some (.own d)))
  | .var i, some (some (.val d)) => some (ρ.set i (some (.val d)))
  | _, _ => none
@[simp] theorem putO_own {d : D} : putO (.var i) (some (some (.own d))) ρ = some (ρ.set i (some (.own d))) := rfl
@[simp] theorem putO_val {d : D} : putO (.var i) (some (some (.val d))) ρ = some (ρ.set i (some (.val d))) := rfl
@[simp ↓] theorem putBack_cons {post : Rho} {k : Nat} {o : Opd} {os : List Opd} {PR : Rho → Prop} : @OkI _ (putBack io post k (o :: os) ρ) ⟨PR⟩ = Br (decide (k ∈ io)) (Ok (putO o post[k]? ρ) fun ρ' => Ok (putBack io post (k + 1) os ρ') PR) (Ok (putBack io post (k + 1) os ρ) PR) := by
  conv => lhs; unfold putBack
  by_cases h : k ∈ io
  · simp only [h, if_true, decide_true, br_t]
    unfold putO
    cases o with
    | var i =>
      rcases h2 : post[k]? with _ | _ | sv
      · simp [h2]
      · simp [h2]
      cases sv <;> simp [h2]
    | _ => simp
  · simp [h]
@[simp ↓] theorem ok_fldS {Cs : List Addr} {f : Str} : @OkI _ (fldS Cs i f m ρ) ⟨PS⟩ = Ok (esc m ρ) fun p => Ok (ownI Cs i p.2) fun t => PS (.nx, p.2.set i (some (.own (.ins t.1 (putK f t.2.1) (putA f p.1 t.2.1 t.2.2))))) := by
  unfold fldS ownI
  rcases esc m ρ with _ | ⟨d, ρ1⟩
  · simp
  simp only [ok_some']
  rcases ρ1[i]? with _ | _ | sv
  · simp
  · simp
  cases sv with
  | own e =>
    cases e with
    | ins C ks ds =>
      by_cases h : C ∈ Cs ∧ ks.length < 1000
      · dsimp only; rw [if_pos h, if_pos h, ok_some, ok_some']
      · dsimp only; rw [if_neg h, if_neg h, ok_none, ok_none']
    | _ => simp
  | _ => simp
def anyL (i : Nat) (ρ : Rho) : Option Unit := match ρ[i]? with
  | some (some _) => some ()
  | _ => none
def valL (i : Nat) (ρ : Rho) : Option D := match ρ[i]? with
  | some (some (.val d)) => some d
  | _ => none
def ownV : SV → Option (List D)
  | .own (.lst ds) => some ds
  | _ => none
@[simp] theorem ownV_own {ds : List D} : ownV (.own (.lst ds)) = some ds := rfl
@[simp ↓] theorem ok_ownL {PO : List D → Prop} : @OkI _ (ownL i ρ) ⟨PO⟩ = Ok ρ[i]? fun s => Ok s fun sv => Ok (ownV sv) PO := by
  unfold ownL ownV
  rcases h : ρ[i]? with _ | _ | sv
  · simp [h]
  · simp [h]
  cases sv with
  | own d => simp only [h, ok_some']; cases d <;> rfl
  | _ => simp [h]
def anyV (_ : SV) : Option Unit := some ()
@[simp] theorem anyV_eq {sv : SV} : anyV sv = some () := rfl
@[simp ↓] theorem ok_anyL {PO : Unit → Prop} : @OkI _ (anyL i ρ) ⟨PO⟩ = Ok ρ[i]? fun s => Ok s fun sv => PO () := by
  unfold anyL
  rcases h : ρ[i]? with _ | _ | sv <;> simp [h]
def valV : SV → Option D
  | .val d => some d
  | _ => none
@[simp] theorem valV_val {d : D} : valV (.val d) = some d := rfl
@[simp ↓] theorem ok_valL {PO : D → Prop} : @OkI _ (valL i ρ) ⟨PO⟩ = Ok ρ[i]? fun s => Ok s fun sv => Ok (valV sv) PO := by
  unfold valL valV
  rcases h : ρ[i]? with _ | _ | sv
  · simp [h]
  · simp [h]
  cases sv <;> simp [h]
/-! statements -/
@[simp ↓] theorem ok_nextM : @OkI _ (nextM ρ) ⟨PS⟩ = PS (.nx, ρ) := by simp [nextM]
@[simp ↓] theorem ok_breakM : @OkI _ (breakM ρ) ⟨PS⟩ = PS (.bk, ρ) := by simp [breakM]
@[simp ↓] theorem ok_contM : @OkI _ (contM ρ) ⟨PS⟩ = PS (.ct, ρ) := by simp [contM]
def seqK (s2 : SM) (PS : Out × Rho → Prop) : Out × Rho → Prop
  | (.nx, ρ) => Ok (s2 ρ) PS
  | p => PS p
@[simp ↓] theorem seqK_nx : seqK s2 PS (.nx, ρ) = Ok (s2 ρ) PS := rfl
@[simp ↓] theorem seqK_rt {o : Opd} : seqK s2 PS (.rt o, ρ) = PS (.rt o, ρ) := rfl
@[simp ↓] theorem seqK_ex {C : Addr} {f : Str} {d : D} : seqK s2 PS (.ex C f d, ρ) = PS (.ex C f d, ρ) := rfl
@[simp ↓] theorem seqK_bk : seqK s2 PS (.bk, ρ) = PS (.bk, ρ) := rfl
@[simp ↓] theorem seqK_ct : seqK s2 PS (.ct, ρ) = PS (.ct, ρ) := rfl
@[simp ↓] theorem ok_seqM : @OkI _ (seqM s1 s2 ρ) ⟨PS⟩ = Ok (s1 ρ) (seqK s2 PS) := by
  unfold seqM
  rcases s1 ρ with _ | ⟨o, ρ'⟩
  · simp
  cases o <;> simp [seqK]
@[simp ↓] theorem ok_exprM : @OkI _ (exprM m ρ) ⟨PS⟩ = Ok (m ρ) fun p => PS (.nx, p.2) := by
  unfold exprM
  rcases m ρ with _ | ⟨o, ρ'⟩ <;> simp
@[simp ↓] theorem ok_retM : @OkI _ (retM m ρ) ⟨PS⟩ = Ok (m ρ) fun p => PS (.rt p.1, p.2) := by
  unfold retM
  rcases m ρ with _ | ⟨o, ρ'⟩ <;> simp
@[simp ↓] theorem ok_ifS : @OkI _ (ifS t s1 s2 ρ) ⟨PS⟩ = Ok (t ρ) fun p => Br p.1 (Ok (s1 p.2) PS) (Ok (s2 p.2) PS) := by
  unfold ifS
  rcases t ρ with _ | ⟨_ | _, ρ'⟩ <;> simp
def setO (i : Nat) (o : Opd) (ρ : Rho) : Option Rho := match o with
  | .tmp d => some (ρ.set i (some (.own d)))
  | .val d => some (ρ.set i (some (.val d)))
  | .var j => match escO (.var j) ρ with
    | some (d, ρ2) => some (ρ2.set i (some (.val d)))
    | none => none
@[simp] theorem setO_tmp {d : D} : setO i (.tmp d) ρ = some (ρ.set i (some (.own d))) := rfl
@[simp] theorem setO_val {d : D} : setO i (.val d) ρ = some (ρ.set i (some (.val d))) := rfl
@[simp ↓] theorem setO_var {j : Nat} {PR : Rho → Prop} : @OkI _ (setO i (.var j) ρ) ⟨PR⟩ = Ok (escO (.var j) ρ) fun p => PR (p.2.set i (some (.val p.1))) := by
  have e : setO i (.var j) ρ = match escO (.var j) ρ with
    | some (d, ρ2) => some (ρ2.set i (some (.val d)))
    | none => none := rfl
  rw [e]
  rcases h : escO (.var j) ρ with _ | ⟨d, ρ2⟩ <;> simp only [ok_some, ok_none, ok_def]
@[simp ↓] theorem ok_setM : @OkI _ (setM i m ρ) ⟨PS⟩ = Ok (m ρ) fun p => Ok (setO i p.1 p.2) fun ρ2 => PS (.nx, ρ2) := by
  unfold setM
  rcases m ρ with _ | ⟨o, ρ'⟩
  · simp
  cases o with
  | tmp d => simp [setO]
  | val d => simp [setO, escO]
  | var j =>
    simp only [ok_some', setO]
    rcases escO (.var j) ρ' with _ | ⟨d, ρ2⟩ <;> simp
@[simp ↓] theorem ok_asgM {gg : D → Rho → Option Rho} : @OkI _ (asgM gg m ρ) ⟨PS⟩ = Ok (esc m ρ) fun p => Ok (gg p.1 p.2) fun ρ2 => PS (.nx, ρ2) := by
  unfold asgM
  rcases esc m ρ with _ | ⟨d, ρ'⟩
  · simp
  simp only [ok_some']
  rcases gg d ρ' with _ | ρ2 <;> simp
def valO : Opd → Option D
  | .val d => some d
  | _ => none
@[simp] theorem valO_val (d : D) : valO (.val d) = some d := rfl
@[simp ↓] theorem ok_augM : @OkI _ (augM i g m ρ) ⟨PS⟩ = Ok (valL i ρ) fun d => Ok (frz m ρ) fun p => Ok (look p.1 p.2) fun e => Ok (g d e) fun o => Ok (valO o) fun r => PS (.nx, p.2.set i (some (.val r))) := by
  unfold augM valL
  rcases ρ[i]? with _ | _ | sv
  · simp
  · simp
  rcases sv with d | d | d | d
  · simp only [ok_some']
    rcases frz m ρ with _ | ⟨o, ρ1⟩
    · simp
    simp only [ok_some']
    rcases look o ρ1 with _ | e
    · simp
    simp only [ok_some']
    rcases g d e with _ | o
    · simp
    cases o <;> simp [valO]
  · simp
  · simp
  · simp
@[simp ↓] theorem ok_putM {mi : EM} : @OkI _ (putM i mi m ρ) ⟨PS⟩ = Ok (esc m ρ) fun p => Ok (anyL i p.2) fun _ => Ok (frz mi p.2) fun q => Ok (intO q.1) fun k => Ok (ownL i q.2) fun ds => Ok (ixN ds.length k) fun j => PS (.nx, q.2.set i (some (.own (.lst (ds.set j p.1))))) := by
  unfold putM anyL
  rcases esc m ρ with _ | ⟨d, ρ1⟩
  · simp
  simp only [ok_some']
  rcases ρ1[i]? with _ | _ | sv
  · simp
  · simp
  simp only [ok_some']
  rcases frz mi ρ1 with _ | ⟨o, ρ2⟩
  · simp
  rcases o with e | e | e
  · cases e with
    | int k =>
      simp only [ok_some', intO]
      unfold ownL
      rcases ρ2[i]? with _ | _ | sv
      · simp
      · simp
      rcases sv with d' | d' | d' | d'
      · simp
      · cases d' with
        | lst ds =>
          simp only [ok_some']
          rcases ixN ds.length k with _ | j <;> simp
        | _ => simp
      · simp
      · simp
    | _ => simp [intO]
  · simp [intO]
  · simp [intO]
@[simp ↓] theorem ok_augAtM {mi : EM} : @OkI _ (augAtM i mi g m ρ) ⟨PS⟩ = Ok (anyL i ρ) fun _ => Ok (frz mi ρ) fun p => Ok (intO p.1) fun k => Ok (ownL i p.2) fun ds => 0 ≤ k ∧ Ok ds[k.toNat]? fun old => Ok (frz m p.2) fun q => Ok (look q.1 q.2) fun e => Ok (g old e) fun o => Ok (valO o) fun r =>
    Ok (ownL i q.2) fun ds2 => k.toNat < ds2.length ∧ PS (.nx, q.2.set i (some (.own (.lst (ds2.set k.toNat r))))) := by
  unfold augAtM anyL
  rcases ρ[i]? with _ | _ | sv
  · simp
  · simp
  simp only [ok_some']
  rcases frz mi ρ with _ | ⟨o, ρ2⟩
  · simp
  rcases o with e | e | e
  · cases e with
    | int k =>
      simp only [ok_some', intO]
      unfold ownL
      rcases ρ2[i]? with _ | _ | sv
      · simp
      · simp
      rcases sv with d' | d' | d' | d'
      · simp
      · cases d' with
        | lst ds =>
          simp only [ok_some']
          by_cases hk : 0 ≤ k
          · simp only [hk, if_true, true_and]
            rcases ds[k.toNat]? with _ | old
            · simp
            simp only [ok_some']
            rcases frz m ρ2 with _ | ⟨o, ρ3⟩
            · simp
            simp only [ok_some']
            rcases look o ρ3 with _ | e
            · simp
            simp only [ok_some']
            rcases g old e with _ | o
            · simp
            cases o with
            | val r =>
              simp only [ok_some', valO]
              rcases ρ3[i]? with _ | _ | sv
              · simp
              · simp
              rcases sv with d' | d' | d' | d'
              · simp
              · cases d' with
                | lst ds2 =>
                  simp only [ok_some']
                  by_cases hl : k.toNat < ds2.length <;> simp [hl]
                | _ => simp
              · simp
              · simp
            | _ => simp [valO]
          · simp [hk]
        | _ => simp
      · simp
      · simp
    | _ => simp [intO]
  · simp [intO]
  · simp [intO]
def forE (lk : Option (Nat × D)) (PS : Out × Rho → Prop) : Out × Rho → Prop := fun q => Ok (unlock lk q.2) fun ρ3 => PS (q.1, ρ3)
@[simp ↓] theorem forE_app {lk : Option (Nat × D)} {q : Out × Rho} : forE lk PS q = Ok (unlock lk q.2) fun ρ3 => PS (q.1, ρ3) := rfl
@[simp ↓] theorem ok_forM {it : IM} {gg : D → Rho → Option Rho} : @OkI _ (forM it gg s1 ρ) ⟨PS⟩ = Ok (it ρ) fun p => Ok (forL gg s1 p.1 p.2.2) (forE p.2.1 PS) := by
  unfold forM
  rcases it ρ with _ | ⟨ds, lk, ρ1⟩
  · simp
  simp only [ok_some']
  rcases forL gg s1 ds ρ1 with _ | ⟨out, ρ2⟩
  · simp
  simp only [ok_some']
  rw [forE]
  rcases unlock lk ρ2 with _ | ρ3 <;> simp
@[simp ↓] theorem ok_compM {vs : List Nat} {it : IM} {gg : D → Rho → Option Rho} {el : VM} : @OkI _ (compM vs it gg t el ρ) ⟨P⟩ = Ok (it ρ) fun p => bare p.2.2 vs = true ∧ Ok (compL vs gg t el p.1 [] (wipeR p.2.2 vs)) fun q => Ok (unlock p.2.1 (backR p.2.2 q.2 vs)) fun ρ3 => P (.tmp (.lst q.1), ρ3) := by
  unfold compM
  rcases it ρ with _ | ⟨ds, lk, ρ1⟩
  · simp
  simp only [ok_some']
  by_cases hb : bare ρ1 vs = true
  · simp only [hb, if_true, true_and]
    rcases compL vs gg t el ds [] (wipeR ρ1 vs) with _ | ⟨acc, ρ2⟩
    · simp
    simp only [ok_some']
    rcases unlock lk (backR ρ1 ρ2 vs) with _ | ρ3 <;> simp
  · simp only [hb]; rw [if_neg (by decide), ok_none]; exact propext ⟨False.elim, fun h => nomatch h.1⟩
def int1 : List D → Option Int
  | [.int k] => some k
  | _ => none
def int2 : List D → Option (Int × Int)
  | [.int k, .int l] => some (k, l)
  | _ => none
@[simp] theorem int1_int (k : Int) : int1 [.int k] = some k := rfl
@[simp] theorem int2_int (k l : Int) : int2 [.int k, .int l] = some (k, l) := rfl
@[simp ↓] theorem ok_rng1 : @OkI _ (rng1 dm ρ) ⟨PI⟩ = Ok (dm ρ) fun p => Ok (int1 p.1) fun k => inR k = true ∧ PI (rangeD 0 k.toNat, none, p.2) := by
  unfold rng1
  rcases dm ρ with _ | ⟨ds, ρ'⟩
  · simp
  rcases ds with _ | ⟨d, _ | ⟨e, r⟩⟩
  · simp [int1]
  · cases d with
    | int k => by_cases h : inR k = true <;> simp [h]
    | _ => simp [int1]
  · cases d <;> simp [int1]
@[simp ↓] theorem ok_nameI : @OkI _ (nameI j ρ) ⟨PI⟩ = Ok ρ[j]? fun s => Ok s fun sv => Ok (itI j ρ sv) PI := by
  unfold nameI itI
  rcases h : ρ[j]? with _ | _ | sv
  · simp [h]
  · simp [h]
  cases sv with
  | val d => simp only [h, ok_some']; cases itemsD d <;> rfl
  | own d => simp only [h, ok_some']; cases seqD d <;> rfl
  | bor d => simp only [h, ok_some']; cases seqD d <;> rfl
  | lck d => simp only [h, ok_some']; cases seqD d <;> rfl
@[simp ↓] theorem ok_rng2 : @OkI _ (rng2 dm ρ) ⟨PI⟩ = Ok (dm ρ) fun p => Ok (int2 p.1) fun k => (inR k.1 && inR k.2) = true ∧ PI (rangeD k.1 (k.2 - k.1).toNat, none, p.2) := by
  unfold rng2
  rcases dm ρ with _ | ⟨ds, ρ'⟩
  · simp
  rcases ds with _ | ⟨d, _ | ⟨e, _ | ⟨f, r⟩⟩⟩
  · simp [int2]
  · cases d <;> simp [int2]
  · cases d with
    | int k => cases e with
      | int l => by_cases h1 : inR k = true <;> by_cases h2 : inR l = true <;> simp [h1, h2]
      | _ => simp [int2]
    | _ => cases e <;> simp [int2]
  · cases d <;> cases e <;> simp [int2]
@[simp ↓] theorem ok_seqI0 : @OkI _ (seqI0 m ρ) ⟨PI⟩ = Ok (frz m ρ) fun p => Ok (valO p.1) fun d => Ok (itemsD d) fun ds => PI (ds, none, p.2) := by
  unfold seqI0
  rcases frz m ρ with _ | ⟨o, ρ'⟩
  · simp
  cases o with
  | val d =>
    simp only [ok_some', valO]
    rcases itemsD d with _ | ds <;> simp
  | _ => simp [valO]
def endF (np : Nat) (io : List Nat) : Out × Rho → Option (Opd × Rho)
  | (.rt o, ρ) => retF np io o ρ
  | (.nx, ρ) => some (.val .non, keepIO io ρ np)
  | _ => none
@[simp] theorem endF_rt {o : Opd} : endF np io (.rt o, ρ) = retF np io o ρ := rfl
@[simp] theorem endF_nx : endF np io (.nx, ρ) = some (.val .non, keepIO io ρ np) := rfl
def endK (np : Nat) (io : List Nat) (P : Opd × Rho → Prop) : Out × Rho → Prop := fun p => Ok (endF np io p) P
@[simp ↓] theorem endK_rt {o : Opd} : endK np io P (.rt o, ρ) = Ok (retF np io o ρ) P := rfl
@[simp ↓] theorem endK_nx : endK np io P (.nx, ρ) = P (.val .non, keepIO io ρ np) := by simp [endK]
theorem ok_fnM {args : List SV} : Ok (fnM np nl io s1 args) P = Ok (s1 (args.map some ++ List.replicate nl none)) (endK np io P) := by
  unfold fnM endK
  rcases s1 (args.map some ++ List.replicate nl none) with _ | ⟨o, ρ'⟩
  · simp
  cases o <;> simp [endF]
@[simp ↓] theorem ok_callM {fn : Fn} : @OkI _ (callM fn io am ρ) ⟨P⟩ = Ok (am ρ) fun p => exclOk io p.1 = true ∧ Ok (argsAll io p.2 0 p.1) fun svs => Ok (fn svs) fun q => Ok (putBack io q.2 0 p.1 p.2) fun ρ2 => (∀ i, q.1 ≠ .var i) ∧ P (q.1, ρ2) := by
  unfold callM
  rcases am ρ with _ | ⟨os, ρ1⟩
  · simp
  simp only [ok_some']
  by_cases hx : exclOk io os = true
  · simp only [hx, if_true, true_and]
    rcases argsAll io ρ1 0 os with _ | svs
    · simp
    simp only [ok_some']
    rcases fn svs with _ | ⟨o, post⟩
    · simp
    cases o with
    | val d =>
      simp only [ok_some']
      rcases putBack io post 0 os ρ1 with _ | ρ2 <;> simp
    | tmp d =>
      simp only [ok_some']
      rcases putBack io post 0 os ρ1 with _ | ρ2 <;> simp
    | var i =>
      simp only [ok_some']
      rcases putBack io post 0 os ρ1 with _ | ρ2 <;> simp
  · simp only [hx]; rw [if_neg (by decide), ok_none]; exact propext ⟨False.elim, fun h => nomatch h.1⟩
/-! loops -/
theorem forL_nil {gg : D → Rho → Option Rho} : Ok (forL gg s1 [] ρ) PS = PS (.nx, ρ) := by simp [forL]
def forK (gg : D → Rho → Option Rho) (s : SM) (ds : List D) (PS : Out × Rho → Prop) : Out × Rho → Prop
  | (.nx, ρ) => Ok (forL gg s ds ρ) PS
  | (.ct, ρ) => Ok (forL gg s ds ρ) PS
  | (.bk, ρ) => PS (.nx, ρ)
  | (.rt o, ρ) => PS (.rt o, ρ)
  | (.ex C f d, ρ) => PS (.ex C f d, ρ)
@[simp ↓] theorem forK_nx {gg : D → Rho → Option Rho} {ds : List D} : forK gg s1 ds PS (.nx, ρ) = Ok (forL gg s1 ds ρ) PS := rfl
@[simp ↓] theorem forK_ct {gg : D → Rho → Option Rho} {ds : List D} : forK gg s1 ds PS (.ct, ρ) = Ok (forL gg s1 ds ρ) PS := rfl
@[simp ↓] theorem forK_bk {gg : D → Rho → Option Rho} {ds : List D} : forK gg s1 ds PS (.bk, ρ) = PS (.nx, ρ) := rfl
@[simp ↓] theorem forK_rt {gg : D → Rho → Option Rho} {ds : List D} {o : Opd} : forK gg s1 ds PS (.rt o, ρ) = PS (.rt o, ρ) := rfl
@[simp ↓] theorem forK_ex {gg : D → Rho → Option Rho} {ds : List D} {C : Addr} {f : Str} {d : D} : forK gg s1 ds PS (.ex C f d, ρ) = PS (.ex C f d, ρ) := rfl
theorem forL_cons {gg : D → Rho → Option Rho} {d : D} {ds : List D} : Ok (forL gg s1 (d :: ds) ρ) PS = Ok (gg d ρ) fun ρ1 => Ok (s1 ρ1) (forK gg s1 ds PS) := by
  rw [forL]
  rcases gg d ρ with _ | ρ1
  · simp
  simp only [ok_some']
  rcases s1 ρ1 with _ | ⟨o, ρ2⟩
  · simp
  cases o <;> simp [forK]
@[simp] theorem ex2 {α β : Sort _} {x : α} {y : β} {p : α → β → Prop} : (∃ a b, (x = a ∧ y = b) ∧ p a b) ↔ p x y := ⟨fun ⟨_, _, ⟨rfl, rfl⟩, h⟩ => h, fun h => ⟨_, _, ⟨rfl, rfl⟩, h⟩⟩
@[simp] theorem ex3 {α β γ : Sort _} {x : α} {y : β} {z : γ} {p : α → β → γ → Prop} : (∃ a b c, (x = a ∧ y = b ∧ z = c) ∧ p a b c) ↔ p x y z := ⟨fun ⟨_, _, _, ⟨rfl, rfl, rfl⟩, h⟩ => h, fun h => ⟨_, _, _, ⟨rfl, rfl, rfl⟩, h⟩⟩
@[simp] theorem ex4 {α β γ δ : Sort _} {x : α} {y : β} {z : γ} {u : δ} {p : α → β → γ → δ → Prop} : (∃ a b c d, (x = a ∧ y = b ∧ z = c ∧ u = d) ∧ p a b c d) ↔ p x y z u := ⟨fun ⟨_, _, _, _, ⟨rfl, rfl, rfl, rfl⟩, h⟩ => h, fun h => ⟨_, _, _, _, ⟨rfl, rfl, rfl, rfl⟩, h⟩⟩
theorem forL_nilI {gg : D → Rho → Option Rho} : @OkI _ (forL gg s1 [] ρ) ⟨PS⟩ = PS (.nx, ρ) := forL_nil
theorem forL_consI {gg : D → Rho → Option Rho} {d : D} {ds : List D} : @OkI _ (forL gg s1 (d :: ds) ρ) ⟨PS⟩ = Ok (gg d ρ) fun ρ1 => Ok (s1 ρ1) (forK gg s1 ds PS) := forL_cons
/-- over a list: I k ρ holds ahead of turn k -/
theorem forL_inv {gg : D → Rho → Option Rho} (I : Nat → Rho → Prop) : ∀ (ds : List D) (k : Nat) (ρ : Rho), I k ρ →
    (∀ k' d ρ, ds[k' - k]? = some d → k ≤ k' → I k' ρ → Ok (gg d ρ) fun ρ1 => Ok (s1 ρ1) fun p => (p.1 = .nx ∨ p.1 = .ct) ∧ I (k' + 1) p.2 ∨ (p.1 = .bk ∧ PS (.nx, p.2)) ∨ (((∃ o, p.1 = .rt o) ∨ ∃ C f d, p.1 = .ex C f d) ∧ PS p)) →
    (∀ ρ, I (k + ds.length) ρ → PS (.nx, ρ)) → Ok (forL gg s1 ds ρ) PS
  | [], k, ρ, h, _, w => by rw [forL_nil]; exact w _ h
  | d :: ds, k, ρ, h, st, w => by
    rw [forL_cons]
    refine (st k d ρ (by simp) (Nat.le_refl k) h).imp fun ρ1 h1 => h1.imp fun p hp => ?_
    obtain ⟨out, ρ2⟩ := p
    have more : I (k + 1) ρ2 → Ok (forL gg s1 ds ρ2) PS := fun h2 => forL_inv I ds (k + 1) ρ2 h2
      (fun k' d' ρ' e le => st k' d' ρ' (by rw [show k' - k = (k' - (k + 1)) + 1 by omega, List.getElem?_cons_succ]; exact e) (by omega))
      (fun ρ' hi => w ρ' (by rw [List.length_cons]; rw [show k + (ds.length + 1) = k + 1 + ds.length by omega]; exact hi))
    rcases hp with ⟨h2, h3⟩ | ⟨h2, h3⟩ | ⟨⟨o, h2⟩ | ⟨C, f, d, h2⟩, h3⟩
    · rcases h2 with h2 | h2 <;> (dsimp at h2; subst h2; exact more h3)
    · dsimp at h2; subst h2; exact h3
    · dsimp at h2; subst h2; exact h3
    · dsimp at h2; subst h2; exact h3
theorem for_inv {gg : D → Rho → Option Rho} (I : Nat → Rho → Prop) {ds : List D} {ρ : Rho} (h : I 0 ρ)
    (st : ∀ k d ρ, ds[k]? = some d → k < ds.length → I k ρ → Ok (gg d ρ) fun ρ1 => Ok (s1 ρ1) fun p => (p.1 = .nx ∨ p.1 = .ct) ∧ I (k + 1) p.2 ∨ (p.1 = .bk ∧ PS (.nx, p.2)) ∨ (((∃ o, p.1 = .rt o) ∨ ∃ C f d, p.1 = .ex C f d) ∧ PS p))
    (w : ∀ ρ, I ds.length ρ → PS (.nx, ρ)) : Ok (forL gg s1 ds ρ) PS :=
  forL_inv I ds 0 ρ h (fun k d ρ e _ hi => st k d ρ e (by have := (List.getElem?_eq_some_iff.1 e).1; omega) hi) (fun ρ hi => w ρ (by rwa [Nat.zero_add] at hi))
/-- .. no break, no return -/
theorem for_nx {gg : D → Rho → Option Rho} (I : Nat → Rho → Prop) {ds : List D} {ρ : Rho} (h : I 0 ρ)
    (st : ∀ k d ρ, ds[k]? = some d → k < ds.length → I k ρ → Ok (gg d ρ) fun ρ1 => Ok (s1 ρ1) fun p => p.1 = .nx ∧ I (k + 1) p.2)
    (w : ∀ ρ, I ds.length ρ → PS (.nx, ρ)) : Ok (forL gg s1 ds ρ) PS :=
  for_inv I h (fun k d ρ e hk hi => (st k d ρ e hk hi).imp fun ρ1 h1 => h1.imp fun p hp => .inl ⟨.inl hp.1, hp.2⟩) w
theorem whileL_inv (I : Rho → Prop) (f : Rho → Nat) : ∀ (n : Nat) (ρ : Rho), f ρ < n → I ρ →
    (∀ ρ, I ρ → Ok (t ρ) fun p => Br p.1 (Ok (s1 p.2) fun q => ((q.1 = .nx ∨ q.1 = .ct) ∧ I q.2 ∧ f q.2 < f ρ) ∨ (q.1 = .bk ∧ PS (.nx, q.2)) ∨ (((∃ o, q.1 = .rt o) ∨ ∃ C f d, q.1 = .ex C f d) ∧ PS q)) (PS (.nx, p.2))) → Ok (whileL t s1 n ρ) PS
  | 0, ρ, hf, _, _ => by omega
  | n + 1, ρ, hf, h, st => by
    have hs := st ρ h
    rw [whileL]
    rcases e : t ρ with _ | ⟨_ | _, ρ1⟩
    · rw [e] at hs; simp at hs
    · rw [e] at hs; simpa using hs
    · rw [e] at hs
      simp only [ok_some', br_t] at hs
      obtain ⟨⟨out, ρ2⟩, e2, hq⟩ := hs
      simp only [e2]
      rcases hq with ⟨h2, h3, h4⟩ | ⟨h2, h3⟩ | ⟨⟨o, h2⟩ | ⟨C, f, d, h2⟩, h3⟩
      · rcases h2 with h2 | h2 <;> (dsimp at h2 h4; subst h2; exact whileL_inv I f n ρ2 (by omega) h3 st)
      · dsimp at h2; subst h2; simpa using h3
      · dsimp at h2; subst h2; simpa using h3
      · dsimp at h2; subst h2; simpa using h3
/-- a comprehension whose parts change nothing -/
theorem compL_pure {α : Type} {vs : List Nat} {gg : D → Rho → Option Rho} {el : VM} (φ : α → D) (c : α → Bool) (f : α → D) : ∀ (l : List α) (acc : List D) (ρ : Rho),
    (∀ a ∈ l, Ok (gg (φ a) ρ) fun ρ1 => Ok (t ρ1) fun p => p.1 = c a ∧ Br (c a) (Ok (el p.2) fun q => q.1 = f a ∧ wipeR q.2 vs = ρ) (wipeR p.2 vs = ρ)) →
    acc.length + l.length ≤ sizeLine → compL vs gg t el (l.map φ) acc ρ = some (acc ++ (l.filter c).map f, ρ)
  | [], acc, ρ, _, _ => by simp [compL]
  | a :: l, acc, ρ, h, hl => by
    obtain ⟨ρ1, e1, ⟨b, ρ2⟩, e2, rfl, h3⟩ := h a (by simp)
    rw [List.length_cons] at hl
    have ih := fun acc' hl' => compL_pure φ c f l acc' ρ (fun a ha => h a (List.mem_cons_of_mem _ ha)) hl'
    rw [List.map_cons, compL]
    simp only [e1, e2]
    cases hc : c a with
    | false =>
      rw [hc, br_f] at h3
      simp only [h3, hc, List.filter_cons]
      rw [ih acc (by omega)]
      simp
    | true =>
      rw [hc, br_t] at h3
      obtain ⟨⟨y, ρ3⟩, e3, e4, e5⟩ := h3
      dsimp at e4 e5; subst e4
      simp only [e3, e5, List.filter_cons, hc]
      rw [if_pos (by omega), ih _ (by rw [List.length_append, List.length_singleton]; omega)]
      simp
/-- .. each value as Q says -/
theorem compL_all {vs : List Nat} {gg : D → Rho → Option Rho} {el : VM} (Q : D → Prop) {PC : List D × Rho → Prop} : ∀ (ds acc : List D) (ρ : Rho),
    (∀ d ∈ ds, Ok (gg d ρ) fun ρ1 => Ok (el ρ1) fun q => Q q.1 ∧ wipeR q.2 vs = ρ) → acc.length + ds.length ≤ sizeLine →
    (∀ acc', acc'.length = acc.length + ds.length → (∀ d ∈ acc', d ∈ acc ∨ Q d) → PC (acc', ρ)) → Ok (compL vs gg yesM el ds acc ρ) PC
  | [], acc, ρ, _, _, w => by rw [compL, ok_some']; exact w acc (by simp) fun d h => .inl h
  | d :: ds, acc, ρ, h, hl, w => by
    obtain ⟨ρ1, e1, ⟨y, ρ3⟩, e3, h4, h5⟩ := h d (by simp)
    dsimp at h4 h5
    rw [List.length_cons] at hl
    rw [compL]
    simp only [e1, yesM, e3, h5]
    rw [if_pos (by omega)]
    refine compL_all Q ds (acc ++ [y]) ρ (fun a ha => h a (List.mem_cons_of_mem _ ha)) (by rw [List.length_append, List.length_singleton]; omega) fun acc' a1 a2 => w acc' (by rw [a1, List.length_append, List.length_singleton, List.length_cons]; omega) fun d hd => ?_
    rcases a2 d hd with h | h
    · rcases List.mem_append.1 h with h | h
      · exact .inl h
      · rw [List.mem_singleton.1 h]; exact .inr h4
    · exact .inr h
theorem rangeD_get {n k : Nat} {d : D} (e : (rangeD 0 n)[k]? = some d) : d = .int k ∧ k < n := by
  unfold rangeD at e
  rw [List.getElem?_map] at e
  have h := List.getElem?_eq_some_iff.1 (show (List.range n)[k]? = some k from by
    rcases hk : (List.range n)[k]? with _ | j
    · rw [hk] at e; cases e
    · have := List.getElem?_eq_some_iff.1 hk
      obtain ⟨h1, h2⟩ := this
      rw [List.getElem_range] at h2
      rw [h2])
  rw [show (List.range n)[k]? = some k from List.getElem?_eq_some_iff.2 h] at e
  simp at e
  exact ⟨e.symm, by simpa using h.1⟩
@[simp] theorem rangeD_len {n : Nat} {lo : Int} : (rangeD lo n).length = n := by simp [rangeD]
theorem rangeD_mem {n : Nat} {d : D} (h : d ∈ rangeD 0 n) : ∃ k : Nat, d = .int k ∧ k < n := by
  obtain ⟨k, hk⟩ := List.mem_iff_getElem?.1 h
  exact ⟨k, rangeD_get hk⟩
theorem ok_comp {α : Type} {vs : List Nat} {gg : D → Rho → Option Rho} {el : VM} {φ : α → D} {l : List α} {acc : List D} (c : α → Bool) (f : α → D) {PC : List D × Rho → Prop}
    (h : ∀ a ∈ l, Ok (gg (φ a) ρ) fun ρ1 => Ok (t ρ1) fun p => p.1 = c a ∧ Br (c a) (Ok (el p.2) fun q => q.1 = f a ∧ wipeR q.2 vs = ρ) (wipeR p.2 vs = ρ)) (hl : acc.length + l.length ≤ sizeLine)
    (w : PC (acc ++ (l.filter c).map f, ρ)) : Ok (compL vs gg t el (l.map φ) acc ρ) PC := by
  rw [compL_pure φ c f l acc ρ h hl, ok_some']; exact w
/-- a comprehension, turn by turn -/
theorem compL_inv {vs : List Nat} {gg : D → Rho → Option Rho} {el : VM} {PC : List D × Rho → Prop} (I : Nat → List D → Rho → Prop) : ∀ (ds : List D) (k : Nat) (acc : List D) (ρ : Rho), I k acc ρ →
    (∀ k' d acc ρ, ds[k' - k]? = some d → k ≤ k' → I k' acc ρ → Ok (gg d ρ) fun ρ1 => Ok (t ρ1) fun p => Br p.1 (Ok (el p.2) fun q => acc.length < sizeLine ∧ I (k' + 1) (acc ++ [q.1]) (wipeR q.2 vs)) (I (k' + 1) acc (wipeR p.2 vs))) →
    (∀ acc ρ, I (k + ds.length) acc ρ → PC (acc, ρ)) → Ok (compL vs gg t el ds acc ρ) PC
  | [], k, acc, ρ, h, _, w => by rw [compL, ok_some']; exact w _ _ h
  | d :: ds, k, acc, ρ, h, st, w => by
    obtain ⟨ρ1, e1, ⟨b, ρ2⟩, e2, hb⟩ := st k d acc ρ (by simp) (Nat.le_refl k) h
    have more : ∀ acc' ρ', I (k + 1) acc' ρ' → Ok (compL vs gg t el ds acc' ρ') PC := fun acc' ρ' h2 => compL_inv I ds (k + 1) acc' ρ' h2
      (fun k' d' acc ρ' e le => st k' d' acc ρ' (by rw [show k' - k = (k' - (k + 1)) + 1 by omega, List.getElem?_cons_succ]; exact e) (by omega))
      (fun acc ρ' hi => w acc ρ' (by rw [List.length_cons]; rw [show k + (ds.length + 1) = k + 1 + ds.length by omega]; exact hi))
    replace hb : Br b (Ok (el ρ2) fun q => acc.length < sizeLine ∧ I (k + 1) (acc ++ [q.1]) (wipeR q.2 vs)) (I (k + 1) acc (wipeR ρ2 vs)) := hb
    rw [compL]
    simp only [e1, e2]
    cases b with
    | false => rw [br_f] at hb; exact more _ _ hb
    | true =>
      rw [br_t] at hb
      obtain ⟨⟨y, ρ3⟩, e3, hl, hi⟩ := hb
      simp only [e3]
      dsimp only at hl hi
      rw [if_pos hl]
      exact more _ _ hi
theorem comp_st {vs : List Nat} {gg : D → Rho → Option Rho} {el : VM} {PC : List D × Rho → Prop} (I : Nat → List D → Rho → Prop) {ds : List D} {ρ : Rho} (h : I 0 [] ρ)
    (st : ∀ k d acc ρ, ds[k]? = some d → k < ds.length → I k acc ρ → Ok (gg d ρ) fun ρ1 => Ok (t ρ1) fun p => Br p.1 (Ok (el p.2) fun q => acc.length < sizeLine ∧ I (k + 1) (acc ++ [q.1]) (wipeR q.2 vs)) (I (k + 1) acc (wipeR p.2 vs)))
    (w : ∀ acc ρ, I ds.length acc ρ → PC (acc, ρ)) : Ok (compL vs gg t el ds [] ρ) PC :=
  compL_inv I ds 0 [] ρ h (fun k d acc ρ e _ hi => st k d acc ρ e (by have := (List.getElem?_eq_some_iff.1 e).1; omega) hi) (fun acc ρ hi => w acc ρ (by rwa [Nat.zero_add] at hi))
/-- .. where the first turn changes how things are held -/
theorem ok_comp2 {α : Type} {vs : List Nat} {gg : D → Rho → Option Rho} {el : VM} {φ : α → D} {l : List α} {acc : List D} {ρ0 : Rho} (c : α → Bool) (f : α → D) {PC : List D × Rho → Prop}
    (h0 : ∀ a ∈ l, Ok (gg (φ a) ρ0) fun ρ1 => Ok (t ρ1) fun p => p.1 = c a ∧ Br (c a) (Ok (el p.2) fun q => q.1 = f a ∧ wipeR q.2 vs = ρ) (wipeR p.2 vs = ρ))
    (h : ∀ a ∈ l, Ok (gg (φ a) ρ) fun ρ1 => Ok (t ρ1) fun p => p.1 = c a ∧ Br (c a) (Ok (el p.2) fun q => q.1 = f a ∧ wipeR q.2 vs = ρ) (wipeR p.2 vs = ρ)) (hl : acc.length + l.length ≤ sizeLine) (hne : l ≠ [])
    (w : PC (acc ++ (l.filter c).map f, ρ)) : Ok (compL vs gg t el (l.map φ) acc ρ0) PC := by
  cases l with
  | nil => exact absurd rfl hne
  | cons a l =>
    obtain ⟨ρ1, e1, ⟨b, ρ2⟩, e2, rfl, h3⟩ := h0 a (by simp)
    rw [List.length_cons] at hl
    have ih := fun acc' hl' => compL_pure (t := t) φ c f l acc' ρ (fun a ha => h a (List.mem_cons_of_mem _ ha)) hl'
    rw [List.map_cons, compL]
    simp only [e1, e2]
    rw [List.filter_cons] at w
    cases hc : c a with
    | false =>
      rw [hc, br_f] at h3
      simp only [h3, hc] at w ⊢
      rw [ih acc (by omega), ok_some']
      simpa using w
    | true =>
      rw [hc, br_t] at h3
      obtain ⟨⟨y, ρ3⟩, e3, e4, e5⟩ := h3
      dsimp at e4 e5; subst e4
      simp only [e3, e5, hc] at w ⊢
      rw [if_pos (by omega), ih _ (by rw [List.length_append, List.length_singleton]; omega), ok_some']
      simpa using w
theorem ok_comps {α : Type} {vs : List Nat} {gg : D → Rho → Option Rho} {el : VM} {φ : α → D} {l : List α} {acc : List D} (f : α → D) {PC : List D × Rho → Prop}
    (h : ∀ a ∈ l, Ok (gg (φ a) ρ) fun ρ1 => Ok (el ρ1) fun q => q.1 = f a ∧ wipeR q.2 vs = ρ) (hl : acc.length + l.length ≤ sizeLine)
    (w : PC (acc ++ l.map f, ρ)) : Ok (compL vs gg yesM el (l.map φ) acc ρ) PC := by
  refine ok_comp (fun _ => true) f (fun a ha => ?_) hl ?_
  · refine (h a ha).imp fun ρ1 h1 => ?_
    simpa using h1
  · rw [List.filter_eq_self.2 (fun _ _ => rfl)]; exact w
def zip2 : List D → Option (List D)
  | [a, b] => match listD a, listD b with
    | some xs, some ys => some (zipD xs ys)
    | _, _ => match a, b with
      | .tup xs, .tup ys => some (zipD xs ys)
      | _, _ => none
  | _ => none
@[simp] theorem zip2_tup {xs ys : List D} : zip2 [.tup xs, .tup ys] = some (zipD xs ys) := rfl
@[simp] theorem zip2_lst {xs ys : List D} : zip2 [.lst xs, .lst ys] = some (zipD xs ys) := rfl
@[simp ↓] theorem ok_zipI : @OkI _ (zipI dm ρ) ⟨PI⟩ = Ok (dm ρ) fun p => Ok (zip2 p.1) fun ds => PI (ds, none, p.2) := by
  unfold zipI zip2
  rcases dm ρ with _ | ⟨ds, ρ'⟩
  · simp
  rcases ds with _ | ⟨a, _ | ⟨b, _ | ⟨c, r⟩⟩⟩
  · simp
  · simp
  · simp only [ok_some']
    rcases listD a with _ | xs
    · rcases listD b with _ | ys
      · cases a <;> cases b <;> simp
      · cases a <;> cases b <;> simp
    · rcases listD b with _ | ys
      · cases a <;> cases b <;> simp
      · simp
  · simp
@[simp] theorem tupG_tup {n : Nat} {gs : List D → Rho → Option Rho} {ds : List D} : tupG n gs (.tup ds) ρ = if ds.length = n then gs ds ρ else none := rfl
@[simp ↓] theorem consG_cons {gg : D → Rho → Option Rho} {gs : List D → Rho → Option Rho} {d : D} {ds : List D} {PR : Rho → Prop} : @OkI _ (consG gg gs (d :: ds) ρ) ⟨PR⟩ = Ok (gg d ρ) fun ρ' => Ok (gs ds ρ') PR := by
  unfold consG
  rcases h : gg d ρ with _ | ρ' <;> simp [h]
@[simp] theorem nilG_nil : nilG [] ρ = some ρ := rfl
@[simp] theorem isBG_nbl {a b : Bool} : isBG true (.bl a) (.bl b) = some (.val (.bl (!decide (a = b)))) := rfl
@[simp] theorem isBG_bl {a b : Bool} : isBG false (.bl a) (.bl b) = some (.val (.bl (decide (a = b)))) := rfl
def slN (i : Nat) (ρ : Rho) : Nat := match ρ[i]? with
  | some (some (.val (.int y))) => y.toNat
  | _ => 0
end
def zip22 : List D → Option (List D)
  | [a, b] => match zip2 [a, b] with
    | some r => some r
    | none => match a, b with
      | a, .tup ys => match listD a with
        | some xs => some (zipD xs ys)
        | none => none
      | .tup xs, b => match listD b with
        | some ys => some (zipD xs ys)
        | none => none
      | _, _ => none
  | _ => none
@[simp] theorem zip22_tup {xs ys : List D} : zip22 [.tup xs, .tup ys] = some (zipD xs ys) := rfl
@[simp] theorem zip22_lst {xs ys : List D} : zip22 [.lst xs, .lst ys] = some (zipD xs ys) := rfl
@[simp] theorem zip22_lt {xs ys : List D} : zip22 [.lst xs, .tup ys] = some (zipD xs ys) := rfl
@[simp] theorem zip22_tl {xs ys : List D} : zip22 [.tup xs, .lst ys] = some (zipD xs ys) := rfl
@[simp ↓] theorem ok_zipI2 {dm : DM} {ρ : Rho} {PI : List D × Option (Nat × D) × Rho → Prop} : @OkI _ (zipI2 dm ρ) ⟨PI⟩ = Ok (dm ρ) fun p => Ok (zip22 p.1) fun ds => PI (ds, none, p.2) := by
  unfold zipI2
  have hz : ∀ P2 : List D × Option (Nat × D) × Rho → Prop, @OkI _ (zipI dm ρ) ⟨P2⟩ = Ok (dm ρ) fun p => Ok (zip2 p.1) fun ds => P2 (ds, none, p.2) := fun P2 => ok_zipI
  rcases h : dm ρ with _ | ⟨ds, ρ'⟩
  · have : zipI dm ρ = none := by unfold zipI; rw [h]
    simp [this]
  · have e : zipI dm ρ = match zip2 ds with
        | some zs => some (zs, none, ρ')
        | none => none := by
      unfold zipI zip2; rw [h]
      rcases ds with _ | ⟨a, _ | ⟨b, _ | ⟨c, r⟩⟩⟩ <;> try rfl
      dsimp only
      rcases listD a with _ | xs <;> rcases listD b with _ | ys <;> try rfl
      all_goals (cases a <;> cases b <;> rfl)
    simp only [ok_some', e]
    rcases ds with _ | ⟨a, _ | ⟨b, _ | ⟨c, r⟩⟩⟩
    · simp [zip22, zip2]
    · simp [zip22, zip2]
    · unfold zip22
      dsimp only
      generalize zip2 [a, b] = z
      rcases z with _ | zs
      · cases b <;> cases a <;> simp [listD]
      · simp
    · simp [zip22, zip2]
@[simp ↓] theorem ok_negM {m : EM} {ρ : Rho} {P : Opd × Rho → Prop} : @OkI _ (negM m ρ) ⟨P⟩ = Ok (m ρ) fun p => Ok (intO p.1) fun k => P (.val (.int (-k)), p.2) := by
  unfold negM
  rcases m ρ with _ | ⟨o, ρ'⟩
  · simp
  rcases o with d | _ | _
  · cases d <;> simp [intO]
  · simp [intO]
  · simp [intO]
@[simp] theorem lenX_lst {xs : List D} : lenX [.lst xs] = some (.val (.int xs.length)) := rfl
@[simp] theorem lenX_tup {xs : List D} : lenX [.tup xs] = some (.val (.int xs.length)) := rfl
@[simp] theorem lenX_dct {ks : List Key} {ds : List D} : lenX [.dct ks ds] = some (.val (.int ks.length)) := rfl
@[simp] theorem inX_dct {neg : Bool} {d : D} {ks : List Key} {ds : List D} : inX neg d (.dct ks ds) = dinG neg d (.dct ks ds) := rfl
@[simp] theorem inX_lst {neg : Bool} {d : D} {xs : List D} : inX neg d (.lst xs) = inE neg d (.lst xs) := rfl
@[simp] theorem inX_tup {neg : Bool} {d : D} {xs : List D} : inX neg d (.tup xs) = inE neg d (.tup xs) := rfl
theorem inE_of {neg : Bool} {d e : D} {o : Opd} (h : inG neg d e = some o) : inE neg d e = some o := by unfold inE; rw [h]
@[simp ↓] theorem ok_revI {m : EM} {ρ : Rho} {PI : List D × Option (Nat × D) × Rho → Prop} : @OkI _ (revI m ρ) ⟨PI⟩ = Ok (esc m ρ) fun p => Ok (seqD p.1) fun ds => PI (ds.reverse, none, p.2) := by
  unfold revI
  rcases esc m ρ with _ | ⟨d, ρ'⟩
  · simp
  simp only [ok_some']
  rcases seqD d with _ | ds <;> simp
theorem sortG_lst {ds : List D} {ns : List Int} (h : intsOf ds = some ns) : sortG [.lst ds] = some (.tmp (.lst ((srtI ns).map D.int))) := by simp [sortG, h, listD]
def dctL (i : Nat) (ρ : Rho) : Option (List Key × List D) := match ρ[i]? with
  | some (some (.own (.dct ks ds))) => some (ks, ds)
  | _ => none
def dctV : SV → Option (List Key × List D)
  | .own (.dct ks ds) => some (ks, ds)
  | _ => none
@[simp] theorem dctV_own {ks : List Key} {ds : List D} : dctV (.own (.dct ks ds)) = some (ks, ds) := rfl
@[simp ↓] theorem ok_dctL {i : Nat} {ρ : Rho} {PO : List Key × List D → Prop} : @OkI _ (dctL i ρ) ⟨PO⟩ = Ok ρ[i]? fun s => Ok s fun sv => Ok (dctV sv) PO := by
  unfold dctL dctV
  rcases h : ρ[i]? with _ | _ | sv
  · simp [h]
  · simp [h]
  cases sv with
  | own d => cases d <;> simp [h]
  | _ => simp [h]
@[simp ↓] theorem ok_dputM {i : Nat} {mk m : EM} {ρ : Rho} {PS : Out × Rho → Prop} : @OkI _ (dputM i mk m ρ) ⟨PS⟩ = Ok (esc m ρ) fun p => Ok (anyL i p.2) fun _ => Ok (frz mk p.2) fun q => Ok (look q.1 q.2) fun kd => Ok (keyD kd) fun k => Ok (dctL i q.2) fun t => t.1.length < sizeLine ∧ PS (.nx, q.2.set i (some (.own (.dct (dputK k t.1) (dputD k p.1 t.1 t.2))))) := by
  unfold dputM anyL dctL
  rcases esc m ρ with _ | ⟨d, ρ1⟩
  · simp
  simp only [ok_some']
  rcases ρ1[i]? with _ | _ | sv
  · simp
  · simp
  simp only [ok_some']
  rcases frz mk ρ1 with _ | ⟨o, ρ2⟩
  · simp
  simp only [ok_some']
  rcases look o ρ2 with _ | kd
  · simp
  simp only [ok_some']
  rcases keyD kd with _ | k
  · simp
  simp only [ok_some']
  rcases ρ2[i]? with _ | _ | sv
  · simp
  · simp
  cases sv with
  | own d =>
    cases d with
    | dct ks ds => by_cases h : ks.length < sizeLine <;> simp [h]
    | _ => simp
  | _ => simp
@[simp] theorem tvs_nil : tvs [] = some [] := rfl
@[simp] theorem tvs_mapi {α : Type} (f : α → Int) : ∀ l : List α, tvs (l.map fun a => D.int (f a)) = some (l.map fun a => f a != 0)
  | [] => rfl
  | a :: l => by rw [List.map_cons, tvs, tvs_mapi f l]; rfl
@[simp] theorem tvs_mapb {α : Type} (f : α → Bool) : ∀ l : List α, tvs (l.map fun a => D.bl (f a)) = some (l.map f)
  | [] => rfl
  | a :: l => by rw [List.map_cons, tvs, tvs_mapb f l]; rfl
@[simp] theorem truG_lst {f : List Bool → Bool} {ds : List D} {PO : Opd → Prop} : @OkI _ (truG f [.lst ds]) ⟨PO⟩ = Ok (tvs ds) fun bs => PO (.val (.bl (f bs))) := by
  unfold truG
  simp only [listD]
  rcases tvs ds with _ | bs <;> simp
@[simp] theorem sz_le {n : Nat} (h : n ≤ 1000) : n ≤ sizeLine := Nat.le_trans h (by decide)
@[simp] theorem sz_lt {n : Nat} (h : n ≤ 1000) : n < sizeLine := Nat.lt_of_le_of_lt h (by decide)
@[simp] theorem mulOk_r {k l : Int} (h0 : 0 ≤ l) (h1 : l < 1152921504606846976) : mulOk k l = true := by unfold mulOk; rw [Bool.or_eq_true, Bool.or_eq_true]; exact .inl (.inr (decide_eq_true (by omega)))
@[simp] theorem mulOk_l {k l : Int} (h0 : 0 ≤ k) (h1 : k < 1152921504606846976) : mulOk k l = true := by unfold mulOk; rw [Bool.or_eq_true, Bool.or_eq_true]; exact .inl (.inl (decide_eq_true (by omega)))
end Ev

set_option Elab.async false
set_option linter.all false
set_option maxRecDepth 100000
/-! Ev. Y: more mirrors are run: new objects held fast, properties, operators of own classes. -/
set_option autoImplicit false
namespace Ev
open PySem PySem.Spec PyProof.Rows L2
section
variable {P : Opd × Rho → Prop} {ρ : Rho} {m ma mb : EM} {fn : Fn} {C : Addr}
@[simp ↓] theorem ok_fzM : @OkI _ (fzM m ρ) ⟨P⟩ = Ok (esc m ρ) fun p => P (.val p.1, p.2) := by
  unfold fzM
  rcases esc m ρ with _ | ⟨d, ρ'⟩ <;> simp
@[simp] theorem isInsC_ins {C' : Addr} {ks : List Str} {ds : List D} : isInsC C (.ins C' ks ds) = decide (C' = C) := rfl
@[simp] theorem isIntD_int {k : Int} : isIntD (.int k) = true := rfl
@[simp ↓] theorem ok_propC : @OkI _ (propC C fn m ρ) ⟨P⟩ = Ok (frz m ρ) fun p => Ok (look p.1 p.2) fun d => isInsC C d = true ∧ Ok (argsAll [] p.2 0 [p.1]) fun svs => Ok (fn svs) fun q => (∀ i, q.1 ≠ .var i) ∧ P (q.1, p.2) := by
  unfold propC
  rcases frz m ρ with _ | ⟨o, ρ1⟩
  · simp
  simp only [ok_some']
  rcases look o ρ1 with _ | d
  · simp
  simp only [ok_some']
  by_cases hi : isInsC C d = true
  · simp only [hi, if_true, true_and]
    rcases argsAll [] ρ1 0 [o] with _ | svs
    · simp
    simp only [ok_some']
    rcases fn svs with _ | ⟨r, post⟩
    · simp
    cases r <;> simp
  · simp only [hi]; rw [if_neg (by decide), ok_none]; exact propext ⟨False.elim, fun h => nomatch h.1⟩
@[simp ↓] theorem ok_ownM {ok : D → Bool} : @OkI _ (ownM C fn ok ma mb ρ) ⟨P⟩ = Ok (frz ma ρ) fun p => Ok (frz mb p.2) fun q => Ok (look p.1 q.2) fun d => Ok (look q.1 q.2) fun e => isInsC C d = true ∧ ok e = true ∧ Ok (argsAll [] q.2 0 [p.1, q.1]) fun svs => Ok (fn svs) fun r => (∀ i, r.1 ≠ .var i) ∧ P (r.1, q.2) := by
  unfold ownM
  rcases frz ma ρ with _ | ⟨o, ρ1⟩
  · simp
  simp only [ok_some']
  rcases frz mb ρ1 with _ | ⟨ob, ρ2⟩
  · simp
  simp only [ok_some']
  rcases look o ρ2 with _ | d
  · simp
  simp only [ok_some']
  rcases look ob ρ2 with _ | e
  · simp
  simp only [ok_some']
  by_cases hi : isInsC C d = true
  · simp only [hi, if_true, true_and]
    by_cases ho : ok e = true
    · simp only [ho, if_true, true_and]
      rcases argsAll [] ρ2 0 [o, ob] with _ | svs
      · simp
      simp only [ok_some']
      rcases fn svs with _ | ⟨r, post⟩
      · simp
      cases r <;> simp
    · simp only [ho]; rw [if_neg (by decide), ok_none]; exact propext ⟨False.elim, fun h => nomatch h.1⟩
  · simp only [hi]; rw [if_neg (by decide), ok_none]; exact propext ⟨False.elim, fun h => nomatch h.1⟩
@[simp ↓] theorem ok_conM : @OkI _ (conM C fn ma mb ρ) ⟨P⟩ = Ok (frz ma ρ) fun p => Ok (frz mb p.2) fun q => Ok (look q.1 q.2) fun e => isInsC C e = true ∧ Ok (argsAll [] q.2 0 [q.1, p.1]) fun svs => Ok (fn svs) fun r => Ok (bolO r.1) fun b => P (.val (.bl b), q.2) := by
  unfold conM
  rcases frz ma ρ with _ | ⟨o, ρ1⟩
  · simp
  simp only [ok_some']
  rcases frz mb ρ1 with _ | ⟨ob, ρ2⟩
  · simp
  simp only [ok_some']
  rcases look ob ρ2 with _ | e
  · simp
  simp only [ok_some']
  by_cases hi : isInsC C e = true
  · simp only [hi, if_true, true_and]
    rcases argsAll [] ρ2 0 [ob, o] with _ | svs
    · simp
    simp only [ok_some']
    rcases fn svs with _ | ⟨r, post⟩
    · simp
    cases r with
    | val d => cases d <;> simp [bolO]
    | _ => simp [bolO]
  · simp only [hi]; rw [if_neg (by decide), ok_none]; exact propext ⟨False.elim, fun h => nomatch h.1⟩
@[simp] theorem isCD_self {ks : List Str} {ds : List D} : isCD C (.ins C ks ds) = some true := by simp [isCD]
@[simp] theorem isCD_int {k : Int} : isCD C (.int k) = some false := rfl
@[simp] theorem isCD_non : isCD C .non = some false := rfl
@[simp] theorem isCD_tup {xs : List D} : isCD C (.tup xs) = some false := rfl
@[simp ↓] theorem ok_isCM : @OkI _ (isCM C m ρ) ⟨P⟩ = Ok (frz m ρ) fun p => Ok (look p.1 p.2) fun d => Ok (isCD C d) fun b => P (.val (.bl b), p.2) := by
  unfold isCM
  rcases frz m ρ with _ | ⟨o, ρ1⟩
  · simp
  simp only [ok_some']
  rcases look o ρ1 with _ | d
  · simp
  simp only [ok_some']
  rcases isCD C d with _ | b <;> simp
@[simp] theorem listX_lst {xs : List D} : listX [.lst xs] = some (.tmp (.lst xs)) := rfl
@[simp] theorem listX_tup {xs : List D} : listX [.tup xs] = some (.tmp (.lst xs)) := rfl
@[simp] theorem listX_dct {ks : List Key} {ds : List D} : listX [.dct ks ds] = some (.tmp (.lst (ks.map keyDV))) := rfl
end
/-! prices: None or an int -/
def toD : Option Int → D
  | none => .non
  | some k => .int k
@[simp] theorem toD_none : toD none = .non := rfl
@[simp] theorem toD_some {k : Int} : toD (some k) = .int k := rfl
@[simp] theorem isNonD_toD (o : Option Int) : isNonD (toD o) = o.isNone := by cases o <;> rfl
def toPyO : Option Int → PyData
  | none => .none
  | some k => .int k
theorem toPy_toD (o : Option Int) : toPy (toD o) = some (toPyO o) := by cases o <;> simp [toPy, toPyO]
theorem toPys_toD : ∀ l : List (Option Int), toPys (l.map toD) = some (l.map toPyO)
  | [] => by rw [List.map_nil, toPys]; rfl
  | a :: l => by rw [List.map_cons, toPys, toPys_toD l, toPy_toD]; simp
theorem lay_toD : ∀ l : List (Option Int), PyData.canLayAll0 (l.map toPyO) = true
  | [] => by rw [List.map_nil, PyData.canLayAll0]
  | a :: l => by rw [List.map_cons, PyData.canLayAll0, lay_toD l]; cases a <;> simp [PyData.canLay0, toPyO]
theorem dep_toD : ∀ l : List (Option Int), PyData.depthAll (l.map toPyO) = 0
  | [] => by rw [List.map_nil, PyData.depthAll]
  | a :: l => by rw [List.map_cons, PyData.depthAll, dep_toD l]; cases a <;> simp [PyData.depth, toPyO]
theorem eqv1_toD : ∀ a b : Option Int, PyData.eqv (toPyO a) (toPyO b) = decide (a = b)
  | none, none => by simp [toPyO, PyData.eqv]
  | none, some b => by simp [toPyO, PyData.eqv]
  | some a, none => by simp [toPyO, PyData.eqv]
  | some a, some b => by by_cases h : a = b <;> simp [toPyO, PyData.eqv, h]
theorem eqv_toD : ∀ l r : List (Option Int), PyData.eqvAll (l.map toPyO) (r.map toPyO) = decide (l = r)
  | [], [] => by simp [PyData.eqvAll]
  | [], _ :: _ => by simp [PyData.eqvAll]
  | _ :: _, [] => by simp [PyData.eqvAll]
  | a :: l, b :: r => by rw [List.map_cons, List.map_cons, PyData.eqvAll, eqv_toD l r, eqv1_toD]; by_cases h : a = b <;> simp [h]
theorem shp_toD (a : Option Int) : SeqAt.shaped (toPyO a) := by cases a <;> simp [SeqAt.shaped, PyData.canLay0, PyData.depth, toPyO]
theorem eqD_toD {a b : Option Int} : eqD (toD a) (toD b) = some (decide (a = b)) := by
  unfold eqD
  simp only [toPy_toD]
  rw [if_pos ⟨shp_toD a, shp_toD b⟩, eqv1_toD]
theorem eqD_tups {l r : List (Option Int)} : eqD (.tup (l.map toD)) (.tup (r.map toD)) = some (decide (l = r)) := by
  unfold eqD
  simp only [toPy, toPys_toD]
  rw [if_pos ⟨by simp [SeqAt.shaped, PyData.canLay0, PyData.depth, lay_toD, dep_toD], by simp [SeqAt.shaped, PyData.canLay0, PyData.depth, lay_toD, dep_toD]⟩, PyData.eqv, eqv_toD]
theorem eqG_toD {a b : Option Int} : eqG (toD a) (toD b) = some (.val (.bl (decide (a = b)))) := by unfold eqG; rw [eqD_toD]
theorem neG_toD {a b : Option Int} : neG (toD a) (toD b) = some (.val (.bl (!decide (a = b)))) := by unfold neG; rw [eqD_toD]
theorem eqG_tups {l r : List (Option Int)} : eqG (.tup (l.map toD)) (.tup (r.map toD)) = some (.val (.bl (decide (l = r)))) := by unfold eqG; rw [eqD_tups]
/-! equal to itself -/
def Nice (k : Nat) (d : D) : Prop := ∃ p, toPy d = some p ∧ PyData.canLay0 p = true ∧ p.depth ≤ k ∧ PyData.eqv p p = true
def Nices (k : Nat) (ds : List D) : Prop := ∃ ps, toPys ds = some ps ∧ PyData.canLayAll0 ps = true ∧ PyData.depthAll ps ≤ k ∧ PyData.eqvAll ps ps = true
theorem nice_non : Nice 0 .non := ⟨_, rfl, by simp [PyData.canLay0], by simp [PyData.depth], by simp [PyData.eqv]⟩
theorem nice_int (i : Int) : Nice 0 (.int i) := ⟨_, rfl, by simp [PyData.canLay0], by simp [PyData.depth], by simp [PyData.eqv]⟩
theorem nices_of {k : Nat} : ∀ {ds : List D}, (∀ d ∈ ds, Nice k d) → Nices k ds
  | [], _ => ⟨[], rfl, by simp [PyData.canLayAll0], by simp [PyData.depthAll], by simp [PyData.eqvAll]⟩
  | d :: ds, h => by
    obtain ⟨p, h1, h2, h3, h4⟩ := h d (by simp)
    obtain ⟨ps, g1, g2, g3, g4⟩ := nices_of fun d hd => h d (List.mem_cons_of_mem _ hd)
    exact ⟨p :: ps, by rw [toPys]; simp only [h1, g1], by rw [PyData.canLayAll0, h2, g2]; rfl, by rw [PyData.depthAll]; omega, by rw [PyData.eqvAll, h4, g4]; rfl⟩
theorem nice_tup {k : Nat} {ds : List D} (h : ∀ d ∈ ds, Nice k d) : Nice (k + 1) (.tup ds) := by
  obtain ⟨ps, g1, g2, g3, g4⟩ := nices_of h
  exact ⟨.tuple ps, by rw [toPy]; simp only [g1], by rw [PyData.canLay0]; exact g2, by rw [PyData.depth]; omega, by rw [PyData.eqv]; exact g4⟩
theorem nice_lst {k : Nat} {ds : List D} (h : ∀ d ∈ ds, Nice k d) : Nice (k + 1) (.lst ds) := by
  obtain ⟨ps, g1, g2, g3, g4⟩ := nices_of h
  exact ⟨.list ps, by rw [toPy]; simp only [g1], by rw [PyData.canLay0]; exact g2, by rw [PyData.depth]; omega, by rw [PyData.eqv]; exact g4⟩
theorem eqG_self {k : Nat} {d : D} (h : Nice k d) (hk : k ≤ 64) : eqG d d = some (.val (.bl true)) := by
  obtain ⟨p, h1, h2, h3, h4⟩ := h
  unfold eqG eqD
  have hs : SeqAt.shaped p = true := by
    unfold SeqAt.shaped
    rw [h2, decide_eq_true (by omega)]; rfl
  simp only [h1, hs, h4, and_self, if_true]

theorem neG_self {k : Nat} {d : D} (h : Nice k d) (hk : k ≤ 64) : neG d d = some (.val (.bl false)) := by
  have h1 := eqG_self h hk
  unfold eqG at h1
  unfold neG
  split at h1
  · injection h1 with h1; injection h1 with h1; injection h1 with h1
    rw [h1]; rfl
  · cases h1
/-! the plain law -/
end Ev

set_option Elab.async false
set_option linter.all false
set_option maxRecDepth 100000
/-! Ev. T: mirrors are run: starred items, two clauses, dicts with tuple keys. -/
set_option autoImplicit false
namespace Ev
open PySem PySem.Spec PyProof.Rows L2
section
variable {P : Opd × Rho → Prop} {PD : List D × Rho → Prop} {ρ : Rho} {m ma mb : EM} {dm : DM}
@[simp ↓] theorem ok_starD : @OkI _ (starD m dm ρ) ⟨PD⟩ = Ok (frz m ρ) fun p => Ok (look p.1 p.2) fun d => Ok (seqD d) fun xs => Ok (dm p.2) fun q => PD (xs ++ q.1, q.2) := by
  unfold starD
  rcases frz m ρ with _ | ⟨o, ρ1⟩
  · simp
  simp only [ok_some']
  rcases look o ρ1 with _ | d
  · simp
  simp only [ok_some']
  rcases seqD d with _ | xs
  · simp
  simp only [ok_some']
  rcases dm ρ1 with _ | ⟨ds, ρ2⟩ <;> simp
@[simp] theorem atX_lst {xs : List D} {k : D} : atX (.lst xs) k = atD (.lst xs) k := rfl
@[simp] theorem atX_tup {xs : List D} {k : D} : atX (.tup xs) k = atD (.tup xs) k := rfl
@[simp] theorem atX_rol {xs : List D} {k : D} : atX (.rol xs) k = atD (.rol xs) k := rfl
@[simp] theorem atX_dct {ks : List Key} {ds : List D} {k : D} : atX (.dct ks ds) k = dgetG (.dct ks ds) k := rfl
@[simp ↓] theorem atX_dtt {ks : List (List Key)} {ds : List D} {k : D} {PO : Opd → Prop} : @OkI _ (atX (.dtt ks ds) k) ⟨PO⟩ = Ok (keyT k) fun kk => Ok (dlk kk ks ds) fun d => PO (.val d) := by
  show @OkI _ (dgetT (.dtt ks ds) k) ⟨PO⟩ = _
  unfold dgetT
  dsimp only
  rcases keyT k with _ | kk
  · simp
  simp only [ok_some']
  rcases dlk kk ks ds with _ | d <;> simp
@[simp ↓] theorem inX_dtt {neg : Bool} {ks : List (List Key)} {ds : List D} {k : D} {PO : Opd → Prop} : @OkI _ (inX neg k (.dtt ks ds)) ⟨PO⟩ = Ok (keyT k) fun kk => PO (.val (.bl (if neg then !(dlk kk ks ds).isSome else (dlk kk ks ds).isSome))) := by
  show @OkI _ (dinT neg k (.dtt ks ds)) ⟨PO⟩ = _
  unfold dinT
  dsimp only
  rcases keyT k with _ | kk <;> simp
@[simp ↓] theorem ok_dnewT : @OkI _ (dnewT ρ) ⟨P⟩ = P (.tmp (.dtt [] []), ρ) := by simp [dnewT]
def dttL (i : Nat) (ρ : Rho) : Option (List (List Key) × List D) := match ρ[i]? with
  | some (some (.own (.dtt ks ds))) => some (ks, ds)
  | _ => none
def dttV : SV → Option (List (List Key) × List D)
  | .own (.dtt ks ds) => some (ks, ds)
  | _ => none
@[simp] theorem dttV_own {ks : List (List Key)} {ds : List D} : dttV (.own (.dtt ks ds)) = some (ks, ds) := rfl
@[simp ↓] theorem ok_dttL {i : Nat} {ρ : Rho} {PO : List (List Key) × List D → Prop} : @OkI _ (dttL i ρ) ⟨PO⟩ = Ok ρ[i]? fun s => Ok s fun sv => Ok (dttV sv) PO := by
  unfold dttL dttV
  rcases h : ρ[i]? with _ | _ | sv
  · simp [h]
  · simp [h]
  cases sv with
  | own d => cases d <;> simp [h]
  | _ => simp [h]
@[simp ↓] theorem ok_dputT {i : Nat} {mk m : EM} {ρ : Rho} {PS : Out × Rho → Prop} : @OkI _ (dputT i mk m ρ) ⟨PS⟩ = Ok (esc m ρ) fun p => Ok (anyL i p.2) fun _ => Ok (frz mk p.2) fun q => Ok (look q.1 q.2) fun kd => Ok (keyT kd) fun k => Ok (dttL i q.2) fun t => t.1.length < sizeLine ∧ PS (.nx, q.2.set i (some (.own (.dtt (dputK k t.1) (dputD k p.1 t.1 t.2))))) := by
  unfold dputT anyL dttL
  rcases esc m ρ with _ | ⟨d, ρ1⟩
  · simp
  simp only [ok_some']
  rcases ρ1[i]? with _ | _ | sv
  · simp
  · simp
  simp only [ok_some']
  rcases frz mk ρ1 with _ | ⟨o, ρ2⟩
  · simp
  simp only [ok_some']
  rcases look o ρ2 with _ | kd
  · simp
  simp only [ok_some']
  rcases keyT kd with _ | k
  · simp
  simp only [ok_some']
  rcases ρ2[i]? with _ | _ | sv
  · simp
  · simp
  cases sv with
  | own d =>
    cases d with
    | dtt ks ds => by_cases h : ks.length < sizeLine <;> simp [h]
    | _ => simp
  | _ => simp
@[simp] theorem isDct_dtt {ks : List (List Key)} {ds : List D} : isDct (.dtt ks ds) = true := rfl
@[simp] theorem isDct_dct {ks : List Key} {ds : List D} : isDct (.dct ks ds) = true := rfl
@[simp ↓] theorem getX_dtt {ks : List (List Key)} {ds : List D} {k : D} {PO : D → Prop} : @OkI _ (getX (.dtt ks ds) k) ⟨PO⟩ = Ok (keyT k) fun kk => PO ((dlk kk ks ds).getD .non) := by
  unfold getX
  dsimp only
  rcases keyT k with _ | kk <;> simp
@[simp ↓] theorem getX_dct {ks : List Key} {ds : List D} {k : D} {PO : D → Prop} : @OkI _ (getX (.dct ks ds) k) ⟨PO⟩ = Ok (keyD k) fun kk => PO ((dlk kk ks ds).getD .non) := by
  unfold getX
  dsimp only
  rcases keyD k with _ | kk <;> simp
@[simp ↓] theorem ok_dgetM : @OkI _ (dgetM ma mb ρ) ⟨P⟩ = Ok (frz ma ρ) fun p => Ok (look p.1 p.2) fun d0 => isDct d0 = true ∧ Ok (frz mb p.2) fun q => Ok (look p.1 q.2) fun d => Ok (look q.1 q.2) fun k => Ok (getX d k) fun r => P (.val r, q.2) := by
  unfold dgetM
  rcases frz ma ρ with _ | ⟨o, ρ1⟩
  · simp
  simp only [ok_some']
  rcases look o ρ1 with _ | d0
  · simp
  simp only [ok_some']
  by_cases hd : isDct d0 = true
  · simp only [hd, if_true, true_and]
    rcases frz mb ρ1 with _ | ⟨ob, ρ2⟩
    · simp
    simp only [ok_some']
    rcases look o ρ2 with _ | d
    · simp
    simp only [ok_some']
    rcases look ob ρ2 with _ | k
    · simp
    simp only [ok_some']
    rcases getX d k with _ | r <;> simp
  · simp only [hd]; rw [if_neg (by decide), ok_none]; exact propext ⟨False.elim, fun h => nomatch h.1⟩
def one1 : List D → Option D
  | [d] => some d
  | _ => none
@[simp] theorem one1_one {d : D} : one1 [d] = some d := rfl
@[simp ↓] theorem ok_enumI {PI : List D × Option (Nat × D) × Rho → Prop} : @OkI _ (enumI dm ρ) ⟨PI⟩ = Ok (dm ρ) fun p => Ok (one1 p.1) fun d => Ok (seqD d) fun ds => PI (enumD ds, none, p.2) := by
  unfold enumI
  rcases dm ρ with _ | ⟨ds, ρ1⟩
  · simp
  simp only [ok_some']
  match ds with
  | [] => simp [one1]
  | [d] =>
    simp only [one1, ok_some']
    rcases seqD d with _ | xs <;> simp
  | _ :: _ :: _ => simp [one1]
theorem keysD_ints : ∀ ns : List Int, keysD (ns.map D.int) = some (ns.map Sum.inl)
  | [] => rfl
  | n :: ns => by rw [List.map_cons, keysD, keysD_ints ns]; rfl
theorem keyT_ints (ns : List Int) : keyT (.tup (ns.map D.int)) = some (ns.map Sum.inl) := keysD_ints ns
@[simp ↓] theorem ok_compM2 {vs vs1 : List Nat} {it it1 : IM} {g g1 : D → Rho → Option Rho} {t t1 : TM} {el : VM} : @OkI _ (compM2 vs vs1 it g t it1 g1 t1 el ρ) ⟨P⟩ = Ok (it ρ) fun p => bare p.2.2 vs = true ∧ Ok (compL2 vs vs1 g t it1 g1 t1 el p.1 [] (wipeR p.2.2 vs)) fun q => Ok (unlock p.2.1 (backR p.2.2 q.2 vs)) fun ρ3 => P (.tmp (.lst q.1), ρ3) := by
  unfold compM2
  rcases it ρ with _ | ⟨ds, lk, ρ1⟩
  · simp
  simp only [ok_some']
  by_cases hb : bare ρ1 vs = true
  · simp only [hb, if_true, true_and]
    rcases compL2 vs vs1 g t it1 g1 t1 el ds [] (wipeR ρ1 vs) with _ | ⟨acc, ρ2⟩
    · simp
    simp only [ok_some']
    rcases unlock lk (backR ρ1 ρ2 vs) with _ | ρ3 <;> simp
  · simp only [hb]; rw [if_neg (by decide), ok_none]; exact propext ⟨False.elim, fun h => nomatch h.1⟩
theorem compL2_pure {α β : Type} {vs vs1 : List Nat} {it1 : IM} {g g1 : D → Rho → Option Rho} {t1 : TM} {el : VM} (φ : α → D) (ψ : β → D) (l1 : α → List β) (c : α → β → Bool) (f : α → β → D) (st : α → Rho) : ∀ (l : List α) (acc : List D) (ρ : Rho),
    (∀ a ∈ l, Ok (g (φ a) ρ) fun ρ1 => Ok (it1 ρ1) fun q => q.1 = (l1 a).map ψ ∧ q.2.1 = none ∧ wipeR q.2.2 vs1 = st a) →
    (∀ a ∈ l, wipeR (st a) vs = ρ) →
    (∀ a ∈ l, ∀ b ∈ l1 a, Ok (g1 (ψ b) (st a)) fun ρ1 => Ok (t1 ρ1) fun p => p.1 = c a b ∧ Br (c a b) (Ok (el p.2) fun q => q.1 = f a b ∧ wipeR q.2 vs1 = st a) (wipeR p.2 vs1 = st a)) →
    acc.length + (l.map fun a => (l1 a).length).sum ≤ sizeLine → compL2 vs vs1 g yesM it1 g1 t1 el (l.map φ) acc ρ = some (acc ++ l.flatMap fun a => ((l1 a).filter (c a)).map (f a), ρ)
  | [], acc, ρ, _, _, _, _ => by simp [compL2]
  | a :: l, acc, ρ, h, h2, h3, hl => by
    obtain ⟨ρ1, e1, ⟨ds1, lk, ρ3⟩, e2, e3, e4, e5⟩ := h a (by simp)
    dsimp only at e3 e4 e5
    subst e3 e4
    rw [List.map_cons, List.sum_cons] at hl
    have hin := compL_pure (t := t1) ψ (c a) (f a) (l1 a) acc (st a) (h3 a (by simp)) (by omega)
    have hle : (((l1 a).filter (c a)).map (f a)).length ≤ (l1 a).length := by rw [List.length_map]; exact List.length_filter_le _ _
    have ih := compL2_pure φ ψ l1 c f st l (acc ++ ((l1 a).filter (c a)).map (f a)) ρ (fun a ha => h a (List.mem_cons_of_mem _ ha)) (fun a ha => h2 a (List.mem_cons_of_mem _ ha)) (fun a ha => h3 a (List.mem_cons_of_mem _ ha)) (by rw [List.length_append]; omega)
    rw [List.map_cons, compL2]
    simp only [e1, yesM, e2, e5]
    rw [hin]
    simp only [h2 a (by simp)]
    rw [ih, List.flatMap_cons, List.append_assoc]
theorem ok_compL2 {α β : Type} {vs vs1 : List Nat} {it1 : IM} {g g1 : D → Rho → Option Rho} {t1 : TM} {el : VM} {φ : α → D} {l : List α} {acc : List D} (ψ : β → D) (l1 : α → List β) (c : α → β → Bool) (f : α → β → D) (st : α → Rho)
    (h : ∀ a ∈ l, Ok (g (φ a) ρ) fun ρ1 => Ok (it1 ρ1) fun q => q.1 = (l1 a).map ψ ∧ q.2.1 = none ∧ wipeR q.2.2 vs1 = st a)
    (h2 : ∀ a ∈ l, wipeR (st a) vs = ρ)
    (h3 : ∀ a ∈ l, ∀ b ∈ l1 a, Ok (g1 (ψ b) (st a)) fun ρ1 => Ok (t1 ρ1) fun p => p.1 = c a b ∧ Br (c a b) (Ok (el p.2) fun q => q.1 = f a b ∧ wipeR q.2 vs1 = st a) (wipeR p.2 vs1 = st a))
    (hl : acc.length + (l.map fun a => (l1 a).length).sum ≤ sizeLine) (w : PD (acc ++ l.flatMap fun a => ((l1 a).filter (c a)).map (f a), ρ)) : Ok (compL2 vs vs1 g yesM it1 g1 t1 el (l.map φ) acc ρ) PD := by
  rw [compL2_pure φ ψ l1 c f st l acc ρ h h2 h3 hl, ok_some']; exact w
end
end Ev

set_option Elab.async false
set_option linter.all false
set_option maxRecDepth 100000
/-! Ev. XF: mirrors that may raise are run. -/
set_option autoImplicit false
namespace Ev
open PySem PySem.Spec PyProof.Rows L2
section
variable {ρ : Rho} {PS : Out × Rho → Prop} {PX : XO × Rho → Prop} {PR : XR → Prop} {m : EM} {am : AM} {xm : XM} {fn : FnX} {io : List Nat} {s1 : SM} {C : Addr} {f : Str} {d : D}
@[simp ↓] theorem ok_raiseM {so : Bool} : @OkI _ (raiseM C f so m ρ) ⟨PS⟩ = Ok (esc m ρ) fun p => okD so p.1 = true ∧ PS (.ex C f p.1, p.2) := by
  unfold raiseM
  rcases esc m ρ with _ | ⟨d, ρ'⟩
  · simp
  · simp
@[simp] theorem okD_no : okD false d = true := rfl
@[simp] theorem okD_str {z : Str} : okD true (.str z) = decide (z.length ≤ 1000) := by simp [okD]
def exprXK (PS : Out × Rho → Prop) : XO × Rho → Prop
  | (.ok _, ρ) => PS (.nx, ρ)
  | (.ex C f d, ρ) => PS (.ex C f d, ρ)
@[simp ↓] theorem exprXK_ok {o : Opd} : exprXK PS (.ok o, ρ) = PS (.nx, ρ) := rfl
@[simp ↓] theorem exprXK_ex : exprXK PS (.ex C f d, ρ) = PS (.ex C f d, ρ) := rfl
@[simp ↓] theorem ok_exprX : @OkI _ (exprX xm ρ) ⟨PS⟩ = Ok (xm ρ) (exprXK PS) := by
  unfold exprX
  rcases xm ρ with _ | ⟨_ | _, ρ'⟩ <;> simp [exprXK]
def retXK (PS : Out × Rho → Prop) : XO × Rho → Prop
  | (.ok o, ρ) => PS (.rt o, ρ)
  | (.ex C f d, ρ) => PS (.ex C f d, ρ)
@[simp ↓] theorem retXK_ok {o : Opd} : retXK PS (.ok o, ρ) = PS (.rt o, ρ) := rfl
@[simp ↓] theorem retXK_ex : retXK PS (.ex C f d, ρ) = PS (.ex C f d, ρ) := rfl
@[simp ↓] theorem ok_retX : @OkI _ (retX xm ρ) ⟨PS⟩ = Ok (xm ρ) (retXK PS) := by
  unfold retX
  rcases xm ρ with _ | ⟨_ | _, ρ'⟩ <;> simp [retXK]
def tryK (C : Addr) (f : Str) (i : Nat) (hm : D → EM) (PS : Out × Rho → Prop) : Out × Rho → Prop
  | (.ex C' f' d, ρ) => (C' = C ∧ f' = f ∧ i < ρ.length) ∧ Ok (hm d (ρ.set i none)) fun p => PS (.rt p.1, p.2)
  | p => PS p
@[simp ↓] theorem tryK_nx {i : Nat} {hm : D → EM} : tryK C f i hm PS (.nx, ρ) = PS (.nx, ρ) := rfl
@[simp ↓] theorem tryK_bk {i : Nat} {hm : D → EM} : tryK C f i hm PS (.bk, ρ) = PS (.bk, ρ) := rfl
@[simp ↓] theorem tryK_ct {i : Nat} {hm : D → EM} : tryK C f i hm PS (.ct, ρ) = PS (.ct, ρ) := rfl
@[simp ↓] theorem tryK_rt {i : Nat} {hm : D → EM} {o : Opd} : tryK C f i hm PS (.rt o, ρ) = PS (.rt o, ρ) := rfl
@[simp ↓] theorem tryK_ex {i : Nat} {hm : D → EM} {C' : Addr} {f' : Str} : tryK C f i hm PS (.ex C' f' d, ρ) = ((C' = C ∧ f' = f ∧ i < ρ.length) ∧ Ok (hm d (ρ.set i none)) fun p => PS (.rt p.1, p.2)) := rfl
@[simp ↓] theorem ok_tryM {i : Nat} {hm : D → EM} : @OkI _ (tryM s1 C f i hm ρ) ⟨PS⟩ = Ok (s1 ρ) (tryK C f i hm PS) := by
  unfold tryM
  rcases s1 ρ with _ | ⟨o, ρ'⟩
  · simp
  cases o with
  | ex C' f' d =>
    simp only [ok_some', tryK_ex]
    by_cases h : C' = C ∧ f' = f ∧ i < ρ'.length
    · rw [if_pos h]
      rcases hm d (ρ'.set i none) with _ | ⟨o, ρ2⟩ <;> simp [h]
    · rw [if_neg h]
      simp only [ok_none]
      exact propext ⟨False.elim, fun z => h z.1⟩
  | _ => simp [tryK]
def callXK (io : List Nat) (os : List Opd) (ρ : Rho) (PX : XO × Rho → Prop) : XR → Prop
  | .ok o post => Ok (putBack io post 0 os ρ) fun ρ2 => (∀ i, o ≠ .var i) ∧ PX (.ok o, ρ2)
  | .ex C f d post => Ok (putBack io post 0 os ρ) fun ρ2 => PX (.ex C f d, ρ2)
@[simp ↓] theorem callXK_ok {os : List Opd} {o : Opd} {post : Rho} : callXK io os ρ PX (.ok o post) = Ok (putBack io post 0 os ρ) fun ρ2 => (∀ i, o ≠ .var i) ∧ PX (.ok o, ρ2) := rfl
@[simp ↓] theorem callXK_ex {os : List Opd} {post : Rho} : callXK io os ρ PX (.ex C f d post) = Ok (putBack io post 0 os ρ) fun ρ2 => PX (.ex C f d, ρ2) := rfl
@[simp ↓] theorem ok_callX : @OkI _ (callX fn io am ρ) ⟨PX⟩ = Ok (am ρ) fun p => exclOk io p.1 = true ∧ Ok (argsAll io p.2 0 p.1) fun svs => Ok (fn svs) (callXK io p.1 p.2 PX) := by
  unfold callX
  rcases am ρ with _ | ⟨os, ρ1⟩
  · simp
  simp only [ok_some']
  by_cases hx : exclOk io os = true
  · simp only [hx, if_true, true_and]
    rcases argsAll io ρ1 0 os with _ | svs
    · simp
    simp only [ok_some']
    rcases fn svs with _ | ⟨o, post⟩ | ⟨C, f, d, post⟩
    · simp
    · cases o with
      | var i =>
        simp only [ok_some', callXK]
        rcases putBack io post 0 os ρ1 with _ | ρ2 <;> simp
      | _ =>
        simp only [ok_some', callXK]
        rcases putBack io post 0 os ρ1 with _ | ρ2 <;> simp
    · simp only [ok_some', callXK]
      rcases putBack io post 0 os ρ1 with _ | ρ2 <;> simp
  · simp only [hx]; rw [if_neg (by decide), ok_none]; exact propext ⟨False.elim, fun h => nomatch h.1⟩
def makeXK (ρ : Rho) (PX : XO × Rho → Prop) : XR → Prop
  | .ok o post => o = .val .non ∧ ∃ d, (post : Rho)[0]? = some (some (SV.own d)) ∧ PX (.ok (.tmp d), ρ)
  | .ex C f d post => ∃ d', (post : Rho)[0]? = some (some (SV.own d')) ∧ PX (.ex C f d, ρ)
@[simp ↓] theorem makeXK_ok {o : Opd} {post : Rho} : makeXK ρ PX (.ok o post) = (o = .val .non ∧ ∃ d, (post : Rho)[0]? = some (some (SV.own d)) ∧ PX (.ok (.tmp d), ρ)) := rfl
@[simp ↓] theorem makeXK_ex {post : Rho} : makeXK ρ PX (.ex C f d post) = ∃ d', (post : Rho)[0]? = some (some (SV.own d')) ∧ PX (.ex C f d, ρ) := rfl
@[simp ↓] theorem ok_makeX : @OkI _ (makeX C fn am ρ) ⟨PX⟩ = Ok (am ρ) fun p => Ok (argsAll [] p.2 1 p.1) fun ss => Ok (fn (.own (.ins C [] []) :: ss)) (makeXK p.2 PX) := by
  unfold makeX
  rcases am ρ with _ | ⟨os, ρ1⟩
  · simp
  simp only [ok_some']
  rcases argsAll [] ρ1 1 os with _ | ss
  · simp
  simp only [ok_some']
  rcases fn (.own (.ins C [] []) :: ss) with _ | ⟨o, post⟩ | ⟨C', f', d', post⟩
  · simp
  · cases o with
    | val d =>
      cases d with
      | non =>
        rcases h : post[0]? with _ | _ | sv
        · simp [h, makeXK]
        · simp [h, makeXK]
        cases sv <;> simp [h, makeXK]
      | _ => simp [makeXK]
    | _ => simp [makeXK]
  · rcases h : post[0]? with _ | _ | sv
    · simp [h, makeXK]
    · simp [h, makeXK]
    cases sv <;> simp [h, makeXK]
@[simp ↓] theorem ok_methX {nm : Str} : @OkI _ (methX C nm fn io m am ρ) ⟨PX⟩ = Ok (frz m ρ) fun p => Ok (look p.1 p.2) fun d => insD C nm d = true ∧ Ok (am p.2) fun q => exclOk io (p.1 :: q.1) = true ∧ Ok (argsAll io q.2 0 (p.1 :: q.1)) fun svs =>
    Ok (fn svs) (callXK io (p.1 :: q.1) q.2 PX) := by
  unfold methX
  rcases frz m ρ with _ | ⟨o, ρ1⟩
  · simp
  simp only [ok_some']
  rcases look o ρ1 with _ | d
  · simp
  simp only [ok_some']
  by_cases hi : insD C nm d = true
  · simp only [hi, if_true, true_and]
    rcases am ρ1 with _ | ⟨os, ρ2⟩
    · simp
    simp only [ok_some']
    by_cases hx : exclOk io (o :: os) = true
    · simp only [hx, if_true, true_and]
      rcases argsAll io ρ2 0 (o :: os) with _ | svs
      · simp
      simp only [ok_some']
      rcases fn svs with _ | ⟨o', post⟩ | ⟨C', f', d', post⟩
      · simp
      · cases o' with
        | var i =>
          simp only [ok_some', callXK]
          rcases putBack io post 0 (o :: os) ρ2 with _ | ρ3 <;> simp
        | _ =>
          simp only [ok_some', callXK]
          rcases putBack io post 0 (o :: os) ρ2 with _ | ρ3 <;> simp
      · simp only [ok_some', callXK]
        rcases putBack io post 0 (o :: os) ρ2 with _ | ρ3 <;> simp
    · simp only [hx]; rw [if_neg (by decide), ok_none]; exact propext ⟨False.elim, fun h => nomatch h.1⟩
  · simp only [hi]; rw [if_neg (by decide), ok_none]; exact propext ⟨False.elim, fun h => nomatch h.1⟩
/-- the end of a def that may raise -/
def endXK (np : Nat) (io : List Nat) (PR : XR → Prop) : Out × Rho → Prop
  | (.rt o, ρ) => Ok (retF np io o ρ) fun p => PR (.ok p.1 p.2)
  | (.nx, ρ) => PR (.ok (.val .non) (keepIO io ρ np))
  | (.ex C f d, ρ) => PR (.ex C f d (keepIO io ρ np))
  | _ => False
@[simp ↓] theorem endXK_rt {np : Nat} {o : Opd} : endXK np io PR (.rt o, ρ) = Ok (retF np io o ρ) fun p => PR (.ok p.1 p.2) := rfl
@[simp ↓] theorem endXK_nx {np : Nat} : endXK np io PR (.nx, ρ) = PR (.ok (.val .non) (keepIO io ρ np)) := rfl
@[simp ↓] theorem endXK_ex {np : Nat} : endXK np io PR (.ex C f d, ρ) = PR (.ex C f d (keepIO io ρ np)) := rfl
theorem ok_fnX {np nl : Nat} {args : List SV} : Ok (fnX np nl io s1 args) PR = Ok (s1 (args.map some ++ List.replicate nl none)) (endXK np io PR) := by
  unfold fnX
  rcases s1 (args.map some ++ List.replicate nl none) with _ | ⟨o, ρ'⟩
  · simp
  cases o with
  | rt o =>
    simp only [ok_some', endXK]
    rcases retF np io o ρ' with _ | ⟨o', post⟩ <;> simp
  | _ => simp [endXK]
@[simp] theorem imulG_int {i j : Int} : imulG (.int i) (.int j) = if (-(2 ^ 64) < i ∧ i < 2 ^ 64) ∨ (-(2 ^ 64) < j ∧ j < 2 ^ 64) then some (.val (.int (i * j))) else none := by
  unfold imulG intG; simp
end
end Ev

set_option Elab.async false
set_option linter.all false
set_option maxRecDepth 100000
/-! Ev. XH: == of tuples of instances is run; more on ==. -/
set_option autoImplicit false
namespace Ev
open PySem PySem.Spec PyProof.Rows L2
section
variable {ρ : Rho} {P : Opd × Rho → Prop} {ma mb : EM} {fn : Fn} {C : Addr}
@[simp ↓] theorem ok_eqTM : @OkI _ (eqTM C fn ma mb ρ) ⟨P⟩ = Ok (frz ma ρ) fun p => Ok (frz mb p.2) fun q => Ok (look p.1 q.2) fun d => Ok (look q.1 q.2) fun e => ∃ ds es, d = .tup ds ∧ e = .tup es ∧ eqAll C fn ds es = true ∧ P (.val (.bl true), q.2) := by
  unfold eqTM
  rcases frz ma ρ with _ | ⟨o, ρ1⟩
  · simp
  simp only [ok_some']
  rcases frz mb ρ1 with _ | ⟨ob, ρ2⟩
  · simp
  simp only [ok_some']
  rcases look o ρ2 with _ | d
  · simp
  simp only [ok_some']
  rcases look ob ρ2 with _ | e
  · cases d <;> simp
  simp only [ok_some']
  cases d with
  | tup ds =>
    cases e with
    | tup es =>
      by_cases h : eqAll C fn ds es = true
      · simp [h]
      · simp [h]
    | _ => simp
  | _ => cases e <;> simp
end
end Ev

set_option Elab.async false
set_option linter.all false
set_option maxRecDepth 100000
set_option autoImplicit false
namespace Ev.W
open PySem PySem.Spec PyProof.Rows L2 Ev
variable {κ : String → Nat}
/-! the law's draws -/
structure GD (s : D) : Prop where
  ex : ∃ (cells : List Int) (pos : Nat) (carry seed : Int), s = .lst [.lst (cells.map D.int), .int pos, .int carry, .int seed] ∧ cells.length ≤ 63 ∧ 0 ≤ carry ∧ 0 ≤ seed
theorem inR_small {k : Int} (h0 : 0 ≤ k) (h1 : k < 1152921504606846976) : inR k = true := by
  unfold inR; rw [Bool.and_eq_true, decide_eq_true_iff, decide_eq_true_iff]; omega
@[simp] theorem inR_nat {k : Nat} (h : k ≤ 1000) : inR (k : Int) = true := inR_small (by omega) (by omega)
theorem log_big {k : Int} {e : Nat} (h1 : 1 ≤ k) (h2 : k < 2 ^ e) : k.natAbs.log2 < e := by
  have h : k.natAbs < 2 ^ e := by
    have : (k.natAbs : Int) < ((2 ^ e : Nat) : Int) := by rw [Int.natAbs_of_nonneg (by omega)]; simpa using h2
    exact Int.ofNat_lt.1 this
  exact (Nat.log2_lt (by omega)).2 h
theorem log_small {k : Int} (h1 : 1 ≤ k) (h2 : k < 1606938044258990275541962092341162602522202993782792835301376) : k.natAbs.log2 < 9000 :=
  Nat.lt_trans (log_big (e := 200) h1 (by simpa using h2)) (by decide)
theorem draw_ok {s : D} {k : Int} {P : Opd × Rho → Prop} (h : GD s) (h1 : 1 ≤ k) (h2 : k < 1606938044258990275541962092341162602522202993782792835301376) (w : ∀ r s', 0 ≤ r → r < k → GD s' → P (.val (.int r), [some (.own s'), none])) : Ok (m__law_draw κ [.own s, .val (.int k)]) P := by
  obtain ⟨cells, pos, carry, seed, rfl, hl, hc, hs⟩ := h
  have hk := log_small h1 h2
  have h0 : 0 < k := by omega
  have hm : ∀ x : Int, 0 ≤ x % k ∧ x % k < k := fun x => ⟨Int.emod_nonneg _ (by omega), Int.emod_lt_of_pos _ h0⟩
  have hd : ∀ x : Int, 0 ≤ x → 0 ≤ x / k := fun x h => Int.ediv_nonneg h (by omega)
  have hp6 : (0 : Int) < 2 ^ 6000 := Int.pow_pos (by decide)
  have hpos : ((pos : Int) + 1) = ((pos + 1 : Nat) : Int) := by omega
  rw [m__law_draw, ok_fnM]
  by_cases hlt : pos < cells.length
  · have hc1 : cells[pos]? = some cells[pos] := List.getElem?_eq_getElem hlt
    simp [ixN, hlt, hk, h0]
    generalize cells[pos] = c
    refine ⟨fun _ => w _ _ (hm _).1 (hm _).2 ⟨cells, pos, _, _, rfl, hl, hd _ hc, hs⟩, fun _ => ⟨fun hb => ⟨by decide, hp6, ?_⟩, fun _ => ⟨by decide, ?_⟩⟩⟩
    · exact w _ _ (hm _).1 (hm _).2 ⟨cells, pos + 1, _, _, by rw [hpos], hl, hd _ (Int.emod_nonneg _ (by omega)), hs⟩
    · exact w _ _ (hm _).1 (hm _).2 ⟨cells, pos + 1, _, _, by rw [hpos], hl, hc, Int.emod_nonneg _ (by decide)⟩
  · simp [ixN, hlt, hk, h0]
    refine ⟨fun _ => w _ _ (hm _).1 (hm _).2 ⟨cells, pos, _, _, rfl, hl, hd _ hc, hs⟩, fun _ => ⟨by decide, ?_⟩⟩
    exact w _ _ (hm _).1 (hm _).2 ⟨cells, pos + 1, _, _, by rw [hpos], hl, hc, Int.emod_nonneg _ (by decide)⟩
noncomputable def dR (κ : String → Nat) (s : D) (k : Int) : Int := match m__law_draw κ [.own s, .val (.int k)] with
  | some (.val (.int r), _) => r
  | _ => 0
noncomputable def dS (κ : String → Nat) (s : D) (k : Int) : D := match m__law_draw κ [.own s, .val (.int k)] with
  | some (_, [some (.own s'), none]) => s'
  | _ => s
theorem draw_all {s : D} {k : Int} (h : GD s) (h1 : 1 ≤ k) (h2 : k < 1606938044258990275541962092341162602522202993782792835301376) : m__law_draw κ [.own s, .val (.int k)] = some (.val (.int (dR κ s k)), [some (.own (dS κ s k)), none]) ∧ 0 ≤ dR κ s k ∧ dR κ s k < k ∧ GD (dS κ s k) := by
  obtain ⟨a, e, r, s', h3, h4, h5, h6⟩ := draw_ok (P := fun a => ∃ r s', 0 ≤ r ∧ r < k ∧ GD s' ∧ a = (.val (.int r), [some (.own s'), none])) h h1 h2 fun r s' h3 h4 h5 => ⟨r, s', h3, h4, h5, rfl⟩
  subst h6
  have e1 : dR κ s k = r := by unfold dR; rw [e]
  have e2 : dS κ s k = s' := by unfold dS; rw [e]
  rw [e1, e2]
  exact ⟨e, h3, h4, h5⟩
@[simp] theorem draw_eq {s : D} {k : Int} (h : GD s) (h1 : 1 ≤ k) (h2 : k < 1606938044258990275541962092341162602522202993782792835301376) : m__law_draw κ [.own s, .val (.int k)] = some (.val (.int (dR κ s k)), [some (.own (dS κ s k)), none]) := (draw_all h h1 h2).1
@[simp] theorem dR_lo {s : D} {k : Int} (h : GD s) (h1 : 1 ≤ k) (h2 : k < 1606938044258990275541962092341162602522202993782792835301376) : 0 ≤ dR κ s k := (draw_all h h1 h2).2.1
theorem dR_hi {s : D} {k : Int} (h : GD s) (h1 : 1 ≤ k) (h2 : k < 1606938044258990275541962092341162602522202993782792835301376) : dR κ s k < k := (draw_all h h1 h2).2.2.1
@[simp] theorem dS_gd {s : D} {k : Int} (h : GD s) (h1 : 1 ≤ k) (h2 : k < 1606938044258990275541962092341162602522202993782792835301376) : GD (dS κ s k) := (draw_all h h1 h2).2.2.2
@[simp] theorem inR_dR {s : D} {k : Int} (h : GD s) (h1 : 1 ≤ k) (h2 : k < 1152921504606846976) : inR (dR κ s k) = true := inR_small (dR_lo h h1 (by omega)) (by have := dR_hi (κ := κ) h h1 (by omega); omega)
@[simp] theorem dR_lt {s : D} {k : Int} (h : GD s) (h1 : 1 ≤ k) (h2 : k < 1152921504606846976) : dR κ s k < 1152921504606846976 := by have := dR_hi (κ := κ) h h1 (by omega); omega
theorem begin_ok {ns : List Int} (h : ns.length ≤ 63) {P : Opd × Rho → Prop} (w : ∀ s, GD s → P (.tmp s, [none])) : Ok (m__law_begin κ [.val (.rol (ns.map D.int))]) P := by
  rw [m__law_begin, ok_fnM]
  simp
  have e := compL_pure (t := yesM) (vs := [1]) (gg := nameG 1) (el := esc (biM intFG (consA (varM 1) nilA))) D.int (fun _ => true) D.int ns [] [some (.val (.rol (ns.map D.int))), none] ?_ (by simp; exact sz_le (by omega))
  · rw [e]
    simp
    exact w _ ⟨⟨ns, 0, 0, 7, by rw [List.filter_eq_self.2 (fun _ _ => rfl)]; rfl, h, by omega, by omega⟩⟩
  · intro a ha
    simp
/-! small asks -/
@[simp] theorem isi1 : isiAny "int" ["int"] = some true := by decide +kernel
@[simp] theorem isi2 : isiAny "int" ["bool"] = some false := by decide +kernel
@[simp] theorem isi3 : isiAny "NoneType" ["int"] = some false := by decide +kernel
@[simp] theorem isi4 : isiAny "tuple" ["tuple"] = some true := by decide +kernel
@[simp] theorem isi5 : isiAny "bool" ["int"] = some true := by decide +kernel
@[simp] theorem isi6 : isiAny "bool" ["bool"] = some true := by decide +kernel
@[simp] theorem isi7 : isiAny "str" ["int"] = some false := by decide +kernel
@[simp] theorem isi8 : isiAny "tuple" ["int"] = some false := by decide +kernel
@[simp] theorem isi9 : isiAny "list" ["int"] = some false := by decide +kernel
@[simp] theorem isi10 : isiAny "list" ["tuple"] = some false := by decide +kernel
@[simp] theorem isi11 : isiAny "NoneType" ["tuple"] = some false := by decide +kernel
@[simp] theorem isi12 : isiAny "int" ["tuple"] = some false := by decide +kernel
@[simp] theorem isi13 : isiAny "str" ["tuple"] = some false := by decide +kernel
@[simp] theorem isi14 : isiAny "NoneType" ["bool"] = some false := by decide +kernel
@[simp] theorem leG_int {k l : Int} : leG (.int k) (.int l) = some (.val (.bl (decide (k ≤ l)))) := rfl
@[simp] theorem ltG_int {k l : Int} : ltG (.int k) (.int l) = some (.val (.bl (decide (k < l)))) := rfl
@[simp] theorem gtG_int {k l : Int} : gtG (.int k) (.int l) = some (.val (.bl (decide (l < k)))) := rfl
@[simp] theorem subG_int {k l : Int} : subG (.int k) (.int l) = some (.val (.int (k - l))) := rfl
theorem isw_int {v a b : Int} : m_is_whole κ [.val (.int v), .val (.int a), .val (.int b)] = some (.val (.bl (decide (a ≤ v ∧ v ≤ b))), [none, none, none]) := by
  apply Ok.eq
  rw [m_is_whole, ok_fnM]
  simp [Br]
  by_cases h1 : a ≤ v <;> by_cases h2 : v ≤ b <;> simp [h1, h2] <;> omega
theorem isw_bl {v : Bool} {a b : Int} : m_is_whole κ [.val (.bl v), .val (.int a), .val (.int b)] = some (.val (.bl false), [none, none, none]) := by
  apply Ok.eq
  rw [m_is_whole, ok_fnM]
  simp [Br]
def nint : D → Bool
  | .non => true
  | .str _ => true
  | .tup _ => true
  | .lst _ => true
  | _ => false
theorem isw_no {d : D} {a b : Int} (h : nint d = true) : m_is_whole κ [.val d, .val (.int a), .val (.int b)] = some (.val (.bl false), [none, none, none]) := by
  apply Ok.eq
  rw [m_is_whole, ok_fnM]
  cases d with
  | bl _ => cases h
  | int _ => cases h
  | rol _ => cases h
  | ins _ _ _ => cases h
  | dct _ _ => cases h
  | dtt _ _ => cases h
  | _ => simp [Br]
theorem pick_ok {s : D} {ds : List D} {sv : SV} {P : Opd × Rho → Prop} (g : GD s) (hsv : sv = .val (.tup ds) ∨ sv = .val (.lst ds)) (h1 : 1 ≤ ds.length) (h2 : ds.length ≤ 1000) (w : ∀ (j : Nat) (hj : j < ds.length) s', GD s' → P (.val ds[j], [some (.own s'), none])) : Ok (m__law_pick κ [.own s, sv]) P := by
  have a1 : (1 : Int) ≤ ds.length := by omega
  have a2 : (ds.length : Int) < 1606938044258990275541962092341162602522202993782792835301376 := by omega
  have b1 := dR_lo (κ := κ) g a1 a2
  have b2 := dR_hi (κ := κ) g a1 a2
  have b3 : (dR κ s ds.length).toNat < ds.length := by omega
  rw [m__law_pick, ok_fnM]
  rcases hsv with rfl | rfl
  all_goals
    simp [g, a1, a2]
    rw [ixN_pos b1 b2]
    simp [b3]
    exact w _ b3 _ (dS_gd g a1 a2)
theorem pick_bor {s : D} {ds : List D} {P : Opd × Rho → Prop} (g : GD s) (h1 : 1 ≤ ds.length) (h2 : ds.length ≤ 1000) (w : ∀ (j : Nat) (hj : j < ds.length) s', GD s' → P (.val ds[j], [some (.own s'), none])) : Ok (m__law_pick κ [.own s, .bor (.lst ds)]) P := by
  have a1 : (1 : Int) ≤ ds.length := by omega
  have a2 : (ds.length : Int) < 1606938044258990275541962092341162602522202993782792835301376 := by omega
  have b1 := dR_lo (κ := κ) g a1 a2
  have b2 := dR_hi (κ := κ) g a1 a2
  have b3 : (dR κ s ds.length).toNat < ds.length := by omega
  rw [m__law_pick, ok_fnM]
  simp [g, a1, a2]
  rw [ixN_pos b1 b2]
  simp [b3]
  exact w _ b3 _ (dS_gd g a1 a2)
theorem rare_ok {s : D} {k : Int} {P : Opd × Rho → Prop} (g : GD s) (h1 : 1 ≤ k) (h2 : k < 1000) (w : ∀ b s', GD s' → P (.val (.bl b), [some (.own s'), none])) : Ok (m__law_rare κ [.own s, .val (.int k)]) P := by
  have h3 : k < 1606938044258990275541962092341162602522202993782792835301376 := by omega
  rw [m__law_rare, ok_fnM]
  simp [g, h1, h3]
  refine ⟨by decide +kernel, w _ _ ?_⟩
  simp [g, h1, h3]
theorem cost_ok {s : D} {P : Opd × Rho → Prop} (g : GD s) (w : ∀ r s', 0 ≤ r → r ≤ 1000 → GD s' → P (.val (.int r), [some (.own s')])) : Ok (m__law_cost κ [.own s]) P := by
  rw [m__law_cost, ok_fnM]
  simp
  refine rare_ok g (by omega) (by omega) fun b s1 g1 => ?_
  have a1 := dR_lo (κ := κ) (k := 1001) g1 (by omega) (by omega)
  have a2 := dR_hi (κ := κ) (k := 1001) g1 (by omega) (by omega)
  have b1 := dR_lo (κ := κ) (k := 6) g1 (by omega) (by omega)
  have b2 := dR_hi (κ := κ) (k := 6) g1 (by omega) (by omega)
  simp [g1]
  exact Br.mk (fun _ => w _ _ a1 (by omega) (by simp [g1])) (fun _ => w _ _ b1 (by omega) (by simp [g1]))
/-! lists of numbers -/
def iD (b : Nat) : D := .int b
def natT (l : List Nat) : D := .tup (l.map iD)
def intT (l : List Int) : D := .tup (l.map D.int)
@[simp] theorem it_natT {j : Nat} {l : List Nat} {ρ : Rho} : itI j ρ (.val (natT l)) = some (l.map iD, none, ρ) := rfl
@[simp] theorem it_intT {j : Nat} {l : List Int} {ρ : Rho} : itI j ρ (.val (intT l)) = some (l.map D.int, none, ρ) := rfl
@[simp] theorem len_natT {l : List Nat} : lenX [natT l] = some (.val (.int l.length)) := by simp [natT]
@[simp] theorem len_intT {l : List Int} : lenX [intT l] = some (.val (.int l.length)) := by simp [intT]
@[simp] theorem isi_natT {Ts : List String} {l : List Nat} : isiD Ts (natT l) = isiAny "tuple" Ts := rfl
@[simp] theorem isi_intT {Ts : List String} {l : List Int} : isiD Ts (intT l) = isiAny "tuple" Ts := rfl
@[simp] theorem items_natT {l : List Nat} : itemsD (natT l) = some (l.map iD) := rfl
@[simp] theorem items_intT {l : List Int} : itemsD (intT l) = some (l.map D.int) := rfl
@[simp] theorem at_natT {l : List Nat} {k : D} : atX (natT l) k = atX (.tup (l.map iD)) k := rfl
@[simp] theorem at_intT {l : List Int} {k : D} : atX (intT l) k = atX (.tup (l.map D.int)) k := rfl
@[simp] theorem zip_nt {l : List Nat} {ys : List D} : zip22 [natT l, .tup ys] = some (zipD (l.map iD) ys) := rfl
@[simp] theorem zip_tn {l : List Nat} {ys : List D} : zip22 [.tup ys, natT l] = some (zipD ys (l.map iD)) := rfl
@[simp] theorem zip_nn {l m : List Nat} : zip22 [natT l, natT m] = some (zipD (l.map iD) (m.map iD)) := rfl
@[simp] theorem zip_nl {l : List Nat} {ys : List D} : zip22 [natT l, .lst ys] = some (zipD (l.map iD) ys) := rfl
@[simp] theorem zip_ln {l : List Nat} {ys : List D} : zip22 [.lst ys, natT l] = some (zipD ys (l.map iD)) := rfl
@[simp] theorem zip_li {l : List Int} {ys : List D} : zip22 [.lst ys, intT l] = some (zipD ys (l.map D.int)) := rfl
@[simp] theorem zip_ti {l : List Int} {ys : List D} : zip22 [.tup ys, intT l] = some (zipD ys (l.map D.int)) := rfl
@[simp] theorem seq_natT {l : List Nat} : seqD (natT l) = some (l.map iD) := rfl
@[simp] theorem seq_intT {l : List Int} : seqD (intT l) = some (l.map D.int) := rfl
@[simp] theorem add_nt {l : List Nat} {ys : List D} : addG (natT l) (.tup ys) = addG (.tup (l.map iD)) (.tup ys) := rfl
@[simp] theorem cut_natT {l : List Nat} {a b : Option Int} : cutD (natT l) a b = cutD (.tup (l.map iD)) a b := rfl
@[simp] theorem cut_intT {l : List Int} {a b : Option Int} : cutD (intT l) a b = cutD (.tup (l.map D.int)) a b := rfl
@[simp] theorem listX_intT {l : List Int} : listX [intT l] = some (.tmp (.lst (l.map D.int))) := rfl
theorem map_iD {L : List Nat} {k : Nat} {d : D} (h : (L.map iD)[k]? = some d) : ∃ o, L[k]? = some o ∧ d = iD o := by
  rw [List.getElem?_map] at h
  rcases e : L[k]? with _ | o
  · rw [e] at h; cases h
  · rw [e] at h; cases h; exact ⟨o, rfl, rfl⟩
theorem map_int {L : List Int} {k : Nat} {d : D} (h : (L.map D.int)[k]? = some d) : ∃ o, L[k]? = some o ∧ d = .int o := by
  rw [List.getElem?_map] at h
  rcases e : L[k]? with _ | o
  · rw [e] at h; cases h
  · rw [e] at h; cases h; exact ⟨o, rfl, rfl⟩
theorem map_gen {α : Type} {f : α → D} {L : List α} {k : Nat} {d : D} (h : (L.map f)[k]? = some d) : ∃ o, L[k]? = some o ∧ d = f o := by
  rw [List.getElem?_map] at h
  rcases e : L[k]? with _ | o
  · rw [e] at h; cases h
  · rw [e] at h; cases h; exact ⟨o, rfl, rfl⟩
theorem iD_int (l : List Nat) : l.map iD = (l.map fun n : Nat => (n : Int)).map D.int := by rw [List.map_map]; rfl
theorem rangeD_iD {w : Nat} : rangeD 0 w = (List.range w).map iD := by simp [rangeD, iD]
theorem tvs_bl (l : List Bool) : tvs (l.map D.bl) = some l := by have := tvs_mapb (fun b : Bool => b) l; simpa using this
theorem zipD_map {α β : Type} {f : α → D} {g : β → D} : ∀ {L : List α} {M : List β}, zipD (L.map f) (M.map g) = (L.zip M).map fun p => .tup [f p.1, g p.2]
  | [], _ => by simp [zipD]
  | _ :: _, [] => by simp [zipD]
  | a :: L, b :: M => by
    have := zipD_map (f := f) (g := g) (L := L) (M := M)
    simp [zipD] at this ⊢
    exact this
end Ev.W

set_option Elab.async false
set_option linter.all false
set_option maxRecDepth 100000
set_option autoImplicit false
namespace Ev.W
open PySem PySem.Spec PyProof.Rows L2 Ev
variable {κ : String → Nat}
abbrev OP := Option Int
def loO : OP → OP → OP
  | none, b => b
  | a, none => a
  | some a, some b => if a ≤ b then some a else some b
def hiO : OP → OP → OP
  | b, none => b
  | none, p => p
  | some b, some p => if p > b then some p else some b
def addO : OP → OP → OP
  | some a, some b => some (a + b)
  | _, _ => none
def sumA (x : Int) : List OP → OP
  | [] => some x
  | none :: _ => none
  | some k :: r => sumA (x + k) r
def lo (L : List OP) : OP := L.foldl loO none
def hi (L : List OP) : OP := L.foldl hiO none
def drO : OP → OP → Bool
  | _, none => false
  | none, _ => true
  | some a, some b => decide (b < a)
/-- a row that a loop goes over -/
def Goes (sv : SV) (L : List OP) : Prop := ∀ ρ, itI 0 ρ sv = some (L.map toD, none, ρ)
theorem goes_tup {L : List OP} : Goes (.val (.tup (L.map toD))) L := fun _ => rfl
theorem goes_lst {L : List OP} : Goes (.val (.lst (L.map toD))) L := fun _ => rfl
theorem goes_bor {L : List OP} : Goes (.bor (.lst (L.map toD))) L := fun _ => rfl
theorem map_toD {L : List OP} {k : Nat} {d : D} (h : (L.map toD)[k]? = some d) : ∃ o, L[k]? = some o ∧ d = toD o := by
  rw [List.getElem?_map] at h
  rcases e : L[k]? with _ | o
  · rw [e] at h; cases h
  · rw [e] at h; cases h; exact ⟨o, rfl, rfl⟩
theorem fold_take {f : OP → OP → OP} {L : List OP} {k : Nat} {o z : OP} (h : L[k]? = some o) : (L.take (k + 1)).foldl f z = f ((L.take k).foldl f z) o := by
  rw [List.take_add_one, h]; simp
theorem lower_eq {a b : OP} : m_lower κ [.val (toD a), .val (toD b)] = some (.val (toD (loO a b)), [none, none]) := by
  apply Ok.eq
  rw [m_lower, ok_fnM]
  cases a with
  | none => simp [Br, loO]
  | some a =>
    cases b with
    | none => simp [Br, loO]
    | some b => by_cases h : a ≤ b <;> simp [Br, loO, h] <;> omega
theorem lowest_eq {sv : SV} {L : List OP} (h : Goes sv L) : m_lowest κ [sv] = some (.val (toD (lo L)), [none]) := by
  apply Ok.eq
  rw [m_lowest, ok_fnM]
  simp [h _]
  refine for_nx (fun k ρ => ∃ x, ρ = [some sv, some (.val (toD ((L.take k).foldl loO none))), x]) ⟨none, rfl⟩ ?_ ?_
  · rintro k d ρ e hk ⟨x, rfl⟩
    obtain ⟨o, e2, rfl⟩ := map_toD e
    rw [fold_take e2]
    simp [lower_eq (κ := κ)]
  · rintro ρ ⟨x, rfl⟩
    simp [lo]
theorem low_eq {sv : SV} {L : List OP} (h : Goes sv L) : m__law_low κ [sv] = some (.val (toD (lo L)), [none]) := by
  apply Ok.eq
  rw [m__law_low, ok_fnM]
  simp [h _]
  refine for_nx (fun k ρ => ∃ x, ρ = [some sv, some (.val (toD ((L.take k).foldl loO none))), x]) ⟨none, rfl⟩ ?_ ?_
  · rintro k d ρ e hk ⟨x, rfl⟩
    obtain ⟨o, e2, rfl⟩ := map_toD e
    rw [fold_take e2]
    generalize (L.take k).foldl loO none = b
    cases o with
    | none => cases b <;> simp [Br, loO]
    | some o =>
      cases b with
      | none => simp [Br, loO]
      | some b => by_cases h : b ≤ o <;> simp [Br, loO, h] <;> omega
  · rintro ρ ⟨x, rfl⟩
    simp [lo]
theorem highest_eq {sv : SV} {L : List OP} (h : Goes sv L) : m_highest κ [sv] = some (.val (toD (hi L)), [none]) := by
  apply Ok.eq
  rw [m_highest, ok_fnM]
  simp [h _]
  refine for_nx (fun k ρ => ∃ x, ρ = [some sv, some (.val (toD ((L.take k).foldl hiO none))), x]) ⟨none, rfl⟩ ?_ ?_
  · rintro k d ρ e hk ⟨x, rfl⟩
    obtain ⟨o, e2, rfl⟩ := map_toD e
    rw [fold_take e2]
    generalize (L.take k).foldl hiO none = b
    cases o with
    | none => cases b <;> simp [Br, hiO]
    | some o =>
      cases b with
      | none => simp [Br, hiO]
      | some b => by_cases h : b < o <;> simp [Br, hiO, h] <;> omega
  · rintro ρ ⟨x, rfl⟩
    simp [hi]
theorem sumA_take : ∀ {L : List OP} {k : Nat} {x y : Int} {o : OP}, sumA x (L.take k) = some y → L[k]? = some o → sumA x (L.take (k + 1)) = addO (some y) o
  | [], k, x, y, o, _, h => by simp at h
  | a :: L, 0, x, y, o, h1, h2 => by
    simp [sumA] at h1 h2 ⊢
    subst h1 h2
    cases a <;> simp [sumA, addO]
  | a :: L, k + 1, x, y, o, h1, h2 => by
    rw [List.take_succ_cons] at h1 ⊢
    rw [List.getElem?_cons_succ] at h2
    cases a with
    | none => cases h1
    | some a => exact sumA_take (L := L) h1 h2
theorem sumA_none : ∀ {L : List OP} {k : Nat} {x : Int}, L[k]? = some none → sumA x L = none
  | [], k, x, h => by simp at h
  | a :: L, 0, x, h => by simp at h; subst h; rfl
  | a :: L, k + 1, x, h => by
    rw [List.getElem?_cons_succ] at h
    cases a with
    | none => rfl
    | some a => exact sumA_none (L := L) h
theorem sum_two {a b : OP} : sumA 0 [a, b] = addO a b := by cases a <;> cases b <;> simp [sumA, addO]
theorem mulOk_big {k l : Int} (h0 : 0 ≤ k) (h1 : k < 2 ^ 400) (h2 : 0 ≤ l) (h3 : l < 2 ^ 400) : mulOk k l = true := by
  unfold mulOk
  rw [Bool.or_eq_true]
  refine .inr (decide_eq_true ?_)
  have a : k.natAbs.log2 < 400 := by
    by_cases e : k = 0
    · subst e; decide
    · exact log_big (e := 400) (by omega) h1
  have b : l.natAbs.log2 < 400 := by
    by_cases e : l = 0
    · subst e; decide
    · exact log_big (e := 400) (by omega) h3
  omega
theorem lo_two {a b : OP} : lo [a, b] = loO a b := by cases a <;> cases b <;> simp [lo, loO]
/-- leasts and mosts stand among the prices -/
theorem lo_mem : ∀ {L : List OP} {z : OP}, L.foldl loO z = z ∨ L.foldl loO z ∈ L
  | [], z => .inl rfl
  | a :: L, z => by
    rw [List.foldl_cons]
    rcases lo_mem (L := L) (z := loO z a) with h | h
    · rw [h]
      cases z with
      | none => exact .inr (by cases a <;> simp [loO])
      | some z =>
        cases a with
        | none => exact .inl rfl
        | some a =>
          by_cases e : z ≤ a
          · exact .inl (by simp [loO, e])
          · exact .inr (by simp [loO, e])
    · exact .inr (List.mem_cons_of_mem _ h)
theorem hi_mem : ∀ {L : List OP} {z : OP}, L.foldl hiO z = z ∨ L.foldl hiO z ∈ L
  | [], z => .inl rfl
  | a :: L, z => by
    rw [List.foldl_cons]
    rcases hi_mem (L := L) (z := hiO z a) with h | h
    · rw [h]
      cases a with
      | none => exact .inl rfl
      | some a =>
        cases z with
        | none => exact .inr (by simp [hiO])
        | some z =>
          by_cases e : a > z
          · exact .inr (by simp [hiO, e])
          · exact .inl (by simp [hiO, e])
    · exact .inr (List.mem_cons_of_mem _ h)
theorem lo_some {L : List OP} {m : Int} (h : lo L = some m) : some m ∈ L := by
  rcases lo_mem (L := L) (z := none) with e | e
  · have : lo L = none := e
    rw [h] at this; cases this
  · have e : lo L ∈ L := e
    rw [h] at e; exact e
theorem hi_some {L : List OP} {m : Int} (h : hi L = some m) : some m ∈ L := by
  rcases hi_mem (L := L) (z := none) with e | e
  · have : hi L = none := e
    rw [h] at this; cases this
  · have e : hi L ∈ L := e
    rw [h] at e; exact e
theorem lo_le : ∀ {L : List OP} {z : OP}, (∀ k, z = some k → ∃ m, L.foldl loO z = some m ∧ m ≤ k) ∧ ∀ k, some k ∈ L → ∃ m, L.foldl loO z = some m ∧ m ≤ k
  | [], z => ⟨fun k h => ⟨k, h, by omega⟩, fun k h => by simp at h⟩
  | a :: L, z => by
    rw [List.foldl_cons]
    obtain ⟨h1, h2⟩ := lo_le (L := L) (z := loO z a)
    have mid : ∀ k, z = some k ∨ a = some k → ∃ m, L.foldl loO (loO z a) = some m ∧ m ≤ k := fun k h => by
      obtain ⟨j, hj, hk⟩ : ∃ j, loO z a = some j ∧ j ≤ k := by
        rcases h with rfl | rfl
        · cases a with
          | none => exact ⟨k, rfl, by omega⟩
          | some a => by_cases e : k ≤ a <;> simp [loO, e] <;> omega
        · cases z with
          | none => exact ⟨k, rfl, by omega⟩
          | some z => by_cases e : z ≤ k <;> simp [loO, e] <;> omega
      obtain ⟨m, e1, e2⟩ := h1 j hj
      exact ⟨m, e1, by omega⟩
    refine ⟨fun k h => mid k (.inl h), fun k h => ?_⟩
    rcases List.mem_cons.1 h with h | h
    · exact mid k (.inr h.symm)
    · exact h2 k h
theorem lo_none {L : List OP} (h : lo L = none) : ∀ p ∈ L, p = none := fun p hp => by
  cases p with
  | none => rfl
  | some k =>
    obtain ⟨m, e, _⟩ := (lo_le (L := L) (z := none)).2 k hp
    have : lo L = some m := e
    rw [h] at this; cases this
theorem lo_min {L : List OP} {m k : Int} (h : lo L = some m) (hk : some k ∈ L) : m ≤ k := by
  obtain ⟨m', e, h2⟩ := (lo_le (L := L) (z := none)).2 k hk
  have : lo L = some m' := e
  rw [h] at this; cases this; exact h2
theorem hi_le : ∀ {L : List OP} {z : OP}, (∀ k, z = some k → ∃ m, L.foldl hiO z = some m ∧ k ≤ m) ∧ ∀ k, some k ∈ L → ∃ m, L.foldl hiO z = some m ∧ k ≤ m
  | [], z => ⟨fun k h => ⟨k, h, by omega⟩, fun k h => by simp at h⟩
  | a :: L, z => by
    rw [List.foldl_cons]
    obtain ⟨h1, h2⟩ := hi_le (L := L) (z := hiO z a)
    have mid : ∀ k, z = some k ∨ a = some k → ∃ m, L.foldl hiO (hiO z a) = some m ∧ k ≤ m := fun k h => by
      obtain ⟨j, hj, hk⟩ : ∃ j, hiO z a = some j ∧ k ≤ j := by
        rcases h with rfl | rfl
        · cases a with
          | none => exact ⟨k, rfl, by omega⟩
          | some a => by_cases e : k < a <;> simp [hiO, e] <;> omega
        · cases z with
          | none => exact ⟨k, rfl, by omega⟩
          | some z => by_cases e : z < k <;> simp [hiO, e] <;> omega
      obtain ⟨m, e1, e2⟩ := h1 j hj
      exact ⟨m, e1, by omega⟩
    refine ⟨fun k h => mid k (.inl h), fun k h => ?_⟩
    rcases List.mem_cons.1 h with h | h
    · exact mid k (.inr h.symm)
    · exact h2 k h
theorem hi_max {L : List OP} {m k : Int} (h : hi L = some m) (hk : some k ∈ L) : k ≤ m := by
  obtain ⟨m', e, h2⟩ := (hi_le (L := L) (z := none)).2 k hk
  have : hi L = some m' := e
  rw [h] at this; cases this; exact h2
theorem hi_none {L : List OP} (h : hi L = none) : ∀ p ∈ L, p = none := fun p hp => by
  cases p with
  | none => rfl
  | some k =>
    obtain ⟨m, e, _⟩ := (hi_le (L := L) (z := none)).2 k hp
    have : hi L = some m := e
    rw [h] at this; cases this
end Ev.W

set_option Elab.async false
set_option linter.all false
set_option maxRecDepth 100000
set_option autoImplicit false
namespace Ev.W
open PySem PySem.Spec PyProof.Rows L2 Ev
variable {κ : String → Nat}
/-! rows -/
theorem nband (a b : Nat) : Builtin.bitAnd (a : Int) (b : Int) = ((a &&& b : Nat) : Int) := by unfold Builtin.bitAnd; simp
theorem band1 (a k : Nat) : Builtin.bitAnd ((a : Int) / 2 ^ k) 1 = ((a / 2 ^ k % 2 : Nat) : Int) := by
  rw [show (a : Int) / 2 ^ k = ((a / 2 ^ k : Nat) : Int) by simp, show (1 : Int) = ((1 : Nat) : Int) from rfl, nband, Nat.and_one_is_mod]
def bs (n x : Nat) : List Nat := (List.range n).map fun p => x / 2 ^ (n - 1 - p) % 2
@[simp] theorem bs_len {n x : Nat} : (bs n x).length = n := by simp [bs]
theorem bs_le {n x b : Nat} (h : b ∈ bs n x) : b ≤ 1 := by
  unfold bs at h
  rw [List.mem_map] at h
  obtain ⟨p, _, rfl⟩ := h
  omega
def num (l : List Nat) : Nat := l.foldl (fun a v => a * 2 + v) 0
theorem num_bs : ∀ n < 5, ∀ x < 16, x < 2 ^ n → num (bs n x) = x := by decide
theorem num_sw : ∀ n < 5, ∀ x < 16, x < 2 ^ n → num ((bs n x).map fun v => 1 - v) = 2 ^ n - 1 - x := by decide
theorem sh_eq {n p : Nat} (h : p < n) : (n : Int) - 1 - p = ((n - 1 - p : Nat) : Int) := by omega
theorem row_of_eq {n x : Nat} (hn : n ≤ 1000) : m_row_of κ [.val (.int x), .val (.int n)] = some (.val (.tup ((bs n x).map iD)), [none, none]) := by
  apply Ok.eq
  rw [m_row_of, ok_fnM]
  simp [hn]
  have e : rangeD 0 n = (List.range n).map iD := by simp [rangeD, iD]
  rw [e]
  refine ok_comps (l := List.range n) (acc := []) (φ := iD) (fun p => iD (x / 2 ^ (n - 1 - p) % 2)) (fun p hp => ?_) (by simp [hn]) ?_
  · rw [List.mem_range] at hp
    simp [iD, sh_eq hp, band1]
  · simp [bs, iD]
theorem law_row_eq {n x : Nat} (hn : n ≤ 1000) : m__law_row κ [.val (.int x), .val (.int n)] = some (.val (.tup ((bs n x).map iD)), [none, none]) := row_of_eq (κ := κ) hn
theorem pow_facts {n : Nat} (h2 : n ≤ 4) : ∃ N : Nat, 2 ^ n = N ∧ (2 : Int) ^ n = (N : Int) ∧ 1 ≤ N ∧ N ≤ 16 := by
  have : n = 0 ∨ n = 1 ∨ n = 2 ∨ n = 3 ∨ n = 4 := by omega
  rcases this with rfl | rfl | rfl | rfl | rfl <;> exact ⟨_, rfl, by decide, by decide, by decide⟩
theorem rows_eq {n : Nat} (hn : n ≤ 4) : m__law_rows κ [.val (.int n)] = some (.tmp (.lst ((List.range (2 ^ n)).map fun x => .tup ((bs n x).map iD))), [none]) := by
  obtain ⟨N, hN, hZ, a1, a2⟩ := pow_facts hn
  apply Ok.eq
  rw [m__law_rows, ok_fnM]
  have z : N ≤ 1000 := by omega
  have n6 : (n : Int) ≤ 1000000 := by omega
  simp [hZ, z, hN, n6]
  have e : rangeD 0 N = (List.range N).map iD := by simp [rangeD, iD]
  rw [e]
  refine ok_comps (l := List.range N) (acc := []) (φ := iD) (fun x => .tup ((bs n x).map iD)) (fun x hx => ?_) (by simp [z]) ?_
  · simp [iD, law_row_eq (κ := κ) (show n ≤ 1000 by omega)]
  · simp [hN]
theorem num_take {l : List Nat} {k v : Nat} (h : l[k]? = some v) : num (l.take (k + 1)) = num (l.take k) * 2 + v := by
  unfold num; rw [List.take_add_one, h]; simp
/-! tables -/
@[irreducible] def TB (κ : String → Nat) (n : Nat) (L : List OP) : D := .ins (κ "Table") ["places", "prices", "least", "most"] [.int n, .tup (L.map toD), toD (lo L), toD (hi L)]
structure TO (n : Nat) (L : List OP) : Prop where
  n4 : n ≤ 4
  len : L.length = 2 ^ n
  pr : ∀ k, some k ∈ L → 0 ≤ k ∧ k ≤ 100000000000000000000000000000000000000000000000000
@[simp] theorem f_places {n : Nat} {L : List OP} : fldD [κ "Table"] "places" (TB κ n L) = some (.int n) := by unfold TB; rw [fldD_ins, if_pos (by simp)]; rfl
@[simp] theorem f_prices {n : Nat} {L : List OP} : fldD [κ "Table"] "prices" (TB κ n L) = some (.tup (L.map toD)) := by unfold TB; rw [fldD_ins, if_pos (by simp)]; rfl
@[simp] theorem f_least {n : Nat} {L : List OP} : fldD [κ "Table"] "least" (TB κ n L) = some (toD (lo L)) := by unfold TB; rw [fldD_ins, if_pos (by simp)]; rfl
@[simp] theorem f_most {n : Nat} {L : List OP} : fldD [κ "Table"] "most" (TB κ n L) = some (toD (hi L)) := by unfold TB; rw [fldD_ins, if_pos (by simp)]; rfl
@[simp] theorem tb_ins {n : Nat} {L : List OP} : isInsC (κ "Table") (TB κ n L) = true := by simp [TB]
@[simp] theorem tb_is {n : Nat} {L : List OP} : isCD (κ "Table") (TB κ n L) = some true := by simp [TB]
@[simp] theorem tb_m1 {n : Nat} {L : List OP} : insD (κ "Table") "open_numbers" (TB κ n L) = true := by unfold TB; rw [insD_ins, decide_eq_true rfl]; rfl
@[simp] theorem tb_m2 {n : Nat} {L : List OP} : insD (κ "Table") "open_rows" (TB κ n L) = true := by unfold TB; rw [insD_ins, decide_eq_true rfl]; rfl
theorem TO.small {n : Nat} {L : List OP} (h : TO n L) : L.length ≤ 16 := by
  obtain ⟨N, hN, _, _, a2⟩ := pow_facts h.n4
  rw [h.len, hN]; exact a2
theorem shl1 {n : Nat} (hn : n ≤ 4) : shlG (.int 1) (.int n) = some (.val (.int ((2 ^ n : Nat) : Int))) := by
  have : n = 0 ∨ n = 1 ∨ n = 2 ∨ n = 3 ∨ n = 4 := by omega
  rcases this with rfl | rfl | rfl | rfl | rfl <;> rfl
theorem init_eq {n : Nat} {L : List OP} (h : TO n L) : m_Table____init__ κ [.own (.ins (κ "Table") [] []), .val (.int n), .val (.tup (L.map toD))] = some (.val .non, [some (.own (TB κ n L)), none, none]) := by
  have h16 := h.small
  have n4 := h.n4
  have n4' : (n : Int) ≤ 4 := by omega
  apply Ok.eq
  rw [m_Table____init__, ok_fnM]
  simp [isw_int (κ := κ), n4', shl1 n4, h.len, Br]
  refine for_nx (fun k ρ => ∃ x, ρ = [some (.own (.ins (κ "Table") [] [])), some (.val (.int n)), some (.val (.tup (L.map toD))), x]) ⟨none, rfl⟩ ?_ ?_
  · rintro k d ρ e hk ⟨x, rfl⟩
    obtain ⟨o, e2, rfl⟩ := map_toD e
    cases o with
    | none => simp [Br]
    | some o =>
      have := h.pr o (List.mem_of_getElem? e2)
      simp [Br, isw_int (κ := κ)]
      omega
  · rintro ρ ⟨x, rfl⟩
    simp [lowest_eq (κ := κ) goes_tup, highest_eq (κ := κ) goes_tup]
    exact ⟨by decide +kernel, by decide +kernel, by decide +kernel, by unfold TB; rfl⟩
end Ev.W

set_option Elab.async false
set_option linter.all false
set_option maxRecDepth 100000
set_option autoImplicit false
namespace Ev.W
open PySem PySem.Spec PyProof.Rows L2 Ev
/-! shapes, without a program -/
def atL (L : List OP) (x : Nat) : OP := L.getD x none
theorem atL_get {L : List OP} {x : Nat} (h : x < L.length) : L[x] = atL L x := by unfold atL; simp [List.getD_eq_getElem?_getD, h]
def bitN (n p x : Nat) : Nat := (bs n x).getD p 0
theorem bitN_get {n p x : Nat} (h : p < n) : (bs n x)[p]'(by simp [h]) = bitN n p x := by unfold bitN; simp [List.getD_eq_getElem?_getD, h]
def spotL (n m : Nat) : List Nat := (List.range n).filter fun s => decide (m / 2 ^ s % 2 = 1)
def hiB (n : Nat) : Option (List Nat) → Nat → Bool
  | none, _ => false
  | some l, x => l.all fun s => decide (bitN n s x = 1)
def loB (n : Nat) : Option (List Nat) → Nat → Bool
  | none, _ => false
  | some l, x => l.all fun s => decide (bitN n s x = 0)
def spots (n : Nat) : List (Option (List Nat)) := none :: (List.range (2 ^ n)).map fun m => some (spotL n m)
def shR (n : Nat) (o z : Option (List Nat)) : List Nat := (List.range (2 ^ n)).filter fun x => hiB n o x || loB n z x
theorem hi_ex : ∀ n < 5, ∀ A < 2 ^ n, ∃ m, m < 2 ^ n ∧ ∀ x < 2 ^ n, hiB n (some (spotL n m)) x = decide (A &&& x = A) := by decide +kernel
theorem lo_ex : ∀ n < 5, ∀ A < 2 ^ n, ∃ m, m < 2 ^ n ∧ ∀ x < 2 ^ n, loB n (some (spotL n m)) x = decide (x &&& A = x) := by decide +kernel
theorem hi_any : ∀ n < 5, ∀ m < 2 ^ n, ∃ A, A < 2 ^ n ∧ ∀ x < 2 ^ n, hiB n (some (spotL n m)) x = decide (A &&& x = A) := by decide +kernel
theorem lo_any : ∀ n < 5, ∀ m < 2 ^ n, ∃ A, A < 2 ^ n ∧ ∀ x < 2 ^ n, loB n (some (spotL n m)) x = decide (x &&& A = x) := by decide +kernel

theorem least_ex {p : Nat → Prop} : ∀ N : Nat, (∃ a, a < N ∧ p a) → ∃ a, a < N ∧ p a ∧ ∀ b < N, p b → a ≤ b
  | 0, ⟨a, h, _⟩ => by omega
  | N + 1, h => by
    by_cases e : ∃ a, a < N ∧ p a
    · obtain ⟨a, h1, h2, h3⟩ := least_ex N e
      refine ⟨a, by omega, h2, fun b hb hp => ?_⟩
      by_cases q : b < N
      · exact h3 b q hp
      · omega
    · obtain ⟨a, h1, h2⟩ := h
      have : a = N := by
        rcases Nat.lt_or_ge a N with q | q
        · exact absurd ⟨a, q, h2⟩ e
        · omega
      subst this
      exact ⟨a, by omega, h2, fun b hb hp => by
        rcases Nat.lt_or_ge b a with q | q
        · exact absurd ⟨b, q, hp⟩ e
        · exact q⟩
theorem most_ex {p : Nat → Prop} : ∀ N : Nat, (∃ a, a < N ∧ p a) → ∃ a, a < N ∧ p a ∧ ∀ b < N, p b → b ≤ a
  | 0, ⟨a, h, _⟩ => by omega
  | N + 1, h => by
    by_cases e : p N
    · exact ⟨N, by omega, e, fun b hb _ => by omega⟩
    · obtain ⟨a, h1, h2⟩ := h
      have q : ∃ a, a < N ∧ p a := ⟨a, by
        rcases Nat.lt_or_ge a N with q | q
        · exact q
        · have : a = N := by omega
          subst this
          exact absurd h2 e, h2⟩
      obtain ⟨a, h1, h2, h3⟩ := most_ex N q
      refine ⟨a, by omega, h2, fun b hb hp => ?_⟩
      rcases Nat.lt_or_ge b N with q | q
      · exact h3 b q hp
      · have : b = N := by omega
        subst this
        exact absurd hp e
theorem sub_bit {a x : Nat} (h : a &&& x = a) (i : Nat) : a.testBit i = true → x.testBit i = true := fun ha => by
  have e : (a &&& x).testBit i = true := by rw [h]; exact ha
  rw [Nat.testBit_and, ha] at e
  simpa using e
theorem sub_of {a x : Nat} (h : ∀ i, a.testBit i = true → x.testBit i = true) : a &&& x = a := by
  apply Nat.eq_of_testBit_eq
  intro i
  rw [Nat.testBit_and]
  have := h i
  cases ha : a.testBit i
  · rfl
  · rw [this ha]; rfl
theorem sub_or {a s t : Nat} (h : a &&& s = a) : a &&& (s ||| t) = a := sub_of fun i hi => by rw [Nat.testBit_or, sub_bit h i hi]; rfl
theorem sub_or' {a s t : Nat} (h : a &&& t = a) : a &&& (s ||| t) = a := by rw [Nat.or_comm]; exact sub_or h
theorem sub_and {a s t : Nat} (h : a &&& s = a) (h2 : a &&& t = a) : a &&& (s &&& t) = a := sub_of fun i hi => by rw [Nat.testBit_and, sub_bit h i hi, sub_bit h2 i hi]; rfl
theorem and_sub {a s t : Nat} (h : s &&& a = s) : (s &&& t) &&& a = s &&& t := sub_of fun i hi => by
  rw [Nat.testBit_and, Bool.and_eq_true] at hi
  exact sub_bit h i hi.1
theorem and_sub' {a s t : Nat} (h : t &&& a = t) : (s &&& t) &&& a = s &&& t := by rw [Nat.and_comm s t]; exact and_sub h
theorem or_sub {a s t : Nat} (h : s &&& a = s) (h2 : t &&& a = t) : (s ||| t) &&& a = s ||| t := sub_of fun i hi => by
  rw [Nat.testBit_or, Bool.or_eq_true] at hi
  rcases hi with hi | hi
  · exact sub_bit h i hi
  · exact sub_bit h2 i hi
/-- the cut law of the softened rule -/
def cutU (N : Nat) (U : Nat → Bool) : Prop := ∀ s < N, ∀ t < N, U s = true → (U t = true → U (s &&& t) = true ∧ U (s ||| t) = true) ∧ (U t = false → U (s &&& t) = true ∨ U (s ||| t) = true)
theorem and_lt {N s t : Nat} (h : s < N) : s &&& t < N := Nat.lt_of_le_of_lt Nat.and_le_left h
theorem spots_cases {n : Nat} {o : Option (List Nat)} (h : o ∈ spots n) : o = none ∨ ∃ m, m < 2 ^ n ∧ o = some (spotL n m) := by
  unfold spots at h
  rcases List.mem_cons.1 h with rfl | h
  · exact .inl rfl
  · obtain ⟨m, hm, rfl⟩ := List.mem_map.1 h
    exact .inr ⟨m, List.mem_range.1 hm, rfl⟩
theorem spots_in {n m : Nat} (h : m < 2 ^ n) : some (spotL n m) ∈ spots n := List.mem_cons_of_mem _ (List.mem_map.2 ⟨m, List.mem_range.2 h, rfl⟩)
theorem hi_form {n : Nat} (hn : n < 5) {o : Option (List Nat)} (h : o ∈ spots n) : (∀ x < 2 ^ n, hiB n o x = false) ∨ ∃ A, A < 2 ^ n ∧ ∀ x < 2 ^ n, hiB n o x = decide (A &&& x = A) := by
  rcases spots_cases h with rfl | ⟨m, hm, rfl⟩
  · exact .inl fun x _ => rfl
  · exact .inr (hi_any n hn m hm)
theorem lo_form {n : Nat} (hn : n < 5) {o : Option (List Nat)} (h : o ∈ spots n) : (∀ x < 2 ^ n, loB n o x = false) ∨ ∃ A, A < 2 ^ n ∧ ∀ x < 2 ^ n, loB n o x = decide (x &&& A = x) := by
  rcases spots_cases h with rfl | ⟨m, hm, rfl⟩
  · exact .inl fun x _ => rfl
  · exact .inr (lo_any n hn m hm)
theorem shape_cut {n : Nat} (hn : n < 5) {U : Nat → Bool} {o z : Option (List Nat)} (ho : o ∈ spots n) (hz : z ∈ spots n) (h : ∀ x < 2 ^ n, (hiB n o x || loB n z x) = U x) : cutU (2 ^ n) U := by
  have h1 : (∀ s < 2 ^ n, ∀ t < 2 ^ n, hiB n o s = true → hiB n o (s ||| t) = true ∧ (hiB n o t = true → hiB n o (s &&& t) = true)) := by
    rcases hi_form hn ho with e | ⟨A, hA, e⟩
    · intro s hs t ht q; rw [e s hs] at q; cases q
    · intro s hs t ht q
      have ls : s ||| t < 2 ^ n := Nat.or_lt_two_pow hs ht
      rw [e s hs, decide_eq_true_eq] at q
      rw [e _ ls, e _ (and_lt hs), e t ht, decide_eq_true_eq, decide_eq_true_eq, decide_eq_true_eq]
      exact ⟨sub_or q, fun q2 => sub_and q q2⟩
  have h2 : (∀ s < 2 ^ n, ∀ t < 2 ^ n, loB n z s = true → loB n z (s &&& t) = true ∧ (loB n z t = true → loB n z (s ||| t) = true)) := by
    rcases lo_form hn hz with e | ⟨A, hA, e⟩
    · intro s hs t ht q; rw [e s hs] at q; cases q
    · intro s hs t ht q
      have ls : s ||| t < 2 ^ n := Nat.or_lt_two_pow hs ht
      rw [e s hs, decide_eq_true_eq] at q
      rw [e _ ls, e _ (and_lt hs), e t ht, decide_eq_true_eq, decide_eq_true_eq, decide_eq_true_eq]
      exact ⟨and_sub q, fun q2 => or_sub q q2⟩
  intro s hs t ht hU
  have ls : s ||| t < 2 ^ n := Nat.or_lt_two_pow hs ht
  have la : s &&& t < 2 ^ n := and_lt hs
  rw [← h s hs, Bool.or_eq_true] at hU
  rw [← h _ la, ← h _ ls, ← h t ht]
  simp only [Bool.or_eq_true]
  refine ⟨fun q => ?_, fun _ => ?_⟩
  · rcases hU with hU | hU
    · rcases q with q | q
      · exact ⟨.inl ((h1 s hs t ht hU).2 q), .inl (h1 s hs t ht hU).1⟩
      · have := (h2 t ht s hs q).1
        rw [Nat.and_comm] at this
        exact ⟨.inr this, .inl (h1 s hs t ht hU).1⟩
    · rcases q with q | q
      · have := (h1 t ht s hs q).1
        rw [Nat.or_comm] at this
        exact ⟨.inr (h2 s hs t ht hU).1, .inl this⟩
      · exact ⟨.inr (h2 s hs t ht hU).1, .inr ((h2 s hs t ht hU).2 q)⟩
  · rcases hU with hU | hU
    · exact .inr (.inl (h1 s hs t ht hU).1)
    · exact .inl (.inr (h2 s hs t ht hU).1)
theorem bit_mix {a x y : Nat} (h1 : a &&& x = a) (h2 : y &&& a = y) : ∃ z, a &&& z = y ∧ a ||| z = x ∧ ∀ N k : Nat, N = 2 ^ k → x < N → z < N := by
  refine ⟨y ||| (x ^^^ a), ?_, ?_, fun N k hN hx => ?_⟩
  · apply Nat.eq_of_testBit_eq
    intro i
    have e1 := sub_bit h1 i
    have e2 := sub_bit h2 i
    rw [Nat.testBit_and, Nat.testBit_or, Nat.testBit_xor]
    revert e1 e2
    cases a.testBit i <;> cases x.testBit i <;> cases y.testBit i <;> simp
  · apply Nat.eq_of_testBit_eq
    intro i
    have e1 := sub_bit h1 i
    have e2 := sub_bit h2 i
    rw [Nat.testBit_or, Nat.testBit_or, Nat.testBit_xor]
    revert e1 e2
    cases a.testBit i <;> cases x.testBit i <;> cases y.testBit i <;> simp
  · subst hN
    have ha : a < 2 ^ k := by rw [← h1]; exact Nat.lt_of_le_of_lt Nat.and_le_right hx
    have hy : y < 2 ^ k := by rw [← h2]; exact Nat.lt_of_le_of_lt Nat.and_le_right ha
    exact Nat.or_lt_two_pow hy (Nat.xor_lt_two_pow hx ha)
theorem cut_shape {n : Nat} (hn : n < 5) {U : Nat → Bool} (hc : cutU (2 ^ n) U) : ∃ o ∈ spots n, ∃ z ∈ spots n, ∀ x < 2 ^ n, (hiB n o x || loB n z x) = U x := by
  let P : Nat → Prop := fun a => U a = true ∧ ∀ x < 2 ^ n, a &&& x = a → U x = true
  let Q : Nat → Prop := fun a => U a = true ∧ ∀ x < 2 ^ n, x &&& a = x → U x = true
  have hPQ : ∀ a < 2 ^ n, U a = true → P a ∨ Q a := fun a ha hU => by
    refine Classical.byContradiction fun hno => ?_
    have np : ∃ x, x < 2 ^ n ∧ a &&& x = a ∧ U x = false := by
      refine Classical.byContradiction fun q => hno (.inl ⟨hU, fun x hx e => ?_⟩)
      cases hux : U x
      · exact absurd ⟨x, hx, e, hux⟩ q
      · rfl
    have nq : ∃ x, x < 2 ^ n ∧ x &&& a = x ∧ U x = false := by
      refine Classical.byContradiction fun q => hno (.inr ⟨hU, fun x hx e => ?_⟩)
      cases hux : U x
      · exact absurd ⟨x, hx, e, hux⟩ q
      · rfl
    obtain ⟨x, hx, ex, ux⟩ := np
    obtain ⟨y, hy, ey, uy⟩ := nq
    obtain ⟨w, w1, w2, w3⟩ := bit_mix ex ey
    have hw := w3 _ n rfl hx
    have := hc a ha w hw hU
    rw [w1, w2, ux, uy] at this
    cases huw : U w
    · have := this.2 huw; simp at this
    · have := this.1 huw; simp at this
  have hP : ∀ a < 2 ^ n, ∀ b < 2 ^ n, P a → P b → P (a &&& b) := fun a ha b hb pa pb => by
    refine ⟨((hc a ha b hb pa.1).1 pb.1).1, fun x hx e => ?_⟩
    have h1 : U (x ||| a) = true := pa.2 _ (Nat.or_lt_two_pow hx ha) (sub_of fun i hi => by rw [Nat.testBit_or, hi]; simp)
    have h2 : U (x ||| b) = true := pb.2 _ (Nat.or_lt_two_pow hx hb) (sub_of fun i hi => by rw [Nat.testBit_or, hi]; simp)
    have h3 := ((hc _ (Nat.or_lt_two_pow hx ha) _ (Nat.or_lt_two_pow hx hb) h1).1 h2).1
    have e2 : (x ||| a) &&& (x ||| b) = x := by
      apply Nat.eq_of_testBit_eq
      intro i
      have e1 := sub_bit e i
      rw [Nat.testBit_and] at e1
      rw [Nat.testBit_and, Nat.testBit_or, Nat.testBit_or]
      revert e1
      cases a.testBit i <;> cases b.testBit i <;> cases x.testBit i <;> simp
    rw [e2] at h3; exact h3
  have hQ : ∀ a < 2 ^ n, ∀ b < 2 ^ n, Q a → Q b → Q (a ||| b) := fun a ha b hb pa pb => by
    refine ⟨((hc a ha b hb pa.1).1 pb.1).2, fun x hx e => ?_⟩
    have h1 : U (x &&& a) = true := pa.2 _ (and_lt hx) (sub_of fun i hi => by rw [Nat.testBit_and, Bool.and_eq_true] at hi; exact hi.2)
    have h2 : U (x &&& b) = true := pb.2 _ (and_lt hx) (sub_of fun i hi => by rw [Nat.testBit_and, Bool.and_eq_true] at hi; exact hi.2)
    have h3 := ((hc _ (and_lt hx) _ (and_lt hx) h1).1 h2).2
    have e2 : (x &&& a) ||| (x &&& b) = x := by
      apply Nat.eq_of_testBit_eq
      intro i
      have e1 := sub_bit e i
      rw [Nat.testBit_or] at e1
      rw [Nat.testBit_or, Nat.testBit_and, Nat.testBit_and]
      revert e1
      cases a.testBit i <;> cases b.testBit i <;> cases x.testBit i <;> simp
    rw [e2] at h3; exact h3
  have hO : ∃ o ∈ spots n, (∀ x < 2 ^ n, P x → hiB n o x = true) ∧ ∀ x < 2 ^ n, hiB n o x = true → U x = true := by
    by_cases e : ∃ a, a < 2 ^ n ∧ P a
    · obtain ⟨A, hA, pA, mA⟩ := least_ex _ e
      obtain ⟨m, hm, em⟩ := hi_ex n hn A hA
      refine ⟨_, spots_in hm, fun x hx px => ?_, fun x hx hh => ?_⟩
      · rw [em x hx, decide_eq_true_eq]
        have h1 := mA _ (and_lt hA) (hP A hA x hx pA px)
        have h2 : A &&& x ≤ A := Nat.and_le_left
        omega
      · rw [em x hx, decide_eq_true_eq] at hh
        exact pA.2 x hx hh
    · exact ⟨none, List.mem_cons_self .., fun x hx px => absurd ⟨x, hx, px⟩ e, fun x hx hh => nomatch hh⟩
  have hZ : ∃ o ∈ spots n, (∀ x < 2 ^ n, Q x → loB n o x = true) ∧ ∀ x < 2 ^ n, loB n o x = true → U x = true := by
    by_cases e : ∃ a, a < 2 ^ n ∧ Q a
    · obtain ⟨A, hA, pA, mA⟩ := most_ex _ e
      obtain ⟨m, hm, em⟩ := lo_ex n hn A hA
      refine ⟨_, spots_in hm, fun x hx px => ?_, fun x hx hh => ?_⟩
      · rw [em x hx, decide_eq_true_eq]
        have h1 := mA _ (Nat.or_lt_two_pow hA hx) (hQ A hA x hx pA px)
        have h2 : A ≤ A ||| x := Nat.left_le_or
        have h3 : A ||| x = A := by omega
        refine sub_of fun i hi => ?_
        rw [← h3, Nat.testBit_or, hi]; simp
      · rw [em x hx, decide_eq_true_eq] at hh
        exact pA.2 x hx hh
    · exact ⟨none, List.mem_cons_self .., fun x hx px => absurd ⟨x, hx, px⟩ e, fun x hx hh => nomatch hh⟩
  obtain ⟨o, ho, o1, o2⟩ := hO
  obtain ⟨z, hz, z1, z2⟩ := hZ
  refine ⟨o, ho, z, hz, fun x hx => ?_⟩
  rw [Bool.eq_iff_iff, Bool.or_eq_true]
  refine ⟨fun h => ?_, fun h => ?_⟩
  · rcases h with h | h
    · exact o2 x hx h
    · exact z2 x hx h
  · rcases hPQ x hx h with p | p
    · exact .inl (o1 x hx p)
    · exact .inr (z1 x hx p)
end Ev.W

set_option Elab.async false
set_option linter.all false
set_option maxRecDepth 100000
set_option autoImplicit false
namespace Ev.W
open PySem PySem.Spec PyProof.Rows L2 Ev
variable {κ : String → Nat} {n : Nat} {o z : Option (List Nat)}
@[simp] theorem nond_natT {l : List Nat} : isNonD (natT l) = false := rfl
def rowN (n x : Nat) : D := natT (bs n x)
def spD : Option (List Nat) → D
  | none => .non
  | some l => natT l
@[simp] theorem spD_none : spD none = .non := rfl
@[simp] theorem spD_some {l : List Nat} : spD (some l) = natT l := rfl
theorem rows_eq' (hn : n ≤ 4) : m__law_rows κ [.val (.int n)] = some (.tmp (.lst ((List.range (2 ^ n)).map (rowN n))), [none]) := rows_eq hn
theorem rows_of_eq (hn : n ≤ 4) : m_rows_of κ [.val (.int n)] = some (.tmp (.lst ((List.range (2 ^ n)).map (rowN n))), [none]) := rows_eq (κ := κ) hn
theorem spot_mem {n m s : Nat} (h : s ∈ spotL n m) : s < n := by
  unfold spotL at h
  exact List.mem_range.1 (List.mem_filter.1 h).1
theorem spot_len {n m : Nat} : (spotL n m).length ≤ n := by
  unfold spotL
  exact Nat.le_trans (List.length_filter_le _ _) (by simp)
theorem p16 {n : Nat} (h : n ≤ 4) : 2 ^ n ≤ 16 := by obtain ⟨N, e1, _, _, e2⟩ := pow_facts h; omega
theorem bits_of_eq {m : Nat} (hn : n ≤ 4) : m_bits_of κ [.val (.int m), .val (.int n)] = some (.tmp (.lst ((spotL n m).map iD)), [none, none]) := by
  apply Ok.eq
  rw [m_bits_of, ok_fnM]
  simp
  refine ⟨inR_nat (by omega), ?_⟩
  rw [rangeD_iD]
  refine ok_comp (l := List.range n) (acc := []) (φ := iD) (fun s => decide (m / 2 ^ s % 2 = 1)) iD (fun s hs => ?_) (by simp; exact sz_le (by omega)) ?_
  · simp at hs
    simp [iD, band1]
    have e : ((m : Int) / 2 ^ s % 2) = ((m / 2 ^ s % 2 : Nat) : Int) := by simp
    have h2 : m / 2 ^ s % 2 < 2 := Nat.mod_lt _ (by omega)
    rw [e]
    generalize m / 2 ^ s % 2 = q at h2
    have : q = 0 ∨ q = 1 := by omega
    rcases this with rfl | rfl <;> simp [Br]
  · simp [spotL]
theorem row_get {x p : Nat} (h : p < n) : ((bs n x).map iD)[p]? = some (D.int (bitN n p x)) := by
  have h2 : p < (bs n x).length := by simpa using h
  rw [List.getElem?_map, List.getElem?_eq_getElem h2]
  have := bitN_get (x := x) h
  rw [this]; rfl
def bitsV (n x : Nat) (v : Int) (l : List Nat) : List Bool := l.map fun s => decide ((bitN n s x : Int) = v)
theorem side_ok {x : Nat} {v : Int} {l : List Nat} {s0 s1 s2 s3 s5 : Option SV} {PC : List D × Rho → Prop} (hl : ∀ s ∈ l, s < n) (h4 : l.length ≤ 4)
    (w : PC ((bitsV n x v l).map D.bl, [s0, s1, s2, s3, some (.val (rowN n x)), s5, none])) :
    Ok (compL [6] (nameG 6) yesM (esc (binM eqG (binM atX (varM 4) (varM 6)) (constM (.int v)))) (l.map iD) [] [s0, s1, s2, s3, some (.val (rowN n x)), s5, none]) PC := by
  refine ok_comps (l := l) (acc := []) (φ := iD) (fun s => .bl (decide ((bitN n s x : Int) = v))) (fun s hs => ?_) (by simp; exact sz_le (by omega)) ?_
  · have h1 := hl s hs
    have h2 := bitN_get (x := x) h1
    simp [rowN, iD, h1, h2]
  · simpa [bitsV, Function.comp_def] using w
theorem side_ok2 {x : Nat} {v : Int} {l : List Nat} {s0 s1 s2 s3 s5 s6 : Option SV} {PC : List D × Rho → Prop} (hl : ∀ s ∈ l, s < n) (h4 : l.length ≤ 4)
    (w : PC ((bitsV n x v l).map D.bl, [s0, s1, s2, s3, some (.val (rowN n x)), s5, s6, none])) :
    Ok (compL [7] (nameG 7) yesM (esc (binM eqG (binM atX (varM 4) (varM 7)) (constM (.int v)))) (l.map iD) [] [s0, s1, s2, s3, some (.val (rowN n x)), s5, s6, none]) PC := by
  refine ok_comps (l := l) (acc := []) (φ := iD) (fun s => .bl (decide ((bitN n s x : Int) = v))) (fun s hs => ?_) (by simp; exact sz_le (by omega)) ?_
  · have h1 := hl s hs
    have h2 := bitN_get (x := x) h1
    simp [rowN, iD, h1, h2]
  · simpa [bitsV, Function.comp_def] using w
theorem bits_hi {x : Nat} {l : List Nat} : (bitsV n x 1 l).all id = hiB n (some l) x := by
  unfold bitsV hiB
  rw [List.all_map]
  congr 1
  funext s
  simp
  omega
theorem bits_lo {x : Nat} {l : List Nat} : (bitsV n x 0 l).all id = loB n (some l) x := by
  unfold bitsV loB
  rw [List.all_map]
  congr 1
  funext s
  simp
theorem tvs_bits {x : Nat} {v : Int} {l : List Nat} : tvs ((bitsV n x v l).map D.bl) = some (bitsV n x v l) := tvs_bl _
theorem sp_facts (h : o ∈ spots n) (hn : n ≤ 4) : ∀ l, o = some l → (∀ s ∈ l, s < n) ∧ l.length ≤ 4 := fun l e => by
  rcases spots_cases h with rfl | ⟨m, hm, rfl⟩
  · cases e
  · cases e
    exact ⟨fun s hs => spot_mem hs, Nat.le_trans spot_len hn⟩
def shP (n : Nat) (o z : Option (List Nat)) (x : Nat) : Bool := hiB n o x || loB n z x
theorem shR_P : shR n o z = (List.range (2 ^ n)).filter (shP n o z) := rfl
theorem shP_x {x : Nat} : shP n o z x = (hiB n o x || loB n z x) := rfl
theorem shape_rows_eq (hn : n ≤ 4) (ho : o ∈ spots n) (hz : z ∈ spots n) : m_shape_rows κ [.val (.int n), .val (spD o), .val (spD z)] = some (.tmp (.lst ((shR n o z).map (rowN n))), [none, none, none]) := by
  have hp := p16 hn
  have fo := sp_facts ho hn
  have fz := sp_facts hz hn
  apply Ok.eq
  rw [m_shape_rows, ok_fnM]
  simp [rows_of_eq hn]
  refine for_nx (fun k ρ => ∃ x4 x5, ρ = [some (.val (.int n)), some (.val (spD o)), some (.val (spD z)), some (.own (.lst (((List.range k).filter (shP n o z)).map (rowN n)))), x4, x5, none]) ⟨none, none, rfl⟩ ?_ ?_
  · rintro k d ρ e hk ⟨x4, x5, rfl⟩
    obtain ⟨x, hx, rfl⟩ := map_gen e
    simp at hk
    have hxk : x = k := by
      rw [List.getElem?_range hk] at hx
      cases hx; rfl
    subst hxk
    have hl : ((List.range x).filter (shP n o z)).length ≤ 16 := Nat.le_trans (List.length_filter_le _ _) (by simp; omega)
    have hsz : ((List.range x).filter (shP n o z)).length < sizeLine := sz_lt (by omega)
    have hP := shP_x (n := n) (o := o) (z := z) (x := x)
    rw [List.range_succ, List.filter_append]
    generalize (List.range x).filter (shP n o z) = W at hl hsz
    generalize hP2 : shP n o z = PP at hP
    rcases o with _ | lo <;> rcases z with _ | lz
    · simp [hiB, loB] at hP
      simp [hP2, hP, Br]
    · obtain ⟨z1, z2⟩ := fz lz rfl
      simp [hiB] at hP
      simp [hP2, Br]
      refine side_ok z1 z2 ?_
      simp [tvs_bits, bits_lo]
      cases hlo : loB n (some lz) x <;> rw [hlo] at hP <;> simp [hP, Br, hsz]
    · obtain ⟨o1, o2⟩ := fo lo rfl
      simp [loB] at hP
      simp [hP2, Br]
      refine side_ok o1 o2 ?_
      simp [tvs_bits, bits_hi]
      cases hlo : hiB n (some lo) x <;> rw [hlo] at hP <;> simp [hP, Br, hsz]
    · obtain ⟨o1, o2⟩ := fo lo rfl
      obtain ⟨z1, z2⟩ := fz lz rfl
      simp [hP2, Br]
      refine side_ok o1 o2 ?_
      simp [tvs_bits, bits_hi]
      cases hhi : hiB n (some lo) x
      · rw [hhi] at hP
        simp [Br]
        refine side_ok z1 z2 ?_
        simp [tvs_bits, bits_lo]
        cases hlo : loB n (some lz) x <;> rw [hlo] at hP <;> simp [hP, Br, hsz]
      · rw [hhi] at hP
        simp [hP, Br, hsz]
  · rintro ρ ⟨x4, x5, rfl⟩
    simp [shR_P]
theorem law_shape_rows_eq (hn : n ≤ 4) (ho : o ∈ spots n) (hz : z ∈ spots n) : m__law_shape_rows κ [.val (.int n), .val (spD o), .val (spD z)] = some (.tmp (.lst ((shR n o z).map (rowN n))), [none, none, none]) := by
  have hp := p16 hn
  have fo := sp_facts ho hn
  have fz := sp_facts hz hn
  apply Ok.eq
  rw [m__law_shape_rows, ok_fnM]
  simp [rows_eq' hn]
  refine for_nx (fun k ρ => ∃ x4 x5 x6, ρ = [some (.val (.int n)), some (.val (spD o)), some (.val (spD z)), some (.own (.lst (((List.range k).filter (shP n o z)).map (rowN n)))), x4, x5, x6, none]) ⟨none, none, none, rfl⟩ ?_ ?_
  · rintro k d ρ e hk ⟨x4, x5, x6, rfl⟩
    obtain ⟨x, hx, rfl⟩ := map_gen e
    simp at hk
    have hxk : x = k := by
      rw [List.getElem?_range hk] at hx
      cases hx; rfl
    subst hxk
    have hl : ((List.range x).filter (shP n o z)).length ≤ 16 := Nat.le_trans (List.length_filter_le _ _) (by simp; omega)
    have hsz : ((List.range x).filter (shP n o z)).length < sizeLine := sz_lt (by omega)
    have hP := shP_x (n := n) (o := o) (z := z) (x := x)
    rw [List.range_succ, List.filter_append]
    generalize (List.range x).filter (shP n o z) = W at hl hsz
    generalize hP2 : shP n o z = PP at hP
    rcases o with _ | lo <;> rcases z with _ | lz
    · simp [hiB, loB] at hP
      simp [hP2, hP, Br]
    · obtain ⟨z1, z2⟩ := fz lz rfl
      simp [hiB] at hP
      simp [hP2, Br]
      refine side_ok2 z1 z2 ?_
      simp [tvs_bits, bits_lo]
      cases hlo : loB n (some lz) x <;> rw [hlo] at hP <;> simp [hP, Br, hsz]
    · obtain ⟨o1, o2⟩ := fo lo rfl
      simp [loB] at hP
      simp [hP2, Br]
      refine side_ok2 o1 o2 ?_
      simp [tvs_bits, bits_hi]
      cases hlo : hiB n (some lo) x <;> rw [hlo] at hP <;> simp [hP, Br, hsz]
    · obtain ⟨o1, o2⟩ := fo lo rfl
      obtain ⟨z1, z2⟩ := fz lz rfl
      simp [hP2, Br]
      refine side_ok2 o1 o2 ?_
      simp [tvs_bits, bits_hi]
      refine side_ok2 z1 z2 ?_
      simp [tvs_bits, bits_lo]
      cases hhi : hiB n (some lo) x <;> cases hlo : loB n (some lz) x <;> rw [hhi, hlo] at hP <;> simp [hP, Br, hsz]
  · rintro ρ ⟨x4, x5, x6, rfl⟩
    simp [shR_P]
end Ev.W

set_option Elab.async false
set_option linter.all false
set_option maxRecDepth 100000
set_option autoImplicit false
namespace Ev.W
open PySem PySem.Spec PyProof.Rows L2 Ev
variable {κ : String → Nat} {n : Nat} {o z : Option (List Nat)} {L : List OP}
/-! == of lists of rows -/
def toPyR (l : List Nat) : PyData := .tuple (l.map fun k : Nat => .int k)
theorem toPys_iD : ∀ l : List Nat, toPys (l.map iD) = some (l.map fun k : Nat => .int k)
  | [] => by rw [List.map_nil, toPys]; rfl
  | a :: l => by rw [List.map_cons, toPys, toPys_iD l]; simp [iD, toPy]
theorem toPy_natT (l : List Nat) : toPy (natT l) = some (toPyR l) := by unfold natT toPyR; rw [toPy, toPys_iD]
theorem toPys_rows : ∀ A : List (List Nat), toPys (A.map natT) = some (A.map toPyR)
  | [] => by rw [List.map_nil, toPys]; rfl
  | a :: l => by rw [List.map_cons, toPys, toPys_rows l, toPy_natT]; rfl
theorem lay_row : ∀ l : List Nat, PyData.canLayAll0 (l.map fun k : Nat => PyData.int k) = true
  | [] => by rw [List.map_nil, PyData.canLayAll0]
  | a :: l => by rw [List.map_cons, PyData.canLayAll0, lay_row l]; simp [PyData.canLay0]
theorem dep_row : ∀ l : List Nat, PyData.depthAll (l.map fun k : Nat => PyData.int k) = 0
  | [] => by rw [List.map_nil, PyData.depthAll]
  | a :: l => by rw [List.map_cons, PyData.depthAll, dep_row l]; simp [PyData.depth]
theorem lay_rows : ∀ A : List (List Nat), PyData.canLayAll0 (A.map toPyR) = true
  | [] => by rw [List.map_nil, PyData.canLayAll0]
  | a :: l => by rw [List.map_cons, PyData.canLayAll0, lay_rows l]; simp [PyData.canLay0, toPyR, lay_row]
theorem dep_rows : ∀ A : List (List Nat), PyData.depthAll (A.map toPyR) ≤ 1
  | [] => by rw [List.map_nil, PyData.depthAll]; omega
  | a :: l => by
    have := dep_rows l
    rw [List.map_cons, PyData.depthAll]
    have h2 : (toPyR a).depth = 1 := by simp [toPyR, PyData.depth, dep_row]
    rw [h2]; omega
theorem eqv_row : ∀ l r : List Nat, PyData.eqvAll (l.map fun k : Nat => PyData.int k) (r.map fun k : Nat => PyData.int k) = decide (l = r)
  | [], [] => by simp [PyData.eqvAll]
  | [], _ :: _ => by simp [PyData.eqvAll]
  | _ :: _, [] => by simp [PyData.eqvAll]
  | a :: l, b :: r => by rw [List.map_cons, List.map_cons, PyData.eqvAll, eqv_row l r]; by_cases h : a = b <;> simp [h, PyData.eqv] <;> omega
theorem eqv_rows : ∀ A B : List (List Nat), PyData.eqvAll (A.map toPyR) (B.map toPyR) = decide (A = B)
  | [], [] => by simp [PyData.eqvAll]
  | [], _ :: _ => by simp [PyData.eqvAll]
  | _ :: _, [] => by simp [PyData.eqvAll]
  | a :: l, b :: r => by
    rw [List.map_cons, List.map_cons, PyData.eqvAll, eqv_rows l r]
    have h2 : PyData.eqv (toPyR a) (toPyR b) = decide (a = b) := by unfold toPyR; rw [PyData.eqv, eqv_row]
    rw [h2]
    by_cases h : a = b <;> simp [h]
theorem eqD_rows {A B : List (List Nat)} : eqD (.lst (A.map natT)) (.lst (B.map natT)) = some (decide (A = B)) := by
  have d1 := dep_rows A
  have d2 := dep_rows B
  unfold eqD
  simp only [toPy, toPys_rows]
  rw [if_pos ⟨by simp [SeqAt.shaped, PyData.canLay0, PyData.depth, lay_rows]; omega, by simp [SeqAt.shaped, PyData.canLay0, PyData.depth, lay_rows]; omega⟩, PyData.eqv, eqv_rows]
theorem bs_inj {x y : Nat} (hn : n ≤ 4) (hx : x < 2 ^ n) (hy : y < 2 ^ n) (h : bs n x = bs n y) : x = y := by
  have hp := p16 hn
  have e1 := num_bs n (by omega) x (by omega) hx
  have e2 := num_bs n (by omega) y (by omega) hy
  rw [← e1, ← e2, h]
theorem map_inj {A B : List Nat} {f : Nat → List Nat} (h : ∀ x ∈ A, ∀ y ∈ B, f x = f y → x = y) : A.map f = B.map f → A = B := by
  induction A generalizing B with
  | nil => intro e; cases B with
    | nil => rfl
    | cons b B => cases e
  | cons a A ih => intro e; cases B with
    | nil => cases e
    | cons b B =>
      rw [List.map_cons, List.map_cons, List.cons.injEq] at e
      rw [h a (by simp) b (by simp) e.1, ih (fun x hx y hy => h x (List.mem_cons_of_mem _ hx) y (List.mem_cons_of_mem _ hy)) e.2]
theorem eqG_rowN {A B : List Nat} (hn : n ≤ 4) (hA : ∀ x ∈ A, x < 2 ^ n) (hB : ∀ x ∈ B, x < 2 ^ n) : eqG (.lst (A.map (rowN n))) (.lst (B.map (rowN n))) = some (.val (.bl (decide (A = B)))) := by
  have e := eqD_rows (A := A.map (bs n)) (B := B.map (bs n))
  rw [List.map_map, List.map_map] at e
  have e2 : decide (A.map (bs n) = B.map (bs n)) = decide (A = B) := decide_eq_decide.2 ⟨map_inj fun x hx y hy q => bs_inj hn (hA x hx) (hB y hy) q, fun q => by rw [q]⟩
  rw [e2] at e
  unfold eqG
  have e3 : eqD (.lst (A.map (rowN n))) (.lst (B.map (rowN n))) = _ := e
  rw [e3]
theorem shR_lt {x : Nat} (h : x ∈ shR n o z) : x < 2 ^ n := by
  rw [shR_P] at h
  exact List.mem_range.1 (List.mem_filter.1 h).1
/-! the lots of places -/
theorem spots_eq (hn : n ≤ 4) : m__law_spots κ [.val (.int n)] = some (.tmp (.lst ((spots n).map spD)), [none]) := by
  obtain ⟨N, hN, hZ, a1, a2⟩ := pow_facts hn
  apply Ok.eq
  rw [m__law_spots, ok_fnM]
  simp [hZ]
  refine ⟨by omega, inR_nat (by omega), ?_⟩
  rw [rangeD_iD]
  refine for_nx (fun k ρ => ∃ x2, ρ = [some (.val (.int n)), some (.own (.lst ((none :: (List.range k).map fun m => some (spotL n m)).map spD))), x2, none]) ⟨none, rfl⟩ ?_ ?_
  · rintro k d ρ e hk ⟨x2, rfl⟩
    obtain ⟨m, hm, rfl⟩ := map_iD e
    simp at hk
    have hmk : m = k := by
      rw [List.getElem?_range hk] at hm
      cases hm; rfl
    subst hmk
    have hsz : m + 1 < sizeLine := sz_lt (by omega)
    rw [List.range_succ]
    simp [iD]
    refine ⟨inR_nat (by omega), ?_⟩
    rw [rangeD_iD]
    refine ok_comp (l := List.range n) (acc := []) (φ := iD) (fun s => decide (m / 2 ^ s % 2 = 1)) iD (fun s hs => ?_) (by simp; exact sz_le (by omega)) ?_
    · simp at hs
      have e : ((m : Int) / 2 ^ s % 2) = ((m / 2 ^ s % 2 : Nat) : Int) := by simp
      have h2 : m / 2 ^ s % 2 < 2 := Nat.mod_lt _ (by omega)
      simp [iD, band1]
      rw [e]
      generalize m / 2 ^ s % 2 = q at h2
      have : q = 0 ∨ q = 1 := by omega
      rcases this with rfl | rfl <;> simp [Br]
    · simp [spotL, natT, hsz]
  · rintro ρ ⟨x2, rfl⟩
    simp [spots, hN]
/-! the table's open rows -/
def openR (n : Nat) (L : List OP) : List Nat := (List.range (2 ^ n)).filter fun x => (atL L x).isSome
theorem openR_lt {x : Nat} (h : x ∈ openR n L) : x < 2 ^ n := List.mem_range.1 (List.mem_filter.1 h).1
theorem open_numbers_eq (h : TO n L) : m_Table__open_numbers κ [.val (TB κ n L)] = some (.tmp (.lst ((openR n L).map iD)), [none]) := by
  have h16 := h.small
  apply Ok.eq
  rw [m_Table__open_numbers, ok_fnM]
  simp
  refine ⟨inR_nat (by omega), ?_⟩
  rw [rangeD_iD]
  refine ok_comp (l := List.range L.length) (acc := []) (φ := iD) (fun x => (atL L x).isSome) iD (fun x hx => ?_) (by simp; exact sz_le (by omega)) ?_
  · simp at hx
    have e := atL_get hx
    simp [iD, hx, e]
    cases atL L x <;> simp [Br]
  · simp [openR, h.len]
theorem open_rows_eq (h : TO n L) : m_Table__open_rows κ [.val (TB κ n L)] = some (.tmp (.lst ((openR n L).map (rowN n))), [none]) := by
  have h16 := h.small
  have n4 := h.n4
  have hl : (openR n L).length ≤ 16 := Nat.le_trans (List.length_filter_le _ _) (by simp; exact p16 n4)
  apply Ok.eq
  rw [m_Table__open_rows, ok_fnM]
  simp [open_numbers_eq h]
  refine ok_comps (l := openR n L) (acc := []) (φ := iD) (rowN n) (fun x hx => ?_) (by simp; exact sz_le (by omega)) ?_
  · simp [iD, row_of_eq (κ := κ) (show n ≤ 1000 by omega)]
    rfl
  · simp
/-! the first pair of lots -/
def fz (n : Nat) (R : List Nat) (o z : Option (List Nat)) : Option (Option (List Nat) × Option (List Nat)) := if shR n o z = R then some (o, z) else none
def fo (n : Nat) (R : List Nat) (o : Option (List Nat)) : Option (Option (List Nat) × Option (List Nat)) := (spots n).findSome? (fz n R o)
def shO (n : Nat) (R : List Nat) : Option (Option (List Nat) × Option (List Nat)) := (spots n).findSome? (fo n R)
def shD (n : Nat) (R : List Nat) : D := match shO n R with
  | none => .non
  | some p => .tup [spD p.1, spD p.2]
theorem find_take {α β : Type} {f : α → Option β} {l : List α} {k : Nat} {a : α} {v : β} (h : l[k]? = some a) (h1 : (l.take k).findSome? f = none) (h2 : f a = some v) : l.findSome? f = some v := by
  have e : l = l.take k ++ a :: l.drop (k + 1) := by
    have hk := (List.getElem?_eq_some_iff.1 h)
    obtain ⟨hk, rfl⟩ := hk
    rw [List.getElem_cons_drop hk, List.take_append_drop]
  rw [e, List.findSome?_append, h1, List.findSome?_cons, h2]; rfl
theorem find_step {α β : Type} {f : α → Option β} {l : List α} {k : Nat} {a : α} (h : l[k]? = some a) (h1 : (l.take k).findSome? f = none) (h2 : f a = none) : (l.take (k + 1)).findSome? f = none := by
  rw [List.take_add_one, h, List.findSome?_append, h1]; simp [h2]
theorem shape_eq (h : TO n L) : m_shape κ [.val (TB κ n L)] = some (.val (shD n (openR n L)), [none]) := by
  obtain ⟨N, hN, hZ, a1, a2⟩ := pow_facts h.n4
  have n4 := h.n4
  apply Ok.eq
  rw [m_shape, ok_fnM]
  simp [open_rows_eq h, hZ]
  refine ⟨by omega, inR_nat (by omega), ?_⟩
  rw [rangeD_iD]
  refine ok_comps (l := List.range N) (acc := []) (φ := iD) (fun m => spD (some (spotL n m))) (fun m hm => ?_) (by simp; exact sz_le (by omega)) ?_
  · simp [iD, bits_of_eq n4]
    rfl
  have e1 : D.non :: ([] ++ (List.range N).map fun m => spD (some (spotL n m))) = (spots n).map spD := by simp [spots, hN, Function.comp_def]
  simp at e1
  have hsl : (spots n).length ≤ 17 := by simp [spots, hN]; omega
  simp [e1]
  refine ⟨sz_le (by omega), ?_⟩
  refine for_inv (fun k ρ => ∃ x3 x4, ρ = [some (.val (TB κ n L)), some (.own (.lst ((openR n L).map (rowN n)))), some (.lck (.lst ((spots n).map spD))), x3, x4, none] ∧ ((spots n).take k).findSome? (fo n (openR n L)) = none) ⟨none, none, rfl, rfl⟩ ?_ ?_
  · rintro k d ρ e hk ⟨x3, x4, rfl, hno⟩
    obtain ⟨o, ho, rfl⟩ := map_gen e
    have hom := List.mem_of_getElem? ho
    simp
    refine for_inv (fun j ρ => ∃ x4, ρ = [some (.val (TB κ n L)), some (.own (.lst ((openR n L).map (rowN n)))), some (.lck (.lst ((spots n).map spD))), some (.val (spD o)), x4, none] ∧ ((spots n).take j).findSome? (fz n (openR n L) o) = none) ⟨x4, rfl, rfl⟩ ?_ ?_
    · rintro j d ρ e hj ⟨x4, rfl, hno2⟩
      obtain ⟨z, hz, rfl⟩ := map_gen e
      have hzm := List.mem_of_getElem? hz
      have e2 := eqG_rowN n4 (A := shR n o z) (B := openR n L) (fun x hx => shR_lt hx) (fun x hx => openR_lt hx)
      simp [shape_rows_eq n4 hom hzm, e2]
      by_cases hq : shR n o z = openR n L
      · have f1 : fz n (openR n L) o z = some (o, z) := if_pos hq
        have f2 : fo n (openR n L) o = some (o, z) := find_take hz hno2 f1
        have f3 : shO n (openR n L) = some (o, z) := find_take ho hno f2
        simp [hq, Br, shD, f3]
      · have f1 : fz n (openR n L) o z = none := if_neg hq
        have f2 := find_step hz hno2 f1
        rw [List.findSome?_eq_none_iff] at f2
        simp [hq, Br]
        exact f2
    · rintro ρ ⟨x4, rfl, hno2⟩
      rw [List.length_map, List.take_length] at hno2
      have f2 := find_step ho hno hno2
      simp [-List.findSome?_eq_none_iff, f2]
  · rintro ρ ⟨x3, x4, rfl, hno⟩
    rw [List.length_map, List.take_length] at hno
    have f3 : shO n (openR n L) = none := hno
    simp [shD, f3]
/-- a table of the law: the places, the prices -/
def DU (n : Nat) (L : List OP) : D := .tup [.int n, .tup (L.map toD)]
theorem law_shape_eq (h : TO n L) : m__law_shape κ [.val (DU n L)] = some (.val (shD n (openR n L)), [none]) := by
  obtain ⟨N, hN, hZ, a1, a2⟩ := pow_facts h.n4
  have n4 := h.n4
  have hlen := h.len
  apply Ok.eq
  rw [m__law_shape, ok_fnM]
  simp [DU, hZ]
  refine ⟨by omega, inR_nat (by omega), ?_⟩
  rw [rangeD_iD]
  refine ok_comp (l := List.range N) (acc := []) (φ := iD) (fun x => (atL L x).isSome) (rowN n) (fun x hx => ?_) (by simp; exact sz_le (by omega)) ?_
  · simp at hx
    have hx2 : x < L.length := by omega
    have e := atL_get hx2
    simp [iD, hx2, e, law_row_eq (κ := κ) (show n ≤ 1000 by omega)]
    cases atL L x <;> simp [Br]
    rfl
  have e1 : ([] ++ ((List.range N).filter fun x => (atL L x).isSome).map (rowN n)) = (openR n L).map (rowN n) := by simp [openR, hN]
  have hsl : (spots n).length ≤ 17 := by simp [spots, hN]; omega
  rw [e1]
  simp [spots_eq n4]
  refine for_inv (fun k ρ => ∃ x3 x4, ρ = [some (.val (DU n L)), some (.own (.lst ((openR n L).map (rowN n)))), some (.lck (.lst ((spots n).map spD))), x3, x4, none] ∧ ((spots n).take k).findSome? (fo n (openR n L)) = none) ⟨none, none, rfl, rfl⟩ ?_ ?_
  · rintro k d ρ e hk ⟨x3, x4, rfl, hno⟩
    obtain ⟨o, ho, rfl⟩ := map_gen e
    have hom := List.mem_of_getElem? ho
    simp
    refine for_inv (fun j ρ => ∃ x4, ρ = [some (.val (DU n L)), some (.own (.lst ((openR n L).map (rowN n)))), some (.lck (.lst ((spots n).map spD))), some (.val (spD o)), x4, none] ∧ ((spots n).take j).findSome? (fz n (openR n L) o) = none) ⟨x4, rfl, rfl⟩ ?_ ?_
    · rintro j d ρ e hj ⟨x4, rfl, hno2⟩
      obtain ⟨z, hz, rfl⟩ := map_gen e
      have hzm := List.mem_of_getElem? hz
      have e2 := eqG_rowN n4 (A := shR n o z) (B := openR n L) (fun x hx => shR_lt hx) (fun x hx => openR_lt hx)
      simp [DU, law_shape_rows_eq n4 hom hzm, e2]
      by_cases hq : shR n o z = openR n L
      · have f1 : fz n (openR n L) o z = some (o, z) := if_pos hq
        have f2 : fo n (openR n L) o = some (o, z) := find_take hz hno2 f1
        have f3 : shO n (openR n L) = some (o, z) := find_take ho hno f2
        simp [hq, Br, shD, f3]
      · have f1 : fz n (openR n L) o z = none := if_neg hq
        have f2 := find_step hz hno2 f1
        rw [List.findSome?_eq_none_iff] at f2
        simp [hq, Br]
        exact f2
    · rintro ρ ⟨x4, rfl, hno2⟩
      rw [List.length_map, List.take_length] at hno2
      have f2 := find_step ho hno hno2
      simp [-List.findSome?_eq_none_iff, f2]
  · rintro ρ ⟨x3, x4, rfl, hno⟩
    rw [List.length_map, List.take_length] at hno
    have f3 : shO n (openR n L) = none := hno
    simp [shD, f3]
/-- a shape stands exactly if the softened rule keeps the cut law -/
def opU (L : List OP) (x : Nat) : Bool := (atL L x).isSome
theorem shR_open {o z : Option (List Nat)} : shR n o z = openR n L ↔ ∀ x < 2 ^ n, (hiB n o x || loB n z x) = opU L x := by
  refine ⟨fun h x hx => ?_, fun h => ?_⟩
  · have e : x ∈ shR n o z ↔ x ∈ openR n L := by rw [h]
    rw [shR_P, openR, List.mem_filter, List.mem_filter, List.mem_range] at e
    have e2 : shP n o z x = true ↔ opU L x = true := by
      constructor
      · intro q; exact (e.1 ⟨hx, q⟩).2
      · intro q; exact (e.2 ⟨hx, q⟩).2
    rw [Bool.eq_iff_iff]
    exact e2
  · rw [shR_P, openR]
    apply List.filter_congr
    intro x hx
    exact h x (List.mem_range.1 hx)
theorem shape_iff (hn : n ≤ 4) : shO n (openR n L) ≠ none ↔ cutU (2 ^ n) (opU L) := by
  have e : shO n (openR n L) ≠ none ↔ ∃ o ∈ spots n, ∃ z ∈ spots n, shR n o z = openR n L := by
    unfold shO
    rw [Ne, List.findSome?_eq_none_iff]
    constructor
    · intro h
      refine Classical.byContradiction fun q => h fun o ho => ?_
      unfold fo
      rw [List.findSome?_eq_none_iff]
      intro z hz
      exact if_neg fun w => q ⟨o, ho, z, hz, w⟩
    · rintro ⟨o, ho, z, hz, w⟩ h
      have h1 := h o ho
      unfold fo at h1
      rw [List.findSome?_eq_none_iff] at h1
      have h2 := h1 z hz
      unfold fz at h2
      rw [if_pos w] at h2
      cases h2
  rw [e]
  constructor
  · rintro ⟨o, ho, z, hz, w⟩
    exact shape_cut (by omega) ho hz (shR_open.1 w)
  · intro h
    obtain ⟨o, ho, z, hz, w⟩ := cut_shape (by omega) h
    exact ⟨o, ho, z, hz, shR_open.2 w⟩
end Ev.W

set_option Elab.async false
set_option linter.all false
set_option maxRecDepth 100000
set_option autoImplicit false
namespace Ev.W
open PySem PySem.Spec PyProof.Rows L2 Ev
variable {κ : String → Nat} {n : Nat} {L : List OP}
/-! softened rules -/
def sfI (L : List OP) (x : Nat) : Int := if opU L x = true then 0 else 1
def softL (n : Nat) (L : List OP) : List OP := (List.range (2 ^ n)).map fun x => some (sfI L x)
theorem sfI_cases (L : List OP) (x : Nat) : (opU L x = true ∧ sfI L x = 0) ∨ (opU L x = false ∧ sfI L x = 1) := by
  unfold sfI
  cases opU L x <;> simp
theorem softL_to (hn : n ≤ 4) : TO n (softL n L) := ⟨hn, by simp [softL], fun k hk => by
  obtain ⟨x, hx, e⟩ := List.mem_map.1 hk
  cases e
  rcases sfI_cases L x with ⟨_, e⟩ | ⟨_, e⟩ <;> rw [e] <;> omega⟩
theorem softL_D : (softL n L).map toD = (List.range (2 ^ n)).map fun x => D.int (sfI L x) := by unfold softL; rw [List.map_map]; rfl
theorem L_range (h : TO n L) : L = (List.range (2 ^ n)).map fun x => atL L x := by
  apply List.ext_getElem
  · simp [h.len]
  · intro i h1 h2
    simp [atL_get h1]
theorem softened_eq (h : TO n L) : m_softened κ [.val (TB κ n L)] = some (.val (TB κ n (softL n L)), [none]) := by
  have h16 := h.small
  have n4 := h.n4
  apply Ok.eq
  rw [m_softened, ok_fnM]
  simp
  rw [L_range h, List.map_map]
  refine ok_comps (l := List.range (2 ^ n)) (acc := []) (φ := toD ∘ fun x => atL L x) (fun x => D.int (sfI L x)) (fun x hx => ?_) (by have := p16 n4; simp; exact sz_le (by omega)) ?_
  · rw [Function.comp]
    have := sfI_cases L x
    unfold opU at this
    cases e : atL L x <;> rw [e] at this <;> simp at this <;> simp [this, Br]
  · have e := init_eq (κ := κ) (softL_to (L := L) n4)
    rw [softL_D] at e
    simp [e]
    rw [← L_range h]
theorem law_softened_eq (h : TO n L) : m__law_softened κ [.val (DU n L)] = some (.val (DU n (softL n L)), [none]) := by
  have n4 := h.n4
  apply Ok.eq
  rw [m__law_softened, ok_fnM]
  simp [DU]
  rw [L_range h, List.map_map]
  refine ok_comps (l := List.range (2 ^ n)) (acc := []) (φ := toD ∘ fun x => atL L x) (fun x => D.int (sfI L x)) (fun x hx => ?_) (by have := p16 n4; simp; exact sz_le (by omega)) ?_
  · rw [Function.comp]
    have := sfI_cases L x
    unfold opU at this
    cases e : atL L x <;> rw [e] at this <;> simp at this <;> simp [this, Br]
  · rw [← L_range h]
    simp [DU, softL_D]
theorem times_eq {a : OP} : m__law_times κ [.val (toD a), .val (.int 2)] = some (.val (toD (a.map (· * 2))), [none, none]) := by
  apply Ok.eq
  rw [m__law_times, ok_fnM]
  cases a <;> simp [Br]
theorem above_eq {a b : OP} : m__law_above κ [.val (toD a), .val (toD b)] = some (.val (.bl (drO a b)), [none, none]) := by
  apply Ok.eq
  rw [m__law_above, ok_fnM]
  cases a <;> cases b <;> simp [Br, drO]
theorem above_int {a b : Int} : m__law_above κ [.val (.int a), .val (.int b)] = some (.val (.bl (decide (b < a))), [none, none]) := above_eq (κ := κ) (a := some a) (b := some b)
/-- the softened prices -/
def SF (N : Nat) (L : List OP) : D := .tup ((List.range N).map fun x => D.int (sfI L x))
variable {N : Nat}
theorem sf_at {x : Nat} (h : x < N) : atX (SF N L) (.int x) = some (.val (.int (sfI L x))) := by
  unfold SF
  apply Ok.eq
  simp [h]
theorem sf_len : lenX [SF N L] = some (.val (.int N)) := by unfold SF; simp
theorem nband' (a b : Nat) : andG (.int a) (.int b) = some (.val (.int ((a &&& b : Nat) : Int))) := by
  rw [← nband]; rfl
theorem nbor (a b : Nat) : Builtin.bitOr (a : Int) (b : Int) = ((a ||| b : Nat) : Int) := by
  unfold Builtin.bitOr Builtin.bitNot Builtin.bitAnd Builtin.bitNot
  have h1 : decide (0 ≤ -(a : Int) - 1) = false := decide_eq_false (by omega)
  have h2 : decide (0 ≤ -(b : Int) - 1) = false := decide_eq_false (by omega)
  simp only [h1, h2]
  have e : ∀ x : Nat, (-(-(x : Int) - 1) - 1).toNat = x := fun x => by omega
  simp only [e]
  omega
theorem nbor' (a b : Nat) : orG (.int a) (.int b) = some (.val (.int ((a ||| b : Nat) : Int))) := by
  rw [← nbor]; rfl
theorem str_zero : PyData.strOk "zero" = true := by decide +kernel
theorem str_one : PyData.strOk "one" = true := by decide +kernel
theorem str_cut : PyData.strOk "cut" = true := by decide +kernel
theorem str_great : PyData.strOk "greatest" = true := by decide +kernel
theorem str_least : PyData.strOk "least" = true := by decide +kernel
/-- the row that is held against all -/
def endN (N : Nat) (s : Str) : Nat := if s = "zero" then 0 else N - 1
theorem breach_one_ok {w : Str} {P : Opd × Rho → Prop} (h1 : 1 ≤ N) (hp : N ≤ 16) (hw : PyData.strOk w = true) (ww : ∀ b : Bool, (b = true ↔ ∃ t, t < N ∧ sfI L t < sfI L (endN N w)) → P (.val (.bl b), [none, none, none])) : Ok (m__law_breach_one κ [.val (.str w), .val (SF N L), .bor (.lst ((List.range N).map iD))]) P := by
  have e0 : (N : Int) - 1 = ((N - 1 : Nat) : Int) := by omega
  have ee := eqG_str hw str_zero
  have hend : endN N w < N := by unfold endN; split <;> omega
  rw [m__law_breach_one, ok_fnM]
  simp [sf_len, e0]
  refine for_inv (fun k ρ => ∃ x4, ρ = [some (.val (.str w)), some (.val (SF N L)), some (.bor (.lst ((List.range N).map iD))), some (.val (.int (N - 1 : Nat))), x4] ∧ ∀ t < k, ¬ sfI L t < sfI L (endN N w)) ⟨none, rfl, fun t ht => by omega⟩ ?_ ?_
  · rintro k d ρ e hk ⟨x4, rfl, hno⟩
    obtain ⟨t, ht, rfl⟩ := map_iD e
    simp at hk
    have hmk : t = k := by
      rw [List.getElem?_range hk] at ht
      cases ht; rfl
    subst hmk
    have e1 : atX (SF N L) (.int (endN N w : Nat)) = some (.val (.int (sfI L (endN N w)))) := sf_at hend
    have e2 := sf_at (L := L) hk
    have e3 : (w == "zero") = decide (w = "zero") := rfl
    have goal2 : (sfI L t < sfI L (endN N w) → P (.val (.bl true), [none, none, none])) ∧ (sfI L (endN N w) ≤ sfI L t → ∀ u, u < t + 1 → sfI L (endN N w) ≤ sfI L u) := ⟨fun hq => ww true ⟨fun _ => ⟨t, hk, hq⟩, fun _ => rfl⟩, fun hq u hu => by
      by_cases e : u = t
      · subst e; exact hq
      · have := hno u (by omega); omega⟩
    by_cases hq : w = "zero"
    · have e5 : endN N w = 0 := by unfold endN; rw [if_pos hq]
      rw [e5] at e1 goal2
      have hb : (w == "zero") = true := by rw [e3, decide_eq_true hq]
      simp at e1
      simp [iD, ee, hb, e1, e2, above_int, Br]
      rw [e5]; exact goal2
    · have e5 : endN N w = N - 1 := by unfold endN; rw [if_neg hq]
      rw [e5] at e1 goal2
      have hb : (w == "zero") = false := by rw [e3, decide_eq_false hq]
      simp [iD, ee, hb, e1, e2, above_int, Br]
      rw [e5]; exact goal2
  · rintro ρ ⟨x4, rfl, hno⟩
    simp at hno
    simp
    exact ww false ⟨(fun h => nomatch h), fun ⟨t, ht, hq⟩ => by have := hno t ht; omega⟩
def brU (L : List OP) (s t : Nat) : Prop := sfI L s + sfI L t < sfI L (s &&& t) + sfI L (s ||| t)
theorem sum_two_eq {a b : Int} : m__law_sum κ [.val (.lst [.int a, .int b])] = some (.val (.int (a + b)), [none]) := by
  apply Ok.eq
  rw [m__law_sum, ok_fnM]
  simp [forL_consI, forL_nilI]
theorem breach_two_ok {P : Opd × Rho → Prop} (hn : n ≤ 4) (hN : 2 ^ n = N) (ww : ∀ b : Bool, (b = true ↔ ∃ s, s < N ∧ ∃ t, t < N ∧ brU L s t) → P (.val (.bl b), [none, none, none])) : Ok (m__law_breach_two κ [.val (.str "cut"), .val (SF N L), .bor (.lst ((List.range N).map iD))]) P := by
  have hp := p16 hn
  have e1 := eqG_str str_cut str_great
  have e2 := eqG_str str_cut str_cut
  rw [m__law_breach_two, ok_fnM]
  simp
  refine for_inv (fun k ρ => ∃ x3 x4 x5 x6, ρ = [some (.val (.str "cut")), some (.val (SF N L)), some (.bor (.lst ((List.range N).map iD))), x3, x4, x5, x6] ∧ ∀ s < k, ∀ t < N, ¬ brU L s t) ⟨none, none, none, none, rfl, fun t ht => by omega⟩ ?_ ?_
  · rintro k d ρ e hk ⟨x3, x4, x5, x6, rfl, hno⟩
    obtain ⟨s, hs, rfl⟩ := map_iD e
    simp at hk
    have hmk : s = k := by
      rw [List.getElem?_range hk] at hs
      cases hs; rfl
    subst hmk
    simp
    refine for_inv (fun k ρ => ∃ x4 x5 x6, ρ = [some (.val (.str "cut")), some (.val (SF N L)), some (.bor (.lst ((List.range N).map iD))), some (.val (iD s)), x4, x5, x6] ∧ ∀ t < k, ¬ brU L s t) ⟨x4, x5, x6, rfl, fun t ht => by omega⟩ ?_ ?_
    · rintro j d ρ e hj ⟨x4, x5, x6, rfl, hno2⟩
      obtain ⟨t, ht, rfl⟩ := map_iD e
      simp at hj
      have hmk : t = j := by
        rw [List.getElem?_range hj] at ht
        cases ht; rfl
      subst hmk
      have la : s &&& t < N := and_lt hk
      have lo : s ||| t < N := by rw [← hN] at hk hj ⊢; exact Nat.or_lt_two_pow hk hj
      have a1 := sf_at (L := L) la
      have a2 := sf_at (L := L) lo
      have a3 := sf_at (L := L) hk
      have a4 := sf_at (L := L) hj
      have t1 := times_eq (κ := κ) (a := some (sfI L (s &&& t)))
      have t2 := times_eq (κ := κ) (a := some (sfI L (s ||| t)))
      simp at t1 t2
      simp [iD, nband, nbor, a1, a2, a3, a4, t1, t2, e1, e2, sum_two_eq, above_int, Br]
      refine ⟨fun hq => ww true ⟨fun _ => ⟨s, hk, t, hj, hq⟩, fun _ => rfl⟩, fun hq u hu => ?_⟩
      by_cases e : u = t
      · subst e; unfold brU; omega
      · exact hno2 u (by omega)
    · rintro ρ ⟨x4, x5, x6, rfl, hno2⟩
      simp at hno2
      simp
      intro u hu t ht
      by_cases e : u = s
      · subst e; exact hno2 t ht
      · exact hno u (by omega) t ht
  · rintro ρ ⟨x3, x4, x5, x6, rfl, hno⟩
    simp at hno
    simp
    exact ww false ⟨(fun h => nomatch h), fun ⟨s, hs, t, ht, hq⟩ => absurd hq (hno s hs t ht)⟩
/-- what the softened rule keeps -/
theorem cut_iff : (¬ ∃ s, s < N ∧ ∃ t, t < N ∧ brU L s t) ↔ cutU N (opU L) := by
  constructor
  · intro h s hs t ht hU
    have hb : ¬ brU L s t := fun q => h ⟨s, hs, t, ht, q⟩
    unfold brU at hb
    rcases sfI_cases L s with ⟨u1, v1⟩ | ⟨u1, v1⟩ <;> rcases sfI_cases L t with ⟨u2, v2⟩ | ⟨u2, v2⟩ <;> rcases sfI_cases L (s &&& t) with ⟨u3, v3⟩ | ⟨u3, v3⟩ <;> rcases sfI_cases L (s ||| t) with ⟨u4, v4⟩ | ⟨u4, v4⟩ <;>
      rw [u1] at hU <;> rw [v1, v2, v3, v4] at hb <;> simp [u2, u3, u4] at hU hb ⊢
  · rintro h ⟨s, hs, t, ht, hb⟩
    have h1 := h s hs t ht
    have h2 := h t ht s hs
    rw [Nat.and_comm, Nat.or_comm] at h2
    unfold brU at hb
    rcases sfI_cases L s with ⟨u1, v1⟩ | ⟨u1, v1⟩ <;> rcases sfI_cases L t with ⟨u2, v2⟩ | ⟨u2, v2⟩ <;> rcases sfI_cases L (s &&& t) with ⟨u3, v3⟩ | ⟨u3, v3⟩ <;> rcases sfI_cases L (s ||| t) with ⟨u4, v4⟩ | ⟨u4, v4⟩ <;>
      rw [v1, v2, v3, v4] at hb <;> simp [u1, u2, u3, u4] at h1 h2 hb
def endU (N : Nat) (L : List OP) (w : Str) : Bool := opU L (endN N w)
theorem end_iff {w : Str} (h1 : 1 ≤ N) (ho : ∃ x, x < N ∧ opU L x = true) : (¬ ∃ t, t < N ∧ sfI L t < sfI L (endN N w)) ↔ endU N L w = true := by
  unfold endU
  rcases sfI_cases L (endN N w) with ⟨u1, v1⟩ | ⟨u1, v1⟩
  · refine ⟨fun _ => u1, fun _ ⟨t, _, q⟩ => ?_⟩
    rcases sfI_cases L t with ⟨_, v2⟩ | ⟨_, v2⟩ <;> omega
  · refine ⟨fun h => ?_, fun h => by rw [u1] at h; cases h⟩
    obtain ⟨x, hx, e⟩ := ho
    refine absurd ⟨x, hx, ?_⟩ h
    rcases sfI_cases L x with ⟨_, v2⟩ | ⟨v2, _⟩
    · omega
    · rw [v2] at e; cases e
/-- which of the three kinds -/
def kindB (n : Nat) (L : List OP) (w : Str) : Bool := if w = "cut" then (shO n (openR n L)).isSome else endU (2 ^ n) L w
theorem in_zo {a : Str} {b : Bool} (h : inG false (.str a) (.tup [.str "zero", .str "one"]) = some (.val (.bl b))) : inE false (.str a) (.tup [.str "zero", .str "one"]) = some (.val (.bl b)) := inE_of h
theorem in1 : inE false (.str "zero") (.tup [.str "zero", .str "one"]) = some (.val (.bl true)) := inE_of rfl
theorem in2 : inE false (.str "one") (.tup [.str "zero", .str "one"]) = some (.val (.bl true)) := inE_of rfl
theorem in3 : inE false (.str "cut") (.tup [.str "zero", .str "one"]) = some (.val (.bl false)) := inE_of rfl
theorem in4 : inE false (.str "cut") (.tup [.str "least", .str "greatest", .str "cut"]) = some (.val (.bl true)) := inE_of rfl
theorem not_of {b c : Bool} {q : Prop} (hb : b = true ↔ q) (hc : ¬ q ↔ c = true) : b = !c := by
  have h : b = true ↔ ¬ c = true := by rw [hb, ← hc]; exact Classical.not_not.symm
  cases b <;> cases c <;> simp at h ⊢
theorem kind_end {w : Str} (h : w ≠ "cut") : kindB n L w = endU (2 ^ n) L w := if_neg h
theorem kind_cut : kindB n L "cut" = (shO n (openR n L)).isSome := if_pos rfl
theorem keeps_eq {w : Str} (hn : n ≤ 4) (ho : ∃ x, x < 2 ^ n ∧ opU L x = true) (hw : w ∈ ["zero", "one", "cut"].map Str.ofString) : m__law_keeps κ [.val (.str w), .val (.tup ((softL n L).map toD))] = some (.val (.bl (kindB n L w)), [none, none]) := by
  obtain ⟨N, hN, hZ, a1, a2⟩ := pow_facts hn
  rw [softL_D, hN]
  rw [hN] at ho
  have eSF : D.tup ((List.range N).map fun x => D.int (sfI L x)) = SF N L := rfl
  rw [eSF]
  apply Ok.eq
  rw [m__law_keeps, ok_fnM]
  simp [sf_len]
  refine ⟨inR_nat (by omega), ?_⟩
  rw [rangeD_iD]
  refine ok_comp (l := List.range N) (acc := []) (φ := iD) (fun _ => true) iD (fun x hx => ?_) (by simp; exact sz_le (by omega)) ?_
  · simp at hx
    simp [iD, sf_at hx]
  have e1 : ([] ++ ((List.range N).filter fun _ => true).map iD) = (List.range N).map iD := by rw [List.filter_eq_self.2 (fun _ _ => rfl)]; rfl
  rw [e1]
  simp at hw
  rcases hw with rfl | rfl | rfl
  · simp [in1]
    refine breach_one_ok a1 a2 str_zero fun b hb => ?_
    simp
    rw [kind_end (by decide), hN]
    exact not_of hb (end_iff a1 ho)
  · simp [in2]
    refine breach_one_ok a1 a2 str_one fun b hb => ?_
    simp
    rw [kind_end (by decide), hN]
    exact not_of hb (end_iff a1 ho)
  · simp [in3, in4]
    refine breach_two_ok hn hN fun b hb => ?_
    simp
    rw [kind_cut]
    refine not_of hb ?_
    rw [cut_iff, ← hN, ← shape_iff hn]
    cases shO n (openR n L) <;> simp
end Ev.W

set_option Elab.async false
set_option linter.all false
set_option maxRecDepth 100000
set_option autoImplicit false
namespace Ev.W
open PySem PySem.Spec PyProof.Rows L2 Ev
variable {κ : String → Nat} {n : Nat} {L M : List OP}
/-! lots -/
abbrev TL := Nat × List OP
def TBp (κ : String → Nat) (t : TL) : D := TB κ t.1 t.2
def DUp (t : TL) : D := DU t.1 t.2
structure Told (t : TL) : Prop where
  to : TO t.1 t.2
  n1 : 1 ≤ t.1
  op : ∃ x, x < 2 ^ t.1 ∧ opU t.2 x = true
  pr : ∀ k, some k ∈ t.2 → k ≤ 1000
theorem Told.mem {t : TL} (h : Told t) : ∃ k, some k ∈ t.2 := by
  obtain ⟨x, hx, e⟩ := h.op
  have hl : x < t.2.length := by rw [h.to.len]; exact hx
  unfold opU at e
  cases q : atL t.2 x with
  | none => rw [q] at e; cases e
  | some k =>
    refine ⟨k, ?_⟩
    rw [← q, ← atL_get hl]
    exact List.getElem_mem hl
theorem Told.lo {t : TL} (h : Told t) : ∃ m, lo t.2 = some m := by
  obtain ⟨k, hk⟩ := h.mem
  cases e : Ev.W.lo t.2 with
  | none => exact nomatch lo_none e _ hk
  | some m => exact ⟨m, rfl⟩
theorem Told.hi {t : TL} (h : Told t) : ∃ m, hi t.2 = some m ∧ m ≤ 1000 := by
  obtain ⟨k, hk⟩ := h.mem
  cases e : Ev.W.hi t.2 with
  | none => exact nomatch hi_none e _ hk
  | some m => exact ⟨m, rfl, h.pr m (hi_some e)⟩
theorem is_told_eq {t : TL} (h : Told t) : m_is_told κ [.val (TBp κ t)] = some (.val (.bl true), [none]) := by
  obtain ⟨m1, e1⟩ := h.lo
  obtain ⟨m2, e2, e3⟩ := h.hi
  have n0 : ¬ t.1 = 0 := by have := h.n1; omega
  apply Ok.eq
  rw [m_is_told, ok_fnM]
  simp [TBp, e1, e2, e3, n0, Br]
theorem swapped_eq (h : TO n L) : m_swapped κ [.val (TB κ n L)] = some (.val (TB κ n L.reverse), [none]) := by
  have h16 := h.small
  have hr : TO n L.reverse := ⟨h.n4, by simp [h.len], fun k hk => h.pr k (by simpa using hk)⟩
  have e := init_eq (κ := κ) hr
  rw [List.map_reverse] at e
  apply Ok.eq
  rw [m_swapped, ok_fnM]
  simp
  rw [← List.map_reverse]
  refine ok_comps (l := L.reverse) (acc := []) (φ := toD) toD (fun x hx => by simp) (by simp; exact sz_le (by omega)) ?_
  simp [e]
theorem table_eq : m_Table____eq__ κ [.val (TB κ n L), .val (TB κ n M)] = some (.val (.bl (decide (L = M))), [none, none]) := by
  apply Ok.eq
  rw [m_Table____eq__, ok_fnM]
  simp [eqG_tups, Br]
@[irreducible] def LOT (κ : String → Nat) (ts : List TL) : D := .ins (κ "Lot") ["tables", "swaps"] [.tup (ts.map (TBp κ)), .bl (ts.all fun t => decide (t.2.reverse = t.2))]
variable {ts : List TL}
@[simp] theorem f_tables : fldD [κ "Lot"] "tables" (LOT κ ts) = some (.tup (ts.map (TBp κ))) := by unfold LOT; rw [fldD_ins, if_pos (by simp)]; rfl
@[simp] theorem lot_ins : isInsC (κ "Lot") (LOT κ ts) = true := by simp [LOT]
@[simp] theorem lot_is : isCD (κ "Lot") (LOT κ ts) = some true := by simp [LOT]
@[simp] theorem tbp_ins {t : TL} : isInsC (κ "Table") (TBp κ t) = true := tb_ins
theorem lot_init (h1 : 1 ≤ ts.length) (h2 : ts.length ≤ 16) (h : ∀ t ∈ ts, Told t) : m_Lot____init__ κ [.own (.ins (κ "Lot") [] []), .val (.tup (ts.map (TBp κ)))] = some (.val .non, [some (.own (LOT κ ts)), none]) := by
  have b1 : (1 : Int) ≤ ts.length := by omega
  have b2 : (ts.length : Int) ≤ 16 := by omega
  apply Ok.eq
  rw [m_Lot____init__, ok_fnM]
  simp [b1, b2, Br]
  refine ⟨inR_nat (by omega), ?_⟩
  rw [rangeD_iD]
  refine for_nx (fun k ρ => ∃ x, ρ = [some (.own (.ins (κ "Lot") [] [])), some (.val (.tup (ts.map (TBp κ)))), x, none]) ⟨none, rfl⟩ ?_ ?_
  · rintro k d ρ e hk ⟨x, rfl⟩
    obtain ⟨i, hi, rfl⟩ := map_iD e
    have hi2 : i < ts.length := by
      have := List.mem_of_getElem? hi
      simpa using this
    have e2 := is_told_eq (κ := κ) (h _ (List.getElem_mem hi2))
    simp [iD, hi2, e2, Br]
  · rintro ρ ⟨x, rfl⟩
    simp
    refine ok_comps (l := ts) (acc := []) (φ := TBp κ) (fun t => .bl (decide (t.2.reverse = t.2))) (fun t ht => ?_) (by simp; exact sz_le (by omega)) ?_
    · have e2 := swapped_eq (κ := κ) (h t ht).to
      have e3 := table_eq (κ := κ) (n := t.1) (L := t.2.reverse) (M := t.2)
      simp [TBp, e2, e3]
    · have e : tvs (ts.map fun t => D.bl (decide (t.2.reverse = t.2))) = some (ts.map fun t => decide (t.2.reverse = t.2)) := tvs_mapb _ _
      have e6 : (ts.map fun t => decide (t.2.reverse = t.2)).all id = ts.all fun t => decide (t.2.reverse = t.2) := by rw [List.all_map]; rfl
      rw [List.nil_append]
      simp [e, e6, -List.all_map]
      exact ⟨by decide +kernel, by unfold LOT; rfl⟩
theorem lot_initX (h1 : 1 ≤ ts.length) (h2 : ts.length ≤ 16) (h : ∀ t ∈ ts, Told t) : x_Lot____init__ κ [.own (.ins (κ "Lot") [] []), .val (.tup (ts.map (TBp κ)))] = some (.ok (.val .non) [some (.own (LOT κ ts)), none]) := by
  have b1 : (1 : Int) ≤ ts.length := by omega
  have b2 : (ts.length : Int) ≤ 16 := by omega
  apply Ok.eq
  rw [x_Lot____init__, ok_fnX]
  simp [b1, b2, Br]
  refine ⟨inR_nat (by omega), ?_⟩
  rw [rangeD_iD]
  refine for_nx (fun k ρ => ∃ x, ρ = [some (.own (.ins (κ "Lot") [] [])), some (.val (.tup (ts.map (TBp κ)))), x, none]) ⟨none, rfl⟩ ?_ ?_
  · rintro k d ρ e hk ⟨x, rfl⟩
    obtain ⟨i, hi, rfl⟩ := map_iD e
    have hi2 : i < ts.length := by
      have := List.mem_of_getElem? hi
      simpa using this
    have e2 := is_told_eq (κ := κ) (h _ (List.getElem_mem hi2))
    simp [iD, hi2, e2, Br]
  · rintro ρ ⟨x, rfl⟩
    simp
    refine ok_comps (l := ts) (acc := []) (φ := TBp κ) (fun t => .bl (decide (t.2.reverse = t.2))) (fun t ht => ?_) (by simp; exact sz_le (by omega)) ?_
    · have e2 := swapped_eq (κ := κ) (h t ht).to
      have e3 := table_eq (κ := κ) (n := t.1) (L := t.2.reverse) (M := t.2)
      simp [TBp, e2, e3]
    · have e : tvs (ts.map fun t => D.bl (decide (t.2.reverse = t.2))) = some (ts.map fun t => decide (t.2.reverse = t.2)) := tvs_mapb _ _
      have e6 : (ts.map fun t => decide (t.2.reverse = t.2)).all id = ts.all fun t => decide (t.2.reverse = t.2) := by rw [List.all_map]; rfl
      rw [List.nil_append]
      simp [e, e6, -List.all_map]
      exact ⟨by decide +kernel, by unfold LOT; rfl⟩
/-! check, soften -/
def crB (t : TL) : Bool := decide (lo t.2 = hi t.2)
theorem crisp_eq {t : TL} : m_Table__crisp κ [.val (TBp κ t)] = some (.val (.bl (crB t)), [none]) := by
  apply Ok.eq
  rw [m_Table__crisp, ok_fnM]
  simp [TBp, eqG_toD, crB]
theorem check_eq (h2 : ts.length ≤ 16) (h : ∀ t ∈ ts, crB t = true) : m_check_rules κ [.val (LOT κ ts)] = some (.val .non, [none]) := by
  apply Ok.eq
  rw [m_check_rules, ok_fnM]
  simp
  refine ⟨inR_nat (by omega), ?_⟩
  rw [rangeD_iD]
  refine for_nx (fun k ρ => ∃ x, ρ = [some (.val (LOT κ ts)), x]) ⟨none, rfl⟩ ?_ ?_
  · rintro k d ρ e hk ⟨x, rfl⟩
    obtain ⟨i, hi, rfl⟩ := map_iD e
    have hi2 : i < ts.length := by
      have := List.mem_of_getElem? hi
      simpa using this
    have e2 := crisp_eq (κ := κ) (t := ts[i])
    rw [h _ (List.getElem_mem hi2)] at e2
    simp [iD, hi2, e2, Br]
  · rintro ρ ⟨x, rfl⟩
    simp
theorem checkX_eq (h2 : ts.length ≤ 16) (h : ∀ t ∈ ts, crB t = true) : x_check_rules κ [.val (LOT κ ts)] = some (.ok (.val .non) [none]) := by
  apply Ok.eq
  rw [x_check_rules, ok_fnX]
  simp
  refine ⟨inR_nat (by omega), ?_⟩
  rw [rangeD_iD]
  refine for_nx (fun k ρ => ∃ x, ρ = [some (.val (LOT κ ts)), x]) ⟨none, rfl⟩ ?_ ?_
  · rintro k d ρ e hk ⟨x, rfl⟩
    obtain ⟨i, hi, rfl⟩ := map_iD e
    have hi2 : i < ts.length := by
      have := List.mem_of_getElem? hi
      simpa using this
    have e2 := crisp_eq (κ := κ) (t := ts[i])
    rw [h _ (List.getElem_mem hi2)] at e2
    simp [iD, hi2, e2, Br]
  · rintro ρ ⟨x, rfl⟩
    simp
/-- the first uneven table is told -/
theorem checkX_bad {at_ : Nat} {t : TL} (h2 : ts.length ≤ 16) (ha : ts[at_]? = some t) (hb : crB t = false) (h : ∀ t ∈ ts.take at_, crB t = true) : x_check_rules κ [.val (LOT κ ts)] = some (.ex (κ "BadLot") "at" (.int at_) [none]) := by
  obtain ⟨hal, hat⟩ := List.getElem?_eq_some_iff.1 ha
  apply Ok.eq
  rw [x_check_rules, ok_fnX]
  simp
  refine ⟨inR_nat (by omega), ?_⟩
  rw [rangeD_iD]
  refine for_inv (fun k ρ => ∃ x, ρ = [some (.val (LOT κ ts)), x] ∧ k ≤ at_) ⟨none, rfl, by omega⟩ ?_ ?_
  · rintro k d ρ e hk ⟨x, rfl, hka⟩
    obtain ⟨i, hi, rfl⟩ := map_iD e
    simp at hk
    have hmk : i = k := by
      rw [List.getElem?_range hk] at hi
      cases hi; rfl
    subst hmk
    have e2 := crisp_eq (κ := κ) (t := ts[i])
    by_cases e3 : i = at_
    · subst e3
      rw [hat, hb] at e2
      simp [iD, hk, hat, e2, Br]
    · rw [h _ (List.mem_take_iff_getElem.2 ⟨i, by omega, rfl⟩)] at e2
      simp [iD, hk, e2, Br]
      omega
  · rintro ρ ⟨x, rfl, hka⟩
    simp at hka
    omega
end Ev.W

set_option Elab.async false
set_option linter.all false
set_option maxRecDepth 100000
set_option autoImplicit false
namespace Ev.W
open PySem PySem.Spec PyProof.Rows L2 Ev
variable {κ : String → Nat} {n : Nat} {L M : List OP} {ts : List TL}
def softT (t : TL) : TL := (t.1, softL t.1 t.2)
theorem softT_told {t : TL} (h : Told t) : Told (softT t) := by
  have n4 := h.to.n4
  refine ⟨softL_to n4, h.n1, ⟨0, Nat.two_pow_pos _, ?_⟩, fun k hk => ?_⟩
  · have hl : 0 < (softL t.1 t.2).length := by simp [softL]; exact Nat.two_pow_pos _
    show (atL (softL t.1 t.2) 0).isSome = true
    rw [← atL_get hl]
    simp [softL]
  · obtain ⟨x, hx, e⟩ := List.mem_map.1 (show some k ∈ softL t.1 t.2 from hk)
    cases e
    rcases sfI_cases t.2 x with ⟨_, e⟩ | ⟨_, e⟩ <;> rw [e] <;> omega
theorem soft_lot_eq (h1 : 1 ≤ ts.length) (h2 : ts.length ≤ 16) (h : ∀ t ∈ ts, Told t) (hc : ∀ t ∈ ts, crB t = true) : m_soft_lot κ [.val (LOT κ ts)] = some (.val (LOT κ (ts.map softT)), [none]) := by
  have e1 := check_eq (κ := κ) h2 hc
  apply Ok.eq
  rw [m_soft_lot, ok_fnM]
  simp [e1]
  refine ok_comps (l := ts) (acc := []) (φ := TBp κ) (fun t => TBp κ (softT t)) (fun t ht => ?_) (by simp; exact sz_le (by omega)) ?_
  · have e2 := softened_eq (κ := κ) (h t ht).to
    simp [TBp, e2, softT]
  · have e3 := lot_init (κ := κ) (ts := ts.map softT) (by simpa using h1) (by simpa using h2) (fun t ht => by
      obtain ⟨u, hu, rfl⟩ := List.mem_map.1 ht
      exact softT_told (h u hu))
    rw [List.map_map] at e3
    have e4 : (ts.map fun t => TBp κ (softT t)) = ts.map (TBp κ ∘ softT) := rfl
    simp [e4, e3, -List.map_map]
theorem soft_lotX_eq (h1 : 1 ≤ ts.length) (h2 : ts.length ≤ 16) (h : ∀ t ∈ ts, Told t) (hc : ∀ t ∈ ts, crB t = true) : Ok (x_soft_lot κ [.val (LOT κ ts)]) fun p => ∃ o post, p = .ok o post ∧ ∀ i, ¬ o = .var i := by
  have e1 := checkX_eq (κ := κ) h2 hc
  rw [x_soft_lot, ok_fnX]
  simp [e1]
  refine ok_comps (l := ts) (acc := []) (φ := TBp κ) (fun t => TBp κ (softT t)) (fun t ht => ?_) (by simp; exact sz_le (by omega)) ?_
  · have e2 := softened_eq (κ := κ) (h t ht).to
    simp [TBp, e2, softT]
  · have e3 := lot_initX (κ := κ) (ts := ts.map softT) (by simpa using h1) (by simpa using h2) (fun t ht => by
      obtain ⟨u, hu, rfl⟩ := List.mem_map.1 ht
      exact softT_told (h u hu))
    rw [List.map_map] at e3
    have e4 : (ts.map fun t => TBp κ (softT t)) = ts.map (TBp κ ∘ softT) := rfl
    simp [e4, e3, -List.map_map]
theorem lot_of_eq {sv : SV} (hit : ∀ ρ, itI 0 ρ sv = some (ts.map DUp, none, ρ)) (h1 : 1 ≤ ts.length) (h2 : ts.length ≤ 16) (h : ∀ t ∈ ts, Told t) : m__law_lot_of κ [sv] = some (.val (LOT κ ts), [none]) := by
  have e3 := lot_init (κ := κ) h1 h2 h
  apply Ok.eq
  rw [m__law_lot_of, ok_fnM]
  simp [hit]
  refine ok_comps (l := ts) (acc := []) (φ := DUp) (TBp κ) (fun t ht => ?_) (by simp; exact sz_le (by omega)) ?_
  · have e2 := init_eq (κ := κ) (h t ht).to
    simp [DUp, DU, e2, TBp]
  · simp [e3]
theorem eq_all : ∀ {ts : List TL}, eqAll (κ "Table") (m_Table____eq__ κ) (ts.map (TBp κ)) (ts.map (TBp κ)) = true
  | [] => rfl
  | t :: ts => by
    rw [List.map_cons, eqAll, eq_all (ts := ts)]
    have e := table_eq (κ := κ) (n := t.1) (L := t.2) (M := t.2)
    have e2 : m_Table____eq__ κ [.val (TBp κ t), .val (TBp κ t)] = _ := e
    rw [e2, tbp_ins]
    simp
theorem lot_eq : m_Lot____eq__ κ [.val (LOT κ ts), .val (LOT κ ts)] = some (.val (.bl true), [none, none]) := by
  apply Ok.eq
  rw [m_Lot____eq__, ok_fnM]
  simp [eq_all, Br]
/-! the kinds of a lot -/
def kB (ts : List TL) (w : Str) : Bool := ts.all fun t => kindB t.1 t.2 w
def kindsL (ts : List TL) : List Str := (["zero", "one", "cut"].map Str.ofString).filter (kB ts)
theorem kB_zero : kB ts "zero" = ts.all fun t => opU t.2 0 := by unfold kB; congr 1
theorem kB_one : kB ts "one" = ts.all fun t => opU t.2 (2 ^ t.1 - 1) := by unfold kB; congr 1
theorem kB_cut : kB ts "cut" = ts.all fun t => (shO t.1 (openR t.1 t.2)).isSome := by unfold kB; congr 1
theorem kinds_def {b1 b2 b3 : Bool} (h1 : kB ts "zero" = b1) (h2 : kB ts "one" = b2) (h3 : kB ts "cut" = b3) : kindsL ts = (if b1 = true then [Str.ofString "zero"] else []) ++ ((if b2 = true then [Str.ofString "one"] else []) ++ (if b3 = true then [Str.ofString "cut"] else [])) := by
  unfold kindsL
  rw [List.map_cons, List.map_cons, List.map_cons, List.filter_cons, List.filter_cons, List.filter_cons, h1, h2, h3]
  cases b1 <;> cases b2 <;> cases b3 <;> rfl
theorem tbp_price {t : TL} {x : Nat} (h : Told t) (hx : x < 2 ^ t.1) : atX (.tup (t.2.map toD)) (.int x) = some (.val (toD (atL t.2 x))) := by
  have hl : x < t.2.length := by rw [h.to.len]; exact hx
  apply Ok.eq
  simp [hl, atL_get hl]
theorem opU_non {t : TL} {x : Nat} : (!isNonD (toD (atL t.2 x))) = opU t.2 x := by unfold opU; cases atL t.2 x <;> rfl
theorem zero_comp {s0 s1 : Option SV} {PC : List D × Rho → Prop} (h2 : ts.length ≤ 16) (h : ∀ t ∈ ts, Told t) (w : PC ((ts.map fun t => opU t.2 0).map D.bl, [s0, s1, none])) :
    Ok (compL [2] (nameG 2) yesM (esc (binM isnG (binM atX (fldM [κ "Table"] "prices" (varM 2)) (constM (.int 0))) (constM .non))) (ts.map (TBp κ)) [] [s0, s1, none]) PC := by
  refine ok_comps (l := ts) (acc := []) (φ := TBp κ) (fun t => .bl (opU t.2 0)) (fun t ht => ?_) (by simp; exact sz_le (by omega)) ?_
  · have e2 := tbp_price (x := 0) (h t ht) (Nat.two_pow_pos _)
    simp at e2
    have e3 := opU_non (t := t) (x := 0)
    simp [TBp, e2] at e3 ⊢
    exact e3
  · rw [List.nil_append]
    rw [List.map_map] at w
    exact w
theorem one_comp {s0 s1 : Option SV} {PC : List D × Rho → Prop} (h2 : ts.length ≤ 16) (h : ∀ t ∈ ts, Told t) (w : PC ((ts.map fun t => opU t.2 (2 ^ t.1 - 1)).map D.bl, [s0, s1, none])) :
    Ok (compL [2] (nameG 2) yesM (esc (binM isnG (binM atX (fldM [κ "Table"] "prices" (varM 2)) (binM subG (biM lenX (consA (fldM [κ "Table"] "prices" (varM 2)) nilA)) (constM (.int 1)))) (constM .non))) (ts.map (TBp κ)) [] [s0, s1, none]) PC := by
  refine ok_comps (l := ts) (acc := []) (φ := TBp κ) (fun t => .bl (opU t.2 (2 ^ t.1 - 1))) (fun t ht => ?_) (by simp; exact sz_le (by omega)) ?_
  · have hp : 0 < 2 ^ t.1 := Nat.two_pow_pos _
    have e2 := tbp_price (x := 2 ^ t.1 - 1) (h t ht) (by omega)
    have e3 := opU_non (t := t) (x := 2 ^ t.1 - 1)
    have el : ((t.2.length : Nat) : Int) - 1 = ((2 ^ t.1 - 1 : Nat) : Int) := by rw [(h t ht).to.len]; omega
    have hl : 2 ^ t.1 - 1 < t.2.length := by rw [(h t ht).to.len]; omega
    have hg : t.2[2 ^ t.1 - 1]? = some (atL t.2 (2 ^ t.1 - 1)) := by rw [List.getElem?_eq_getElem hl, atL_get hl]
    simp at e3
    simp [TBp, el, hl, hg, atL_get hl, e3]
  · rw [List.nil_append]
    rw [List.map_map] at w
    exact w
theorem shD_non {R : List Nat} : (!isNonD (shD n R)) = (shO n R).isSome := by unfold shD; cases shO n R <;> rfl
theorem cut_comp {s0 s1 : Option SV} {PC : List D × Rho → Prop} (h2 : ts.length ≤ 16) (h : ∀ t ∈ ts, Told t) (w : PC ((ts.map fun t => (shO t.1 (openR t.1 t.2)).isSome).map D.bl, [s0, s1, none])) :
    Ok (compL [2] (nameG 2) yesM (esc (binM isnG (callM (m_shape κ) [] (consA (varM 2) nilA)) (constM .non))) (ts.map (TBp κ)) [] [s0, s1, none]) PC := by
  refine ok_comps (l := ts) (acc := []) (φ := TBp κ) (fun t => .bl (shO t.1 (openR t.1 t.2)).isSome) (fun t ht => ?_) (by simp; exact sz_le (by omega)) ?_
  · have e2 := shape_eq (κ := κ) (h t ht).to
    have e2' : m_shape κ [.val (TBp κ t)] = _ := e2
    have e3 := shD_non (n := t.1) (R := openR t.1 t.2)
    simp [e2', e3]
  · rw [List.nil_append]
    rw [List.map_map] at w
    exact w
theorem left_out_eq (h1 : 1 ≤ ts.length) (h2 : ts.length ≤ 16) (h : ∀ t ∈ ts, Told t) (hc : ∀ t ∈ ts, crB t = true) : m_left_out_kinds κ [.val (LOT κ ts)] = some (.val (.tup ((kindsL ts).map D.str)), [none]) := by
  have e1 := check_eq (κ := κ) h2 hc
  have z1 : (ts.map fun t => opU t.2 0).all id = kB ts "zero" := by rw [kB_zero, List.all_map]; rfl
  have z2 : (ts.map fun t => opU t.2 (2 ^ t.1 - 1)).all id = kB ts "one" := by rw [kB_one, List.all_map]; rfl
  have z3 : (ts.map fun t => (shO t.1 (openR t.1 t.2)).isSome).all id = kB ts "cut" := by rw [kB_cut, List.all_map]; rfl
  have t1 := tvs_bl (ts.map fun t => opU t.2 0)
  have t2 := tvs_bl (ts.map fun t => opU t.2 (2 ^ t.1 - 1))
  have t3 := tvs_bl (ts.map fun t => (shO t.1 (openR t.1 t.2)).isSome)
  apply Ok.eq
  rw [m_left_out_kinds, ok_fnM]
  simp [e1]
  refine zero_comp h2 h ?_
  simp [t1, z1, -List.all_map, -List.map_map]
  cases b1 : kB ts "zero" <;> simp [Br]
  all_goals
    refine one_comp h2 h ?_
    simp [t2, z2, -List.all_map, -List.map_map]
    cases b2 : kB ts "one" <;> simp [Br]
  all_goals
    refine cut_comp h2 h ?_
    simp [t3, z3, -List.all_map, -List.map_map]
    cases b3 : kB ts "cut" <;> simp [Br, kinds_def b1 b2 b3]
theorem left_outX_eq (h1 : 1 ≤ ts.length) (h2 : ts.length ≤ 16) (h : ∀ t ∈ ts, Told t) (hc : ∀ t ∈ ts, crB t = true) : Ok (x_left_out_kinds κ [.val (LOT κ ts)]) fun p => ∃ o post, p = .ok o post ∧ ∀ i, ¬ o = .var i := by
  have e1 := checkX_eq (κ := κ) h2 hc
  have z1 : (ts.map fun t => opU t.2 0).all id = kB ts "zero" := by rw [kB_zero, List.all_map]; rfl
  have z2 : (ts.map fun t => opU t.2 (2 ^ t.1 - 1)).all id = kB ts "one" := by rw [kB_one, List.all_map]; rfl
  have z3 : (ts.map fun t => (shO t.1 (openR t.1 t.2)).isSome).all id = kB ts "cut" := by rw [kB_cut, List.all_map]; rfl
  have t1 := tvs_bl (ts.map fun t => opU t.2 0)
  have t2 := tvs_bl (ts.map fun t => opU t.2 (2 ^ t.1 - 1))
  have t3 := tvs_bl (ts.map fun t => (shO t.1 (openR t.1 t.2)).isSome)
  rw [x_left_out_kinds, ok_fnX]
  simp [e1]
  refine zero_comp h2 h ?_
  simp [t1, z1, -List.all_map, -List.map_map]
  cases b1 : kB ts "zero" <;> simp [Br]
  all_goals
    refine one_comp h2 h ?_
    simp [t2, z2, -List.all_map, -List.map_map]
    cases b2 : kB ts "one" <;> simp [Br]
  all_goals
    refine cut_comp h2 h ?_
    simp [t3, z3, -List.all_map, -List.map_map]
    cases b3 : kB ts "cut" <;> simp [Br, kinds_def b1 b2 b3]
theorem refused_let {a : Int} (ha : a = 0 ∨ a = 1) (h1 : 1 ≤ ts.length) (h2 : ts.length ≤ 16) (h : ∀ t ∈ ts, Told t) (hc : ∀ t ∈ ts, crB t = true) : m__law_refused κ [.val (.int a), .val (LOT κ ts)] = some (.val (.str "let"), [none, none]) := by
  apply Ok.eq
  rw [m__law_refused, ok_fnM]
  rcases ha with rfl | rfl
  · simp [Br]
    refine (left_outX_eq h1 h2 h hc).imp ?_
    rintro _ ⟨o, post, rfl, hv⟩
    simp [hv]
  · simp [Br]
    refine (soft_lotX_eq h1 h2 h hc).imp ?_
    rintro _ ⟨o, post, rfl, hv⟩
    simp [hv]
theorem refused_at {a : Int} {at_ : Nat} {t : TL} (ha0 : a = 0 ∨ a = 1) (h2 : ts.length ≤ 16) (ha : ts[at_]? = some t) (hb : crB t = false) (h : ∀ t ∈ ts.take at_, crB t = true) : m__law_refused κ [.val (.int a), .val (LOT κ ts)] = some (.val (.int at_), [none, none]) := by
  have e1 := checkX_bad (κ := κ) h2 ha hb h
  have x1 : x_left_out_kinds κ [.val (LOT κ ts)] = some (.ex (κ "BadLot") "at" (.int at_) [none]) := by
    apply Ok.eq
    rw [x_left_out_kinds, ok_fnX]
    simp [e1]
  have x2 : x_soft_lot κ [.val (LOT κ ts)] = some (.ex (κ "BadLot") "at" (.int at_) [none]) := by
    apply Ok.eq
    rw [x_soft_lot, ok_fnX]
    simp [e1]
  apply Ok.eq
  rw [m__law_refused, ok_fnM]
  rcases ha0 with rfl | rfl <;> simp [x1, x2, Br]
end Ev.W

set_option Elab.async false
set_option linter.all false
set_option maxRecDepth 100000
set_option autoImplicit false
namespace Ev.W
open PySem PySem.Spec PyProof.Rows L2 Ev
variable {κ : String → Nat} {n : Nat} {L M : List OP} {ts : List TL}
/-- a rule: one price -/
structure RuleOk (t : TL) : Prop where
  n1 : 1 ≤ t.1
  n4 : t.1 ≤ 4
  len : t.2.length = 2 ^ t.1
  one : ∃ p : Int, 0 ≤ p ∧ p ≤ 1000 ∧ ∀ o ∈ t.2, o = none ∨ o = some p
  op : ∃ o ∈ t.2, o ≠ none
theorem RuleOk.told {t : TL} (h : RuleOk t) : Told t := by
  obtain ⟨p, p0, p1, hp⟩ := h.one
  have hv : ∀ k, some k ∈ t.2 → k = p := fun k hk => by
    rcases hp _ hk with e | e
    · cases e
    · cases e; rfl
  refine ⟨⟨h.n4, h.len, fun k hk => ?_⟩, h.n1, ?_, fun k hk => ?_⟩
  · rw [hv k hk]; omega
  · obtain ⟨o, ho, e⟩ := h.op
    obtain ⟨x, hx, rfl⟩ := List.mem_iff_getElem.1 ho
    refine ⟨x, by rw [← h.len]; exact hx, ?_⟩
    unfold opU
    rw [← atL_get hx]
    cases q : t.2[x]
    · exact absurd q e
    · rfl
  · rw [hv k hk]; omega
theorem RuleOk.cr {t : TL} (h : RuleOk t) : crB t = true := by
  obtain ⟨p, p0, p1, hp⟩ := h.one
  have hv : ∀ k, some k ∈ t.2 → k = p := fun k hk => by
    rcases hp _ hk with e | e
    · cases e
    · cases e; rfl
  obtain ⟨m1, e1⟩ := h.told.lo
  obtain ⟨m2, e2, _⟩ := h.told.hi
  unfold crB
  rw [e1, e2, hv _ (lo_some e1), hv _ (hi_some e2)]
  simp
theorem in_ex {x : Nat} {R : List Nat} : ∃ b, inX false (rowN n x) (.lst (R.map (rowN n))) = some (.val (.bl b)) := by
  have e : ∀ d ds, inX false d (.lst ds) = inE false d (.lst ds) := fun d ds => rfl
  have d2 := dep_rows (R.map (bs n))
  have h1 : toPy (rowN n x) = some (toPyR (bs n x)) := toPy_natT _
  have h2 : toPy (.lst (R.map (rowN n))) = some (.list ((R.map (bs n)).map toPyR)) := by
    have := toPys_rows (R.map (bs n))
    rw [List.map_map] at this
    rw [toPy]
    have e2 : R.map (rowN n) = R.map (natT ∘ bs n) := rfl
    rw [e2, this]
  rw [e]
  have hg : inG false (rowN n x) (.lst (R.map (rowN n))) = none := rfl
  unfold inE
  rw [hg, h1, h2]
  simp only [itemsP]
  rw [if_pos ⟨by simp [SeqAt.shaped, PyData.canLay0, PyData.depth, lay_row, dep_row, toPyR], by simp [SeqAt.shaped, PyData.canLay0, PyData.depth, lay_rows, -List.map_map]; omega⟩]
  exact ⟨_, rfl⟩
/-- prices of a rule while it is made -/
def OneP (p : Int) (d : D) : Prop := d = .non ∨ d = .int p
theorem low_ok {sv : SV} {ps : List D} {p : Int} {P : Opd × Rho → Prop} (hit : ∀ ρ, itI 0 ρ sv = some (ps, none, ρ)) (h : ∀ d ∈ ps, OneP p d) (w : ∀ v, ((v = .non ∧ ∀ d ∈ ps, d = .non) ∨ (v ∈ ps ∧ v = .int p)) → P (.val v, [none])) : Ok (m__law_low κ [sv]) P := by
  rw [m__law_low, ok_fnM]
  simp [hit]
  refine for_nx (fun k ρ => ∃ b x, ρ = [some sv, some (.val b), x] ∧ ((b = .non ∧ ∀ d ∈ ps.take k, d = .non) ∨ (b ∈ ps.take k ∧ b = .int p))) ⟨.non, none, rfl, .inl ⟨rfl, by simp⟩⟩ ?_ ?_
  · rintro k d ρ e hk ⟨b, x, rfl, hb⟩
    have hd := h d (List.mem_of_getElem? e)
    have ht : ∀ x, x ∈ ps.take (k + 1) ↔ x ∈ ps.take k ∨ x = d := fun x => by rw [List.take_add_one, e]; simp
    rcases hd with rfl | rfl <;> rcases hb with ⟨rfl, hb⟩ | ⟨hb, rfl⟩
    · simp [ht, Br]
      rintro d (h | h)
      · exact hb d h
      · exact h
    · simp [ht, Br]; exact hb
    · simp [ht, Br]
    · simp [ht, Br]
  · rintro ρ ⟨b, x, rfl, hb⟩
    simp
    exact w b (by simpa using hb)
theorem one_rule {ps : List D} {p : Int} (hn : 1 ≤ n) (h4 : n ≤ 4) (hl : ps.length = 2 ^ n) (p0 : 0 ≤ p) (p1 : p ≤ 1000) (h : ∀ d ∈ ps, OneP p d) (ho : ∃ d ∈ ps, d ≠ .non) : ∃ L, ps = L.map toD ∧ RuleOk (n, L) := by
  have hL : ∀ l : List D, (∀ d ∈ l, OneP p d) → ∃ L : List OP, l = L.map toD ∧ ∀ o ∈ L, o = none ∨ o = some p := fun l => by
    induction l with
    | nil => exact fun _ => ⟨[], rfl, fun o h => nomatch h⟩
    | cons d l ih =>
      intro hd
      obtain ⟨L, rfl, hL⟩ := ih fun d' h' => hd d' (List.mem_cons_of_mem _ h')
      rcases hd d (by simp) with rfl | rfl
      · exact ⟨none :: L, rfl, fun o h => by
          rcases List.mem_cons.1 h with rfl | h
          · exact .inl rfl
          · exact hL o h⟩
      · exact ⟨some p :: L, rfl, fun o h => by
          rcases List.mem_cons.1 h with rfl | h
          · exact .inr rfl
          · exact hL o h⟩
  obtain ⟨L, rfl, hL⟩ := hL ps h
  refine ⟨L, rfl, hn, h4, by simpa using hl, ⟨p, p0, p1, hL⟩, ?_⟩
  obtain ⟨d, hd, hne⟩ := ho
  obtain ⟨o, ho, rfl⟩ := List.mem_map.1 hd
  exact ⟨o, ho, fun e => hne (by rw [e]; rfl)⟩
theorem set_one {ps : List D} {p : Int} {k : Nat} {v : D} (h : ∀ d ∈ ps, OneP p d) (hv : OneP p v) : ∀ d ∈ ps.set k v, OneP p d := fun d hd => by
  rcases List.mem_or_eq_of_mem_set hd with hd | rfl
  · exact h d hd
  · exact hv
theorem opened_ok {s : D} {ps : List D} {p : Int} {P : Opd × Rho → Prop} (g : GD s) (h : ∀ d ∈ ps, OneP p d) (p0 : 0 ≤ p) (p1 : p ≤ 1000) (h1 : 1 ≤ ps.length) (h2 : ps.length ≤ 16)
    (w : ∀ ps' q s', ps'.length = ps.length → 0 ≤ q → q ≤ 1000 → (∀ d ∈ ps', OneP q d) → (∃ d ∈ ps', d ≠ .non) → GD s' → P (.val (.lst ps'), [some (.own s'), some (.val (.lst ps'))])) : Ok (m__law_opened κ [.own s, .own (.lst ps)]) P := by
  have a1 : (1 : Int) ≤ ps.length := by omega
  have a2 : (ps.length : Int) < 1606938044258990275541962092341162602522202993782792835301376 := by omega
  rw [m__law_opened, ok_fnM]
  simp
  refine low_ok (ps := ps) (p := p) (fun _ => rfl) h fun v hv => ?_
  rcases hv with ⟨rfl, hn⟩ | ⟨hm, rfl⟩
  · simp
    refine cost_ok g fun r s' r0 r1 g' => ?_
    have b1 := dR_lo (κ := κ) (k := ps.length) g' a1 a2
    have b2 := dR_hi (κ := κ) (k := ps.length) g' a1 a2
    simp [g', a1, a2]
    rw [ixN_pos b1 b2]
    simp
    refine w _ r _ (by simp) r0 r1 (set_one (fun d hd => .inl (hn d hd)) (.inr rfl)) ⟨_, List.mem_set (by omega) .., by simp⟩ (by simp [g', a1, a2])
  · simp [Br]
    exact w ps p s rfl p0 p1 h ⟨_, hm, by simp⟩ g
theorem crisp_ok {s : D} {P : Opd × Rho → Prop} {b : Int} (g : GD s) (hn : 1 ≤ n) (h4 : n ≤ 4) (w : ∀ L s', RuleOk (n, L) → GD s' → P (.val (DU n L), [some (.own s'), none, none])) : Ok (m__law_crisp κ [.own s, .val (.int n), .val (.int b)]) P := by
  obtain ⟨N, hN, hZ, a1, a2⟩ := pow_facts h4
  rw [m__law_crisp, ok_fnM]
  simp
  refine cost_ok g fun p s p0 p1 g => ?_
  simp [hZ]
  refine ⟨by omega, inR_nat (by omega), ?_⟩
  refine comp_st (fun k acc ρ => ∃ s, ρ = [some (.own s), some (.val (.int n)), some (.val (.int b)), some (.val (.int p)), none, none] ∧ acc.length = k ∧ (∀ d ∈ acc, OneP p d) ∧ GD s) ⟨s, rfl, rfl, (fun d hd => nomatch hd), g⟩ ?_ ?_
  · rintro k d acc ρ e hk ⟨s, rfl, hl, hp, g⟩
    simp at hk
    have hsz : acc.length < sizeLine := sz_lt (by omega)
    have hap : ∀ v, OneP p v → ∀ d ∈ acc ++ [v], OneP p d := fun v hv d hd => by
      rcases List.mem_append.1 hd with hd | hd
      · exact hp d hd
      · rw [List.mem_singleton.1 hd]; exact hv
    have h1 := hap .non (.inl rfl)
    have h2 := hap (.int p) (.inr rfl)
    simp [g]
    by_cases hq : dR κ s 8 < b
    · simp [hq, Br, hsz, hl, g]
      exact ⟨sz_lt (by omega), fun d hd => h1 d (by simpa using hd)⟩
    · simp [hq, Br, hsz, hl, g]
      exact ⟨sz_lt (by omega), fun d hd => h2 d (by simpa using hd)⟩
  · rintro acc ρ ⟨s, rfl, hl, hp, g⟩
    simp at hl
    simp
    refine opened_ok g hp p0 p1 (by omega) (by omega) fun ps q s' hl2 q0 q1 hq ho g => ?_
    obtain ⟨L, rfl, hr⟩ := one_rule hn h4 (by omega) q0 q1 hq ho
    simp
    exact w L s' hr g
theorem pow8 {n : Nat} (h4 : n ≤ 4) : (spots n).length ≤ 17 := by
  have := p16 h4
  simp [spots]; omega
theorem rule_ok {s : D} {P : Opd × Rho → Prop} (g : GD s) (w : ∀ t s', RuleOk t → GD s' → P (.val (DUp t), [some (.own s')])) : Ok (m__law_rule κ [.own s]) P := by
  rw [m__law_rule, ok_fnM]
  rw [ok_def, ok_seqM]
  refine Ok.imp (P := fun o => ∃ (n : Nat) (s : D), o = (.nx, [some (.own s), some (.val (.int n)), none, none, none, none, none, none, none, none, none]) ∧ 1 ≤ n ∧ n ≤ 4 ∧ GD s) ?_ ?_
  · simp
    refine rare_ok g (by omega) (by omega) fun b s g => ?_
    cases b
    · have c1 := dR_lo (κ := κ) (k := 3) g (by omega) (by omega)
      have c2 := dR_hi (κ := κ) (k := 3) g (by omega) (by omega)
      obtain ⟨m, hm⟩ : ∃ j : Nat, 1 + dR κ s 3 = j := ⟨(1 + dR κ s 3).toNat, by omega⟩
      simp [g, hm, Br]
      exact ⟨m, _, ⟨rfl, rfl⟩, by omega, by omega, by simp [g]⟩
    · simp [Br]
      exact ⟨4, s, ⟨rfl, rfl⟩, by omega, by omega, g⟩
  rintro _ ⟨n, s, rfl, hn, h4, g⟩
  obtain ⟨N, hN, hZ, a1, a2⟩ := pow_facts h4
  have hp := p16 h4
  have hsl := pow8 h4
  have c1 := dR_lo (κ := κ) (k := 4) g (by omega) (by omega)
  have c2 := dR_hi (κ := κ) (k := 4) g (by omega) (by omega)
  have g1 : GD (dS κ s 4) := by simp [g]
  simp [-ok_seqM]
  rw [ok_seqM]
  simp [g, -ok_seqM]
  rw [ok_seqM]
  generalize dR κ s 4 = p at c1 c2
  generalize dS κ s 4 = s at g1
  simp [g1, -ok_seqM]
  rw [ok_seqM]
  have g2 : GD (dS κ s 5) := by simp [g1]
  generalize dR κ s 5 = y
  generalize dS κ s 5 = s at g2
  by_cases hy : y = 4
  · simp [hy, g2]
    refine crisp_ok (by simp [g2]) hn h4 fun L s' hr g => ?_
    simp
    exact w (n, L) s' hr g
  · simp [hy, -ok_seqM]
    rw [ok_seqM]
    simp [spots_eq h4, -ok_seqM]
    rw [ok_seqM]
    simp [-ok_seqM]
    refine pick_bor g2 (by simp [spots]) (by simp; omega) fun j1 hj1 s g3 => ?_
    simp at hj1
    have ho : (spots n)[j1] ∈ spots n := List.getElem_mem hj1
    simp [-ok_seqM]
    rw [ok_seqM]
    simp [-ok_seqM]
    refine pick_bor g3 (by simp [spots]) (by simp; omega) fun j2 hj2 s g4 => ?_
    simp at hj2
    have hz : (spots n)[j2] ∈ spots n := List.getElem_mem hj2
    simp [-ok_seqM]
    rw [ok_seqM]
    simp [-ok_seqM]
    generalize (spots n)[j1] = o at ho
    generalize (spots n)[j2] = z at hz
    simp [law_shape_rows_eq h4 ho hz, -ok_seqM]
    rw [ok_seqM]
    generalize shR n o z = R
    simp [rows_eq' h4, -ok_seqM]
    refine comp_st (fun k acc ρ => ρ = [some (.own s), some (.val (.int n)), some (.val (.int p)), some (.val (.int y)), some (.own (.lst ((spots n).map spD))), some (.val (spD o)), some (.val (spD z)), some (.own (.lst (R.map (rowN n)))), none, none, none] ∧ acc.length = k ∧ (∀ d ∈ acc, OneP p d)) ⟨rfl, rfl, (fun d hd => nomatch hd)⟩ ?_ ?_
    · rintro k d acc ρ e hk ⟨rfl, hl, hp2⟩
      obtain ⟨x, hx, rfl⟩ := map_gen e
      simp at hk
      have hap : ∀ v, OneP p v → ∀ d ∈ acc ++ [v], OneP p d := fun v hv d hd => by
        rcases List.mem_append.1 hd with hd | hd
        · exact hp2 d hd
        · rw [List.mem_singleton.1 hd]; exact hv
      obtain ⟨b, hb⟩ := in_ex (n := n) (x := x) (R := R)
      simp [hb]
      cases b
      · simp [Br, hl]
        exact ⟨sz_lt (by omega), fun d hd => hap _ (.inl rfl) d (by simpa using hd)⟩
      · simp [Br, hl]
        exact ⟨sz_lt (by omega), fun d hd => hap _ (.inr rfl) d (by simpa using hd)⟩
    · rintro ps ρ ⟨rfl, hl, hp2⟩
      simp [hN] at hl
      simp [-ok_seqM]
      rw [ok_seqM]
      refine Ok.imp (P := fun q => ∃ (ps : List D) (s : D) (x9 : Option SV), q = (.nx, [some (.own s), some (.val (.int n)), some (.val (.int p)), some (.val (.int y)), some (.own (.lst ((spots n).map spD))), some (.val (spD o)), some (.val (spD z)), some (.own (.lst (R.map (rowN n)))), some (.own (.lst ps)), x9, none]) ∧ ps.length = N ∧ (∀ d ∈ ps, OneP p d) ∧ GD s) ?_ ?_
      · by_cases hy3 : y = 3
        · have a3 : (1 : Int) ≤ ps.length := by omega
          have a4 : (ps.length : Int) < 1606938044258990275541962092341162602522202993782792835301376 := by omega
          have b1 := dR_lo (κ := κ) (k := ps.length) g4 a3 a4
          have b2 := dR_hi (κ := κ) (k := ps.length) g4 a3 a4
          obtain ⟨j, hj⟩ : ∃ j : Nat, dR κ s ps.length = j := ⟨(dR κ s ps.length).toNat, by omega⟩
          have hjl : j < ps.length := by omega
          simp [hy3, g4, a3, a4, hj, hjl]
          have g5 : GD (dS κ s ps.length) := by simp [g4, a3, a4]
          exact Br.mk (fun _ => ⟨_, _, ⟨rfl, rfl⟩, by simp [hl], set_one hp2 (.inr rfl), g5⟩) (fun _ => ⟨_, _, ⟨rfl, rfl⟩, by simp [hl], set_one hp2 (.inl rfl), g5⟩)
        · simp [hy3, Br]
          exact ⟨ps, s, ⟨rfl, rfl⟩, hl, hp2, g4⟩
      rintro _ ⟨ps, s, x9, rfl, hl, hp2, g⟩
      simp [-ok_seqM]
      rw [ok_seqM]
      simp
      refine low_ok (ps := ps) (p := p) (fun _ => rfl) hp2 fun v hv => ?_
      rcases hv with ⟨rfl, hv⟩ | ⟨hv, rfl⟩
      · have a3 : (1 : Int) ≤ ps.length := by omega
        have a4 : (ps.length : Int) < 1606938044258990275541962092341162602522202993782792835301376 := by omega
        have b1 := dR_lo (κ := κ) (k := ps.length) g a3 a4
        have b2 := dR_hi (κ := κ) (k := ps.length) g a3 a4
        obtain ⟨j, hj⟩ : ∃ j : Nat, dR κ s ps.length = j := ⟨(dR κ s ps.length).toNat, by omega⟩
        have hjl : j < ps.length := by omega
        have g5 : GD (dS κ s ps.length) := by simp [g, a3, a4]
        obtain ⟨L, hL, hr⟩ := one_rule (ps := ps.set j (.int p)) hn h4 (by simp [hl, hN]) c1 (by omega) (set_one hp2 (.inr rfl)) ⟨_, List.mem_set (by omega) .., by simp⟩
        simp [g, a3, a4, hj, hjl, hL]
        exact w (n, L) _ hr g5
      · obtain ⟨L, rfl, hr⟩ := one_rule hn h4 (by rw [hN]; exact hl) c1 (by omega) hp2 ⟨_, hv, by simp⟩
        simp [Br]
        exact w (n, L) _ hr g
end Ev.W

set_option Elab.async false
set_option linter.all false
set_option maxRecDepth 100000
set_option autoImplicit false
namespace Ev.W
open PySem PySem.Spec PyProof.Rows L2 Ev
variable {κ : String → Nat} {n : Nat} {L M : List OP} {ts : List TL}
theorem nice_mono {k m : Nat} {d : D} (h : Nice k d) (hk : k ≤ m) : Nice m d := by
  obtain ⟨p, h1, h2, h3, h4⟩ := h
  exact ⟨p, h1, h2, by omega, h4⟩
theorem nice_natT (l : List Nat) : Nice 1 (natT l) := nice_tup fun d hd => by
  obtain ⟨x, _, rfl⟩ := List.mem_map.1 hd
  exact nice_int _
theorem nice_spD (o : Option (List Nat)) : Nice 1 (spD o) := by
  cases o
  · exact nice_mono nice_non (by omega)
  · exact nice_natT _
theorem nice_shD (R : List Nat) : Nice 2 (shD n R) := by
  unfold shD
  cases shO n R with
  | none => exact nice_mono nice_non (by omega)
  | some p =>
    exact nice_tup fun d hd => by
      simp only [List.mem_cons, List.not_mem_nil, or_false] at hd
      rcases hd with rfl | rfl
      · exact nice_spD _
      · exact nice_spD _
theorem nice_rows (R : List Nat) : Nice 2 (.lst (R.map (rowN n))) := nice_lst fun d hd => by
  obtain ⟨x, _, rfl⟩ := List.mem_map.1 hd
  exact nice_natT _
theorem nice_str {a : Str} (h : PyData.strOk a = true) : Nice 0 (.str a) := ⟨.str a, rfl, by simp [PyData.canLay0, h], by simp [PyData.depth], by simp [PyData.eqv]⟩
theorem nice_kinds : Nice 1 (.lst ((kindsL ts).map D.str)) := nice_lst fun d hd => by
  obtain ⟨x, hx, rfl⟩ := List.mem_map.1 hd
  unfold kindsL at hx
  have hx2 := (List.mem_filter.1 hx).1
  simp at hx2
  rcases hx2 with rfl | rfl | rfl
  · exact nice_str str_zero
  · exact nice_str str_one
  · exact nice_str str_cut
theorem kept_eq {w : Str} {sv : SV} (hit : ∀ ρ, itI 1 ρ sv = some (ts.map fun t => DUp (softT t), none, ρ)) (h2 : ts.length ≤ 16) (h : ∀ t ∈ ts, Told t) (hw : w ∈ ["zero", "one", "cut"].map Str.ofString) : m__law_kept κ [.val (.str w), sv] = some (.val (.bl (kB ts w)), [none, none]) := by
  apply Ok.eq
  rw [m__law_kept, ok_fnM]
  simp [hit]
  refine ok_comps (l := ts) (acc := []) (φ := fun t => DUp (softT t)) (fun t => .bl (kindB t.1 t.2 w)) (fun t ht => ?_) (by simp; exact sz_le (by omega)) ?_
  · have e := keeps_eq (κ := κ) (w := w) (h t ht).to.n4 (h t ht).op hw
    simp [DUp, DU, softT, e]
  · have e : tvs (ts.map fun t => D.bl (kindB t.1 t.2 w)) = some (ts.map fun t => kindB t.1 t.2 w) := tvs_mapb _ _
    have e6 : (ts.map fun t => kindB t.1 t.2 w).all id = kB ts w := by rw [List.all_map]; rfl
    rw [List.nil_append]
    simp [e, e6, -List.all_map]
def oddT (a b : Int) : TL := (1, [some a, some b])
theorem odd_told {a b : Int} (a0 : 0 ≤ a) (a1 : a ≤ 2) (b0 : 3 ≤ b) (b1 : b ≤ 5) : Told (oddT a b) ∧ crB (oddT a b) = false := by
  have hv : ∀ k, some k ∈ (oddT a b).2 → k = a ∨ k = b := fun k hk => by
    simp [oddT] at hk
    exact hk
  refine ⟨⟨⟨by simp [oddT], rfl, fun k hk => ?_⟩, by simp [oddT], ⟨0, by simp [oddT], rfl⟩, fun k hk => ?_⟩, ?_⟩
  · rcases hv k hk with rfl | rfl <;> omega
  · rcases hv k hk with rfl | rfl <;> omega
  · have e1 : lo (oddT a b).2 = some a := by
      show (if a ≤ b then some a else some b) = some a
      rw [if_pos (by omega)]
    have e2 : hi (oddT a b).2 = some b := by
      simp [oddT, hi, hiO]
      omega
    unfold crB
    rw [e1, e2]
    exact decide_eq_false fun q => by cases q; omega
theorem odd_D {a b : Int} : DUp (oddT a b) = .tup [.int 1, .tup [.int a, .int b]] := rfl
end Ev.W

set_option Elab.async false
set_option linter.all false
set_option maxRecDepth 100000
set_option autoImplicit false
namespace Ev.W
open PySem PySem.Spec PyProof.Rows L2 Ev
variable {κ : String → Nat} {n : Nat} {L M : List OP} {ts : List TL}
theorem rules_ok {s x0 : D} {N : Nat} {PC : List D × Rho → Prop} (g : GD s) (hN : N ≤ 3)
    (w : ∀ (ts : List TL) s', ts.length = N → (∀ t ∈ ts, RuleOk t) → GD s' → PC (ts.map DUp, [some (.val x0), some (.own s'), none, none, none, none, none, none, none, none, none, none, none, none, none, none])) :
    Ok (compL [14] (nameG 14) yesM (esc (callM (m__law_rule κ) [0] (consA (varM 1) nilA))) (rangeD 0 N) [] [some (.val x0), some (.own s), none, none, none, none, none, none, none, none, none, none, none, none, none, none]) PC := by
  refine comp_st (fun k acc ρ => ∃ s ts, acc = ts.map DUp ∧ ρ = [some (.val x0), some (.own s), none, none, none, none, none, none, none, none, none, none, none, none, none, none] ∧ ts.length = k ∧ (∀ t ∈ ts, RuleOk t) ∧ GD s) ⟨s, [], rfl, rfl, rfl, by simp, g⟩ ?_ ?_
  · rintro k d acc ρ e hk ⟨s, L, rfl, rfl, hl, hp, g⟩
    simp at hk
    simp
    refine rule_ok g fun t s' ht g' => ?_
    simp
    refine ⟨sz_lt (by omega), s', L ++ [t], by simp, rfl, by simp [hl], fun a b hab => ?_, g'⟩
    rcases List.mem_append.1 hab with hn | hn
    · exact hp _ hn
    · rw [List.mem_singleton.1 hn]; exact ht
  · rintro acc ρ ⟨s, L, rfl, rfl, hl, hp, g⟩
    simp at hl
    exact w L s hl hp g
theorem cutD_lo {xs : List D} {k : Nat} (h : k ≤ xs.length) : cutD (.lst xs) none (some (k : Int)) = some (.tmp (.lst (xs.take k))) := by
  dsimp only [cutD, cutL]
  rw [HT.sIx_none, HT.sIx_nat, Nat.min_eq_left h]; simp
theorem cutD_hi {xs : List D} {k : Nat} (h : k ≤ xs.length) : cutD (.lst xs) (some (k : Int)) none = some (.tmp (.lst (xs.drop k))) := by
  dsimp only [cutD, cutL]
  rw [HT.sIx_none, HT.sIx_nat, Nat.min_eq_left h, List.take_of_length_le (by simp)]
theorem nice_toDs (L : List OP) : Nice 1 (.tup (L.map toD)) := nice_tup fun d hd => by
  obtain ⟨x, _, rfl⟩ := List.mem_map.1 hd
  cases x
  · exact nice_non
  · exact nice_int _
set_option maxHeartbeats 1000000 in
theorem law_true (κ : String → Nat) (ns : List Int) (h : ns.length ≤ 63) : ∃ post, m_law κ [.val (.rol (ns.map D.int))] = some (.val (.bl true), post) := by
  have go : Ok (m_law κ [.val (.rol (ns.map D.int))]) fun p => p.1 = .val (.bl true) := by
    rw [m_law, ok_fnM]
    rw [ok_def, ok_seqM]
    simp [-ok_seqM]
    refine begin_ok h fun s g => ?_
    simp [-ok_seqM]
    rw [ok_seqM]
    have a1 := dR_lo (κ := κ) (k := 3) g (by omega) (by omega)
    have a2 := dR_hi (κ := κ) (k := 3) g (by omega) (by omega)
    have g1 : GD (dS κ s 3) := by simp [g]
    obtain ⟨N, hN⟩ : ∃ j : Nat, 1 + dR κ s 3 = j := ⟨(1 + dR κ s 3).toNat, by omega⟩
    simp [g, hN, -ok_seqM]
    refine ⟨inR_nat (by omega), ?_⟩
    refine rules_ok g1 (by omega) fun ts s hl hr g => ?_
    have hT : ∀ t ∈ ts, Told t := fun t ht => (hr t ht).told
    have hC : ∀ t ∈ ts, crB t = true := fun t ht => (hr t ht).cr
    simp [-ok_seqM]
    rw [ok_seqM]
    simp [-ok_seqM]
    refine for_nx (fun k ρ => ∃ x3 x7 x12 x13, ρ = [some (.val (.rol (ns.map D.int))), some (.own s), some (.lck (.lst (ts.map DUp))), x3, none, none, none, x7, none, none, none, none, x12, x13, none, none] ∧ (∀ sv, x13 = some sv → sv.ob = false)) ⟨none, none, none, none, rfl, (fun sv h => nomatch h)⟩ ?_ ?_
    · rintro k d ρ e hk ⟨x3, x7, x12, x13, rfl, hx13⟩
      obtain ⟨t, ht, rfl⟩ := map_gen e
      have hto := (hT t (List.mem_of_getElem? ht)).to
      have e1 := init_eq (κ := κ) hto
      have e2 := shape_eq (κ := κ) hto
      have e3 := law_shape_eq (κ := κ) hto
      have e4 := softened_eq (κ := κ) hto
      have e5 := law_softened_eq (κ := κ) hto
      have e6 := neG_self (nice_shD (n := t.1) (openR t.1 t.2)) (show 2 ≤ 64 by omega)
      simp [DUp, DU] at e3 e5 ⊢
      have e7 := neG_self (nice_toDs (softL t.1 t.2)) (show 1 ≤ 64 by omega)
      simp [e1, e2, e3, e4, e5, e6, e7, Br]
    rintro ρ ⟨x3, x7, x12, x13, rfl, hx13⟩
    simp [-ok_seqM]
    rw [ok_seqM]
    have b1 := dR_lo (κ := κ) (k := 3) g (by omega) (by omega)
    have b2 := dR_hi (κ := κ) (k := 3) g (by omega) (by omega)
    have g2 : GD (dS κ s 3) := by simp [g]
    obtain ⟨n, hn⟩ : ∃ j : Nat, 1 + dR κ s 3 = j := ⟨(1 + dR κ s 3).toNat, by omega⟩
    have h4 : n ≤ 4 := by omega
    have hsl := pow8 h4
    simp [g, hn, -ok_seqM]
    rw [ok_seqM]
    simp [spots_eq h4, -ok_seqM]
    refine pick_ok g2 (.inr rfl) (by simp [spots]) (by simp; omega) fun j1 hj1 s g3 => ?_
    simp at hj1
    have ho : (spots n)[j1] ∈ spots n := List.getElem_mem hj1
    simp [-ok_seqM]
    rw [ok_seqM]
    simp [spots_eq h4, -ok_seqM]
    refine pick_ok g3 (.inr rfl) (by simp [spots]) (by simp; omega) fun j2 hj2 s g4 => ?_
    simp at hj2
    have hz : (spots n)[j2] ∈ spots n := List.getElem_mem hj2
    simp [-ok_seqM]
    rw [ok_seqM]
    simp [-ok_seqM]
    generalize (spots n)[j1] = o at ho
    generalize (spots n)[j2] = z at hz
    have e6 := neG_self (nice_rows (n := n) (shR n o z)) (show 2 ≤ 64 by omega)
    simp [shape_rows_eq h4 ho hz, law_shape_rows_eq h4 ho hz, e6, Br, -ok_seqM]
    have hN1 : 1 ≤ ts.length := by omega
    have hN3 : ts.length ≤ 3 := by omega
    have hST : ∀ t ∈ ts.map softT, Told t := fun t ht => by
      obtain ⟨u, hu, rfl⟩ := List.mem_map.1 ht
      exact softT_told (hT u hu)
    have l1 := lot_of_eq (κ := κ) (sv := .bor (.lst (ts.map DUp))) (fun _ => rfl) hN1 (by omega) hT
    have l2 := lot_of_eq (κ := κ) (ts := ts.map softT) (sv := .bor (.lst (ts.map fun t => DUp (softT t)))) (fun _ => by rw [List.map_map]; rfl) (by simpa using hN1) (by simp; omega) hST
    have l3 := left_out_eq (κ := κ) hN1 (by omega) hT hC
    have l4 := soft_lot_eq (κ := κ) hN1 (by omega) hT hC
    have l5 := lot_eq (κ := κ) (ts := ts.map softT)
    have l6 := neG_self (nice_kinds (ts := ts)) (show 1 ≤ 64 by omega)
    rw [ok_seqM]
    simp [l1, -ok_seqM]
    rw [ok_seqM]
    simp [-ok_seqM]
    refine ⟨?_, ?_⟩
    · rcases x13 with _ | sv
      · rfl
      · simp [hx13 sv rfl]
    refine ok_comps (l := ts) (acc := []) (φ := DUp) (fun t => DUp (softT t)) (fun t ht => ?_) (by simp; exact sz_le (by omega)) ?_
    · have e5 := law_softened_eq (κ := κ) (hT t ht).to
      have e5' : m__law_softened κ [.val (DUp t)] = some (.val (DUp (softT t)), [none]) := e5
      simp [e5']
    rw [List.nil_append]
    simp [-ok_seqM, -List.map_map]
    rw [ok_seqM]
    simp [-ok_seqM, -List.map_map]
    have e0 : [D.str "zero", D.str "one", D.str "cut"] = (["zero", "one", "cut"].map Str.ofString).map D.str := rfl
    rw [e0]
    refine ok_comp (l := ["zero", "one", "cut"].map Str.ofString) (acc := []) (φ := D.str) (kB ts) D.str (fun w hw => ?_) (by simp) ?_
    · have e := kept_eq (κ := κ) (w := w) (sv := .bor (.lst (ts.map fun t => DUp (softT t)))) (fun _ => rfl) (by omega) hT hw
      simp [e, -List.map_map]
      cases kB ts w <;> simp [Br]
    have e9 : ([] ++ ((["zero", "one", "cut"].map Str.ofString).filter (kB ts)).map D.str) = (kindsL ts).map D.str := rfl
    rw [e9]
    simp [-ok_seqM, -List.map_map]
    rw [ok_seqM]
    simp [-ok_seqM, -List.map_map, l2, l3, l4, l5, l6, Br]
    rw [ok_seqM]
    have p1 : (1 : Int) ≤ (ts.length : Int) + 1 := by omega
    have p2 : (ts.length : Int) + 1 < 1606938044258990275541962092341162602522202993782792835301376 := by omega
    have c1 := dR_lo (κ := κ) g4 p1 p2
    have c2 := dR_hi (κ := κ) g4 p1 p2
    have g5 : GD (dS κ s ((ts.length : Int) + 1)) := by simp [g4, p1, p2]
    obtain ⟨at_, hat⟩ : ∃ j : Nat, dR κ s ((ts.length : Int) + 1) = j := ⟨(dR κ s ((ts.length : Int) + 1)).toNat, by omega⟩
    have hal : at_ ≤ ts.length := by omega
    simp [-ok_seqM, -List.map_map, g4, p1, p2, hat]
    rw [ok_seqM]
    generalize dS κ s ((ts.length : Int) + 1) = s at g5
    have u1 := dR_lo (κ := κ) (k := 3) g5 (by omega) (by omega)
    have u2 := dR_hi (κ := κ) (k := 3) g5 (by omega) (by omega)
    have g6 : GD (dS κ s 3) := by simp [g5]
    have u3 := dR_lo (κ := κ) (k := 3) g6 (by omega) (by omega)
    have u4 := dR_hi (κ := κ) (k := 3) g6 (by omega) (by omega)
    have g7 : GD (dS κ (dS κ s 3) 3) := by simp [g6]
    simp [-ok_seqM, -List.map_map, g5, g6]
    rw [ok_seqM]
    generalize dR κ (dS κ s 3) 3 = b at u3 u4
    generalize dS κ (dS κ s 3) 3 = s2 at g7
    generalize dR κ s 3 = a at u1 u2
    have k1 := cutD_lo (xs := ts.map DUp) (k := at_) (by simpa using hal)
    have k2 := cutD_hi (xs := ts.map DUp) (k := at_) (by simpa using hal)
    have z : ∀ n, n ≤ 1000 → n ≤ sizeLine := fun n hn => sz_le (by omega)
    simp (disch := first | (simp; done) | omega) [-ok_seqM, -List.map_map, k1, k2, z]
    obtain ⟨od1, od2⟩ := odd_told (a := a) (b := 3 + b) u1 (by omega) (by omega) (by omega)
    have eW : (ts.map DUp).take at_ ++ D.tup [D.int 1, D.tup [D.int a, D.int (3 + b)]] :: (ts.map DUp).drop at_ = (ts.take at_ ++ oddT a (3 + b) :: ts.drop at_).map DUp := by
      rw [List.map_append, List.map_cons, List.map_take, List.map_drop, odd_D]
    have hWl : (ts.take at_ ++ oddT a (3 + b) :: ts.drop at_).length = ts.length + 1 := by simp; omega
    have hWt : ∀ t ∈ ts.take at_ ++ oddT a (3 + b) :: ts.drop at_, Told t := fun t ht => by
      rcases List.mem_append.1 ht with ht | ht
      · exact hT t (List.mem_of_mem_take ht)
      · rcases List.mem_cons.1 ht with rfl | ht
        · exact od1
        · exact hT t (List.mem_of_mem_drop ht)
    have hWa : (ts.take at_ ++ oddT a (3 + b) :: ts.drop at_)[at_]? = some (oddT a (3 + b)) := by
      rw [List.getElem?_append_right (by simp; omega)]
      simp [Nat.min_eq_left hal]
    have hWc : ∀ t ∈ (ts.take at_ ++ oddT a (3 + b) :: ts.drop at_).take at_, crB t = true := fun t ht => by
      rw [List.take_append_of_le_length (by simp [Nat.min_eq_left hal]), List.take_take, Nat.min_self] at ht
      exact hC t (List.mem_of_mem_take ht)
    rw [eW]
    generalize ts.take at_ ++ oddT a (3 + b) :: ts.drop at_ = W at *
    have w1 := lot_of_eq (κ := κ) (ts := W) (sv := .val (.lst (W.map DUp))) (fun _ => rfl) (by omega) (by omega) hWt
    have v1 := dR_lo (κ := κ) (k := 2) g7 (by omega) (by omega)
    have v2 := dR_hi (κ := κ) (k := 2) g7 (by omega) (by omega)
    have g8 : GD (dS κ s2 2) := by simp [g7]
    have v3 := dR_lo (κ := κ) (k := 2) g8 (by omega) (by omega)
    have v4 := dR_hi (κ := κ) (k := 2) g8 (by omega) (by omega)
    have r1 := refused_at (κ := κ) (a := dR κ s2 2) (ts := W) (by omega) (by omega) hWa od2 hWc
    have r2 := refused_let (κ := κ) (a := dR κ (dS κ s2 2) 2) (ts := ts) (by omega) hN1 (by omega) hT hC
    have r3 := eqG_str (a := "let") (b := "let") (by decide +kernel) (by decide +kernel)
    simp [w1, g7, g8, r1, r2, r3, Br]
  obtain ⟨⟨o, post⟩, e, rfl⟩ := go
  exact ⟨post, e⟩
end Ev.W

set_option Elab.async false
set_option linter.all false
set_option maxRecDepth 100000
set_option autoImplicit false
namespace Ev.W
open PySem PySem.Spec PyProof.Rows L2 Ev
set_option maxHeartbeats 0 in
/-- all defs, one upon the other -/
theorem all_ok {l : PySem.W.OpenLaw} {w : World} {K : PySem.W.Frag} {mg : Str → Option Value} {fa : Addr} {CP : Addr} (pb : ExcBase K mg CP (.type "type")) (κ : String → Nat) (hfa : mg "law" = some (.ref fa)) (b : Bl K mg κ)
    (t_Lot : ClsAt K mg "Lot" (κ "Lot"))
    (t_Table : ClsAt K mg "Table" (κ "Table"))
    (d_is_whole : DefAt K mg "is_whole" s_is_whole)
    (d_lower : DefAt K mg "lower" s_lower)
    (d_lowest : DefAt K mg "lowest" s_lowest)
    (d_highest : DefAt K mg "highest" s_highest)
    (d_bits_of : DefAt K mg "bits_of" s_bits_of)
    (d_row_of : DefAt K mg "row_of" s_row_of)
    (d_rows_of : DefAt K mg "rows_of" s_rows_of)
    (d_Table____init__ : MethAt K (κ "Table") "__init__" "Table.__init__" s_Table____init__)
    (d_swapped : DefAt K mg "swapped" s_swapped)
    (d_is_told : DefAt K mg "is_told" s_is_told)
    (d_softened : DefAt K mg "softened" s_softened)
    (d_Table__crisp : PropAt K (κ "Table") "crisp" "Table.crisp" s_Table__crisp)
    (d_check_rules : DefAt K mg "check_rules" s_check_rules)
    (d_Table____eq__ : MethAt K (κ "Table") "__eq__" "Table.__eq__" s_Table____eq__)
    (d_Lot____init__ : MethAt K (κ "Lot") "__init__" "Lot.__init__" s_Lot____init__)
    (d_soft_lot : DefAt K mg "soft_lot" s_soft_lot)
    (d_shape_rows : DefAt K mg "shape_rows" s_shape_rows)
    (d_Table__open_numbers : MethAt K (κ "Table") "open_numbers" "Table.open_numbers" s_Table__open_numbers)
    (d_Table__open_rows : MethAt K (κ "Table") "open_rows" "Table.open_rows" s_Table__open_rows)
    (d_shape : DefAt K mg "shape" s_shape)
    (d_left_out_kinds : DefAt K mg "left_out_kinds" s_left_out_kinds)
    (d__law_begin : DefAt K mg "_law_begin" s__law_begin)
    (d__law_draw : DefAt K mg "_law_draw" s__law_draw)
    (d__law_pick : DefAt K mg "_law_pick" s__law_pick)
    (d__law_rare : DefAt K mg "_law_rare" s__law_rare)
    (d__law_row : DefAt K mg "_law_row" s__law_row)
    (d__law_rows : DefAt K mg "_law_rows" s__law_rows)
    (d__law_sum : DefAt K mg "_law_sum" s__law_sum)
    (d__law_low : DefAt K mg "_law_low" s__law_low)
    (d__law_times : DefAt K mg "_law_times" s__law_times)
    (d__law_above : DefAt K mg "_law_above" s__law_above)
    (d__law_most : DefAt K mg "_law_most" s__law_most)
    (d__law_breach_one : DefAt K mg "_law_breach_one" s__law_breach_one)
    (d__law_breach_two : DefAt K mg "_law_breach_two" s__law_breach_two)
    (d__law_breach_three : DefAt K mg "_law_breach_three" s__law_breach_three)
    (d__law_keeps : DefAt K mg "_law_keeps" s__law_keeps)
    (d__law_kept : DefAt K mg "_law_kept" s__law_kept)
    (d__law_cost : DefAt K mg "_law_cost" s__law_cost)
    (d__law_opened : DefAt K mg "_law_opened" s__law_opened)
    (d__law_crisp : DefAt K mg "_law_crisp" s__law_crisp)
    (d__law_shape_rows : DefAt K mg "_law_shape_rows" s__law_shape_rows)
    (d__law_spots : DefAt K mg "_law_spots" s__law_spots)
    (d__law_shape : DefAt K mg "_law_shape" s__law_shape)
    (d__law_rule : DefAt K mg "_law_rule" s__law_rule)
    (d__law_softened : DefAt K mg "_law_softened" s__law_softened)
    (d__law_refused : DefAt K mg "_law_refused" s__law_refused)
    (d__law_lot_of : DefAt K mg "_law_lot_of" s__law_lot_of)
    (d_Lot____eq__ : MethAt K (κ "Lot") "__eq__" "Lot.__eq__" s_Lot____eq__)
    (d_law : DefAt K mg "law" s_law)
    (d_BadLot____init__ : MethAt K (κ "BadLot") "__init__" "BadLot.__init__" s_BadLot____init__)
    : ∃ fd : FuncData, (∀ (s : Shared) (u : Value), BindsTo s fd ⟨[u], []⟩ [("script", u)]) ∧ ∀ base : Heap, K.In base → base.Ns mainGlobals mg → FnOk l.prog w K mg base CX0 10 fa fd ["script"] (spTrue K) := by
  obtain ⟨f, fd, F, hm⟩ := d_law.ex
  have e := hfa.symm.trans hm
  cases e
  refine ⟨fd, fun s u => ?_, fun base _ _ => ?_⟩
  · obtain ⟨_, _, _, _, _, _, _, _, _, rfl, _, _⟩ := F.ex
    exact .of_eq rfl
  · have e_BadLot : ExcOf l.prog w K mg base "BadLot" (κ "BadLot") "at" false := exc_of (ps := ["self", "at"]) b.ea_BadLot d_BadLot____init__ (fun F => ok_BadLot____init__ F b.ea_BadLot.T b.ea_BadLot.nof pb) fun _ _ _ _ _ _ us hl => match us, hl with | [_, _], _ => rfl
    have c_is_whole : Callee l.prog w K mg base 1 "is_whole" 3 (m_is_whole κ) := callee_of (ps := ["value", "low", "high"]) d_is_whole (fun F => ok_is_whole F b ) fun _ _ _ _ _ _ us hl => match us, hl with | [_, _, _], _ => rfl
    have c_lower : Callee l.prog w K mg base 1 "lower" 2 (m_lower κ) := callee_of (ps := ["first", "second"]) d_lower (fun F => ok_lower F b ) fun _ _ _ _ _ _ us hl => match us, hl with | [_, _], _ => rfl
    have c_lowest : Callee l.prog w K mg base 2 "lowest" 1 (m_lowest κ) := callee_of (ps := ["prices"]) d_lowest (fun F => ok_lowest F b c_lower) fun _ _ _ _ _ _ us hl => match us, hl with | [_], _ => rfl
    have c_highest : Callee l.prog w K mg base 1 "highest" 1 (m_highest κ) := callee_of (ps := ["prices"]) d_highest (fun F => ok_highest F b ) fun _ _ _ _ _ _ us hl => match us, hl with | [_], _ => rfl
    have c_bits_of : Callee l.prog w K mg base 1 "bits_of" 2 (m_bits_of κ) := callee_of (ps := ["mask", "many"]) d_bits_of (fun F => ok_bits_of F b ) fun _ _ _ _ _ _ us hl => match us, hl with | [_, _], _ => rfl
    have c_row_of : Callee l.prog w K mg base 1 "row_of" 2 (m_row_of κ) := callee_of (ps := ["number", "places"]) d_row_of (fun F => ok_row_of F b ) fun _ _ _ _ _ _ us hl => match us, hl with | [_, _], _ => rfl
    have c_rows_of : Callee l.prog w K mg base 2 "rows_of" 1 (m_rows_of κ) := callee_of (ps := ["places"]) d_rows_of (fun F => ok_rows_of F b c_row_of) fun _ _ _ _ _ _ us hl => match us, hl with | [_], _ => rfl
    have c_Table____init__ : MakerOf l.prog w K mg base 3 "Table" (κ "Table") 3 (m_Table____init__ κ) := maker_of (ps := ["self", "places", "prices"]) t_Table d_Table____init__ (fun F => ok_Table____init__ F b c_highest c_is_whole c_lowest) fun _ _ _ _ _ _ us hl => match us, hl with | [_, _, _], _ => rfl
    have c_swapped : Callee l.prog w K mg base 5 "swapped" 1 (m_swapped κ) := callee_of (ps := ["table"]) d_swapped (fun F => ok_swapped F b c_Table____init__) fun _ _ _ _ _ _ us hl => match us, hl with | [_], _ => rfl
    have c_is_told : Callee l.prog w K mg base 1 "is_told" 1 (m_is_told κ) := callee_of (ps := ["table"]) d_is_told (fun F => ok_is_told F b ) fun _ _ _ _ _ _ us hl => match us, hl with | [_], _ => rfl
    have c_softened : Callee l.prog w K mg base 5 "softened" 1 (m_softened κ) := callee_of (ps := ["table"]) d_softened (fun F => ok_softened F b c_Table____init__) fun _ _ _ _ _ _ us hl => match us, hl with | [_], _ => rfl
    have c_Table__crisp : PropOn l.prog w K mg base 1 (κ "Table") "crisp" (m_Table__crisp κ) := propon_of (ps := ["self"]) t_Table.cl d_Table__crisp (fun F => ok_Table__crisp F b ) fun _ _ _ _ _ _ us hl => match us, hl with | [_], _ => rfl
    have c_check_rules : Callee l.prog w K mg base 3 "check_rules" 1 (m_check_rules κ) := callee_of (ps := ["lot"]) d_check_rules (fun F => ok_check_rules F b c_Table__crisp) fun _ _ _ _ _ _ us hl => match us, hl with | [_], _ => rfl
    have c_Table____eq__ : OwnOp l.prog w K mg base 1 (κ "Table") "__eq__" (m_Table____eq__ κ) := ownop_of (ps := ["self", "other"]) d_Table____eq__ (fun F => ok_Table____eq__ F b ) fun _ _ _ _ _ _ us hl => match us, hl with | [_, _], _ => rfl
    have c_Lot____init__ : MakerOf l.prog w K mg base 6 "Lot" (κ "Lot") 2 (m_Lot____init__ κ) := maker_of (ps := ["self", "tables"]) t_Lot d_Lot____init__ (fun F => ok_Lot____init__ F b c_Table____eq__ c_is_told c_swapped) fun _ _ _ _ _ _ us hl => match us, hl with | [_, _], _ => rfl
    have c_soft_lot : Callee l.prog w K mg base 8 "soft_lot" 1 (m_soft_lot κ) := callee_of (ps := ["lot"]) d_soft_lot (fun F => ok_soft_lot F b c_Lot____init__ c_check_rules c_softened) fun _ _ _ _ _ _ us hl => match us, hl with | [_], _ => rfl
    have c_shape_rows : Callee l.prog w K mg base 3 "shape_rows" 3 (m_shape_rows κ) := callee_of (ps := ["places", "ones", "zeros"]) d_shape_rows (fun F => ok_shape_rows F b c_rows_of) fun _ _ _ _ _ _ us hl => match us, hl with | [_, _, _], _ => rfl
    have c_Table__open_numbers : MethOf l.prog w K mg base 1 (κ "Table") "open_numbers" 1 (m_Table__open_numbers κ) := methof_of (ps := ["self"]) t_Table.cl d_Table__open_numbers (fun F => ok_Table__open_numbers F b ) fun _ _ _ _ _ _ us hl => match us, hl with | [_], _ => rfl
    have c_Table__open_rows : MethOf l.prog w K mg base 2 (κ "Table") "open_rows" 1 (m_Table__open_rows κ) := methof_of (ps := ["self"]) t_Table.cl d_Table__open_rows (fun F => ok_Table__open_rows F b c_Table__open_numbers c_row_of) fun _ _ _ _ _ _ us hl => match us, hl with | [_], _ => rfl
    have c_shape : Callee l.prog w K mg base 4 "shape" 1 (m_shape κ) := callee_of (ps := ["table"]) d_shape (fun F => ok_shape F b c_Table__open_rows c_bits_of c_shape_rows) fun _ _ _ _ _ _ us hl => match us, hl with | [_], _ => rfl
    have c_left_out_kinds : Callee l.prog w K mg base 5 "left_out_kinds" 1 (m_left_out_kinds κ) := callee_of (ps := ["lot"]) d_left_out_kinds (fun F => ok_left_out_kinds F b c_check_rules c_shape) fun _ _ _ _ _ _ us hl => match us, hl with | [_], _ => rfl
    have c__law_begin : Callee l.prog w K mg base 1 "_law_begin" 1 (m__law_begin κ) := callee_of (ps := ["script"]) d__law_begin (fun F => ok__law_begin F b ) fun _ _ _ _ _ _ us hl => match us, hl with | [_], _ => rfl
    have c__law_draw : Callee l.prog w K mg base 1 "_law_draw" 2 (m__law_draw κ) := callee_of (ps := ["d", "many"]) d__law_draw (fun F => ok__law_draw F b ) fun _ _ _ _ _ _ us hl => match us, hl with | [_, _], _ => rfl
    have c__law_pick : Callee l.prog w K mg base 2 "_law_pick" 2 (m__law_pick κ) := callee_of (ps := ["d", "row"]) d__law_pick (fun F => ok__law_pick F b c__law_draw) fun _ _ _ _ _ _ us hl => match us, hl with | [_, _], _ => rfl
    have c__law_rare : Callee l.prog w K mg base 2 "_law_rare" 2 (m__law_rare κ) := callee_of (ps := ["d", "many"]) d__law_rare (fun F => ok__law_rare F b c__law_draw) fun _ _ _ _ _ _ us hl => match us, hl with | [_, _], _ => rfl
    have c__law_row : Callee l.prog w K mg base 1 "_law_row" 2 (m__law_row κ) := callee_of (ps := ["number", "places"]) d__law_row (fun F => ok__law_row F b ) fun _ _ _ _ _ _ us hl => match us, hl with | [_, _], _ => rfl
    have c__law_rows : Callee l.prog w K mg base 2 "_law_rows" 1 (m__law_rows κ) := callee_of (ps := ["places"]) d__law_rows (fun F => ok__law_rows F b c__law_row) fun _ _ _ _ _ _ us hl => match us, hl with | [_], _ => rfl
    have c__law_sum : Callee l.prog w K mg base 1 "_law_sum" 1 (m__law_sum κ) := callee_of (ps := ["prices"]) d__law_sum (fun F => ok__law_sum F b ) fun _ _ _ _ _ _ us hl => match us, hl with | [_], _ => rfl
    have c__law_low : Callee l.prog w K mg base 1 "_law_low" 1 (m__law_low κ) := callee_of (ps := ["prices"]) d__law_low (fun F => ok__law_low F b ) fun _ _ _ _ _ _ us hl => match us, hl with | [_], _ => rfl
    have c__law_times : Callee l.prog w K mg base 1 "_law_times" 2 (m__law_times κ) := callee_of (ps := ["price", "times"]) d__law_times (fun F => ok__law_times F b ) fun _ _ _ _ _ _ us hl => match us, hl with | [_, _], _ => rfl
    have c__law_above : Callee l.prog w K mg base 1 "_law_above" 2 (m__law_above κ) := callee_of (ps := ["first", "second"]) d__law_above (fun F => ok__law_above F b ) fun _ _ _ _ _ _ us hl => match us, hl with | [_, _], _ => rfl
    have c__law_most : Callee l.prog w K mg base 1 "_law_most" 3 (m__law_most κ) := callee_of (ps := ["first", "second", "third"]) d__law_most (fun F => ok__law_most F b ) fun _ _ _ _ _ _ us hl => match us, hl with | [_, _, _], _ => rfl
    have c__law_breach_one : Callee l.prog w K mg base 2 "_law_breach_one" 3 (m__law_breach_one κ) := callee_of (ps := ["kind", "prices", "rows"]) d__law_breach_one (fun F => ok__law_breach_one F b c__law_above) fun _ _ _ _ _ _ us hl => match us, hl with | [_, _, _], _ => rfl
    have c__law_breach_two : Callee l.prog w K mg base 2 "_law_breach_two" 3 (m__law_breach_two κ) := callee_of (ps := ["kind", "prices", "rows"]) d__law_breach_two (fun F => ok__law_breach_two F b c__law_above c__law_sum c__law_times) fun _ _ _ _ _ _ us hl => match us, hl with | [_, _, _], _ => rfl
    have c__law_breach_three : Callee l.prog w K mg base 2 "_law_breach_three" 3 (m__law_breach_three κ) := callee_of (ps := ["kind", "prices", "rows"]) d__law_breach_three (fun F => ok__law_breach_three F b c__law_above c__law_most c__law_sum c__law_times) fun _ _ _ _ _ _ us hl => match us, hl with | [_, _, _], _ => rfl
    have c__law_keeps : Callee l.prog w K mg base 3 "_law_keeps" 2 (m__law_keeps κ) := callee_of (ps := ["kind", "prices"]) d__law_keeps (fun F => ok__law_keeps F b c__law_breach_one c__law_breach_three c__law_breach_two) fun _ _ _ _ _ _ us hl => match us, hl with | [_, _], _ => rfl
    have c__law_kept : Callee l.prog w K mg base 4 "_law_kept" 2 (m__law_kept κ) := callee_of (ps := ["kind", "tables"]) d__law_kept (fun F => ok__law_kept F b c__law_keeps) fun _ _ _ _ _ _ us hl => match us, hl with | [_, _], _ => rfl
    have c__law_cost : Callee l.prog w K mg base 3 "_law_cost" 1 (m__law_cost κ) := callee_of (ps := ["d"]) d__law_cost (fun F => ok__law_cost F b c__law_draw c__law_rare) fun _ _ _ _ _ _ us hl => match us, hl with | [_], _ => rfl
    have c__law_opened : Callee l.prog w K mg base 4 "_law_opened" 2 (m__law_opened κ) := callee_of (ps := ["d", "prices"]) d__law_opened (fun F => ok__law_opened F b c__law_cost c__law_draw c__law_low) fun _ _ _ _ _ _ us hl => match us, hl with | [_, _], _ => rfl
    have c__law_crisp : Callee l.prog w K mg base 5 "_law_crisp" 3 (m__law_crisp κ) := callee_of (ps := ["d", "places", "barred"]) d__law_crisp (fun F => ok__law_crisp F b c__law_cost c__law_draw c__law_opened) fun _ _ _ _ _ _ us hl => match us, hl with | [_, _, _], _ => rfl
    have c__law_shape_rows : Callee l.prog w K mg base 3 "_law_shape_rows" 3 (m__law_shape_rows κ) := callee_of (ps := ["places", "ones", "zeros"]) d__law_shape_rows (fun F => ok__law_shape_rows F b c__law_rows) fun _ _ _ _ _ _ us hl => match us, hl with | [_, _, _], _ => rfl
    have c__law_spots : Callee l.prog w K mg base 1 "_law_spots" 1 (m__law_spots κ) := callee_of (ps := ["places"]) d__law_spots (fun F => ok__law_spots F b ) fun _ _ _ _ _ _ us hl => match us, hl with | [_], _ => rfl
    have c__law_shape : Callee l.prog w K mg base 4 "_law_shape" 1 (m__law_shape κ) := callee_of (ps := ["table"]) d__law_shape (fun F => ok__law_shape F b c__law_row c__law_shape_rows c__law_spots) fun _ _ _ _ _ _ us hl => match us, hl with | [_], _ => rfl
    have c__law_rule : Callee l.prog w K mg base 6 "_law_rule" 1 (m__law_rule κ) := callee_of (ps := ["d"]) d__law_rule (fun F => ok__law_rule F b c__law_crisp c__law_draw c__law_low c__law_pick c__law_rare c__law_rows c__law_shape_rows c__law_spots) fun _ _ _ _ _ _ us hl => match us, hl with | [_], _ => rfl
    have c__law_softened : Callee l.prog w K mg base 1 "_law_softened" 1 (m__law_softened κ) := callee_of (ps := ["table"]) d__law_softened (fun F => ok__law_softened F b ) fun _ _ _ _ _ _ us hl => match us, hl with | [_], _ => rfl
    have cx_check_rules : CalleeX l.prog w K mg base 3 "check_rules" 1 (x_check_rules κ) := calleex_of (ps := ["lot"]) d_check_rules (fun F => okx_check_rules F b c_Table__crisp e_BadLot) fun _ _ _ _ _ _ us hl => match us, hl with | [_], _ => rfl
    have cx_left_out_kinds : CalleeX l.prog w K mg base 5 "left_out_kinds" 1 (x_left_out_kinds κ) := calleex_of (ps := ["lot"]) d_left_out_kinds (fun F => okx_left_out_kinds F b c_shape cx_check_rules) fun _ _ _ _ _ _ us hl => match us, hl with | [_], _ => rfl
    have cx_Lot____init__ : MakerX l.prog w K mg base 6 "Lot" (κ "Lot") 2 (x_Lot____init__ κ) := makerx_of (ps := ["self", "tables"]) t_Lot d_Lot____init__ (fun F => okx_Lot____init__ F b c_Table____eq__ e_BadLot c_is_told c_swapped) fun _ _ _ _ _ _ us hl => match us, hl with | [_, _], _ => rfl
    have cx_soft_lot : CalleeX l.prog w K mg base 8 "soft_lot" 1 (x_soft_lot κ) := calleex_of (ps := ["lot"]) d_soft_lot (fun F => okx_soft_lot F b c_softened cx_Lot____init__ cx_check_rules) fun _ _ _ _ _ _ us hl => match us, hl with | [_], _ => rfl
    have c__law_refused : Callee l.prog w K mg base 9 "_law_refused" 2 (m__law_refused κ) := callee_of (ps := ["ask", "lot"]) d__law_refused (fun F => ok__law_refused F b cx_left_out_kinds cx_soft_lot) fun _ _ _ _ _ _ us hl => match us, hl with | [_, _], _ => rfl
    have c__law_lot_of : Callee l.prog w K mg base 8 "_law_lot_of" 1 (m__law_lot_of κ) := callee_of (ps := ["tables"]) d__law_lot_of (fun F => ok__law_lot_of F b c_Lot____init__ c_Table____init__) fun _ _ _ _ _ _ us hl => match us, hl with | [_], _ => rfl
    have c_Lot____eq__ : OwnOp l.prog w K mg base 3 (κ "Lot") "__eq__" (m_Lot____eq__ κ) := ownop_of (ps := ["self", "other"]) d_Lot____eq__ (fun F => ok_Lot____eq__ F b c_Table____eq__) fun _ _ _ _ _ _ us hl => match us, hl with | [_, _], _ => rfl
    exact (ok_law F b c_Lot____eq__ c_Table____init__ c__law_begin c__law_draw c__law_kept c__law_lot_of c__law_pick c__law_refused c__law_rule c__law_shape c__law_shape_rows c__law_softened c__law_spots c_left_out_kinds c_shape c_shape_rows c_soft_lot c_softened).imp (law_spT (law_true κ))
/-- the same facts, each class by its own number -/
structure BlC (K : PySem.W.Frag) (mg : Str → Option Value) (C_BadLot C_Lot C_Table : Nat) : Prop where
  abs_ : mg "abs" = none
  all_ : mg "all" = none
  bool_ : mg "bool" = none
  int_ : mg "int" = none
  isinstance_ : mg "isinstance" = none
  len_ : mg "len" = none
  list_ : mg "list" = none
  range_ : mg "range" = none
  reversed_ : mg "reversed" = none
  tuple_ : mg "tuple" = none
  k_DEAREST : Kst mg "DEAREST" (.int 1000)
  k_GREATEST : Kst mg "GREATEST" (.int 100000000000000000000000000000000000000000000000000)
  k_PLACES : Kst mg "PLACES" (.int 4)
  k_TABLES : Kst mg "TABLES" (.int 16)
  is_Lot : IsC K mg "Lot" C_Lot
  is_Table : IsC K mg "Table" C_Table
  cl_Lot : Cls K C_Lot
  cl_Table : Cls K C_Table
  no_Lot_swaps : NoAttr K C_Lot "swaps"
  no_Lot_tables : NoAttr K C_Lot "tables"
  no_Table_least : NoAttr K C_Table "least"
  no_Table_most : NoAttr K C_Table "most"
  no_Table_places : NoAttr K C_Table "places"
  no_Table_prices : NoAttr K C_Table "prices"
  ea_BadLot : ExcAt K mg "BadLot" C_BadLot "at"
set_option maxHeartbeats 0 in
theorem all_okC {l : PySem.W.OpenLaw} {w : World} {K : PySem.W.Frag} {mg : Str → Option Value} {fa : Addr} {CP : Addr} (pb : ExcBase K mg CP (.type "type")) (C_BadLot C_Lot C_Table : Nat) (hfa : mg "law" = some (.ref fa)) (b : BlC K mg C_BadLot C_Lot C_Table)
    (t_Lot : ClsAt K mg "Lot" C_Lot)
    (t_Table : ClsAt K mg "Table" C_Table)
    (d_is_whole : DefAt K mg "is_whole" s_is_whole)
    (d_lower : DefAt K mg "lower" s_lower)
    (d_lowest : DefAt K mg "lowest" s_lowest)
    (d_highest : DefAt K mg "highest" s_highest)
    (d_bits_of : DefAt K mg "bits_of" s_bits_of)
    (d_row_of : DefAt K mg "row_of" s_row_of)
    (d_rows_of : DefAt K mg "rows_of" s_rows_of)
    (d_Table____init__ : MethAt K C_Table "__init__" "Table.__init__" s_Table____init__)
    (d_swapped : DefAt K mg "swapped" s_swapped)
    (d_is_told : DefAt K mg "is_told" s_is_told)
    (d_softened : DefAt K mg "softened" s_softened)
    (d_Table__crisp : PropAt K C_Table "crisp" "Table.crisp" s_Table__crisp)
    (d_check_rules : DefAt K mg "check_rules" s_check_rules)
    (d_Table____eq__ : MethAt K C_Table "__eq__" "Table.__eq__" s_Table____eq__)
    (d_Lot____init__ : MethAt K C_Lot "__init__" "Lot.__init__" s_Lot____init__)
    (d_soft_lot : DefAt K mg "soft_lot" s_soft_lot)
    (d_shape_rows : DefAt K mg "shape_rows" s_shape_rows)
    (d_Table__open_numbers : MethAt K C_Table "open_numbers" "Table.open_numbers" s_Table__open_numbers)
    (d_Table__open_rows : MethAt K C_Table "open_rows" "Table.open_rows" s_Table__open_rows)
    (d_shape : DefAt K mg "shape" s_shape)
    (d_left_out_kinds : DefAt K mg "left_out_kinds" s_left_out_kinds)
    (d__law_begin : DefAt K mg "_law_begin" s__law_begin)
    (d__law_draw : DefAt K mg "_law_draw" s__law_draw)
    (d__law_pick : DefAt K mg "_law_pick" s__law_pick)
    (d__law_rare : DefAt K mg "_law_rare" s__law_rare)
    (d__law_row : DefAt K mg "_law_row" s__law_row)
    (d__law_rows : DefAt K mg "_law_rows" s__law_rows)
    (d__law_sum : DefAt K mg "_law_sum" s__law_sum)
    (d__law_low : DefAt K mg "_law_low" s__law_low)
    (d__law_times : DefAt K mg "_law_times" s__law_times)
    (d__law_above : DefAt K mg "_law_above" s__law_above)
    (d__law_most : DefAt K mg "_law_most" s__law_most)
    (d__law_breach_one : DefAt K mg "_law_breach_one" s__law_breach_one)
    (d__law_breach_two : DefAt K mg "_law_breach_two" s__law_breach_two)
    (d__law_breach_three : DefAt K mg "_law_breach_three" s__law_breach_three)
    (d__law_keeps : DefAt K mg "_law_keeps" s__law_keeps)
    (d__law_kept : DefAt K mg "_law_kept" s__law_kept)
    (d__law_cost : DefAt K mg "_law_cost" s__law_cost)
    (d__law_opened : DefAt K mg "_law_opened" s__law_opened)
    (d__law_crisp : DefAt K mg "_law_crisp" s__law_crisp)
    (d__law_shape_rows : DefAt K mg "_law_shape_rows" s__law_shape_rows)
    (d__law_spots : DefAt K mg "_law_spots" s__law_spots)
    (d__law_shape : DefAt K mg "_law_shape" s__law_shape)
    (d__law_rule : DefAt K mg "_law_rule" s__law_rule)
    (d__law_softened : DefAt K mg "_law_softened" s__law_softened)
    (d__law_refused : DefAt K mg "_law_refused" s__law_refused)
    (d__law_lot_of : DefAt K mg "_law_lot_of" s__law_lot_of)
    (d_Lot____eq__ : MethAt K C_Lot "__eq__" "Lot.__eq__" s_Lot____eq__)
    (d_law : DefAt K mg "law" s_law)
    (d_BadLot____init__ : MethAt K C_BadLot "__init__" "BadLot.__init__" s_BadLot____init__)
    : ∃ fd : FuncData, (∀ (s : Shared) (u : Value), BindsTo s fd ⟨[u], []⟩ [("script", u)]) ∧ ∀ base : Heap, K.In base → base.Ns mainGlobals mg → FnOk l.prog w K mg base CX0 10 fa fd ["script"] (spTrue K) := by
  obtain ⟨κ, rfl, rfl, rfl⟩ : ∃ κ : String → Nat, κ "BadLot" = C_BadLot ∧ κ "Lot" = C_Lot ∧ κ "Table" = C_Table := ⟨fun x => if x = "BadLot" then C_BadLot else if x = "Lot" then C_Lot else C_Table, by simp, by simp, by simp⟩
  exact all_ok pb κ hfa ⟨b.abs_, b.all_, b.bool_, b.int_, b.isinstance_, b.len_, b.list_, b.range_, b.reversed_, b.tuple_, b.k_DEAREST, b.k_GREATEST, b.k_PLACES, b.k_TABLES, b.is_Lot, b.is_Table, b.cl_Lot, b.cl_Table, b.no_Lot_swaps, b.no_Lot_tables, b.no_Table_least, b.no_Table_most, b.no_Table_places, b.no_Table_prices, b.ea_BadLot⟩ t_Lot t_Table d_is_whole d_lower d_lowest d_highest d_bits_of d_row_of d_rows_of d_Table____init__ d_swapped d_is_told d_softened d_Table__crisp d_check_rules d_Table____eq__ d_Lot____init__ d_soft_lot d_shape_rows d_Table__open_numbers d_Table__open_rows d_shape d_left_out_kinds d__law_begin d__law_draw d__law_pick d__law_rare d__law_row d__law_rows d__law_sum d__law_low d__law_times d__law_above d__law_most d__law_breach_one d__law_breach_two d__law_breach_three d__law_keeps d__law_kept d__law_cost d__law_opened d__law_crisp d__law_shape_rows d__law_spots d__law_shape d__law_rule d__law_softened d__law_refused d__law_lot_of d_Lot____eq__ d_law d_BadLot____init__
end Ev.W
open PySem PySem.W PyProof.Rows
set_option maxHeartbeats 0 in
theorem PySem.Challenge.cw_pricedrules_k71_shapes_of_rules_holds : PySem.Challenge.rw_pricedrules_k71_shapes_of_rules.Holds := by
  w_on; o_law; k_head; (case hw => w_witness2)
  k_fill
  refine L2.walk_of (l := PySem.Challenge.rw_pricedrules_k71_shapes_of_rules) (n := 63) (k := 10) (x := "script") (CX := fun _ => L2.CX0) (sp := fun w => Ev.spTrue _) rfl (by decide) rfl ⟨rfl, by decide, by decide⟩ (fun w h Y => PySem.W.kIn_of Y) ?F (fun _ _ a ns hl _ hS => ⟨a, ns, rfl, hS, hl, fun _ => rfl⟩) (fun _ _ _ _ _ h => h)
  case F =>
    intro w mg fa h KX G hmg
    refine' Ev.W.all_okC ?pb _ _ _ hmg ⟨?f_abs_, ?f_all_, ?f_bool_, ?f_int_, ?f_isinstance_, ?f_len_, ?f_list_, ?f_range_, ?f_reversed_, ?f_tuple_, ?f_k_DEAREST, ?f_k_GREATEST, ?f_k_PLACES, ?f_k_TABLES, ?f_is_Lot, ?f_is_Table, ?f_cl_Lot, ?f_cl_Table, ?f_no_Lot_swaps, ?f_no_Lot_tables, ?f_no_Table_least, ?f_no_Table_most, ?f_no_Table_places, ?f_no_Table_prices, ?f_ea_BadLot⟩ ?t_Lot ?t_Table ?d_is_whole ?d_lower ?d_lowest ?d_highest ?d_bits_of ?d_row_of ?d_rows_of ?d_Table____init__ ?d_swapped ?d_is_told ?d_softened ?d_Table__crisp ?d_check_rules ?d_Table____eq__ ?d_Lot____init__ ?d_soft_lot ?d_shape_rows ?d_Table__open_numbers ?d_Table__open_rows ?d_shape ?d_left_out_kinds ?d__law_begin ?d__law_draw ?d__law_pick ?d__law_rare ?d__law_row ?d__law_rows ?d__law_sum ?d__law_low ?d__law_times ?d__law_above ?d__law_most ?d__law_breach_one ?d__law_breach_two ?d__law_breach_three ?d__law_keeps ?d__law_kept ?d__law_cost ?d__law_opened ?d__law_crisp ?d__law_shape_rows ?d__law_spots ?d__law_shape ?d__law_rule ?d__law_softened ?d__law_refused ?d__law_lot_of ?d_Lot____eq__ ?d_law ?d_BadLot____init__
    case pb => refine' Ev.pbase_mk KX G ?a ?r ?g ?f; (case a => k_is); (case r => k_is); (case g => k_is); (case f => k_is)
    case f_ea_BadLot => refine' Ev.exc_mk KX G ?a ?l ?rv ?sa ?ec ?tc ?kc ?nof ?te ?ga ?gg ?hd; (case a => k_is); (case l => k_is); (case rv => first | rfl | decide +kernel); (case sa => k_is); (case ec => k_is); (case tc => k_is); (case kc => k_is); (case nof => k_is); (case te => first | rfl | k_is); (case ga => k_is); (case gg => k_is); (case hd => k_is)
    case t_Lot => refine' Ev.cls_mk KX G ?a ?pg ?hd ?po ?sa ?mk ?kp; (case a => k_is); (case pg => k_is); (case hd => k_is); (case po => k_is); (case sa => k_is); (case mk => k_is); (case kp => k_is)
    case t_Table => refine' Ev.cls_mk KX G ?a ?pg ?hd ?po ?sa ?mk ?kp; (case a => k_is); (case pg => k_is); (case hd => k_is); (case po => k_is); (case sa => k_is); (case mk => k_is); (case kp => k_is)
    case f_cl_Lot => refine' L2.Cls.mk ?pg ?hd ?po ?sa; (case pg => k_is); (case hd => k_is); (case po => k_is); (case sa => k_is)
    case f_cl_Table => refine' L2.Cls.mk ?pg ?hd ?po ?sa; (case pg => k_is); (case hd => k_is); (case po => k_is); (case sa => k_is)
    case f_no_Lot_swaps => (show PySem.W.findIn _ _ _ = some none); k_is
    case f_no_Lot_tables => (show PySem.W.findIn _ _ _ = some none); k_is
    case f_no_Table_least => (show PySem.W.findIn _ _ _ = some none); k_is
    case f_no_Table_most => (show PySem.W.findIn _ _ _ = some none); k_is
    case f_no_Table_places => (show PySem.W.findIn _ _ _ = some none); k_is
    case f_no_Table_prices => (show PySem.W.findIn _ _ _ = some none); k_is
    case f_is_Lot => refine' Ev.isc_mk (Ev.cls_mk KX G ?va ?vpg ?vhd ?vpo ?vsa ?vmk ?vkp) ?xa ?xb ?xc ?xd ?xe ?xf ?xg ?xh ?xi ?xj ?xk ?xl; (case va => k_is); (case vpg => k_is); (case vhd => k_is); (case vpo => k_is); (case vsa => k_is); (case vmk => k_is); (case vkp => k_is); (case xa => k_is); (case xb => k_is); (case xc => k_is); (case xd => k_is); (case xe => kit_is); (case xf => kit_is); (case xg => kit_is); (case xh => kit_is); (case xi => kit_is); (case xj => kit_is); (case xk => kit_is); (case xl => kit_is)
    case f_is_Table => refine' Ev.isc_mk (Ev.cls_mk KX G ?va ?vpg ?vhd ?vpo ?vsa ?vmk ?vkp) ?xa ?xb ?xc ?xd ?xe ?xf ?xg ?xh ?xi ?xj ?xk ?xl; (case va => k_is); (case vpg => k_is); (case vhd => k_is); (case vpo => k_is); (case vsa => k_is); (case vmk => k_is); (case vkp => k_is); (case xa => k_is); (case xb => k_is); (case xc => k_is); (case xd => k_is); (case xe => kit_is); (case xf => kit_is); (case xg => kit_is); (case xh => kit_is); (case xi => kit_is); (case xj => kit_is); (case xk => kit_is); (case xl => kit_is)
    case f_abs_ => refine PySem.W.mg_none_of KX G ?z; (case z => k_is)
    case f_all_ => refine PySem.W.mg_none_of KX G ?z; (case z => k_is)
    case f_bool_ => refine PySem.W.mg_none_of KX G ?z; (case z => k_is)
    case f_int_ => refine PySem.W.mg_none_of KX G ?z; (case z => k_is)
    case f_isinstance_ => refine PySem.W.mg_none_of KX G ?z; (case z => k_is)
    case f_len_ => refine PySem.W.mg_none_of KX G ?z; (case z => k_is)
    case f_list_ => refine PySem.W.mg_none_of KX G ?z; (case z => k_is)
    case f_range_ => refine PySem.W.mg_none_of KX G ?z; (case z => k_is)
    case f_reversed_ => refine PySem.W.mg_none_of KX G ?z; (case z => k_is)
    case f_tuple_ => refine PySem.W.mg_none_of KX G ?z; (case z => k_is)
    case f_k_DEAREST => refine' Ev.kst_i KX G ?z; (case z => k_is)
    case f_k_GREATEST => refine' Ev.kst_i KX G ?z; (case z => k_is)
    case f_k_PLACES => refine' Ev.kst_i KX G ?z; (case z => k_is)
    case f_k_TABLES => refine' Ev.kst_i KX G ?z; (case z => k_is)
    case d_is_whole => refine' Ev.def_mk KX G ?a ?l ?c ?k; (case a => k_is); (case l => k_is); (case c => k_is); (case k => k_is)
    case d_lower => refine' Ev.def_mk KX G ?a ?l ?c ?k; (case a => k_is); (case l => k_is); (case c => k_is); (case k => k_is)
    case d_lowest => refine' Ev.def_mk KX G ?a ?l ?c ?k; (case a => k_is); (case l => k_is); (case c => k_is); (case k => k_is)
    case d_highest => refine' Ev.def_mk KX G ?a ?l ?c ?k; (case a => k_is); (case l => k_is); (case c => k_is); (case k => k_is)
    case d_bits_of => refine' Ev.def_mk KX G ?a ?l ?c ?k; (case a => k_is); (case l => k_is); (case c => k_is); (case k => k_is)
    case d_row_of => refine' Ev.def_mk KX G ?a ?l ?c ?k; (case a => k_is); (case l => k_is); (case c => k_is); (case k => k_is)
    case d_rows_of => refine' Ev.def_mk KX G ?a ?l ?c ?k; (case a => k_is); (case l => k_is); (case c => k_is); (case k => k_is)
    case d_Table____init__ => refine' Ev.meth_mk ?a ?i ?l ?c ?k; (case a => k_is); (case i => k_is); (case l => k_is); (case c => k_is); (case k => k_is)
    case d_swapped => refine' Ev.def_mk KX G ?a ?l ?c ?k; (case a => k_is); (case l => k_is); (case c => k_is); (case k => k_is)
    case d_is_told => refine' Ev.def_mk KX G ?a ?l ?c ?k; (case a => k_is); (case l => k_is); (case c => k_is); (case k => k_is)
    case d_softened => refine' Ev.def_mk KX G ?a ?l ?c ?k; (case a => k_is); (case l => k_is); (case c => k_is); (case k => k_is)
    case d_Table__crisp => refine' Ev.prop_mk ?a ?g ?t ?r ?l ?c ?k; (case a => k_is); (case g => k_is); (case t => k_is); (case r => k_is); (case l => k_is); (case c => k_is); (case k => k_is)
    case d_check_rules => refine' Ev.def_mk KX G ?a ?l ?c ?k; (case a => k_is); (case l => k_is); (case c => k_is); (case k => k_is)
    case d_Table____eq__ => refine' Ev.meth_mk ?a ?i ?l ?c ?k; (case a => k_is); (case i => k_is); (case l => k_is); (case c => k_is); (case k => k_is)
    case d_Lot____init__ => refine' Ev.meth_mk ?a ?i ?l ?c ?k; (case a => k_is); (case i => k_is); (case l => k_is); (case c => k_is); (case k => k_is)
    case d_soft_lot => refine' Ev.def_mk KX G ?a ?l ?c ?k; (case a => k_is); (case l => k_is); (case c => k_is); (case k => k_is)
    case d_shape_rows => refine' Ev.def_mk KX G ?a ?l ?c ?k; (case a => k_is); (case l => k_is); (case c => k_is); (case k => k_is)
    case d_Table__open_numbers => refine' Ev.meth_mk ?a ?i ?l ?c ?k; (case a => k_is); (case i => k_is); (case l => k_is); (case c => k_is); (case k => k_is)
    case d_Table__open_rows => refine' Ev.meth_mk ?a ?i ?l ?c ?k; (case a => k_is); (case i => k_is); (case l => k_is); (case c => k_is); (case k => k_is)
    case d_shape => refine' Ev.def_mk KX G ?a ?l ?c ?k; (case a => k_is); (case l => k_is); (case c => k_is); (case k => k_is)
    case d_left_out_kinds => refine' Ev.def_mk KX G ?a ?l ?c ?k; (case a => k_is); (case l => k_is); (case c => k_is); (case k => k_is)
    case d__law_begin => refine' Ev.def_mk KX G ?a ?l ?c ?k; (case a => k_is); (case l => k_is); (case c => k_is); (case k => k_is)
    case d__law_draw => refine' Ev.def_mk KX G ?a ?l ?c ?k; (case a => k_is); (case l => k_is); (case c => k_is); (case k => k_is)
    case d__law_pick => refine' Ev.def_mk KX G ?a ?l ?c ?k; (case a => k_is); (case l => k_is); (case c => k_is); (case k => k_is)
    case d__law_rare => refine' Ev.def_mk KX G ?a ?l ?c ?k; (case a => k_is); (case l => k_is); (case c => k_is); (case k => k_is)
    case d__law_row => refine' Ev.def_mk KX G ?a ?l ?c ?k; (case a => k_is); (case l => k_is); (case c => k_is); (case k => k_is)
    case d__law_rows => refine' Ev.def_mk KX G ?a ?l ?c ?k; (case a => k_is); (case l => k_is); (case c => k_is); (case k => k_is)
    case d__law_sum => refine' Ev.def_mk KX G ?a ?l ?c ?k; (case a => k_is); (case l => k_is); (case c => k_is); (case k => k_is)
    case d__law_low => refine' Ev.def_mk KX G ?a ?l ?c ?k; (case a => k_is); (case l => k_is); (case c => k_is); (case k => k_is)
    case d__law_times => refine' Ev.def_mk KX G ?a ?l ?c ?k; (case a => k_is); (case l => k_is); (case c => k_is); (case k => k_is)
    case d__law_above => refine' Ev.def_mk KX G ?a ?l ?c ?k; (case a => k_is); (case l => k_is); (case c => k_is); (case k => k_is)
    case d__law_most => refine' Ev.def_mk KX G ?a ?l ?c ?k; (case a => k_is); (case l => k_is); (case c => k_is); (case k => k_is)
    case d__law_breach_one => refine' Ev.def_mk KX G ?a ?l ?c ?k; (case a => k_is); (case l => k_is); (case c => k_is); (case k => k_is)
    case d__law_breach_two => refine' Ev.def_mk KX G ?a ?l ?c ?k; (case a => k_is); (case l => k_is); (case c => k_is); (case k => k_is)
    case d__law_breach_three => refine' Ev.def_mk KX G ?a ?l ?c ?k; (case a => k_is); (case l => k_is); (case c => k_is); (case k => k_is)
    case d__law_keeps => refine' Ev.def_mk KX G ?a ?l ?c ?k; (case a => k_is); (case l => k_is); (case c => k_is); (case k => k_is)
    case d__law_kept => refine' Ev.def_mk KX G ?a ?l ?c ?k; (case a => k_is); (case l => k_is); (case c => k_is); (case k => k_is)
    case d__law_cost => refine' Ev.def_mk KX G ?a ?l ?c ?k; (case a => k_is); (case l => k_is); (case c => k_is); (case k => k_is)
    case d__law_opened => refine' Ev.def_mk KX G ?a ?l ?c ?k; (case a => k_is); (case l => k_is); (case c => k_is); (case k => k_is)
    case d__law_crisp => refine' Ev.def_mk KX G ?a ?l ?c ?k; (case a => k_is); (case l => k_is); (case c => k_is); (case k => k_is)
    case d__law_shape_rows => refine' Ev.def_mk KX G ?a ?l ?c ?k; (case a => k_is); (case l => k_is); (case c => k_is); (case k => k_is)
    case d__law_spots => refine' Ev.def_mk KX G ?a ?l ?c ?k; (case a => k_is); (case l => k_is); (case c => k_is); (case k => k_is)
    case d__law_shape => refine' Ev.def_mk KX G ?a ?l ?c ?k; (case a => k_is); (case l => k_is); (case c => k_is); (case k => k_is)
    case d__law_rule => refine' Ev.def_mk KX G ?a ?l ?c ?k; (case a => k_is); (case l => k_is); (case c => k_is); (case k => k_is)
    case d__law_softened => refine' Ev.def_mk KX G ?a ?l ?c ?k; (case a => k_is); (case l => k_is); (case c => k_is); (case k => k_is)
    case d__law_refused => refine' Ev.def_mk KX G ?a ?l ?c ?k; (case a => k_is); (case l => k_is); (case c => k_is); (case k => k_is)
    case d__law_lot_of => refine' Ev.def_mk KX G ?a ?l ?c ?k; (case a => k_is); (case l => k_is); (case c => k_is); (case k => k_is)
    case d_Lot____eq__ => refine' Ev.meth_mk ?a ?i ?l ?c ?k; (case a => k_is); (case i => k_is); (case l => k_is); (case c => k_is); (case k => k_is)
    case d_law => refine' Ev.def_mk KX G ?a ?l ?c ?k; (case a => k_is); (case l => k_is); (case c => k_is); (case k => k_is)
    case d_BadLot____init__ => refine' Ev.meth_mk ?a ?i ?l ?c ?k; (case a => k_is); (case i => k_is); (case l => k_is); (case c => k_is); (case k => k_is)
