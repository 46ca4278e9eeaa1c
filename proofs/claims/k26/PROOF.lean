import PyProof.Rows.All
import Wide.All
import OpenK.AllK
import Wide.FinOn
import HandS.ForMost
import HandS.Wide
import HandS.TupAny
import HandS.IsInst
import HandS.Zip
import HandS.Rev
import HandS.Style
import HandS.Conv
import HandS.Property
import HandS.Dict
import HandS.Deep
import HandS.WordsDict
import HandS.SortInts
import PySem.Challenge.RW_pricedrules_k26_steps_forced_one_by_one
set_option Elab.async false
set_option linter.all false
set_option maxRecDepth 100000
/-! Ev: plain values for a program's run, over the hand layer. A: values, what stands for them, the state. -/
set_option autoImplicit false
namespace Ev
open PySem PySem.Spec PyProof.Rows L2
abbrev St := L2.St

/-- a plain value -/
inductive D where
  | non | bl (b : Bool) | int (i : Int) | str (s : Str)
  | tup (xs : List D) | lst (xs : List D)
  | rol (xs : List D)
  /-- an instance of the class at C: the names of its attributes, what they hold -/
  | ins (C : Addr) (ks : List Str) (ds : List D)
  /-- a dict, keys ints and texts -/
  | dct (ks : List Key) (ds : List D)
  deriving Inhabited

mutual
/-- v stands, in the frozen heap F, for the plain value -/
inductive Rep (K : PySem.W.Frag) (F : Hp) : V → D → Prop
  | non : Rep K F .non .non
  | bl (b : Bool) : Rep K F (.bl b) (.bl b)
  | int (i : Int) : Rep K F (.int i) (.int i)
  | str (x : Str) : Rep K F (.str x) (.str x)
  | tup {a : Addr} {vs : List V} {ds : List D} : SqT K F a vs → Reps K F vs ds → Rep K F (.ref a) (.tup ds)
  | lst {a : Addr} {vs : List V} {ds : List D} : F a = some (.lst vs) → Reps K F vs ds → Rep K F (.ref a) (.lst ds)
  | rol {a : Addr} {vs : List V} {ds : List D} : SqL K F a vs → Reps K F vs ds → Rep K F (.ref a) (.rol ds)
  | ins {a C dx : Addr} {ks : List Str} {vs : List V} {ds : List D} : F a = some (.ins C dx (ks.zip vs)) → ks.length = vs.length → Reps K F vs ds → Rep K F (.ref a) (.ins C ks ds)
  | dct {a : Addr} {ks : List Key} {vs : List V} {ds : List D} : F a = some (.dK (ks.zip vs)) → ks.length = vs.length → Reps K F vs ds → Rep K F (.ref a) (.dct ks ds)
inductive Reps (K : PySem.W.Frag) (F : Hp) : List V → List D → Prop
  | nil : Reps K F [] []
  | cons {v : V} {d : D} {vs : List V} {ds : List D} : Rep K F v d → Reps K F vs ds → Reps K F (v :: vs) (d :: ds)
end

theorem sameRd {H H' : Hp} {a : Addr} {u : HO} (e : Same H H') (h : Rd H a u) : Rd H' a u := by
  rcases h with h | ⟨o, h⟩
  · exact .inl (e a _ h)
  · exact .inr ⟨o, e a _ h⟩
theorem sameL {K : PySem.W.Frag} {H H' : Hp} {a : Addr} {xs : List V} (e : Same H H') (h : SqL K H a xs) : SqL K H' a xs := by
  rcases h with h | h
  · exact .inl (sameRd e h)
  · exact .inr h
theorem sameT {K : PySem.W.Frag} {H H' : Hp} {a : Addr} {xs : List V} (e : Same H H') (h : SqT K H a xs) : SqT K H' a xs := by
  rcases h with h | h
  · exact .inl (sameRd e h)
  · exact .inr h

mutual
theorem Rep.mono {K : PySem.W.Frag} {F F' : Hp} (e : Same F F') : ∀ {v : V} {d : D}, Rep K F v d → Rep K F' v d
  | _, _, .non => .non
  | _, _, .bl b => .bl b
  | _, _, .int i => .int i
  | _, _, .str x => .str x
  | _, _, .tup h r => .tup (sameT e h) (Reps.mono e r)
  | _, _, .lst h r => .lst (e _ _ h) (Reps.mono e r)
  | _, _, .rol h r => .rol (sameL e h) (Reps.mono e r)
  | _, _, .ins h l r => .ins (e _ _ h) l (Reps.mono e r)
  | _, _, .dct h l r => .dct (e _ _ h) l (Reps.mono e r)
theorem Reps.mono {K : PySem.W.Frag} {F F' : Hp} (e : Same F F') : ∀ {vs : List V} {ds : List D}, Reps K F vs ds → Reps K F' vs ds
  | _, _, .nil => .nil
  | _, _, .cons h r => .cons (Rep.mono e h) (Reps.mono e r)
end
section
variable {K : PySem.W.Frag} {F : Hp} {vs ws : List V} {ds es : List D}
theorem Reps.length : ∀ {vs : List V} {ds : List D}, Reps K F vs ds → vs.length = ds.length
  | _, _, .nil => rfl
  | _, _, .cons _ r => congrArg (· + 1) (Reps.length r)
theorem Reps.append : ∀ {vs : List V} {ds : List D}, Reps K F vs ds → Reps K F ws es → Reps K F (vs ++ ws) (ds ++ es)
  | _, _, .nil, q => q
  | _, _, .cons h r, q => .cons h (Reps.append r q)
theorem Reps.get : ∀ {vs : List V} {ds : List D} {i : Nat} {d : D}, Reps K F vs ds → ds[i]? = some d → ∃ v, vs[i]? = some v ∧ Rep K F v d
  | _, _, _, _, .nil, e => by simp at e
  | _, _, 0, _, .cons h _, e => by simp at e; subst e; exact ⟨_, rfl, h⟩
  | _, _, i + 1, d, .cons _ r, e => by
    obtain ⟨v, h1, h2⟩ := Reps.get (i := i) (d := d) r (by simpa using e)
    exact ⟨v, by simpa using h1, h2⟩
theorem Reps.set {v : V} {d : D} (h : Rep K F v d) : ∀ {vs : List V} {ds : List D} (i : Nat), Reps K F vs ds → Reps K F (vs.set i v) (ds.set i d)
  | _, _, _, .nil => .nil
  | _, _, 0, .cons _ r => .cons h r
  | _, _, i + 1, .cons q r => .cons q (Reps.set h i r)
theorem Reps.take : ∀ {vs : List V} {ds : List D} (n : Nat), Reps K F vs ds → Reps K F (vs.take n) (ds.take n)
  | _, _, 0, _ => .nil
  | _, _, _ + 1, .nil => .nil
  | _, _, n + 1, .cons h r => .cons h (Reps.take n r)
theorem Reps.drop : ∀ {vs : List V} {ds : List D} (n : Nat), Reps K F vs ds → Reps K F (vs.drop n) (ds.drop n)
  | _, _, 0, r => r
  | _, _, _ + 1, .nil => .nil
  | _, _, n + 1, .cons _ r => Reps.drop n r
theorem Reps.eraseIdx : ∀ {vs : List V} {ds : List D} (n : Nat), Reps K F vs ds → Reps K F (vs.eraseIdx n) (ds.eraseIdx n)
  | _, _, _, .nil => .nil
  | _, _, 0, .cons _ r => r
  | _, _, n + 1, .cons h r => .cons h (Reps.eraseIdx n r)
theorem Reps.insertIdx {v : V} {d : D} (h : Rep K F v d) : ∀ {vs : List V} {ds : List D} (n : Nat), Reps K F vs ds → Reps K F (vs.insertIdx n v) (ds.insertIdx n d)
  | _, _, 0, r => .cons h r
  | _, _, _ + 1, .nil => .nil
  | _, _, n + 1, .cons q r => .cons q (Reps.insertIdx h n r)
theorem Reps.dropLast (r : Reps K F vs ds) : Reps K F vs.dropLast ds.dropLast := by
  rw [List.dropLast_eq_take, List.dropLast_eq_take, r.length]
  exact r.take _
theorem Reps.reverse : ∀ {vs : List V} {ds : List D}, Reps K F vs ds → Reps K F vs.reverse ds.reverse
  | _, _, .nil => .nil
  | _, _, .cons h r => by
    rw [List.reverse_cons, List.reverse_cons]
    exact (Reps.reverse r).append (.cons h .nil)
theorem Reps.replicate {v : V} {d : D} (h : Rep K F v d) : ∀ n, Reps K F (List.replicate n v) (List.replicate n d)
  | 0 => .nil
  | n + 1 => .cons h (Reps.replicate h n)
theorem Reps.rep (r : Reps K F vs ds) : ∀ n, Reps K F (List.replicate n vs).flatten (List.replicate n ds).flatten
  | 0 => .nil
  | n + 1 => r.append (Reps.rep r n)
theorem Reps.ints : ∀ {vs : List V} {ns : List Int}, Reps K F vs (ns.map D.int) → vs = ns.map V.int
  | _, [], .nil => rfl
  | _, _ :: _, .cons h r => by cases h; rw [List.map_cons, Reps.ints r]
theorem Reps.of_ints : ∀ ns : List Int, Reps K F (ns.map V.int) (ns.map D.int)
  | [] => .nil
  | n :: ns => .cons (.int n) (Reps.of_ints ns)
theorem Reps.bls : ∀ {vs : List V} {ns : List Bool}, Reps K F vs (ns.map D.bl) → vs = ns.map V.bl
  | _, [], .nil => rfl
  | _, _ :: _, .cons h r => by cases h; rw [List.map_cons, Reps.bls r]
theorem Reps.strs : ∀ {vs : List V} {ns : List Str}, Reps K F vs (ns.map D.str) → vs = ns.map V.str
  | _, [], .nil => rfl
  | _, _ :: _, .cons h r => by cases h; rw [List.map_cons, Reps.strs r]
theorem Reps.of_strs : ∀ ns : List Str, Reps K F (ns.map V.str) (ns.map D.str)
  | [] => .nil
  | n :: ns => .cons (.str n) (Reps.of_strs ns)
end

/-! ### an object that may change -/
/-- what stands at the object, by its content -/
inductive Own (K : PySem.W.Frag) (F : Hp) : HO → D → Prop
  | lst {vs : List V} {ds : List D} : Reps K F vs ds → Own K F (.lst vs) (.lst ds)
  | ins {C dx : Addr} {ks : List Str} {vs : List V} {ds : List D} : ks.length = vs.length → Reps K F vs ds → Own K F (.ins C dx (ks.zip vs)) (.ins C ks ds)
  | dct {ks : List Key} {vs : List V} {ds : List D} : ks.length = vs.length → Reps K F vs ds → Own K F (.dK (ks.zip vs)) (.dct ks ds)
theorem Own.mono {K : PySem.W.Frag} {F F' : Hp} (e : Same F F') {o : HO} {d : D} : Own K F o d → Own K F' o d
  | .lst r => .lst (r.mono e)
  | .ins l r => .ins l (r.mono e)
  | .dct l r => .dct l (r.mono e)

/-- what a name holds: a plain value | an object of its own | a caller's object, read only -/
inductive SV where
  | val (d : D) | own (d : D) | bor (d : D) | lck (d : D)
  deriving Inhabited
def SV.d : SV → D
  | .val d => d
  | .own d => d
  | .bor d => d
  | .lck d => d
/-- held by this name alone; an object at all -/
def SV.ex : SV → Bool
  | .own _ => true
  | .lck _ => true
  | _ => false
def SV.ob : SV → Bool
  | .val _ => false
  | _ => true
abbrev Rho := List (Option SV)

/-- what is kept as it is; no name reads the hidden part of it -/
structure Frm where
  h : Hp
  hid : Addr → Prop
  hs : ∀ a, hid a → h a ≠ none
instance : CoeFun Frm fun _ => Addr → Option HO := ⟨Frm.h⟩
instance : Coe Frm Hp := ⟨Frm.h⟩
def Frm.upd (Fr : Frm) (a : Addr) (o : HO) : Frm := ⟨L2.upd Fr.h a o, Fr.hid, fun b hb => by
  by_cases e : b = a
  · subst e; rw [upd_same]; exact fun z => nomatch z
  · rw [upd_ne e]; exact Fr.hs b hb⟩
/-- .. a hidden object more -/
def Frm.hide (Fr : Frm) (a : Addr) (o : HO) : Frm := ⟨L2.upd Fr.h a o, fun b => Fr.hid b ∨ b = a, fun b hb => by
  by_cases e : b = a
  · subst e; rw [upd_same]; exact fun z => nomatch z
  · rw [upd_ne e]; exact Fr.hs b (hb.resolve_right e)⟩
def SRel (K : PySem.W.Frag) (Fr : Frm) (F H : Hp) (v : V) : SV → Prop
  | .val d => Rep K F v d
  | .own d => ∃ a o, v = .ref a ∧ H a = some o ∧ Own K F o d ∧ F a = none ∧ Fr a = none
  | .bor d => ∃ a o, v = .ref a ∧ (Fr a = some o ∧ ¬ Fr.hid a) ∧ Own K F o d
  | .lck d => ∃ a o, v = .ref a ∧ (Fr a = some o ∧ ¬ Fr.hid a) ∧ Own K F o d

/-- the state: Fr is kept as it is, F holds the plain values -/
structure Rel (K : PySem.W.Frag) (Fr : Frm) (F : Hp) (ρ : Rho) (σ : St) (H : Hp) : Prop where
  fr : Same Fr.h H
  f : Same F H
  dj : ∀ b o, Fr b = some o → F b = none
  slot : ∀ (i : Nat) (sv : SV), ρ[i]? = some (some sv) → ∃ v, σ[i]? = some (some v) ∧ SRel K Fr F H v sv
  uniq : ∀ (i j : Nat) (s t : SV), ρ[i]? = some (some s) → ρ[j]? = some (some t) → s.ex = true → t.ob = true → σ[i]? = σ[j]? → i = j
  len : ρ.length ≤ σ.length

section
variable {K : PySem.W.Frag} {Fr : Frm} {F H F' H' : Hp} {ρ : Rho} {σ : St}

/-- the heap grows beside -/
theorem Rel.grow (R : Rel K Fr F ρ σ H) (eF : Same F F') (eH : Same H H') (fH : Same F' H') (dj : ∀ b o, Fr b = some o → F' b = none)
    (nw : ∀ b, F' b ≠ none → F b = none → H b = none) : Rel K Fr F' ρ σ H' := by
  refine ⟨R.fr.trans eH, fH, dj, fun i sv e => ?_, R.uniq, R.len⟩
  obtain ⟨v, e1, s⟩ := R.slot i sv e
  refine ⟨v, e1, ?_⟩
  cases sv with
  | val d => exact Rep.mono eF s
  | bor d => obtain ⟨a, o, e2, h1, h2⟩ := s; exact ⟨a, o, e2, h1, h2.mono eF⟩
  | lck d => obtain ⟨a, o, e2, h1, h2⟩ := s; exact ⟨a, o, e2, h1, h2.mono eF⟩
  | own d =>
    obtain ⟨a, o, e2, h1, h2, h3, h4⟩ := s
    refine ⟨a, o, e2, eH _ _ h1, h2.mono eF, ?_, h4⟩
    cases q : F' a with
    | none => rfl
    | some u =>
      have z := nw a (by rw [q]; exact fun z => nomatch z) h3
      rw [z] at h1; cases h1
theorem same_new {p : Addr} {o : HO} (h : H p = none) : Same H (upd H p o) := fun b u e => by
  rw [upd_ne (ne_of_none e h)]; exact e
theorem same_upd2 {p : Addr} {o : HO} (h : Same F H) : Same (upd F p o) (upd H p o) := fun b u e => by
  by_cases z : b = p
  · subst z; rw [upd_same] at e ⊢; exact e
  · rw [upd_ne z] at e ⊢; exact h b u e
/-- a new plain object -/
theorem Rel.new (R : Rel K Fr F ρ σ H) {p : Addr} (o : HO) (h : H p = none) : Rel K Fr (upd F p o) ρ σ (upd H p o) ∧ Same F (upd F p o) := by
  have hF : F p = none := by
    cases q : F p with
    | none => rfl
    | some u => rw [R.f _ _ q] at h; cases h
  have hFr : Fr p = none := by
    cases q : Fr p with
    | none => rfl
    | some u => rw [R.fr _ _ q] at h; cases h
  refine ⟨R.grow (same_new hF) (same_new h) (same_upd2 R.f) (fun b u e => ?_) (fun b z1 z2 => ?_), same_new hF⟩
  · rw [upd_ne (ne_of_none e hFr)]; exact R.dj b u e
  · by_cases z : b = p
    · subst z; exact h
    · rw [upd_ne z] at z1; exact absurd z2 z1
/-- an object that no name holds is frozen -/
theorem Rel.freeze (R : Rel K Fr F ρ σ H) {p : Addr} {o : HO} (h : H p = some o) (hF : F p = none) (hFr : Fr p = none) (hn : ∀ (i : Nat) (d : D), ρ[i]? = some (some (.own d)) → σ[i]? ≠ some (some (.ref p))) :
    Rel K Fr (upd F p o) ρ σ H ∧ Same F (upd F p o) := by
  refine ⟨⟨R.fr, fun b u e => ?_, fun b u e => ?_, fun i sv e => ?_, R.uniq, R.len⟩, same_new hF⟩
  · by_cases z : b = p
    · subst z; rw [upd_same] at e; rw [h]; exact e
    · rw [upd_ne z] at e; exact R.f b u e
  · rw [upd_ne (ne_of_none e hFr)]; exact R.dj b u e
  · obtain ⟨v, e1, s⟩ := R.slot i sv e
    refine ⟨v, e1, ?_⟩
    cases sv with
    | val d => exact Rep.mono (same_new hF) s
    | bor d => obtain ⟨a, o', e2, h1, h2⟩ := s; exact ⟨a, o', e2, h1, h2.mono (same_new hF)⟩
    | lck d => obtain ⟨a, o', e2, h1, h2⟩ := s; exact ⟨a, o', e2, h1, h2.mono (same_new hF)⟩
    | own d =>
      obtain ⟨a, o', e2, h1, h2, h3, h4⟩ := s
      refine ⟨a, o', e2, h1, h2.mono (same_new hF), ?_, h4⟩
      rw [upd_ne (fun z => hn i d e (by rw [e1, e2, z]))]
      exact h3
theorem get_set_some {α : Type} {l : List α} {i j : Nat} {x y : α} (h : (l.set i x)[j]? = some y) : (i = j ∧ x = y ∧ i < l.length) ∨ (i ≠ j ∧ l[j]? = some y) := by
  by_cases e : i = j
  · subst e
    by_cases hl : i < l.length
    · rw [List.getElem?_set_self hl] at h
      exact .inl ⟨rfl, Option.some.inj h, hl⟩
    · rw [List.getElem?_eq_none (by simpa using hl)] at h; cases h
  · rw [List.getElem?_set_ne e] at h
    exact .inr ⟨e, h⟩
theorem some_lt {α : Type} {l : List α} {i : Nat} {x : α} (h : l[i]? = some x) : i < l.length := (List.getElem?_eq_some_iff.mp h).1
end
end Ev

set_option Elab.async false
set_option linter.all false
set_option maxRecDepth 100000
/-! Ev. B: what an expression gives. -/
set_option autoImplicit false
namespace Ev
open PySem PySem.Spec PyProof.Rows L2

/-- what an expression hands on: a plain value | a name, unread | a new object of its own -/
inductive Opd where
  | val (d : D) | var (i : Nat) | tmp (d : D)
  deriving Inhabited

def ORel (K : PySem.W.Frag) (Fr : Frm) (F : Hp) (ρ : Rho) (σ : St) (H : Hp) (v : V) : Opd → Prop
  | .val d => Rep K F v d
  | .var i => σ[i]? = some (some v)
  | .tmp d => ∃ a o, v = .ref a ∧ H a = some o ∧ Own K F o d ∧ F a = none ∧ Fr a = none ∧ ∀ (i : Nat) (e : D), ρ[i]? = some (some (.own e)) → σ[i]? ≠ some (some v)
/-- .. behind freezing -/
def NRel (K : PySem.W.Frag) (F : Hp) (σ : St) (v : V) : Opd → Prop
  | .val d => Rep K F v d
  | .var i => σ[i]? = some (some v)
  | .tmp _ => False
abbrev NRels (K : PySem.W.Frag) (F : Hp) (σ : St) : List V → List Opd → Prop := Paired (NRel K F σ)

abbrev EM := Rho → Option (Opd × Rho)
abbrev VM := Rho → Option (D × Rho)
abbrev AM := Rho → Option (List Opd × Rho)
abbrev DM := Rho → Option (List D × Rho)
abbrev TM := Rho → Option (Bool × Rho)

def tE (K : PySem.W.Frag) (m : EM) : TE := fun σ H Q => ∃ Fr F ρ o ρ', Rel K Fr F ρ σ H ∧ m ρ = some (o, ρ') ∧ ∀ F' H' v, Same F F' → Rel K Fr F' ρ' σ H' → ORel K Fr F' ρ' σ H' v o → Q v H'
def tN (K : PySem.W.Frag) (m : EM) : TE := fun σ H Q => ∃ Fr F ρ o ρ', Rel K Fr F ρ σ H ∧ m ρ = some (o, ρ') ∧ ∀ F' H' v, Same F F' → Rel K Fr F' ρ' σ H' → NRel K F' σ v o → Q v H'
def tV (K : PySem.W.Frag) (m : VM) : TE := fun σ H Q => ∃ Fr F ρ d ρ', Rel K Fr F ρ σ H ∧ m ρ = some (d, ρ') ∧ ∀ F' H' v, Same F F' → Rel K Fr F' ρ' σ H' → Rep K F' v d → Q v H'
def tA (K : PySem.W.Frag) (m : AM) : TA := fun σ H Q => ∃ Fr F ρ os ρ', Rel K Fr F ρ σ H ∧ m ρ = some (os, ρ') ∧ ∀ F' H' vs, Same F F' → Rel K Fr F' ρ' σ H' → NRels K F' σ vs os → Q vs H'
def tD (K : PySem.W.Frag) (m : DM) : TA := fun σ H Q => ∃ Fr F ρ ds ρ', Rel K Fr F ρ σ H ∧ m ρ = some (ds, ρ') ∧ ∀ F' H' vs, Same F F' → Rel K Fr F' ρ' σ H' → Reps K F' vs ds → Q vs H'
def tT (K : PySem.W.Frag) (m : TM) : TT := fun σ H Q => ∃ Fr F ρ b ρ', Rel K Fr F ρ σ H ∧ m ρ = some (b, ρ') ∧ ∀ F' H', Same F F' → Rel K Fr F' ρ' σ H' → Q b H'

structure OE (X : Cx) (e : Expr) (m : EM) : Prop where
  pe : PE X e (tE X.K m)
structure NE (X : Cx) (e : Expr) (m : EM) : Prop where
  pe : PE X e (tN X.K m)
structure VE (X : Cx) (e : Expr) (m : VM) : Prop where
  pe : PE X e (tV X.K m)
/-- operands, read only -/
structure AE (X : Cx) (es : List Expr) (m : AM) : Prop where
  pa : PA X es (tA X.K m)
/-- values -/
structure DE (X : Cx) (es : List Expr) (m : DM) : Prop where
  pa : PA X es (tD X.K m)
structure TeE (X : Cx) (e : Expr) (m : TM) : Prop where
  pt : PT X e (tT X.K m)

theorem pe_imp {X : Cx} {e : Expr} {t t' : TE} (h : PE X e t) (w : ∀ σ H Q, t' σ H Q → t σ H Q) : PE X e t' := ⟨fun pins s σ H Q I q => h.run pins s σ H Q I (w σ H Q q)⟩
theorem pt_imp {X : Cx} {e : Expr} {t t' : TT} (h : PT X e t) (w : ∀ σ H Q, t' σ H Q → t σ H Q) : PT X e t' := ⟨fun pins s σ H Q I q => h.run pins s σ H Q I (w σ H Q q)⟩
theorem pw_imp {X : Cx} {e : Expr} {t t' : TT} (h : PW X e t) (w : ∀ σ H Q, t' σ H Q → t σ H Q) : PW X e t' := ⟨fun wh pins s σ H Q I q => h.run wh pins s σ H Q I (w σ H Q q)⟩
theorem pa_imp {X : Cx} {es : List Expr} {t t' : TA} (h : PA X es t) (w : ∀ σ H Q, t' σ H Q → t σ H Q) : PA X es t' := ⟨fun pos pins s σ H Q I q => h.run pos pins s σ H Q I (w σ H Q q)⟩
theorem ps_imp {X : Cx} {st : Stmt} {t t' : TS} (h : PS X st t) (w : ∀ Dn σ H, t' Dn σ H → t Dn σ H) : PS X st t' := ⟨fun pins s σ H Dn I q => h.run pins s σ H Dn I (w Dn σ H q)⟩
theorem pss_imp {X : Cx} {st : List Stmt} {t t' : TS} (h : PSs X st t) (w : ∀ Dn σ H, t' Dn σ H → t Dn σ H) : PSs X st t' := ⟨fun pins s σ H Dn I q => h.run pins s σ H Dn I (w Dn σ H q)⟩
theorem pg_imp {X : Cx} {e : Expr} {t t' : TG} (h : PG X e t) (w : ∀ v σ H Q, t' v σ H Q → t v σ H Q) : PG X e t' := ⟨fun pins s σ H v u Q I r q => h.run pins s σ H v u Q I r (w v σ H Q q)⟩
theorem pi_imp {X : Cx} {tg it : Expr} {t t' : TI} (h : PI X tg it t) (w : ∀ σ H R, t' σ H R → t σ H R) : PI X tg it t' := ⟨fun pins s σ H R I q => h.run pins s σ H R I (w σ H R q)⟩

def frz (m : EM) : EM := fun ρ => match m ρ with
  | some (.tmp d, ρ') => some (.val d, ρ')
  | r => r
/-- what is read of an operand, now -/
def look (o : Opd) (ρ : Rho) : Option D := match o with
  | .val d => some d
  | .var i => match ρ[i]? with
    | some (some sv) => some sv.d
    | _ => none
  | .tmp _ => none
def looks : List Opd → Rho → Option (List D)
  | [], _ => some []
  | o :: os, ρ => match look o ρ with
    | some d => match looks os ρ with
      | some ds => some (d :: ds)
      | none => none
    | none => none
/-- the operand as a plain value: a name's own object is frozen -/
def escO (o : Opd) (ρ : Rho) : Option (D × Rho) := match o with
  | .val d => some (d, ρ)
  | .tmp d => some (d, ρ)
  | .var i => match ρ[i]? with
    | some (some (.own d)) => some (d, ρ.set i (some (.val d)))
    | some (some (.val d)) => some (d, ρ)
    | _ => none
def esc (m : EM) : VM := fun ρ => match m ρ with
  | some (o, ρ') => escO o ρ'
  | none => none

/-- read: plain, or an object as it stands -/
def Viw (K : PySem.W.Frag) (F H : Hp) (v : V) (d : D) : Prop := Rep K F v d ∨ ∃ a o, v = .ref a ∧ H a = some o ∧ Own K F o d

section
variable {K : PySem.W.Frag} {Fr : Frm} {F F' H H' : Hp} {ρ ρ' : Rho} {σ : St} {v : V} {o : Opd} {d : D}

theorem NRel.mono (e : Same F F') (h : NRel K F σ v o) : NRel K F' σ v o := by
  cases o with
  | val d => exact Rep.mono e h
  | var i => exact h
  | tmp d => exact h
theorem NRels.mono (e : Same F F') : ∀ {vs : List V} {os : List Opd}, NRels K F σ vs os → NRels K F' σ vs os
  | _, _, .nil => .nil
  | _, _, .cons h r => .cons (NRel.mono e h) (NRels.mono e r)
theorem own_rep {a : Addr} {o : HO} (h : F a = some o) (w : Own K F o d) : Rep K F (.ref a) d := by
  cases w with
  | lst r => exact .lst h r
  | ins l r => exact .ins h l r
  | dct l r => exact .dct h l r
theorem Rel.frz (R : Rel K Fr F ρ σ H) (h : ORel K Fr F ρ σ H v (.tmp d)) : ∃ F', Same F F' ∧ Rel K Fr F' ρ σ H ∧ Rep K F' v d := by
  obtain ⟨a, o, rfl, h1, h2, h3, h4, h5⟩ := h
  obtain ⟨R', e⟩ := R.freeze h1 h3 h4 h5
  exact ⟨_, e, R', own_rep upd_same (h2.mono e)⟩
theorem NRel.look (R : Rel K Fr F ρ σ H) (n : NRel K F σ v o) (h : look o ρ = some d) : Viw K F H v d := by
  cases o with
  | val e => cases h; exact .inl n
  | tmp e => cases h
  | var i =>
    dsimp only [Ev.look] at h
    split at h
    · rename_i sv e
      cases h
      obtain ⟨v', e', s⟩ := R.slot i sv e
      rw [n] at e'; cases e'
      cases sv with
      | val d => exact .inl s
      | own d => obtain ⟨a, o, e1, h1, h2, _⟩ := s; exact .inr ⟨a, o, e1, h1, h2⟩
      | bor d => obtain ⟨a, o, e1, h1, h2⟩ := s; exact .inr ⟨a, o, e1, R.fr _ _ h1.1, h2⟩
      | lck d => obtain ⟨a, o, e1, h1, h2⟩ := s; exact .inr ⟨a, o, e1, R.fr _ _ h1.1, h2⟩
    · cases h
/-- the slot of an object becomes a plain value -/
theorem Rel.setVal (R : Rel K Fr F ρ σ H) {i : Nat} (h : σ[i]? = some (some v)) (r : Rep K F v d) : Rel K Fr F (ρ.set i (some (.val d))) σ H := by
  refine ⟨R.fr, R.f, R.dj, fun j sv e => ?_, fun j k d1 d2 e1 e2 x1 x2 => ?_, by rw [List.length_set]; exact R.len⟩
  · rcases get_set_some e with ⟨rfl, e1, _⟩ | ⟨_, e1⟩
    · cases e1; exact ⟨v, h, r⟩
    · exact R.slot j sv e1
  · rcases get_set_some e1 with ⟨_, e3, _⟩ | ⟨_, e3⟩
    · cases e3; cases x1
    · rcases get_set_some e2 with ⟨_, e4, _⟩ | ⟨_, e4⟩
      · cases e4; cases x2
      · exact R.uniq j k d1 d2 e3 e4 x1 x2
/-- a slot forgotten -/
theorem Rel.drop (R : Rel K Fr F ρ σ H) (i : Nat) : Rel K Fr F (ρ.set i none) σ H := by
  refine ⟨R.fr, R.f, R.dj, fun j sv e => ?_, fun j k d1 d2 e1 e2 x1 x2 e3 => ?_, by rw [List.length_set]; exact R.len⟩
  · rcases get_set_some e with ⟨_, e1, _⟩ | ⟨ne, e1⟩
    · cases e1
    · exact R.slot j sv e1
  · rcases get_set_some e1 with ⟨_, z, _⟩ | ⟨n1, z1⟩
    · cases z
    · rcases get_set_some e2 with ⟨_, z, _⟩ | ⟨n2, z2⟩
      · cases z
      · exact R.uniq j k d1 d2 z1 z2 x1 x2 e3
theorem Rel.escO (R : Rel K Fr F ρ σ H) (h : ORel K Fr F ρ σ H v o) (e : escO o ρ = some (d, ρ')) : ∃ F', Same F F' ∧ Rel K Fr F' ρ' σ H ∧ Rep K F' v d := by
  cases o with
  | val d' => cases e; exact ⟨F, Same.refl F, R, h⟩
  | tmp d' => cases e; exact R.frz h
  | var i =>
    dsimp only [Ev.escO] at e
    split at e
    · rename_i d' e'
      cases e
      obtain ⟨v', e1, a, o, e2, h1, h2, h3, h4⟩ := R.slot i _ e'
      have e1' : v' = v := by
        have z : σ[i]? = some (some v) := h
        rw [z] at e1; cases e1; rfl
      subst e1'
      have R0 := R.drop i
      obtain ⟨R1, e5⟩ := R0.freeze h1 h3 h4 fun j d1 e3 e4 => by
        rcases get_set_some e3 with ⟨_, e6, _⟩ | ⟨ne, e6⟩
        · cases e6
        · exact ne (R.uniq i j _ _ e' e6 rfl rfl (by rw [e1, e4, e2]))
      refine ⟨_, e5, ?_, by subst e2; exact own_rep upd_same (h2.mono e5)⟩
      have R2 := R1.setVal (i := i) e1 (by subst e2; exact own_rep upd_same (h2.mono e5))
      rw [List.set_set] at R2
      exact R2
    · rename_i d' e'
      cases e
      obtain ⟨v', e1, r⟩ := R.slot i _ e'
      have z : σ[i]? = some (some v) := h
      rw [z] at e1; cases e1
      exact ⟨F, Same.refl F, R, r⟩
    · cases e
theorem NRel.toO (h : NRel K F σ v o) : ORel K Fr F ρ σ H v o := by
  cases o with
  | val d => exact h
  | var i => exact h
  | tmp d => exact h.elim
theorem Viw.mono (e : Same F F') (h : Viw K F H v d) : Viw K F' H v d := by
  rcases h with h | ⟨a, o, e1, h1, h2⟩
  · exact .inl (h.mono e)
  · exact .inr ⟨a, o, e1, h1, h2.mono e⟩
theorem Viw.non (h : Viw K F H v .non) : v = .non := by
  rcases h with h | ⟨a, o, e1, h1, h2⟩
  · cases h; rfl
  · cases h2
theorem Viw.bl {b : Bool} (h : Viw K F H v (.bl b)) : v = .bl b := by
  rcases h with h | ⟨a, o, e1, h1, h2⟩
  · cases h; rfl
  · cases h2
theorem Viw.int {i : Int} (h : Viw K F H v (.int i)) : v = .int i := by
  rcases h with h | ⟨a, o, e1, h1, h2⟩
  · cases h; rfl
  · cases h2
theorem Viw.str {x : Str} (h : Viw K F H v (.str x)) : v = .str x := by
  rcases h with h | ⟨a, o, e1, h1, h2⟩
  · cases h; rfl
  · cases h2
theorem Viw.tup (s : Same F H) {ds : List D} (h : Viw K F H v (.tup ds)) : ∃ a vs, v = .ref a ∧ SqT K H a vs ∧ Reps K F vs ds := by
  rcases h with h | ⟨a, o, e1, h1, h2⟩
  · cases h with | tup h r => exact ⟨_, _, rfl, sameT s h, r⟩
  · cases h2
theorem Viw.lst (s : Same F H) {ds : List D} (h : Viw K F H v (.lst ds)) : ∃ a vs, v = .ref a ∧ H a = some (.lst vs) ∧ Reps K F vs ds := by
  rcases h with h | ⟨a, o, e1, h1, h2⟩
  · cases h with | lst h r => exact ⟨_, _, rfl, s _ _ h, r⟩
  · cases h2 with | lst r => exact ⟨_, _, e1, h1, r⟩
theorem Viw.rol (s : Same F H) {ds : List D} (h : Viw K F H v (.rol ds)) : ∃ a vs, v = .ref a ∧ SqL K H a vs ∧ Reps K F vs ds := by
  rcases h with h | ⟨a, o, e1, h1, h2⟩
  · cases h with | rol h r => exact ⟨_, _, rfl, sameL s h, r⟩
  · cases h2
end
/-- the items of a list or tuple -/
def seqD : D → Option (List D)
  | .tup xs => some xs
  | .lst xs => some xs
  | .rol xs => some xs
  | _ => none
theorem Viw.seq {K : PySem.W.Frag} {F H : Hp} {v : V} {d : D} {ds : List D} (s : Same F H) (h : Viw K F H v d) (e : seqD d = some ds) : ∃ a vs, v = .ref a ∧ (SqL K H a vs ∨ SqT K H a vs) ∧ Reps K F vs ds := by
  cases d <;> cases e
  · obtain ⟨a, vs, e1, q, r⟩ := h.tup s; exact ⟨a, vs, e1, .inr q, r⟩
  · obtain ⟨a, vs, e1, q, r⟩ := h.lst s; exact ⟨a, vs, e1, .inl (SqL.of q), r⟩
  · obtain ⟨a, vs, e1, q, r⟩ := h.rol s; exact ⟨a, vs, e1, .inl q, r⟩

section
variable {X : Cx} {e a b : Expr} {es : List Expr} {m ma mb : EM} {pos : Pos}
theorem OE.ne (h : OE X e m) : NE X e (frz m) := by
  refine ⟨pe_imp h.pe fun σ H Q ⟨Fr, F, ρ, o, ρ', R, em, k⟩ => ?_⟩
  unfold frz at em
  split at em
  · rename_i d ρ1 e1
    cases em
    refine ⟨Fr, F, ρ, _, _, R, e1, fun F' H' v s R' q => ?_⟩
    obtain ⟨F2, s2, R2, r2⟩ := R'.frz q
    exact k F2 H' v (s.trans s2) R2 r2
  · rename_i r hne
    cases o with
    | tmp d => exact absurd em (hne _ _)
    | val d => exact ⟨Fr, F, ρ, _, _, R, em, fun F' H' v s R' q => k F' H' v s R' q⟩
    | var i => exact ⟨Fr, F, ρ, _, _, R, em, fun F' H' v s R' q => k F' H' v s R' q⟩
theorem OE.ve (h : OE X e m) : VE X e (esc m) := by
  refine ⟨pe_imp h.pe fun σ H Q ⟨Fr, F, ρ, d, ρ', R, em, k⟩ => ?_⟩
  unfold esc at em
  split at em
  · rename_i o ρ1 e1
    refine ⟨Fr, F, ρ, _, _, R, e1, fun F' H' v s R' q => ?_⟩
    obtain ⟨F2, s2, R2, r2⟩ := R'.escO q em
    exact k F2 H' v (s.trans s2) R2 r2
  · cases em

/-! names, constants -/
def varM (i : Nat) : EM := fun ρ => match ρ[i]? with
  | some (some (.val d)) => some (.val d, ρ)
  | some (some _) => some (.var i, ρ)
  | _ => none
theorem oe_var (i : Nat) {x : Str} (hN : X.N[i]? = some x := by rfl) (hv : Vis X.env.scope x := by first | exact Or.inl rfl | exact Or.inr (Or.inl rfl) | exact Or.inr (Or.inr rfl)) (hd : (x == ("__debug__" : Str)) = false := by decide)
    (hcd : (x == ("__classdict__" : Str)) = false := by decide) : OE X (.Name x pos) (varM i) := by
  refine ⟨pe_imp (pe_var hN hv hd hcd) fun σ H Q ⟨Fr, F, ρ, o, ρ', R, em, k⟩ => ?_⟩
  unfold varM at em
  split at em
  · rename_i d e1
    cases em
    obtain ⟨v, e2, r⟩ := R.slot i _ e1
    exact ⟨v, e2, k F H v (Same.refl F) R r⟩
  · rename_i sv hne e1
    cases em
    obtain ⟨v, e2, r⟩ := R.slot i _ e1
    exact ⟨v, e2, k F H v (Same.refl F) R e2⟩
  · cases em
def constM (d : D) : EM := fun ρ => some (.val d, ρ)
theorem oe_const {v : V} {d : D} (h : PE X e (tC v)) (r : ∀ F, Rep X.K F v d) : OE X e (constM d) := by
  refine ⟨pe_imp h fun σ H Q ⟨Fr, F, ρ, o, ρ', R, em, k⟩ => ?_⟩
  cases em
  exact k F H v (Same.refl F) R (r F)
theorem oe_int {i : Int} {j} : OE X (.Constant (.int i) j pos) (constM (.int i)) := oe_const pe_int fun _ => .int i
theorem oe_bl {i : Bool} {j} : OE X (.Constant (.bool i) j pos) (constM (.bl i)) := oe_const pe_bl fun _ => .bl i
theorem oe_non {j} : OE X (.Constant .none j pos) (constM .non) := oe_const pe_non fun _ => .non
theorem oe_str {i : Str} {j} : OE X (.Constant (.str i) j pos) (constM (.str i)) := oe_const pe_str fun _ => .str i

/-! two operands -/
/-- what is wanted behind an operation that changes nothing -/
def After (K : PySem.W.Frag) (Fr : Frm) (F : Hp) (ρ : Rho) (σ : St) (o : Opd) (Q : VK) : Prop := ∀ F' H' v, Same F F' → Rel K Fr F' ρ σ H' → ORel K Fr F' ρ σ H' v o → Q v H'
def OpS (X : Cx) (r : R2) (g : D → D → Option Opd) : Prop :=
  ∀ {Fr : Frm} {F H : Hp} {ρ : Rho} {σ : St} {x y : V} {d e : D} {o : Opd} {Q : VK}, Rel X.K Fr F ρ σ H → Viw X.K F H x d → Viw X.K F H y e → g d e = some o → After X.K Fr F ρ σ o Q → r x y H Q
def binM (g : D → D → Option Opd) (ma mb : EM) : EM := fun ρ => match frz ma ρ with
  | some (oa, ρ1) => match frz mb ρ1 with
    | some (ob, ρ2) => match look oa ρ2 with
      | some d => match look ob ρ2 with
        | some e => match g d e with
          | some o => some (o, ρ2)
          | none => none
        | none => none
      | none => none
    | none => none
  | none => none
theorem binM_some {g : D → D → Option Opd} {ρ ρ' : Rho} {o : Opd} (h : binM g ma mb ρ = some (o, ρ')) : ∃ oa ρ1 ob d e, frz ma ρ = some (oa, ρ1) ∧ frz mb ρ1 = some (ob, ρ') ∧ look oa ρ' = some d ∧ look ob ρ' = some e ∧ g d e = some o := by
  unfold binM at h
  split at h
  · rename_i oa ρ1 e1
    split at h
    · rename_i ob ρ2 e2
      split at h
      · rename_i d e3
        split at h
        · rename_i e e4
          split at h
          · rename_i o' e5
            cases h
            exact ⟨_, _, _, _, _, e1, e2, e3, e4, e5⟩
          · cases h
        · cases h
      · cases h
    · cases h
  · cases h
theorem tOp_bin {r : R2} {g : D → D → Option Opd} (hs : OpS X r g) {σ : St} {H : Hp} {Q : VK} (h : tE X.K (binM g ma mb) σ H Q) : tOp r (tN X.K (frz ma)) (tN X.K (frz mb)) σ H Q := by
  obtain ⟨Fr, F, ρ, o, ρ', R, em, k⟩ := h
  obtain ⟨oa, ρ1, ob, d, e', e1, e2, e3, e4, e5⟩ := binM_some em
  refine ⟨Fr, F, ρ, oa, ρ1, R, e1, fun F1 H1 x s1 R1 q1 => ⟨Fr, F1, ρ1, ob, _, R1, e2, fun F2 H2 y s2 R2 q2 => ?_⟩⟩
  exact hs R2 ((q1.mono s2).look R2 e3) (q2.look R2 e4) e5 fun F3 H3 v s3 R3 q3 => k F3 H3 v ((s1.trans s2).trans s3) R3 q3
theorem oe_op {op : Operator} {r : R2} {g : D → D → Option Opd} (ho : OpR X (binaryOp op) r) (hs : OpS X r g) (ha : OE X a ma) (hb : OE X b mb) : OE X (.BinOp a op b pos) (binM g ma mb) :=
  ⟨pe_imp (pe_op ho ha.ne.pe hb.ne.pe) fun _ _ _ => tOp_bin hs⟩
theorem oe_cmp {op : CmpOp} {r : R2} {g : D → D → Option Opd} (ho : OpR X (compareOp op) r) (hs : OpS X r g) (ha : OE X a ma) (hb : OE X b mb) (hm : behindInMarks op b = false) : OE X (.Compare a [op] [b] pos) (binM g ma mb) :=
  ⟨pe_imp (pe_cmpR ho ha.ne.pe hb.ne.pe hm) fun _ _ _ => tOp_bin hs⟩
/-- an expression that gives a truth value, as a test -/
def boolM (m : EM) : TM := fun ρ => match m ρ with
  | some (.val (.bl b), ρ') => some (b, ρ')
  | _ => none
theorem boolM_some {ρ ρ' : Rho} {b : Bool} (h : boolM m ρ = some (b, ρ')) : m ρ = some (.val (.bl b), ρ') := by
  unfold boolM at h
  split at h
  · rename_i b' ρ1 e; cases h; exact e
  · cases h
theorem te_cmp {op : CmpOp} {r : R2} {g : D → D → Option Opd} (ho : OpR X (compareOp op) r) (hs : OpS X r g) (ha : OE X a ma) (hb : OE X b mb) (hm : behindInMarks op b = false) : TeE X (.Compare a [op] [b] pos) (boolM (binM g ma mb)) := by
  refine ⟨pt_imp (pt_cmpR ho ha.ne.pe hb.ne.pe hm) fun σ H Q ⟨Fr, F, ρ, c, ρ', R, em, k⟩ => ?_⟩
  refine tOp_bin hs ⟨Fr, F, ρ, _, ρ', R, boolM_some em, fun F' H' v s R' q => ?_⟩
  cases q
  exact ⟨c, rfl, k F' H' s R'⟩
/-- truth -/
def truD : D → Option Bool
  | .non => some false
  | .bl b => some b
  | .int i => some (i != 0)
  | .str s => if s.length ≤ sizeLine then some ((s.length : Int) != 0) else none
  | .tup xs => some (!xs.isEmpty)
  | .lst xs => some (!xs.isEmpty)
  | .rol xs => some (!xs.isEmpty)
  | .ins _ _ _ => none
  | .dct _ _ => none
theorem isE {K : PySem.W.Frag} {F : Hp} {vs : List V} {ds : List D} (r : Reps K F vs ds) : vs.isEmpty = ds.isEmpty := by cases r <;> rfl
theorem truV_of {K : PySem.W.Frag} {F H : Hp} {v : V} {d : D} {c : Bool} (s : Same F H) (h : Viw K F H v d) (e : truD d = some c) : TruV K v H c := by
  cases d with
  | non => cases h.non; cases e; rfl
  | bl b => cases h.bl; cases e; rfl
  | int i => cases h.int; cases e; rfl
  | str x =>
    cases h.str
    dsimp only [truD] at e
    split at e
    · rename_i hl; cases e; exact ⟨hl, rfl⟩
    · cases e
  | tup xs => cases e; obtain ⟨a, vs, rfl, q, r⟩ := h.tup s; exact .inr (.inl ⟨vs, q, by rw [isE r]⟩)
  | lst xs => cases e; obtain ⟨a, vs, rfl, q, r⟩ := h.lst s; exact .inl ⟨vs, SqL.of q, by rw [isE r]⟩
  | rol xs => cases e; obtain ⟨a, vs, rfl, q, r⟩ := h.rol s; exact .inl ⟨vs, q, by rw [isE r]⟩
  | ins C ks ds => cases e
  | dct ks ds => cases e
def truM (m : EM) : TM := fun ρ => match frz m ρ with
  | some (o, ρ') => match look o ρ' with
    | some d => match truD d with
      | some b => some (b, ρ')
      | none => none
    | none => none
  | none => none
theorem truM_some {ρ ρ' : Rho} {c : Bool} (h : truM m ρ = some (c, ρ')) : ∃ o d, frz m ρ = some (o, ρ') ∧ look o ρ' = some d ∧ truD d = some c := by
  unfold truM at h
  split at h
  · rename_i o ρ1 e1
    split at h
    · rename_i d e2
      split at h
      · rename_i b' e3; cases h; exact ⟨_, _, e1, e2, e3⟩
      · cases h
    · cases h
  · cases h
theorem te_tru (h : OE X e m) (he : ∀ whole, isTrue e X.env whole = (do let v ← whole; standAt e.pos; holding [v] (truthy v)) := by intro _; rfl) : TeE X e (truM m) := by
  refine ⟨pt_imp (pt_truth h.ne.pe he) fun σ H Q ⟨Fr, F, ρ, c, ρ', R, em, k⟩ => ?_⟩
  obtain ⟨o, d, e1, e2, e3⟩ := truM_some em
  exact ⟨Fr, F, ρ, o, ρ', R, e1, fun F' H' v s R' q => ⟨c, truV_of R'.f (q.look R' e2) e3, k F' H' s R'⟩⟩

/-! and, or, not -/
structure TwE (X : Cx) (e : Expr) (m : TM) : Prop where
  pw : PW X e (tT X.K m)
variable {t u : TM} {rest : List Expr}
theorem TwE.te (h : TwE X e t) : TeE X e t := ⟨h.pw.pt⟩
def andM (t u : TM) : TM := fun ρ => match t ρ with
  | some (true, ρ') => u ρ'
  | r => r
def orM (t u : TM) : TM := fun ρ => match t ρ with
  | some (false, ρ') => u ρ'
  | r => r
def notM (t : TM) : TM := fun ρ => match t ρ with
  | some (b, ρ') => some (!b, ρ')
  | none => none
theorem tw_and1 (h : TeE X a t) : TwE X (.BoolOp .And [a] pos) t := ⟨pw_and1 h.pt⟩
theorem tw_or1 (h : TeE X a t) : TwE X (.BoolOp .Or [a] pos) t := ⟨pw_or1 h.pt⟩
theorem tw_and (ha : TeE X a t) (hb : TwE X (.BoolOp .And (b :: rest) pos) u) : TwE X (.BoolOp .And (a :: b :: rest) pos) (andM t u) := by
  refine ⟨pw_imp (pw_and ha.pt hb.pw) fun σ H Q ⟨Fr, F, ρ, c, ρ', R, em, k⟩ => ?_⟩
  unfold andM at em
  split at em
  · rename_i ρ1 e1
    refine ⟨Fr, F, ρ, _, _, R, e1, fun F1 H1 s1 R1 => iteT ?_⟩
    exact ⟨Fr, F1, ρ1, c, ρ', R1, em, fun F2 H2 s2 R2 => k F2 H2 (s1.trans s2) R2⟩
  · rename_i hne
    cases c with
    | true => exact absurd em (hne _)
    | false => exact ⟨Fr, F, ρ, _, _, R, em, fun F1 H1 s1 R1 => iteF (k F1 H1 s1 R1)⟩
theorem tw_or (ha : TeE X a t) (hb : TwE X (.BoolOp .Or (b :: rest) pos) u) : TwE X (.BoolOp .Or (a :: b :: rest) pos) (orM t u) := by
  refine ⟨pw_imp (pw_or ha.pt hb.pw) fun σ H Q ⟨Fr, F, ρ, c, ρ', R, em, k⟩ => ?_⟩
  unfold orM at em
  split at em
  · rename_i ρ1 e1
    refine ⟨Fr, F, ρ, _, _, R, e1, fun F1 H1 s1 R1 => iteF ?_⟩
    exact ⟨Fr, F1, ρ1, c, ρ', R1, em, fun F2 H2 s2 R2 => k F2 H2 (s1.trans s2) R2⟩
  · rename_i hne
    cases c with
    | false => exact absurd em (hne _)
    | true => exact ⟨Fr, F, ρ, _, _, R, em, fun F1 H1 s1 R1 => iteT (k F1 H1 s1 R1)⟩
theorem te_not (ha : TeE X a t) : TeE X (.UnaryOp .Not a pos) (notM t) := by
  refine ⟨pt_imp (pt_not ha.pt) fun σ H Q ⟨Fr, F, ρ, c, ρ', R, em, k⟩ => ?_⟩
  unfold notM at em
  split at em
  · rename_i b' ρ1 e1
    cases em
    exact ⟨Fr, F, ρ, _, _, R, e1, fun F1 H1 s1 R1 => k F1 H1 s1 R1⟩
  · cases em
/-- x if t else y -/
def ifM (t : TM) (ma mb : EM) : EM := fun ρ => match t ρ with
  | some (true, ρ') => ma ρ'
  | some (false, ρ') => mb ρ'
  | none => none
theorem oe_if {c : Expr} (hc : TeE X c t) (ha : OE X a ma) (hb : OE X b mb) : OE X (.IfExp c a b pos) (ifM t ma mb) := by
  refine ⟨pe_imp (pe_ifExp hc.pt ha.pe hb.pe) fun σ H Q ⟨Fr, F, ρ, o, ρ', R, em, k⟩ => ?_⟩
  unfold ifM at em
  split at em
  · rename_i ρ1 e1
    exact ⟨Fr, F, ρ, _, _, R, e1, fun F1 H1 s1 R1 => iteT ⟨Fr, F1, ρ1, o, ρ', R1, em, fun F2 H2 v s2 R2 q => k F2 H2 v (s1.trans s2) R2 q⟩⟩
  · rename_i ρ1 e1
    exact ⟨Fr, F, ρ, _, _, R, e1, fun F1 H1 s1 R1 => iteF ⟨Fr, F1, ρ1, o, ρ', R1, em, fun F2 H2 v s2 R2 q => k F2 H2 v (s1.trans s2) R2 q⟩⟩
  · cases em
/-- as values: truth values alone -/
def andV (ma mb : EM) : EM := fun ρ => match ma ρ with
  | some (.val (.bl true), ρ') => mb ρ'
  | some (.val (.bl false), ρ') => some (.val (.bl false), ρ')
  | _ => none
def orV (ma mb : EM) : EM := fun ρ => match ma ρ with
  | some (.val (.bl false), ρ') => mb ρ'
  | some (.val (.bl true), ρ') => some (.val (.bl true), ρ')
  | _ => none
def notV (ma : EM) : EM := fun ρ => match ma ρ with
  | some (.val (.bl b), ρ') => some (.val (.bl (!b)), ρ')
  | _ => none
theorem oe_one {op} (h : OE X a m) : OE X (.BoolOp op [a] pos) m := ⟨pe_one h.pe⟩
theorem oe_and (ha : OE X a ma) (hb : OE X (.BoolOp .And (b :: rest) pos) mb) : OE X (.BoolOp .And (a :: b :: rest) pos) (andV ma mb) := by
  refine ⟨pe_imp (pe_and ha.pe hb.pe) fun σ H Q ⟨Fr, F, ρ, o, ρ', R, em, k⟩ => ?_⟩
  unfold andV at em
  split at em
  · rename_i ρ1 e1
    refine ⟨Fr, F, ρ, _, _, R, e1, fun F1 H1 v s1 R1 q => ?_⟩
    cases q
    exact ⟨true, rfl, iteT ⟨Fr, F1, ρ1, o, ρ', R1, em, fun F2 H2 v s2 R2 q => k F2 H2 v (s1.trans s2) R2 q⟩⟩
  · rename_i ρ1 e1
    cases em
    refine ⟨Fr, F, ρ, _, _, R, e1, fun F1 H1 v s1 R1 q => ?_⟩
    cases q
    exact ⟨false, rfl, iteF (k F1 H1 _ s1 R1 (.bl false))⟩
  · cases em
theorem oe_or (ha : OE X a ma) (hb : OE X (.BoolOp .Or (b :: rest) pos) mb) : OE X (.BoolOp .Or (a :: b :: rest) pos) (orV ma mb) := by
  refine ⟨pe_imp (pe_or ha.pe hb.pe) fun σ H Q ⟨Fr, F, ρ, o, ρ', R, em, k⟩ => ?_⟩
  unfold orV at em
  split at em
  · rename_i ρ1 e1
    refine ⟨Fr, F, ρ, _, _, R, e1, fun F1 H1 v s1 R1 q => ?_⟩
    cases q
    exact ⟨false, rfl, iteF ⟨Fr, F1, ρ1, o, ρ', R1, em, fun F2 H2 v s2 R2 q => k F2 H2 v (s1.trans s2) R2 q⟩⟩
  · rename_i ρ1 e1
    cases em
    refine ⟨Fr, F, ρ, _, _, R, e1, fun F1 H1 v s1 R1 q => ?_⟩
    cases q
    exact ⟨true, rfl, iteT (k F1 H1 _ s1 R1 (.bl true))⟩
  · cases em
theorem oe_not (ha : OE X a ma) : OE X (.UnaryOp .Not a pos) (notV ma) := by
  refine ⟨pe_imp (pe_not ha.pe) fun σ H Q ⟨Fr, F, ρ, o, ρ', R, em, k⟩ => ?_⟩
  unfold notV at em
  split at em
  · rename_i b' ρ1 e1
    cases em
    refine ⟨Fr, F, ρ, _, _, R, e1, fun F1 H1 v s1 R1 q => ?_⟩
    cases q
    exact ⟨b', rfl, k F1 H1 _ s1 R1 (.bl _)⟩
  · cases em

/-! operands in a row -/
def nilA : AM := fun ρ => some ([], ρ)
def consA (m : EM) (r : AM) : AM := fun ρ => match frz m ρ with
  | some (o, ρ') => match r ρ' with
    | some (os, ρ2) => some (o :: os, ρ2)
    | none => none
  | none => none
theorem ae_nil : AE X [] nilA := ⟨pa_imp pa_nil fun σ H Q ⟨Fr, F, ρ, os, ρ', R, em, k⟩ => by cases em; exact k F H [] (Same.refl F) R .nil⟩
theorem ae_cons {r : AM} (h : OE X e m) (hr : AE X es r) (hs : starEach (e :: es) X.env = (false, eval e X.env) :: starEach es X.env := by rfl) : AE X (e :: es) (consA m r) := by
  refine ⟨pa_imp (pa_cons h.ne.pe hr.pa hs) fun σ H Q ⟨Fr, F, ρ, os, ρ', R, em, k⟩ => ?_⟩
  unfold consA at em
  split at em
  · rename_i o ρ1 e1
    split at em
    · rename_i os' ρ2 e2
      cases em
      exact ⟨Fr, F, ρ, _, _, R, e1, fun F1 H1 v s1 R1 q => ⟨Fr, F1, ρ1, _, _, R1, e2, fun F2 H2 vs s2 R2 q2 => k F2 H2 _ (s1.trans s2) R2 (.cons (q.mono s2) q2)⟩⟩
    · cases em
  · cases em
def nilD : DM := fun ρ => some ([], ρ)
def consD (m : EM) (r : DM) : DM := fun ρ => match esc m ρ with
  | some (d, ρ') => match r ρ' with
    | some (ds, ρ2) => some (d :: ds, ρ2)
    | none => none
  | none => none
theorem de_nil : DE X [] nilD := ⟨pa_imp pa_nil fun σ H Q ⟨Fr, F, ρ, os, ρ', R, em, k⟩ => by cases em; exact k F H [] (Same.refl F) R .nil⟩
theorem de_cons {r : DM} (h : OE X e m) (hr : DE X es r) (hs : starEach (e :: es) X.env = (false, eval e X.env) :: starEach es X.env := by rfl) : DE X (e :: es) (consD m r) := by
  refine ⟨pa_imp (pa_cons h.ve.pe hr.pa hs) fun σ H Q ⟨Fr, F, ρ, os, ρ', R, em, k⟩ => ?_⟩
  unfold consD at em
  split at em
  · rename_i o ρ1 e1
    split at em
    · rename_i os' ρ2 e2
      cases em
      exact ⟨Fr, F, ρ, _, _, R, e1, fun F1 H1 v s1 R1 q => ⟨Fr, F1, ρ1, _, _, R1, e2, fun F2 H2 vs s2 R2 q2 => k F2 H2 _ (s1.trans s2) R2 (.cons (q.mono s2) q2)⟩⟩
    · cases em
  · cases em
/-- (a, b, ..) and [a, b, ..] -/
def tupM (m : DM) : EM := fun ρ => match m ρ with
  | some (ds, ρ') => if ds.length ≤ sizeLine then some (.val (.tup ds), ρ') else none
  | none => none
def lstM (m : DM) : EM := fun ρ => match m ρ with
  | some (ds, ρ') => if ds.length ≤ sizeLine then some (.tmp (.lst ds), ρ') else none
  | none => none
/-- a new object of its own -/
theorem Rel.tmp {K : PySem.W.Frag} {Fr : Frm} {F H : Hp} {ρ : Rho} {σ : St} (R : Rel K Fr F ρ σ H) {p : Addr} {o : HO} {d : D} (h : H p = none) (w : Own K F o d) : Rel K Fr F ρ σ (upd H p o) ∧ ORel K Fr F ρ σ (upd H p o) (.ref p) (.tmp d) := by
  have hF : F p = none := R.f.free h
  have hFr : Fr p = none := R.fr.free h
  refine ⟨R.grow (Same.refl F) (same_new h) (R.f.trans (same_new h)) R.dj (fun b z1 z2 => absurd z2 z1), p, o, rfl, upd_same, w, hF, hFr, fun i e e1 e2 => ?_⟩
  obtain ⟨v, e3, a, o', e4, h1, _⟩ := R.slot i _ e1
  rw [e2] at e3
  have e5 : v = .ref p := (Option.some.inj (Option.some.inj e3)).symm
  rw [e5] at e4
  cases e4
  rw [h] at h1; cases h1
theorem oe_tup {dm : DM} {x1} (h : DE X es dm) : OE X (.Tuple es x1 pos) (tupM dm) := by
  refine ⟨pe_imp (pe_tup h.pa) fun σ H Q ⟨Fr, F, ρ, o, ρ', R, em, k⟩ => ?_⟩
  unfold tupM at em
  split at em
  · rename_i ds ρ1 e1
    split at em
    · rename_i hl
      cases em
      refine ⟨Fr, F, ρ, _, _, R, e1, fun F1 H1 vs s1 R1 q => ⟨by rw [q.length]; exact hl, fun p hp => ?_⟩⟩
      obtain ⟨R2, s2⟩ := R1.new (.tup vs) hp
      exact k _ _ _ (s1.trans s2) R2 (.tup (SqT.of upd_same) (q.mono s2))
    · cases em
  · cases em
theorem oe_lst {dm : DM} (h : DE X es dm) : OE X (.List es pos) (lstM dm) := by
  refine ⟨pe_imp (pe_lst h.pa) fun σ H Q ⟨Fr, F, ρ, o, ρ', R, em, k⟩ => ?_⟩
  unfold lstM at em
  split at em
  · rename_i ds ρ1 e1
    split at em
    · rename_i hl
      cases em
      refine ⟨Fr, F, ρ, _, _, R, e1, fun F1 H1 vs s1 R1 q => ⟨by rw [q.length]; exact hl, fun p hp => ?_⟩⟩
      obtain ⟨R2, w⟩ := R1.tmp hp (Own.lst q)
      exact k _ _ _ s1 R2 w
    · cases em
  · cases em
end
end Ev

set_option Elab.async false
set_option linter.all false
set_option maxRecDepth 100000
/-! Ev. C: operations on values. -/
set_option autoImplicit false
namespace Ev
open PySem PySem.Spec PyProof.Rows L2

section
variable {X : Cx}
/-- an operation that gives a plain value at once -/
theorem after_val {K : PySem.W.Frag} {Fr : Frm} {F H : Hp} {ρ : Rho} {σ : St} {v : V} {d : D} {Q : VK} (R : Rel K Fr F ρ σ H) (r : Rep K F v d) (k : After K Fr F ρ σ (.val d) Q) : Q v H := k F H v (Same.refl F) R r
theorem after_new {K : PySem.W.Frag} {Fr : Frm} {F H : Hp} {ρ : Rho} {σ : St} {p : Addr} {vs : List V} {ds : List D} {Q : VK} (R : Rel K Fr F ρ σ H) (hp : H p = none) (r : Reps K F vs ds) (k : After K Fr F ρ σ (.tmp (.lst ds)) Q) : Q (.ref p) (upd H p (.lst vs)) := by
  obtain ⟨R2, w⟩ := R.tmp hp (Own.lst r)
  exact k F _ _ (Same.refl F) R2 w
theorem after_tup {K : PySem.W.Frag} {Fr : Frm} {F H : Hp} {ρ : Rho} {σ : St} {p : Addr} {vs : List V} {ds : List D} {Q : VK} (R : Rel K Fr F ρ σ H) (hp : H p = none) (r : Reps K F vs ds) (k : After K Fr F ρ σ (.val (.tup ds)) Q) : Q (.ref p) (upd H p (.tup vs)) := by
  obtain ⟨R2, s2⟩ := R.new (.tup vs) hp
  exact k _ _ _ s2 R2 (.tup (SqT.of upd_same) (r.mono s2))

/-! ints -/
def intG (c : Int → Int → Bool) (f : Int → Int → Int) : D → D → Option Opd
  | .int i, .int j => if c i j then some (.val (.int (f i j))) else none
  | _, _ => none
def intB (f : Int → Int → Bool) : D → D → Option Opd
  | .int i, .int j => some (.val (.bl (f i j)))
  | _, _ => none
theorem ops_I {C : Int → Int → Prop} {c : Int → Int → Bool} {f : Int → Int → Int} (hc : ∀ i j, c i j = true → C i j) : OpS X (rI C fun i j => .int (f i j)) (intG c f) := by
  intro Fr F H ρ σ x y d e o Q R hx hy g k
  unfold intG at g
  split at g
  · rename_i i j
    split at g
    · rename_i h
      cases g
      cases hx.int
      cases hy.int
      exact ⟨i, j, rfl, rfl, hc i j h, after_val R (.int _) k⟩
    · cases g
  · cases g
theorem ops_I0 {f : Int → Int → Int} : OpS X (rI0 fun i j => .int (f i j)) (intG (fun _ _ => true) f) := by
  intro Fr F H ρ σ x y d e o Q R hx hy g k
  unfold intG at g
  split at g
  · rename_i i j
    cases g
    cases hx.int
    cases hy.int
    exact ⟨i, j, rfl, rfl, after_val R (.int _) k⟩
  · cases g
theorem ops_B0 {f : Int → Int → Bool} : OpS X (rI0 fun i j => .bl (f i j)) (intB f) := by
  intro Fr F H ρ σ x y d e o Q R hx hy g k
  unfold intB at g
  split at g
  · rename_i i j
    cases g
    cases hx.int
    cases hy.int
    exact ⟨i, j, rfl, rfl, after_val R (.bl _) k⟩
  · cases g
def yes : Int → Int → Bool := fun _ _ => true
def mulOk (i j : Int) : Bool := decide (-(2 ^ 64) < i ∧ i < 2 ^ 64) || decide (-(2 ^ 64) < j ∧ j < 2 ^ 64) || decide (i.natAbs.log2 + j.natAbs.log2 < 1000000)
@[simp] def divOk (_ j : Int) : Bool := decide (0 < j) && decide (j.natAbs.log2 < 9000)
@[simp] def modOk (_ j : Int) : Bool := decide (0 < j)
@[simp] def powOk (i j : Int) : Bool := decide (0 ≤ j) && decide (j ≤ 1000000) && decide (i.natAbs < 2 ^ 64)
@[simp] def shrOk (_ j : Int) : Bool := decide (0 ≤ j)
abbrev subG := intG yes (· - ·)
abbrev divG := intG divOk (· / ·)
abbrev modG := intG modOk (· % ·)
abbrev powG := intG powOk (fun i j => i ^ j.toNat)
abbrev shlG := intG powOk (fun i j => i * 2 ^ j.toNat)
abbrev shrG := intG shrOk (fun i j => i / 2 ^ j.toNat)
abbrev andG := intG yes Builtin.bitAnd
abbrev orG := intG yes Builtin.bitOr
abbrev xorG := intG yes Builtin.bitXor
abbrev ltG := intB (fun i j => decide (i < j))
abbrev leG := intB (fun i j => decide (i ≤ j))
abbrev gtG := intB (fun i j => decide (j < i))
abbrev geG := intB (fun i j => decide (j ≤ i))

/-- + of ints, texts, lists, tuples -/
def addG : D → D → Option Opd
  | .int i, .int j => some (.val (.int (i + j)))
  | .str s, .str t => if s.length + t.length ≤ sizeLine then some (.val (.str (s ++ t))) else none
  | .lst xs, .lst ys => if xs.length + ys.length ≤ sizeLine then some (.tmp (.lst (xs ++ ys))) else none
  | .tup xs, .tup ys => if xs.length + ys.length ≤ sizeLine then some (.val (.tup (xs ++ ys))) else none
  | _, _ => none
def rAdd (K : PySem.W.Frag) : R2 := fun x y H Q => (rI0 (fun i j => .int (i + j)) x y H Q ∨ (∃ i j, x = .str i ∧ y = .str j ∧ i.length + j.length ≤ sizeLine ∧ Q (.str (i ++ j)) H)) ∨ (rCat x y H Q ∨ rCatA K x y H Q)
theorem op_addD : OpR X (binaryOp .Add) (rAdd X.K) := (op_add.or op_add_str).or (op_cat.or op_catA)
theorem ops_add : OpS X (rAdd X.K) addG := by
  intro Fr F H ρ σ x y d e o Q R hx hy g k
  unfold addG at g
  split at g
  · rename_i i j
    cases g
    cases hx.int
    cases hy.int
    exact .inl (.inl ⟨i, j, rfl, rfl, after_val R (.int _) k⟩)
  · rename_i i j
    split at g
    · rename_i h
      cases g
      cases hx.str
      cases hy.str
      exact .inl (.inr ⟨i, j, rfl, rfl, h, after_val R (.str _) k⟩)
    · cases g
  · rename_i xs ys
    split at g
    · rename_i h
      cases g
      obtain ⟨a, vs, rfl, q1, r1⟩ := hx.lst R.f
      obtain ⟨b, ws, rfl, q2, r2⟩ := hy.lst R.f
      exact .inr (.inl ⟨a, b, vs, ws, rfl, rfl, q1, q2, by rw [r1.length, r2.length]; exact h, fun p hp => after_new R hp (r1.append r2) k⟩)
    · cases g
  · rename_i xs ys
    split at g
    · rename_i h
      cases g
      have hx0 : Rep X.K F x (.tup xs) := by
        rcases hx with z | ⟨a, o, e1, h1, h2⟩
        · exact z
        · cases h2
      have hy0 : Rep X.K F y (.tup ys) := by
        rcases hy with z | ⟨a, o, e1, h1, h2⟩
        · exact z
        · cases h2
      obtain ⟨a, vs, rfl, q1, r1⟩ := hx.tup R.f
      obtain ⟨b, ws, rfl, q2, r2⟩ := hy.tup R.f
      refine .inr (.inr ⟨a, b, vs, ws, rfl, rfl, q1, q2, by rw [r1.length, r2.length]; exact h, fun z => ?_, fun z z2 => ?_, fun z z2 p hp => after_tup R hp (r1.append r2) k⟩)
      · subst z
        cases r1
        exact after_val R hy0 k
      · subst z2
        cases r2
        rw [List.append_nil] at k
        exact after_val R hx0 k
    · cases g
  · cases g
/-- * of ints; a list so many times -/
def mulG : D → D → Option Opd
  | .int i, .int j => if mulOk i j then some (.val (.int (i * j))) else none
  | .lst xs, .int k => if -(2 ^ 63) ≤ k ∧ k < 2 ^ 63 ∧ xs.length * k.toNat ≤ sizeLine then some (.tmp (.lst (List.replicate k.toNat xs).flatten)) else none
  | _, _ => none
theorem op_mulD : OpR X (binaryOp .Mult) (fun x y H Q => (rI CMul (fun i j => .int (i * j)) x y H Q ∨ rI CMulW (fun i j => .int (i * j)) x y H Q) ∨ rRep x y H Q) := (op_mul.or op_mulW).or op_rep
theorem ops_mul : OpS X (fun x y H Q => (rI CMul (fun i j => .int (i * j)) x y H Q ∨ rI CMulW (fun i j => .int (i * j)) x y H Q) ∨ rRep x y H Q) mulG := by
  intro Fr F H ρ σ x y d e o Q R hx hy g k
  unfold mulG at g
  split at g
  · rename_i i j
    split at g
    · rename_i h
      cases g
      cases hx.int
      cases hy.int
      unfold mulOk at h
      rw [Bool.or_eq_true, Bool.or_eq_true] at h
      rcases h with (h | h) | h
      · exact .inl (.inl ⟨i, j, rfl, rfl, .inl (of_decide_eq_true h), after_val R (.int _) k⟩)
      · exact .inl (.inl ⟨i, j, rfl, rfl, .inr (of_decide_eq_true h), after_val R (.int _) k⟩)
      · exact .inl (.inr ⟨i, j, rfl, rfl, of_decide_eq_true (p := i.natAbs.log2 + j.natAbs.log2 < 1000000) h, after_val R (.int _) k⟩)
    · cases g
  · rename_i xs n
    split at g
    · rename_i h
      cases g
      cases hy.int
      obtain ⟨a, vs, rfl, q1, r1⟩ := hx.lst R.f
      exact .inr ⟨a, n, vs, rfl, rfl, q1, h.1, h.2.1, by rw [r1.length]; exact h.2.2, fun p hp => after_new R hp (r1.rep _) k⟩
    · cases g
  · cases g
variable {a b : Expr} {ma mb : EM} {pos : Pos}
theorem oe_add (ha : OE X a ma) (hb : OE X b mb) : OE X (.BinOp a .Add b pos) (binM addG ma mb) := oe_op op_addD ops_add ha hb
theorem oe_sub (ha : OE X a ma) (hb : OE X b mb) : OE X (.BinOp a .Sub b pos) (binM subG ma mb) := oe_op op_sub ops_I0 ha hb
theorem oe_mul (ha : OE X a ma) (hb : OE X b mb) : OE X (.BinOp a .Mult b pos) (binM mulG ma mb) := oe_op op_mulD ops_mul ha hb
theorem oe_div (ha : OE X a ma) (hb : OE X b mb) : OE X (.BinOp a .FloorDiv b pos) (binM divG ma mb) := oe_op op_fdivW (ops_I fun i j h => by
  unfold divOk at h
  rw [Bool.and_eq_true] at h
  exact ⟨of_decide_eq_true h.1, of_decide_eq_true h.2⟩) ha hb
theorem oe_mod (ha : OE X a ma) (hb : OE X b mb) : OE X (.BinOp a .Mod b pos) (binM modG ma mb) := oe_op op_mod (ops_I fun i j h => of_decide_eq_true h) ha hb
theorem powOk_C {i j : Int} (h : powOk i j = true) : CPow i j := by
  unfold powOk at h
  rw [Bool.and_eq_true, Bool.and_eq_true] at h
  exact ⟨of_decide_eq_true h.1.1, of_decide_eq_true h.1.2, of_decide_eq_true h.2⟩
theorem oe_pow (ha : OE X a ma) (hb : OE X b mb) : OE X (.BinOp a .Pow b pos) (binM powG ma mb) := oe_op op_pow (ops_I fun i j h => powOk_C h) ha hb
theorem oe_shl (ha : OE X a ma) (hb : OE X b mb) : OE X (.BinOp a .LShift b pos) (binM shlG ma mb) := oe_op op_shl (ops_I fun i j h => powOk_C h) ha hb
theorem oe_shr (ha : OE X a ma) (hb : OE X b mb) : OE X (.BinOp a .RShift b pos) (binM shrG ma mb) := oe_op op_shr (ops_I fun i j h => of_decide_eq_true h) ha hb
theorem oe_band (ha : OE X a ma) (hb : OE X b mb) : OE X (.BinOp a .BitAnd b pos) (binM andG ma mb) := oe_op op_and ops_I0 ha hb
theorem oe_bor (ha : OE X a ma) (hb : OE X b mb) : OE X (.BinOp a .BitOr b pos) (binM orG ma mb) := oe_op op_or ops_I0 ha hb
theorem oe_bxor (ha : OE X a ma) (hb : OE X b mb) : OE X (.BinOp a .BitXor b pos) (binM xorG ma mb) := oe_op op_xor ops_I0 ha hb
theorem oe_lt (ha : OE X a ma) (hb : OE X b mb) : OE X (.Compare a [.Lt] [b] pos) (binM ltG ma mb) := oe_cmp op_lt ops_B0 ha hb (nomark _)
theorem oe_le (ha : OE X a ma) (hb : OE X b mb) : OE X (.Compare a [.LtE] [b] pos) (binM leG ma mb) := oe_cmp op_le ops_B0 ha hb (nomark _)
theorem oe_gt (ha : OE X a ma) (hb : OE X b mb) : OE X (.Compare a [.Gt] [b] pos) (binM gtG ma mb) := oe_cmp op_gt ops_B0 ha hb (nomark _)
theorem oe_ge (ha : OE X a ma) (hb : OE X b mb) : OE X (.Compare a [.GtE] [b] pos) (binM geG ma mb) := oe_cmp op_ge ops_B0 ha hb (nomark _)
theorem te_lt (ha : OE X a ma) (hb : OE X b mb) : TeE X (.Compare a [.Lt] [b] pos) (boolM (binM ltG ma mb)) := te_cmp op_lt ops_B0 ha hb (nomark _)
theorem te_le (ha : OE X a ma) (hb : OE X b mb) : TeE X (.Compare a [.LtE] [b] pos) (boolM (binM leG ma mb)) := te_cmp op_le ops_B0 ha hb (nomark _)
theorem te_gt (ha : OE X a ma) (hb : OE X b mb) : TeE X (.Compare a [.Gt] [b] pos) (boolM (binM gtG ma mb)) := te_cmp op_gt ops_B0 ha hb (nomark _)
theorem te_ge (ha : OE X a ma) (hb : OE X b mb) : TeE X (.Compare a [.GtE] [b] pos) (boolM (binM geG ma mb)) := te_cmp op_ge ops_B0 ha hb (nomark _)
/-- - x -/
def negM (m : EM) : EM := fun ρ => match m ρ with
  | some (.val (.int i), ρ') => some (.val (.int (-i)), ρ')
  | _ => none
theorem oe_neg (ha : OE X a ma) : OE X (.UnaryOp .USub a pos) (negM ma) := by
  refine ⟨pe_imp (pe_un un_neg ha.pe) fun σ H Q ⟨Fr, F, ρ, o, ρ', R, em, k⟩ => ?_⟩
  unfold negM at em
  split at em
  · rename_i i ρ1 e1
    cases em
    refine ⟨Fr, F, ρ, _, _, R, e1, fun F1 H1 v s1 R1 q => ?_⟩
    cases q
    exact ⟨i, rfl, k F1 H1 _ s1 R1 (.int _)⟩
  · cases em

/-! ==, !=: data of any depth -/
mutual
def toPy : D → Option PyData
  | .non => some .none
  | .bl b => some (.bool b)
  | .int i => some (.int i)
  | .str s => some (.str s)
  | .tup xs => match toPys xs with
    | some ys => some (.tuple ys)
    | none => none
  | .lst xs => match toPys xs with
    | some ys => some (.list ys)
    | none => none
  | .rol xs => match toPys xs with
    | some ys => some (.list ys)
    | none => none
  | .ins _ _ _ => none
  | .dct _ _ => none
def toPys : List D → Option (List PyData)
  | [] => some []
  | x :: xs => match toPy x with
    | some y => match toPys xs with
      | some ys => some (y :: ys)
      | none => none
    | none => none
end
mutual
theorem rep_dp {K : PySem.W.Frag} {F H : Hp} (s : Same F H) : ∀ {v : V} {d : D} {p : PyData}, Rep K F v d → toPy d = some p → Dp K H v p
  | _, _, _, .non, e => by cases e; exact .non
  | _, _, _, .bl b, e => by cases e; exact .bl b
  | _, _, _, .int i, e => by cases e; exact .int i
  | _, _, _, .str x, e => by cases e; exact .str x
  | _, _, _, .tup h r, e => by
    rw [toPy] at e
    split at e
    · rename_i ys e1; cases e; exact .tup (sameT s h) (reps_dp s r e1)
    · cases e
  | _, _, _, .lst h r, e => by
    rw [toPy] at e
    split at e
    · rename_i ys e1; cases e; exact .lst (SqL.of (s _ _ h)) (reps_dp s r e1)
    · cases e
  | _, _, _, .rol h r, e => by
    rw [toPy] at e
    split at e
    · rename_i ys e1; cases e; exact .lst (sameL s h) (reps_dp s r e1)
    · cases e
  | _, _, _, .ins h l r, e => by
    rw [toPy] at e
    cases e
  | _, _, _, .dct h l r, e => by
    rw [toPy] at e
    cases e
theorem reps_dp {K : PySem.W.Frag} {F H : Hp} (s : Same F H) : ∀ {vs : List V} {ds : List D} {ps : List PyData}, Reps K F vs ds → toPys ds = some ps → DpAll K H vs ps
  | _, _, _, .nil, e => by cases e; exact .nil
  | _, _, _, .cons h r, e => by
    rw [toPys] at e
    split at e
    · rename_i y e1
      split at e
      · rename_i ys e2; cases e; exact .cons (rep_dp s h e1) (reps_dp s r e2)
      · cases e
    · cases e
end
theorem Viw.dp {K : PySem.W.Frag} {F H : Hp} {v : V} {d : D} {p : PyData} (s : Same F H) (h : Viw K F H v d) (e : toPy d = some p) : Dp K H v p := by
  rcases h with h | ⟨a, o, e1, h1, h2⟩
  · exact rep_dp s h e
  · cases h2 with
    | lst r =>
      rw [toPy] at e
      split at e
      · rename_i ys e2; cases e; subst e1; exact .lst (SqL.of h1) (reps_dp s r e2)
      · cases e
    | ins l r =>
      rw [toPy] at e
      cases e
    | dct l r =>
      rw [toPy] at e
      cases e
def eqD (d e : D) : Option Bool := match toPy d with
  | some p => match toPy e with
    | some q => if SeqAt.shaped p = true ∧ SeqAt.shaped q = true then some (PyData.eqv p q) else none
    | none => none
  | none => none
theorem eqD_some {d e : D} {c : Bool} (h : eqD d e = some c) : ∃ p q, toPy d = some p ∧ toPy e = some q ∧ SeqAt.shaped p = true ∧ SeqAt.shaped q = true ∧ PyData.eqv p q = c := by
  unfold eqD at h
  split at h
  · rename_i p e1
    split at h
    · rename_i q e2
      split at h
      · rename_i z; cases h; exact ⟨p, q, e1, e2, z.1, z.2, rfl⟩
      · cases h
    · cases h
  · cases h
def eqG (d e : D) : Option Opd := match eqD d e with
  | some c => some (.val (.bl c))
  | none => none
def neG (d e : D) : Option Opd := match eqD d e with
  | some c => some (.val (.bl (!c)))
  | none => none
theorem ops_eq : OpS X (rEqD X.K) eqG := by
  intro Fr F H ρ σ x y d e o Q R hx hy g k
  unfold eqG at g
  split at g
  · rename_i c e1
    cases g
    obtain ⟨p, q, e2, e3, z1, z2, rfl⟩ := eqD_some e1
    exact ⟨p, q, hx.dp R.f e2, hy.dp R.f e3, z1, z2, after_val R (.bl _) k⟩
  · cases g
theorem ops_ne : OpS X (rNeD X.K) neG := by
  intro Fr F H ρ σ x y d e o Q R hx hy g k
  unfold neG at g
  split at g
  · rename_i c e1
    cases g
    obtain ⟨p, q, e2, e3, z1, z2, rfl⟩ := eqD_some e1
    exact ⟨p, q, hx.dp R.f e2, hy.dp R.f e3, z1, z2, after_val R (.bl _) k⟩
  · cases g
theorem oe_eq (hu : X.A.units + 64 < cLine) (ha : OE X a ma) (hb : OE X b mb) : OE X (.Compare a [.Eq] [b] pos) (binM eqG ma mb) := oe_cmp (op_eqD hu) ops_eq ha hb (nomark _)
theorem oe_ne (hu : X.A.units + 64 < cLine) (ha : OE X a ma) (hb : OE X b mb) : OE X (.Compare a [.NotEq] [b] pos) (binM neG ma mb) := oe_cmp (op_neD hu) ops_ne ha hb (nomark _)
theorem te_eq (hu : X.A.units + 64 < cLine) (ha : OE X a ma) (hb : OE X b mb) : TeE X (.Compare a [.Eq] [b] pos) (boolM (binM eqG ma mb)) := te_cmp (op_eqD hu) ops_eq ha hb (nomark _)
theorem te_ne (hu : X.A.units + 64 < cLine) (ha : OE X a ma) (hb : OE X b mb) : TeE X (.Compare a [.NotEq] [b] pos) (boolM (binM neG ma mb)) := te_cmp (op_neD hu) ops_ne ha hb (nomark _)
/-- is None -/
def isNonD : D → Bool
  | .non => true
  | _ => false
def isG (d e : D) : Option Opd := match e with
  | .non => some (.val (.bl (isNonD d)))
  | _ => none
def isnG (d e : D) : Option Opd := match e with
  | .non => some (.val (.bl (!isNonD d)))
  | _ => none
theorem viw_isN {K : PySem.W.Frag} {F H : Hp} {v : V} {d : D} (h : Viw K F H v d) : decide (v = .non) = isNonD d := by
  rcases h with h | ⟨a, o, e1, h1, h2⟩
  · cases h <;> simp [isNonD]
  · cases h2 <;> (subst e1; simp [isNonD])
theorem ops_is : OpS X (fun x y H Q => y = .non ∧ Q (.bl (decide (x = .non))) H) isG := by
  intro Fr F H ρ σ x y d e o Q R hx hy g k
  unfold isG at g
  split at g
  · cases g
    refine ⟨hy.non, ?_⟩
    rw [viw_isN hx]
    exact after_val R (.bl _) k
  · cases g
theorem ops_isn : OpS X (fun x y H Q => y = .non ∧ Q (.bl (!decide (x = .non))) H) isnG := by
  intro Fr F H ρ σ x y d e o Q R hx hy g k
  unfold isnG at g
  split at g
  · cases g
    refine ⟨hy.non, ?_⟩
    rw [viw_isN hx]
    exact after_val R (.bl _) k
  · cases g
theorem oe_is (ha : OE X a ma) (hb : OE X b mb) : OE X (.Compare a [.Is] [b] pos) (binM isG ma mb) := oe_cmp op_isN ops_is ha hb (nomark _)
theorem oe_isn (ha : OE X a ma) (hb : OE X b mb) : OE X (.Compare a [.IsNot] [b] pos) (binM isnG ma mb) := oe_cmp op_notN ops_isn ha hb (nomark _)
theorem te_is (ha : OE X a ma) (hb : OE X b mb) : TeE X (.Compare a [.Is] [b] pos) (boolM (binM isG ma mb)) := te_cmp op_isN ops_is ha hb (nomark _)
theorem te_isn (ha : OE X a ma) (hb : OE X b mb) : TeE X (.Compare a [.IsNot] [b] pos) (boolM (binM isnG ma mb)) := te_cmp op_notN ops_isn ha hb (nomark _)

/-! xs[i] -/
def atD : D → D → Option Opd
  | .tup xs, .int i => match atI xs i with
    | some d => some (.val d)
    | none => none
  | .lst xs, .int i => match atI xs i with
    | some d => some (.val d)
    | none => none
  | .rol xs, .int i => match atI xs i with
    | some d => some (.val d)
    | none => none
  | .str z, .int i => if z.length ≤ sizeLine then match atI z.cps.toList i with
    | some c => some (.val (.str ⟨#[c]⟩))
    | none => none else none
  | _, _ => none
theorem Reps.at {K : PySem.W.Frag} {F : Hp} {vs : List V} {ds : List D} {i : Int} {d : D} (r : Reps K F vs ds) (h : atI ds i = some d) : ∃ v, atI vs i = some v ∧ Rep K F v d := by
  unfold atI at h ⊢
  rw [r.length]
  cases e : ixN ds.length i with
  | none => rw [e] at h; cases h
  | some j => rw [e] at h; exact r.get h
theorem ops_at : OpS X (rIx X.K) atD := by
  intro Fr F H ρ σ x y d e o Q R hx hy g k
  unfold atD at g
  split at g
  · rename_i xs i
    split at g
    · rename_i d e1
      cases g
      cases hy.int
      obtain ⟨a, vs, rfl, q, r⟩ := hx.tup R.f
      obtain ⟨v, e2, r2⟩ := r.at e1
      exact .inr (.inl ⟨a, vs, i, v, rfl, rfl, q, e2, after_val R r2 k⟩)
    · cases g
  · rename_i xs i
    split at g
    · rename_i d e1
      cases g
      cases hy.int
      obtain ⟨a, vs, rfl, q, r⟩ := hx.lst R.f
      obtain ⟨v, e2, r2⟩ := r.at e1
      exact .inl ⟨a, vs, i, v, rfl, rfl, SqL.of q, e2, after_val R r2 k⟩
    · cases g
  · rename_i xs i
    split at g
    · rename_i d e1
      cases g
      cases hy.int
      obtain ⟨a, vs, rfl, q, r⟩ := hx.rol R.f
      obtain ⟨v, e2, r2⟩ := r.at e1
      exact .inl ⟨a, vs, i, v, rfl, rfl, q, e2, after_val R r2 k⟩
    · cases g
  · rename_i z i
    split at g
    · rename_i hz
      split at g
      · rename_i c e1
        cases g
        cases hx.str
        cases hy.int
        exact .inr (.inr ⟨z, i, c, rfl, rfl, hz, e1, after_val R (.str _) k⟩)
      · cases g
    · cases g
  · cases g
theorem oe_at (ha : OE X a ma) (hb : OE X b mb) (hs : PlainIx b := by exact fun _ _ => rfl) : OE X (.Subscript a b pos) (binM atD ma mb) :=
  ⟨pe_imp (pe_ix ix_seq ha.ne.pe hb.ne.pe hs) fun _ _ _ => tOp_bin ops_at⟩

/-! slices -/
abbrev PM := Rho → Option (Option Int × Rho)
def tP (K : PySem.W.Frag) (m : PM) : TO := fun σ H Q => ∃ Fr F ρ i ρ', Rel K Fr F ρ σ H ∧ m ρ = some (i, ρ') ∧ ∀ F' H', Same F F' → Rel K Fr F' ρ' σ H' → Q i H'
structure PaE (X : Cx) (e : Option Expr) (m : PM) : Prop where
  po : PO X e (tP X.K m)
theorem po_imp {e : Option Expr} {t t' : TO} (h : PO X e t) (w : ∀ σ H Q, t' σ H Q → t σ H Q) : PO X e t' := ⟨fun pins s σ H Q I q => h.run pins s σ H Q I (w σ H Q q)⟩
def noP : PM := fun ρ => some (none, ρ)
def someP (m : EM) : PM := fun ρ => match m ρ with
  | some (.val (.int i), ρ') => some (some i, ρ')
  | _ => none
theorem pa_no : PaE X none noP := ⟨po_imp po_none fun σ H Q ⟨Fr, F, ρ, i, ρ', R, em, k⟩ => by cases em; exact k F H (Same.refl F) R⟩
theorem pa_some (h : OE X a ma) : PaE X (some a) (someP ma) := by
  refine ⟨po_imp (po_some h.pe) fun σ H Q ⟨Fr, F, ρ, i, ρ', R, em, k⟩ => ?_⟩
  unfold someP at em
  split at em
  · rename_i j ρ1 e1
    cases em
    refine ⟨Fr, F, ρ, _, _, R, e1, fun F1 H1 v s1 R1 q => ?_⟩
    cases q
    exact ⟨j, rfl, k F1 H1 s1 R1⟩
  · cases em
def cutL {α : Type} (xs : List α) (lo hi : Option Int) : List α := (xs.drop (HT.sIx xs.length 0 lo)).take (HT.sIx xs.length xs.length hi - HT.sIx xs.length 0 lo)
theorem Reps.cut {K : PySem.W.Frag} {F : Hp} {vs : List V} {ds : List D} (r : Reps K F vs ds) (lo hi : Option Int) : Reps K F (cutV vs lo hi) (cutL ds lo hi) := by
  unfold cutV cutL
  rw [r.length]
  exact (r.drop _).take _
def cutD (d : D) (lo hi : Option Int) : Option Opd := match d with
  | .tup xs => some (.val (.tup (cutL xs lo hi)))
  | .lst xs => some (.tmp (.lst (cutL xs lo hi)))
  | .rol xs => some (.tmp (.lst (cutL xs lo hi)))
  | .str z => if z.length ≤ sizeLine then some (.val (.str (cutS z lo hi))) else none
  | _ => none
def cutM (m : EM) (lo hi : PM) : EM := fun ρ => match frz m ρ with
  | some (o, ρ1) => match lo ρ1 with
    | some (i, ρ2) => match hi ρ2 with
      | some (j, ρ3) => match look o ρ3 with
        | some d => match cutD d i j with
          | some r => some (r, ρ3)
          | none => none
        | none => none
      | none => none
    | none => none
  | none => none
def rCut (K : PySem.W.Frag) : V → Option Int → Option Int → Hp → VK → Prop := fun x lo hi H Q => (rSlA K x lo hi H Q ∨ rSlL K x lo hi H Q) ∨ rSlS x lo hi H Q
theorem oe_cut {el eh : Option Expr} {lo hi : PM} {p2 : Pos} (h : OE X a ma) (hl : PaE X el lo) (hh : PaE X eh hi) : OE X (.Subscript a (.Slice el eh none p2) pos) (cutM ma lo hi) := by
  refine ⟨pe_imp (pe_slice (SlR.or (SlR.or sl_tupA sl_list) sl_str) h.ne.pe hl.po hh.po) fun σ H Q ⟨Fr, F, ρ, o, ρ', R, em, k⟩ => ?_⟩
  unfold cutM at em
  split at em
  · rename_i o1 ρ1 e1
    split at em
    · rename_i i ρ2 e2
      split at em
      · rename_i j ρ3 e3
        split at em
        · rename_i d e4
          split at em
          · rename_i r e5
            cases em
            refine ⟨Fr, F, ρ, _, _, R, e1, fun F1 H1 v s1 R1 q1 => ⟨Fr, F1, ρ1, _, _, R1, e2, fun F2 H2 s2 R2 => ⟨Fr, F2, ρ2, _, _, R2, e3, fun F3 H3 s3 R3 => ?_⟩⟩⟩
            have hv := (q1.mono (s2.trans s3)).look R3 e4
            have k' : After X.K Fr F3 ρ' σ o Q := fun F' H' v s R q => k F' H' v (((s1.trans s2).trans s3).trans s) R q
            unfold cutD at e5
            split at e5
            · rename_i xs
              cases e5
              obtain ⟨a', vs, rfl, q, r⟩ := hv.tup R3.f
              have hx0 : Rep X.K F3 (.ref a') (.tup xs) := by
                rcases hv with z | ⟨a, o, e1, h1, h2⟩
                · exact z
                · cases h2
              refine .inl (.inl ⟨a', vs, rfl, q, fun z => ?_, fun z p hp => after_tup R3 hp (r.cut i j) k'⟩)
              have e6 : cutL xs i j = xs := by
                unfold cutL
                rw [← r.length, z.1, z.2, List.drop_zero, Nat.sub_zero, r.length]
                exact List.take_length
              rw [e6] at k'
              exact after_val R3 hx0 k'
            · rename_i xs
              cases e5
              obtain ⟨a', vs, rfl, q, r⟩ := hv.lst R3.f
              exact .inl (.inr ⟨a', vs, rfl, SqL.of q, fun p hp => after_new R3 hp (r.cut i j) k'⟩)
            · rename_i xs
              cases e5
              obtain ⟨a', vs, rfl, q, r⟩ := hv.rol R3.f
              exact .inl (.inr ⟨a', vs, rfl, q, fun p hp => after_new R3 hp (r.cut i j) k'⟩)
            · rename_i z
              split at e5
              · rename_i hz
                cases e5
                cases hv.str
                exact .inr ⟨z, rfl, hz, after_val R3 (.str _) k'⟩
              · cases e5
            · cases e5
          · cases em
        · cases em
      · cases em
    · cases em
  · cases em
end
end Ev

set_option Elab.async false
set_option linter.all false
set_option maxRecDepth 100000
/-! Ev. D: statements, loops, comprehensions. -/
set_option autoImplicit false
namespace Ev
open PySem PySem.Spec PyProof.Rows L2

section
variable {K : PySem.W.Frag} {Fr : Frm} {F F' H H' : Hp} {ρ ρ' : Rho} {σ σ' : St} {v : V} {d : D}
theorem get_set_of {α : Type} {l : List α} {i j : Nat} {x : α} : (l.set i x)[j]? = if i = j then (if j < l.length then some x else none) else l[j]? := by
  by_cases e : i = j
  · subst e
    rw [if_pos rfl]
    by_cases hl : i < l.length
    · rw [if_pos hl, List.getElem?_set_self hl]
    · rw [if_neg hl, List.getElem?_eq_none (by simpa using hl)]
  · rw [if_neg e, List.getElem?_set_ne e]
theorem Rel.assign (R : Rel K Fr F ρ σ H) (i : Nat) (r : Rep K F v d) : Rel K Fr F (ρ.set i (some (.val d))) (σ.set i (some v)) H := by
  refine ⟨R.fr, R.f, R.dj, fun j sv e => ?_, fun j k d1 d2 e1 e2 x1 x2 e3 => ?_, by rw [List.length_set, List.length_set]; exact R.len⟩
  · rcases get_set_some e with ⟨rfl, e1, hl⟩ | ⟨ne, e1⟩
    · cases e1; exact ⟨v, List.getElem?_set_self (Nat.lt_of_lt_of_le hl R.len), r⟩
    · rw [List.getElem?_set_ne ne]; exact R.slot j sv e1
  · rcases get_set_some e1 with ⟨_, z, _⟩ | ⟨n1, z1⟩
    · cases z; cases x1
    · rcases get_set_some e2 with ⟨_, z, _⟩ | ⟨n2, z2⟩
      · cases z; cases x2
      · rw [List.getElem?_set_ne n1, List.getElem?_set_ne n2] at e3
        exact R.uniq j k d1 d2 z1 z2 x1 x2 e3
theorem Rel.obAddr (R : Rel K Fr F ρ σ H) {i : Nat} {t : SV} (h : ρ[i]? = some (some t)) (x : t.ob = true) : ∃ a o, σ[i]? = some (some (.ref a)) ∧ H a = some o ∧ (t.ex = false ∨ (∃ d, t = .lck d) → Fr a = some o) := by
  obtain ⟨v, e, s⟩ := R.slot i t h
  cases t with
  | val d => cases x
  | own d => obtain ⟨a, o, rfl, h1, _⟩ := s; exact ⟨a, o, e, h1, fun z => by rcases z with z | ⟨_, z⟩ <;> cases z⟩
  | bor d => obtain ⟨a, o, rfl, h1, _⟩ := s; exact ⟨a, o, e, R.fr _ _ h1.1, fun _ => h1.1⟩
  | lck d => obtain ⟨a, o, rfl, h1, _⟩ := s; exact ⟨a, o, e, R.fr _ _ h1.1, fun _ => h1.1⟩
/-- a new object stands apart from all that names hold -/
theorem ORel.apart (R : Rel K Fr F ρ σ H) (r : ORel K Fr F ρ σ H v (.tmp d)) {k : Nat} {t : SV} (h : ρ[k]? = some (some t)) (x : t.ob = true) : σ[k]? ≠ some (some v) := by
  obtain ⟨a, o, ev, h1, h2, h3, h4, h5⟩ := r
  intro z
  cases t with
  | val d => cases x
  | own d => exact h5 k d h z
  | bor d =>
    obtain ⟨v', e, b, o2, e2, g1, _⟩ := R.slot k _ h
    rw [z] at e
    have e3 : v' = v := (Option.some.inj (Option.some.inj e)).symm
    rw [e3, ev] at e2; cases e2
    rw [h4] at g1; cases g1.1
  | lck d =>
    obtain ⟨v', e, b, o2, e2, g1, _⟩ := R.slot k _ h
    rw [z] at e
    have e3 : v' = v := (Option.some.inj (Option.some.inj e)).symm
    rw [e3, ev] at e2; cases e2
    rw [h4] at g1; cases g1.1
theorem Rel.assignOwn (R : Rel K Fr F ρ σ H) (i : Nat) (r : ORel K Fr F ρ σ H v (.tmp d)) : Rel K Fr F (ρ.set i (some (.own d))) (σ.set i (some v)) H := by
  have ap := fun {k : Nat} {t : SV} => ORel.apart R r (k := k) (t := t)
  obtain ⟨a, o, ev, h1, h2, h3, h4, h5⟩ := r
  refine ⟨R.fr, R.f, R.dj, fun j sv e => ?_, fun j k d1 d2 e1 e2 x1 x2 e3 => ?_, by rw [List.length_set, List.length_set]; exact R.len⟩
  · rcases get_set_some e with ⟨rfl, e1, hl⟩ | ⟨ne, e1⟩
    · cases e1; exact ⟨v, List.getElem?_set_self (Nat.lt_of_lt_of_le hl R.len), a, o, ev, h1, h2, h3, h4⟩
    · rw [List.getElem?_set_ne ne]; exact R.slot j sv e1
  · rcases get_set_some e1 with ⟨rfl, z, hl⟩ | ⟨n1, z1⟩
    · rcases get_set_some e2 with ⟨rfl, z, _⟩ | ⟨n2, z2⟩
      · rfl
      · rw [List.getElem?_set_self (Nat.lt_of_lt_of_le hl R.len), List.getElem?_set_ne n2] at e3
        exact absurd e3.symm (ap z2 x2)
    · rcases get_set_some e2 with ⟨rfl, z, hl⟩ | ⟨n2, z2⟩
      · rw [List.getElem?_set_self (Nat.lt_of_lt_of_le hl R.len), List.getElem?_set_ne n1] at e3
        exact absurd e3 (ap z1 (by cases d1 <;> first | rfl | cases x1))
      · rw [List.getElem?_set_ne n1, List.getElem?_set_ne n2] at e3
        exact R.uniq j k d1 d2 z1 z2 x1 x2 e3
/-- the object of slot i is changed -/
theorem Rel.mut (R : Rel K Fr F ρ σ H) {i : Nat} {a : Addr} {e : D} {o : HO} (h : ρ[i]? = some (some (.own e))) (hs : σ[i]? = some (some (.ref a))) (w : Own K F o d) : Rel K Fr F (ρ.set i (some (.own d))) σ (upd H a o) := by
  obtain ⟨v, e1, a', o', e2, h1, h2, h3, h4⟩ := R.slot i _ h
  rw [hs] at e1
  have e3 : v = .ref a := (Option.some.inj (Option.some.inj e1)).symm
  rw [e3] at e2
  cases e2
  refine ⟨fun b u z => ?_, fun b u z => ?_, R.dj, fun j sv e => ?_, fun j k d1 d2 z1 z2 x1 x2 z3 => ?_, by rw [List.length_set]; exact R.len⟩
  · rw [upd_ne (ne_of_none z h4)]; exact R.fr b u z
  · rw [upd_ne (ne_of_none z h3)]; exact R.f b u z
  · rcases get_set_some e with ⟨rfl, e4, hl⟩ | ⟨ne, e4⟩
    · cases e4; exact ⟨_, hs, a, o, rfl, upd_same, w, h3, h4⟩
    · obtain ⟨v', e5, s⟩ := R.slot j sv e4
      refine ⟨v', e5, ?_⟩
      cases sv with
      | val d => exact s
      | bor d => exact s
      | lck d => exact s
      | own d' =>
        obtain ⟨b, o2, e6, g1, g2, g3, g4⟩ := s
        refine ⟨b, o2, e6, ?_, g2, g3, g4⟩
        rw [upd_ne (fun z => ne (R.uniq i j _ _ h e4 rfl rfl (by rw [hs, e5, e6, z])))]
        exact g1
  · have q : ∀ (m : Nat) (t : SV), (ρ.set i (some (.own d)))[m]? = some (some t) → ∃ t', ρ[m]? = some (some t') ∧ t'.ex = t.ex ∧ t'.ob = t.ob := fun m t zm => by
      rcases get_set_some zm with ⟨rfl, z, _⟩ | ⟨_, z⟩
      · cases z; exact ⟨_, h, rfl, rfl⟩
      · exact ⟨_, z, rfl, rfl⟩
    obtain ⟨t1, q1, y1, _⟩ := q j d1 z1
    obtain ⟨t2, q2, _, y2⟩ := q k d2 z2
    exact R.uniq j k _ _ q1 q2 (y1.trans x1) (y2.trans x2) z3
/-- lock: the object of slot i may only be read -/
theorem Rel.lock (R : Rel K Fr F ρ σ H) {i : Nat} (h : ρ[i]? = some (some (.own d))) : ∃ a o, σ[i]? = some (some (.ref a)) ∧ Fr a = none ∧ Own K F o d ∧ H a = some o ∧ Rel K (Fr.upd a o) F (ρ.set i (some (.lck d))) σ H := by
  obtain ⟨v, e1, a, o, rfl, h1, h2, h3, h4⟩ := R.slot i _ h
  refine ⟨a, o, e1, h4, h2, h1, fun b u z => ?_, R.f, fun b u z => ?_, fun j sv e => ?_, fun j k d1 d2 z1 z2 x1 x2 z3 => ?_, by rw [List.length_set]; exact R.len⟩
  · by_cases q : b = a
    · subst q; have z : L2.upd Fr.h b o b = some u := z; rw [upd_same] at z; rw [h1]; exact z
    · have z : L2.upd Fr.h a o b = some u := z; rw [upd_ne q] at z; exact R.fr b u z
  · by_cases q : b = a
    · subst q; exact h3
    · have z : L2.upd Fr.h a o b = some u := z; rw [upd_ne q] at z; exact R.dj b u z
  · rcases get_set_some e with ⟨rfl, e4, hl⟩ | ⟨ne, e4⟩
    · cases e4; exact ⟨_, e1, a, o, rfl, ⟨upd_same, fun z => Fr.hs a z h4⟩, h2⟩
    · obtain ⟨v', e5, s⟩ := R.slot j sv e4
      refine ⟨v', e5, ?_⟩
      cases sv with
      | val d => exact s
      | bor d' =>
        obtain ⟨b, o2, e6, g1, g2⟩ := s
        exact ⟨b, o2, e6, ⟨(upd_ne (ne_of_none g1.1 h4)).trans g1.1, g1.2⟩, g2⟩
      | lck d' =>
        obtain ⟨b, o2, e6, g1, g2⟩ := s
        exact ⟨b, o2, e6, ⟨(upd_ne (ne_of_none g1.1 h4)).trans g1.1, g1.2⟩, g2⟩
      | own d' =>
        obtain ⟨b, o2, e6, g1, g2, g3, g4⟩ := s
        refine ⟨b, o2, e6, g1, g2, g3, ?_⟩
        exact (upd_ne (fun z => ne (R.uniq i j _ _ h e4 rfl rfl (by rw [e1, e5, e6, z])))).trans g4
  · have q : ∀ (m : Nat) (t : SV), (ρ.set i (some (.lck d)))[m]? = some (some t) → ∃ t', ρ[m]? = some (some t') ∧ t'.ex = t.ex ∧ t'.ob = t.ob := fun m t zm => by
      rcases get_set_some zm with ⟨rfl, z, _⟩ | ⟨_, z⟩
      · cases z; exact ⟨_, h, rfl, rfl⟩
      · exact ⟨_, z, rfl, rfl⟩
    obtain ⟨t1, q1, y1, _⟩ := q j d1 z1
    obtain ⟨t2, q2, _, y2⟩ := q k d2 z2
    exact R.uniq j k _ _ q1 q2 (y1.trans x1) (y2.trans x2) z3
theorem Rel.unlock {a : Addr} {o : HO} {e : D} (R : Rel K (Fr.upd a o) F ρ σ H) {i : Nat} (h : ρ[i]? = some (some (.lck e))) (hs : σ[i]? = some (some (.ref a))) (hF : Fr a = none) (w : Own K F o d) : Rel K Fr F (ρ.set i (some (.own d))) σ H := by
  have ap : ∀ {j : Nat} {t : SV} {b : Addr}, i ≠ j → ρ[j]? = some (some t) → t.ob = true → σ[j]? = some (some (.ref b)) → b ≠ a := fun ne e5 x e6 z => ne (R.uniq _ _ _ _ h e5 rfl x (by rw [hs, e6, z]))
  refine ⟨fun b u z => ?_, R.f, fun b u z => ?_, fun j sv e4 => ?_, fun j k d1 d2 z1 z2 x1 x2 z3 => ?_, by rw [List.length_set]; exact R.len⟩
  · exact R.fr b u ((upd_ne (ne_of_none z hF)).trans z)
  · exact R.dj b u ((upd_ne (ne_of_none z hF)).trans z)
  · rcases get_set_some e4 with ⟨rfl, e5, hl⟩ | ⟨ne, e5⟩
    · cases e5; exact ⟨_, hs, a, o, rfl, R.fr a o upd_same, w, R.dj a o upd_same, hF⟩
    · obtain ⟨v', e6, s⟩ := R.slot j sv e5
      refine ⟨v', e6, ?_⟩
      cases sv with
      | val d => exact s
      | own d' =>
        obtain ⟨b, o2, e7, g1, g2, g3, g4⟩ := s
        refine ⟨b, o2, e7, g1, g2, g3, ?_⟩
        exact (upd_ne (ap ne e5 rfl (by rw [e6, e7]))).symm.trans g4
      | bor d' =>
        obtain ⟨b, o2, e7, g1, g2⟩ := s
        exact ⟨b, o2, e7, ⟨(upd_ne (ap ne e5 rfl (by rw [e6, e7]))).symm.trans g1.1, g1.2⟩, g2⟩
      | lck d' =>
        obtain ⟨b, o2, e7, g1, g2⟩ := s
        exact ⟨b, o2, e7, ⟨(upd_ne (ap ne e5 rfl (by rw [e6, e7]))).symm.trans g1.1, g1.2⟩, g2⟩
  · have q : ∀ (m : Nat) (t : SV), (ρ.set i (some (.own d)))[m]? = some (some t) → ∃ t', ρ[m]? = some (some t') ∧ t'.ex = t.ex ∧ t'.ob = t.ob := fun m t zm => by
      rcases get_set_some zm with ⟨rfl, z, _⟩ | ⟨_, z⟩
      · cases z; exact ⟨_, h, rfl, rfl⟩
      · exact ⟨_, z, rfl, rfl⟩
    obtain ⟨t1, q1, y1, _⟩ := q j d1 z1
    obtain ⟨t2, q2, _, y2⟩ := q k d2 z2
    exact R.uniq j k _ _ q1 q2 (y1.trans x1) (y2.trans x2) z3
end
end Ev

set_option Elab.async false
set_option linter.all false
set_option maxRecDepth 100000
/-! Ev. E: statements, loops. -/
set_option autoImplicit false
namespace Ev
open PySem PySem.Spec PyProof.Rows L2

inductive Out where
  | nx | bk | ct | rt (o : Opd)
  deriving Inhabited
abbrev SM := Rho → Option (Out × Rho)
def Fin (K : PySem.W.Frag) (Fr : Frm) (F : Hp) (ρ : Rho) (σ : St) (H : Hp) (Dn : Ends) : Out → Prop
  | .nx => Dn.nx σ H
  | .bk => Dn.bk σ H
  | .ct => Dn.ct σ H
  | .rt o => ∀ v, ORel K Fr F ρ σ H v o → Dn.rt v H
/-- slots outside W stay -/
def Keep (W : List Nat) (σ σ' : St) : Prop := σ'.length = σ.length ∧ ∀ i, i ∉ W → σ'[i]? = σ[i]?
theorem Keep.refl (W : List Nat) (σ : St) : Keep W σ σ := ⟨rfl, fun _ _ => rfl⟩
theorem Keep.trans {W W2 : List Nat} {σ σ1 σ2 : St} (a : Keep W σ σ1) (b : Keep W2 σ1 σ2) : Keep (W ++ W2) σ σ2 :=
  ⟨b.1.trans a.1, fun i h => (b.2 i fun z => h (List.mem_append_right _ z)).trans (a.2 i fun z => h (List.mem_append_left _ z))⟩
theorem Keep.mono {W W2 : List Nat} {σ σ1 : St} (a : Keep W σ σ1) (h : ∀ i ∈ W, i ∈ W2) : Keep W2 σ σ1 := ⟨a.1, fun i z => a.2 i fun y => z (h i y)⟩
theorem Keep.set {i : Nat} {σ : St} {x : Option V} : Keep [i] σ (σ.set i x) := ⟨by simp, fun j h => List.getElem?_set_ne (fun e => h (by simp [e]))⟩

def tS (K : PySem.W.Frag) (W : List Nat) (m : SM) : TS := fun Dn σ H => ∃ Fr F ρ out ρ', Rel K Fr F ρ σ H ∧ m ρ = some (out, ρ') ∧
  ∀ F' H' σ', Same F F' → Rel K Fr F' ρ' σ' H' → Keep W σ σ' → Fin K Fr F' ρ' σ' H' Dn out
def tG (K : PySem.W.Frag) (W : List Nat) (m : D → Rho → Option Rho) : TG := fun v σ H Q => ∃ Fr F ρ d ρ', Rel K Fr F ρ σ H ∧ Rep K F v d ∧ m d ρ = some ρ' ∧ ∀ F' H' σ', Same F F' → Rel K Fr F' ρ' σ' H' → Keep W σ σ' → Q σ' H'
def tGs (K : PySem.W.Frag) (W : List Nat) (m : List D → Rho → Option Rho) : TGs := fun vs σ H Q => ∃ Fr F ρ ds ρ', Rel K Fr F ρ σ H ∧ Reps K F vs ds ∧ m ds ρ = some ρ' ∧ ∀ F' H' σ', Same F F' → Rel K Fr F' ρ' σ' H' → Keep W σ σ' → Q σ' H'
structure SE (X : Cx) (st : Stmt) (W : List Nat) (m : SM) : Prop where
  ps : PS X st (tS X.K W m)
structure SsE (X : Cx) (st : List Stmt) (W : List Nat) (m : SM) : Prop where
  pss : PSs X st (tS X.K W m)
structure GE (X : Cx) (tg : Expr) (W : List Nat) (m : D → Rho → Option Rho) : Prop where
  pg : PG X tg (tG X.K W m)
structure GsE (X : Cx) (ts : List Expr) (W : List Nat) (m : List D → Rho → Option Rho) : Prop where
  pgs : PGs X ts (tGs X.K W m)
theorem pgs_imp {X : Cx} {es : List Expr} {t t' : TGs} (h : PGs X es t) (w : ∀ v σ H Q, t' v σ H Q → t v σ H Q) : PGs X es t' := ⟨fun pins s σ H vs us Q I r q => h.run pins s σ H vs us Q I r (w vs σ H Q q)⟩

section
variable {X : Cx} {st : Stmt} {rest : List Stmt} {e a b : Expr} {es : List Expr} {pos : Pos} {m ma mb : EM} {W W1 W2 : List Nat} {s1 s2 : SM}

def nextM : SM := fun ρ => some (.nx, ρ)
def seqM (s1 s2 : SM) : SM := fun ρ => match s1 ρ with
  | some (.nx, ρ1) => s2 ρ1
  | r => r
theorem sse_nil : SsE X [] [] nextM := ⟨pss_imp pss_nil fun Dn σ H ⟨Fr, F, ρ, out, ρ', R, em, k⟩ => by cases em; exact k F H σ (Same.refl F) R (.refl _ _)⟩
theorem sse_one (h : SE X st W s1) : SsE X [st] W s1 := ⟨pss_one h.ps⟩
theorem fin_nx {K : PySem.W.Frag} {Fr : Frm} {F H : Hp} {ρ : Rho} {σ : St} {Dn : Ends} {nx : St → Hp → Prop} {out : Out} (h : Fin K Fr F ρ σ H Dn out) (ne : out ≠ .nx) : Fin K Fr F ρ σ H { Dn with nx := nx } out := by
  cases out with
  | nx => exact absurd rfl ne
  | bk => exact h
  | ct => exact h
  | rt o => exact h
theorem sse_cons (h1 : SE X st W1 s1) (h2 : SsE X rest W2 s2) : SsE X (st :: rest) (W1 ++ W2) (seqM s1 s2) := by
  refine ⟨pss_imp (pss_cons h1.ps h2.pss) fun Dn σ H ⟨Fr, F, ρ, out, ρ', R, em, k⟩ => ?_⟩
  unfold seqM at em
  split at em
  · rename_i ρ1 e1
    exact ⟨Fr, F, ρ, _, _, R, e1, fun F1 H1 σ1 q1 R1 k1 => ⟨Fr, F1, ρ1, out, ρ', R1, em, fun F2 H2 σ2 q2 R2 k2 => k F2 H2 σ2 (q1.trans q2) R2 (k1.trans k2)⟩⟩
  · rename_i hne
    exact ⟨Fr, F, ρ, _, _, R, em, fun F1 H1 σ1 q1 R1 k1 => fin_nx (k F1 H1 σ1 q1 R1 (k1.mono fun i h => List.mem_append_left _ h)) fun z => hne _ (by rw [em, z])⟩
def passM : SM := nextM
def breakM : SM := fun ρ => some (.bk, ρ)
def contM : SM := fun ρ => some (.ct, ρ)
def neverM : SM := fun _ => none
theorem se_pass : SE X (.Pass pos) [] nextM := ⟨ps_imp ps_pass fun Dn σ H ⟨Fr, F, ρ, out, ρ', R, em, k⟩ => by cases em; exact k F H σ (Same.refl F) R (.refl _ _)⟩
theorem se_break : SE X (.Break pos) [] breakM := ⟨ps_imp ps_break fun Dn σ H ⟨Fr, F, ρ, out, ρ', R, em, k⟩ => by cases em; exact k F H σ (Same.refl F) R (.refl _ _)⟩
theorem se_cont : SE X (.Continue pos) [] contM := ⟨ps_imp ps_continue fun Dn σ H ⟨Fr, F, ρ, out, ρ', R, em, k⟩ => by cases em; exact k F H σ (Same.refl F) R (.refl _ _)⟩
theorem se_never : SE X st [] neverM := ⟨ps_imp ps_never fun Dn σ H ⟨Fr, F, ρ, out, ρ', R, em, k⟩ => by cases em⟩
/-- an expression for its effect -/
def exprM (m : EM) : SM := fun ρ => match m ρ with
  | some (_, ρ') => some (.nx, ρ')
  | none => none
theorem se_expr (h : OE X e m) (hs : swapsWith e none pos.line X.env = pure false := by rfl) : SE X (.Expr e pos) [] (exprM m) := by
  refine ⟨ps_imp (ps_expr h.pe hs) fun Dn σ H ⟨Fr, F, ρ, out, ρ', R, em, k⟩ => ?_⟩
  unfold exprM at em
  split at em
  · rename_i o ρ1 e1
    cases em
    exact ⟨Fr, F, ρ, _, _, R, e1, fun F1 H1 v q1 R1 _ => k F1 H1 σ q1 R1 (.refl _ _)⟩
  · cases em
def retM (m : EM) : SM := fun ρ => match m ρ with
  | some (o, ρ') => some (.rt o, ρ')
  | none => none
theorem se_ret (h : OE X e m) : SE X (.Return (some e) pos) [] (retM m) := by
  refine ⟨ps_imp (ps_ret h.pe) fun Dn σ H ⟨Fr, F, ρ, out, ρ', R, em, k⟩ => ?_⟩
  unfold retM at em
  split at em
  · rename_i o ρ1 e1
    cases em
    exact ⟨Fr, F, ρ, _, _, R, e1, fun F1 H1 v q1 R1 r => k F1 H1 σ q1 R1 (.refl _ _) v r⟩
  · cases em
theorem se_retN : SE X (.Return none pos) [] (retM (constM .non)) :=
  ⟨ps_imp ps_retN fun Dn σ H ⟨Fr, F, ρ, out, ρ', R, em, k⟩ => by cases em; exact k F H σ (Same.refl F) R (.refl _ _) .non .non⟩
def ifS (t : TM) (s1 s2 : SM) : SM := fun ρ => match t ρ with
  | some (true, ρ') => s1 ρ'
  | some (false, ρ') => s2 ρ'
  | none => none
theorem se_if {c : Expr} {sa sb : List Stmt} {t : TM} (hc : TeE X c t) (h1 : SsE X sa W1 s1) (h2 : SsE X sb W2 s2) : SE X (.If c sa sb pos) (W1 ++ W2) (ifS t s1 s2) := by
  refine ⟨ps_imp (ps_if hc.pt h1.pss h2.pss) fun Dn σ H ⟨Fr, F, ρ, out, ρ', R, em, k⟩ => ?_⟩
  unfold ifS at em
  split at em
  · rename_i ρ1 e1
    exact ⟨Fr, F, ρ, _, _, R, e1, fun F1 H1 q1 R1 => iteT ⟨Fr, F1, ρ1, out, ρ', R1, em, fun F2 H2 σ2 q2 R2 k2 => k F2 H2 σ2 (q1.trans q2) R2 (k2.mono fun i h => List.mem_append_left _ h)⟩⟩
  · rename_i ρ1 e1
    exact ⟨Fr, F, ρ, _, _, R, e1, fun F1 H1 q1 R1 => iteF ⟨Fr, F1, ρ1, out, ρ', R1, em, fun F2 H2 σ2 q2 R2 k2 => k F2 H2 σ2 (q1.trans q2) R2 (k2.mono fun i h => List.mem_append_right _ h)⟩⟩
  · cases em

/-! targets -/
@[simp] def nameG (i : Nat) : D → Rho → Option Rho := fun d ρ => some (ρ.set i (some (.val d)))
theorem ge_name {i : Nat} {x : Str} (hN : X.N.Nodup) (hi : X.N[i]? = some x := by rfl) (hx : Loc X.env.scope x := by first | exact Or.inl rfl | exact Or.inr rfl) (hf : X.fn x = true ∨ X.env.scope.names.lookup x = some .local := by first | exact .inl rfl | exact .inr rfl) : GE X (.Name x pos) [i] (nameG i) := by
  refine ⟨pg_imp (pg_name hN hi hx hf) fun v σ H Q ⟨Fr, F, ρ, d, ρ', R, r, em, k⟩ => ?_⟩
  cases em
  exact k F H _ (Same.refl F) (R.assign i r) .set
def nilG : List D → Rho → Option Rho := fun ds ρ => match ds with
  | [] => some ρ
  | _ => none
def consG (g : D → Rho → Option Rho) (gs : List D → Rho → Option Rho) : List D → Rho → Option Rho := fun ds ρ => match ds with
  | d :: ds => match g d ρ with
    | some ρ' => gs ds ρ'
    | none => none
  | [] => none
theorem gse_nil : GsE X [] [] nilG := by
  refine ⟨pgs_imp pgs_nil fun v σ H Q ⟨Fr, F, ρ, d, ρ', R, r, em, k⟩ => ?_⟩
  unfold nilG at em
  split at em
  · cases em; cases r; exact ⟨rfl, k F H σ (Same.refl F) R (.refl _ _)⟩
  · cases em
theorem gse_cons {g : D → Rho → Option Rho} {gs : List D → Rho → Option Rho} (h1 : GE X e W1 g) (h2 : GsE X es W2 gs)
    (hs : (assignEach (e :: es) X.env).map (·.2) = assign e X.env :: (assignEach es X.env).map (·.2) := by rfl) : GsE X (e :: es) (W1 ++ W2) (consG g gs) := by
  refine ⟨pgs_imp (pgs_cons h1.pg h2.pgs hs) fun v σ H Q ⟨Fr, F, ρ, d, ρ', R, r, em, k⟩ => ?_⟩
  unfold consG at em
  split at em
  · rename_i d0 ds0
    split at em
    · rename_i ρ1 e1
      cases r with
      | cons r1 r2 =>
        exact ⟨_, _, rfl, Fr, F, ρ, d0, ρ1, R, r1, e1, fun F1 H1 σ1 q1 R1 k1 => ⟨Fr, F1, ρ1, ds0, ρ', R1, r2.mono q1, em, fun F2 H2 σ2 q2 R2 k2 => k F2 H2 σ2 (q1.trans q2) R2 (k1.trans k2)⟩⟩
    · cases em
  · cases em
/-- a, b = a tuple -/
def tupG (n : Nat) (gs : List D → Rho → Option Rho) : D → Rho → Option Rho := fun d ρ => match d with
  | .tup ds => if ds.length = n then gs ds ρ else none
  | _ => none
theorem ge_tup {k0 n : Nat} {gs : List D → Rho → Option Rho} (hc : X.calm = true) (h : GsE X es W gs)
    (hn : (assignEach es X.env).length = n := by rfl) (hst : (assignEach es X.env).findIdx? (·.1) = none := by rfl) : GE X (.Tuple es k0 pos) W (tupG n gs) := by
  refine ⟨pg_imp (pg_tup hc h.pgs hn hst) fun v σ H Q ⟨Fr, F, ρ, d, ρ', R, r, em, k⟩ => ?_⟩
  unfold tupG at em
  split at em
  · split at em
    · rename_i hl
      cases r with
      | tup q rs => exact ⟨_, _, rfl, sameT R.f q, by rw [rs.length]; exact hl, Fr, F, ρ, _, ρ', R, rs, em, k⟩
    · cases em
  · cases em

/-! name = e -/
def setM (i : Nat) (m : EM) : SM := fun ρ => match m ρ with
  | some (.tmp d, ρ') => some (.nx, ρ'.set i (some (.own d)))
  | some (o, ρ') => match escO o ρ' with
    | some (d, ρ2) => some (.nx, ρ2.set i (some (.val d)))
    | none => none
  | none => none
theorem setM_ok {i : Nat} {te : TE} {Dn : Ends} {σ : St} {H : Hp} (w : ∀ Q, tE X.K m σ H Q → te σ H Q) (h : tS X.K [i] (setM i m) Dn σ H) : tAsg te (gName i) Dn σ H := by
  obtain ⟨Fr, F, ρ, out, ρ', R, em, k⟩ := h
  refine w _ ?_
  unfold setM at em
  split at em
  · rename_i d ρ1 e1
    cases em
    exact ⟨Fr, F, ρ, _, _, R, e1, fun F1 H1 v q1 R1 r => k F1 H1 _ q1 (R1.assignOwn i r) .set⟩
  · rename_i o ρ1 e1 hne
    split at em
    · rename_i d ρ2 e2
      cases em
      refine ⟨Fr, F, ρ, _, _, R, hne, fun F1 H1 v q1 R1 r => ?_⟩
      obtain ⟨F2, q2, R2, r2⟩ := R1.escO r e2
      exact k F2 H1 _ (q1.trans q2) (R2.assign i r2) .set
    · cases em
  · cases em
theorem se_set (i : Nat) {x : Str} {pos' : Pos} (hN : X.N.Nodup) (h : OE X e m) (hi : X.N[i]? = some x := by rfl) (hx : Loc X.env.scope x := by first | exact Or.inl rfl | exact Or.inr rfl) (hs : swapsWith e (some (.Name x pos')) pos.line X.env = pure false := by rfl) (hf : X.fn x = true ∨ X.env.scope.names.lookup x = some .local := by first | exact .inl rfl | exact .inr rfl) :
    SE X (.Assign [.Name x pos'] e pos) [i] (setM i m) := ⟨ps_imp (ps_set hN hi hx h.pe hs hf) fun Dn σ H h => setM_ok (fun _ z => z) h⟩
/-- target = e -/
def asgM (g : D → Rho → Option Rho) (m : EM) : SM := fun ρ => match esc m ρ with
  | some (d, ρ1) => match g d ρ1 with
    | some ρ2 => some (.nx, ρ2)
    | none => none
  | none => none
theorem se_asg {tg : Expr} {g : D → Rho → Option Rho} (h : OE X e m) (hg : GE X tg W g) (hs : swapsWithSole [tg] e pos.line X.env = pure false := by rfl) (hw : swappedStores [tg] e X.env = pure none := by rfl)
    (h1 : (assignEach [tg] X.env).map (·.2) = [assign tg X.env] := by rfl) : SE X (.Assign [tg] e pos) W (asgM g m) := by
  refine ⟨ps_imp (ps_asg h.ve.pe hg.pg hs hw h1) fun Dn σ H ⟨Fr, F, ρ, out, ρ', R, em, k⟩ => ?_⟩
  unfold asgM at em
  split at em
  · rename_i d ρ1 e1
    split at em
    · rename_i ρ2 e2
      cases em
      exact ⟨Fr, F, ρ, _, _, R, e1, fun F1 H1 v q1 R1 r => ⟨Fr, F1, ρ1, d, _, R1, r, e2, fun F2 H2 σ2 q2 R2 k2 => k F2 H2 σ2 (q1.trans q2) R2 k2⟩⟩
    · cases em
  · cases em
/-- a, b = x, y: names -/
def parM (i j : Nat) (ma mb : EM) : SM := fun ρ => match esc ma ρ with
  | some (d, ρ1) => match esc mb ρ1 with
    | some (e, ρ2) => some (.nx, (ρ2.set i (some (.val d))).set j (some (.val e)))
    | none => none
  | none => none
theorem se_par {i j : Nat} {x y : Str} {px py pt : Pos} {kt k2 pt2} (hc : X.calm = true) (hN : X.N.Nodup) (h1 : OE X a ma) (h2 : OE X b mb) (hi : X.N[i]? = some x := by rfl) (hj : X.N[j]? = some y := by rfl) (hij : i ≠ j := by decide)
    (hx : X.env.scope.names.lookup x = some .local := by rfl) (hy : X.env.scope.names.lookup y = some .local := by rfl)
    (hw : swappedStores [.Tuple [.Name x px, .Name y py] kt pt] (.Tuple [a, b] k2 pt2) X.env = pure (some [x, y]) := by rfl)
    (hs : swapsWithSole [.Tuple [.Name x px, .Name y py] kt pt] (.Tuple [a, b] k2 pt2) pos.line X.env = pure false := by rfl)
    (s1 : starEach [a, b] X.env = (false, eval a X.env) :: starEach [b] X.env := by rfl) (s2 : starEach [b] X.env = (false, eval b X.env) :: starEach [] X.env := by rfl) :
    SE X (.Assign [.Tuple [.Name x px, .Name y py] kt pt] (.Tuple [a, b] k2 pt2) pos) [i, j] (parM i j ma mb) := by
  refine ⟨ps_imp (ps_par hc hN hi hj hij hx hy (pa_cons h1.ve.pe (pa_cons h2.ve.pe pa_nil s2) s1) hw hs) fun Dn σ H ⟨Fr, F, ρ, out, ρ', R, em, k⟩ => ?_⟩
  unfold parM at em
  split at em
  · rename_i d ρ1 e1
    split at em
    · rename_i e ρ2 e2
      cases em
      refine ⟨Fr, F, ρ, _, _, R, e1, fun F1 H1 v q1 R1 r1 => ⟨Fr, F1, ρ1, _, _, R1, e2, fun F2 H2 w q2 R2 r2 => ⟨v, w, rfl, ?_⟩⟩⟩
      exact k F2 H2 _ (q1.trans q2) ((R2.assign i (r1.mono q2)).assign j r2) ((Keep.set (i := i)).trans (Keep.set (i := j)))
    · cases em
  · cases em
/-- name op= e, ints and texts: as name = name op e -/
def augM (i : Nat) (g : D → D → Option Opd) (m : EM) : SM := fun ρ => match ρ[i]? with
  | some (some (.val d)) => match frz m ρ with
    | some (o, ρ1) => match look o ρ1 with
      | some e => match g d e with
        | some (.val r) => some (.nx, ρ1.set i (some (.val r)))
        | _ => none
      | none => none
    | none => none
  | _ => none
theorem se_aug {op : Operator} {r : R2} {g : D → D → Option Opd} (i : Nat) {x : Str} {pos' : Pos} (hN : X.N.Nodup) (ho : OpR X (inplaceOp op) r) (hs : OpS X r g) (h : OE X e m) (hi : X.N[i]? = some x := by rfl) (hx : Loc X.env.scope x := by first | exact Or.inl rfl | exact Or.inr rfl)
    (hf : X.fn x = true ∨ X.env.scope.names.lookup x = some .local := by first | exact .inl rfl | exact .inr rfl) : SE X (.AugAssign (.Name x pos') op e pos) [i] (augM i g m) := by
  refine ⟨ps_imp (ps_aug hN hi hx h.ne.pe (op := op) (ti := r) ho hf) fun Dn σ H ⟨Fr, F, ρ, out, ρ', R, em, k⟩ => ?_⟩
  unfold augM at em
  split at em
  · rename_i d e1
    obtain ⟨v, e2, rv⟩ := R.slot i _ e1
    split at em
    · rename_i o ρ1 e3
      split at em
      · rename_i e' e4
        split at em
        · rename_i r' e5
          cases em
          refine ⟨v, e2, Fr, F, ρ, _, _, R, e3, fun F1 H1 y q1 R1 r1 => ?_⟩
          refine hs R1 (.inl (Rep.mono q1 rv)) (r1.look R1 e4) e5 fun F2 H2 z q2 R2 r2 => ?_
          exact k F2 H2 _ (q1.trans q2) (R2.assign i r2) .set
        · cases em
      · cases em
    · cases em
  · cases em
def rIAdd : R2 := fun x y H Q => rI0 (fun i j => .int (i + j)) x y H Q ∨ (∃ i j, x = .str i ∧ y = .str j ∧ i.length + j.length ≤ sizeLine ∧ Q (.str (i ++ j)) H)
def iaddG : D → D → Option Opd
  | .int i, .int j => some (.val (.int (i + j)))
  | .str s, .str t => if s.length + t.length ≤ sizeLine then some (.val (.str (s ++ t))) else none
  | _, _ => none
theorem op_iadd : OpR X (inplaceOp .Add) rIAdd := iop_add.or iop_add_str
theorem ops_iadd : OpS X rIAdd iaddG := by
  intro Fr F H ρ σ x y d e o Q R hx hy g k
  unfold iaddG at g
  split at g
  · rename_i i j
    cases g
    cases hx.int
    cases hy.int
    exact .inl ⟨i, j, rfl, rfl, after_val R (.int _) k⟩
  · rename_i i j
    split at g
    · rename_i h
      cases g
      cases hx.str
      cases hy.str
      exact .inr ⟨i, j, rfl, rfl, h, after_val R (.str _) k⟩
    · cases g
  · cases g
theorem se_iadd (i : Nat) {x : Str} {pos' : Pos} (hN : X.N.Nodup) (h : OE X e m) (hi : X.N[i]? = some x := by rfl) (hx : Loc X.env.scope x := by first | exact Or.inl rfl | exact Or.inr rfl)
    (hf : X.fn x = true ∨ X.env.scope.names.lookup x = some .local := by first | exact .inl rfl | exact .inr rfl) : SE X (.AugAssign (.Name x pos') .Add e pos) [i] (augM i iaddG m) := se_aug i hN op_iadd ops_iadd h hi hx hf
theorem se_isub (i : Nat) {x : Str} {pos' : Pos} (hN : X.N.Nodup) (h : OE X e m) (hi : X.N[i]? = some x := by rfl) (hx : Loc X.env.scope x := by first | exact Or.inl rfl | exact Or.inr rfl)
    (hf : X.fn x = true ∨ X.env.scope.names.lookup x = some .local := by first | exact .inl rfl | exact .inr rfl) : SE X (.AugAssign (.Name x pos') .Sub e pos) [i] (augM i subG m) := se_aug i hN iop_sub ops_I0 h hi hx hf

/-! xs[i] = e, xs[i] += e: xs a name's own list -/
def putM (i : Nat) (mi m : EM) : SM := fun ρ => match esc m ρ with
  | some (d, ρ1) => match ρ1[i]? with
    | some (some _) => match frz mi ρ1 with
      | some (.val (.int k), ρ2) => match ρ2[i]? with
        | some (some (.own (.lst ds))) => match ixN ds.length k with
          | some j => some (.nx, ρ2.set i (some (.own (.lst (ds.set j d)))))
          | none => none
        | _ => none
      | _ => none
    | _ => none
  | none => none
theorem se_put (i : Nat) {x : Str} {px tpos : Pos} (h : OE X e m) (hb : OE X b mb) (hN : X.N[i]? = some x := by rfl) (hv : Vis X.env.scope x := by first | exact Or.inl rfl | exact Or.inr (Or.inl rfl) | exact Or.inr (Or.inr rfl)) (hd : (x == ("__debug__" : Str)) = false := by decide)
    (hcd : (x == ("__classdict__" : Str)) = false := by decide) (ha : ∀ v, assign (.Subscript (.Name x px) b tpos) X.env v = (do
      let ov ← holding [v] (eval (.Name x px) X.env)
      let iv ← holding [v, ov] (eval b X.env)
      standAt tpos
      holding [v, ov, iv] (setItem ov iv v)
      release [v, ov, iv] []) := by intro _; rfl) (hs : swapsWithSole [.Subscript (.Name x px) b tpos] e pos.line X.env = pure false := by rfl) (hw : swappedStores [.Subscript (.Name x px) b tpos] e X.env = pure none := by rfl)
    (h1 : (assignEach [.Subscript (.Name x px) b tpos] X.env).map (·.2) = [assign (.Subscript (.Name x px) b tpos) X.env] := by rfl) :
    SE X (.Assign [.Subscript (.Name x px) b tpos] e pos) [] (putM i mb m) := by
  refine ⟨ps_imp (ps_asg h.ve.pe (pg_sub (pe_var hN hv hd hcd) hb.ne.pe set_list ha) hs hw h1) fun Dn σ H ⟨Fr, F, ρ, out, ρ', R, em, k⟩ => ?_⟩
  unfold putM at em
  split at em
  · rename_i d ρ1 e1
    split at em
    · rename_i sv e0
      split at em
      · rename_i n ρ2 e2
        split at em
        · rename_i ds e3
          split at em
          · rename_i j e4
            cases em
            refine ⟨Fr, F, ρ, _, _, R, e1, fun F1 H1 v q1 R1 r1 => ?_⟩
            obtain ⟨u, eu, _⟩ := R1.slot i _ e0
            refine ⟨u, eu, Fr, F1, ρ1, _, _, R1, e2, fun F2 H2 y q2 R2 r2 => ?_⟩
            cases r2
            obtain ⟨u', eu', a', o', ea, g1, g2, g3, g4⟩ := R2.slot i _ e3
            rw [eu] at eu'; cases eu'
            subst ea
            cases g2 with
            | lst rs =>
              refine ⟨a', _, n, j, rfl, rfl, g1, by rw [rs.length]; exact e4, ?_⟩
              exact k F2 _ σ (q1.trans q2) (R2.mut e3 eu (.lst (Reps.set (r1.mono q2) j rs))) (.refl _ _)
          · cases em
        · cases em
      · cases em
    · cases em
  · cases em
/-- o[i], by values -/
theorem get_list : PGet X (fun o i H Q => ∃ p xs k v, o = .ref p ∧ i = .int k ∧ SqL X.K H p xs ∧ 0 ≤ k ∧ xs[k.toNat]? = some v ∧ Q v H) := by
  intro pins s σ H o i ov iv Q I ro ri h
  obtain ⟨p, xs, k, v, rfl, rfl, hq, h0, hx, q⟩ := h
  cases ro
  obtain ⟨t, rfl⟩ := ri
  obtain ⟨its, r, pl, hz⟩ := I.list hq
  obtain ⟨w, ew, rw'⟩ := r.get hx
  have hn := line63
  have hl := some_lt hx
  exact wpAny_getItem_list pl.isList h0 (by omega) (by simpa using ew) ⟨v, H, I, rw', q⟩
def augAtM (i : Nat) (mi : EM) (g : D → D → Option Opd) (m : EM) : SM := fun ρ => match ρ[i]? with
  | some (some _) => match frz mi ρ with
    | some (.val (.int k), ρ1) => match ρ1[i]? with
      | some (some (.own (.lst ds))) => if 0 ≤ k then match ds[k.toNat]? with
        | some old => match frz m ρ1 with
          | some (o, ρ2) => match look o ρ2 with
            | some e => match g old e with
              | some (.val r) => match ρ2[i]? with
                | some (some (.own (.lst ds2))) => if k.toNat < ds2.length then some (.nx, ρ2.set i (some (.own (.lst (ds2.set k.toNat r))))) else none
                | _ => none
              | _ => none
            | none => none
          | none => none
        | none => none else none
      | _ => none
    | _ => none
  | _ => none
theorem se_augAt {op : Operator} {r : R2} {g : D → D → Option Opd} (i : Nat) {x : Str} {px tpos : Pos} (ho : OpR X (inplaceOp op) r) (hs : OpS X r g) (h : OE X e m) (hb : OE X b mb) (hN : X.N[i]? = some x := by rfl) (hv : Vis X.env.scope x := by first | exact Or.inl rfl | exact Or.inr (Or.inl rfl) | exact Or.inr (Or.inr rfl)) (hd : (x == ("__debug__" : Str)) = false := by decide)
    (hcd : (x == ("__classdict__" : Str)) = false := by decide) (ha : ∀ ov iv new, augStore b ov iv new = (do holding [new, ov, iv] (setItem ov iv new); release [new, ov, iv] []; pure .next) := by intros; rfl) :
    SE X (.AugAssign (.Subscript (.Name x px) b tpos) op e pos) [] (augAtM i mb g m) := by
  refine ⟨ps_imp (ps_augS (pe_var hN hv hd hcd) hb.ne.pe get_list h.ne.pe (op := op) (tip := r) ho set_list ha) fun Dn σ H ⟨Fr, F, ρ, out, ρ', R, em, k⟩ => ?_⟩
  unfold augAtM at em
  split at em
  · rename_i sv e0
    split at em
    · rename_i n ρ1 e1
      split at em
      · rename_i ds e2
        split at em
        · rename_i h0
          split at em
          · rename_i old e3
            split at em
            · rename_i o ρ2 e4
              split at em
              · rename_i ev e5
                split at em
                · rename_i rr e6
                  split at em
                  · rename_i ds2 e7
                    split at em
                    · rename_i hl
                      cases em
                      obtain ⟨u, eu, _⟩ := R.slot i _ e0
                      refine ⟨u, eu, Fr, F, ρ, _, _, R, e1, fun F1 H1 y q1 R1 r1 => ?_⟩
                      cases r1
                      obtain ⟨u', eu', a', o', ea, g1, g2, g3, g4⟩ := R1.slot i _ e2
                      rw [eu] at eu'; cases eu'
                      subst ea
                      cases g2 with
                      | lst rs =>
                        obtain ⟨vo, evo, rvo⟩ := rs.get e3
                        refine ⟨a', _, n, vo, rfl, rfl, SqL.of g1, h0, evo, Fr, F1, ρ1, _, _, R1, e4, fun F2 H2 z q2 R2 r2 => ?_⟩
                        refine hs R2 (.inl (Rep.mono q2 rvo)) (r2.look R2 e5) e6 fun F3 H3 w q3 R3 r3 => ?_
                        obtain ⟨u'', eu'', a'', o'', ea2, f1, f2, f3, f4⟩ := R3.slot i _ e7
                        rw [eu] at eu''; cases eu''
                        cases ea2
                        cases f2 with
                        | lst rs2 =>
                          refine ⟨a', _, n, n.toNat, rfl, rfl, f1, ?_, ?_⟩
                          · unfold ixN
                            rw [if_pos h0, rs2.length, if_pos (by omega)]
                          · exact k F3 _ σ ((q1.trans q2).trans q3) (R3.mut e7 eu (.lst (Reps.set r3 _ rs2))) (.refl _ _)
                    · cases em
                  · cases em
                · cases em
              · cases em
            · cases em
          · cases em
        · cases em
      · cases em
    · cases em
  · cases em
theorem se_iaddAt (i : Nat) {x : Str} {px tpos : Pos} (h : OE X e m) (hb : OE X b mb) (hN : X.N[i]? = some x := by rfl) (hv : Vis X.env.scope x := by first | exact Or.inl rfl | exact Or.inr (Or.inl rfl) | exact Or.inr (Or.inr rfl)) (hd : (x == ("__debug__" : Str)) = false := by decide)
    (hcd : (x == ("__classdict__" : Str)) = false := by decide) (ha : ∀ ov iv new, augStore b ov iv new = (do holding [new, ov, iv] (setItem ov iv new); release [new, ov, iv] []; pure .next) := by intros; rfl) :
    SE X (.AugAssign (.Subscript (.Name x px) b tpos) .Add e pos) [] (augAtM i mb iaddG m) := se_augAt i op_iadd ops_iadd h hb hN hv hd hcd ha
theorem se_isubAt (i : Nat) {x : Str} {px tpos : Pos} (h : OE X e m) (hb : OE X b mb) (hN : X.N[i]? = some x := by rfl) (hv : Vis X.env.scope x := by first | exact Or.inl rfl | exact Or.inr (Or.inl rfl) | exact Or.inr (Or.inr rfl)) (hd : (x == ("__debug__" : Str)) = false := by decide)
    (hcd : (x == ("__classdict__" : Str)) = false := by decide) (ha : ∀ ov iv new, augStore b ov iv new = (do holding [new, ov, iv] (setItem ov iv new); release [new, ov, iv] []; pure .next) := by intros; rfl) :
    SE X (.AugAssign (.Subscript (.Name x px) b tpos) .Sub e pos) [] (augAtM i mb subG m) := se_augAt i iop_sub ops_I0 h hb hN hv hd hcd ha

/-! while -/
def whileL (t : TM) (s : SM) : Nat → Rho → Option (Out × Rho)
  | 0, _ => none
  | n + 1, ρ => match t ρ with
    | some (true, ρ1) => match s ρ1 with
      | some (.nx, ρ2) => whileL t s n ρ2
      | some (.ct, ρ2) => whileL t s n ρ2
      | some (.bk, ρ2) => some (.nx, ρ2)
      | some (.rt o, ρ2) => some (.rt o, ρ2)
      | none => none
    | some (false, ρ1) => some (.nx, ρ1)
    | none => none
def lots : Nat := 2 ^ 64
def whileM (t : TM) (s : SM) : SM := fun ρ => whileL t s lots ρ
theorem se_while {c : Expr} {body : List Stmt} {t : TM} (hp : PassesOwn (model X.prog X.w) X.A X.env X.xe) (hc : TeE X c t) (hb : SsE X body W s1) : SE X (.While c body [] pos) W (whileM t s1) := by
  refine ⟨ps_imp (ps_while hp hc.pt hb.pss) fun Dn σ H ⟨Fr, F, ρ, out, ρ', R, em, k⟩ => ?_⟩
  refine ⟨fun n σ1 H1 => ∃ F1 ρ1, Same F F1 ∧ Rel X.K Fr F1 ρ1 σ1 H1 ∧ Keep W σ σ1 ∧ whileL t s1 n ρ1 = some (out, ρ'), ⟨lots, F, ρ, Same.refl F, R, .refl _ _, em⟩, ?_⟩
  rintro n σ1 H1 ⟨F1, ρ1, q1, R1, k1, e1⟩
  cases n with
  | zero => cases e1
  | succ n =>
    rw [whileL] at e1
    split at e1
    · rename_i ρ2 e2
      refine ⟨Fr, F1, ρ1, _, _, R1, e2, fun F2 H2 q2 R2 => iteT ?_⟩
      refine ⟨fun σ3 H3 => ∃ F3 ρ3, Same F F3 ∧ Rel X.K Fr F3 ρ3 σ3 H3 ∧ Keep W σ σ3 ∧ whileL t s1 n ρ3 = some (out, ρ'), fun σ3 H3 z => ⟨n, Nat.lt_succ_self n, z⟩, ?_⟩
      have km : ∀ {σ3 : St}, Keep W σ1 σ3 → Keep W σ σ3 := fun k3 => (k1.trans k3).mono fun i h => (List.mem_append.mp h).elim id id
      split at e1
      · rename_i ρ3 e3
        exact ⟨Fr, F2, ρ2, _, _, R2, e3, fun F3 H3 σ3 q3 R3 k3 => ⟨F3, ρ3, (q1.trans q2).trans q3, R3, km k3, e1⟩⟩
      · rename_i ρ3 e3
        exact ⟨Fr, F2, ρ2, _, _, R2, e3, fun F3 H3 σ3 q3 R3 k3 => ⟨F3, ρ3, (q1.trans q2).trans q3, R3, km k3, e1⟩⟩
      · rename_i ρ3 e3
        cases e1
        exact ⟨Fr, F2, ρ2, _, _, R2, e3, fun F3 H3 σ3 q3 R3 k3 => k F3 H3 σ3 ((q1.trans q2).trans q3) R3 (km k3)⟩
      · rename_i o ρ3 e3
        cases e1
        exact ⟨Fr, F2, ρ2, _, _, R2, e3, fun F3 H3 σ3 q3 R3 k3 => k F3 H3 σ3 ((q1.trans q2).trans q3) R3 (km k3)⟩
      · cases e1
    · rename_i ρ2 e2
      cases e1
      exact ⟨Fr, F1, ρ1, _, _, R1, e2, fun F2 H2 q2 R2 => iteF (k F2 H2 σ1 (q1.trans q2) R2 k1)⟩
    · cases e1

/-! what is walked -/
abbrev IM := Rho → Option (List D × Option (Nat × D) × Rho)
/-- J yields these values, at any later heap -/
def IterOk (K : PySem.W.Frag) (Fr : Frm) (F0 : Hp) (J : It) (ds : List D) : Prop := ∀ F H, Same F0 F → Same Fr H → Same F H → (∀ i d, ds[i]? = some d → J.go i H ∧ ∀ x H', J.yld i H x H' →
  ∃ F', Same F F' ∧ Same H H' ∧ (∀ Fr' ρ σ, Rel K Fr' F ρ σ H → Rel K Fr' F' ρ σ H') ∧ Rep K F' x d) ∧ J.stop ds.length H
def Lock (K : PySem.W.Frag) (Fr Fr' : Frm) (F : Hp) (σ : St) : Option (Nat × D) → Prop
  | none => Fr' = Fr
  | some (j, d) => ∃ a o, σ[j]? = some (some (.ref a)) ∧ Fr a = none ∧ Fr' = Fr.upd a o ∧ Own K F o d
def tI (K : PySem.W.Frag) (m : IM) : TI := fun σ H R => ∃ Fr F ρ ds lk ρ', Rel K Fr F ρ σ H ∧ m ρ = some (ds, lk, ρ') ∧
  ∀ Fr' F' H' J, Same F F' → Rel K Fr' F' ρ' σ H' → Lock K Fr Fr' F' σ lk → IterOk K Fr' F' J ds → R J H'
/-- L: the names that may be locked -/
structure IE (X : Cx) (tg it : Expr) (L : List Nat) (m : IM) : Prop where
  pi : PI X tg it (tI X.K m)
  lk : ∀ ρ ds j d ρ', m ρ = some (ds, some (j, d), ρ') → j ∈ L
def unlock (lk : Option (Nat × D)) (ρ : Rho) : Option Rho := match lk with
  | none => some ρ
  | some (j, d) => match ρ[j]? with
    | some (some (.lck _)) => some (ρ.set j (some (.own d)))
    | _ => none
theorem Lock.open {K : PySem.W.Frag} {Fr Fr' : Frm} {F F2 H : Hp} {ρ ρ' : Rho} {σ σ' : St} {lk : Option (Nat × D)} (l : Lock K Fr Fr' F σ lk) (e : Same F F2) (R : Rel K Fr' F2 ρ σ' H) (hs : ∀ j d, lk = some (j, d) → σ'[j]? = σ[j]?) (h : unlock lk ρ = some ρ') : Rel K Fr F2 ρ' σ' H := by
  cases lk with
  | none => cases h; cases l; exact R
  | some p =>
    obtain ⟨j, d⟩ := p
    obtain ⟨a, o, e1, e2, e3, w⟩ := l
    subst e3
    dsimp only [Ev.unlock] at h
    split at h
    · rename_i d' e4
      cases h
      exact R.unlock e4 (by rw [hs j d rfl, e1]) e2 (w.mono e)
    · cases h
def forL (g : D → Rho → Option Rho) (s : SM) : List D → Rho → Option (Out × Rho)
  | [], ρ => some (.nx, ρ)
  | d :: ds, ρ => match g d ρ with
    | some ρ1 => match s ρ1 with
      | some (.nx, ρ2) => forL g s ds ρ2
      | some (.ct, ρ2) => forL g s ds ρ2
      | some (.bk, ρ2) => some (.nx, ρ2)
      | some (.rt o, ρ2) => some (.rt o, ρ2)
      | none => none
    | none => none
def forM (it : IM) (g : D → Rho → Option Rho) (s : SM) : SM := fun ρ => match it ρ with
  | some (ds, lk, ρ1) => match forL g s ds ρ1 with
    | some (out, ρ2) => match unlock lk ρ2 with
      | some ρ3 => some (out, ρ3)
      | none => none
    | none => none
  | none => none
theorem Lock.orel {K : PySem.W.Frag} {Fr Fr' : Frm} {F F2 H : Hp} {ρ ρ' : Rho} {σ σ' : St} {lk : Option (Nat × D)} {v : V} {o : Opd} (l : Lock K Fr Fr' F σ lk) (h : unlock lk ρ = some ρ') (hs : ∀ j d, lk = some (j, d) → σ'[j]? = σ[j]?)
    (r : ORel K Fr' F2 ρ σ' H v o) : ORel K Fr F2 ρ' σ' H v o := by
  cases o with
  | val d => exact r
  | var i => exact r
  | tmp d =>
    cases lk with
    | none => cases h; cases l; exact r
    | some p =>
      obtain ⟨j, d'⟩ := p
      obtain ⟨b, o', e1, e2, e3, w⟩ := l
      subst e3
      obtain ⟨a, u, rfl, h1, h2, h3, h4, h5⟩ := r
      have h4 : L2.upd Fr.h b o' a = none := h4
      have hab : a ≠ b := fun z => by subst z; rw [upd_same] at h4; cases h4
      dsimp only [Ev.unlock] at h
      split at h
      · rename_i d2 e4
        cases h
        refine ⟨a, u, rfl, h1, h2, h3, by rw [upd_ne hab] at h4; exact h4, fun i e e5 => ?_⟩
        rcases get_set_some e5 with ⟨rfl, _, _⟩ | ⟨_, e6⟩
        · rw [hs _ _ rfl, e1]
          intro z
          exact hab (V.ref.inj (Option.some.inj (Option.some.inj z))).symm
        · exact h5 i e e6
      · cases h
theorem Lock.fin {K : PySem.W.Frag} {Fr Fr' : Frm} {F F2 H : Hp} {ρ ρ' : Rho} {σ σ' : St} {lk : Option (Nat × D)} {Dn : Ends} {out : Out} (l : Lock K Fr Fr' F σ lk) (h : unlock lk ρ = some ρ') (hs : ∀ j d, lk = some (j, d) → σ'[j]? = σ[j]?)
    (k : Fin K Fr F2 ρ' σ' H Dn out) : Fin K Fr' F2 ρ σ' H Dn out := by
  cases out with
  | nx => exact k
  | bk => exact k
  | ct => exact k
  | rt o => exact fun v r => k v (l.orel h hs r)
theorem se_for {tg it : Expr} {body : List Stmt} {L : List Nat} {mi : IM} {g : D → Rho → Option Rho} (hp : PassesOwn (model X.prog X.w) X.A X.env X.xe) (hc : X.calm = true) (hi : IE X tg it L mi) (hg : GE X tg W1 g) (hb : SsE X body W2 s1)
    (hL : ∀ j ∈ L, j ∉ W1 ++ W2 := by decide) (hs : ∀ x, foldedSetIterable it X.env x = pure x := by intro _; rfl) : SE X (.For tg it body [] pos) (W1 ++ W2) (forM mi g s1) := by
  refine ⟨ps_imp (ps_for hp hc hi.pi hg.pg hb.pss hs) fun Dn σ H ⟨Fr, F, ρ, out, ρ', R, em, k⟩ => ?_⟩
  unfold forM at em
  split at em
  · rename_i ds lk ρ1 e1
    split at em
    · rename_i out2 ρ2 e2
      split at em
      · rename_i ρ3 e3
        cases em
        have hj : ∀ {σ2 : St}, Keep (W1 ++ W2) σ σ2 → ∀ j d, lk = some (j, d) → σ2[j]? = σ[j]? := fun k2 j d z => k2.2 j (hL j (hi.lk ρ ds j d ρ1 (by rw [e1, z])))
        refine ⟨Fr, F, ρ, ds, lk, ρ1, R, e1, fun Fr' F1 H1 J q1 R1 l ok => ?_⟩
        refine ⟨fun i n σ2 H2 => ∃ F2 ρx, Same F1 F2 ∧ Rel X.K Fr' F2 ρx σ2 H2 ∧ Keep (W1 ++ W2) σ σ2 ∧ i ≤ ds.length ∧ n = ds.length - i ∧ forL g s1 (ds.drop i) ρx = some (out, ρ2), ⟨ds.length, F1, ρ1, Same.refl F1, R1, .refl _ _, Nat.zero_le _, rfl, e2⟩, ?_⟩
        rintro i n σ2 H2 ⟨F2, ρx, q2, R2, k2, hle, rfl, e4⟩
        have km : ∀ {σ3 : St}, Keep (W1 ++ W2) σ2 σ3 → Keep (W1 ++ W2) σ σ3 := fun k3 => (k2.trans k3).mono fun i h => (List.mem_append.mp h).elim id id
        obtain ⟨item, stop⟩ := ok F2 H2 q2 R2.fr R2.f
        by_cases hlt : i < ds.length
        · rw [List.drop_eq_getElem_cons hlt, forL] at e4
          obtain ⟨go, yl⟩ := item i _ (List.getElem?_eq_getElem hlt)
          refine .inr ⟨go, fun σ3 H3 => ∃ F3 ρy, Same F1 F3 ∧ Rel X.K Fr' F3 ρy σ3 H3 ∧ Keep (W1 ++ W2) σ σ3 ∧ forL g s1 (ds.drop (i + 1)) ρy = some (out, ρ2), fun σ3 H3 ⟨F3, ρy, z1, z2, z3, z4⟩ => ⟨ds.length - (i + 1), by omega, F3, ρy, z1, z2, z3, hlt, rfl, z4⟩, fun x H' y => ?_⟩
          obtain ⟨F3, q3, q4, tr, rx⟩ := yl x H' y
          split at e4
          · rename_i ρ4 e5
            refine ⟨Fr', F3, ρx, _, ρ4, tr _ _ _ R2, rx, e5, fun F4 H4 σ4 q5 R4 k4 => ?_⟩
            split at e4
            · rename_i ρ5 e6
              exact ⟨Fr', F4, ρ4, _, _, R4, e6, fun F5 H5 σ5 q6 R5 k5 => ⟨F5, ρ5, ((q2.trans q3).trans q5).trans q6, R5, km (k4.trans k5), e4⟩⟩
            · rename_i ρ5 e6
              exact ⟨Fr', F4, ρ4, _, _, R4, e6, fun F5 H5 σ5 q6 R5 k5 => ⟨F5, ρ5, ((q2.trans q3).trans q5).trans q6, R5, km (k4.trans k5), e4⟩⟩
            · rename_i ρ5 e6
              cases e4
              exact ⟨Fr', F4, ρ4, _, _, R4, e6, fun F5 H5 σ5 q6 R5 k5 => k F5 H5 σ5 ((((q1.trans q2).trans q3).trans q5).trans q6) (l.open (((q2.trans q3).trans q5).trans q6) R5 (hj (km (k4.trans k5))) e3) (km (k4.trans k5))⟩
            · rename_i o ρ5 e6
              cases e4
              refine ⟨Fr', F4, ρ4, _, _, R4, e6, fun F5 H5 σ5 q6 R5 k5 => ?_⟩
              have z := k F5 H5 σ5 ((((q1.trans q2).trans q3).trans q5).trans q6) (l.open (((q2.trans q3).trans q5).trans q6) R5 (hj (km (k4.trans k5))) e3) (km (k4.trans k5))
              exact fun v r => z v (l.orel e3 (hj (km (k4.trans k5))) r)
            · cases e4
          · cases e4
        · have ei : i = ds.length := by omega
          subst ei
          rw [List.drop_length, forL] at e4
          cases e4
          exact .inl ⟨stop, k F2 H2 σ2 (q1.trans q2) (l.open q2 R2 (hj k2) e3) k2⟩
      · cases em
    · cases em
  · cases em

/-! sources -/
def charsD (s : Str) : List D := s.cps.toList.map fun c => .str ⟨#[c]⟩
/-- a list, a tuple, a text -/
def itemsD : D → Option (List D)
  | .str s => some (charsD s)
  | d => seqD d
def seqI (m : EM) : IM := fun ρ => match frz m ρ with
  | some (.val d, ρ1) => match itemsD d with
    | some ds => some (ds, none, ρ1)
    | none => none
  | some (.var j, ρ1) => match ρ1[j]? with
    | some (some (.own d)) => match seqD d with
      | some ds => some (ds, some (j, d), ρ1.set j (some (.lck d)))
      | none => none
    | some (some sv) => match itemsD sv.d with
      | some ds => some (ds, none, ρ1)
      | none => none
    | _ => none
  | _ => none
theorem pi_or {tg it : Expr} {w1 w2 : TI} (h1 : PI X tg it w1) (h2 : PI X tg it w2) : PI X tg it (fun σ H R => w1 σ H R ∨ w2 σ H R) := ⟨fun pins s σ H R I h => by
  rcases h with h | h
  · exact h1.run pins s σ H R I h
  · exact h2.run pins s σ H R I h⟩
end
end Ev

set_option Elab.async false
set_option linter.all false
set_option maxRecDepth 100000
/-! Ev. F: what is walked, comprehensions. -/
set_option autoImplicit false
namespace Ev
open PySem PySem.Spec PyProof.Rows L2

theorem iter_list {K : PySem.W.Frag} {Fr : Frm} {F G : Hp} {a : Addr} {vs : List V} {ds : List D} (hG : ∀ H, Same Fr.h H → Same F H → Same G H) (h : SqL K G a vs) (r : Reps K F vs ds) : IterOk K Fr F (Itl K a) ds := by
  intro F2 H q f1 f2
  have hh : SqL K H a vs := sameL (hG H f1 (q.trans f2)) h
  refine ⟨fun i d e => ?_, vs, hh, by rw [r.length]; exact Nat.le_refl _⟩
  obtain ⟨v, e1, rv⟩ := r.get e
  refine ⟨⟨vs, v, hh, e1⟩, fun x H' y => ?_⟩
  obtain ⟨rfl, y⟩ := y
  have e2 := y vs hh
  rw [e1] at e2; cases e2
  exact ⟨F2, Same.refl _, Same.refl _, fun _ _ _ z => z, rv.mono q⟩
theorem iter_tup {K : PySem.W.Frag} {Fr : Frm} {F : Hp} {a : Addr} {vs : List V} {ds : List D} (h : SqT K F a vs) (r : Reps K F vs ds) : IterOk K Fr F (Itt K a) ds := by
  intro F2 H q f1 f2
  have hh : SqT K H a vs := sameT (q.trans f2) h
  refine ⟨fun i d e => ?_, vs, hh, by rw [r.length]; exact Nat.le_refl _⟩
  obtain ⟨v, e1, rv⟩ := r.get e
  refine ⟨⟨vs, v, hh, e1⟩, fun x H' y => ?_⟩
  obtain ⟨rfl, y⟩ := y
  have e2 := y vs hh
  rw [e1] at e2; cases e2
  exact ⟨F2, Same.refl _, Same.refl _, fun _ _ _ z => z, rv.mono q⟩
theorem iter_str {K : PySem.W.Frag} {Fr : Frm} {F : Hp} (x : Str) : IterOk K Fr F (Its x) (charsD x) := by
  intro F2 H q f1 f2
  refine ⟨fun i d e => ?_, ?_⟩
  · unfold charsD at e
    rw [List.getElem?_map] at e
    cases e1 : x.cps.toList[i]? with
    | none => rw [e1] at e; cases e
    | some c =>
      rw [e1] at e
      cases e
      have hi := some_lt e1
      refine ⟨(show i < x.cps.size by simpa using hi), fun v H' y => ?_⟩
      obtain ⟨rfl, c', e2, rfl⟩ := y
      have e3 : x.cps[i]? = some c := by simpa using e1
      rw [e3] at e2; cases e2
      exact ⟨F2, Same.refl _, Same.refl _, fun _ _ _ z => z, .str _⟩
  · show x.cps.size ≤ (charsD x).length
    unfold charsD
    simp
def rangeD (lo : Int) (n : Nat) : List D := (List.range n).map fun (i : Nat) => D.int (lo + i)
theorem iter_range {K : PySem.W.Frag} {Fr : Frm} {F : Hp} (lo : Int) (n : Nat) : IterOk K Fr F (Itr lo n) (rangeD lo n) := by
  intro F2 H q f1 f2
  refine ⟨fun i d e => ?_, by show n ≤ (rangeD lo n).length; unfold rangeD; simp⟩
  unfold rangeD at e
  rw [List.getElem?_map] at e
  by_cases hi : i < n
  · rw [List.getElem?_range hi] at e
    cases e
    refine ⟨hi, fun v H' y => ?_⟩
    obtain ⟨rfl, rfl⟩ := y
    exact ⟨F2, Same.refl _, Same.refl _, fun _ _ _ z => z, .int _⟩
  · rw [List.getElem?_eq_none (by simpa using hi)] at e; cases e

section
variable {X : Cx} {e a b : Expr} {es : List Expr} {tg : Expr} {pos : Pos} {m ma mb : EM} {W W1 W2 : List Nat}

/-- the walk over a value as it stands in F -/
def iAny (K : PySem.W.Frag) (te : TE) (tn : TA) : TI := fun σ H R => iList K te σ H R ∨ iTup K te σ H R ∨ iStr te σ H R
theorem pi_any {te : TE} (h : PE X e te) : PI X tg e (fun σ H R => iList X.K te σ H R ∨ iTup X.K te σ H R ∨ iStr te σ H R) := pi_or (pi_list h) (pi_or (pi_tup h) (pi_str h))
/-- over a value that is no name's own -/
def seqI0 (m : EM) : IM := fun ρ => match frz m ρ with
  | some (.val d, ρ1) => match itemsD d with
    | some ds => some (ds, none, ρ1)
    | none => none
  | _ => none
theorem seq_val {Fr : Frm} {F H : Hp} {ρ1 : Rho} {σ : St} {R : It → Hp → Prop} {d : D} {ds : List D} (w : ∀ Q, (∀ F' H' v, Same F F' → Rel X.K Fr F' ρ1 σ H' → Rep X.K F' v d → Q v H') → tN X.K (frz m) σ H Q) (e2 : itemsD d = some ds)
    (k : ∀ F' H' J, Same F F' → Rel X.K Fr F' ρ1 σ H' → IterOk X.K Fr F' J ds → R J H') : iList X.K (tN X.K (frz m)) σ H R ∨ iTup X.K (tN X.K (frz m)) σ H R ∨ iStr (tN X.K (frz m)) σ H R := by
  cases d with
  | lst xs =>
    cases e2
    refine .inl (w _ fun F1 H1 v q1 R1 r => ?_)
    cases r with
    | lst h rs => exact ⟨_, rfl, ⟨_, SqL.of (R1.f _ _ h)⟩, k F1 H1 _ q1 R1 (iter_list (G := F1) (fun _ _ z => z) (SqL.of h) rs)⟩
  | rol xs =>
    cases e2
    refine .inl (w _ fun F1 H1 v q1 R1 r => ?_)
    cases r with
    | rol h rs => exact ⟨_, rfl, ⟨_, sameL R1.f h⟩, k F1 H1 _ q1 R1 (iter_list (G := F1) (fun _ _ z => z) h rs)⟩
  | tup xs =>
    cases e2
    refine .inr (.inl (w _ fun F1 H1 v q1 R1 r => ?_))
    cases r with
    | tup h rs => exact ⟨_, rfl, ⟨_, sameT R1.f h⟩, k F1 H1 _ q1 R1 (iter_tup h rs)⟩
  | str x =>
    cases e2
    refine .inr (.inr (w _ fun F1 H1 v q1 R1 r => ?_))
    cases r
    exact ⟨x, rfl, k F1 H1 _ q1 R1 (iter_str x)⟩
  | ins C ks ds => cases e2
  | dct ks ds => cases e2
  | non => cases e2
  | bl b => cases e2
  | int i => cases e2
theorem ie_seq (h : OE X e m) : IE X tg e [] (seqI0 m) := by
  refine ⟨pi_imp (pi_any h.ne.pe) fun σ H R ⟨Fr, F, ρ, ds, lk, ρ', Rr, em, k⟩ => ?_, fun ρ ds j d ρ' em => ?_⟩
  · unfold seqI0 at em
    split at em
    · rename_i d ρ1 e1
      split at em
      · rename_i ds' e2
        cases em
        exact seq_val (fun Q q => ⟨Fr, F, ρ, _, _, Rr, e1, q⟩) e2 fun F' H' J q1 R1 ok => k Fr F' H' J q1 R1 rfl ok
      · cases em
    · cases em
  · exfalso
    unfold seqI0 at em
    split at em
    · split at em
      · cases em
      · cases em
    · cases em
/-- over what a name holds -/
def nameI (j : Nat) : IM := fun ρ => match ρ[j]? with
  | some (some (.val d)) => match itemsD d with
    | some ds => some (ds, none, ρ)
    | none => none
  | some (some (.own d)) => match seqD d with
    | some ds => some (ds, some (j, d), ρ.set j (some (.lck d)))
    | none => none
  | some (some (.bor d)) => match seqD d with
    | some ds => some (ds, none, ρ)
    | none => none
  | some (some (.lck d)) => match seqD d with
    | some ds => some (ds, none, ρ)
    | none => none
  | _ => none
theorem own_seq {K : PySem.W.Frag} {F : Hp} {o : HO} {d : D} {ds : List D} (w : Own K F o d) (e : seqD d = some ds) : ∃ vs, o = .lst vs ∧ Reps K F vs ds := by
  cases w with
  | lst r => cases e; exact ⟨_, rfl, r⟩
  | ins l r => cases e
  | dct l r => cases e
theorem ie_name (j : Nat) {x : Str} (hN : X.N[j]? = some x := by rfl) (hv : Vis X.env.scope x := by first | exact Or.inl rfl | exact Or.inr (Or.inl rfl) | exact Or.inr (Or.inr rfl)) (hd : (x == ("__debug__" : Str)) = false := by decide)
    (hcd : (x == ("__classdict__" : Str)) = false := by decide) : IE X tg (.Name x pos) [j] (nameI j) := by
  have h := pe_var (X := X) (pos := pos) hN hv hd hcd
  refine ⟨pi_imp (pi_any (tg := tg) h) fun σ H R ⟨Fr, F, ρ, ds, lk, ρ', Rr, em, k⟩ => ?_, fun ρ ds i d ρ' em => ?_⟩
  · unfold nameI at em
    split at em
    · rename_i d e1
      obtain ⟨v, ev, r⟩ := Rr.slot j _ e1
      split at em
      · rename_i ds' e2
        cases em
        cases r with
        | lst hh rs => cases e2; exact .inl ⟨_, ev, _, rfl, ⟨_, SqL.of (Rr.f _ _ hh)⟩, k Fr F H _ (Same.refl F) Rr rfl (iter_list (G := F) (fun _ _ z => z) (SqL.of hh) rs)⟩
        | rol hh rs => cases e2; exact .inl ⟨_, ev, _, rfl, ⟨_, sameL Rr.f hh⟩, k Fr F H _ (Same.refl F) Rr rfl (iter_list (G := F) (fun _ _ z => z) hh rs)⟩
        | tup hh rs => cases e2; exact .inr (.inl ⟨_, ev, _, rfl, ⟨_, sameT Rr.f hh⟩, k Fr F H _ (Same.refl F) Rr rfl (iter_tup hh rs)⟩)
        | str x => cases e2; exact .inr (.inr ⟨_, ev, x, rfl, k Fr F H _ (Same.refl F) Rr rfl (iter_str x)⟩)
        | non => cases e2
        | bl b => cases e2
        | int i => cases e2
        | ins h l r => cases e2
        | dct h l r => cases e2
      · cases em
    · rename_i d e1
      split at em
      · rename_i ds' e2
        cases em
        obtain ⟨a, o, es, hFr, w, hH, R2⟩ := Rr.lock e1
        obtain ⟨vs, rfl, rs⟩ := own_seq w e2
        refine .inl ⟨_, es, a, rfl, ⟨vs, SqL.of hH⟩, k _ F H _ (Same.refl F) R2 ⟨a, _, es, hFr, rfl, w⟩ ?_⟩
        exact iter_list (G := (Fr.upd a (.lst vs)).h) (fun _ z _ => z) (SqL.of upd_same) rs
      · cases em
    · rename_i d e1
      obtain ⟨v, ev, a, o, rfl, h1, w⟩ := Rr.slot j _ e1
      split at em
      · rename_i ds' e2
        cases em
        obtain ⟨vs, rfl, rs⟩ := own_seq w e2
        exact .inl ⟨_, ev, a, rfl, ⟨vs, SqL.of (Rr.fr _ _ h1.1)⟩, k Fr F H _ (Same.refl F) Rr rfl (iter_list (G := Fr.h) (fun _ z _ => z) (SqL.of h1.1) rs)⟩
      · cases em
    · rename_i d e1
      obtain ⟨v, ev, a, o, rfl, h1, w⟩ := Rr.slot j _ e1
      split at em
      · rename_i ds' e2
        cases em
        obtain ⟨vs, rfl, rs⟩ := own_seq w e2
        exact .inl ⟨_, ev, a, rfl, ⟨vs, SqL.of (Rr.fr _ _ h1.1)⟩, k Fr F H _ (Same.refl F) Rr rfl (iter_list (G := Fr.h) (fun _ z _ => z) (SqL.of h1.1) rs)⟩
      · cases em
    · cases em
  · unfold nameI at em
    split at em
    · split at em <;> cases em
    · split at em
      · cases em; simp
      · cases em
    · split at em <;> cases em
    · split at em <;> cases em
    · cases em
/-- over range(n), range(a, b) -/
def inR (i : Int) : Bool := decide (-(2 ^ 62) ≤ i) && decide (i < 2 ^ 62)
theorem inR_iff {i : Int} (h : inR i = true) : -(2 ^ 62) ≤ i ∧ i < 2 ^ 62 := by
  unfold inR at h
  rw [Bool.and_eq_true] at h
  exact ⟨of_decide_eq_true h.1, of_decide_eq_true h.2⟩
def rng1 (m : DM) : IM := fun ρ => match m ρ with
  | some ([.int j], ρ') => if inR j then some (rangeD 0 j.toNat, none, ρ') else none
  | _ => none
def rng2 (m : DM) : IM := fun ρ => match m ρ with
  | some ([.int i, .int j], ρ') => if inR i && inR j then some (rangeD i (j - i).toNat, none, ρ') else none
  | _ => none
theorem ie_range1 {dm : DM} {p : Pos} (hg : Gl X "range") (hm : X.mg "range" = none) (h : DE X [a] dm) (hs : starEach [a] X.env = [(false, eval a X.env)] := by rfl) : IE X tg (.Call (.Name "range" p) [a] [] pos) [] (rng1 dm) := by
  refine ⟨pi_imp (pi_range1 hg hm h.pa hs) fun σ H R ⟨Fr, F, ρ, ds, lk, ρ', Rr, em, k⟩ => ?_, fun ρ ds j d ρ' em => ?_⟩
  · unfold rng1 at em
    split at em
    · rename_i j ρ1 e1
      split at em
      · rename_i hj
        cases em
        refine ⟨Fr, F, ρ, _, _, Rr, e1, fun F1 H1 vs q1 R1 r => ?_⟩
        cases r with
        | cons r1 r2 =>
          cases r2; cases r1
          exact ⟨j, rfl, (inR_iff hj).1, (inR_iff hj).2, k Fr F1 H1 _ q1 R1 rfl (iter_range 0 _)⟩
      · cases em
    · cases em
  · exfalso
    unfold rng1 at em
    split at em
    · split at em <;> cases em
    · cases em
theorem ie_range2 {dm : DM} {p : Pos} (hg : Gl X "range") (hm : X.mg "range" = none) (h : DE X [a, b] dm) (hs : starEach [a, b] X.env = [(false, eval a X.env), (false, eval b X.env)] := by rfl) (hs2 : starEach [b] X.env = [(false, eval b X.env)] := by rfl) :
    IE X tg (.Call (.Name "range" p) [a, b] [] pos) [] (rng2 dm) := by
  refine ⟨pi_imp (pi_range2 hg hm h.pa hs hs2) fun σ H R ⟨Fr, F, ρ, ds, lk, ρ', Rr, em, k⟩ => ?_, fun ρ ds j d ρ' em => ?_⟩
  · unfold rng2 at em
    split at em
    · rename_i i j ρ1 e1
      split at em
      · rename_i hj
        cases em
        rw [Bool.and_eq_true] at hj
        refine ⟨Fr, F, ρ, _, _, Rr, e1, fun F1 H1 vs q1 R1 r => ?_⟩
        cases r with
        | cons r1 r2 =>
          cases r2 with
          | cons r2 r3 =>
            cases r3; cases r1; cases r2
            exact ⟨i, j, rfl, ⟨(inR_iff hj.1).1, (inR_iff hj.1).2, (inR_iff hj.2).1, (inR_iff hj.2).2⟩, k Fr F1 H1 _ q1 R1 rfl (iter_range i _)⟩
      · cases em
    · cases em
  · exfalso
    unfold rng2 at em
    split at em
    · split at em <;> cases em
    · cases em

/-! comprehensions -/
@[simp] def wipeR (ρ : Rho) : List Nat → Rho
  | [] => ρ
  | v :: vs => (wipeR ρ vs).set v none
@[simp] def backR (ρ0 ρ : Rho) : List Nat → Rho
  | [] => ρ
  | v :: vs => (backR ρ0 ρ vs).set v (ρ0[v]?.getD none)
/-- these slots hold no object -/
@[simp] def bare (ρ : Rho) (vs : List Nat) : Bool := vs.all fun v => match ρ[v]? with
  | some (some sv) => !sv.ob
  | _ => true
def compL (vs : List Nat) (g : D → Rho → Option Rho) (t : TM) (el : VM) : List D → List D → Rho → Option (List D × Rho)
  | [], acc, ρ => some (acc, ρ)
  | d :: ds, acc, ρ => match g d ρ with
    | some ρ1 => match t ρ1 with
      | some (true, ρ2) => match el ρ2 with
        | some (y, ρ3) => if acc.length < sizeLine then compL vs g t el ds (acc ++ [y]) (wipeR ρ3 vs) else none
        | none => none
      | some (false, ρ2) => compL vs g t el ds acc (wipeR ρ2 vs)
      | none => none
    | none => none
def compM (vs : List Nat) (it : IM) (g : D → Rho → Option Rho) (t : TM) (el : VM) : EM := fun ρ => match it ρ with
  | some (ds, lk, ρ1) => if bare ρ1 vs then match compL vs g t el ds [] (wipeR ρ1 vs) with
    | some (acc, ρ2) => match unlock lk (backR ρ1 ρ2 vs) with
      | some ρ3 => some (.tmp (.lst acc), ρ3)
      | none => none
    | none => none else none
  | none => none
def yesM : TM := fun ρ => some (true, ρ)
structure IfE (X : Cx) (ifs : List Expr) (t : TM) : Prop where
  pts : PTs X ifs (tT X.K t)
theorem pts_imp {ifs : List Expr} {t t' : TT} (h : PTs X ifs t) (w : ∀ σ H Q, t' σ H Q → t σ H Q) : PTs X ifs t' := ⟨fun pins s σ H Q I q => h.run pins s σ H Q I (w σ H Q q)⟩
theorem if_nil : IfE X [] yesM := ⟨pts_imp pts_nil fun σ H Q ⟨Fr, F, ρ, b, ρ', R, em, k⟩ => by cases em; exact k F H (Same.refl F) R⟩
theorem if_one {c : Expr} {t : TM} (h : TeE X c t) : IfE X [c] t := ⟨pts_one h.pt⟩

theorem wipe_get {σ : St} {i : Nat} : ∀ {vs : List Nat}, (wipe σ vs)[i]? = if i ∈ vs then (if i < σ.length then some none else none) else σ[i]?
  | [] => by rw [if_neg (by simp)]; rfl
  | v :: vs => by
    unfold wipe
    rw [get_set_of, wipe_length, wipe_get (vs := vs)]
    by_cases e : v = i
    · subst e; simp
    · have ne : ¬ i = v := fun z => e z.symm
      simp [e, ne]
theorem wipeR_get {ρ : Rho} {i : Nat} : ∀ {vs : List Nat}, (wipeR ρ vs)[i]? = if i ∈ vs then (if i < ρ.length then some none else none) else ρ[i]?
  | [] => by rw [if_neg (by simp)]; rfl
  | v :: vs => by
    have hl : (wipeR ρ vs).length = ρ.length := by
      clear i
      induction vs with
      | nil => rfl
      | cons w ws ih => unfold wipeR; rw [List.length_set, ih]
    unfold wipeR
    rw [get_set_of, hl, wipeR_get (vs := vs)]
    by_cases e : v = i
    · subst e; simp
    · have ne : ¬ i = v := fun z => e z.symm
      simp [e, ne]
theorem wipeR_len (ρ : Rho) : ∀ vs : List Nat, (wipeR ρ vs).length = ρ.length
  | [] => rfl
  | v :: vs => by unfold wipeR; rw [List.length_set, wipeR_len ρ vs]
theorem backR_len (ρ0 ρ : Rho) : ∀ vs : List Nat, (backR ρ0 ρ vs).length = ρ.length
  | [] => rfl
  | v :: vs => by unfold backR; rw [List.length_set, backR_len ρ0 ρ vs]
theorem backR_get {ρ0 ρ : Rho} {i : Nat} : ∀ {vs : List Nat}, (backR ρ0 ρ vs)[i]? = if i ∈ vs then (if i < ρ.length then some (ρ0[i]?.getD none) else none) else ρ[i]?
  | [] => by rw [if_neg (by simp)]; rfl
  | v :: vs => by
    unfold backR
    rw [get_set_of, backR_len, backR_get (vs := vs)]
    by_cases e : v = i
    · subst e; simp
    · have ne : ¬ i = v := fun z => e z.symm
      simp [e, ne]
theorem wipe_keep {W vs : List Nat} {σ σ2 : St} (k : Keep W (wipe σ vs) σ2) (h : ∀ i ∈ W, i ∈ vs) : wipe σ2 vs = wipe σ vs := by
  apply List.ext_getElem?
  intro i
  rw [wipe_get, wipe_get]
  have hl : σ2.length = σ.length := by rw [k.1, wipe_length]
  by_cases hi : i ∈ vs
  · rw [if_pos hi, if_pos hi, hl]
  · rw [if_neg hi, if_neg hi, k.2 i (fun z => hi (h i z)), wipe_get, if_neg hi]
/-- the slots of vs forgotten on both sides -/
theorem Rel.wipes {K : PySem.W.Frag} {Fr : Frm} {F H : Hp} {ρ : Rho} {σ : St} (R : Rel K Fr F ρ σ H) (vs : List Nat) : Rel K Fr F (wipeR ρ vs) (wipe σ vs) H := by
  have q : ∀ {i : Nat} {sv : SV}, (wipeR ρ vs)[i]? = some (some sv) → i ∉ vs ∧ ρ[i]? = some (some sv) ∧ (wipe σ vs)[i]? = σ[i]? := fun {i sv} e => by
    rw [wipeR_get] at e
    by_cases hi : i ∈ vs
    · rw [if_pos hi] at e
      split at e <;> cases e
    · rw [if_neg hi] at e
      exact ⟨hi, e, by rw [wipe_get, if_neg hi]⟩
  refine ⟨R.fr, R.f, R.dj, fun i sv e => ?_, fun i j s t e1 e2 x1 x2 e3 => ?_, by rw [wipeR_len, wipe_length]; exact R.len⟩
  · obtain ⟨_, e1, e2⟩ := q e
    rw [e2]; exact R.slot i sv e1
  · obtain ⟨_, z1, y1⟩ := q e1
    obtain ⟨_, z2, y2⟩ := q e2
    rw [y1, y2] at e3
    exact R.uniq i j s t z1 z2 x1 x2 e3
/-- .. and come back, an object less hidden -/
theorem Rel.back {K : PySem.W.Frag} {Fr : Frm} {F1 F H1 H : Hp} {ρ1 ρ : Rho} {σ : St} {vs : List Nat} {p : Addr} {o : HO} (R1 : Rel K Fr F1 ρ1 σ H1) (hp : Fr p = none) (R : Rel K (Fr.hide p o) F ρ (wipe σ vs) H) (q : Same F1 F) (hb : bare ρ1 vs = true) : Rel K Fr F (backR ρ1 ρ vs) σ H := by
  have bar : ∀ {i : Nat} {sv : SV}, i ∈ vs → ρ1[i]? = some (some sv) → sv.ob = false := fun {i sv} hi e => by
    have := List.all_eq_true.mp hb i hi
    rw [e] at this
    simpa using this
  have g : ∀ {i : Nat} {sv : SV}, (backR ρ1 ρ vs)[i]? = some (some sv) → (i ∈ vs ∧ ρ1[i]? = some (some sv) ∧ sv.ob = false) ∨ (i ∉ vs ∧ ρ[i]? = some (some sv) ∧ (wipe σ vs)[i]? = σ[i]?) := fun {i sv} e => by
    rw [backR_get] at e
    by_cases hi : i ∈ vs
    · rw [if_pos hi] at e
      split at e
      · have e2 : ρ1[i]?.getD none = some sv := Option.some.inj e
        have e3 : ρ1[i]? = some (some sv) := by
          cases z : ρ1[i]? with
          | none => rw [z] at e2; cases e2
          | some w => rw [z] at e2; exact congrArg some e2
        exact .inl ⟨hi, e3, bar hi e3⟩
      · cases e
    · rw [if_neg hi] at e
      exact .inr ⟨hi, e, by rw [wipe_get, if_neg hi]⟩
  have up : ∀ {b : Addr} {u : HO}, Fr b = some u → (Fr.hide p o) b = some u := fun {b u} z => by
    show L2.upd Fr.h p o b = some u
    rw [upd_ne (ne_of_none z hp)]; exact z
  have dn : ∀ {b : Addr}, (Fr.hide p o) b = none → Fr b = none := fun {b} z => by
    have z : L2.upd Fr.h p o b = none := z
    by_cases e : b = p
    · subst e; exact hp
    · rw [upd_ne e] at z; exact z
  have vis : ∀ {b : Addr} {u : HO}, ((Fr.hide p o) b = some u ∧ ¬ (Fr.hide p o).hid b) → (Fr b = some u ∧ ¬ Fr.hid b) := fun {b u} ⟨z1, z2⟩ => by
    have ne : b ≠ p := fun e => z2 (.inr e)
    have z1 : L2.upd Fr.h p o b = some u := z1
    rw [upd_ne ne] at z1
    exact ⟨z1, fun z => z2 (.inl z)⟩
  refine ⟨fun b u z => R.fr b u (up z), R.f, fun b u z => R.dj b u (up z), fun i sv e => ?_, fun i j s t e1 e2 x1 x2 e3 => ?_, ?_⟩
  · rcases g e with ⟨hi, e1, x⟩ | ⟨hi, e1, e2⟩
    · obtain ⟨v, ev, s⟩ := R1.slot i sv e1
      refine ⟨v, ev, ?_⟩
      cases sv with
      | val d => exact Rep.mono q s
      | own d => cases x
      | bor d => cases x
      | lck d => cases x
    · obtain ⟨v, ev, s⟩ := R.slot i sv e1
      rw [e2] at ev
      refine ⟨v, ev, ?_⟩
      cases sv with
      | val d => exact s
      | own d => obtain ⟨b, u, z1, z2, z3, z4, z5⟩ := s; exact ⟨b, u, z1, z2, z3, z4, dn z5⟩
      | bor d => obtain ⟨b, u, z1, z2, z3⟩ := s; exact ⟨b, u, z1, vis z2, z3⟩
      | lck d => obtain ⟨b, u, z1, z2, z3⟩ := s; exact ⟨b, u, z1, vis z2, z3⟩
  · rcases g e1 with ⟨_, _, y1⟩ | ⟨h1, z1, y1⟩
    · cases s with
      | val d => cases x1
      | own d => cases y1
      | bor d => cases x1
      | lck d => cases y1
    · rcases g e2 with ⟨_, _, y2⟩ | ⟨h2, z2, y2⟩
      · rw [x2] at y2; cases y2
      · exact R.uniq i j s t z1 z2 x1 x2 (by rw [y1, y2]; exact e3)
  · rw [backR_len]
    have := R.len
    rw [wipe_length] at this
    exact this
/-- a hidden object, new -/
theorem Rel.hide {K : PySem.W.Frag} {Fr : Frm} {F H : Hp} {ρ : Rho} {σ : St} {p : Addr} {o : HO} (R : Rel K Fr F ρ σ H) (h : H p = none) : Rel K (Fr.hide p o) F ρ σ (upd H p o) := by
  have hF : F p = none := R.f.free h
  have hFr : Fr p = none := R.fr.free h
  refine ⟨fun b u z => ?_, fun b u z => ?_, fun b u z => ?_, fun i sv e => ?_, R.uniq, R.len⟩
  · have z : L2.upd Fr.h p o b = some u := z
    by_cases e : b = p
    · subst e; rw [upd_same] at z ⊢; exact z
    · rw [upd_ne e] at z ⊢; exact R.fr b u z
  · rw [upd_ne (ne_of_none z hF)]; exact R.f b u z
  · have z : L2.upd Fr.h p o b = some u := z
    by_cases e : b = p
    · subst e; exact hF
    · rw [upd_ne e] at z; exact R.dj b u z
  · obtain ⟨v, ev, s⟩ := R.slot i sv e
    have np : ∀ {b : Addr} {u : HO}, H b = some u → b ≠ p := fun z => ne_of_none z h
    refine ⟨v, ev, ?_⟩
    cases sv with
    | val d => exact s
    | own d =>
      obtain ⟨b, u, z1, z2, z3, z4, z5⟩ := s
      exact ⟨b, u, z1, by rw [upd_ne (np z2)]; exact z2, z3, z4, (upd_ne (np z2)).trans z5⟩
    | bor d =>
      obtain ⟨b, u, z1, z2, z3⟩ := s
      have ne := ne_of_none z2.1 hFr
      exact ⟨b, u, z1, ⟨(upd_ne ne).trans z2.1, fun z => z.elim z2.2 ne⟩, z3⟩
    | lck d =>
      obtain ⟨b, u, z1, z2, z3⟩ := s
      have ne := ne_of_none z2.1 hFr
      exact ⟨b, u, z1, ⟨(upd_ne ne).trans z2.1, fun z => z.elim z2.2 ne⟩, z3⟩
/-- the hidden object changes -/
theorem Rel.rehide {K : PySem.W.Frag} {Fr : Frm} {F H : Hp} {ρ : Rho} {σ : St} {p : Addr} {o u : HO} (R : Rel K (Fr.hide p o) F ρ σ H) : Rel K (Fr.hide p u) F ρ σ (upd H p u) := by
  have hF : F p = none := R.dj p o upd_same
  have same : ∀ {b : Addr}, b ≠ p → (Fr.hide p u) b = (Fr.hide p o) b := fun e => (upd_ne e).trans (upd_ne e).symm
  refine ⟨fun b w z => ?_, fun b w z => ?_, fun b w z => ?_, fun i sv e => ?_, R.uniq, R.len⟩
  · by_cases e : b = p
    · subst e
      have z : L2.upd Fr.h b u b = some w := z
      rw [upd_same] at z ⊢; exact z
    · rw [upd_ne e]; exact R.fr b w ((same e).symm.trans z)
  · rw [upd_ne (ne_of_none z hF)]; exact R.f b w z
  · by_cases e : b = p
    · subst e; exact hF
    · exact R.dj b w ((same e).symm.trans z)
  · obtain ⟨v, ev, s⟩ := R.slot i sv e
    refine ⟨v, ev, ?_⟩
    cases sv with
    | val d => exact s
    | own d =>
      obtain ⟨b, w, z1, z2, z3, z4, z5⟩ := s
      have ne : b ≠ p := fun z => by
        subst z
        have z5 : L2.upd Fr.h b o b = none := z5
        rw [upd_same] at z5; cases z5
      exact ⟨b, w, z1, by rw [upd_ne ne]; exact z2, z3, z4, (same ne).trans z5⟩
    | bor d =>
      obtain ⟨b, w, z1, z2, z3⟩ := s
      have ne : b ≠ p := fun z => z2.2 (.inr z)
      exact ⟨b, w, z1, ⟨(same ne).trans z2.1, z2.2⟩, z3⟩
    | lck d =>
      obtain ⟨b, w, z1, z2, z3⟩ := s
      have ne : b ≠ p := fun z => z2.2 (.inr z)
      exact ⟨b, w, z1, ⟨(same ne).trans z2.1, z2.2⟩, z3⟩

theorem lc_read {L vs : List Nat} {it : IM} {g : D → Rho → Option Rho} {t : TM} {el : VM} (hW : ∀ i ∈ W, i ∈ vs) {σ : St} {H : Hp} {Q : VK} (h : tE X.K (compM vs it g t el) σ H Q) :
    tLc (tI X.K it) (tG X.K W g) (tT X.K t) (tV X.K el) vs σ H Q := by
  obtain ⟨Fr, F, ρ, o, ρ', R, em, k⟩ := h
  unfold compM at em
  split at em
  · rename_i ds lk ρ1 e1
    split at em
    · rename_i hb
      split at em
      · rename_i acc ρ2 e2
        split at em
        · rename_i ρ3 e3
          cases em
          refine ⟨Fr, F, ρ, ds, lk, ρ1, R, e1, fun Fr' F1 H1 J q1 R1 l ok p hp => ?_⟩
          have hFr' : Fr' p = none := R1.fr.free hp
          refine ⟨fun i n H2 => ∃ F2 ρx vacc ac, Same F1 F2 ∧ Rel X.K (Fr'.hide p (.lst vacc)) F2 ρx (wipe σ vs) H2 ∧ Reps X.K F2 vacc ac ∧ i ≤ ds.length ∧ n = ds.length - i ∧ compL vs g t el (ds.drop i) ac ρx = some (acc, ρ2),
            ⟨ds.length, F1, wipeR ρ1 vs, [], [], Same.refl F1, (R1.wipes vs).hide hp, .nil, Nat.zero_le _, rfl, e2⟩, ?_⟩
          rintro i n H2 ⟨F2, ρx, vacc, ac, q2, R2, rs, hle, rfl, e4⟩
          have frS : Same Fr'.h H2 := fun b u z => R2.fr b u ((upd_ne (ne_of_none z hFr')).trans z)
          obtain ⟨item, stop⟩ := ok F2 H2 q2 frS R2.f
          by_cases hlt : i < ds.length
          · rw [List.drop_eq_getElem_cons hlt, compL] at e4
            obtain ⟨go, yl⟩ := item i _ (List.getElem?_eq_getElem hlt)
            refine .inr ⟨go, fun H3 => ∃ F3 ρx vacc ac, Same F1 F3 ∧ Rel X.K (Fr'.hide p (.lst vacc)) F3 ρx (wipe σ vs) H3 ∧ Reps X.K F3 vacc ac ∧ compL vs g t el (ds.drop (i + 1)) ac ρx = some (acc, ρ2),
              fun H3 ⟨F3, ρy, va, ay, z1, z2, z3, z4⟩ => ⟨ds.length - (i + 1), by omega, F3, ρy, va, ay, z1, z2, z3, hlt, rfl, z4⟩, fun x H' y => ?_⟩
            obtain ⟨F3, q3, q4, tr, rx⟩ := yl x H' y
            split at e4
            · rename_i ρ4 e5
              refine ⟨Fr'.hide p (.lst vacc), F3, ρx, _, ρ4, tr _ _ _ R2, rx, e5, fun F4 H4 σ4 q5 R4 k4 => ⟨wipe_keep k4 hW, ?_⟩⟩
              have hw : wipe σ4 vs = wipe σ vs := wipe_keep k4 hW
              split at e4
              · rename_i ρ5 e6
                split at e4
                · rename_i y ρ6 e7
                  split at e4
                  · rename_i hz
                    refine ⟨_, F4, ρ4, _, _, R4, e6, fun F5 H5 q6 R5 => iteT ⟨_, F5, ρ5, _, _, R5, e7, fun F6 H6 yv q7 R6 ry => ?_⟩⟩
                    have rs6 := rs.mono (((q3.trans q5).trans q6).trans q7)
                    refine ⟨vacc, R6.fr p _ upd_same, by rw [rs.length]; exact hz, F6, wipeR ρ6 vs, vacc ++ [yv], ac ++ [y], (((q2.trans q3).trans q5).trans q6).trans q7, ?_, rs6.append (.cons ry .nil), e4⟩
                    rw [← hw]
                    exact (R6.rehide (u := .lst (vacc ++ [yv]))).wipes vs
                  · cases e4
                · cases e4
              · rename_i ρ5 e6
                refine ⟨_, F4, ρ4, _, _, R4, e6, fun F5 H5 q6 R5 => iteF ⟨F5, wipeR ρ5 vs, vacc, ac, ((q2.trans q3).trans q5).trans q6, ?_, rs.mono ((q3.trans q5).trans q6), e4⟩⟩
                rw [← hw]
                exact R5.wipes vs
              · cases e4
            · cases e4
          · have ei : i = ds.length := by omega
            subst ei
            rw [List.drop_length, compL] at e4
            cases e4
            refine .inl ⟨stop, ?_⟩
            have R3 := R1.back hFr' R2 q2 hb
            have hF2 : F2 p = none := R2.dj p _ upd_same
            have w : ORel X.K Fr' F2 (backR ρ1 ρ2 vs) σ H2 (.ref p) (.tmp (.lst acc)) := by
              refine ⟨p, _, rfl, R2.fr p _ upd_same, .lst rs, hF2, hFr', fun i e z1 z2 => ?_⟩
              rw [backR_get] at z1
              by_cases hi : i ∈ vs
              · rw [if_pos hi] at z1
                split at z1
                · have z3 : ρ1[i]?.getD none = some (.own e) := Option.some.inj z1
                  have z4 : ρ1[i]? = some (some (.own e)) := by
                    cases z : ρ1[i]? with
                    | none => rw [z] at z3; cases z3
                    | some w => rw [z] at z3; exact congrArg some z3
                  have := List.all_eq_true.mp hb i hi
                  rw [z4] at this
                  cases this
                · cases z1
              · rw [if_neg hi] at z1
                obtain ⟨v, ev, a, u, rfl, _, _, _, y5⟩ := R2.slot i _ z1
                rw [wipe_get, if_neg hi, z2] at ev
                cases ev
                have y5 : L2.upd Fr'.h p (.lst vacc) p = none := y5
                rw [upd_same] at y5
                cases y5
            exact k F2 H2 _ (q1.trans q2) (l.open q2 R3 (fun _ _ _ => rfl) e3) (l.orel e3 (fun _ _ _ => rfl) w)
        · cases em
      · cases em
    · cases em
  · cases em
theorem oe_comp {elt iter : Expr} {ifs : List Expr} {scope : Scope} {own : List (Str × Nat)} {L : List Nat} {it : IM} {g : D → Rho → Option Rho} {t : TM} {el : EM} (hc : X.calm = true) (hN : X.N.Nodup) (hi : IE X tg iter L it) (ok : BlkOk X.N X.env.scope scope own)
    (hg : ∀ (s : Shared) (H : Hp) (C : Addr) (cl : List (Str × Addr)) (fp : List Addr), GE (X.blk s H scope (compEnvC scope cl C X.env) fp) tg W g)
    (ht : ∀ (s : Shared) (H : Hp) (C : Addr) (cl : List (Str × Addr)) (fp : List Addr), IfE (X.blk s H scope (compEnvC scope cl C X.env) fp) ifs t)
    (he : ∀ (s : Shared) (H : Hp) (C : Addr) (cl : List (Str × Addr)) (fp : List Addr), OE (X.blk s H scope (compEnvC scope cl C X.env) fp) elt el)
    (hW : ∀ i ∈ W, i ∈ own.map (·.2) := by decide) (hs : ∀ x, foldedSetIterable iter X.env x = pure x := by intro _; rfl) : OE X (.ListComp elt [⟨tg, iter, ifs, 0⟩] scope pos) (compM (own.map (·.2)) it g t (esc el)) :=
  ⟨pe_imp (pe_lc hc hN hi.pi ok (fun s H C cl fp => (hg s H C cl fp).pg) (fun s H C cl fp => (ht s H C cl fp).pts) (fun s H C cl fp => (he s H C cl fp).ve.pe) hs) fun σ H Q h => lc_read (L := L) hW h⟩
theorem se_setComp (i : Nat) {y : Str} {py spos : Pos} {elt iter : Expr} {ifs : List Expr} {scope : Scope} {own : List (Str × Nat)} {L : List Nat} {it : IM} {g : D → Rho → Option Rho} {t : TM} {el : EM} (hc : X.calm = true) (hN : X.N.Nodup) (hi : IE X tg iter L it) (ok : BlkOk X.N X.env.scope scope own)
    (hg : ∀ (s : Shared) (H : Hp) (C : Addr) (cl : List (Str × Addr)) (fp : List Addr), GE (X.blk s H scope (compEnvC scope cl C X.env) fp) tg W g)
    (ht : ∀ (s : Shared) (H : Hp) (C : Addr) (cl : List (Str × Addr)) (fp : List Addr), IfE (X.blk s H scope (compEnvC scope cl C X.env) fp) ifs t)
    (he : ∀ (s : Shared) (H : Hp) (C : Addr) (cl : List (Str × Addr)) (fp : List Addr), OE (X.blk s H scope (compEnvC scope cl C X.env) fp) elt el)
    (hsw : swapsWith (.ListComp elt [⟨tg, iter, ifs, 0⟩] scope pos) (some (.Name y py)) spos.line X.env = pure true)
    (hW : ∀ i ∈ W, i ∈ own.map (·.2) := by decide) (hy : X.N[i]? = some y := by rfl) (hyl : X.env.scope.names.lookup y = some .local := by rfl) (hs : ∀ x, foldedSetIterable iter X.env x = pure x := by intro _; rfl) :
    SE X (.Assign [.Name y py] (.ListComp elt [⟨tg, iter, ifs, 0⟩] scope pos) spos) [i] (setM i (compM (own.map (·.2)) it g t (esc el))) :=
  ⟨ps_imp (ps_setLc hc hN hy hyl hsw hi.pi ok (fun s H C cl fp => (hg s H C cl fp).pg) (fun s H C cl fp => (ht s H C cl fp).pts) (fun s H C cl fp => (he s H C cl fp).ve.pe) hs) fun Dn σ H h => setM_ok (fun Q z => lc_read (L := L) hW z) h⟩
end
end Ev

set_option Elab.async false
set_option linter.all false
set_option maxRecDepth 100000
/-! Ev. G: defs and their calls. -/
set_option autoImplicit false
namespace Ev
open PySem PySem.Spec PyProof.Rows L2

/-- a def: from what its parameters hold to what it hands back, and what the parameters that it changes hold then -/
abbrev Fn := List SV → Option (Opd × Rho)
/-- the promise: np parameters -/
def spF (K : PySem.W.Frag) (fn : Fn) (np : Nat) : Sp := fun vs H Q _ => vs.length = np ∧ ∃ (Fr : Frm) (F : Hp) (args : List SV) (o : Opd) (post : Rho), args.length = np ∧ Rel K Fr F (args.map some) (vs.map some) H ∧ fn args = some (o, post) ∧
  ∀ F' H' v, Same F F' → Rel K Fr F' post (vs.map some) H' → ORel K Fr F' post (vs.map some) H' v o → Q v H'

/-! a def by its body -/
@[simp] def keepIO (io : List Nat) (ρ : Rho) : Nat → Rho
  | 0 => []
  | n + 1 => keepIO io ρ n ++ [if n ∈ io then ρ[n]?.getD none else none]
def retF (np : Nat) (io : List Nat) (o : Opd) (ρ : Rho) : Option (Opd × Rho) := match o with
  | .val d => some (.val d, keepIO io ρ np)
  | .tmp d => some (.tmp d, keepIO io ρ np)
  | .var i => match ρ[i]? with
    | some (some (.own d)) => if np ≤ i then some (.tmp d, keepIO io ρ np) else some (.val d, keepIO io (ρ.set i (some (.val d))) np)
    | some (some (.val d)) => some (.val d, keepIO io ρ np)
    | _ => none
def fnM (np nl : Nat) (io : List Nat) (body : SM) : Fn := fun args => match body (args.map some ++ List.replicate nl none) with
  | some (.rt o, ρ) => retF np io o ρ
  | some (.nx, ρ) => some (.val .non, keepIO io ρ np)
  | _ => none
theorem keepIO_len (io : List Nat) (ρ : Rho) : ∀ n : Nat, (keepIO io ρ n).length = n
  | 0 => rfl
  | n + 1 => by rw [keepIO, List.length_append, keepIO_len io ρ n]; rfl
theorem keepIO_get {io : List Nat} {ρ : Rho} {i : Nat} {sv : SV} : ∀ {n : Nat}, (keepIO io ρ n)[i]? = some (some sv) → i ∈ io ∧ i < n ∧ ρ[i]? = some (some sv)
  | 0, h => by simp [keepIO] at h
  | n + 1, h => by
    rw [keepIO] at h
    by_cases hi : i < n
    · rw [List.getElem?_append_left (by rw [keepIO_len]; exact hi)] at h
      obtain ⟨a, b, c⟩ := keepIO_get h
      exact ⟨a, by omega, c⟩
    · rw [List.getElem?_append_right (by rw [keepIO_len]; omega), keepIO_len] at h
      have hl := some_lt h
      simp only [List.length_singleton] at hl
      have e : i = n := by omega
      subst e
      rw [Nat.sub_self] at h
      have h2 : (if i ∈ io then ρ[i]?.getD none else none) = some sv := Option.some.inj h
      by_cases hm : i ∈ io
      · rw [if_pos hm] at h2
        refine ⟨hm, Nat.lt_succ_self i, ?_⟩
        cases z : ρ[i]? with
        | none => rw [z] at h2; cases h2
        | some w => rw [z] at h2; exact congrArg some h2
      · rw [if_neg hm] at h2; cases h2
section
variable {K : PySem.W.Frag} {Fr : Frm} {F H F' H' : Hp} {ρ ρ' : Rho} {σ : St} {v : V} {o : Opd} {d : D}
theorem Rel.pad (R : Rel K Fr F ρ σ H) (hl : ρ.length = σ.length) (n m : Nat) (hnm : n ≤ m) : Rel K Fr F (ρ ++ List.replicate n none) (σ ++ List.replicate m none) H := by
  have q : ∀ {i : Nat} {sv : SV}, (ρ ++ List.replicate n none)[i]? = some (some sv) → ρ[i]? = some (some sv) ∧ (σ ++ List.replicate m none)[i]? = σ[i]? := fun {i sv} e => by
    by_cases hi : i < ρ.length
    · rw [List.getElem?_append_left hi] at e
      exact ⟨e, List.getElem?_append_left (by omega)⟩
    · rw [List.getElem?_append_right (by omega), List.getElem?_replicate] at e
      split at e <;> cases e
  refine ⟨R.fr, R.f, R.dj, fun i sv e => ?_, fun i j s t e1 e2 x1 x2 e3 => ?_, by simp [hl]; omega⟩
  · obtain ⟨e1, e2⟩ := q e; rw [e2]; exact R.slot i sv e1
  · obtain ⟨z1, y1⟩ := q e1
    obtain ⟨z2, y2⟩ := q e2
    rw [y1, y2] at e3
    exact R.uniq i j s t z1 z2 x1 x2 e3
theorem Rel.keepIO (R : Rel K Fr F ρ σ H) {io : List Nat} {n : Nat} {τ : St} (hτ : ∀ i ∈ io, i < n → σ[i]? = τ[i]?) (hl : n ≤ τ.length) : Rel K Fr F (keepIO io ρ n) τ H := by
  refine ⟨R.fr, R.f, R.dj, fun i sv e => ?_, fun i j s t e1 e2 x1 x2 e3 => ?_, by rw [keepIO_len]; exact hl⟩
  · obtain ⟨h1, h2, h3⟩ := keepIO_get e
    rw [← hτ i h1 h2]; exact R.slot i sv h3
  · obtain ⟨h1, h2, h3⟩ := keepIO_get e1
    obtain ⟨g1, g2, g3⟩ := keepIO_get e2
    rw [← hτ i h1 h2, ← hτ j g1 g2] at e3
    exact R.uniq i j s t h3 g3 x1 x2 e3
theorem ORel.keepIO {io : List Nat} {n : Nat} {τ : St} (hτ : ∀ i ∈ io, i < n → σ[i]? = τ[i]?) (r : ORel K Fr F ρ σ H v (.tmp d)) : ORel K Fr F (Ev.keepIO io ρ n) τ H v (.tmp d) := by
  obtain ⟨a, u, e, h1, h2, h3, h4, h5⟩ := r
  refine ⟨a, u, e, h1, h2, h3, h4, fun i e1 e2 => ?_⟩
  obtain ⟨g1, g2, g3⟩ := keepIO_get e2
  rw [← hτ i g1 g2]
  exact h5 i _ g3
end
section
variable {P : Program} {w : World} {K : PySem.W.Frag} {mg : Str → Option Value} {base : Heap}
/-- THE RULE for a def -/
theorem fn_ok {x qual : Str} {st : Stmt} {f : Addr} {fd : FuncData} {N ps : List Str} {k np nl : Nat} {io : List Nat} {m : SM} (Fu : Fun K x qual st f fd) (S : FnScope N ps (defScope st)) (hnp : ps.length = np) (hnl : np + nl = N.length)
    (hbody : ∀ (cdv : Value) (A : Around) (outer : List PySem.Env) (s : Shared) (H : Hp) (E : XK), Room k (A.deeper (envOfC qual (defScope st) s.heap.objs.size f cdv)) →
      ∃ W, (∀ i ∈ io, i ∉ W) ∧ SsE (cxOf CX0 P w K mg base N qual (defScope st) f cdv A outer s H E).nox (defBody st) W m) : FnOk P w K mg base CX0 (k + 1) f fd ps (spF K (fnM np nl io m) np) := by
  refine Fu.ok S (fun vs H Q E h => h.1.trans hnp.symm) (fun cdv A outer s H vs Q E hr h => ?_)
  obtain ⟨W, hio, hb⟩ := hbody cdv A outer s H E hr
  refine ⟨_, hb.pss, ?_⟩
  obtain ⟨hl, Fr, F, args, o, post, ha, R, ef, k⟩ := h
  unfold fnM at ef
  have R0 : Rel K Fr F (args.map some ++ List.replicate nl none) (L2.start N vs) H := by
    unfold L2.start
    exact R.pad (by simp [ha, hl]) _ _ (by omega)
  have gets : ∀ {σ' : St}, Keep W (L2.start N vs) σ' → ∀ i ∈ io, i < np → σ'[i]? = (vs.map some)[i]? := fun kp i hi hn => by
    rw [kp.2 i (hio i hi)]
    unfold L2.start
    rw [List.getElem?_append_left (by simpa [hl] using hn)]
  have lv : np ≤ (vs.map (some : V → Option V)).length := by simp [hl]
  show tS K W m _ (L2.start N vs) H
  split at ef
  · rename_i oo ρ1 e1
    refine ⟨Fr, F, _, _, _, R0, e1, fun F1 H1 σ1 q1 R1 k1 v r => ?_⟩
    have g := gets k1
    unfold retF at ef
    split at ef
    · rename_i d
      cases ef
      exact k F1 H1 v q1 (R1.keepIO g lv) r
    · rename_i d
      cases ef
      exact k F1 H1 v q1 (R1.keepIO g lv) (r.keepIO g)
    · rename_i i
      have r : σ1[i]? = some (some v) := r
      split at ef
      · rename_i d e2
        split at ef
        · rename_i hi
          cases ef
          obtain ⟨v', e3, a, u, ev, h1, h2, h3, h4⟩ := R1.slot i _ e2
          rw [r] at e3; cases e3
          refine k F1 H1 v q1 (R1.keepIO g lv) ⟨a, u, ev, h1, h2, h3, h4, fun j e5 e6 e7 => ?_⟩
          obtain ⟨g1, g2, g3⟩ := keepIO_get e6
          have := R1.uniq i j _ _ e2 g3 rfl rfl (by rw [r, g j g1 g2, e7])
          omega
        · cases ef
          obtain ⟨F2, q2, R2, r2⟩ := R1.escO (o := .var i) (v := v) (d := d) (ρ' := ρ1.set i (some (.val d))) r (by
            unfold escO
            simp only [e2])
          exact k F2 H1 v (q1.trans q2) (R2.keepIO g lv) r2
      · rename_i d e2
        cases ef
        obtain ⟨v', e3, h1⟩ := R1.slot i _ e2
        rw [r] at e3; cases e3
        exact k F1 H1 v q1 (R1.keepIO g lv) h1
      · cases ef
  · rename_i ρ1 e1
    cases ef
    exact ⟨Fr, F, _, _, _, R0, e1, fun F1 H1 σ1 q1 R1 k1 => k F1 H1 .non q1 (R1.keepIO (gets k1) lv) .non⟩
  · cases ef
end

/-! a call -/
def argOne (io : Bool) (o : Opd) (ρ : Rho) : Option SV := match o with
  | .val d => if io then none else some (.val d)
  | .var i => match ρ[i]? with
    | some (some (.val d)) => if io then none else some (.val d)
    | some (some (.own d)) => if io then some (.own d) else some (.bor d)
    | some (some (.bor d)) => if io then none else some (.bor d)
    | some (some (.lck d)) => if io then none else some (.bor d)
    | _ => none
  | .tmp _ => none
def argsAll (io : List Nat) (ρ : Rho) : Nat → List Opd → Option (List SV)
  | _, [] => some []
  | k, o :: os => match argOne (decide (k ∈ io)) o ρ with
    | some s => match argsAll io ρ (k + 1) os with
      | some ss => some (s :: ss)
      | none => none
    | none => none
def putBack (io : List Nat) (post : Rho) : Nat → List Opd → Rho → Option Rho
  | _, [], ρ => some ρ
  | k, o :: os, ρ => if k ∈ io then match o, post[k]? with
      | .var i, some (some (.own d)) => putBack io post (k + 1) os (ρ.set i (some (.own d)))
      | .var i, some (some (.val d)) => putBack io post (k + 1) os (ρ.set i (some (.val d)))
      | _, _ => none
    else putBack io post (k + 1) os ρ
/-- the names at the places of io, at the others -/
@[simp] def varsAt (io : List Nat) (b : Bool) : Nat → List Opd → List Nat
  | _, [] => []
  | k, .var i :: os => if decide (k ∈ io) = b then i :: varsAt io b (k + 1) os else varsAt io b (k + 1) os
  | k, _ :: os => varsAt io b (k + 1) os
@[simp] def nodupB : List Nat → Bool
  | [] => true
  | i :: is => !is.contains i && nodupB is
@[simp] def apartB : List Nat → List Nat → Bool
  | [], _ => true
  | i :: is, js => !js.contains i && apartB is js
@[simp] def exclOk (io : List Nat) (os : List Opd) : Bool := nodupB (varsAt io true 0 os) && apartB (varsAt io true 0 os) (varsAt io false 0 os)
def callM (fn : Fn) (io : List Nat) (am : AM) : EM := fun ρ => match am ρ with
  | some (os, ρ1) => if exclOk io os then match argsAll io ρ1 0 os with
    | some svs => match fn svs with
      | some (.val d, post) => match putBack io post 0 os ρ1 with
        | some ρ2 => some (.val d, ρ2)
        | none => none
      | some (.tmp d, post) => match putBack io post 0 os ρ1 with
        | some ρ2 => some (.tmp d, ρ2)
        | none => none
      | _ => none
    | none => none else none
  | none => none

theorem argsAll_get {io : List Nat} {ρ : Rho} : ∀ {k : Nat} {os : List Opd} {svs : List SV}, argsAll io ρ k os = some svs → svs.length = os.length ∧ ∀ p sv, svs[p]? = some sv → ∃ o, os[p]? = some o ∧ argOne (decide (k + p ∈ io)) o ρ = some sv
  | k, [], svs, h => by
    cases h
    exact ⟨rfl, fun p sv e => by simp at e⟩
  | k, o :: os, svs, h => by
    unfold argsAll at h
    split at h
    · rename_i s e1
      split at h
      · rename_i ss e2
        cases h
        obtain ⟨l, ih⟩ := argsAll_get e2
        refine ⟨by simp [l], fun p sv e => ?_⟩
        cases p with
        | zero => simp at e; subst e; exact ⟨o, rfl, e1⟩
        | succ p =>
          obtain ⟨o', g1, g2⟩ := ih p sv (by simpa using e)
          exact ⟨o', by simpa using g1, by rw [show k + (p + 1) = k + 1 + p by omega]; exact g2⟩
      · cases h
    · cases h
theorem putBack_len {io : List Nat} {post : Rho} : ∀ {k : Nat} {os : List Opd} {ρ ρ' : Rho}, putBack io post k os ρ = some ρ' → ρ'.length = ρ.length
  | k, [], ρ, ρ', h => by cases h; rfl
  | k, o :: os, ρ, ρ', h => by
    unfold putBack at h
    split at h
    · split at h
      · rw [putBack_len h, List.length_set]
      · rw [putBack_len h, List.length_set]
      · cases h
    · exact putBack_len h
theorem putBack_get {io : List Nat} {post : Rho} {i : Nat} {sv : SV} : ∀ {k : Nat} {os : List Opd} {ρ ρ' : Rho}, putBack io post k os ρ = some ρ' → ρ'[i]? = some (some sv) →
    (ρ[i]? = some (some sv) ∧ ∀ p, os[p]? = some (.var i) → k + p ∉ io) ∨ ∃ p, os[p]? = some (.var i) ∧ k + p ∈ io ∧ post[k + p]? = some (some sv) ∧ ((∃ d, sv = .own d) ∨ ∃ d, sv = .val d)
  | k, [], ρ, ρ', h, e => by
    cases h
    exact .inl ⟨e, fun p z => by simp at z⟩
  | k, o :: os, ρ, ρ', h, e => by
    have up : (∃ p, os[p]? = some (.var i) ∧ k + 1 + p ∈ io ∧ post[k + 1 + p]? = some (some sv) ∧ ((∃ d, sv = .own d) ∨ ∃ d, sv = .val d)) →
        ∃ p, (o :: os)[p]? = some (.var i) ∧ k + p ∈ io ∧ post[k + p]? = some (some sv) ∧ ((∃ d, sv = .own d) ∨ ∃ d, sv = .val d) := fun ⟨p, z1, z2, z3, z4⟩ =>
      ⟨p + 1, by simpa using z1, by rw [show k + (p + 1) = k + 1 + p by omega]; exact z2, by rw [show k + (p + 1) = k + 1 + p by omega]; exact z3, z4⟩
    unfold putBack at h
    by_cases hk : k ∈ io
    · rw [if_pos hk] at h
      have go : ∀ (i0 : Nat) (out : SV), o = .var i0 → post[k]? = some (some out) → ((∃ d, out = .own d) ∨ ∃ d, out = .val d) → putBack io post (k + 1) os (ρ.set i0 (some out)) = some ρ' →
          (ρ[i]? = some (some sv) ∧ ∀ p, (o :: os)[p]? = some (.var i) → k + p ∉ io) ∨ ∃ p, (o :: os)[p]? = some (.var i) ∧ k + p ∈ io ∧ post[k + p]? = some (some sv) ∧ ((∃ d, sv = .own d) ∨ ∃ d, sv = .val d) := fun i0 out eo ep eo2 h => by
        rcases putBack_get h e with ⟨z1, z2⟩ | z
        · rcases get_set_some z1 with ⟨rfl, z3, _⟩ | ⟨ne, z3⟩
          · cases z3
            exact .inr ⟨0, by rw [eo]; rfl, hk, ep, eo2⟩
          · refine .inl ⟨z3, fun p hp => ?_⟩
            cases p with
            | zero => simp at hp; rw [eo] at hp; cases hp; exact absurd rfl ne
            | succ p => rw [show k + (p + 1) = k + 1 + p by omega]; exact z2 p (by simpa using hp)
        · exact .inr (up z)
      split at h
      · rename_i i0 d ep; exact go i0 _ rfl ep (.inl ⟨d, rfl⟩) h
      · rename_i i0 d ep; exact go i0 _ rfl ep (.inr ⟨d, rfl⟩) h
      · cases h
    · rw [if_neg hk] at h
      rcases putBack_get h e with ⟨z1, z2⟩ | z
      · refine .inl ⟨z1, fun p hp => ?_⟩
        cases p with
        | zero => exact hk
        | succ p => rw [show k + (p + 1) = k + 1 + p by omega]; exact z2 p (by simpa using hp)
      · exact .inr (up z)
theorem varsAt_mem {io : List Nat} {b : Bool} {i : Nat} : ∀ {k : Nat} {os : List Opd} {p : Nat}, os[p]? = some (.var i) → decide (k + p ∈ io) = b → i ∈ varsAt io b k os
  | k, [], p, h, _ => by simp at h
  | k, o :: os, 0, h, hb => by
    simp at h; subst h
    unfold varsAt
    rw [if_pos (by simpa using hb)]
    exact List.mem_cons_self
  | k, o :: os, p + 1, h, hb => by
    have ih := varsAt_mem (k := k + 1) (os := os) (p := p) (by simpa using h) ((congrArg (fun z => decide (z ∈ io)) (show k + 1 + p = k + (p + 1) by omega)).trans hb)
    cases o with
    | var j =>
      unfold varsAt
      split
      · exact List.mem_cons_of_mem _ ih
      · exact ih
    | val d => exact ih
    | tmp d => exact ih
theorem varsAt_one {io : List Nat} {i : Nat} : ∀ {k : Nat} {os : List Opd} {p q : Nat}, nodupB (varsAt io true k os) = true → os[p]? = some (.var i) → os[q]? = some (.var i) → k + p ∈ io → k + q ∈ io → p = q
  | k, [], p, q, _, h, _, _, _ => by simp at h
  | k, o :: os, p, q, hn, h1, h2, m1, m2 => by
    have step : nodupB (varsAt io true (k + 1) os) = true := by
      cases o with
      | var j =>
        unfold varsAt at hn
        split at hn
        · unfold nodupB at hn; rw [Bool.and_eq_true] at hn; exact hn.2
        · exact hn
      | val d => exact hn
      | tmp d => exact hn
    have no : o = .var i → k ∈ io → ∀ r, os[r]? = some (.var i) → k + 1 + r ∈ io → False := fun e hk r z1 z2 => by
      subst e
      unfold varsAt at hn
      rw [if_pos (by simpa using hk)] at hn
      unfold nodupB at hn
      rw [Bool.and_eq_true] at hn
      have := varsAt_mem (io := io) (b := true) (k := k + 1) z1 (by simpa using z2)
      simp [this] at hn
    cases p with
    | zero =>
      cases q with
      | zero => rfl
      | succ q => exact (no (by simpa using h1) m1 q (by simpa using h2) (by rw [show k + 1 + q = k + (q + 1) by omega]; exact m2)).elim
    | succ p =>
      cases q with
      | zero => exact (no (by simpa using h2) m2 p (by simpa using h1) (by rw [show k + 1 + p = k + (p + 1) by omega]; exact m1)).elim
      | succ q =>
        exact congrArg (· + 1) (varsAt_one step (by simpa using h1) (by simpa using h2) (by rw [show k + 1 + p = k + (p + 1) by omega]; exact m1) (by rw [show k + 1 + q = k + (q + 1) by omega]; exact m2))
theorem apartB_of : ∀ {is js : List Nat} {i : Nat}, apartB is js = true → i ∈ is → i ∈ js → False
  | [], _, _, _, h, _ => by simp at h
  | j :: is, js, i, h, h1, h2 => by
    unfold apartB at h
    rw [Bool.and_eq_true] at h
    rcases List.mem_cons.mp h1 with rfl | h1
    · simp [h2] at h
    · exact apartB_of h.2 h1 h2
theorem excl_of {io : List Nat} {os : List Opd} (h : exclOk io os = true) {p q i : Nat} (hp : p ∈ io) (e1 : os[p]? = some (.var i)) (e2 : os[q]? = some (.var i)) : p = q := by
  unfold exclOk at h
  rw [Bool.and_eq_true] at h
  by_cases hq : q ∈ io
  · exact varsAt_one h.1 e1 e2 (by rw [Nat.zero_add]; exact hp) (by rw [Nat.zero_add]; exact hq)
  · exact (apartB_of h.2 (varsAt_mem e1 (by rw [Nat.zero_add]; simpa using hp)) (varsAt_mem e2 (by rw [Nat.zero_add]; simpa using hq))).elim

section
open Classical in
/-- the caller's own objects that the callee is not given to change -/
noncomputable def callFr (Fr : Frm) (ρ : Rho) (σ : St) (H : Hp) (ios : Nat → Prop) : Frm :=
  ⟨fun b => match Fr.h b with
    | some o => some o
    | none => if ∃ i d, ρ[i]? = some (some (.own d)) ∧ ¬ ios i ∧ σ[i]? = some (some (.ref b)) then H b else none, fun _ => False, fun _ h => h.elim⟩
variable {K : PySem.W.Frag} {Fr : Frm} {F H : Hp} {ρ : Rho} {σ : St} {ios : Nat → Prop}
theorem callFr_fr {b : Addr} {o : HO} (h : Fr b = some o) : (callFr Fr ρ σ H ios) b = some o := by
  show (match Fr.h b with | some o => some o | none => _) = some o
  rw [h]
theorem callFr_some (R : Rel K Fr F ρ σ H) {b : Addr} {o : HO} (h : (callFr Fr ρ σ H ios) b = some o) : H b = some o ∧ F b = none := by
  unfold callFr at h
  dsimp only at h
  split at h
  · rename_i u e
    cases h
    exact ⟨R.fr _ _ e, R.dj _ _ e⟩
  · split at h
    · rename_i e hc
      obtain ⟨i, d, e1, _, e2⟩ := hc
      obtain ⟨v, e3, a, u, ev, h1, h2, h3, h4⟩ := R.slot i _ e1
      rw [e2] at e3
      have : v = .ref b := (Option.some.inj (Option.some.inj e3)).symm
      rw [this] at ev
      cases ev
      exact ⟨h, h3⟩
    · cases h
theorem callFr_own {i : Nat} {d : D} {b : Addr} (e : ρ[i]? = some (some (.own d))) (hi : ¬ ios i) (hs : σ[i]? = some (some (.ref b))) (hF : Fr b = none) : (callFr Fr ρ σ H ios) b = H b := by
  show (match Fr.h b with | some o => some o | none => _) = H b
  rw [hF]
  exact if_pos ⟨i, d, e, hi, hs⟩
theorem callFr_io (R : Rel K Fr F ρ σ H) {i : Nat} {d : D} {b : Addr} (e : ρ[i]? = some (some (.own d))) (hi : ios i) (hs : σ[i]? = some (some (.ref b))) (hF : Fr b = none) : (callFr Fr ρ σ H ios) b = none := by
  show (match Fr.h b with | some o => some o | none => _) = none
  rw [hF]
  refine if_neg fun ⟨j, d', e1, e2, e3⟩ => ?_
  have := R.uniq i j _ _ e e1 rfl rfl (by rw [hs, e3])
  subst this
  exact e2 hi
end

section
variable {X : Cx} {e : Expr} {es : List Expr} {am : AM} {fn : Fn} {io : List Nat} {np k : Nat}
theorem nrel_get {K : PySem.W.Frag} {F : Hp} {σ : St} : ∀ {vs : List V} {os : List Opd} {p : Nat} {o : Opd}, NRels K F σ vs os → os[p]? = some o → ∃ v, vs[p]? = some v ∧ NRel K F σ v o
  | _, _, _, _, .nil, e => by simp at e
  | _, _, 0, _, .cons h _, e => by simp at e; subst e; exact ⟨_, rfl, h⟩
  | _, _, p + 1, o, .cons _ r, e => by
    obtain ⟨v, h1, h2⟩ := nrel_get (p := p) (o := o) r (by simpa using e)
    exact ⟨v, by simpa using h1, h2⟩
theorem call_core {σ : St} {H1 : Hp} {Q : VK} {E : XK} {Fr : Frm} {F1 : Hp} {ρ1 ρ' : Rho} {os : List Opd} {vs : List V} {svs : List SV} {o : Opd} {post : Rho} (R1 : Rel X.K Fr F1 ρ1 σ H1) (rs : NRels X.K F1 σ vs os) (hlen : os.length = np) (hx : exclOk io os = true) (e2 : argsAll io ρ1 0 os = some svs)
    (e3 : fn svs = some (o, post)) (hvar : ∀ i, o ≠ .var i) (e4 : putBack io post 0 os ρ1 = some ρ') (kk : ∀ F' H' v, Same F1 F' → Rel X.K Fr F' ρ' σ H' → ORel X.K Fr F' ρ' σ H' v o → Q v H') : spF X.K fn np vs H1 Q E := by
  have hvl : vs.length = os.length := Paired.length rs
  obtain ⟨svl, sget⟩ := argsAll_get e2
  let ios : Nat → Prop := fun i => ∃ p, p ∈ io ∧ os[p]? = some (.var i)
  -- a position's operand and value
  have opd : ∀ {p : Nat} {sv : SV}, svs[p]? = some sv → ∃ o v, os[p]? = some o ∧ vs[p]? = some v ∧ NRel X.K F1 σ v o ∧ argOne (decide (p ∈ io)) o ρ1 = some sv := fun {p sv} z => by
    obtain ⟨o, g1, g2⟩ := sget p sv z
    obtain ⟨v, g3, g4⟩ := nrel_get rs g1
    exact ⟨o, v, g1, g3, g4, by rw [Nat.zero_add] at g2; exact g2⟩
  -- an object handed over: its name
  have obj : ∀ {p : Nat} {sv : SV}, svs[p]? = some sv → sv.ob = true → ∃ i v t, os[p]? = some (.var i) ∧ vs[p]? = some v ∧ σ[i]? = some (some v) ∧ ρ1[i]? = some (some t) ∧ t.ob = true ∧ (sv.ex = true → t.ex = true ∧ p ∈ io ∧ ∃ d, t = .own d ∧ sv = .own d) ∧ (sv.ex = false → p ∉ io ∧ sv = .bor t.d) := fun {p sv} z hob => by
    obtain ⟨o, v, g1, g2, g3, g4⟩ := opd z
    cases o with
    | val d =>
      unfold argOne at g4
      dsimp only at g4
      split at g4
      · cases g4
      · cases g4; cases hob
    | tmp d => cases g4
    | var i =>
      unfold argOne at g4
      dsimp only at g4
      by_cases hp : p ∈ io
      · simp only [hp, decide_true, if_true] at g4
        split at g4
        · cases g4
        · rename_i d e5; cases g4; exact ⟨i, v, _, g1, g2, g3, e5, rfl, fun _ => ⟨rfl, hp, d, rfl, rfl⟩, fun z => by cases z⟩
        · cases g4
        · cases g4
        · cases g4
      · simp only [hp, decide_false, Bool.false_eq_true, if_false] at g4
        split at g4
        · cases g4; cases hob
        · rename_i d e5; cases g4; exact ⟨i, v, _, g1, g2, g3, e5, rfl, fun z => (by cases z), fun _ => ⟨hp, rfl⟩⟩
        · rename_i d e5; cases g4; exact ⟨i, v, _, g1, g2, g3, e5, rfl, fun z => (by cases z), fun _ => ⟨hp, rfl⟩⟩
        · rename_i d e5; cases g4; exact ⟨i, v, _, g1, g2, g3, e5, rfl, fun z => (by cases z), fun _ => ⟨hp, rfl⟩⟩
        · cases g4
  have R2 : Rel X.K (callFr Fr ρ1 σ H1 ios) F1 (svs.map some) (vs.map some) H1 := by
    have un : ∀ {p : Nat} {sv : SV}, (svs.map some)[p]? = some (some sv) → svs[p]? = some sv := fun {p sv} z => by
      rw [List.getElem?_map] at z
      cases y : svs[p]? with
      | none => rw [y] at z; cases z
      | some s => rw [y] at z; exact Option.some.inj z
    refine ⟨fun b u z => (callFr_some R1 z).1, R1.f, fun b u z => (callFr_some R1 z).2, fun p sv z => ?_, fun p q s t z1 z2 x1 x2 z3 => ?_, by simp [svl, hvl]⟩
    · have z' := un z
      obtain ⟨o, v, g1, g2, g3, g4⟩ := opd z'
      refine ⟨v, by rw [List.getElem?_map, g2]; rfl, ?_⟩
      by_cases hob : sv.ob = true
      · obtain ⟨i, v', t, y1, y2, y3, y4, y5, y6, y7⟩ := obj z' hob
        rw [g2] at y2; cases y2
        obtain ⟨v2, e5, s⟩ := R1.slot i t y4
        rw [y3] at e5; cases e5
        by_cases hex : sv.ex = true
        · obtain ⟨_, hp, d, rfl, rfl⟩ := y6 hex
          obtain ⟨a, u, ev, h1, h2, h3, h4⟩ := s
          exact ⟨a, u, ev, h1, h2, h3, callFr_io R1 y4 ⟨p, hp, y1⟩ (by rw [y3, ev]) h4⟩
        · obtain ⟨hp, rfl⟩ := y7 (by simpa using hex)
          cases t with
          | val d => cases y5
          | own d =>
            obtain ⟨a, u, ev, h1, h2, h3, h4⟩ := s
            refine ⟨a, u, ev, ⟨?_, fun z => z⟩, h2⟩
            rw [callFr_own y4 (fun ⟨p', hp', y'⟩ => hp (by rw [← excl_of hx hp' y' y1]; exact hp')) (by rw [y3, ev]) h4]
            exact h1
          | bor d => obtain ⟨a, u, ev, h1, h2⟩ := s; exact ⟨a, u, ev, ⟨callFr_fr h1.1, fun z => z⟩, h2⟩
          | lck d => obtain ⟨a, u, ev, h1, h2⟩ := s; exact ⟨a, u, ev, ⟨callFr_fr h1.1, fun z => z⟩, h2⟩
      · cases sv with
        | own d => exact absurd rfl hob
        | bor d => exact absurd rfl hob
        | lck d => exact absurd rfl hob
        | val d =>
          cases o with
          | val d' =>
            unfold argOne at g4
            dsimp only at g4
            split at g4
            · cases g4
            · cases g4; exact g3
          | tmp d' => cases g4
          | var i =>
            obtain ⟨vv, e5, s⟩ : ∃ vv, σ[i]? = some (some vv) ∧ Rep X.K F1 vv d := by
              unfold argOne at g4
              dsimp only at g4
              split at g4
              · rename_i d' e5
                split at g4
                · cases g4
                · cases g4; exact R1.slot i _ e5
              · split at g4 <;> cases g4
              · split at g4 <;> cases g4
              · split at g4 <;> cases g4
              · cases g4
            have g3 : σ[i]? = some (some v) := g3
            rw [g3] at e5; cases e5
            exact s
    · have z1' := un z1
      have z2' := un z2
      have hob1 : s.ob = true := by cases s <;> first | rfl | cases x1
      obtain ⟨i, v1, t1, y1, y2, y3, y4, y5, y6, _⟩ := obj z1' hob1
      obtain ⟨j, v2, t2, w1, w2, w3, w4, w5, _, _⟩ := obj z2' x2
      obtain ⟨hex, hp, _⟩ := y6 x1
      have e5 : v1 = v2 := by
        rw [List.getElem?_map, List.getElem?_map, y2, w2] at z3
        exact Option.some.inj (Option.some.inj z3)
      subst e5
      have := R1.uniq i j t1 t2 y4 w4 hex w5 (by rw [y3, w3])
      subst this
      exact excl_of hx hp y1 w1
  refine ⟨by rw [hvl, hlen], callFr Fr ρ1 σ H1 ios, F1, svs, o, post, by rw [svl, hlen], R2, e3, fun F2 H2 v q2 R3 r => ?_⟩
  have vget : ∀ {p i : Nat}, os[p]? = some (.var i) → σ[i]? = (vs.map some)[p]? := fun {p i} z => by
    obtain ⟨v, g1, g2⟩ := nrel_get rs z
    rw [List.getElem?_map, g1]
    exact g2
  -- what stood at a changed name before
  have was : ∀ {p i : Nat}, p ∈ io → os[p]? = some (.var i) → ∃ d, ρ1[i]? = some (some (.own d)) := fun {p i} hp z => by
    obtain ⟨sv, g1⟩ : ∃ sv, svs[p]? = some sv := ⟨svs[p]'(by rw [svl]; exact some_lt z), List.getElem?_eq_getElem _⟩
    obtain ⟨o', v', g2, g3, g4, g5⟩ := opd g1
    rw [z] at g2; cases g2
    unfold argOne at g5
    dsimp only at g5
    simp only [hp, decide_true, if_true] at g5
    split at g5
    · cases g5
    · rename_i d e5; exact ⟨d, e5⟩
    · cases g5
    · cases g5
    · cases g5
  have R4 : Rel X.K Fr F2 ρ' σ H2 := by
    refine ⟨fun b u z => R3.fr b u (callFr_fr z), R3.f, fun b u z => R3.dj b u (callFr_fr z), fun i sv z => ?_, fun i j s t z1 z2 x1 x2 z3 => ?_, by rw [putBack_len e4]; exact R1.len⟩
    · rcases putBack_get e4 z with ⟨z1, z2⟩ | ⟨p, z1, z2, z3, z4⟩
      · obtain ⟨v, e5, s⟩ := R1.slot i sv z1
        refine ⟨v, e5, ?_⟩
        cases sv with
        | val d => exact Rep.mono q2 s
        | bor d => obtain ⟨a, u, ev, h1, h2⟩ := s; exact ⟨a, u, ev, h1, h2.mono q2⟩
        | lck d => obtain ⟨a, u, ev, h1, h2⟩ := s; exact ⟨a, u, ev, h1, h2.mono q2⟩
        | own d =>
          obtain ⟨a, u, ev, h1, h2, h3, h4⟩ := s
          have hf : (callFr Fr ρ1 σ H1 ios) a = some u := by
            rw [callFr_own z1 (fun ⟨p', hp', y'⟩ => z2 p' y' (by rw [Nat.zero_add]; exact hp')) (by rw [e5, ev]) h4]
            exact h1
          exact ⟨a, u, ev, R3.fr _ _ hf, h2.mono q2, R3.dj _ _ hf, h4⟩
      · rw [Nat.zero_add] at z2 z3
        obtain ⟨v, e5, s⟩ := R3.slot p sv z3
        refine ⟨v, by rw [vget z1]; exact e5, ?_⟩
        rcases z4 with ⟨d, rfl⟩ | ⟨d, rfl⟩
        · obtain ⟨a, u, ev, h1, h2, h3, h4⟩ := s
          refine ⟨a, u, ev, h1, h2, h3, ?_⟩
          cases y : Fr.h a with
          | none => rfl
          | some u' => rw [callFr_fr y] at h4; cases h4
        · exact s
    · have old : ∀ {i : Nat} {s : SV}, ρ'[i]? = some (some s) → ∃ t, ρ1[i]? = some (some t) ∧ (s.ex = true → t.ex = true) ∧ (s.ob = true → t.ob = true) := fun {i s} z => by
        rcases putBack_get e4 z with ⟨z1, _⟩ | ⟨p, z1, z2, z3, z4⟩
        · exact ⟨s, z1, id, id⟩
        · rw [Nat.zero_add] at z2
          obtain ⟨d, e5⟩ := was z2 z1
          exact ⟨_, e5, fun _ => rfl, fun _ => rfl⟩
      obtain ⟨t1, g1, g2, _⟩ := old z1
      obtain ⟨t2, g3, _, g4⟩ := old z2
      exact R1.uniq i j t1 t2 g1 g3 (g2 x1) (g4 x2) z3
  refine kk F2 H2 v q2 R4 ?_
  cases o with
  | val d => exact r
  | var i => exact absurd rfl (hvar i)
  | tmp d =>
    obtain ⟨a, u, ev, h1, h2, h3, h4, h5⟩ := r
    have hFr : Fr a = none := by
      cases y : Fr.h a with
      | none => rfl
      | some u' => rw [callFr_fr y] at h4; cases h4
    refine ⟨a, u, ev, h1, h2, h3, hFr, fun i d' z z5 => ?_⟩
    rcases putBack_get e4 z with ⟨z1, z2⟩ | ⟨p, z1, z2, z3, z4⟩
    · obtain ⟨v', e5, b, u', ev', y1, y2, y3, y4⟩ := R1.slot i _ z1
      rw [z5] at e5
      have : v' = v := (Option.some.inj (Option.some.inj e5)).symm
      rw [this, ev] at ev'
      cases ev'
      rw [callFr_own z1 (fun ⟨p', hp', y'⟩ => z2 p' y' (by rw [Nat.zero_add]; exact hp')) (by rw [z5, ev]) y4, y1] at h4
      cases h4
    · rw [Nat.zero_add] at z2 z3
      exact h5 p d' z3 (by rw [← vget z1]; exact z5)
theorem call_read {σ : St} {H : Hp} {Q : VK} {E : XK} (h : tE X.K (callM fn io am) σ H Q) (hn : ∀ ρ os ρ', am ρ = some (os, ρ') → os.length = np) : tCall (spF X.K fn np) [] E (tA X.K am) σ H Q := by
  obtain ⟨Fr, F, ρ, o, ρ', R, em, kk⟩ := h
  unfold callM at em
  split at em
  · rename_i os ρ1 e1
    split at em
    · rename_i hx
      split at em
      · rename_i svs e2
        have main : ∀ (o : Opd) (post : Rho), fn svs = some (o, post) → (∀ i, o ≠ .var i) → putBack io post 0 os ρ1 = some ρ' → (∀ F' H' v, Same F F' → Rel X.K Fr F' ρ' σ H' → ORel X.K Fr F' ρ' σ H' v o → Q v H') →
            tCall (spF X.K fn np) [] E (tA X.K am) σ H Q := fun o post e3 hvar e4 kk => by
          refine ⟨Fr, F, ρ, os, ρ1, R, e1, fun F1 H1 vs q1 R1 rs => ?_⟩
          dsimp only
          rw [List.append_nil]
          exact call_core R1 rs (hn _ _ _ e1) hx e2 e3 hvar e4 fun F2 H2 v q2 R4 r => kk F2 H2 v (q1.trans q2) R4 r
        split at em
        · rename_i d post e3
          split at em
          · rename_i ρ2 e4
            cases em
            exact main _ post e3 (fun i z => nomatch z) e4 kk
          · cases em
        · rename_i d post e3
          split at em
          · rename_i ρ2 e4
            cases em
            exact main _ post e3 (fun i z => nomatch z) e4 kk
          · cases em
        · cases em
      · cases em
    · cases em
  · cases em
/-- how many operands -/
theorem nilA_len {ρ ρ' : Rho} {os : List Opd} (h : nilA ρ = some (os, ρ')) : os.length = 0 := by cases h; rfl
theorem consA_len {n : Nat} {m : EM} {r : AM} (hr : ∀ ρ os ρ', r ρ = some (os, ρ') → os.length = n) : ∀ ρ os ρ', consA m r ρ = some (os, ρ') → os.length = n + 1 := fun ρ os ρ' h => by
  unfold consA at h
  split at h
  · split at h
    · rename_i e; cases h; simp [hr _ _ _ e]
    · cases h
  · cases h
theorem oe_call {f : Addr} {fd : FuncData} {ps : List Str} {x : Str} {p pos : Pos} (Fo : FnOk X.prog X.w X.K X.mg X.base CX0 k f fd ps (spF X.K fn np)) (hr : Room k X.A) (hm : X.mg x = some (.ref f)) (hk : PySem.W.keepIn X.K (.ref f) = true) (hb : Binds X.K fd ps [])
    (ha : AE X (e :: es) am) (hn : ∀ ρ os ρ', am ρ = some (os, ρ') → os.length = np) (hg : Gl X x := by rfl) (hdb : (x == ("__debug__" : Str)) = false := by decide) (he : starEach (e :: es) X.env = (false, eval e X.env) :: starEach es X.env := by rfl) (hpl : (backTo pos (starEach es X.env)).any (·.1) = false := by rfl) :
    OE X (.Call (.Name x p) (e :: es) [] pos) (callM fn io am) :=
  ⟨pe_imp (pe_call Fo hr hg hm hk hb .nil pass0 ha.pa hdb he hpl) fun σ H Q h => call_read h hn⟩
/-- a def that a caller may call -/
structure Callee (P : Program) (w : World) (K : PySem.W.Frag) (mg : Str → Option Value) (base : Heap) (k : Nat) (x : Str) (np : Nat) (fn : Fn) : Prop where
  ex : ∃ f fd ps, FnOk P w K mg base CX0 k f fd ps (spF K fn np) ∧ mg x = some (.ref f) ∧ PySem.W.keepIn K (.ref f) = true ∧ Binds K fd ps []
theorem oe_callC {x : Str} {p pos : Pos} (c : Callee X.prog X.w X.K X.mg X.base k x np fn) (hr : Room k X.A) (ha : AE X (e :: es) am) (hn : ∀ ρ os ρ', am ρ = some (os, ρ') → os.length = np) (hg : Gl X x := by rfl) (hdb : (x == ("__debug__" : Str)) = false := by decide)
    (he : starEach (e :: es) X.env = (false, eval e X.env) :: starEach es X.env := by rfl) (hpl : (backTo pos (starEach es X.env)).any (·.1) = false := by rfl) : OE X (.Call (.Name x p) (e :: es) [] pos) (callM fn io am) := by
  obtain ⟨f, fd, ps, F, hm, hk, hb⟩ := c.ex
  exact oe_call F hr hm hk hb ha hn hg hdb he hpl
theorem room64 {k : Nat} {A : Around} (r : Room k A) : A.units + 64 < cLine := by have := r.un; omega
end
end Ev

set_option Elab.async false
set_option linter.all false
set_option maxRecDepth 100000
/-! Ev. H: built-ins, methods of lists. -/
set_option autoImplicit false
namespace Ev
open PySem PySem.Spec PyProof.Rows L2

abbrev Viws (K : PySem.W.Frag) (F H : Hp) : List V → List D → Prop := Paired (Viw K F H)
def CalS (X : Cx) (r : List V → Hp → VK → Prop) (g : List D → Option Opd) : Prop :=
  ∀ {Fr : Frm} {F H : Hp} {ρ : Rho} {σ : St} {vs : List V} {ds : List D} {o : Opd} {Q : VK}, Rel X.K Fr F ρ σ H → Viws X.K F H vs ds → g ds = some o → After X.K Fr F ρ σ o Q → r vs H Q
def biM (g : List D → Option Opd) (am : AM) : EM := fun ρ => match am ρ with
  | some (os, ρ') => match looks os ρ' with
    | some ds => match g ds with
      | some o => some (o, ρ')
      | none => none
    | none => none
  | none => none
theorem looks_viw {K : PySem.W.Frag} {Fr : Frm} {F H : Hp} {ρ : Rho} {σ : St} (R : Rel K Fr F ρ σ H) : ∀ {vs : List V} {os : List Opd} {ds : List D}, NRels K F σ vs os → looks os ρ = some ds → Viws K F H vs ds
  | _, _, _, .nil, e => by cases e; exact .nil
  | _, _, _, .cons h r, e => by
    unfold looks at e
    split at e
    · rename_i d e1
      split at e
      · rename_i ds e2
        cases e
        exact .cons (NRel.look R h e1) (looks_viw R r e2)
      · cases e
    · cases e
theorem bi_read {X : Cx} {r : List V → Hp → VK → Prop} {g : List D → Option Opd} {am : AM} (hs : CalS X r g) {σ : St} {H : Hp} {Q : VK} (h : tE X.K (biM g am) σ H Q) : tCB r (tA X.K am) σ H Q := by
  obtain ⟨Fr, F, ρ, o, ρ', R, em, k⟩ := h
  unfold biM at em
  split at em
  · rename_i os ρ1 e1
    split at em
    · rename_i ds e2
      split at em
      · rename_i o' e3
        cases em
        exact ⟨Fr, F, ρ, _, _, R, e1, fun F1 H1 vs q1 R1 rs => hs R1 (looks_viw R1 rs e2) e3 fun F2 H2 v q2 R2 r2 => k F2 H2 v (q1.trans q2) R2 r2⟩
      · cases em
    · cases em
  · cases em
section
variable {X : Cx} {x : Str} {p pos : Pos} {e : Expr} {es : List Expr} {id T : String} {r : List V → Hp → VK → Prop} {g : List D → Option Opd} {am : AM}
theorem oe_bi (hc : CallR X (.builtin id) r) (hs : CalS X r g) (ha : AE X (e :: es) am) (hm : X.mg x = none) (hv : bootBuiltins x = some (.builtin id)) (hg : Gl X x := by rfl) (hn : x ≠ "__name__" := by decide) (hdb : (x == ("__debug__" : Str)) = false := by decide)
    (he : starEach (e :: es) X.env = (false, eval e X.env) :: starEach es X.env := by rfl) (hpl : (backTo pos (starEach es X.env)).any (·.1) = false := by rfl) : OE X (.Call (.Name x p) (e :: es) [] pos) (biM g am) :=
  ⟨pe_imp (pe_callB hc hg hm hv ha.pa hn hdb he hpl) fun _ _ _ => bi_read hs⟩
theorem oe_ty (hc : CallR X (.type T) r) (hs : CalS X r g) (ha : AE X (e :: es) am) (hm : X.mg x = none) (hv : bootBuiltins x = some (.type T)) (hg : Gl X x := by rfl) (hn : x ≠ "__name__" := by decide) (hdb : (x == ("__debug__" : Str)) = false := by decide)
    (he : starEach (e :: es) X.env = (false, eval e X.env) :: starEach es X.env := by rfl) (hpl : (backTo pos (starEach es X.env)).any (·.1) = false := by rfl) : OE X (.Call (.Name x p) (e :: es) [] pos) (biM g am) :=
  ⟨pe_imp (pe_callTy hc hg hm hv ha.pa hn hdb he hpl) fun _ _ _ => bi_read hs⟩
end
theorem vw1 {K : PySem.W.Frag} {F H : Hp} {vs : List V} {d : D} (h : Viws K F H vs [d]) : ∃ v, vs = [v] ∧ Viw K F H v d := by
  cases h with
  | cons h r => cases r; exact ⟨_, rfl, h⟩
theorem vw2 {K : PySem.W.Frag} {F H : Hp} {vs : List V} {d e : D} (h : Viws K F H vs [d, e]) : ∃ v w, vs = [v, w] ∧ Viw K F H v d ∧ Viw K F H w e := by
  cases h with
  | cons h r =>
    cases r with
    | cons h2 r => cases r; exact ⟨_, _, rfl, h, h2⟩

/-! ints and truth values out of items -/
def intsOf : List D → Option (List Int)
  | [] => some []
  | .int i :: ds => match intsOf ds with
    | some is => some (i :: is)
    | none => none
  | _ :: _ => none
def bolsOf : List D → Option (List Bool)
  | [] => some []
  | .bl i :: ds => match bolsOf ds with
    | some is => some (i :: is)
    | none => none
  | _ :: _ => none
theorem intsOf_eq : ∀ {ds : List D} {ns : List Int}, intsOf ds = some ns → ds = ns.map D.int
  | [], ns, h => by cases h; rfl
  | d :: ds, ns, h => by
    unfold intsOf at h
    split at h
    · rename_i z; cases z
    · rename_i i ds' z
      cases z
      split at h
      · rename_i is e; cases h; rw [intsOf_eq e]; rfl
      · cases h
    · cases h
theorem bolsOf_eq : ∀ {ds : List D} {ns : List Bool}, bolsOf ds = some ns → ds = ns.map D.bl
  | [], ns, h => by cases h; rfl
  | d :: ds, ns, h => by
    unfold bolsOf at h
    split at h
    · rename_i z; cases z
    · rename_i i ds' z
      cases z
      split at h
      · rename_i is e; cases h; rw [bolsOf_eq e]; rfl
      · cases h
    · cases h
theorem intsOf_map : ∀ ns : List Int, intsOf (ns.map D.int) = some ns
  | [] => rfl
  | n :: ns => by simp [intsOf, intsOf_map ns]
theorem bolsOf_map : ∀ ns : List Bool, bolsOf (ns.map D.bl) = some ns
  | [] => rfl
  | n :: ns => by simp [bolsOf, bolsOf_map ns]
/-- the items of a list (no tuple) -/
def listD : D → Option (List D)
  | .lst xs => some xs
  | .rol xs => some xs
  | _ => none
theorem Viw.list {K : PySem.W.Frag} {F H : Hp} {v : V} {d : D} {ds : List D} (s : Same F H) (h : Viw K F H v d) (e : listD d = some ds) : ∃ a vs, v = .ref a ∧ SqL K H a vs ∧ Reps K F vs ds := by
  cases d <;> cases e
  · obtain ⟨a, vs, e1, q, r⟩ := h.lst s; exact ⟨a, vs, e1, SqL.of q, r⟩
  · obtain ⟨a, vs, e1, q, r⟩ := h.rol s; exact ⟨a, vs, e1, q, r⟩

section
variable {X : Cx}
/-- len -/
def lenG : List D → Option Opd
  | [.str s] => if s.length ≤ sizeLine then some (.val (.int s.length)) else none
  | [d] => match seqD d with
    | some ds => some (.val (.int ds.length))
    | none => none
  | _ => none
theorem cs_len : CalS X (fun xs H Q => ∃ x n, xs = [x] ∧ LenV X.K x H n ∧ Q (.int n) H) lenG := by
  intro Fr F H ρ σ vs ds o Q R hv g k
  unfold lenG at g
  split at g
  · rename_i s
    split at g
    · rename_i hs
      cases g
      obtain ⟨v, rfl, w⟩ := vw1 hv
      cases w.str
      exact ⟨_, s.length, rfl, ⟨hs, rfl⟩, after_val R (.int _) k⟩
    · cases g
  · split at g
    · rename_i d hne ds' e
      cases g
      obtain ⟨v, rfl, w⟩ := vw1 hv
      obtain ⟨a, vs, rfl, q, r⟩ := w.seq R.f e
      refine ⟨_, ds'.length, rfl, ?_, after_val R (.int _) k⟩
      rcases q with q | q
      · exact .inl ⟨vs, q, r.length.symm⟩
      · exact .inr ⟨vs, q, r.length.symm⟩
    · cases g
  · cases g
/-- int(n), int(a truth value) -/
def intFG : List D → Option Opd
  | [.int i] => some (.val (.int i))
  | [.bl b] => some (.val (.int (if b then 1 else 0)))
  | _ => none
theorem cs_int : CalS X (fun xs H Q => (∃ i, xs = [.int i] ∧ Q (.int i) H) ∨ ∃ k, xs = [.bl k] ∧ Q (.int (if k then 1 else 0)) H) intFG := by
  intro Fr F H ρ σ vs ds o Q R hv g k
  unfold intFG at g
  split at g
  · rename_i i
    cases g
    obtain ⟨v, rfl, w⟩ := vw1 hv
    cases w.int
    exact .inl ⟨i, rfl, after_val R (.int _) k⟩
  · rename_i b
    cases g
    obtain ⟨v, rfl, w⟩ := vw1 hv
    cases w.bl
    exact .inr ⟨b, rfl, after_val R (.int _) k⟩
  · cases g
/-- abs, and of two ints min, max -/
def absG : List D → Option Opd
  | [.int i] => some (.val (.int (if i < 0 then -i else i)))
  | _ => none
theorem cs_abs : CalS X (fun xs H Q => ∃ i, xs = [.int i] ∧ Q (.int (if i < 0 then -i else i)) H) absG := by
  intro Fr F H ρ σ vs ds o Q R hv g k
  unfold absG at g
  split at g
  · rename_i i
    cases g
    obtain ⟨v, rfl, w⟩ := vw1 hv
    cases w.int
    exact ⟨i, rfl, after_val R (.int _) k⟩
  · cases g
/-- sum, any, all, max, min of a list -/
def sumG : List D → Option Opd
  | [d] => match listD d with
    | some ds => match intsOf ds with
      | some ns => some (.val (.int ns.sum))
      | none => none
    | none => none
  | _ => none
theorem cs_sum : CalS X (rSum X.K) sumG := by
  intro Fr F H ρ σ vs ds o Q R hv g k
  unfold sumG at g
  split at g
  · rename_i d
    split at g
    · rename_i ds' e1
      split at g
      · rename_i ns e2
        cases g
        obtain ⟨v, rfl, w⟩ := vw1 hv
        obtain ⟨a, vs, rfl, q, r⟩ := w.list R.f e1
        rw [intsOf_eq e2] at r
        rw [r.ints] at q
        exact ⟨a, ns, rfl, q, after_val R (.int _) k⟩
      · cases g
    · cases g
  · cases g
def boolsG (f : List Bool → Bool) : List D → Option Opd
  | [d] => match listD d with
    | some ds => match bolsOf ds with
      | some ns => some (.val (.bl (f ns)))
      | none => none
    | none => none
  | _ => none
abbrev anyG := boolsG fun bs => bs.any id
abbrev allG := boolsG fun bs => bs.all id
theorem cs_any : CalS X (rAny X.K) anyG := by
  intro Fr F H ρ σ vs ds o Q R hv g k
  unfold anyG boolsG at g
  split at g
  · rename_i d
    split at g
    · rename_i ds' e1
      split at g
      · rename_i ns e2
        cases g
        obtain ⟨v, rfl, w⟩ := vw1 hv
        obtain ⟨a, vs, rfl, q, r⟩ := w.list R.f e1
        rw [bolsOf_eq e2] at r
        rw [r.bls] at q
        exact ⟨a, ns, rfl, q, after_val R (.bl _) k⟩
      · cases g
    · cases g
  · cases g
theorem cs_all : CalS X (rAll X.K) allG := by
  intro Fr F H ρ σ vs ds o Q R hv g k
  unfold allG boolsG at g
  split at g
  · rename_i d
    split at g
    · rename_i ds' e1
      split at g
      · rename_i ns e2
        cases g
        obtain ⟨v, rfl, w⟩ := vw1 hv
        obtain ⟨a, vs, rfl, q, r⟩ := w.list R.f e1
        rw [bolsOf_eq e2] at r
        rw [r.bls] at q
        exact ⟨a, ns, rfl, q, after_val R (.bl _) k⟩
      · cases g
    · cases g
  · cases g
def maxI : List Int → Option Int
  | [] => none
  | n :: ns => some (ns.foldl max n)
def minI : List Int → Option Int
  | [] => none
  | n :: ns => some (ns.foldl min n)
theorem foldl_max : ∀ (ns : List Int) (n : Int), n ≤ ns.foldl max n ∧ (∀ x ∈ ns, x ≤ ns.foldl max n) ∧ (ns.foldl max n = n ∨ ns.foldl max n ∈ ns)
  | [], n => ⟨Int.le_refl _, fun x h => (by cases h), .inl rfl⟩
  | m :: ns, n => by
    obtain ⟨h1, h2, h3⟩ := foldl_max ns (max n m)
    have hn : n ≤ max n m := by omega
    have hm : m ≤ max n m := by omega
    refine ⟨Int.le_trans hn h1, fun x hx => ?_, ?_⟩
    · rcases List.mem_cons.mp hx with rfl | hx
      · exact Int.le_trans hm h1
      · exact h2 x hx
    · rcases h3 with h3 | h3
      · rw [List.foldl_cons, h3]
        by_cases q : n ≤ m
        · right; rw [show max n m = m by omega]; exact List.mem_cons_self
        · left; omega
      · exact .inr (List.mem_cons_of_mem _ h3)
theorem foldl_min : ∀ (ns : List Int) (n : Int), ns.foldl min n ≤ n ∧ (∀ x ∈ ns, ns.foldl min n ≤ x) ∧ (ns.foldl min n = n ∨ ns.foldl min n ∈ ns)
  | [], n => ⟨Int.le_refl _, fun x h => (by cases h), .inl rfl⟩
  | m :: ns, n => by
    obtain ⟨h1, h2, h3⟩ := foldl_min ns (min n m)
    have hn : min n m ≤ n := by omega
    have hm : min n m ≤ m := by omega
    refine ⟨Int.le_trans h1 hn, fun x hx => ?_, ?_⟩
    · rcases List.mem_cons.mp hx with rfl | hx
      · exact Int.le_trans h1 hm
      · exact h2 x hx
    · rcases h3 with h3 | h3
      · rw [List.foldl_cons, h3]
        by_cases q : n ≤ m
        · left; omega
        · right; rw [show min n m = m by omega]; exact List.mem_cons_self
      · exact .inr (List.mem_cons_of_mem _ h3)
theorem maxI_spec {ns : List Int} {m : Int} (h : maxI ns = some m) : m ∈ ns ∧ ∀ x ∈ ns, x ≤ m := by
  cases ns with
  | nil => cases h
  | cons n ns =>
    cases h
    obtain ⟨h1, h2, h3⟩ := foldl_max ns n
    refine ⟨?_, fun x hx => ?_⟩
    · rcases h3 with h3 | h3
      · rw [h3]; exact List.mem_cons_self
      · exact List.mem_cons_of_mem _ h3
    · rcases List.mem_cons.mp hx with rfl | hx
      · exact h1
      · exact h2 x hx
theorem minI_spec {ns : List Int} {m : Int} (h : minI ns = some m) : m ∈ ns ∧ ∀ x ∈ ns, m ≤ x := by
  cases ns with
  | nil => cases h
  | cons n ns =>
    cases h
    obtain ⟨h1, h2, h3⟩ := foldl_min ns n
    refine ⟨?_, fun x hx => ?_⟩
    · rcases h3 with h3 | h3
      · rw [h3]; exact List.mem_cons_self
      · exact List.mem_cons_of_mem _ h3
    · rcases List.mem_cons.mp hx with rfl | hx
      · exact h1
      · exact h2 x hx
def extG (f : List Int → Option Int) : List D → Option Opd
  | [d] => match listD d with
    | some ds => match intsOf ds with
      | some ns => match f ns with
        | some m => some (.val (.int m))
        | none => none
      | none => none
    | none => none
  | _ => none
abbrev maxG := extG maxI
abbrev minG := extG minI
theorem cs_max : CalS X (rMax X.K) maxG := by
  intro Fr F H ρ σ vs ds o Q R hv g k
  unfold maxG extG at g
  split at g
  · rename_i d
    split at g
    · rename_i ds' e1
      split at g
      · rename_i ns e2
        split at g
        · rename_i m e3
          cases g
          obtain ⟨v, rfl, w⟩ := vw1 hv
          obtain ⟨a, vs, rfl, q, r⟩ := w.list R.f e1
          rw [intsOf_eq e2] at r
          rw [r.ints] at q
          obtain ⟨z1, z2⟩ := maxI_spec e3
          refine ⟨a, ns, rfl, q, List.length_pos_of_mem z1, fun m' h1 h2 => ?_⟩
          have : m' = m := Int.le_antisymm (z2 _ h1) (h2 _ z1)
          subst this
          exact after_val R (.int _) k
        · cases g
      · cases g
    · cases g
  · cases g
theorem cs_min : CalS X (rMin X.K) minG := by
  intro Fr F H ρ σ vs ds o Q R hv g k
  unfold minG extG at g
  split at g
  · rename_i d
    split at g
    · rename_i ds' e1
      split at g
      · rename_i ns e2
        split at g
        · rename_i m e3
          cases g
          obtain ⟨v, rfl, w⟩ := vw1 hv
          obtain ⟨a, vs, rfl, q, r⟩ := w.list R.f e1
          rw [intsOf_eq e2] at r
          rw [r.ints] at q
          obtain ⟨z1, z2⟩ := minI_spec e3
          refine ⟨a, ns, rfl, q, List.length_pos_of_mem z1, fun m' h1 h2 => ?_⟩
          have : m' = m := Int.le_antisymm (h2 _ z1) (z2 _ h1)
          subst this
          exact after_val R (.int _) k
        · cases g
      · cases g
    · cases g
  · cases g
/-- list(xs), tuple(xs) -/
def listG : List D → Option Opd
  | [d] => match seqD d with
    | some ds => some (.tmp (.lst ds))
    | none => none
  | _ => none
theorem cs_list : CalS X (fun xs H Q => ∃ p ys, xs = [.ref p] ∧ (SqL X.K H p ys ∨ SqT X.K H p ys) ∧ ∀ l, H l = none → Q (.ref l) (upd H l (.lst ys))) listG := by
  intro Fr F H ρ σ vs ds o Q R hv g k
  unfold listG at g
  split at g
  · split at g
    · rename_i ds' e
      cases g
      obtain ⟨v, rfl, w⟩ := vw1 hv
      obtain ⟨a, vs, rfl, q, r⟩ := w.seq R.f e
      exact ⟨a, vs, rfl, q, fun l hl => after_new R hl r k⟩
    · cases g
  · cases g
def tupleG : List D → Option Opd
  | [d] => match seqD d with
    | some ds => some (.val (.tup ds))
    | none => none
  | _ => none
theorem cs_tuple : CalS X (fun xs H Q => ∃ p ys, xs = [.ref p] ∧ ((SqL X.K H p ys ∧ ∀ l, H l = none → Q (.ref l) (upd H l (.tup ys))) ∨ (SqT X.K H p ys ∧ Q (.ref p) H))) tupleG := by
  intro Fr F H ρ σ vs ds o Q R hv g k
  unfold tupleG at g
  split at g
  · rename_i d
    split at g
    · rename_i ds' e
      cases g
      obtain ⟨v, rfl, w⟩ := vw1 hv
      cases d <;> cases e
      · have hx0 : Rep X.K F v (.tup ds') := by
          rcases w with z | ⟨a, o, e1, h1, h2⟩
          · exact z
          · cases h2
        obtain ⟨a, vs, rfl, q, r⟩ := w.tup R.f
        exact ⟨a, vs, rfl, .inr ⟨q, after_val R hx0 k⟩⟩
      · obtain ⟨a, vs, rfl, q, r⟩ := w.lst R.f
        exact ⟨a, vs, rfl, .inl ⟨SqL.of q, fun l hl => after_tup R hl r k⟩⟩
      · obtain ⟨a, vs, rfl, q, r⟩ := w.rol R.f
        exact ⟨a, vs, rfl, .inl ⟨q, fun l hl => after_tup R hl r k⟩⟩
    · cases g
  · cases g
variable {e : Expr} {es : List Expr} {am : AM} {m ma mb : EM} {p pos : Pos} {a b : Expr}
theorem oe_len (ha : AE X [e] am) (hm : X.mg "len" = none) (hg : Gl X "len" := by rfl) (he : starEach [e] X.env = (false, eval e X.env) :: starEach [] X.env := by rfl) : OE X (.Call (.Name "len" p) [e] [] pos) (biM lenG am) := oe_bi call_len cs_len ha hm PySem.boot_len hg (by decide) (by decide) he
theorem oe_int_ (ha : AE X [e] am) (hm : X.mg "int" = none) (hg : Gl X "int" := by rfl) (he : starEach [e] X.env = (false, eval e X.env) :: starEach [] X.env := by rfl) : OE X (.Call (.Name "int" p) [e] [] pos) (biM intFG am) := oe_ty call_int1 cs_int ha hm (by decide +kernel) hg (by decide) (by decide) he
theorem oe_abs (ha : AE X [e] am) (hm : X.mg "abs" = none) (hg : Gl X "abs" := by rfl) (he : starEach [e] X.env = (false, eval e X.env) :: starEach [] X.env := by rfl) : OE X (.Call (.Name "abs" p) [e] [] pos) (biM absG am) := oe_bi call_abs cs_abs ha hm (by decide +kernel) hg (by decide) (by decide) he
theorem oe_sum (hc : X.calm = true) (ha : AE X [e] am) (hm : X.mg "sum" = none) (hg : Gl X "sum" := by rfl) (he : starEach [e] X.env = (false, eval e X.env) :: starEach [] X.env := by rfl) : OE X (.Call (.Name "sum" p) [e] [] pos) (biM sumG am) := oe_bi (cr_sum hc) cs_sum ha hm (by decide +kernel) hg (by decide) (by decide) he
theorem oe_any (hc : X.calm = true) (ha : AE X [e] am) (hm : X.mg "any" = none) (hg : Gl X "any" := by rfl) (he : starEach [e] X.env = (false, eval e X.env) :: starEach [] X.env := by rfl) : OE X (.Call (.Name "any" p) [e] [] pos) (biM anyG am) := oe_bi (cr_any hc) cs_any ha hm (by decide +kernel) hg (by decide) (by decide) he
theorem oe_all (hc : X.calm = true) (ha : AE X [e] am) (hm : X.mg "all" = none) (hg : Gl X "all" := by rfl) (he : starEach [e] X.env = (false, eval e X.env) :: starEach [] X.env := by rfl) : OE X (.Call (.Name "all" p) [e] [] pos) (biM allG am) := oe_bi (cr_all hc) cs_all ha hm (by decide +kernel) hg (by decide) (by decide) he
theorem oe_max (hc : X.calm = true) (ha : AE X [e] am) (hm : X.mg "max" = none) (hg : Gl X "max" := by rfl) (he : starEach [e] X.env = (false, eval e X.env) :: starEach [] X.env := by rfl) : OE X (.Call (.Name "max" p) [e] [] pos) (biM maxG am) := oe_bi (cr_max hc) cs_max ha hm (by decide +kernel) hg (by decide) (by decide) he
theorem oe_min (hc : X.calm = true) (ha : AE X [e] am) (hm : X.mg "min" = none) (hg : Gl X "min" := by rfl) (he : starEach [e] X.env = (false, eval e X.env) :: starEach [] X.env := by rfl) : OE X (.Call (.Name "min" p) [e] [] pos) (biM minG am) := oe_bi (cr_min hc) cs_min ha hm (by decide +kernel) hg (by decide) (by decide) he
theorem oe_list (ha : AE X [e] am) (hm : X.mg "list" = none) (hg : Gl X "list" := by rfl) (he : starEach [e] X.env = (false, eval e X.env) :: starEach [] X.env := by rfl) : OE X (.Call (.Name "list" p) [e] [] pos) (biM listG am) := oe_ty call_list_of cs_list ha hm (by decide +kernel) hg (by decide) (by decide) he
theorem oe_tuple (ha : AE X [e] am) (hm : X.mg "tuple" = none) (hg : Gl X "tuple" := by rfl) (he : starEach [e] X.env = (false, eval e X.env) :: starEach [] X.env := by rfl) : OE X (.Call (.Name "tuple" p) [e] [] pos) (biM tupleG am) := oe_ty call_tuple_of cs_tuple ha hm (by decide +kernel) hg (by decide) (by decide) he

/-! isinstance, by the written types -/
def tyD : D → String
  | .non => "NoneType"
  | .bl _ => "bool"
  | .int _ => "int"
  | .str _ => "str"
  | .tup _ => "tuple"
  | .lst _ => "list"
  | .rol _ => "list"
  | .ins _ _ _ => ""
  | .dct _ _ => "dict"
def isIns : D → Bool
  | .ins _ _ _ => true
  | _ => false
theorem tyX_sqT {K : PySem.W.Frag} {H : Hp} {a : Addr} {vs : List V} (h : SqT K H a vs) : TyX K H (.ref a) (.type "tuple") := by
  rcases h with (h | ⟨o, h⟩) | ⟨o, _, _, h, c, _⟩
  · exact .base (.tup h)
  · exact .fTuple h
  · exact .kTuple h c
theorem tyX_sqL {K : PySem.W.Frag} {H : Hp} {a : Addr} {vs : List V} (h : SqL K H a vs) : TyX K H (.ref a) (.type "list") := by
  rcases h with (h | ⟨o, h⟩) | ⟨o, _, _, h, c, _⟩
  · exact .base (.lst h)
  · exact .base (.frz h)
  · exact .kList h c
theorem Viw.ty {K : PySem.W.Frag} {F H : Hp} {v : V} {d : D} (s : Same F H) (h : Viw K F H v d) (hi : isIns d = false) : TyX K H v (.type (tyD d)) := by
  cases d with
  | ins C ks ds => cases hi
  | dct ks ds => rcases h with h | ⟨a, o, e1, h1, h2⟩
                 · cases h with
                   | dct h l r => exact .base (.dK (s _ _ h))
                 · cases h2 with
                   | dct l r => subst e1; exact .base (.dK h1)
  | non => cases h.non; exact .base .non
  | bl b => cases h.bl; exact .base (.bl b)
  | int i => cases h.int; exact .base (.int i)
  | str x => cases h.str; exact .base (.str x)
  | tup xs => obtain ⟨a, vs, rfl, q, r⟩ := h.tup s; exact tyX_sqT q
  | lst xs => obtain ⟨a, vs, rfl, q, r⟩ := h.lst s; exact tyX_sqL (SqL.of q)
  | rol xs => obtain ⟨a, vs, rfl, q, r⟩ := h.rol s; exact tyX_sqL q
def isiAny (t : String) : List String → Option Bool
  | [] => some false
  | T :: Ts => match kitB t T with
    | some true => some true
    | some false => isiAny t Ts
    | none => none
theorem isi_kit {K : PySem.W.Frag} {t : String} : ∀ {Ts : List String} {b : Bool}, isiAny t Ts = some b → PySem.W.kitAny K (.type t) (Ts.map Value.type) = some b
  | [], b, h => by cases h; rfl
  | T :: Ts, b, h => by
    unfold isiAny at h
    split at h
    · rename_i e; cases h; exact kitAny_cons (b := true) (kit_ty e) (fun z => nomatch z) (fun _ => rfl)
    · rename_i e; exact kitAny_cons (b := false) (kit_ty e) (fun _ => isi_kit h) (fun z => nomatch z)
    · cases h
def isiD (Ts : List String) (d : D) : Option Bool := if isIns d = true then none else isiAny (tyD d) Ts
theorem isiD_some {Ts : List String} {d : D} {b : Bool} (h : isiD Ts d = some b) : isIns d = false ∧ isiAny (tyD d) Ts = some b := by
  unfold isiD at h
  split at h
  · cases h
  · rename_i z; exact ⟨by simpa using z, h⟩
def isiM (Ts : List String) (m : EM) : EM := fun ρ => match frz m ρ with
  | some (o, ρ') => match look o ρ' with
    | some d => match isiD Ts d with
      | some b => some (.val (.bl b), ρ')
      | none => none
    | none => none
  | none => none
theorem isiM_some {Ts : List String} {ρ ρ' : Rho} {o : Opd} (h : isiM Ts m ρ = some (o, ρ')) : ∃ o' d b, frz m ρ = some (o', ρ') ∧ look o' ρ' = some d ∧ isiD Ts d = some b ∧ o = .val (.bl b) := by
  unfold isiM at h
  split at h
  · split at h
    · split at h
      · cases h; exact ⟨_, _, _, by assumption, by assumption, by assumption, rfl⟩
      · cases h
    · cases h
  · cases h
theorem pe_type {T : String} {x : Str} {p : Pos} (hg : Gl X x) (hm : X.mg x = none) (hv : bootBuiltins x = some (.type T)) (hn : x ≠ "__name__" := by decide) (hd : (x == ("__debug__" : Str)) = false := by decide) : PE X (.Name x p) (tC (.ty T)) := pe_bltn hg hm hv rfl hn hd
theorem oe_isi1 {T : String} {x : Str} {p2 : Pos} (ha : OE X a m) (hm : X.mg "isinstance" = none) (hm2 : X.mg x = none) (hv : bootBuiltins x = some (.type T)) (hg2 : Gl X x := by rfl) (hg : Gl X "isinstance" := by rfl) (hn : x ≠ "__name__" := by decide) (hd : (x == ("__debug__" : Str)) = false := by decide)
    (s1 : starEach [a, .Name x p2] X.env = (false, eval a X.env) :: starEach [.Name x p2] X.env := by rfl) (s2 : starEach [.Name x p2] X.env = (false, eval (.Name x p2) X.env) :: starEach [] X.env := by rfl)
    (hpl : (backTo pos (starEach [.Name x p2] X.env)).any (·.1) = false := by rfl) : OE X (.Call (.Name "isinstance" p) [a, .Name x p2] [] pos) (isiM [T] m) := by
  refine ⟨pe_imp (pe_callB call_isi hg hm (by decide +kernel) (pa_cons ha.ne.pe (pa_cons (pe_type hg2 hm2 hv hn hd) pa_nil s2) s1) (by decide) (by decide) s1 hpl) fun σ H Q ⟨Fr, F, ρ, o, ρ', R, em, k⟩ => ?_⟩
  obtain ⟨o', d, b, e1, e2, e3, rfl⟩ := isiM_some em
  obtain ⟨e0, e3⟩ := isiD_some e3
  refine ⟨Fr, F, ρ, _, _, R, e1, fun F1 H1 v q1 R1 r => ?_⟩
  have e4 : PySem.W.kitOne X.K (.type (tyD d)) (.type T) = some b := by
    unfold isiAny at e3
    split at e3
    · rename_i e; cases e3; exact kit_ty e
    · rename_i e; cases e3; exact kit_ty e
    · cases e3
  exact ⟨v, .ty T, .type (tyD d), .type T, b, rfl, .ty T, (r.look R1 e2).ty R1.f e0, e4, k F1 H1 _ q1 R1 (.bl b)⟩
theorem oe_isi2 {T T2 : String} {x x2 : Str} {p2 p3 tp : Pos} {k0} (ha : OE X a m) (hm : X.mg "isinstance" = none) (hm2 : X.mg x = none) (hv : bootBuiltins x = some (.type T)) (hm3 : X.mg x2 = none) (hv3 : bootBuiltins x2 = some (.type T2)) (hg2 : Gl X x := by rfl) (hg3 : Gl X x2 := by rfl) (hg : Gl X "isinstance" := by rfl)
    (hn : x ≠ "__name__" := by decide) (hd : (x == ("__debug__" : Str)) = false := by decide) (hn3 : x2 ≠ "__name__" := by decide) (hd3 : (x2 == ("__debug__" : Str)) = false := by decide)
    (s1 : starEach [a, .Tuple [.Name x p2, .Name x2 p3] k0 tp] X.env = (false, eval a X.env) :: starEach [.Tuple [.Name x p2, .Name x2 p3] k0 tp] X.env := by rfl) (s2 : starEach [.Tuple [.Name x p2, .Name x2 p3] k0 tp] X.env = (false, eval (.Tuple [.Name x p2, .Name x2 p3] k0 tp) X.env) :: starEach [] X.env := by rfl)
    (s3 : starEach [.Name x p2, .Name x2 p3] X.env = (false, eval (.Name x p2) X.env) :: starEach [.Name x2 p3] X.env := by rfl) (s4 : starEach [.Name x2 p3] X.env = (false, eval (.Name x2 p3) X.env) :: starEach [] X.env := by rfl)
    (hpl : (backTo pos (starEach [.Tuple [.Name x p2, .Name x2 p3] k0 tp] X.env)).any (·.1) = false := by rfl) : OE X (.Call (.Name "isinstance" p) [a, .Tuple [.Name x p2, .Name x2 p3] k0 tp] [] pos) (isiM [T, T2] m) := by
  refine ⟨pe_imp (pe_callB call_isiT hg hm (by decide +kernel) (pa_cons ha.ne.pe (pa_cons (pe_tup (pa_cons (pe_type hg2 hm2 hv hn hd) (pa_cons (pe_type hg3 hm3 hv3 hn3 hd3) pa_nil s4) s3)) pa_nil s2) s1) (by decide) (by decide) s1 hpl) fun σ H Q ⟨Fr, F, ρ, o, ρ', R, em, k⟩ => ?_⟩
  obtain ⟨o', d, b, e1, e2, e3, rfl⟩ := isiM_some em
  obtain ⟨e0, e3⟩ := isiD_some e3
  refine ⟨Fr, F, ρ, _, _, R, e1, fun F1 H1 v q1 R1 r => ⟨by show 2 ≤ sizeLine; decide, fun q hq => ?_⟩⟩
  obtain ⟨R2, s2⟩ := R1.new (.tup [.ty T, .ty T2]) hq
  exact ⟨v, q, [.ty T, .ty T2], .type (tyD d), [.type T, .type T2], b, rfl, upd_same, .cons (.ty T) (.cons (.ty T2) .nil), ((r.mono s2).look R2 e2).ty R2.f e0, isi_kit (Ts := [T, T2]) e3, k _ _ _ (q1.trans s2) R2 (.bl b)⟩

/-! x in xs, flat items -/
def flatD : D → Bool
  | .non => true
  | .bl _ => true
  | .int _ => true
  | .str _ => true
  | _ => false
def eqF : D → D → Bool
  | .non, .non => true
  | .bl a, .bl b => a == b
  | .bl a, .int b => (if a then 1 else 0) == b
  | .int a, .bl b => a == (if b then 1 else 0)
  | .int a, .int b => a == b
  | .str a, .str b => a == b
  | _, _ => false
def inF (d : D) (ds : List D) : Bool := ds.any fun e => eqF e d
def inG (neg : Bool) (d e : D) : Option Opd := match seqD e with
  | some ds => if flatD d && ds.all flatD then some (.val (.bl (if neg then !inF d ds else inF d ds))) else none
  | none => none
theorem flat_v {K : PySem.W.Frag} {F : Hp} {v : V} {d : D} (h : Rep K F v d) (f : flatD d = true) : flatV v = true := by
  cases h <;> first | rfl | cases f
theorem eq_v {K : PySem.W.Frag} {F : Hp} {v w : V} {d e : D} (h : Rep K F v d) (g : Rep K F w e) (f : flatD d = true) (f2 : flatD e = true) : eqV v w = eqF d e := by
  cases h <;> cases g <;> first | rfl | exact nomatch f | exact nomatch f2
theorem in_v {K : PySem.W.Frag} {F : Hp} {v : V} {d : D} (h : Rep K F v d) (f : flatD d = true) : ∀ {vs : List V} {ds : List D}, Reps K F vs ds → ds.all flatD = true → vs.all flatV = true ∧ inV v vs = inF d ds
  | _, _, .nil, _ => ⟨rfl, rfl⟩
  | _, _, .cons g r, z => by
    rw [List.all_cons, Bool.and_eq_true] at z
    obtain ⟨h1, h2⟩ := in_v h f r z.2
    refine ⟨by rw [List.all_cons, flat_v g z.1, h1]; rfl, ?_⟩
    unfold inV inF at h2 ⊢
    rw [List.any_cons, List.any_cons, eq_v g h z.1 f, h2]
theorem ops_in (neg : Bool) : OpS X (rIn X.K neg) (inG neg) := by
  intro Fr F H ρ σ x y d e o Q R hx hy g k
  unfold inG at g
  split at g
  · rename_i ds e1
    split at g
    · rename_i z
      cases g
      rw [Bool.and_eq_true] at z
      obtain ⟨a, vs, rfl, q, r⟩ := hy.seq R.f e1
      have hx0 : Rep X.K F x d := by
        rcases hx with z' | ⟨a, o, e1, h1, h2⟩
        · exact z'
        · cases h2 <;> cases z.1
      obtain ⟨h1, h2⟩ := in_v hx0 z.1 r z.2
      refine ⟨a, vs, rfl, q, flat_v hx0 z.1, h1, ?_⟩
      rw [h2]
      exact after_val R (.bl _) k
    · cases g
  · cases g
theorem oe_in (ha : OE X a ma) (hb : OE X b mb) (hm : behindInMarks .In b = false := by rfl) : OE X (.Compare a [.In] [b] pos) (binM (inG false) ma mb) := oe_cmp op_in_seq (ops_in false) ha hb hm
theorem oe_nin (ha : OE X a ma) (hb : OE X b mb) (hm : behindInMarks .NotIn b = false := by rfl) : OE X (.Compare a [.NotIn] [b] pos) (binM (inG true) ma mb) := oe_cmp op_notIn_seq (ops_in true) ha hb hm
theorem te_in (ha : OE X a ma) (hb : OE X b mb) (hm : behindInMarks .In b = false := by rfl) : TeE X (.Compare a [.In] [b] pos) (boolM (binM (inG false) ma mb)) := te_cmp op_in_seq (ops_in false) ha hb hm
theorem te_nin (ha : OE X a ma) (hb : OE X b mb) (hm : behindInMarks .NotIn b = false := by rfl) : TeE X (.Compare a [.NotIn] [b] pos) (boolM (binM (inG true) ma mb)) := te_cmp op_notIn_seq (ops_in true) ha hb hm
/-- is of truth values -/
def isBG (neg : Bool) : D → D → Option Opd
  | .bl a, .bl b => some (.val (.bl (if neg then !decide (a = b) else decide (a = b))))
  | _, _ => none
theorem ops_isB : OpS X rIsB (isBG false) := by
  intro Fr F H ρ σ x y d e o Q R hx hy g k
  unfold isBG at g
  split at g
  · rename_i a b
    cases g
    cases hx.bl
    cases hy.bl
    exact ⟨a, b, rfl, rfl, after_val R (.bl _) k⟩
  · cases g
theorem oe_isB (ha : OE X a ma) (hb : OE X b mb) : OE X (.Compare a [.Is] [b] pos) (binM (isBG false) ma mb) := oe_cmp op_isBl ops_isB ha hb (nomark _)
theorem te_isB (ha : OE X a ma) (hb : OE X b mb) : TeE X (.Compare a [.Is] [b] pos) (boolM (binM (isBG false) ma mb)) := te_cmp op_isBl ops_isB ha hb (nomark _)

/-! methods of a name's own list -/
def methM (i : Nat) (dm : DM) (g : List D → List D → Option (List D × D)) : EM := fun ρ => match ρ[i]? with
  | some (some (.own (.lst _))) => match dm ρ with
    | some (as, ρ') => match ρ'[i]? with
      | some (some (.own (.lst ds))) => match g ds as with
        | some (ds2, r) => some (.val r, ρ'.set i (some (.own (.lst ds2))))
        | none => none
      | _ => none
    | none => none
  | _ => none
/-- r asks of a list and values what g gives -/
def MetS (K : PySem.W.Frag) (r : V → List V → Hp → VK → Prop) (g : List D → List D → Option (List D × D)) : Prop :=
  ∀ {F H : Hp} {a : Addr} {vs ws : List V} {ds as ds2 : List D} {d : D} {Q : VK}, H a = some (.lst vs) → Same F H → F a = none → Reps K F vs ds → Reps K F ws as → g ds as = some (ds2, d) →
    (∀ v vs2, Rep K F v d → Reps K F vs2 ds2 → Q v (upd H a (.lst vs2))) → r (.ref a) ws H Q
theorem meth_read {i : Nat} {dm : DM} {g : List D → List D → Option (List D × D)} {r : V → List V → Hp → VK → Prop} (hs : MetS X.K r g) {σ : St} {H : Hp} {Q : VK} (h : tE X.K (methM i dm g) σ H Q) :
    ∃ v, σ[i]? = some (some v) ∧ tyV X.K "list" v H ∧ tD X.K dm σ H fun xs H2 => r v xs H2 Q := by
  obtain ⟨Fr, F, ρ, o, ρ', R, em, k⟩ := h
  unfold methM at em
  split at em
  · rename_i ds0 e0
    split at em
    · rename_i as ρ1 e1
      split at em
      · rename_i ds e2
        split at em
        · rename_i ds2 rr e3
          cases em
          obtain ⟨u, eu, a, o, rfl, h1, h2, _⟩ := R.slot i _ e0
          cases h2 with
          | lst rs0 =>
            refine ⟨_, eu, .inl ⟨rfl, _, SqL.of h1⟩, Fr, F, ρ, _, _, R, e1, fun F1 H1 ws q1 R1 rw' => ?_⟩
            obtain ⟨u', eu', a', o', ea, g1, g2, g3, g4⟩ := R1.slot i _ e2
            rw [eu] at eu'; cases eu'
            cases ea
            cases g2 with
            | lst rs =>
              refine hs g1 R1.f g3 rs rw' e3 fun v vs2 rv rs2 => ?_
              exact k F1 _ v q1 (R1.mut e2 eu (.lst rs2)) rv
        · cases em
      · cases em
    · cases em
  · cases em
variable {x name : Str} {px apos cpos : Pos} {dm : DM} {g : List D → List D → Option (List D × D)} {r : V → List V → Hp → VK → Prop} {id : String}
theorem oe_meth (i : Nat) (slot : PySem.Slot "list" name id) (hty : typeOf (.builtin id) = pure (.type "method_descriptor")) (hm : MtR X id r) (hs : MetS X.K r g) (hd : DE X (e :: es) dm)
    (hN : X.N[i]? = some x := by rfl) (hv : Vis X.env.scope x := by first | exact Or.inl rfl | exact Or.inr (Or.inl rfl) | exact Or.inr (Or.inr rfl)) (hdb : (x == ("__debug__" : Str)) = false := by decide) (hcd : (x == ("__classdict__" : Str)) = false := by decide)
    (hbase : attributeBase (.Name x px) name X.env (eval (.Name x px) X.env) = eval (.Name x px) X.env := by rfl)
    (hfew : ((backTo cpos (starEach (e :: es) X.env)).all (fun x => !x.1) && (backToKw cpos (keywordEach [] X.env)).all (fun x => x.1.isSome)
      && decide ((e :: es).length + ([] : List Keyword).length + (if ([] : List Keyword).isEmpty then 0 else 1) < 30)) = true := by rfl)
    (hline : (apos.endLine == cpos.line) = true := by rfl) (hst : starEach (e :: es) X.env = (false, eval e X.env) :: starEach es X.env := by rfl) (hplain : (backTo cpos (starEach es X.env)).any (·.1) = false := by rfl) :
    OE X (.Call (.Attribute (.Name x px) name apos) (e :: es) [] cpos) (methM i dm g) :=
  ⟨pe_imp (pe_bm PySem.F.plainAttrs_list slot hty hm (pe_var hN hv hdb hcd) hd.pa hbase hfew hline hst hplain) fun σ H Q h => meth_read hs h⟩
theorem oe_meth0 (i : Nat) (slot : PySem.Slot "list" name id) (hty : typeOf (.builtin id) = pure (.type "method_descriptor")) (hm : MtR X id r) (hs : MetS X.K r g)
    (hN : X.N[i]? = some x := by rfl) (hv : Vis X.env.scope x := by first | exact Or.inl rfl | exact Or.inr (Or.inl rfl) | exact Or.inr (Or.inr rfl)) (hdb : (x == ("__debug__" : Str)) = false := by decide) (hcd : (x == ("__classdict__" : Str)) = false := by decide)
    (hbase : attributeBase (.Name x px) name X.env (eval (.Name x px) X.env) = eval (.Name x px) X.env := by rfl) (hline : (apos.endLine == cpos.line) = true := by rfl) :
    OE X (.Call (.Attribute (.Name x px) name apos) [] [] cpos) (methM i nilD g) := by
  refine ⟨pe_imp (pe_bm0 PySem.F.plainAttrs_list slot hty hm (pe_var hN hv hdb hcd) hbase hline) fun σ H Q h => ?_⟩
  obtain ⟨Fr, F, ρ, o, ρ', R, em, k⟩ := h
  unfold methM nilD at em
  split at em
  · rename_i ds0 e0
    dsimp only at em
    rw [e0] at em
    dsimp only at em
    split at em
    · rename_i ds2 rr e3
      cases em
      obtain ⟨u, eu, a, o, rfl, h1, h2, h3, _⟩ := R.slot i _ e0
      cases h2 with
      | lst rs =>
        refine ⟨_, eu, .inl ⟨rfl, _, SqL.of h1⟩, ?_⟩
        exact hs h1 R.f h3 rs .nil e3 fun v vs2 rv rs2 => k F _ v (Same.refl F) (R.mut e0 eu (.lst rs2)) rv
    · cases em
  · cases em
def appendG (ds as : List D) : Option (List D × D) := match as with
  | [d] => if ds.length < sizeLine then some (ds ++ [d], .non) else none
  | _ => none
theorem ms_append : MetS X.K rAppend appendG := by
  intro F H a vs ws ds as ds2 d Q h1 h2 h3 r1 r2 e k
  unfold appendG at e
  split at e
  · rename_i d0
    split at e
    · rename_i hl
      cases e
      cases r2 with
      | cons r2 r3 =>
        cases r3
        exact ⟨a, vs, _, rfl, rfl, h1, by rw [r1.length]; exact hl, k _ _ .non (r1.append (.cons r2 .nil))⟩
    · cases e
  · cases e
def extendG (ds as : List D) : Option (List D × D) := match as with
  | [.lst es] => if ds.length + es.length ≤ sizeLine then some (ds ++ es, .non) else none
  | _ => none
theorem ms_extend : MetS X.K rExtend extendG := by
  intro F H a vs ws ds as ds2 d Q h1 h2 h3 r1 r2 e k
  unfold extendG at e
  split at e
  · rename_i es
    split at e
    · rename_i hl
      cases e
      cases r2 with
      | cons r2 r3 =>
        cases r3
        cases r2 with
        | lst q rs => exact ⟨a, _, vs, _, rfl, rfl, h1, h2 _ _ q, by rw [r1.length, rs.length]; exact hl, k _ _ .non (r1.append rs)⟩
    · cases e
  · cases e
def popG (ds as : List D) : Option (List D × D) := match as with
  | [] => match ds[ds.length - 1]? with
    | some d => some (ds.dropLast, d)
    | none => none
  | _ => none
theorem ms_pop : MetS X.K rPop popG := by
  intro F H a vs ws ds as ds2 d Q h1 h2 h3 r1 r2 e k
  unfold popG at e
  split at e
  · split at e
    · rename_i d0 e0
      cases e
      cases r2
      obtain ⟨v, ev, rv⟩ := r1.get e0
      exact ⟨a, vs, v, rfl, rfl, h1, by rw [r1.length]; exact ev, k _ _ rv r1.dropLast⟩
    · cases e
  · cases e
def popAtG (ds as : List D) : Option (List D × D) := match as with
  | [.int i] => match ixN ds.length i with
    | some j => match ds[j]? with
      | some d => some (ds.eraseIdx j, d)
      | none => none
    | none => none
  | _ => none
def rSized (r : V → List V → Hp → VK → Prop) : V → List V → Hp → VK → Prop := fun x vs H Q => ∃ l xs, x = .ref l ∧ H l = some (.lst xs) ∧ (xs.length ≤ sizeLine → r x vs H Q)
theorem mt_sized {id : String} {r : V → List V → Hp → VK → Prop} (h : MtR X id r) : MtR X id (rSized r) := by
  intro pins s σ H x xs v us Q I rx rs q
  obtain ⟨l, ys, rfl, e, q⟩ := q
  obtain ⟨z, _⟩ := I.lstM e
  exact h pins s σ H _ xs v us Q I rx rs (q z)
theorem ms_popAt : MetS X.K (rSized rPopAt) popAtG := by
  intro F H a vs ws ds as ds2 d Q h1 h2 h3 r1 r2 e k
  refine ⟨a, vs, rfl, h1, fun hz => ?_⟩
  unfold popAtG at e
  split at e
  · rename_i i
    split at e
    · rename_i j ej
      split at e
      · rename_i d0 e0
        cases e
        cases r2 with
        | cons r2 r3 =>
          cases r3; cases r2
          obtain ⟨v, ev, rv⟩ := r1.get e0
          obtain ⟨z1, z2, z3, z4⟩ := ixN_seq ej
          have hn := line63
          rw [r1.length] at hz
          exact ⟨a, vs, i, j, v, rfl, rfl, h1, by omega, by omega, by rw [r1.length]; exact z1, ev, k _ _ rv (r1.eraseIdx j)⟩
      · cases e
    · cases e
  · cases e
def insertG (ds as : List D) : Option (List D × D) := match as with
  | [.int i, d] => if ds.length < sizeLine ∧ 0 ≤ i ∧ i < 2 ^ 63 then some (ds.take i.toNat ++ [d] ++ ds.drop i.toNat, .non) else none
  | _ => none
def rInsert : V → List V → Hp → VK → Prop := fun x vs H Q => ∃ (l : Addr) (xs : List V) (i : Int) (y : V), x = .ref l ∧ vs = [.int i, y] ∧ H l = some (.lst xs) ∧ xs.length < sizeLine ∧ 0 ≤ i ∧ i < 2 ^ 63 ∧
    Q .non (upd H l (.lst (xs.take i.toNat ++ [y] ++ xs.drop i.toNat)))
theorem ms_insert : MetS X.K rInsert insertG := by
  intro F H a vs ws ds as ds2 d Q h1 h2 h3 r1 r2 e k
  unfold insertG at e
  split at e
  · rename_i i d0
    split at e
    · rename_i hl
      cases e
      cases r2 with
      | cons r2 r3 =>
        cases r2
        cases r3 with
        | cons r3 r4 =>
          cases r4
          exact ⟨a, vs, i, _, rfl, rfl, h1, by rw [r1.length]; exact hl.1, hl.2.1, hl.2.2, k _ _ .non (((r1.take _).append (.cons r3 .nil)).append (r1.drop _))⟩
    · cases e
  · cases e
variable {px apos cpos : Pos} {x : Str} {dm : DM}
theorem oe_append (i : Nat) (hd : DE X [e] dm) (hN : X.N[i]? = some x := by rfl) (hv : Vis X.env.scope x := by first | exact Or.inl rfl | exact Or.inr (Or.inl rfl) | exact Or.inr (Or.inr rfl)) (hdb : (x == ("__debug__" : Str)) = false := by decide) (hcd : (x == ("__classdict__" : Str)) = false := by decide)
    (hbase : attributeBase (.Name x px) "append" X.env (eval (.Name x px) X.env) = eval (.Name x px) X.env := by rfl)
    (hfew : ((backTo cpos (starEach [e] X.env)).all (fun x => !x.1) && (backToKw cpos (keywordEach [] X.env)).all (fun x => x.1.isSome)
      && decide ([e].length + ([] : List Keyword).length + (if ([] : List Keyword).isEmpty then 0 else 1) < 30)) = true := by rfl)
    (hline : (apos.endLine == cpos.line) = true := by rfl) (hst : starEach [e] X.env = (false, eval e X.env) :: starEach [] X.env := by rfl) :
    OE X (.Call (.Attribute (.Name x px) "append" apos) [e] [] cpos) (methM i dm appendG) := oe_meth i PySem.F.slot_list_append PySem.F.type_list_append mt_append ms_append hd hN hv hdb hcd hbase hfew hline hst
theorem oe_extend (i : Nat) (hd : DE X [e] dm) (hN : X.N[i]? = some x := by rfl) (hv : Vis X.env.scope x := by first | exact Or.inl rfl | exact Or.inr (Or.inl rfl) | exact Or.inr (Or.inr rfl)) (hdb : (x == ("__debug__" : Str)) = false := by decide) (hcd : (x == ("__classdict__" : Str)) = false := by decide)
    (hbase : attributeBase (.Name x px) "extend" X.env (eval (.Name x px) X.env) = eval (.Name x px) X.env := by rfl)
    (hfew : ((backTo cpos (starEach [e] X.env)).all (fun x => !x.1) && (backToKw cpos (keywordEach [] X.env)).all (fun x => x.1.isSome)
      && decide ([e].length + ([] : List Keyword).length + (if ([] : List Keyword).isEmpty then 0 else 1) < 30)) = true := by rfl)
    (hline : (apos.endLine == cpos.line) = true := by rfl) (hst : starEach [e] X.env = (false, eval e X.env) :: starEach [] X.env := by rfl) :
    OE X (.Call (.Attribute (.Name x px) "extend" apos) [e] [] cpos) (methM i dm extendG) := oe_meth i PySem.F.slot_list_extend PySem.F.type_list_extend mt_extend ms_extend hd hN hv hdb hcd hbase hfew hline hst
theorem oe_popAt (i : Nat) (hd : DE X [e] dm) (hN : X.N[i]? = some x := by rfl) (hv : Vis X.env.scope x := by first | exact Or.inl rfl | exact Or.inr (Or.inl rfl) | exact Or.inr (Or.inr rfl)) (hdb : (x == ("__debug__" : Str)) = false := by decide) (hcd : (x == ("__classdict__" : Str)) = false := by decide)
    (hbase : attributeBase (.Name x px) "pop" X.env (eval (.Name x px) X.env) = eval (.Name x px) X.env := by rfl)
    (hfew : ((backTo cpos (starEach [e] X.env)).all (fun x => !x.1) && (backToKw cpos (keywordEach [] X.env)).all (fun x => x.1.isSome)
      && decide ([e].length + ([] : List Keyword).length + (if ([] : List Keyword).isEmpty then 0 else 1) < 30)) = true := by rfl)
    (hline : (apos.endLine == cpos.line) = true := by rfl) (hst : starEach [e] X.env = (false, eval e X.env) :: starEach [] X.env := by rfl) :
    OE X (.Call (.Attribute (.Name x px) "pop" apos) [e] [] cpos) (methM i dm popAtG) := oe_meth i PySem.F.slot_list_pop PySem.F.type_list_pop (mt_sized mt_popAt) ms_popAt hd hN hv hdb hcd hbase hfew hline hst
theorem oe_pop (i : Nat) (hN : X.N[i]? = some x := by rfl) (hv : Vis X.env.scope x := by first | exact Or.inl rfl | exact Or.inr (Or.inl rfl) | exact Or.inr (Or.inr rfl)) (hdb : (x == ("__debug__" : Str)) = false := by decide) (hcd : (x == ("__classdict__" : Str)) = false := by decide)
    (hbase : attributeBase (.Name x px) "pop" X.env (eval (.Name x px) X.env) = eval (.Name x px) X.env := by rfl) (hline : (apos.endLine == cpos.line) = true := by rfl) :
    OE X (.Call (.Attribute (.Name x px) "pop" apos) [] [] cpos) (methM i nilD popG) := oe_meth0 i PySem.F.slot_list_pop PySem.F.type_list_pop mt_pop ms_pop hN hv hdb hcd hbase hline

/-! zip, reversed -/
def zipD (xs ys : List D) : List D := List.zipWith (fun x y => .tup [x, y]) xs ys
def zipI (dm : DM) : IM := fun ρ => match dm ρ with
  | some ([a, b], ρ') => match listD a, listD b with
    | some xs, some ys => some (zipD xs ys, none, ρ')
    | _, _ => match a, b with
      | .tup xs, .tup ys => some (zipD xs ys, none, ρ')
      | _, _ => none
  | _ => none
theorem zip_item {Fr : Frm} {F : Hp} {J : It} {vs ws : List V} {ds es : List D} (r1 : Reps X.K F vs ds) (r2 : Reps X.K F ws es)
    (go : ∀ F2 H, Same F F2 → Same F2 H → ∀ i x y, vs[i]? = some x → ws[i]? = some y → J.go i H ∧ ∀ v H', J.yld i H v H' → ∃ T, v = .ref T ∧ H T = none ∧ H' = upd H T (.tup [x, y]))
    (stop : ∀ F2 H, Same F F2 → Same F2 H → ∀ i, (vs.length ≤ i ∨ ws.length ≤ i) → J.stop i H) : IterOk X.K Fr F J (zipD ds es) := by
  intro F2 H q f1 f2
  refine ⟨fun i d e => ?_, stop F2 H q f2 _ (by unfold zipD; rw [List.length_zipWith, r1.length, r2.length]; omega)⟩
  unfold zipD at e
  rw [List.getElem?_zipWith] at e
  cases e1 : ds[i]? with
  | none => rw [e1] at e; cases e
  | some d1 =>
    cases e2 : es[i]? with
    | none => rw [e1, e2] at e; cases e
    | some d2 =>
      rw [e1, e2] at e
      cases e
      obtain ⟨v1, g1, s1⟩ := r1.get e1
      obtain ⟨v2, g2, s2⟩ := r2.get e2
      obtain ⟨h1, h2⟩ := go F2 H q f2 i v1 v2 g1 g2
      refine ⟨h1, fun v H' y => ?_⟩
      obtain ⟨T, rfl, hT, rfl⟩ := h2 v H' y
      have hF : F2 T = none := f2.free hT
      refine ⟨upd F2 T (.tup [v1, v2]), same_new hF, same_new hT, fun Fr' ρ σ R => (R.new _ hT).1, .tup (SqT.of upd_same) ?_⟩
      exact .cons ((s1.mono q).mono (same_new hF)) (.cons ((s2.mono q).mono (same_new hF)) .nil)
theorem zipI_lk {ρ ρ' : Rho} {ds : List D} {j : Nat} {d : D} (h : zipI dm ρ = some (ds, some (j, d), ρ')) : False := by
  unfold zipI at h
  split at h
  · split at h
    · cases h
    · split at h <;> cases h
  · cases h
theorem Rep.list {K : PySem.W.Frag} {F : Hp} {v : V} {d : D} {ds : List D} (h : Rep K F v d) (e : listD d = some ds) : ∃ a vs, v = .ref a ∧ SqL K F a vs ∧ Reps K F vs ds := by
  cases h with
  | lst q r => cases e; exact ⟨_, _, rfl, SqL.of q, r⟩
  | rol q r => cases e; exact ⟨_, _, rfl, q, r⟩
  | non => cases e
  | bl => cases e
  | int => cases e
  | str => cases e
  | ins => cases e
  | dct => cases e
  | tup => cases e
theorem ie_zip {elts : List Expr} {kk : Nat} {tpos : Pos} (hm : X.mg "zip" = none) (hd : DE X [a, b] dm) (hg : Gl X "zip" := by rfl)
    (hs : starEach [a, b] X.env = (false, eval a X.env) :: starEach [b] X.env := by rfl) (hpl : (backTo pos (starEach [b] X.env)).any (·.1) = false := by rfl) :
    IE X (.Tuple elts kk tpos) (.Call (.Name "zip" p) [a, b] [] pos) [] (zipI dm) := by
  refine ⟨pi_imp (RZ.pi_zipA hg hm hd.pa hs hpl) fun σ H R ⟨Fr, F, ρ, ds, lk, ρ', Rr, em, k⟩ => ?_, fun ρ ds j d ρ' em => (zipI_lk em).elim⟩
  unfold zipI at em
  split at em
  · rename_i d1 d2 ρ1 e1
    split at em
    · rename_i xs ys h1 h2
      cases em
      refine ⟨Fr, F, ρ, _, _, Rr, e1, fun F1 H1 vs q1 R1 rs => ?_⟩
      cases rs with
      | cons r1 rs =>
        cases rs with
        | cons r2 rs =>
          cases rs
          obtain ⟨c1, v1, rfl, s1, t1⟩ := r1.list h1
          obtain ⟨c2, v2, rfl, s2, t2⟩ := r2.list h2
          refine ⟨c1, c2, v1, v2, rfl, .inl ⟨sameL R1.f s1, sameL R1.f s2, k Fr F1 H1 _ q1 R1 rfl (zip_item t1 t2 (fun F2 H2 q f i x y z1 z2 => ?_) fun F2 H2 q f i z => ?_)⟩⟩
          · have u1 := sameL (q.trans f) s1
            have u2 := sameL (q.trans f) s2
            refine ⟨⟨v1, v2, x, y, u1, u2, z1, z2⟩, fun v H' ⟨T, x', y', e1, e2, e3, e4, e5⟩ => ⟨T, e1, e2, ?_⟩⟩
            have g1 := e4 _ u1
            have g2 := e5 _ u2
            rw [z1] at g1; rw [z2] at g2
            cases g1; cases g2
            exact e3
          · exact ⟨v1, v2, sameL (q.trans f) s1, sameL (q.trans f) s2, z⟩
    · split at em
      · rename_i xs ys _
        cases em
        refine ⟨Fr, F, ρ, _, _, Rr, e1, fun F1 H1 vs q1 R1 rs => ?_⟩
        cases rs with
        | cons r1 rs =>
          cases rs with
          | cons r2 rs =>
            cases rs
            cases r1 with
            | tup s1 t1 =>
              cases r2 with
              | tup s2 t2 =>
                rename_i c1 v1 c2 v2
                refine ⟨c1, c2, v1, v2, rfl, .inr ⟨sameT R1.f s1, sameT R1.f s2, k Fr F1 H1 _ q1 R1 rfl (zip_item t1 t2 (fun F2 H2 q f i x y z1 z2 => ?_) fun F2 H2 q f i z => ?_)⟩⟩
                · have u1 := sameT (q.trans f) s1
                  have u2 := sameT (q.trans f) s2
                  refine ⟨⟨v1, v2, x, y, u1, u2, z1, z2⟩, fun v H' ⟨T, x', y', e1, e2, e3, e4, e5⟩ => ⟨T, e1, e2, ?_⟩⟩
                  have g1 := e4 _ u1
                  have g2 := e5 _ u2
                  rw [z1] at g1; rw [z2] at g2
                  cases g1; cases g2
                  exact e3
                · exact ⟨v1, v2, sameT (q.trans f) s1, sameT (q.trans f) s2, z⟩
      · cases em
  · cases em
def revI (m : EM) : IM := fun ρ => match esc m ρ with
  | some (d, ρ') => match seqD d with
    | some ds => some (ds.reverse, none, ρ')
    | none => none
  | none => none
theorem ie_rev (hm : X.mg "reversed" = none) (h : OE X a m) {tg : Expr} (hg : Gl X "reversed" := by rfl) (hs : starEach [a] X.env = (false, eval a X.env) :: starEach [] X.env := by rfl) :
    IE X tg (.Call (.Name "reversed" p) [a] [] pos) [] (revI m) := by
  refine ⟨pi_imp (RT.pi_revA hg hm h.ve.pe hs) fun σ H R ⟨Fr, F, ρ, ds, lk, ρ', Rr, em, k⟩ => ?_, fun ρ ds j d ρ' em => ?_⟩
  · unfold revI at em
    split at em
    · rename_i d ρ1 e1
      split at em
      · rename_i ds' e2
        cases em
        refine ⟨Fr, F, ρ, _, _, Rr, e1, fun F1 H1 v q1 R1 r => ?_⟩
        have item : ∀ {J : It} {vs : List V}, Reps X.K F1 vs ds' → (∀ F2 H2, Same F1 F2 → Same F2 H2 → ∀ i x, i < vs.length → vs[vs.length - 1 - i]? = some x → J.go i H2 ∧ ∀ v H', J.yld i H2 v H' → H' = H2 ∧ v = x) →
            (∀ i H2, vs.length ≤ i → J.stop i H2) → IterOk X.K Fr F1 J ds'.reverse := fun {J vs} t go stop F2 H2 q f1 f2 => by
          refine ⟨fun i d e => ?_, stop _ _ (by rw [List.length_reverse, t.length]; exact Nat.le_refl _)⟩
          have hi : i < vs.length := by rw [t.length, ← List.length_reverse]; exact some_lt e
          have t2 : Reps X.K F1 vs.reverse ds'.reverse := t.reverse
          obtain ⟨x, z1, z2⟩ := t2.get e
          rw [List.getElem?_reverse hi] at z1
          obtain ⟨g1, g2⟩ := go F2 H2 q f2 i x hi z1
          refine ⟨g1, fun v H' y => ?_⟩
          obtain ⟨rfl, rfl⟩ := g2 v H' y
          exact ⟨F2, Same.refl _, Same.refl _, fun _ _ _ z => z, z2.mono q⟩
        have lists : ∀ {c : Addr} {vs : List V}, v = .ref c → SqL X.K F1 c vs → Reps X.K F1 vs ds' → ∃ (a : Addr) (xs : List V), v = .ref a ∧ ((SqL X.K H1 a xs ∧ R (Itv X.K a xs.length) H1) ∨ (SqT X.K H1 a xs ∧ R (RT.ItvT X.K a xs.length) H1)) := fun {c vs} ev s t => by
          refine ⟨c, vs, ev, .inl ⟨sameL R1.f s, k Fr F1 H1 _ q1 R1 rfl (item t (fun F2 H2 q f i x hi z => ?_) fun i H2 z => z)⟩⟩
          refine ⟨⟨hi, vs, x, sameL (q.trans f) s, z⟩, fun w H' ⟨y1, y2⟩ => ⟨y1, ?_⟩⟩
          have y3 := y2 _ (sameL (q.trans f) s)
          rw [z] at y3; cases y3; rfl
        cases r with
        | lst s t => cases e2; exact lists rfl (SqL.of s) t
        | rol s t => cases e2; exact lists rfl s t
        | tup s t =>
          cases e2
          rename_i c vs
          refine ⟨c, vs, rfl, .inr ⟨sameT R1.f s, k Fr F1 H1 _ q1 R1 rfl (item t (fun F2 H2 q f i x hi z => ?_) fun i H2 z => z)⟩⟩
          refine ⟨⟨hi, vs, x, sameT (q.trans f) s, z⟩, fun w H' ⟨y1, y2⟩ => ⟨y1, ?_⟩⟩
          have y3 := y2 _ (sameT (q.trans f) s)
          rw [z] at y3; cases y3; rfl
        | ins => cases e2
        | dct => cases e2
        | non => cases e2
        | bl => cases e2
        | int => cases e2
        | str => cases e2
      · cases em
    · cases em
  · exfalso
    unfold revI at em
    split at em
    · split at em <;> cases em
    · cases em
end
end Ev

set_option Elab.async false
set_option linter.all false
set_option maxRecDepth 100000
/-! Ev. I: the end of a law. -/
set_option autoImplicit false
namespace Ev
open PySem PySem.Spec PyProof.Rows L2

/-- a def stands at the top -/
structure DefAt (K : PySem.W.Frag) (mg : Str → Option Value) (x : Str) (st : Stmt) : Prop where
  ex : ∃ f fd, Fun K x x st f fd ∧ mg x = some (.ref f)
theorem def_mk {K : PySem.W.Frag} {h : Heap} {mg : Str → Option Value} {x : Str} {st : Stmt} {f : Addr} {oc : Value} {od an : Option Addr} {osl : Array (Option Value)} {kV doc pm cdv ct : Value} (X : K.In h) (G : h.Ns mainGlobals mg)
    (a : PySem.W.nsIn K mainGlobals x = some (some (.ref f))) (l : K.lookup f = some ⟨oc, od, .func (PySem.W.fnOf x x (defArgs st) (defBody st) (defScope st) .none kV doc pm an cdv ct), osl⟩)
    (c : PySem.W.codeIn K cdv x = true) (k : PySem.W.keepIn K (.ref f) = true) : DefAt K mg x st := ⟨f, _, fun_mk l c k, PySem.W.mg_of X G a⟩
theorem callee_of {P : Program} {w : World} {K : PySem.W.Frag} {mg : Str → Option Value} {base : Heap} {x : Str} {st : Stmt} {k np : Nat} {ps : List Str} {fn : Fn} (d : DefAt K mg x st)
    (ok : ∀ {f : Addr} {fd : FuncData}, Fun K x x st f fd → FnOk P w K mg base CX0 k f fd ps (spF K fn np))
    (hb : ∀ (kV doc pm : Value) (an : Option Addr) (cdv ct : Value) (us : List Value), us.length = ps.length → bindArgs (PySem.W.fnOf x x (defArgs st) (defBody st) (defScope st) .none kV doc pm an cdv ct) ⟨us, []⟩ = pure (ps.zip us)) : Callee P w K mg base k x np fn := by
  obtain ⟨f, fd, F, hm⟩ := d.ex
  exact ⟨f, fd, ps, ok F, hm, F.kp, F.binds hb⟩
def noFr : Frm := ⟨fun _ => none, fun _ => False, fun _ h => h.elim⟩
/-- the law's promise out of its value -/
theorem law_sp {K : PySem.W.Frag} {fn : Fn} {H : Hp} {a : Addr} {ns : List Int} {E : XK} (hS : SqL K H a (ns.map V.int)) (h : ∃ post, fn [.val (.rol (ns.map D.int))] = some (.val (.bl true), post)) : spF K fn 1 [.ref a] H (fun v _ => v = .bl true) E := by
  obtain ⟨post, h⟩ := h
  refine ⟨rfl, noFr, H, [.val (.rol (ns.map D.int))], _, post, rfl, ⟨fun b o z => (nomatch z), Same.refl H, fun b o z => (nomatch z), fun i sv e => ?_, fun i j s t e1 e2 x1 x2 e3 => ?_, Nat.le_refl _⟩, h, fun F' H' v _ _ r => ?_⟩
  · cases i with
    | zero => cases e; exact ⟨_, rfl, .rol hS (Reps.of_ints ns)⟩
    | succ i => cases e
  · cases i with
    | zero => cases e1; cases x1
    | succ i => cases e1
  · cases r; rfl
end Ev

set_option Elab.async false
set_option linter.all false
set_option maxRecDepth 100000
/-! Ev. J: instances. -/
set_option autoImplicit false
namespace Ev
open PySem PySem.Spec PyProof.Rows L2

section
variable {K : PySem.W.Frag} {Fr : Frm} {F F' H H' : Hp} {ρ ρ' : Rho} {σ : St} {v : V} {d : D}
/-- an instance, seen -/
theorem Viw.ins {C : Addr} {ks : List Str} {ds : List D} (s : Same F H) (h : Viw K F H v (.ins C ks ds)) : ∃ a dx vs, v = .ref a ∧ H a = some (.ins C dx (ks.zip vs)) ∧ ks.length = vs.length ∧ Reps K F vs ds := by
  rcases h with h | ⟨a, o, e1, h1, h2⟩
  · cases h with
    | ins h l r => exact ⟨_, _, _, rfl, s _ _ h, l, r⟩
  · cases h2 with
    | ins l r => exact ⟨_, _, _, e1, h1, l, r⟩
theorem zip_look {f : Str} : ∀ {ks : List Str} {vs : List V} {ds : List D} {d : D}, Reps K F vs ds → (ks.zip ds).lookup f = some d → ∃ v, (ks.zip vs).lookup f = some v ∧ Rep K F v d
  | [], _, _, _, _, h => by simp at h
  | _ :: _, _, _, _, .nil, h => by simp at h
  | k :: ks, _, _, _, .cons r rs, h => by
    rw [List.zip_cons_cons, List.lookup_cons] at h ⊢
    cases e : f == k with
    | true => rw [e] at h; cases h; exact ⟨_, rfl, r⟩
    | false => rw [e] at h; exact zip_look rs h
/-! fields -/
def fldD (Cs : List Addr) (f : Str) : D → Option D
  | .ins C ks ds => if C ∈ Cs then (ks.zip ds).lookup f else none
  | _ => none
def fldM (Cs : List Addr) (f : Str) (m : EM) : EM := fun ρ => match frz m ρ with
  | some (o, ρ') => match look o ρ' with
    | some d => match fldD Cs f d with
      | some e => some (.val e, ρ')
      | none => none
    | none => none
  | none => none
end
/-- these classes keep the attribute in the instance -/
def Flds (K : PySem.W.Frag) (Cs : List Addr) (f : Str) : Prop := ∀ C ∈ Cs, Cls K C ∧ NoAttr K C f
section
variable {X : Cx} {a e : Expr} {es : List Expr} {m ma : EM} {am : AM} {pos : Pos} {f : Str} {Cs : List Addr} {W : List Nat} {np k : Nat} {fn : Fn}
theorem oe_fld (ha : OE X e m) (hc : Flds X.K Cs f) (hb : attributeBase e f X.env (eval e X.env) = eval e X.env := by rfl) : OE X (.Attribute e f pos) (fldM Cs f m) := by
  refine ⟨pe_imp (pe_fld ha.ne.pe hb) fun σ H Q ⟨Fr, F, ρ, o, ρ', R, em, k⟩ => ?_⟩
  unfold fldM at em
  split at em
  · rename_i o' ρ1 e1
    split at em
    · rename_i d e2
      split at em
      · rename_i d' e3
        cases em
        refine ⟨Fr, F, ρ, _, _, R, e1, fun F1 H1 v q1 R1 r => ?_⟩
        cases d with
        | ins C ks ds =>
          dsimp only [fldD] at e3
          split at e3
          · rename_i hm
            obtain ⟨a, dx, vs, rfl, h1, h2, h3⟩ := (r.look R1 e2).ins R1.f
            obtain ⟨w, h4, h5⟩ := zip_look h3 e3
            exact ⟨a, C, dx, _, w, rfl, h1, (hc C hm).1, (hc C hm).2, h4, k F1 H1 w q1 R1 h5⟩
          · cases e3
        | _ => cases e3
      · cases em
    · cases em
  · cases em
/-! self.f = e -/
def putK (f : Str) : List Str → List Str
  | [] => [f]
  | k :: ks => if k = f then k :: ks else k :: putK f ks
def putA {α : Type} (f : Str) (y : α) : List Str → List α → List α
  | [], _ => [y]
  | _ :: _, [] => []
  | k :: ks, x :: xs => if k = f then y :: xs else x :: putA f y ks xs
theorem putF_zip {f : Str} {y : V} : ∀ {ks : List Str} {vs : List V}, ks.length = vs.length → putF f y (ks.zip vs) = (putK f ks).zip (putA f y ks vs) ∧ (putK f ks).length = (putA f y ks vs).length
  | [], [], _ => ⟨rfl, rfl⟩
  | [], _ :: _, h => by simp at h
  | _ :: _, [], h => by simp at h
  | k :: ks, v :: vs, h => by
    obtain ⟨h1, h2⟩ := putF_zip (f := f) (y := y) (ks := ks) (vs := vs) (by simpa using h)
    rw [List.zip_cons_cons, putF, putK, putA]
    by_cases e : k = f
    · rw [if_pos e, if_pos e, if_pos e]; exact ⟨rfl, by simpa using h⟩
    · rw [if_neg e, if_neg e, if_neg e, h1]; exact ⟨rfl, by simpa using h2⟩
theorem Reps.putA {K : PySem.W.Frag} {F : Hp} {f : Str} {y : V} {d : D} (h : Rep K F y d) : ∀ {ks : List Str} {vs : List V} {ds : List D}, Reps K F vs ds → Reps K F (Ev.putA f y ks vs) (Ev.putA f d ks ds)
  | [], _, _, _ => .cons h .nil
  | _ :: _, _, _, .nil => .nil
  | k :: ks, _, _, .cons r rs => by
    unfold Ev.putA
    by_cases e : k = f
    · rw [if_pos e, if_pos e]; exact .cons h rs
    · rw [if_neg e, if_neg e]; exact .cons r (Reps.putA h rs)
def fldS (Cs : List Addr) (i : Nat) (f : Str) (m : EM) : SM := fun ρ => match esc m ρ with
  | some (d, ρ1) => match ρ1[i]? with
    | some (some (.own (.ins C ks ds))) => if C ∈ Cs ∧ ks.length < 1000 then some (.nx, ρ1.set i (some (.own (.ins C (putK f ks) (putA f d ks ds))))) else none
    | _ => none
  | none => none
theorem se_fld (i : Nat) {x : Str} {px pos' : Pos} (h : OE X e m) (hc : Flds X.K Cs f) (hN : X.N[i]? = some x := by rfl) (hv : Vis X.env.scope x := by first | exact Or.inl rfl | exact Or.inr (Or.inl rfl) | exact Or.inr (Or.inr rfl)) (hd : (x == ("__debug__" : Str)) = false := by decide)
    (hcd : (x == ("__classdict__" : Str)) = false := by decide) (hs : swapsWith e (some (.Attribute (.Name x px) f pos')) pos.line X.env = pure false := by rfl) : SE X (.Assign [.Attribute (.Name x px) f pos'] e pos) [] (fldS Cs i f m) := by
  refine ⟨ps_imp (ps_fld (pe_var hN hv hd hcd) h.ve.pe hs) fun Dn σ H ⟨Fr, F, ρ, out, ρ', R, em, k⟩ => ?_⟩
  unfold fldS at em
  split at em
  · rename_i d ρ1 e1
    split at em
    · rename_i C ks ds e2
      split at em
      · rename_i hm
        cases em
        refine ⟨Fr, F, ρ, _, _, R, e1, fun F1 H1 v q1 R1 r1 => ?_⟩
        obtain ⟨u, eu, a, o, ea, g1, g2, g3, g4⟩ := R1.slot i _ e2
        subst ea
        refine ⟨_, eu, ?_⟩
        cases g2 with
        | @ins _ dx _ vs _ l rs =>
          obtain ⟨z1, z2⟩ := putF_zip (f := f) (y := v) l
          refine ⟨a, C, dx, _, rfl, g1, (hc C hm.1).1, (hc C hm.1).2, ?_, ?_⟩
          · rw [List.length_zip]; omega
          · rw [z1]
            exact k F1 _ σ q1 (R1.mut e2 eu (.ins z2 (Reps.putA r1 rs))) (.refl _ _)
      · cases em
    · cases em
  · cases em
/-! C(e, ..) -/
def makeM (C : Addr) (fn : Fn) (am : AM) : EM := fun ρ => match am ρ with
  | some (os, ρ1) => match argsAll [] ρ1 1 os with
    | some ss => match fn (.own (.ins C [] []) :: ss) with
      | some (.val .non, post) => match (post : Rho)[0]? with
        | some (some (SV.own d)) => some (.tmp d, ρ1)
        | _ => none
      | _ => none
    | none => none
  | none => none
theorem argOne_app {b : Bool} {o : Opd} {ρ ρ2 : Rho} {s : SV} (h : argOne b o ρ = some s) : argOne b o (ρ ++ ρ2) = some s := by
  cases o with
  | val d => exact h
  | tmp d => exact h
  | var i =>
    unfold argOne at h ⊢
    dsimp only at h ⊢
    cases e : ρ[i]? with
    | none => rw [e] at h; cases h
    | some x => rw [List.getElem?_append_left (some_lt e), e]; rw [e] at h; exact h
theorem args_self {n : Nat} {ρ ρ2 : Rho} : ∀ {k : Nat} {os : List Opd} {ss : List SV}, 1 ≤ k → argsAll [] ρ k os = some ss → argsAll [0] (ρ ++ ρ2) k os = some ss
  | k, [], ss, _, h => by cases h; rfl
  | k, o :: os, ss, hk, h => by
    unfold argsAll at h ⊢
    have hk0 : decide (k ∈ [0]) = false := decide_eq_false (by simp; omega)
    have hk1 : decide (k ∈ ([] : List Nat)) = false := decide_eq_false (by simp)
    rw [hk1] at h
    rw [hk0]
    split at h
    · rename_i s e1
      split at h
      · rename_i ss' e2
        cases h
        rw [argOne_app e1, args_self (n := n) (by omega) e2]
      · cases h
    · cases h
theorem back_self {ρ : Rho} {post : Rho} : ∀ {k : Nat} {os : List Opd}, 1 ≤ k → putBack [0] post k os ρ = some ρ
  | k, [], _ => rfl
  | k, o :: os, hk => by
    unfold putBack
    rw [if_neg (by simp; omega)]
    exact back_self (by omega)
theorem NRels.app {K : PySem.W.Frag} {F : Hp} {σ σ2 : St} : ∀ {vs : List V} {os : List Opd}, NRels K F σ vs os → NRels K F (σ ++ σ2) vs os
  | _, _, .nil => .nil
  | _, _, .cons (a := v) (b := o) h r => .cons (by
      cases o with
      | val d => exact h
      | tmp d => exact h
      | var i =>
        have h : σ[i]? = some (some v) := h
        show (σ ++ σ2)[i]? = some (some v)
        rw [List.getElem?_append_left (some_lt h)]; exact h) (NRels.app r)
theorem Rel.pad1 {K : PySem.W.Frag} {Fr : Frm} {F H : Hp} {ρ : Rho} {σ : St} (R : Rel K Fr F ρ σ H) (n : Nat) (hn : ρ.length + n ≤ σ.length) : Rel K Fr F (ρ ++ List.replicate n none) σ H := by
  have old : ∀ {i : Nat} {s : SV}, (ρ ++ List.replicate n none)[i]? = some (some s) → ρ[i]? = some (some s) := fun {i s} h => by
    by_cases hi : i < ρ.length
    · rwa [List.getElem?_append_left hi] at h
    · rw [List.getElem?_append_right (by omega), List.getElem?_replicate] at h
      split at h <;> cases h
  exact ⟨R.fr, R.f, R.dj, fun i s h => R.slot i s (old h), fun i j s t h1 h2 => R.uniq i j s t (old h1) (old h2), by rw [List.length_append, List.length_replicate]; omega⟩
theorem own_new {K : PySem.W.Frag} {F : Hp} {C dx : Addr} : Own K F (.ins C dx []) (.ins C [] []) := Own.ins (ks := []) (vs := []) (ds := []) rfl .nil
theorem Rel.obj {K : PySem.W.Frag} {Fr : Frm} {F H : Hp} {ρ : Rho} {σ : St} (R : Rel K Fr F ρ σ H) {i : Nat} {s : SV} (h : ρ[i]? = some (some s)) (ho : s.ob = true) : ∃ a, σ[i]? = some (some (.ref a)) ∧ H a ≠ none := by
  obtain ⟨v, e, r⟩ := R.slot i s h
  cases s with
  | val d => cases ho
  | own d => obtain ⟨a, o, e2, h1, _⟩ := r; exact ⟨a, by rw [e, e2], by rw [h1]; exact fun z => nomatch z⟩
  | bor d => obtain ⟨a, o, e2, h1, _⟩ := r; exact ⟨a, by rw [e, e2], by rw [R.fr _ _ h1.1]; exact fun z => nomatch z⟩
  | lck d => obtain ⟨a, o, e2, h1, _⟩ := r; exact ⟨a, by rw [e, e2], by rw [R.fr _ _ h1.1]; exact fun z => nomatch z⟩
theorem get_snoc {α : Type} {l : List α} {x y : α} {i : Nat} (h : (l ++ [x])[i]? = some y) : l[i]? = some y ∨ (i = l.length ∧ y = x) := by
  by_cases hi : i < l.length
  · rw [List.getElem?_append_left hi] at h; exact .inl h
  · rw [List.getElem?_append_right (by omega)] at h
    have hl := some_lt h
    simp at hl
    have e : i = l.length := by omega
    subst e
    simp at h
    exact .inr ⟨rfl, h.symm⟩
theorem Rel.snoc {K : PySem.W.Frag} {Fr : Frm} {F H : Hp} {ρ : Rho} {σ : St} {x : Addr} {o : HO} {d : D} (R : Rel K Fr F ρ σ H) (hl : ρ.length = σ.length) (hx : H x = some o) (w : Own K F o d) (hF : F x = none) (hFr : Fr x = none)
    (hn : ∀ (i : Nat) (s : SV), ρ[i]? = some (some s) → s.ob = true → σ[i]? ≠ some (some (.ref x))) : Rel K Fr F (ρ ++ [some (.own d)]) (σ ++ [some (.ref x)]) H := by
  have sg : ∀ {i : Nat} {s : SV}, ρ[i]? = some (some s) → (σ ++ [some (V.ref x)])[i]? = σ[i]? := fun {i s} h => List.getElem?_append_left (by have := some_lt h; omega)
  have sl : (σ ++ [some (V.ref x)])[ρ.length]? = some (some (.ref x)) := by rw [hl]; simp
  refine ⟨R.fr, R.f, R.dj, fun i s h => ?_, fun i j s t h1 h2 x1 x2 z => ?_, by simp [hl]⟩
  · rcases get_snoc h with h | ⟨rfl, he⟩
    · obtain ⟨v, e, r⟩ := R.slot i s h
      exact ⟨v, by rw [sg h, e], r⟩
    · cases he
      exact ⟨_, sl, x, o, rfl, hx, w, hF, hFr⟩
  · rcases get_snoc h1 with h1 | ⟨rfl, he1⟩
    · rcases get_snoc h2 with h2 | ⟨rfl, he2⟩
      · rw [sg h1, sg h2] at z; exact R.uniq i j s t h1 h2 x1 x2 z
      · cases he2
        rw [sg h1, sl] at z
        exact absurd z (hn i s h1 (by cases s <;> first | rfl | cases x1))
    · cases he1
      rcases get_snoc h2 with h2 | ⟨rfl, he2⟩
      · rw [sg h2, sl] at z
        exact absurd z.symm (hn j t h2 x2)
      · rfl
theorem Rel.cutS {K : PySem.W.Frag} {Fr : Frm} {F H : Hp} {ρ r : Rho} {σ s : St} (R : Rel K Fr F (ρ ++ r) (σ ++ s) H) (hl : ρ.length ≤ σ.length) : Rel K Fr F ρ σ H := by
  have up : ∀ {i : Nat} {x : SV}, ρ[i]? = some (some x) → (ρ ++ r)[i]? = some (some x) ∧ (σ ++ s)[i]? = σ[i]? := fun {i x} h => ⟨by rw [List.getElem?_append_left (some_lt h)]; exact h, List.getElem?_append_left (by have := some_lt h; omega)⟩
  refine ⟨R.fr, R.f, R.dj, fun i x h => ?_, fun i j x t h1 h2 x1 x2 z => ?_, hl⟩
  · obtain ⟨v, e, r⟩ := R.slot i x (up h).1
    exact ⟨v, by rw [← (up h).2, e], r⟩
  · exact R.uniq i j x t (up h1).1 (up h2).1 x1 x2 (by rw [(up h1).2, (up h2).2]; exact z)
theorem vars_no {b : Bool} {i : Nat} : ∀ {k : Nat} {os : List Opd}, i ∈ varsAt [0] b k os → ∃ p : Nat, os[p]? = some (Opd.var i)
  | k, [], h => by simp [varsAt] at h
  | k, o :: os, h => by
    have rest : i ∈ varsAt [0] b (k + 1) os → ∃ p : Nat, (o :: os)[p]? = some (Opd.var i) := fun h => by
      obtain ⟨p, hp⟩ := vars_no h
      exact ⟨p + 1, by simpa using hp⟩
    cases o with
    | val d => exact rest h
    | tmp d => exact rest h
    | var j =>
      unfold varsAt at h
      split at h
      · rcases List.mem_cons.1 h with rfl | h
        · exact ⟨0, rfl⟩
        · exact rest h
      · exact rest h
theorem vars_none : ∀ {k : Nat} {os : List Opd}, 1 ≤ k → varsAt [0] true k os = []
  | k, [], _ => rfl
  | k, o :: os, hk => by
    have ih := vars_none (k := k + 1) (os := os) (by omega)
    cases o with
    | val d => exact ih
    | tmp d => exact ih
    | var j =>
      unfold varsAt
      rw [if_neg (by simp; omega)]
      exact ih
theorem make_read {σ : St} {H : Hp} {Q : VK} {E : XK} {C : Addr} (h : tE X.K (makeM C fn am) σ H Q) (hn : ∀ ρ os ρ', am ρ = some (os, ρ') → os.length + 1 = np) : tMake C (spF X.K fn np) [] E (tA X.K am) σ H Q := by
  obtain ⟨Fr, F, ρ, o, ρ', R, em, kk⟩ := h
  unfold makeM at em
  split at em
  · rename_i os ρ1 e1
    split at em
    · rename_i ss e2
      split at em
      · rename_i post e3
        split at em
        · rename_i d e4
          cases em
          refine ⟨Fr, F, ρ, os, _, R, e1, fun F1 H1 vs q1 R1 rs x dx hx hdx hne => ?_⟩
          have S1 : Same H1 (upd H1 dx (.own x)) := same_new hdx
          have hx' : (upd H1 dx (.own x)) x = none := by rw [upd_ne (fun z => hne z.symm)]; exact hx
          have S2 : Same H1 (upd (upd H1 dx (.own x)) x (.ins C dx [])) := S1.trans (same_new hx')
          have R2 := R1.grow (Same.refl F1) S2 (R1.f.trans S2) R1.dj (fun b z1 z2 => absurd z2 z1)
          have Rp := R2.pad1 (σ.length - ρ'.length) (by have := R2.len; omega)
          have hpl : (ρ' ++ List.replicate (σ.length - ρ'.length) (none : Option SV)).length = σ.length := by rw [List.length_append, List.length_replicate]; have := R2.len; omega
          have Rp1 := R1.pad1 (σ.length - ρ'.length) (by have := R2.len; omega)
          generalize hr : List.replicate (σ.length - ρ'.length) (none : Option SV) = rr at Rp hpl Rp1
          have R3 := Rp.snoc (d := .ins C [] []) hpl upd_same own_new (R1.f.free hx) (R1.fr.free hx) (fun i s z1 z2 z3 => by
            obtain ⟨a, z4, z5⟩ := Rp1.obj z1 z2
            rw [z4] at z3
            cases z3
            exact z5 hx)
          have rs' : NRels X.K F1 (σ ++ [some (V.ref x)]) (.ref x :: vs) (.var σ.length :: os) := .cons (by show (σ ++ [some (V.ref x)])[σ.length]? = _; simp) rs.app
          have hxo : exclOk [0] (.var σ.length :: os) = true := by
            unfold exclOk
            rw [Bool.and_eq_true]
            have e5 : varsAt [0] true 0 (.var σ.length :: os) = [σ.length] := by unfold varsAt; rw [if_pos (by simp), vars_none (by omega)]
            have e6 : varsAt [0] false 0 (.var σ.length :: os) = varsAt [0] false 1 os := by conv => lhs; unfold varsAt; rw [if_neg (by simp)]
            rw [e5, e6]
            refine ⟨by simp [nodupB], ?_⟩
            unfold apartB apartB
            rw [Bool.and_true, Bool.not_eq_true', ← Bool.not_eq_true]
            intro hc
            have hm := List.contains_iff_mem.1 hc
            obtain ⟨p, hp⟩ := vars_no hm
            obtain ⟨v, _, g⟩ := nrel_get rs hp
            have g : σ[σ.length]? = some (some v) := g
            simp at g
          have eA : argsAll [0] ((ρ' ++ rr) ++ [some (.own (.ins C [] []))]) 0 (.var σ.length :: os) = some (.own (.ins C [] []) :: ss) := by
            unfold argsAll
            have e5 : argOne (decide (0 ∈ [0])) (.var σ.length) ((ρ' ++ rr) ++ [some (.own (.ins C [] []))]) = some (.own (.ins C [] [])) := by
              unfold argOne
              dsimp only
              rw [← hpl, List.getElem?_append_right (Nat.le_refl _)]
              simp
            rw [e5, List.append_assoc, args_self (n := 0) (Nat.le_refl 1) e2]
          have eB : putBack [0] post 0 (.var σ.length :: os) ((ρ' ++ rr) ++ [some (.own (.ins C [] []))]) = some ((ρ' ++ rr) ++ [some (.own d)]) := by
            conv => lhs; unfold putBack
            rw [if_pos (by simp), e4]
            dsimp only
            rw [back_self (by omega), ← hpl]
            simp
          rw [List.append_nil]
          refine call_core R3 rs' (by rw [List.length_cons]; exact hn _ _ _ e1) hxo eA e3 (fun i z => nomatch z) eB fun F2 H2 v q2 R4 r => ?_
          cases r
          refine ⟨rfl, kk F2 H2 (.ref x) (q1.trans q2) ?_ ?_⟩
          · rw [List.append_assoc] at R4
            exact R4.cutS R1.len
          · have z0 : (((ρ' ++ rr) ++ [some (SV.own d)]))[σ.length]? = some (some (.own d)) := by rw [← hpl]; simp
            obtain ⟨v', z1, a, o, z2, z3, z4, z5, z6⟩ := R4.slot _ _ z0
            have z7 : v' = .ref x := by simp at z1; exact z1.symm
            rw [z7] at z2
            refine ⟨a, o, z2, z3, z4, z5, z6, fun i e y1 y2 => ?_⟩
            have y3 : (((ρ' ++ rr) ++ [some (SV.own d)]))[i]? = some (some (.own e)) := by rw [List.append_assoc, List.getElem?_append_left (some_lt y1)]; exact y1
            have hi := some_lt y2
            have := R4.uniq i σ.length _ _ y3 z0 rfl rfl (by rw [List.getElem?_append_left hi, y2]; simp)
            omega
        · cases em
      · cases em
    · cases em
  · cases em
/-- a class whose instances a def makes -/
structure MakerOf (P : Program) (w : World) (K : PySem.W.Frag) (mg : Str → Option Value) (base : Heap) (k : Nat) (x : Str) (C : Addr) (np : Nat) (fn : Fn) : Prop where
  ex : ∃ f fd ps, Mk K C f ∧ FnOk P w K mg base CX0 k f fd ps (spF K fn np) ∧ mg x = some (.ref C) ∧ Binds K fd ps []
theorem oe_make {x : Str} {p pos : Pos} {C : Addr} (c : MakerOf X.prog X.w X.K X.mg X.base k x C np fn) (hr : Room (k + 1) X.A) (ha : AE X (e :: es) am) (hn : ∀ ρ os ρ', am ρ = some (os, ρ') → os.length + 1 = np) (hg : Gl X x := by rfl) (hdb : (x == ("__debug__" : Str)) = false := by decide)
    (he : starEach (e :: es) X.env = (false, eval e X.env) :: starEach es X.env := by rfl) (hpl : (backTo pos (starEach es X.env)).any (·.1) = false := by rfl) : OE X (.Call (.Name x p) (e :: es) [] pos) (makeM C fn am) := by
  obtain ⟨f, fd, ps, M, Fo, hm, hb⟩ := c.ex
  exact ⟨pe_imp (pe_make M Fo hr hg hm hb .nil pass0 ha.pa hdb he hpl) fun σ H Q h => make_read h hn⟩
/-! o.m(e, ..) -/
def insD (C : Addr) (nm : Str) : D → Bool
  | .ins C' ks ds => decide (C' = C) && decide (nm ∉ ks) && decide (ks.length = ds.length)
  | _ => false
def methC (C : Addr) (nm : Str) (fn : Fn) (io : List Nat) (m : EM) (am : AM) : EM := fun ρ => match frz m ρ with
  | some (o, ρ1) => match look o ρ1 with
    | some d => if insD C nm d = true then match am ρ1 with
      | some (os, ρ2) => if exclOk io (o :: os) then match argsAll io ρ2 0 (o :: os) with
        | some svs => match fn svs with
          | some (.val d, post) => match putBack io post 0 (o :: os) ρ2 with
            | some ρ3 => some (.val d, ρ3)
            | none => none
          | some (.tmp d, post) => match putBack io post 0 (o :: os) ρ2 with
            | some ρ3 => some (.tmp d, ρ3)
            | none => none
          | _ => none
        | none => none else none
      | none => none else none
    | none => none
  | none => none
theorem look_none {nm : Str} : ∀ {ks : List Str} {vs : List V}, nm ∉ ks → (ks.zip vs).lookup nm = none
  | [], _, _ => rfl
  | _ :: _, [], _ => rfl
  | k :: ks, v :: vs, h => by
    rw [List.zip_cons_cons, List.lookup_cons]
    have h1 : (nm == k) = false := by
      rw [beq_eq_false_iff_ne]; exact fun e => h (by rw [e]; exact List.mem_cons_self ..)
    rw [h1]
    exact look_none fun z => h (List.mem_cons_of_mem _ z)
theorem methC_some {C : Addr} {nm : Str} {io : List Nat} {ρ ρ3 : Rho} {r : Opd} (h : methC C nm fn io m am ρ = some (r, ρ3)) : ∃ o ρ1 d os ρ2 svs post, frz m ρ = some (o, ρ1) ∧ look o ρ1 = some d ∧ insD C nm d = true ∧ am ρ1 = some (os, ρ2) ∧ exclOk io (o :: os) = true ∧
    argsAll io ρ2 0 (o :: os) = some svs ∧ fn svs = some (r, post) ∧ (∀ i, r ≠ .var i) ∧ putBack io post 0 (o :: os) ρ2 = some ρ3 := by
  unfold methC at h
  split at h
  · rename_i o ρ1 e1
    split at h
    · rename_i d e2
      split at h
      · rename_i hi
        split at h
        · rename_i os ρ2 e3
          split at h
          · rename_i hx
            split at h
            · rename_i svs e4
              split at h
              · rename_i d' post e5
                split at h
                · rename_i ρ' e6
                  cases h
                  exact ⟨o, ρ1, d, os, ρ2, svs, post, e1, e2, hi, e3, hx, e4, e5, (fun i z => nomatch z), e6⟩
                · cases h
              · rename_i d' post e5
                split at h
                · rename_i ρ' e6
                  cases h
                  exact ⟨o, ρ1, d, os, ρ2, svs, post, e1, e2, hi, e3, hx, e4, e5, (fun i z => nomatch z), e6⟩
                · cases h
              · cases h
            · cases h
          · cases h
        · cases h
      · cases h
    · cases h
  · cases h
theorem insD_some {K : PySem.W.Frag} {F H : Hp} {v : V} {C : Addr} {nm : Str} {d : D} (s : Same F H) (h : Viw K F H v d) (hi : insD C nm d = true) : ∃ a dx fs, v = .ref a ∧ H a = some (.ins C dx fs) ∧ fs.lookup nm = none := by
  cases d with
  | ins C' ks ds =>
    unfold insD at hi
    rw [Bool.and_eq_true, Bool.and_eq_true, decide_eq_true_iff, decide_eq_true_iff] at hi
    obtain ⟨⟨rfl, h2⟩, _⟩ := hi
    obtain ⟨a, dx, vs, rfl, h3, _, _⟩ := h.ins s
    exact ⟨a, dx, _, rfl, h3, look_none h2⟩
  | _ => cases hi
theorem methC_read {C : Addr} {nm : Str} {io : List Nat} {σ : St} {H : Hp} {Q : VK} {E : XK} (h : tE X.K (methC C nm fn io m am) σ H Q) (hn : ∀ ρ os ρ', am ρ = some (os, ρ') → os.length + 1 = np) : tMeth C nm (spF X.K fn np) [] E (tN X.K (frz m)) (tA X.K am) σ H Q := by
  obtain ⟨Fr, F, ρ, r, ρ3, R, em, kk⟩ := h
  obtain ⟨o, ρ1, d, os, ρ2, svs, post, e1, e2, hi, e3, hx, e4, e5, hv, e6⟩ := methC_some em
  refine ⟨Fr, F, ρ, o, ρ1, R, e1, fun F1 H1 v q1 R1 r1 => ?_⟩
  obtain ⟨a, dx, fs, rfl, h1, h2⟩ := insD_some R1.f (r1.look R1 e2) hi
  refine ⟨a, dx, fs, rfl, h1, h2, Fr, F1, ρ1, os, ρ2, R1, e3, fun F2 H2 vs q2 R2 rs => ?_⟩
  show spF X.K fn np (V.ref a :: (vs ++ [])) H2 Q E
  rw [List.append_nil]
  exact call_core R2 (.cons (r1.mono q2) rs) (by rw [List.length_cons]; exact hn _ _ _ e3) hx e4 e5 hv e6 fun F' H' v q R' r' => kk F' H' v ((q1.trans q2).trans q) R' r'
/-- a method that may be called -/
structure MethOf (P : Program) (w : World) (K : PySem.W.Frag) (mg : Str → Option Value) (base : Heap) (k : Nat) (C : Addr) (nm : Str) (np : Nat) (fn : Fn) : Prop where
  ex : ∃ f fd ps, Cls K C ∧ Meth K C nm f ∧ FnOk P w K mg base CX0 k f fd ps (spF K fn np) ∧ Binds K fd ps []
theorem oe_mcall {C : Addr} {nm : Str} {io : List Nat} {apos pos : Pos} {o : Expr} {pl : Sem Bool} (c : MethOf X.prog X.w X.K X.mg X.base k C nm np fn) (hr : Room k X.A) (ho : OE X o m) (ha : AE X (e :: es) am) (hn : ∀ ρ os ρ', am ρ = some (os, ρ') → os.length + 1 = np)
    (hst : starEach (e :: es) X.env = (false, eval e X.env) :: starEach es X.env := by rfl) (hpl : (backTo pos (starEach es X.env)).any (·.1) = false := by rfl)
    (ht : eval (.Call (.Attribute o nm apos) (e :: es) [] pos) X.env = (do
      let ov ← eval o X.env
      standAt apos.atName
      let (f, first) ← holding [ov] (getMethod ov nm pl)
      callWith pos f first (backTo pos (starEach (e :: es) X.env)) (backToKw pos (keywordEach [] X.env))) := by rfl) : OE X (.Call (.Attribute o nm apos) (e :: es) [] pos) (methC C nm fn io m am) := by
  obtain ⟨f, fd, ps, hc, hm, Fo, hb⟩ := c.ex
  exact ⟨pe_imp (pe_meth (pl := pl) ho.ne.pe hc hm Fo hr hb .nil pass0 ha.pa hst hpl ht) fun σ H Q h => methC_read h hn⟩
theorem tNil_of {σ : St} {H : Hp} {Q : List V → Hp → Prop} (h : tA X.K nilA σ H Q) : tNil σ H Q := by
  obtain ⟨Fr, F, ρ, os, ρ', R, em, k⟩ := h
  cases em
  exact k F H [] (Same.refl F) R .nil
theorem oe_mcall0 {C : Addr} {nm : Str} {io : List Nat} {apos pos : Pos} {o : Expr} {pl : Sem Bool} (c : MethOf X.prog X.w X.K X.mg X.base k C nm 1 fn) (hr : Room k X.A) (ho : OE X o m)
    (ht : eval (.Call (.Attribute o nm apos) [] [] pos) X.env = (do
      let ov ← eval o X.env
      standAt apos.atName
      let (f, first) ← holding [ov] (getMethod ov nm pl)
      callWith pos f first (backTo pos (starEach [] X.env)) (backToKw pos (keywordEach [] X.env))) := by rfl) : OE X (.Call (.Attribute o nm apos) [] [] pos) (methC C nm fn io m nilA) := by
  obtain ⟨f, fd, ps, hc, hm, Fo, hb⟩ := c.ex
  refine ⟨pe_imp (pe_meth0 (pl := pl) ho.ne.pe hc hm Fo hr hb .nil pass0 ht) fun σ H Q h => ?_⟩
  obtain ⟨Fr, F, ρ, o, ρ1, R, e1, kk⟩ := methC_read (E := _) h (fun ρ os ρ' e => by rw [nilA_len e])
  exact ⟨Fr, F, ρ, o, ρ1, R, e1, fun F1 H1 v q1 R1 r1 => by
    obtain ⟨a, dx, fs, z1, z2, z3, z4⟩ := kk F1 H1 v q1 R1 r1
    exact ⟨a, dx, fs, z1, z2, z3, tNil_of z4⟩⟩
end
end Ev

set_option Elab.async false
set_option linter.all false
set_option maxRecDepth 100000
/-! Ev. K: chains of comparisons, constants of a module, list(range(n)), properties. -/
set_option autoImplicit false
namespace Ev
open PySem PySem.Spec PyProof.Rows L2

section
variable {X : Cx} {a b c e : Expr} {m ma mb mc : EM} {am : AM} {pos : Pos} {np k : Nat} {fn : Fn}
/-! a < b < c -/
def chnM (g g' : D → D → Option Opd) (ma mb mc : EM) : EM := fun ρ => match frz ma ρ with
  | some (oa, ρ1) => match frz mb ρ1 with
    | some (ob, ρ2) => match look oa ρ2 with
      | some d => match look ob ρ2 with
        | some e => match g d e with
          | some (.val (.bl true)) => match frz mc ρ2 with
            | some (oc, ρ3) => match look ob ρ3 with
              | some e' => match look oc ρ3 with
                | some f => match g' e' f with
                  | some o => some (o, ρ3)
                  | none => none
                | none => none
              | none => none
            | none => none
          | some (.val (.bl false)) => some (.val (.bl false), ρ2)
          | _ => none
        | none => none
      | none => none
    | none => none
  | none => none
theorem chain_read {r r' : R2} {g g' : D → D → Option Opd} (hs : OpS X r g) (hs' : OpS X r' g') {σ : St} {H : Hp} {Q : VK} (h : tE X.K (chnM g g' ma mb mc) σ H Q) : tChain r r' (tN X.K (frz ma)) (tN X.K (frz mb)) (tN X.K (frz mc)) σ H Q := by
  obtain ⟨Fr, F, ρ, o, ρ', R, em, kk⟩ := h
  unfold chnM at em
  split at em
  · rename_i oa ρ1 e1
    split at em
    · rename_i ob ρ2 e2
      split at em
      · rename_i d e3
        split at em
        · rename_i ee e4
          split at em
          · rename_i e5
            split at em
            · rename_i oc ρ3 e6
              split at em
              · rename_i e' e7
                split at em
                · rename_i f e8
                  split at em
                  · rename_i o' e9
                    cases em
                    refine ⟨Fr, F, ρ, _, _, R, e1, fun F1 H1 x q1 R1 r1 => ⟨Fr, F1, ρ1, _, _, R1, e2, fun F2 H2 y q2 R2 r2 => ?_⟩⟩
                    refine hs R2 ((r1.mono q2).look R2 e3) (r2.look R2 e4) e5 fun F3 H3 v q3 R3 r3 => ?_
                    cases r3
                    refine ⟨true, rfl, ?_⟩
                    rw [if_pos rfl]
                    refine ⟨Fr, F3, ρ2, _, _, R3, e6, fun F4 H4 w q4 R4 r4 => ?_⟩
                    exact hs' R4 (((r2.mono q3).mono q4).look R4 e7) (r4.look R4 e8) e9 fun F5 H5 u q5 R5 r5 => kk F5 H5 u ((((q1.trans q2).trans q3).trans q4).trans q5) R5 r5
                  · cases em
                · cases em
              · cases em
            · cases em
          · rename_i e5
            cases em
            refine ⟨Fr, F, ρ, _, _, R, e1, fun F1 H1 x q1 R1 r1 => ⟨Fr, F1, ρ1, _, _, R1, e2, fun F2 H2 y q2 R2 r2 => ?_⟩⟩
            refine hs R2 ((r1.mono q2).look R2 e3) (r2.look R2 e4) e5 fun F3 H3 v q3 R3 r3 => ?_
            cases r3
            refine ⟨false, rfl, ?_⟩
            rw [if_neg (by decide)]
            exact kk F3 H3 _ ((q1.trans q2).trans q3) R3 (.bl false)
          · cases em
        · cases em
      · cases em
    · cases em
  · cases em
theorem oe_chain {op op' : CmpOp} {r r' : R2} {g g' : D → D → Option Opd} (ho : OpR X (compareOp op) r) (ho' : OpR X (compareOp op') r') (hs : OpS X r g) (hs' : OpS X r' g') (ha : OE X a ma) (hb : OE X b mb) (hc : OE X c mc)
    (hm : lastMarks [op, op'] [b, c] = false := by with_unfolding_all rfl) : OE X (.Compare a [op, op'] [b, c] pos) (chnM g g' ma mb mc) :=
  ⟨pe_imp (pe_chain ho ho' ha.ne.pe hb.ne.pe hc.ne.pe hm) fun σ H Q h => chain_read hs hs' h⟩
theorem oe_le_le (ha : OE X a ma) (hb : OE X b mb) (hc : OE X c mc) (hm : lastMarks [.LtE, .LtE] [b, c] = false := by with_unfolding_all rfl) : OE X (.Compare a [.LtE, .LtE] [b, c] pos) (chnM leG leG ma mb mc) := oe_chain op_le op_le ops_B0 ops_B0 ha hb hc hm
theorem oe_lt_lt (ha : OE X a ma) (hb : OE X b mb) (hc : OE X c mc) (hm : lastMarks [.Lt, .Lt] [b, c] = false := by with_unfolding_all rfl) : OE X (.Compare a [.Lt, .Lt] [b, c] pos) (chnM ltG ltG ma mb mc) := oe_chain op_lt op_lt ops_B0 ops_B0 ha hb hc hm
theorem oe_le_lt (ha : OE X a ma) (hb : OE X b mb) (hc : OE X c mc) (hm : lastMarks [.LtE, .Lt] [b, c] = false := by with_unfolding_all rfl) : OE X (.Compare a [.LtE, .Lt] [b, c] pos) (chnM leG ltG ma mb mc) := oe_chain op_le op_lt ops_B0 ops_B0 ha hb hc hm
theorem oe_lt_le (ha : OE X a ma) (hb : OE X b mb) (hc : OE X c mc) (hm : lastMarks [.Lt, .LtE] [b, c] = false := by with_unfolding_all rfl) : OE X (.Compare a [.Lt, .LtE] [b, c] pos) (chnM ltG leG ma mb mc) := oe_chain op_lt op_le ops_B0 ops_B0 ha hb hc hm
theorem te_chain {op op' : CmpOp} {r r' : R2} {g g' : D → D → Option Opd} (ho : OpR X (compareOp op) r) (ho' : OpR X (compareOp op') r') (hs : OpS X r g) (hs' : OpS X r' g') (ha : OE X a ma) (hb : OE X b mb) (hc : OE X c mc)
    (hm : lastMarks [op, op'] [b, c] = false := by with_unfolding_all rfl) : TeE X (.Compare a [op, op'] [b, c] pos) (boolM (chnM g g' ma mb mc)) := by
  refine ⟨pt_imp (pt_chain ho ho' ha.ne.pe hb.ne.pe hc.ne.pe hm) fun σ H Q ⟨Fr, F, ρ, t, ρ', R, em, kk⟩ => ?_⟩
  exact chain_read hs hs' ⟨Fr, F, ρ, _, ρ', R, boolM_some em, fun F' H' v s R' q => by cases q; exact ⟨t, rfl, kk F' H' s R'⟩⟩
theorem te_le_le (ha : OE X a ma) (hb : OE X b mb) (hc : OE X c mc) (hm : lastMarks [.LtE, .LtE] [b, c] = false := by with_unfolding_all rfl) : TeE X (.Compare a [.LtE, .LtE] [b, c] pos) (boolM (chnM leG leG ma mb mc)) := te_chain op_le op_le ops_B0 ops_B0 ha hb hc hm
theorem te_lt_lt (ha : OE X a ma) (hb : OE X b mb) (hc : OE X c mc) (hm : lastMarks [.Lt, .Lt] [b, c] = false := by with_unfolding_all rfl) : TeE X (.Compare a [.Lt, .Lt] [b, c] pos) (boolM (chnM ltG ltG ma mb mc)) := te_chain op_lt op_lt ops_B0 ops_B0 ha hb hc hm
theorem te_le_lt (ha : OE X a ma) (hb : OE X b mb) (hc : OE X c mc) (hm : lastMarks [.LtE, .Lt] [b, c] = false := by with_unfolding_all rfl) : TeE X (.Compare a [.LtE, .Lt] [b, c] pos) (boolM (chnM leG ltG ma mb mc)) := te_chain op_le op_lt ops_B0 ops_B0 ha hb hc hm
theorem te_lt_le (ha : OE X a ma) (hb : OE X b mb) (hc : OE X c mc) (hm : lastMarks [.Lt, .LtE] [b, c] = false := by with_unfolding_all rfl) : TeE X (.Compare a [.Lt, .LtE] [b, c] pos) (boolM (chnM ltG leG ma mb mc)) := te_chain op_lt op_le ops_B0 ops_B0 ha hb hc hm
/-! a constant of the module -/
structure Kst (mg : Str → Option Value) (x : Str) (d : D) : Prop where
  ex : ∃ u v, mg x = some u ∧ RelV v u ∧ ∀ (K : PySem.W.Frag) (F : Hp), Rep K F v d
theorem oe_glob {x : Str} {d : D} (c : Kst X.mg x d) (hg : Gl X x := by rfl) (hd : (x == ("__debug__" : Str)) = false := by decide) : OE X (.Name x pos) (constM d) := by
  obtain ⟨u, v, h1, h2, h3⟩ := c.ex
  refine ⟨pe_imp (pe_glob hg h1 h2 hd) fun σ H Q ⟨Fr, F, ρ, o, ρ', R, em, kk⟩ => ?_⟩
  cases em
  exact kk F H v (Same.refl F) R (h3 _ _)
theorem kst_int {mg : Str → Option Value} {x : Str} {i : Int} (h : ∃ t, mg x = some (.int i t)) : Kst mg x (.int i) := by
  obtain ⟨t, h⟩ := h
  exact ⟨_, .int i, h, ⟨t, rfl⟩, fun K F => .int i⟩
theorem kst_str {mg : Str → Option Value} {x : Str} {i : Str} (h : ∃ t, mg x = some (.str i t)) : Kst mg x (.str i) := by
  obtain ⟨t, h⟩ := h
  exact ⟨_, .str i, h, ⟨t, rfl⟩, fun K F => .str i⟩
/-! list(range(n)) -/
def lrgM (m : EM) : EM := fun ρ => match m ρ with
  | some (.val (.int n), ρ') => if inR n = true ∧ n.toNat ≤ 2 ^ 24 then some (.tmp (.lst (rangeD 0 n.toNat)), ρ') else none
  | _ => none
theorem rg_reps {K : PySem.W.Frag} {F : Hp} (n : Int) : Reps K F (rgV 0 n) (rangeD 0 n.toNat) := by
  have e1 : rgV 0 n = ((List.range n.toNat).map fun i : Nat => (0 : Int) + i).map V.int := by unfold rgV; rw [List.map_map, Int.sub_zero]; rfl
  have e2 : rangeD 0 n.toNat = ((List.range n.toNat).map fun i : Nat => (0 : Int) + i).map D.int := by unfold rangeD; rw [List.map_map]; rfl
  rw [e1, e2]
  exact Reps.of_ints _
theorem oe_listRg {p p2 pos2 : Pos} (hc : X.calm = true) (ha : OE X a m) (hm : X.mg "list" = none) (hm2 : X.mg "range" = none) (hg : Gl X "list" := by rfl) (hg2 : Gl X "range" := by rfl)
    (n1 : starEach [a] X.env = (false, eval a X.env) :: starEach [] X.env := by rfl) (n2 : starEach [.Call (.Name "range" p2) [a] [] pos2] X.env = (false, eval (.Call (.Name "range" p2) [a] [] pos2) X.env) :: starEach [] X.env := by rfl) :
    OE X (.Call (.Name "list" p) [.Call (.Name "range" p2) [a] [] pos2] [] pos) (lrgM m) := by
  refine ⟨pe_imp (pe_listRg hc hg hm (prg_1 hg2 hm2 ha.pe n1) n2) fun σ H Q ⟨Fr, F, ρ, o, ρ', R, em, kk⟩ => ?_⟩
  unfold lrgM at em
  split at em
  · rename_i n ρ1 e1
    split at em
    · rename_i h
      cases em
      refine ⟨Fr, F, ρ, _, _, R, e1, fun F1 H1 v q1 R1 r1 => ?_⟩
      cases r1
      have hi := inR_iff h.1
      refine ⟨n, rfl, ⟨by omega, by omega, hi.1, hi.2, by rw [Int.sub_zero]; exact h.2⟩, fun q hq => ?_⟩
      obtain ⟨R2, r2⟩ := R1.tmp hq (.lst (rg_reps n))
      exact kk F1 _ _ q1 R2 r2
    · cases em
  · cases em
/-! o.f, a property -/
def isInsC (C : Addr) : D → Bool
  | .ins C' _ _ => decide (C' = C)
  | _ => false
def propC (C : Addr) (fn : Fn) (m : EM) : EM := fun ρ => match frz m ρ with
  | some (o, ρ1) => match look o ρ1 with
    | some d => if isInsC C d = true then match argsAll [] ρ1 0 [o] with
      | some svs => match fn svs with
        | some (.val d, _) => some (.val d, ρ1)
        | some (.tmp d, _) => some (.tmp d, ρ1)
        | _ => none
      | none => none else none
    | none => none
  | none => none
theorem propC_some {C : Addr} {ρ ρ3 : Rho} {r : Opd} (h : propC C fn m ρ = some (r, ρ3)) : ∃ o d svs post, frz m ρ = some (o, ρ3) ∧ look o ρ3 = some d ∧ isInsC C d = true ∧ argsAll [] ρ3 0 [o] = some svs ∧ fn svs = some (r, post) ∧ (∀ i, r ≠ .var i) := by
  unfold propC at h
  split at h
  · rename_i o ρ1 e1
    split at h
    · rename_i d e2
      split at h
      · rename_i hi
        split at h
        · rename_i svs e4
          split at h
          · rename_i d' post e5
            cases h
            exact ⟨o, d, svs, post, e1, e2, hi, e4, e5, (fun i z => nomatch z)⟩
          · rename_i d' post e5
            cases h
            exact ⟨o, d, svs, post, e1, e2, hi, e4, e5, (fun i z => nomatch z)⟩
          · cases h
        · cases h
      · cases h
    · cases h
  · cases h
structure PropOn (P : Program) (w : World) (K : PySem.W.Frag) (mg : Str → Option Value) (base : Heap) (k : Nat) (C : Addr) (f : Str) (fn : Fn) : Prop where
  ex : ∃ p g fd ps, Cls K C ∧ PropOf K C f p g ∧ FnOk P w K mg base CX0 k g fd ps (spF K fn 1) ∧ Binds K fd ps []
theorem oe_prop {C : Addr} {f : Str} (c : PropOn X.prog X.w X.K X.mg X.base k C f fn) (hr : Room (k + 1) X.A) (he : OE X e m) (hab : attributeBase e f X.env (eval e X.env) = eval e X.env := by rfl) : OE X (.Attribute e f pos) (propC C fn m) := by
  obtain ⟨p, g, fd, ps, hc, hp, Fo, hb⟩ := c.ex
  refine ⟨pe_imp (pe_prop he.ne.pe hc hp Fo hr hb .nil pass0 hab) fun σ H Q ⟨Fr, F, ρ, r, ρ3, R, em, kk⟩ => ?_⟩
  obtain ⟨o, d, svs, post, e1, e2, hi, e4, e5, hv⟩ := propC_some em
  refine ⟨Fr, F, ρ, o, ρ3, R, e1, fun F1 H1 v q1 R1 r1 => ?_⟩
  cases d with
  | ins C' ks ds =>
    have := of_decide_eq_true hi
    subst this
    obtain ⟨a, dx, vs, rfl, h3, _, _⟩ := (r1.look R1 e2).ins R1.f
    refine ⟨a, dx, _, rfl, h3, ?_⟩
    exact call_core (io := []) (os := [o]) R1 (.cons r1 .nil) rfl (by
      unfold exclOk
      have e6 : varsAt [] true 0 [o] = [] := by cases o <;> simp [varsAt]
      rw [e6]; rfl) e4 e5 hv (by
      unfold putBack; rw [if_neg (by simp)]; rfl) fun F' H' v q R' r' => kk F' H' v (q1.trans q) R' r'
  | _ => cases hi
theorem flds_nil {K : PySem.W.Frag} {f : Str} : Flds K [] f := fun C h => nomatch h
theorem flds_cons {K : PySem.W.Frag} {f : Str} {C : Addr} {Cs : List Addr} (h : Cls K C) (n : NoAttr K C f) (r : Flds K Cs f) : Flds K (C :: Cs) f := fun D h2 => by
  rcases List.mem_cons.1 h2 with rfl | h2
  · exact ⟨h, n⟩
  · exact r D h2
theorem len_up {n : Nat} (h : ∀ ρ os ρ', am ρ = some (os, ρ') → os.length = n) : ∀ ρ os ρ', am ρ = some (os, ρ') → os.length + 1 = n + 1 := fun ρ os ρ' e => by rw [h ρ os ρ' e]
end
end Ev

set_option Elab.async false
set_option linter.all false
set_option maxRecDepth 100000
/-! Ev. L: dicts with ints and texts as keys. -/
set_option autoImplicit false
namespace Ev
open PySem PySem.Spec PyProof.Rows L2

def keyD : D → Option Key
  | .int i => some (.inl i)
  | .str s => some (.inr s)
  | _ => none
def dlk (k : Key) {α : Type} : List Key → List α → Option α
  | k' :: ks, d :: ds => if k' = k then some d else dlk k ks ds
  | _, _ => none
def hasK (k : Key) (ks : List Key) : Bool := ks.any fun k' => decide (k' = k)
def dputK (k : Key) (ks : List Key) : List Key := if hasK k ks = true then ks else ks ++ [k]
def dputD {α : Type} (k : Key) (d : α) (ks : List Key) (ds : List α) : List α := if hasK k ks = true then List.zipWith (fun k' x => if k' = k then d else x) ks ds else ds ++ [d]
section
variable {K : PySem.W.Frag} {F H : Hp} {v : V} {d : D}
theorem Rep.key {k : Key} (h : Rep K F v d) (e : keyD d = some k) : v = kV k := by
  cases h <;> cases e <;> rfl
theorem Viw.key {k : Key} (h : Viw K F H v d) (e : keyD d = some k) : v = kV k := by
  rcases h with h | ⟨a, o, e1, h1, h2⟩
  · exact h.key e
  · cases h2 <;> cases e
theorem dlk_val {k : Key} : ∀ {ks : List Key} {vs : List V} {ds : List D}, Reps K F vs ds → ks.length = vs.length → (∀ d, dlk k ks ds = some d → ∃ v, valV (ks.zip vs) k = some v ∧ Rep K F v d) ∧ (dlk k ks ds = none → valV (ks.zip vs) k = none)
  | [], _, _, _, _ => ⟨(fun d h => nomatch h), fun _ => rfl⟩
  | k' :: ks, _, _, .nil, h => by simp at h
  | k' :: ks, _, _, .cons r rs, h => by
    obtain ⟨h1, h2⟩ := dlk_val (k := k) rs (ks := ks) (by simpa using h)
    rw [List.zip_cons_cons]
    by_cases e : k' = k
    · constructor
      · intro d hd
        rw [dlk, if_pos e] at hd
        cases hd
        exact ⟨_, valV_pos e, r⟩
      · intro hd
        rw [dlk, if_pos e] at hd
        cases hd
    · constructor
      · intro d hd
        rw [dlk, if_neg e] at hd
        obtain ⟨v, h3, h4⟩ := h1 d hd
        exact ⟨v, by rw [valV_neg (by exact e)]; exact h3, h4⟩
      · intro hd
        rw [dlk, if_neg e] at hd
        rw [valV_neg (by exact e)]; exact h2 hd
theorem any_zip {k : Key} : ∀ {ks : List Key} {vs : List V}, ks.length = vs.length → ((ks.zip vs).any fun kv => decide (kv.1 = k)) = hasK k ks
  | [], _, _ => by simp [hasK]
  | k' :: ks, [], h => by simp at h
  | k' :: ks, v :: vs, h => by
    rw [List.zip_cons_cons, List.any_cons, any_zip (by simpa using h), hasK, hasK, List.any_cons]
theorem map_zip {k : Key} {y : V} : ∀ {ks : List Key} {vs : List V}, ((ks.zip vs).map fun kv => if kv.1 = k then (kv.1, y) else kv) = ks.zip (List.zipWith (fun k' x => if k' = k then y else x) ks vs)
  | [], _ => rfl
  | _ :: _, [] => rfl
  | k' :: ks, v :: vs => by
    rw [List.zip_cons_cons, List.map_cons, map_zip, List.zipWith_cons_cons, List.zip_cons_cons]
    by_cases e : k' = k <;> simp [e]
theorem putK_zip {k : Key} {y : V} {ks : List Key} {vs : List V} (h : ks.length = vs.length) : L2.putK (ks.zip vs) k y = (dputK k ks).zip (dputD k y ks vs) ∧ (dputK k ks).length = (dputD k y ks vs).length := by
  unfold L2.putK dputK dputD
  rw [any_zip h]
  by_cases e : hasK k ks = true
  · rw [if_pos e, if_pos e, if_pos e, map_zip]
    exact ⟨rfl, by rw [List.length_zipWith]; omega⟩
  · rw [if_neg e, if_neg e, if_neg e]
    refine ⟨?_, by simp [h]⟩
    rw [List.zip_append h]
    rfl
theorem Reps.dput {k : Key} {y : V} (hy : Rep K F y d) : ∀ {ks : List Key} {vs : List V} {ds : List D}, Reps K F vs ds → Reps K F (List.zipWith (fun k' x => if k' = k then y else x) ks vs) (List.zipWith (fun k' x => if k' = k then d else x) ks ds)
  | [], _, _, _ => .nil
  | _ :: _, _, _, .nil => .nil
  | k' :: ks, _, _, .cons r rs => by
    rw [List.zipWith_cons_cons, List.zipWith_cons_cons]
    refine .cons ?_ (Reps.dput hy rs)
    by_cases e : k' = k
    · rw [if_pos e, if_pos e]; exact hy
    · rw [if_neg e, if_neg e]; exact r
theorem Reps.dputD {k : Key} {y : V} (hy : Rep K F y d) {ks : List Key} {vs : List V} {ds : List D} (r : Reps K F vs ds) : Reps K F (Ev.dputD k y ks vs) (Ev.dputD k d ks ds) := by
  unfold Ev.dputD
  by_cases e : hasK k ks = true
  · rw [if_pos e, if_pos e]; exact Reps.dput hy r
  · rw [if_neg e, if_neg e]; exact r.append (.cons hy .nil)
theorem Viw.dct {ks : List Key} {ds : List D} (s : Same F H) (h : Viw K F H v (.dct ks ds)) : ∃ a vs, v = .ref a ∧ H a = some (.dK (ks.zip vs)) ∧ ks.length = vs.length ∧ Reps K F vs ds := by
  rcases h with h | ⟨a, o, e1, h1, h2⟩
  · cases h with
    | dct h l r => exact ⟨_, _, rfl, s _ _ h, l, r⟩
  · cases h2 with
    | dct l r => exact ⟨_, _, e1, h1, l, r⟩
end
/-- d[k] -/
def dgetG : D → D → Option Opd
  | .dct ks ds, k => match keyD k with
    | some kk => match dlk kk ks ds with
      | some d => some (.val d)
      | none => none
    | none => none
  | _, _ => none
/-- k in d -/
def dinG (neg : Bool) : D → D → Option Opd
  | k, .dct ks ds => match keyD k with
    | some kk => some (.val (.bl (if neg then !(dlk kk ks ds).isSome else (dlk kk ks ds).isSome)))
    | none => none
  | _, _ => none
def dnewM : EM := fun ρ => some (.tmp (.dct [] []), ρ)
def dputM (i : Nat) (mk m : EM) : SM := fun ρ => match esc m ρ with
  | some (d, ρ1) => match ρ1[i]? with
    | some (some _) => match frz mk ρ1 with
      | some (o, ρ2) => match look o ρ2 with
        | some kd => match keyD kd with
          | some k => match ρ2[i]? with
            | some (some (.own (.dct ks ds))) => if ks.length < sizeLine then some (.nx, ρ2.set i (some (.own (.dct (dputK k ks) (dputD k d ks ds))))) else none
            | _ => none
          | none => none
        | none => none
      | none => none
    | _ => none
  | none => none
section
variable {X : Cx} {a b e : Expr} {m ma mb : EM} {pos : Pos}
theorem oe_dnew : OE X (.Dict [] [] pos) dnewM := by
  refine ⟨pe_imp pe_dnewK fun σ H Q ⟨Fr, F, ρ, o, ρ', R, em, kk⟩ => ?_⟩
  cases em
  intro p hp
  obtain ⟨R2, r2⟩ := R.tmp hp (Own.dct (ks := []) (vs := []) (ds := []) rfl .nil)
  exact kk F _ _ (Same.refl F) R2 r2
theorem hu1 {A : Around} (hu : A.units + 64 < cLine) : A.units + 1 < cLine := by omega
theorem oe_dget (hu : X.A.units + 64 < cLine) (ha : OE X a ma) (hb : OE X b mb) (hs : NoSl b := by intro _ _; rfl) : OE X (.Subscript a b pos) (binM dgetG ma mb) := by
  refine ⟨pe_imp (pe_dget (hu1 hu) ha.ne.pe hb.ne.pe hs) fun σ H Q ⟨Fr, F, ρ, o, ρ', R, em, kk⟩ => ?_⟩
  obtain ⟨oa, ρ1, ob, d, e', e1, e2, e3, e4, e5⟩ := binM_some em
  refine ⟨Fr, F, ρ, oa, ρ1, R, e1, fun F1 H1 x q1 R1 r1 => ⟨Fr, F1, ρ1, ob, _, R1, e2, fun F2 H2 y q2 R2 r2 => ?_⟩⟩
  cases d with
  | dct ks ds =>
    dsimp only [dgetG] at e5
    split at e5
    · rename_i k' z1
      split at e5
      · rename_i d' z2
        cases e5
        obtain ⟨p, vs, rfl, h1, h2, h3⟩ := ((r1.mono q2).look R2 e3).dct R2.f
        obtain ⟨w, h4, h5⟩ := (dlk_val h3 h2).1 _ z2
        have h6 := (r2.look R2 e4).key z1
        subst h6
        exact ⟨p, w, rfl, by rw [← h4]; exact DGet.k h1, kk F2 H2 w (q1.trans q2) R2 h5⟩
      · cases e5
    · cases e5
  | _ => cases e5
theorem din_all {σ : St} {H : Hp} {Q : VK} {neg : Bool} (h : tE X.K (binM (dinG neg) ma mb) σ H Q) : tN X.K (frz ma) σ H fun y H1 => tN X.K (frz mb) σ H1 fun x H2 => ∃ a o, x = .ref a ∧ DGet H2 a y o ∧ Q (.bl (if neg then !o.isSome else o.isSome)) H2 := by
  obtain ⟨Fr, F, ρ, o, ρ', R, em, kk⟩ := h
  obtain ⟨oa, ρ1, ob, d, e', e1, e2, e3, e4, e5⟩ := binM_some em
  refine ⟨Fr, F, ρ, oa, ρ1, R, e1, fun F1 H1 y q1 R1 r1 => ⟨Fr, F1, ρ1, ob, _, R1, e2, fun F2 H2 x q2 R2 r2 => ?_⟩⟩
  cases e' with
  | dct ks ds =>
    unfold dinG at e5
    dsimp only at e5
    split at e5
    · rename_i k' z1
      cases e5
      obtain ⟨p, vs, rfl, h1, h2, h3⟩ := (r2.look R2 e4).dct R2.f
      have h6 := ((r1.mono q2).look R2 e3).key z1
      subst h6
      refine ⟨p, valV (ks.zip vs) k', rfl, DGet.k h1, ?_⟩
      have h7 : (valV (ks.zip vs) k').isSome = (dlk k' ks ds).isSome := by
        cases z : dlk k' ks ds with
        | none => rw [(dlk_val h3 h2).2 z]; rfl
        | some d => obtain ⟨w, h4, _⟩ := (dlk_val h3 h2).1 _ z; rw [h4]; rfl
      rw [h7]
      exact kk F2 H2 _ (q1.trans q2) R2 (.bl _)
    · cases e5
  | _ => unfold dinG at e5; cases e5
theorem oe_din (hu : X.A.units + 64 < cLine) (ha : OE X a ma) (hb : OE X b mb) (h1 : behindInMarks .In b = false := by first | exact nobehind _ (by decide) (by decide) | rfl) : OE X (.Compare a [.In] [b] pos) (binM (dinG false) ma mb) :=
  ⟨pe_imp (pe_cmp (pc_din (hu1 hu) ha.ne.pe hb.ne.pe) h1) fun σ H Q h => din_all h⟩
theorem oe_dnin (hu : X.A.units + 64 < cLine) (ha : OE X a ma) (hb : OE X b mb) (h1 : behindInMarks .NotIn b = false := by first | exact nobehind _ (by decide) (by decide) | rfl) : OE X (.Compare a [.NotIn] [b] pos) (binM (dinG true) ma mb) :=
  ⟨pe_imp (pe_cmp (pc_dnotin (hu1 hu) ha.ne.pe hb.ne.pe) h1) fun σ H Q h => din_all h⟩
theorem te_din (hu : X.A.units + 64 < cLine) (ha : OE X a ma) (hb : OE X b mb) (h1 : behindInMarks .In b = false := by first | exact nobehind _ (by decide) (by decide) | rfl) : TeE X (.Compare a [.In] [b] pos) (boolM (binM (dinG false) ma mb)) := by
  refine ⟨pt_imp (pt_cmp (pc_din (hu1 hu) ha.ne.pe hb.ne.pe) h1) fun σ H Q ⟨Fr, F, ρ, c, ρ', R, em, k⟩ => ?_⟩
  exact din_all (neg := false) (Q := fun v H' => ∃ c, v = .bl c ∧ Q c H') ⟨Fr, F, ρ, _, ρ', R, boolM_some em, fun F' H' v s R' q => by cases q; exact ⟨c, rfl, k F' H' s R'⟩⟩
theorem te_dnin (hu : X.A.units + 64 < cLine) (ha : OE X a ma) (hb : OE X b mb) (h1 : behindInMarks .NotIn b = false := by first | exact nobehind _ (by decide) (by decide) | rfl) : TeE X (.Compare a [.NotIn] [b] pos) (boolM (binM (dinG true) ma mb)) := by
  refine ⟨pt_imp (pt_cmp (pc_dnotin (hu1 hu) ha.ne.pe hb.ne.pe) h1) fun σ H Q ⟨Fr, F, ρ, c, ρ', R, em, k⟩ => ?_⟩
  exact din_all (neg := true) (Q := fun v H' => ∃ c, v = .bl c ∧ Q c H') ⟨Fr, F, ρ, _, ρ', R, boolM_some em, fun F' H' v s R' q => by cases q; exact ⟨c, rfl, k F' H' s R'⟩⟩
theorem se_dput (i : Nat) {x : Str} {px tpos : Pos} (hu : X.A.units + 64 < cLine) (h : OE X e m) (hb : OE X b mb) (hN : X.N[i]? = some x := by rfl) (hv : Vis X.env.scope x := by first | exact Or.inl rfl | exact Or.inr (Or.inl rfl) | exact Or.inr (Or.inr rfl)) (hd : (x == ("__debug__" : Str)) = false := by decide)
    (hcd : (x == ("__classdict__" : Str)) = false := by decide) (hs : swapsWith e (some (.Subscript (.Name x px) b tpos)) pos.line X.env = pure false := by rfl) : SE X (.Assign [.Subscript (.Name x px) b tpos] e pos) [] (dputM i mb m) := by
  refine ⟨ps_imp (ps_dput (hu1 hu) (pe_var hN hv hd hcd) hb.ne.pe h.ve.pe hs) fun Dn σ H ⟨Fr, F, ρ, out, ρ', R, em, k⟩ => ?_⟩
  unfold dputM at em
  split at em
  · rename_i d ρ1 e1
    split at em
    · rename_i sv e0
      split at em
      · rename_i o ρ2 e2
        split at em
        · rename_i kd e3
          split at em
          · rename_i kk e4
            split at em
            · rename_i ks ds e5
              split at em
              · rename_i hl
                cases em
                refine ⟨Fr, F, ρ, _, _, R, e1, fun F1 H1 v q1 R1 r1 => ?_⟩
                obtain ⟨u, eu, _⟩ := R1.slot i _ e0
                refine ⟨u, eu, Fr, F1, ρ1, _, _, R1, e2, fun F2 H2 y q2 R2 r2 => ?_⟩
                obtain ⟨u', eu', a', o', ea, g1, g2, g3, g4⟩ := R2.slot i _ e5
                rw [eu] at eu'; cases eu'
                subst ea
                have hy := (r2.look R2 e3).key e4
                subst hy
                cases g2 with
                | @dct _ vs _ l rs =>
                  obtain ⟨z1, z2⟩ := putK_zip (k := kk) (y := v) l
                  refine ⟨a', _, rfl, DPut.k g1 (by rw [List.length_zip]; omega), ?_⟩
                  rw [z1]
                  exact k F2 _ σ (q1.trans q2) (R2.mut e5 eu (.dct z2 (Reps.dputD (r1.mono q2) rs))) (.refl _ _)
              · cases em
            · cases em
          · cases em
        · cases em
      · cases em
    · cases em
  · cases em
end
end Ev

set_option Elab.async false
set_option linter.all false
set_option maxRecDepth 100000
/-! Ev. N: xs.index(x). -/
set_option autoImplicit false
namespace Ev
open PySem PySem.Spec PyProof.Rows L2

/-- the first place of y -/
def indexD (y : D) (ds : List D) : Option Nat := if flatD y && ds.all flatD then ds.findIdx? fun z => eqF z y else none
def indexM (m : EM) (am : AM) : EM := fun ρ => match frz m ρ with
  | some (o, ρ1) => match look o ρ1 with
    | some d1 => match listD d1 with
      | some _ => match am ρ1 with
        | some (os, ρ2) => match look o ρ2 with
          | some d2 => match listD d2 with
            | some ds => match looks os ρ2 with
              | some [y] => match indexD y ds with
                | some j => some (.val (.int (j : Nat)), ρ2)
                | none => none
              | _ => none
            | none => none
          | none => none
        | none => none
      | none => none
    | none => none
  | none => none
theorem indexM_some {m : EM} {am : AM} {ρ ρ2 : Rho} {r : Opd} (h : indexM m am ρ = some (r, ρ2)) : ∃ o ρ1 d1 ds1 os d2 ds y j, frz m ρ = some (o, ρ1) ∧ look o ρ1 = some d1 ∧ listD d1 = some ds1 ∧ am ρ1 = some (os, ρ2) ∧ look o ρ2 = some d2 ∧ listD d2 = some ds ∧ looks os ρ2 = some [y] ∧ indexD y ds = some j ∧ r = .val (.int (j : Nat)) := by
  unfold indexM at h
  split at h
  · rename_i o ρ1 e1
    split at h
    · rename_i d1 e2
      split at h
      · rename_i ds1 e3
        split at h
        · rename_i os ρ2' e4
          split at h
          · rename_i d2 e5
            split at h
            · rename_i ds e6
              split at h
              · rename_i y e7
                split at h
                · rename_i j e8
                  cases h
                  exact ⟨o, ρ1, d1, ds1, os, d2, ds, y, j, e1, e2, e3, e4, e5, e6, e7, e8, rfl⟩
                · cases h
              · cases h
            · cases h
          · cases h
        · cases h
      · cases h
    · cases h
  · cases h
theorem flat_view {K : PySem.W.Frag} {F H : Hp} {v : V} {d : D} (h : Viw K F H v d) (f : flatD d = true) : Rep K F v d := by
  rcases h with h | ⟨a, o, e1, h1, h2⟩
  · exact h
  · cases h2 <;> cases f
section
variable {X : Cx} {o e : Expr} {m : EM} {am : AM} {apos cpos : Pos}
theorem oe_index (ho : OE X o m) (ha : AE X [e] am)
    (hbase : attributeBase o "index" X.env (eval o X.env) = eval o X.env := by rfl)
    (hfew : ((backTo cpos (starEach [e] X.env)).all (fun x => !x.1) && (backToKw cpos (keywordEach [] X.env)).all (fun x => x.1.isSome)
      && decide ([e].length + ([] : List Keyword).length + (if ([] : List Keyword).isEmpty then 0 else 1) < 30)) = true := by rfl)
    (hline : (apos.endLine == cpos.line) = true := by rfl) (hst : starEach [e] X.env = (false, eval e X.env) :: starEach [] X.env := by rfl) (hplain : (backTo cpos (starEach [] X.env)).any (·.1) = false := by rfl) :
    OE X (.Call (.Attribute o "index" apos) [e] [] cpos) (indexM m am) := by
  refine ⟨pe_imp (pe_bm PySem.F.plainAttrs_list PySem.F.slot_list_index rfl mt_index ho.ne.pe ha.pa hbase hfew hline hst hplain) fun σ H Q ⟨Fr, F, ρ, r, ρ2, R, em, kk⟩ => ?_⟩
  obtain ⟨oo, ρ1, d1, ds1, os, d2, ds, y, j, e1, e2, e3, e4, e5, e6, e7, e8, rfl⟩ := indexM_some em
  refine ⟨Fr, F, ρ, oo, ρ1, R, e1, fun F1 H1 v q1 R1 r1 => ?_⟩
  obtain ⟨a, vs1, rfl, h1, _⟩ := (r1.look R1 e2).list R1.f e3
  refine ⟨.inl ⟨rfl, vs1, h1⟩, Fr, F1, ρ1, os, _, R1, e4, fun F2 H2 ws q2 R2 rs => ?_⟩
  obtain ⟨a', vs, ea, h2, h3⟩ := ((r1.mono q2).look R2 e5).list R2.f e6
  cases ea
  have hv := looks_viw R2 rs e7
  obtain ⟨w, rfl, hw⟩ := vw1 hv
  unfold indexD at e8
  split at e8
  · rename_i hf
    rw [Bool.and_eq_true] at hf
    have hw' := flat_view hw hf.1
    obtain ⟨hj1, hj2, hj3⟩ := List.findIdx?_eq_some_iff_getElem.1 e8
    have hz : ds[j]? = some ds[j] := List.getElem?_eq_getElem hj1
    obtain ⟨z, z1, z2⟩ := h3.get hz
    have fz : flatD ds[j] = true := List.all_eq_true.1 hf.2 _ (List.getElem_mem hj1)
    refine ⟨a, vs, w, j, z, rfl, rfl, h2, flat_v hw' hf.1, (in_v hw' hf.1 h3 hf.2).1, z1, by rw [eq_v z2 hw' fz hf.1]; exact hj2, fun n z' hn hz' => ?_, kk F2 H2 _ (q1.trans q2) R2 (.int _)⟩
    have hnl : n < ds.length := by omega
    obtain ⟨u, u1, u2⟩ := h3.get (List.getElem?_eq_getElem hnl)
    rw [hz'] at u1
    cases u1
    have fu : flatD ds[n] = true := List.all_eq_true.1 hf.2 _ (List.getElem_mem hnl)
    rw [eq_v u2 hw' fu hf.1]
    have := hj3 n hn
    simpa using this
  · cases e8
end
end Ev

set_option Elab.async false
set_option linter.all false
set_option maxRecDepth 100000
/-! Ev. O: the end of a law whose text has classes. -/
set_option autoImplicit false
namespace Ev
open PySem PySem.Spec PyProof.Rows L2

/-- a def stands in the class at C -/
structure MethAt (K : PySem.W.Frag) (C : Addr) (nm qual : Str) (st : Stmt) : Prop where
  ex : ∃ f fd, Fun K nm qual st f fd ∧ PySem.W.findIn K (.ref C) nm = some (some (.ref f)) ∧ PySem.W.isFn K (.ref f) = true
theorem meth_mk {K : PySem.W.Frag} {C : Addr} {nm qual : Str} {st : Stmt} {f : Addr} {oc : Value} {od an : Option Addr} {osl : Array (Option Value)} {kV doc pm cdv ct : Value}
    (a : PySem.W.findIn K (.ref C) nm = some (some (.ref f))) (i : PySem.W.isFn K (.ref f) = true) (l : K.lookup f = some ⟨oc, od, .func (PySem.W.fnOf nm qual (defArgs st) (defBody st) (defScope st) .none kV doc pm an cdv ct), osl⟩)
    (c : PySem.W.codeIn K cdv qual = true) (k : PySem.W.keepIn K (.ref f) = true) : MethAt K C nm qual st := ⟨f, _, fun_mk l c k, a, i⟩
/-- a class at the top -/
structure ClsAt (K : PySem.W.Frag) (mg : Str → Option Value) (x : Str) (C : Addr) : Prop where
  cl : Cls K C
  makes : PySem.W.makesIn K C = true
  kp : PySem.W.keepIn K (.ref C) = true
  at_ : mg x = some (.ref C)
theorem cls_mk {K : PySem.W.Frag} {h : Heap} {mg : Str → Option Value} {x : Str} {C : Addr} (X : K.In h) (G : h.Ns mainGlobals mg) (a : PySem.W.nsIn K mainGlobals x = some (some (.ref C)))
    (pg : PySem.W.plainGet K C Str.empty = true) (hd : PySem.W.hasDictIn K C = true) (po : PySem.W.plainOver K C = true) (sa : PySem.W.findIn K (.ref C) "__setattr__" = some (some (.builtin "object.__setattr__")))
    (mk : PySem.W.makesIn K C = true) (kp : PySem.W.keepIn K (.ref C) = true) : ClsAt K mg x C := ⟨⟨pg, hd, po, sa⟩, mk, kp, PySem.W.mg_of X G a⟩
theorem maker_of {P : Program} {w : World} {K : PySem.W.Frag} {mg : Str → Option Value} {base : Heap} {x qual : Str} {C : Addr} {st : Stmt} {k np : Nat} {ps : List Str} {fn : Fn} (c : ClsAt K mg x C) (d : MethAt K C "__init__" qual st)
    (ok : ∀ {f : Addr} {fd : FuncData}, Fun K "__init__" qual st f fd → FnOk P w K mg base CX0 k f fd ps (spF K fn np))
    (hb : ∀ (kV doc pm : Value) (an : Option Addr) (cdv ct : Value) (us : List Value), us.length = ps.length → bindArgs (PySem.W.fnOf "__init__" qual (defArgs st) (defBody st) (defScope st) .none kV doc pm an cdv ct) ⟨us, []⟩ = pure (ps.zip us)) : MakerOf P w K mg base k x C np fn := by
  obtain ⟨f, fd, F, h1, h2⟩ := d.ex
  exact ⟨f, fd, ps, ⟨c.makes, h1, h2, c.kp⟩, ok F, c.at_, F.binds hb⟩
theorem methof_of {P : Program} {w : World} {K : PySem.W.Frag} {mg : Str → Option Value} {base : Heap} {nm qual : Str} {C : Addr} {st : Stmt} {k np : Nat} {ps : List Str} {fn : Fn} (c : Cls K C) (d : MethAt K C nm qual st)
    (ok : ∀ {f : Addr} {fd : FuncData}, Fun K nm qual st f fd → FnOk P w K mg base CX0 k f fd ps (spF K fn np))
    (hb : ∀ (kV doc pm : Value) (an : Option Addr) (cdv ct : Value) (us : List Value), us.length = ps.length → bindArgs (PySem.W.fnOf nm qual (defArgs st) (defBody st) (defScope st) .none kV doc pm an cdv ct) ⟨us, []⟩ = pure (ps.zip us)) : MethOf P w K mg base k C nm np fn := by
  obtain ⟨f, fd, F, h1, h2⟩ := d.ex
  exact ⟨f, fd, ps, c, ⟨h1, h2, F.kp⟩, ok F, F.binds hb⟩
/-- the law's promise: True -/
def spTrue (K : PySem.W.Frag) : Sp := fun vs H Q _ => ∃ (a : Addr) (ns : List Int), vs = [.ref a] ∧ SqL K H a (ns.map V.int) ∧ ns.length ≤ 63 ∧ ∀ H', Q (.bl true) H'
theorem law_spT {K : PySem.W.Frag} {fn : Fn} (h : ∀ ns : List Int, ns.length ≤ 63 → ∃ post, fn [.val (.rol (ns.map D.int))] = some (.val (.bl true), post)) : ∀ vs H Q E, spTrue K vs H Q E → spF K fn 1 vs H Q E := by
  rintro vs H Q E ⟨a, ns, rfl, hS, hl, hq⟩
  obtain ⟨h1, Fr, F, args, o, post, h2, h3, h4, h5⟩ := law_sp (E := E) hS (h ns hl)
  refine ⟨h1, Fr, F, args, o, post, h2, h3, h4, fun F' H' v q R r => ?_⟩
  rw [h5 F' H' v q R r]
  exact hq H'
end Ev

set_option Elab.async false
set_option linter.all false
set_option maxRecDepth 100000
/-! Ev. Q: the greater, the lesser of two. -/
set_option autoImplicit false
namespace Ev
open PySem PySem.Spec PyProof.Rows L2
theorem kst_i {K : PySem.W.Frag} {h : Heap} {mg : Str → Option Value} {x : Str} {i : Int} {t : Tok} (X : K.In h) (G : h.Ns mainGlobals mg) (a : PySem.W.nsIn K mainGlobals x = some (some (.int i t))) : Kst mg x (.int i) := kst_int ⟨t, PySem.W.mg_of X G a⟩
theorem kst_s {K : PySem.W.Frag} {h : Heap} {mg : Str → Option Value} {x : Str} {i : Str} {t : Tok} (X : K.In h) (G : h.Ns mainGlobals mg) (a : PySem.W.nsIn K mainGlobals x = some (some (.str i t))) : Kst mg x (.str i) := kst_str ⟨t, PySem.W.mg_of X G a⟩
section
variable {X : Cx} {a b : Expr} {am : AM} {pos p : Pos}
def max2G : List D → Option Opd
  | [.int i, .int j] => some (.val (.int (if j > i then j else i)))
  | _ => none
def min2G : List D → Option Opd
  | [.int i, .int j] => some (.val (.int (if j < i then j else i)))
  | _ => none
theorem cs_max2 : CalS X (fun xs H Q => ∃ i j, xs = [.int i, .int j] ∧ Q (.int (if j > i then j else i)) H) max2G := by
  intro Fr F H ρ σ vs ds o Q R hv g k
  unfold max2G at g
  split at g
  · rename_i i j
    cases g
    cases hv with
    | cons h1 hv => cases hv with
      | cons h2 hv =>
        cases hv
        cases h1.int
        cases h2.int
        exact ⟨i, j, rfl, after_val R (.int _) k⟩
  · cases g
theorem cs_min2 : CalS X (fun xs H Q => ∃ i j, xs = [.int i, .int j] ∧ Q (.int (if j < i then j else i)) H) min2G := by
  intro Fr F H ρ σ vs ds o Q R hv g k
  unfold min2G at g
  split at g
  · rename_i i j
    cases g
    cases hv with
    | cons h1 hv => cases hv with
      | cons h2 hv =>
        cases hv
        cases h1.int
        cases h2.int
        exact ⟨i, j, rfl, after_val R (.int _) k⟩
  · cases g
theorem oe_max2 (hc : X.calm = true) (ha : AE X [a, b] am) (hm : X.mg "max" = none) (hg : Gl X "max" := by rfl) (he : starEach [a, b] X.env = (false, eval a X.env) :: starEach [b] X.env := by rfl) (hpl : (backTo pos (starEach [b] X.env)).any (·.1) = false := by rfl) : OE X (.Call (.Name "max" p) [a, b] [] pos) (biM max2G am) := oe_bi (call_max2 hc) cs_max2 ha hm (by decide +kernel) hg (by decide) (by decide) he hpl
theorem oe_min2 (hc : X.calm = true) (ha : AE X [a, b] am) (hm : X.mg "min" = none) (hg : Gl X "min" := by rfl) (he : starEach [a, b] X.env = (false, eval a X.env) :: starEach [b] X.env := by rfl) (hpl : (backTo pos (starEach [b] X.env)).any (·.1) = false := by rfl) : OE X (.Call (.Name "min" p) [a, b] [] pos) (biM min2G am) := oe_bi (call_min2 hc) cs_min2 ha hm (by decide +kernel) hg (by decide) (by decide) he hpl
end
end Ev

set_option Elab.async false
set_option linter.all false
set_option maxRecDepth 100000
/-! Ev. S: x in xs, items of any depth. -/
set_option autoImplicit false
namespace Ev
open PySem PySem.Spec PyProof.Rows L2
section
variable {X : Cx} {a b : Expr} {ma mb : EM} {pos p : Pos}
def itemsP : PyData → Option (List PyData)
  | .list ds => some ds
  | .tuple ds => some ds
  | _ => none
def inE (neg : Bool) (d e : D) : Option Opd := match inG neg d e with
  | some o => some o
  | none => match toPy d with
    | some p => match toPy e with
      | some q => match itemsP q with
        | some ds => if SeqAt.shaped p = true ∧ SeqAt.shaped q = true then some (.val (.bl (if neg then !ds.any fun z => PyData.eqv z p else ds.any fun z => PyData.eqv z p))) else none
        | none => none
      | none => none
    | none => none
def rInE (K : PySem.W.Frag) (neg : Bool) : R2 := fun x y H Q => rIn K neg x y H Q ∨ ∃ d q ds, Dp K H x d ∧ Dp K H y q ∧ itemsP q = some ds ∧ SeqAt.shaped d = true ∧ SeqAt.shaped q = true ∧ Q (.bl (if neg then !ds.any fun z => PyData.eqv z d else ds.any fun z => PyData.eqv z d)) H
theorem op_inE (hu : X.A.units + 65 < cLine) : OpR X (compareOp .In) (rInE X.K false) := by
  intro pins s σ H x y v u Q I rx ry h
  rcases h with h | ⟨d, q, ds, hd, he, eq, sd, se, q⟩
  · exact op_in_seq _ _ _ _ _ _ _ _ _ I rx ry h
  · obtain ⟨as, r1⟩ := Dp.reads I d x v hd rx
    obtain ⟨bs, r2⟩ := Dp.reads I _ y u he ry
    cases he <;> cases eq
    · exact SeqAt.in_list_reads r2 r1 (SeqAt.canLay_of_shaped se) (SeqAt.canLay_of_shaped sd) (room_in_shaped sd hu) ⟨.bl _, H, I, rfl, q⟩
    · exact SeqAt.in_tuple_reads r2 r1 (SeqAt.canLay_of_shaped se) (SeqAt.canLay_of_shaped sd) (room_in_shaped sd hu) ⟨.bl _, H, I, rfl, q⟩
theorem op_ninE (hu : X.A.units + 65 < cLine) : OpR X (compareOp .NotIn) (rInE X.K true) := by
  intro pins s σ H x y v u Q I rx ry h
  rcases h with h | ⟨d, q, ds, hd, he, eq, sd, se, q⟩
  · exact op_notIn_seq _ _ _ _ _ _ _ _ _ I rx ry h
  · obtain ⟨as, r1⟩ := Dp.reads I d x v hd rx
    obtain ⟨bs, r2⟩ := Dp.reads I _ y u he ry
    cases he <;> cases eq
    · exact SeqAt.notIn_list_reads r2 r1 (SeqAt.canLay_of_shaped se) (SeqAt.canLay_of_shaped sd) (room_in_shaped sd hu) ⟨.bl _, H, I, rfl, q⟩
    · exact SeqAt.notIn_tuple_reads r2 r1 (SeqAt.canLay_of_shaped se) (SeqAt.canLay_of_shaped sd) (room_in_shaped sd hu) ⟨.bl _, H, I, rfl, q⟩
theorem ops_inE (neg : Bool) : OpS X (rInE X.K neg) (inE neg) := by
  intro Fr F H ρ σ x y d e o Q R hx hy g k
  unfold inE at g
  split at g
  · rename_i o' e1
    cases g
    exact .inl (ops_in neg R hx hy e1 k)
  · split at g
    · rename_i p e2
      split at g
      · rename_i q e3
        split at g
        · rename_i ds e4
          split at g
          · rename_i z
            cases g
            exact .inr ⟨p, q, ds, hx.dp R.f e2, hy.dp R.f e3, e4, z.1, z.2, after_val R (.bl _) k⟩
          · cases g
        · cases g
      · cases g
    · cases g
theorem room65 {k : Nat} {A : Around} (r : Room k A) : A.units + 65 < cLine := by have := r.un; omega
theorem oe_inE (hu : X.A.units + 65 < cLine) (ha : OE X a ma) (hb : OE X b mb) (hm : behindInMarks .In b = false := by rfl) : OE X (.Compare a [.In] [b] pos) (binM (inE false) ma mb) := oe_cmp (op_inE hu) (ops_inE false) ha hb hm
theorem oe_ninE (hu : X.A.units + 65 < cLine) (ha : OE X a ma) (hb : OE X b mb) (hm : behindInMarks .NotIn b = false := by rfl) : OE X (.Compare a [.NotIn] [b] pos) (binM (inE true) ma mb) := oe_cmp (op_ninE hu) (ops_inE true) ha hb hm
theorem te_inE (hu : X.A.units + 65 < cLine) (ha : OE X a ma) (hb : OE X b mb) (hm : behindInMarks .In b = false := by rfl) : TeE X (.Compare a [.In] [b] pos) (boolM (binM (inE false) ma mb)) := te_cmp (op_inE hu) (ops_inE false) ha hb hm
theorem te_ninE (hu : X.A.units + 65 < cLine) (ha : OE X a ma) (hb : OE X b mb) (hm : behindInMarks .NotIn b = false := by rfl) : TeE X (.Compare a [.NotIn] [b] pos) (boolM (binM (inE true) ma mb)) := te_cmp (op_ninE hu) (ops_inE true) ha hb hm
end
end Ev

set_option Elab.async false
set_option linter.all false
set_option maxRecDepth 100000
/-! Ev. U: any, all of lists of truth values, ints, Nones. -/
set_option autoImplicit false
namespace Ev
open PySem PySem.Spec PyProof.Rows L2
def tvV : V → Option Bool
  | .non => some false
  | .bl b => some b
  | .int i => some (i != 0)
  | _ => none
def tvD : D → Option Bool
  | .non => some false
  | .bl b => some b
  | .int i => some (i != 0)
  | _ => none
def tvs : List D → Option (List Bool)
  | [] => some []
  | d :: ds => match tvD d, tvs ds with
    | some b, some bs => some (b :: bs)
    | _, _ => none
theorem tv_reps {K : PySem.W.Frag} {F : Hp} : ∀ {vs : List V} {ds : List D} {bs : List Bool}, Reps K F vs ds → tvs ds = some bs → vs.map tvV = bs.map some
  | _, _, bs, .nil, e => by cases e; rfl
  | v :: _, _, bs, .cons h r, e => by
    rw [tvs] at e
    split at e
    · rename_i b bs' e1 e2
      cases e
      have ih := tv_reps r e2
      have h1 : tvV v = some b := by
        cases h <;> first | exact e1 | (cases e1; done)
      rw [List.map_cons, List.map_cons, ih, h1]
    · cases e
theorem truth_tv {prog : Program} {w : World} {A : Around} {xs : List V} {bs : List Bool} {its : List Value} (rv : Vals xs its) (e : xs.map tvV = bs.map some) :
    TruthOf prog w A (fun i v => its.toArray[i]? = some v) (fun i => bs.getD i false) := fun i v s Q E hv hq => by
  have hv' : its[i]? = some v := by simpa using hv
  have hi : i < its.length := (List.getElem?_eq_some_iff.1 hv').1
  have hl := rv.length
  have hx : xs[i]? = some xs[i] := List.getElem?_eq_getElem (by omega)
  obtain ⟨u, hu, hr⟩ := rv.get hx
  rw [hv'] at hu; cases hu
  have h2 : (bs.map some)[i]? = some (tvV xs[i]) := by rw [← e, List.getElem?_map, hx]; rfl
  rw [List.getElem?_map] at h2
  obtain ⟨b, hb, hb2⟩ := Option.map_eq_some_iff.mp h2
  have hg : bs.getD i false = b := by rw [List.getD_eq_getElem?_getD, hb] <;> rfl
  have hq' : Q (bs.getD i false) s := hq
  rw [hg] at hq'
  generalize xs[i] = x at hr hb2
  cases x with
  | non => cases hb2; cases hr; exact truthy_none hq'
  | bl c => cases hb2; cases hr; exact wpAny_truthy_bool hq'
  | int k => cases hb2; obtain ⟨t, rfl⟩ := hr; exact truthy_int hq'
  | _ => cases hb2
section
variable {X : Cx} {pos p : Pos} {e : Expr} {am : AM}
def rAnyE (K : PySem.W.Frag) : List V → Hp → VK → Prop := fun vs H Q => ∃ (a : Addr) (xs : List V) (bs : List Bool), vs = [V.ref a] ∧ SqL K H a xs ∧ xs.map tvV = bs.map some ∧ Q (.bl (bs.any id)) H
def rAllE (K : PySem.W.Frag) : List V → Hp → VK → Prop := fun vs H Q => ∃ (a : Addr) (xs : List V) (bs : List Bool), vs = [V.ref a] ∧ SqL K H a xs ∧ xs.map tvV = bs.map some ∧ Q (.bl (bs.all id)) H
theorem cr_anyE (hc : X.calm = true) : CallR X (.builtin "any") (rAnyE X.K) := by
  intro pins s σ H vs us Q I r h
  obtain ⟨a, xs, bs, rfl, hs, ht, q⟩ := h
  obtain ⟨its, rv, hl, _⟩ := I.list hs
  rw [Vals.ref1 r]
  have hlen := rv.length
  have hlen2 := congrArg List.length ht
  rw [List.length_map, List.length_map] at hlen2
  refine call_any_walk (iter_any hl.isList fun s₂ e2 st hne => ?_)
  subst e2
  refine ⟨_, _, _, _, _, _, _, rfl, Walks.list (A := X.A.in1) (I.ok.hd hc) _ a hne its.toArray, st, truth_tv rv ht, fun h' tk hk => ?_⟩
  refine ⟨.bl _, H, I.kept fun b o eo => hk b o (fun hmem => ?_) (Heap.get?_push_of_some _ eo), ?_, q⟩
  · rcases List.mem_cons.mp hmem with e1 | hmem
    · exact absurd (e1 ▸ Heap.lt_size eo) (Nat.lt_irrefl _)
    · cases hmem
  · show Value.bool _ = Value.bool _
    rw [← L2.any_range, List.size_toArray, ← hlen, hlen2]
theorem cr_allE (hc : X.calm = true) : CallR X (.builtin "all") (rAllE X.K) := by
  intro pins s σ H vs us Q I r h
  obtain ⟨a, xs, bs, rfl, hs, ht, q⟩ := h
  obtain ⟨its, rv, hl, _⟩ := I.list hs
  rw [Vals.ref1 r]
  have hlen := rv.length
  have hlen2 := congrArg List.length ht
  rw [List.length_map, List.length_map] at hlen2
  refine call_all_walk (iter_any hl.isList fun s₂ e2 st hne => ?_)
  subst e2
  refine ⟨_, _, _, _, _, _, _, rfl, Walks.list (A := X.A.in1) (I.ok.hd hc) _ a hne its.toArray, st, truth_tv rv ht, fun h' tk hk => ?_⟩
  refine ⟨.bl _, H, I.kept fun b o eo => hk b o (fun hmem => ?_) (Heap.get?_push_of_some _ eo), ?_, q⟩
  · rcases List.mem_cons.mp hmem with e1 | hmem
    · exact absurd (e1 ▸ Heap.lt_size eo) (Nat.lt_irrefl _)
    · cases hmem
  · show Value.bool _ = Value.bool _
    rw [← L2.all_range, List.size_toArray, ← hlen, hlen2]
def truG (f : List Bool → Bool) : List D → Option Opd
  | [d] => match listD d with
    | some ds => match tvs ds with
      | some ns => some (.val (.bl (f ns)))
      | none => none
    | none => none
  | _ => none
abbrev anyT := truG fun bs => bs.any id
abbrev allT := truG fun bs => bs.all id
theorem cs_anyE : CalS X (rAnyE X.K) anyT := by
  intro Fr F H ρ σ vs ds o Q R hv g k
  unfold anyT truG at g
  split at g
  · rename_i d
    split at g
    · rename_i ds' e1
      split at g
      · rename_i ns e2
        cases g
        obtain ⟨v, rfl, w⟩ := vw1 hv
        obtain ⟨a, vs, rfl, q, r⟩ := w.list R.f e1
        exact ⟨a, vs, ns, rfl, q, tv_reps r e2, after_val R (.bl _) k⟩
      · cases g
    · cases g
  · cases g
theorem cs_allE : CalS X (rAllE X.K) allT := by
  intro Fr F H ρ σ vs ds o Q R hv g k
  unfold allT truG at g
  split at g
  · rename_i d
    split at g
    · rename_i ds' e1
      split at g
      · rename_i ns e2
        cases g
        obtain ⟨v, rfl, w⟩ := vw1 hv
        obtain ⟨a, vs, rfl, q, r⟩ := w.list R.f e1
        exact ⟨a, vs, ns, rfl, q, tv_reps r e2, after_val R (.bl _) k⟩
      · cases g
    · cases g
  · cases g
theorem oe_anyT (hc : X.calm = true) (ha : AE X [e] am) (hm : X.mg "any" = none) (hg : Gl X "any" := by rfl) (he : starEach [e] X.env = (false, eval e X.env) :: starEach [] X.env := by rfl) : OE X (.Call (.Name "any" p) [e] [] pos) (biM anyT am) := oe_bi (cr_anyE hc) cs_anyE ha hm (by decide +kernel) hg (by decide) (by decide) he
theorem oe_allT (hc : X.calm = true) (ha : AE X [e] am) (hm : X.mg "all" = none) (hg : Gl X "all" := by rfl) (he : starEach [e] X.env = (false, eval e X.env) :: starEach [] X.env := by rfl) : OE X (.Call (.Name "all" p) [e] [] pos) (biM allT am) := oe_bi (cr_allE hc) cs_allE ha hm (by decide +kernel) hg (by decide) (by decide) he
theorem ops_isnB : OpS X rNotB (isBG true) := by
  intro Fr F H ρ σ x y d e o Q R hx hy g k
  unfold isBG at g
  split at g
  · rename_i a b
    cases g
    cases hx.bl
    cases hy.bl
    exact ⟨a, b, rfl, rfl, after_val R (.bl _) k⟩
  · cases g
variable {a b : Expr} {ma mb : EM}
theorem oe_isnB (ha : OE X a ma) (hb : OE X b mb) : OE X (.Compare a [.IsNot] [b] pos) (binM (isBG true) ma mb) := oe_cmp op_notBl ops_isnB ha hb (nomark _)
theorem te_isnB (ha : OE X a ma) (hb : OE X b mb) : TeE X (.Compare a [.IsNot] [b] pos) (boolM (binM (isBG true) ma mb)) := te_cmp op_notBl ops_isnB ha hb (nomark _)
end
end Ev

set_option Elab.async false
set_option linter.all false
set_option maxRecDepth 100000
set_option maxHeartbeats 1000000
/-! Ev. Z: zip of a list and a tuple, either way round. -/
set_option autoImplicit false
namespace Ev
open PySem PySem.Spec PyProof.Rows L2 RZ
def ItrK (k : Bool) (h : Heap) (it l : Addr) (i : Nat) : Prop := match k with
  | true => h.IsListIter it l i
  | false => h.IsTupleIter it l i
def Cnt (k : Bool) (h : Heap) (l : Addr) (its : Array Value) : Prop := match k with
  | true => h.IsList l its
  | false => h.IsTuple l its
theorem ItrK.up {k : Bool} {h h' : Heap} {it l : Addr} {i : Nat} (x : ItrK k h it l i) (e : ∀ o, h.get? it = some o → h'.get? it = some o) : ItrK k h' it l i := by
  cases k with
  | true => exact Heap.IsListIter.at x e
  | false => exact Heap.IsTupleIter.at x e
theorem Cnt.up {k : Bool} {h h' : Heap} {l : Addr} {its : Array Value} (x : Cnt k h l its) (e : ∀ o, h.get? l = some o → h'.get? l = some o) : Cnt k h' l its := by
  cases k <;> (obtain ⟨o, ho, r⟩ := x; exact ⟨o, e o ho, r⟩)
theorem ItrK.lt {k : Bool} {h : Heap} {it l : Addr} {i : Nat} (x : ItrK k h it l i) : it < h.objs.size := by
  cases k <;> (obtain ⟨o, ho, r⟩ := x; exact Heap.lt_size ho)
theorem Cnt.lt {k : Bool} {h : Heap} {l : Addr} {its : Array Value} (x : Cnt k h l its) : l < h.objs.size := by
  cases k <;> (obtain ⟨o, ho, r⟩ := x; exact Heap.lt_size ho)
theorem ItrK.obj {k : Bool} {h : Heap} {it l : Addr} {i : Nat} (x : ItrK k h it l i) : ∃ o, h.get? it = some o ∧ ∀ v, o.data ≠ .cell v := by
  cases k <;> (obtain ⟨o, ho, _, hd⟩ := x; exact ⟨o, ho, fun v q => by rw [hd] at q; cases q⟩)
section
variable {prog : Program} {w : World} {A : Around} {E : Value → Shared → Prop} {s : Shared}
theorem nextK_item {k : Bool} {it l : Addr} {i : Nat} {its : Array Value} {x : Value} {Q : Value → Shared → Prop} (h1 : ItrK k s.heap it l i) (h2 : Cnt k s.heap l its) (hx : its[i]? = some x)
    (q : ∀ h', ItrK k h' it l (i + 1) → Heap.SameBut it s.heap h' → Q x { s with heap := h' }) : wpAny (model prog w) A (Builtin.SmallTypes.nextOf (.ref it)) Q E s := by
  cases k with
  | true => exact wpAny_nextOf_list_item h1 h2 hx q
  | false => exact nextOf_tuple_item h1 h2 hx q
theorem nextK_end {k : Bool} {it l : Addr} {i : Nat} {its : Array Value} {Q : Value → Shared → Prop} (hh : A.handled = none) (h1 : ItrK k s.heap it l i) (h2 : Cnt k s.heap l its) (hx : its[i]? = none)
    (q : ∀ h' e, Heap.ExtBut it s.heap h' → (∃ o, h'.get? e = some o ∧ o.cls = .type "StopIteration") → E (.ref e) { s with heap := h' }) : wpAny (model prog w) A (Builtin.SmallTypes.nextOf (.ref it)) Q E s := by
  cases k with
  | true => exact wpAny_nextOf_list_end hh h1 h2 hx q
  | false => exact nextOf_tuple_end hh h1 h2 hx q
theorem zipK_item {k k' : Bool} {z TI TO i1 i2 l1 l2 : Addr} {n1 n2 : Nat} {xs ys : Array Value} {x y a b : Value} {Q : Value → Shared → Prop} (D : ZipApart z TI TO i1 i2 l1 l2) (hz : IsZip s.heap z TI TO .none)
    (hTI : IsPair s.heap TI (.ref i1) (.ref i2)) (hTO : IsPair s.heap TO a b) (u1 : ItrK k s.heap i1 l1 n1) (u2 : ItrK k' s.heap i2 l2 n2) (c1 : Cnt k s.heap l1 xs) (c2 : Cnt k' s.heap l2 ys) (hx : xs[n1]? = some x) (hy : ys[n2]? = some y)
    (q : ∀ h', IsZip h' z TI TO (rawInt s.heap.objs.size) → IsPair h' TO x y → ItrK k h' i1 l1 (n1 + 1) → ItrK k' h' i2 l2 (n2 + 1) → IsPair h' s.heap.objs.size x y → h'.objs.size = s.heap.objs.size + 1 →
      (∀ c o, c ≠ z → c ≠ TO → c ≠ i1 → c ≠ i2 → s.heap.get? c = some o → h'.get? c = some o) → Q (.ref s.heap.objs.size) { s with heap := h' }) : wpAny (model prog w) A (Builtin.«zip.__next__» ⟨[.ref z], []⟩) (fun fin s' => ∃ v, fin = .done (.ret v) ∧ Q v s') E s := by
  show wpAny _ _ (field (.ref z) 2 >>= _) _ _ _; refine wpAny_bind (wpAny_field hz rfl (x := .bool false) rfl ?_); show wpAny _ _ (field (.ref z) 3 >>= _) _ _ _
  refine wpAny_bind (wpAny_field hz rfl (x := .ref TI) rfl (wpAny_bind (wpAny_seqItems hTI rfl ?_))); show wpAny _ _ (Builtin.SmallTypes.ownedTupleIsFree (.ref z) >>= _) _ _ _; refine wpAny_bind ?_
  unfold Builtin.SmallTypes.ownedTupleIsFree
  refine wpAny_bind (wpAny_field hz rfl (x := .none) rfl (wpAny_pure ?_)); simp only [if_true]
  refine wpAny_bind (wpAny_rule (wpAny_bind (wpAny_field hz rfl (x := .ref TO) rfl (wpAny_bind (wpAny_setField_rec hz (by simp) fun g1 w1 s1 => ?_)))))
  replace w1 : IsZip g1 z TI TO .ellipsis := w1
  refine wpAny_bind ?_; simp only [List.zipIdx_cons, List.zipIdx_nil, List.forIn_cons, List.forIn_nil]
  refine wpAny_bind (wpAny_bind (wpAny_onRaise ?_)); show wpAny _ _ (Builtin.SmallTypes.nextOf (.ref i1) >>= _) _ _ _
  refine wpAny_bind (nextK_item (u1.up fun o e => s1.extBut _ _ D.i1z e) (c1.up fun o e => s1.extBut _ _ D.l1z e) hx fun g2 v1 s2 => wpAny_pure ?_)
  have p2 : IsPair g2 TO a b := s2.extBut _ _ D.TOi1 (s1.extBut _ _ D.TOz hTO)
  refine wpAny_bind (wpAny_seqItems p2 rfl (wpAny_bind (wpAny_updateSeq_pair p2 fun g3 p3 s3 => ?_))); replace p3 : IsPair g3 TO x b := p3
  refine wpAny_bind (wpAny_letGo (wpAny_pure ?_)); refine wpAny_bind (wpAny_bind (wpAny_onRaise ?_)); show wpAny _ _ (Builtin.SmallTypes.nextOf (.ref i2) >>= _) _ _ _
  have up3 : ∀ c o, c ≠ z → c ≠ i1 → c ≠ TO → s.heap.get? c = some o → g3.get? c = some o := fun c o q1 q2 q3 e => s3.extBut _ _ q3 (s2.extBut _ _ q2 (s1.extBut _ _ q1 e))
  refine wpAny_bind (nextK_item (u2.up fun o e => up3 _ o D.i2z D.i12.symm D.TOi2.symm e) (c2.up fun o e => up3 _ o D.l2z D.l2i1 D.l2TO e) hy fun g4 v2 s4 => wpAny_pure ?_)
  have p4 : IsPair g4 TO x b := s4.extBut _ _ D.TOi2 p3
  refine wpAny_bind (wpAny_seqItems p4 rfl (wpAny_bind (wpAny_updateSeq_pair p4 fun g5 p5 s5 => ?_))); replace p5 : IsPair g5 TO x y := p5
  refine wpAny_bind (wpAny_letGo (wpAny_pure (wpAny_pure ?_))); refine wpAny_bind (wpAny_seqItems p5 rfl (wpAny_bind (wpAny_newTuple ?_)))
  have sz : g5.objs.size = s.heap.objs.size := by rw [s5.1, s4.1, s3.1, s2.1, s1.1]
  have w5 : IsZip g5 z TI TO .ellipsis := s5.extBut _ _ D.TOz.symm (s4.extBut _ _ D.i2z.symm (s3.extBut _ _ D.TOz.symm (s2.extBut _ _ D.i1z.symm w1)))
  have up5 : ∀ c o, c ≠ z → c ≠ TO → c ≠ i1 → c ≠ i2 → s.heap.get? c = some o → g5.get? c = some o := fun c o q1 q2 q3 q4 e => s5.extBut _ _ q2 (s4.extBut _ _ q4 (up3 c o q1 q3 q2 e))
  have v15 : ItrK k g5 i1 l1 (n1 + 1) := v1.up fun o e => s5.extBut _ _ D.TOi1.symm (s4.extBut _ _ D.i12 (s3.extBut _ _ D.TOi1.symm e))
  have v25 : ItrK k' g5 i2 l2 (n2 + 1) := v2.up fun o e => s5.extBut _ _ D.TOi2.symm e
  have zl : z < g5.objs.size := Heap.lt_size w5
  show wpAny _ _ (Builtin.SmallTypes.ownedTupleHandOut (.ref z) (.ref g5.objs.size) >>= _) _ _ _; refine wpAny_bind ?_
  unfold Builtin.SmallTypes.ownedTupleHandOut
  have w6 : IsZip (g5.push { cls := .type "tuple", data := .seq #[x, y] }) z TI TO .ellipsis := Heap.get?_push_of_some _ w5
  refine wpAny_bind (wpAny_setField_rec w6 (by simp) fun g7 w7 s7 => ?_); replace w7 : IsZip g7 z TI TO (rawInt g5.objs.size) := w7
  refine wpAny_setField_rec w7 (by simp) fun g8 w8 s8 => ?_; replace w8 : IsZip g8 z TI TO (rawInt g5.objs.size) := w8
  have up : ∀ c o, c ≠ z → g5.get? c = some o → g8.get? c = some o := fun c o q1 e => s8.extBut _ _ q1 (s7.extBut _ _ q1 (Heap.get?_push_of_some _ e))
  have new : IsPair g8 g5.objs.size x y := s8.extBut _ _ (Nat.ne_of_gt zl) (s7.extBut _ _ (Nat.ne_of_gt zl) (Heap.get?_push_size _ rfl))
  have sz8 : g8.objs.size = g5.objs.size + 1 := by rw [s8.1, s7.1, Heap.size_push]
  rw [sz] at w8 new sz8; refine wpAny_pure ⟨_, rfl, ?_⟩; show Q (.ref g5.objs.size) _; rw [sz]
  exact q g8 w8 (up _ _ D.TOz p5) (v15.up fun o e => up _ o D.i1z e) (v25.up fun o e => up _ o D.i2z e) new sz8 fun c o q1 q2 q3 q4 e => up c o q1 (up5 c o q1 q2 q3 q4 e)
theorem zipK_end {k k' : Bool} {z TI TO i1 i2 l1 l2 : Addr} {n1 n2 : Nat} {xs ys : Array Value} {a b : Value} {Q : PySem.Fin → Shared → Prop} (hh : A.handled = none) (D : ZipApart z TI TO i1 i2 l1 l2) (hz : IsZip s.heap z TI TO .none)
    (hTI : IsPair s.heap TI (.ref i1) (.ref i2)) (hTO : IsPair s.heap TO a b) (u1 : ItrK k s.heap i1 l1 n1) (u2 : ItrK k' s.heap i2 l2 n2) (c1 : Cnt k s.heap l1 xs) (c2 : Cnt k' s.heap l2 ys) (fin : xs[n1]? = none ∨ ys[n2]? = none)
    (q : ∀ h' e, (∀ c o, c ≠ z → c ≠ TO → c ≠ i1 → c ≠ i2 → s.heap.get? c = some o → h'.get? c = some o) → (∃ o, h'.get? e = some o ∧ o.cls = .type "StopIteration") → E (.ref e) { s with heap := h' }) : wpAny (model prog w) A (Builtin.«zip.__next__» ⟨[.ref z], []⟩) Q E s := by
  show wpAny _ _ (field (.ref z) 2 >>= _) _ _ _; refine wpAny_bind (wpAny_field hz rfl (x := .bool false) rfl ?_); show wpAny _ _ (field (.ref z) 3 >>= _) _ _ _
  refine wpAny_bind (wpAny_field hz rfl (x := .ref TI) rfl (wpAny_bind (wpAny_seqItems hTI rfl ?_))); show wpAny _ _ (Builtin.SmallTypes.ownedTupleIsFree (.ref z) >>= _) _ _ _; refine wpAny_bind ?_
  unfold Builtin.SmallTypes.ownedTupleIsFree
  refine wpAny_bind (wpAny_field hz rfl (x := .none) rfl (wpAny_pure ?_)); simp only [if_true]
  refine wpAny_bind (wpAny_rule (wpAny_bind (wpAny_field hz rfl (x := .ref TO) rfl (wpAny_bind (wpAny_setField_rec hz (by simp) fun g1 w1 s1 => ?_)))))
  replace w1 : IsZip g1 z TI TO .ellipsis := w1
  refine wpAny_bind ?_; simp only [List.zipIdx_cons, List.zipIdx_nil, List.forIn_cons, List.forIn_nil]
  refine wpAny_bind (wpAny_bind (wpAny_onRaise ?_)); show wpAny _ _ (Builtin.SmallTypes.nextOf (.ref i1) >>= _) _ _ _
  cases hx : xs[n1]? with
  | none =>
    refine wpAny_bind (nextK_end hh (u1.up fun o e => s1.extBut _ _ D.i1z e) (c1.up fun o e => s1.extBut _ _ D.l1z e) hx fun g2 e s2 ⟨oe, h1, h2⟩ => ?_)
    have w2 : IsZip g2 z TI TO .ellipsis := s2 _ _ D.i1z.symm w1
    have ne : e ≠ z := by rintro rfl; rw [w2] at h1; cases h1; simp at h2
    refine wpAny_setField_rec w2 (by simp) fun g3 _ s3 => q g3 e (fun c o q1 _ q3 _ x => s3.extBut _ _ q1 (s2 _ _ q3 (s1.extBut _ _ q1 x))) ⟨oe, s3.extBut _ _ ne h1, h2⟩
  | some x =>
    have hy : ys[n2]? = none := by rcases fin with h | h; rw [hx] at h; cases h; exact h
    refine wpAny_bind (nextK_item (u1.up fun o e => s1.extBut _ _ D.i1z e) (c1.up fun o e => s1.extBut _ _ D.l1z e) hx fun g2 v1 s2 => wpAny_pure ?_)
    have p2 : IsPair g2 TO a b := s2.extBut _ _ D.TOi1 (s1.extBut _ _ D.TOz hTO)
    refine wpAny_bind (wpAny_seqItems p2 rfl (wpAny_bind (wpAny_updateSeq_pair p2 fun g3 p3 s3 => ?_)))
    refine wpAny_bind (wpAny_letGo (wpAny_pure ?_)); refine wpAny_bind (wpAny_bind (wpAny_onRaise ?_)); show wpAny _ _ (Builtin.SmallTypes.nextOf (.ref i2) >>= _) _ _ _
    have up3 : ∀ c o, c ≠ z → c ≠ i1 → c ≠ TO → s.heap.get? c = some o → g3.get? c = some o := fun c o q1 q2 q3 e => s3.extBut _ _ q3 (s2.extBut _ _ q2 (s1.extBut _ _ q1 e))
    refine wpAny_bind (nextK_end hh (u2.up fun o e => up3 _ o D.i2z D.i12.symm D.TOi2.symm e) (c2.up fun o e => up3 _ o D.l2z D.l2i1 D.l2TO e) hy fun g4 e s4 ⟨oe, h1, h2⟩ => ?_)
    have w4 : IsZip g4 z TI TO .ellipsis := s4 _ _ D.i2z.symm (s3.extBut _ _ D.TOz.symm (s2.extBut _ _ D.i1z.symm w1))
    have ne : e ≠ z := by rintro rfl; rw [w4] at h1; cases h1; simp at h2
    refine wpAny_setField_rec w4 (by simp) fun g5 _ s5 => q g5 e (fun c o q1 q2 q3 q4 x => s5.extBut _ _ q1 (s4 _ _ q4 (up3 c o q1 q3 q2 x))) ⟨oe, s5.extBut _ _ ne h1, h2⟩
theorem pyNextK_item {k k' : Bool} {z TI TO i1 i2 l1 l2 : Addr} {n1 n2 : Nat} {xs ys : Array Value} {x y a b : Value} {Q : Option Value → Shared → Prop} (D : ZipApart z TI TO i1 i2 l1 l2) (hz : IsZip s.heap z TI TO .none)
    (hTI : IsPair s.heap TI (.ref i1) (.ref i2)) (hTO : IsPair s.heap TO a b) (u1 : ItrK k s.heap i1 l1 n1) (u2 : ItrK k' s.heap i2 l2 n2) (c1 : Cnt k s.heap l1 xs) (c2 : Cnt k' s.heap l2 ys) (hx : xs[n1]? = some x) (hy : ys[n2]? = some y)
    (q : ∀ h', IsZip h' z TI TO (rawInt s.heap.objs.size) → IsPair h' TO x y → ItrK k h' i1 l1 (n1 + 1) → ItrK k' h' i2 l2 (n2 + 1) → IsPair h' s.heap.objs.size x y → h'.objs.size = s.heap.objs.size + 1 →
      (∀ c o, c ≠ z → c ≠ TO → c ≠ i1 → c ≠ i2 → s.heap.get? c = some o → h'.get? c = some o) → Q (some (.ref s.heap.objs.size)) { s with heap := h' }) : wpAny (model prog w) A (pyNext (.ref z)) Q E s := by
  have t : s.TypeIs (.ref z) "zip" := ⟨_, hz, rfl⟩
  unfold pyNext
  exact wpAny_bind (wpAny_attempt (wpAny_callSpecial?_slot (name := Str.ofString "__next__") t F.slot_zip_next (wpAny_call_entry F.slot_zip_next t F.entry_zip_next (zipK_item D hz hTI hTO u1 u2 c1 c2 hx hy fun h' e1 e2 e3 e4 e5 e6 e7 => wpAny_pure (q h' e1 e2 e3 e4 e5 e6 e7)) (F.args_zip_next_1 _))))
theorem pyNextK_end {k k' : Bool} {z TI TO i1 i2 l1 l2 : Addr} {n1 n2 : Nat} {xs ys : Array Value} {a b : Value} {Q : Option Value → Shared → Prop} (hh : A.handled = none) (D : ZipApart z TI TO i1 i2 l1 l2) (hz : IsZip s.heap z TI TO .none)
    (hTI : IsPair s.heap TI (.ref i1) (.ref i2)) (hTO : IsPair s.heap TO a b) (u1 : ItrK k s.heap i1 l1 n1) (u2 : ItrK k' s.heap i2 l2 n2) (c1 : Cnt k s.heap l1 xs) (c2 : Cnt k' s.heap l2 ys) (fin : xs[n1]? = none ∨ ys[n2]? = none)
    (q : ∀ h', (∀ c o, c ≠ z → c ≠ TO → c ≠ i1 → c ≠ i2 → s.heap.get? c = some o → h'.get? c = some o) → Q none { s with heap := h' }) : wpAny (model prog w) A (pyNext (.ref z)) Q E s := by
  have t : s.TypeIs (.ref z) "zip" := ⟨_, hz, rfl⟩
  unfold pyNext
  refine wpAny_bind (wpAny_attempt (wpAny_callSpecial?_slot (name := Str.ofString "__next__") t F.slot_zip_next (wpAny_call_entry F.slot_zip_next t F.entry_zip_next (zipK_end hh D hz hTI hTO u1 u2 c1 c2 fin fun h' e up ⟨o, ho, hc⟩ => ?_) (F.args_zip_next_1 _))))
  exact wpAny_bind (wpAny_isInstance (T := "StopIteration") (b := true) ⟨o, ho, hc⟩ isSubtype_stop (wpAny_pure (q _ up)))
end
def nmK (k : Bool) : String := if k then "list_iterator" else "tuple_iterator"
abbrev kH1 (k : Bool) (h : Heap) (l : Addr) : Heap := h.push { cls := .type (nmK k), data := .fields #[.ref l, .int 0 0] }
abbrev kH2 (k k' : Bool) (h : Heap) (l l' : Addr) : Heap := (kH1 k h l).push { cls := .type (nmK k'), data := .fields #[.ref l', .int 0 0] }
abbrev kH3 (k k' : Bool) (h : Heap) (l l' : Addr) : Heap := (kH2 k k' h l l').push { cls := .type "tuple", data := .seq #[.ref h.objs.size, .ref (kH1 k h l).objs.size] }
abbrev kH4 (k k' : Bool) (h : Heap) (l l' : Addr) : Heap := (kH3 k k' h l l').push { cls := .type "tuple", data := .seq #[.none, .none] }
abbrev kH5 (k k' : Bool) (h : Heap) (l l' : Addr) : Heap := (kH4 k k' h l l').push { cls := .type "zip", data := .fields #[.none, .bool false, .bool false, .ref (kH2 k k' h l l').objs.size, .ref (kH3 k k' h l l').objs.size] }
theorem meetsK {k k' : Bool} (hk : k ≠ k') (l l' : Addr) (xs ys : Array Value) : Meets (Builtin.«zip.__new__» ⟨[.type "zip", .ref l, .ref l'], []⟩) (fun _ R s => Cnt k s.heap l xs ∧ Cnt k' s.heap l' ys ∧ R (.ok (.ret (.ref (kH4 k k' s.heap l l').objs.size))) { s with heap := kH5 k k' s.heap l l' }) :=
  .of_wp fun prog w A R s h => by
    obtain ⟨hp, g, d, tk, os⟩ := s
    obtain ⟨c1, c2, h⟩ := h
    have hsub := sub_zip
    cases k <;> cases k'
    · exact absurd rfl hk
    · have m1 : Heap.IsTuple (Shared.heap ⟨hp, g, d, tk, os⟩) l xs := c1
      have m2 : Heap.IsList (Shared.heap ⟨hp.push { cls := .type "tuple_iterator", data := .fields #[.ref l, .int 0 0] }, g, d, tk, os⟩) l' ys := Heap.IsList.push c2 _
      wp_walk using wpAny_pyIter_tuple m1, wpAny_pyIter_list m2
      exact ⟨_, rfl, h⟩
    · have m1 : Heap.IsList (Shared.heap ⟨hp, g, d, tk, os⟩) l xs := c1
      have m2 : Heap.IsTuple (Shared.heap ⟨hp.push { cls := .type "list_iterator", data := .fields #[.ref l, .int 0 0] }, g, d, tk, os⟩) l' ys := Heap.IsTuple.push c2 _
      wp_walk using wpAny_pyIter_list m1, wpAny_pyIter_tuple m2
      exact ⟨_, rfl, h⟩
    · exact absurd rfl hk
section
variable {prog : Program} {w : World} {A : Around} {E : Value → Shared → Prop} {s : Shared}
theorem callK {k k' : Bool} (hk : k ≠ k') {l l' : Addr} {xs ys : Array Value} {Q : Value → Shared → Prop} (c1 : Cnt k s.heap l xs) (c2 : Cnt k' s.heap l' ys)
    (h : ∀ h', IsZip h' (s.heap.objs.size + 4) (s.heap.objs.size + 2) (s.heap.objs.size + 3) .none → IsPair h' (s.heap.objs.size + 2) (.ref s.heap.objs.size) (.ref (s.heap.objs.size + 1)) → IsPair h' (s.heap.objs.size + 3) .none .none →
      ItrK k h' s.heap.objs.size l 0 → ItrK k' h' (s.heap.objs.size + 1) l' 0 → (∀ c o, s.heap.get? c = some o → h'.get? c = some o) → Q (.ref (s.heap.objs.size + 4)) { s with heap := h' }) : wpAny (model prog w) A (call (.type "zip") [.ref l, .ref l']) Q E s := by
  refine callType_new F.called_zip (by decide) (F.typeCall_zip_2 _ _) (F.newCall_zip_2 _ _) (fun obj => F.args_object_init_3 obj _ _) F.entry_zip_new (meetsK hk l l' xs ys) ⟨c1, c2, ?_⟩
  have e1 : (kH1 k s.heap l).objs.size = s.heap.objs.size + 1 := Heap.size_push ..
  have e2 : (kH2 k k' s.heap l l').objs.size = s.heap.objs.size + 2 := by rw [Heap.size_push, e1]
  have e3 : (kH3 k k' s.heap l l').objs.size = s.heap.objs.size + 3 := by rw [Heap.size_push, e2]
  have e4 : (kH4 k k' s.heap l l').objs.size = s.heap.objs.size + 4 := by rw [Heap.size_push, e3]
  have u5 : (kH5 k k' s.heap l l').get? (kH4 k k' s.heap l l').objs.size = some _ := Heap.get?_push_size _ rfl
  have u4 : (kH5 k k' s.heap l l').get? (kH3 k k' s.heap l l').objs.size = some _ := Heap.get?_push_of_some _ (Heap.get?_push_size _ rfl)
  have u3 : (kH5 k k' s.heap l l').get? (kH2 k k' s.heap l l').objs.size = some _ := Heap.get?_push_of_some _ (Heap.get?_push_of_some _ (Heap.get?_push_size _ rfl))
  have u2 : (kH5 k k' s.heap l l').get? (kH1 k s.heap l).objs.size = some _ := Heap.get?_push_of_some _ (Heap.get?_push_of_some _ (Heap.get?_push_of_some _ (Heap.get?_push_size _ rfl)))
  have u1 : (kH5 k k' s.heap l l').get? s.heap.objs.size = some _ := Heap.get?_push_of_some _ (Heap.get?_push_of_some _ (Heap.get?_push_of_some _ (Heap.get?_push_of_some _ (Heap.get?_push_size _ rfl))))
  show _ ∧ _; rw [e2, e3, e4] at u5; rw [e1, e2] at u3; rw [e3] at u4; rw [e1] at u2; rw [e4]
  refine ⟨⟨_, u5, rfl⟩, h _ u5 u3 u4 ?_ ?_ fun c o x => Heap.get?_push_of_some _ (Heap.get?_push_of_some _ (Heap.get?_push_of_some _ (Heap.get?_push_of_some _ (Heap.get?_push_of_some _ x))))⟩
  · cases k <;> exact ⟨_, u1, rfl, rfl⟩
  · cases k' <;> exact ⟨_, u2, rfl, rfl⟩
end
def SqK (k : Bool) (K : PySem.W.Frag) (H : Hp) (a : Addr) (xs : List V) : Prop := match k with
  | true => SqL K H a xs
  | false => SqT K H a xs
theorem SqK.cnt {X : Cx} {pins : List (Addr × Obj)} {σ : L2.St} {H : Hp} {s : Shared} (I : Inv X pins σ H s) {k : Bool} {a : Addr} {xs : List V} (h : SqK k X.K H a xs) : ∃ its : List Value, Vals xs its ∧ Cnt k s.heap a its.toArray := by
  cases k with
  | true => obtain ⟨its, rv, p, _⟩ := I.list h; exact ⟨its, rv, p.isList⟩
  | false => obtain ⟨its, rv, p, _⟩ := I.tuple h; exact ⟨its, rv, p⟩
theorem SqK.inj {X : Cx} {pins : List (Addr × Obj)} {σ : L2.St} {H : Hp} {s : Shared} (I : Inv X pins σ H s) {k : Bool} {a : Addr} {xs ys : List V} (h : SqK k X.K H a xs) (g : SqK k X.K H a ys) : xs = ys := by
  cases k with
  | true => exact I.list_inj h g
  | false => exact I.tuple_inj h g
def ItzK (k k' : Bool) (K : PySem.W.Frag) (a b : Addr) : It :=
  ⟨fun i H => ∃ (xs ys : List V) (x y : V), SqK k K H a xs ∧ SqK k' K H b ys ∧ xs[i]? = some x ∧ ys[i]? = some y, fun i H v H' => ∃ T x y, v = .ref T ∧ H T = none ∧ H' = upd H T (.tup [x, y]) ∧ (∀ xs, SqK k K H a xs → xs[i]? = some x) ∧ ∀ ys, SqK k' K H b ys → ys[i]? = some y,
    fun i H => ∃ xs ys : List V, SqK k K H a xs ∧ SqK k' K H b ys ∧ (xs.length ≤ i ∨ ys.length ≤ i)⟩
theorem five {z TI TO i1 i2 c : Addr} (h : c ∈ [z, TI, TO, i1, i2]) : c = z ∨ c = TI ∨ c = TO ∨ c = i1 ∨ c = i2 := by simpa using h
theorem turn_zipK {k k' : Bool} {P : Program} {w : World} {K : PySem.W.Frag} {elts : List Expr} {kk : Nat} {tpos : Pos} {a b z TI TO i1 i2 : Addr} (D : ZipApart z TI TO i1 i2 a b) :
    Turn P w K (.Tuple elts kk tpos) (ItzK k k' K a b) [z, TI, TO, i1, i2] z (fun i h => IsZip h z TI TO .none ∧ IsPair h TI (.ref i1) (.ref i2) ∧ (∃ x y, IsPair h TO x y) ∧ ItrK k h i1 a i ∧ ItrK k' h i2 b i) where
  mem := by simp
  obj := fun i h ⟨w1, w2, ⟨x, y, w3⟩, w4, w5⟩ c hc => by
    rcases five hc with rfl | rfl | rfl | rfl | rfl
    · exact ⟨_, w1, fun v q => nomatch q⟩
    · exact ⟨_, w2, fun v q => nomatch q⟩
    · exact ⟨_, w3, fun v q => nomatch q⟩
    · exact w4.obj
    · exact w5.obj
  keep := fun i h h' ⟨w1, w2, ⟨x, y, w3⟩, w4, w5⟩ up => ⟨up z (by simp) _ w1, up TI (by simp) _ w2, ⟨x, y, up TO (by simp) _ w3⟩, w4.up fun o q => up i1 (by simp) o q, w5.up fun o q => up i2 (by simp) o q⟩
  item := by
    rintro X rfl rfl rfl hc i pins s σ H E I hf ⟨w1, w2, ⟨x0, y0, w3⟩, w4, w5⟩ ⟨xs, ys, x, y, q1, q2, hx, hy⟩
    obtain ⟨its, rv, p⟩ := q1.cnt I
    obtain ⟨its2, rv2, p2⟩ := q2.cnt I
    obtain ⟨u, hu, ru⟩ := rv.get hx
    obtain ⟨u2, hu2, ru2⟩ := rv2.get hy
    have zl : z < s.heap.objs.size := Heap.lt_size w1
    refine pyNextK_item D w1 w2 w3 w4 w5 p p2 (x := u) (y := u2) (by simpa using hu) (by simpa using hu2) fun h' z' TO' v1 v2 hT sz up => ⟨_, rfl, wpAny_letOwnedTupleGo_zip (s := { s with heap := h' }) z' fun h'' z'' sb => ?_⟩
    have hT2 : h''.get? s.heap.objs.size = some { cls := .type "tuple", data := .seq #[u, u2] } := (sb.2 _ (Nat.ne_of_gt zl)).trans hT
    have new : ObjOk X.prog X.w (upd H s.heap.objs.size (.tup [x, y])) h'' s.heap.objs.size (.tup [x, y]) := ⟨by show 2 ≤ sizeLine; decide, [u, u2], .cons ru (.cons ru2 .nil), ⟨_, hT2, rfl, _, rfl⟩⟩
    have J : Inv X pins σ (upd H s.heap.objs.size (.tup [x, y])) { s with heap := h'' } := I.turnedNew (t' := s.toks) (ch := [z, TI, TO, i1, i2]) (fun c o hb q => (sb.2 c (fun r => hb (by simp [r]))).trans (up c o (fun r => hb (by simp [r])) (fun r => hb (by simp [r])) (fun r => hb (by simp [r])) (fun r => hb (by simp [r])) q)) hf (Nat.le_refl _) new
    refine ⟨.ref s.heap.objs.size, _, J, rfl, ⟨_, x, y, rfl, I.hok.fresh (Nat.le_refl _), rfl, fun l hl => by rw [hl.inj I q1]; exact hx, fun l hl => by rw [hl.inj I q2]; exact hy⟩, ⟨z'', (sb.2 _ D.TIz).trans (up _ _ D.TIz D.TITO D.TIi1 D.TIi2 w2), ⟨u, u2, (sb.2 _ D.TOz).trans TO'⟩, v1.up fun o q => (sb.2 _ D.i1z).trans q, v2.up fun o q => (sb.2 _ D.i2z).trans q⟩, fun c hcm => ?_⟩
    have hlt : c < s.heap.objs.size := by
      rcases five hcm with r | r | r | r | r
      · rw [r]; exact zl
      · rw [r]; exact Heap.lt_size w2
      · rw [r]; exact Heap.lt_size w3
      · rw [r]; exact w4.lt
      · rw [r]; exact w5.lt
    rw [upd_ne (Nat.ne_of_lt hlt)]; exact (hf c hcm).1
  done := by
    rintro X rfl rfl rfl hc i pins s σ H E I hf ⟨w1, w2, ⟨x0, y0, w3⟩, w4, w5⟩ ⟨xs, ys, q1, q2, fin⟩
    obtain ⟨its, rv, p⟩ := q1.cnt I
    obtain ⟨its2, rv2, p2⟩ := q2.cnt I
    have m1 := rv.length
    have m2 := rv2.length
    refine pyNextK_end (I.ok.hd hc) D w1 w2 w3 w4 w5 p p2 ?_ fun h' up => ⟨rfl, I.turnedL (t' := s.toks) (ch := [z, TI, TO, i1, i2]) (fun c o hb q => up c o (fun r => hb (by simp [r])) (fun r => hb (by simp [r])) (fun r => hb (by simp [r])) (fun r => hb (by simp [r])) q) hf⟩
    rcases fin with q | q
    · exact .inl (by simp; omega)
    · exact .inr (by simp; omega)
  self := fun A i s Q E st h => wpAny_pyIter_zip st.1 h
def iZipK (k k' : Bool) (K : PySem.W.Frag) (ta : TA) : TI := fun σ H R => ta σ H fun vs H1 => ∃ a b xs ys, vs = [.ref a, .ref b] ∧ SqK k K H1 a xs ∧ SqK k' K H1 b ys ∧ R (ItzK k k' K a b) H1
theorem pi_zipK {k k' : Bool} (hk : k ≠ k') {X : Cx} {e e2 : Expr} {ta : TA} {p pos tpos : Pos} {elts : List Expr} {kk : Nat} (hg : Gl X "zip") (hm : X.mg "zip" = none) (ha : PA X [e, e2] ta)
    (hs : starEach [e, e2] X.env = (false, eval e X.env) :: starEach [e2] X.env := by rfl) (hpl : (backTo pos (starEach [e2] X.env)).any (·.1) = false := by rfl) : PI X (.Tuple elts kk tpos) (.Call (.Name "zip" p) [e, e2] [] pos) (iZipK k k' X.K ta) := by
  refine ⟨fun pins s σ H R I h => Call_ (ld_blt I hg hm PyProof.Rows.boot_zip (PyProof.Rows.callWith_type1 (thn (ha.run pos pins s σ H _ I h) fun us s1 ⟨vs, H1, I1, r1, a, b, xs, ys, ex, q1, q2, q⟩ => ?_) hs hpl))⟩
  subst ex
  cases r1 with
  | cons r rr =>
    cases rr with
    | cons r' rr =>
      cases rr; cases r; cases r'
      obtain ⟨its, rv, p1⟩ := q1.cnt I1
      obtain ⟨its2, rv2, p2⟩ := q2.cnt I1
      refine callK hk p1 p2 fun h' z1 z2 z3 z4 z5 up => wpAny_pyIter_zip z1 ?_
      refine ⟨s1.heap.objs.size + 4, [s1.heap.objs.size + 4, s1.heap.objs.size + 2, s1.heap.objs.size + 3, s1.heap.objs.size, s1.heap.objs.size + 1], _, _, H1, rfl, I1.kept (t' := s1.toks) up, turn_zipK (PySem.W.ktu_apart s1.heap.objs.size a b p1.lt p2.lt), ⟨z1, z2, ⟨_, _, z3⟩, z4, z5⟩, fun c hcm => ?_, q⟩
      have hle : s1.heap.objs.size ≤ c := by rcases five hcm with r | r | r | r | r <;> (rw [r]; first | exact Nat.le_add_right _ _ | exact Nat.le_refl _)
      exact I1.fpOk hle (I1.hok.fresh hle)
/-- zip of any two -/
def zipI2 (dm : DM) : IM := fun ρ => match zipI dm ρ with
  | some r => some r
  | none => match dm ρ with
    | some ([a, .tup ys], ρ') => match listD a with
      | some xs => some (zipD xs ys, none, ρ')
      | none => none
    | some ([.tup xs, b], ρ') => match listD b with
      | some ys => some (zipD xs ys, none, ρ')
      | none => none
    | _ => none
theorem sameK {k : Bool} {K : PySem.W.Frag} {F H : Hp} {a : Addr} {xs : List V} (s : Same F H) (h : SqK k K F a xs) : SqK k K H a xs := by
  cases k with
  | true => exact sameL s h
  | false => exact sameT s h
section
variable {X : Cx} {a b : Expr} {dm : DM} {pos p : Pos}
theorem zipK_turn {k k' : Bool} {Fr : Frm} {F1 : Hp} {c1 c2 : Addr} {v1 v2 : List V} {xs ys : List D} (s1 : SqK k X.K F1 c1 v1) (s2 : SqK k' X.K F1 c2 v2) (t1 : Reps X.K F1 v1 xs) (t2 : Reps X.K F1 v2 ys) : IterOk X.K Fr F1 (ItzK k k' X.K c1 c2) (zipD xs ys) :=
  zip_item t1 t2 (fun F2 H2 q f i x y z1 z2 => by
    have u1 := sameK (q.trans f) s1
    have u2 := sameK (q.trans f) s2
    refine ⟨⟨v1, v2, x, y, u1, u2, z1, z2⟩, fun v H' ⟨T, x', y', e1, e2, e3, e4, e5⟩ => ⟨T, e1, e2, ?_⟩⟩
    have g1 := e4 _ u1
    have g2 := e5 _ u2
    rw [z1] at g1; rw [z2] at g2; cases g1; cases g2; exact e3) fun F2 H2 q f i z => ⟨v1, v2, sameK (q.trans f) s1, sameK (q.trans f) s2, z⟩
theorem zipI2_lk {ρ ρ' : Rho} {ds : List D} {j : Nat} {d : D} (h : zipI2 dm ρ = some (ds, some (j, d), ρ')) : False := by
  unfold zipI2 at h
  split at h
  · rename_i r e; cases h; exact zipI_lk e
  · split at h
    · split at h <;> cases h
    · split at h <;> cases h
    · cases h
theorem ie_zip2 {elts : List Expr} {kk : Nat} {tpos : Pos} (hm : X.mg "zip" = none) (hd : DE X [a, b] dm) (hg : Gl X "zip" := by rfl)
    (hs : starEach [a, b] X.env = (false, eval a X.env) :: starEach [b] X.env := by rfl) (hpl : (backTo pos (starEach [b] X.env)).any (·.1) = false := by rfl) : IE X (.Tuple elts kk tpos) (.Call (.Name "zip" p) [a, b] [] pos) [] (zipI2 dm) := by
  refine ⟨⟨fun pins s σ H R I ⟨Fr, F, ρ, ds, lk, ρ', Rr, em, k⟩ => ?_⟩, fun ρ ds j d ρ' em => (zipI2_lk em).elim⟩
  unfold zipI2 at em
  split at em
  · rename_i r e
    cases em
    exact (ie_zip hm hd hg hs hpl).pi.run pins s σ H R I ⟨Fr, F, ρ, ds, lk, ρ', Rr, e, k⟩
  · split at em
    · rename_i d1 ys ρ1 e1
      split at em
      · rename_i xs h1
        cases em
        refine (pi_zipK (k := true) (k' := false) (by decide) hg hm hd.pa hs hpl).run pins s σ H R I ⟨Fr, F, ρ, _, _, Rr, e1, fun F1 H1 vs q1 R1 rs => ?_⟩
        cases rs with
        | cons r1 rs =>
          cases rs with
          | cons r2 rs =>
            cases rs
            obtain ⟨c1, v1, rfl, s1, t1⟩ := r1.list h1
            cases r2 with
            | tup s2 t2 =>
              exact ⟨c1, _, v1, _, rfl, sameL R1.f s1, sameT R1.f s2, k Fr F1 H1 _ q1 R1 rfl (zipK_turn (k := true) (k' := false) s1 s2 t1 t2)⟩
      · cases em
    · rename_i xs d2 ρ1 _ e1
      split at em
      · rename_i ys h2
        cases em
        refine (pi_zipK (k := false) (k' := true) (by decide) hg hm hd.pa hs hpl).run pins s σ H R I ⟨Fr, F, ρ, _, _, Rr, e1, fun F1 H1 vs q1 R1 rs => ?_⟩
        cases rs with
        | cons r1 rs =>
          cases rs with
          | cons r2 rs =>
            cases rs
            obtain ⟨c2, v2, rfl, s2, t2⟩ := r2.list h2
            cases r1 with
            | tup s1 t1 =>
              exact ⟨_, c2, _, v2, rfl, sameT R1.f s1, sameL R1.f s2, k Fr F1 H1 _ q1 R1 rfl (zipK_turn (k := false) (k' := true) s1 s2 t1 t2)⟩
      · cases em
    · cases em
end
end Ev

set_option Elab.async false
set_option linter.all false
set_option maxRecDepth 100000
/-! Ev. V: x in anything, len of dicts too, sorted of ints. -/
set_option autoImplicit false
namespace Ev
open PySem PySem.Spec PyProof.Rows L2
section
variable {X : Cx} {a b e : Expr} {ma mb : EM} {am : AM} {pos p : Pos}
theorem binM_mk {g : D → D → Option Opd} {ρ ρ1 ρ' : Rho} {oa ob o : Opd} {d e : D} (e1 : frz ma ρ = some (oa, ρ1)) (e2 : frz mb ρ1 = some (ob, ρ')) (e3 : look oa ρ' = some d) (e4 : look ob ρ' = some e) (e5 : g d e = some o) : binM g ma mb ρ = some (o, ρ') := by
  unfold binM
  rw [e1]; dsimp only
  rw [e2]; dsimp only
  rw [e3]; dsimp only
  rw [e4]; dsimp only
  rw [e5]
/-- x in a list, a tuple, a dict -/
def inX (neg : Bool) (d e : D) : Option Opd := match e with
  | .dct ks ds => dinG neg d (.dct ks ds)
  | e => inE neg d e
theorem inX_or {neg : Bool} {ρ ρ' : Rho} {o : Opd} (h : binM (inX neg) ma mb ρ = some (o, ρ')) : binM (dinG neg) ma mb ρ = some (o, ρ') ∨ binM (inE neg) ma mb ρ = some (o, ρ') := by
  obtain ⟨oa, ρ1, ob, d, e', e1, e2, e3, e4, e5⟩ := binM_some h
  cases e' with
  | dct ks ds => exact .inl (binM_mk e1 e2 e3 e4 e5)
  | _ => exact .inr (binM_mk e1 e2 e3 e4 e5)
theorem OE.or {m m1 m2 : EM} {e : Expr} (h1 : OE X e m1) (h2 : OE X e m2) (h : ∀ ρ o ρ', m ρ = some (o, ρ') → m1 ρ = some (o, ρ') ∨ m2 ρ = some (o, ρ')) : OE X e m := by
  refine ⟨⟨fun pins s σ H Q I q => ?_⟩⟩
  obtain ⟨Fr, F, ρ, o, ρ', R, em, k⟩ := q
  rcases h ρ o ρ' em with z | z
  · exact h1.pe.run pins s σ H Q I ⟨Fr, F, ρ, o, ρ', R, z, k⟩
  · exact h2.pe.run pins s σ H Q I ⟨Fr, F, ρ, o, ρ', R, z, k⟩
theorem oe_inX (hu : X.A.units + 65 < cLine) (ha : OE X a ma) (hb : OE X b mb) (hm : behindInMarks .In b = false := by first | exact nobehind _ (by decide) (by decide) | rfl) : OE X (.Compare a [.In] [b] pos) (binM (inX false) ma mb) :=
  (oe_din (by omega) ha hb hm).or (oe_inE hu ha hb hm) fun _ _ _ => inX_or
theorem oe_ninX (hu : X.A.units + 65 < cLine) (ha : OE X a ma) (hb : OE X b mb) (hm : behindInMarks .NotIn b = false := by first | exact nobehind _ (by decide) (by decide) | rfl) : OE X (.Compare a [.NotIn] [b] pos) (binM (inX true) ma mb) :=
  (oe_dnin (by omega) ha hb hm).or (oe_ninE hu ha hb hm) fun _ _ _ => inX_or
theorem boolM_mk {m : EM} {ρ ρ' : Rho} {c : Bool} (h : m ρ = some (.val (.bl c), ρ')) : boolM m ρ = some (c, ρ') := by unfold boolM; rw [h]
theorem TeE.or {m m1 m2 : EM} {e : Expr} (h1 : TeE X e (boolM m1)) (h2 : TeE X e (boolM m2)) (h : ∀ ρ o ρ', m ρ = some (o, ρ') → m1 ρ = some (o, ρ') ∨ m2 ρ = some (o, ρ')) : TeE X e (boolM m) := by
  refine ⟨⟨fun pins s σ H Q I q => ?_⟩⟩
  obtain ⟨Fr, F, ρ, c, ρ', R, em, k⟩ := q
  rcases h ρ _ ρ' (boolM_some em) with z | z
  · exact h1.pt.run pins s σ H Q I ⟨Fr, F, ρ, c, ρ', R, boolM_mk z, k⟩
  · exact h2.pt.run pins s σ H Q I ⟨Fr, F, ρ, c, ρ', R, boolM_mk z, k⟩
theorem te_inX (hu : X.A.units + 65 < cLine) (ha : OE X a ma) (hb : OE X b mb) (hm : behindInMarks .In b = false := by first | exact nobehind _ (by decide) (by decide) | rfl) : TeE X (.Compare a [.In] [b] pos) (boolM (binM (inX false) ma mb)) :=
  (te_din (by omega) ha hb hm).or (te_inE hu ha hb hm) fun _ _ _ => inX_or
theorem te_ninX (hu : X.A.units + 65 < cLine) (ha : OE X a ma) (hb : OE X b mb) (hm : behindInMarks .NotIn b = false := by first | exact nobehind _ (by decide) (by decide) | rfl) : TeE X (.Compare a [.NotIn] [b] pos) (boolM (binM (inX true) ma mb)) :=
  (te_dnin (by omega) ha hb hm).or (te_ninE hu ha hb hm) fun _ _ _ => inX_or
/-- len, of dicts too -/
def lenX : List D → Option Opd
  | [.dct ks ds] => some (.val (.int ks.length))
  | ds => lenG ds
theorem cs_lenX : CalS X (fun xs H Q => (∃ x n, xs = [x] ∧ LenV X.K x H n ∧ Q (.int n) H) ∨ ∃ a kvs, xs = [V.ref a] ∧ H a = some (.dK kvs) ∧ Q (.int kvs.length) H) lenX := by
  intro Fr F H ρ σ vs ds o Q R hv g k
  unfold lenX at g
  split at g
  · rename_i ks es
    cases g
    obtain ⟨v, rfl, w⟩ := vw1 hv
    obtain ⟨p, vs, rfl, h1, h2, h3⟩ := w.dct R.f
    refine .inr ⟨p, _, rfl, h1, ?_⟩
    rw [List.length_zip, h2, Nat.min_self, ← h2]
    exact after_val R (.int _) k
  · exact .inl (cs_len R hv g k)
theorem oe_lenX (ha : AE X [e] am) (hm : X.mg "len" = none) (hg : Gl X "len" := by rfl) (he : starEach [e] X.env = (false, eval e X.env) :: starEach [] X.env := by rfl) : OE X (.Call (.Name "len" p) [e] [] pos) (biM lenX am) := oe_bi (call_len.or call_lenD) cs_lenX ha hm PySem.boot_len hg (by decide) (by decide) he
theorem sorted_unique : ∀ {a b : List Int}, a.Perm b → a.Pairwise (· ≤ ·) → b.Pairwise (· ≤ ·) → a = b
  | [], b, h, _, _ => (List.nil_perm.1 h).symm
  | x :: a, [], h, _, _ => absurd h.length_eq (by simp)
  | x :: a, y :: b, h, ha, hb => by
    rw [List.pairwise_cons] at ha hb
    have hx : x ∈ y :: b := h.mem_iff.1 (by simp)
    have hy : y ∈ x :: a := h.mem_iff.2 (by simp)
    have e : x = y := by
      rcases List.mem_cons.1 hx with e | hx
      · exact e
      · rcases List.mem_cons.1 hy with e | hy
        · exact e.symm
        · have := hb.1 x hx
          have := ha.1 y hy
          omega
    subst e
    rw [sorted_unique (List.perm_cons x |>.1 h) ha.2 hb.2]
def srtI (ns : List Int) : List Int := ns.mergeSort (fun a b => decide (a ≤ b))
theorem srtI_perm (ns : List Int) : (srtI ns).Perm ns := List.mergeSort_perm ..
theorem srtI_sorted (ns : List Int) : (srtI ns).Pairwise (· ≤ ·) := by
  have h := List.pairwise_mergeSort (le := fun a b : Int => decide (a ≤ b)) (fun a b c h1 h2 => by simp at *; omega) (fun a b => by simp; omega) ns
  exact h.imp fun h => by simpa using h
theorem srtI_eq {ns ms : List Int} (h : ms.Perm ns) (hs : ms.Pairwise (· ≤ ·)) : srtI ns = ms := sorted_unique ((srtI_perm ns).trans h.symm) (srtI_sorted ns) hs
def sortG : List D → Option Opd
  | [d] => match listD d with
    | some ds => match intsOf ds with
      | some ns => some (.tmp (.lst ((srtI ns).map D.int)))
      | none => none
    | none => none
  | _ => none
theorem cs_sort : CalS X (rSortedI X.K) sortG := by
  intro Fr F H ρ σ vs ds o Q R hv g k
  unfold sortG at g
  split at g
  · rename_i d
    split at g
    · rename_i ds' e1
      split at g
      · rename_i ns e2
        cases g
        obtain ⟨v, rfl, w⟩ := vw1 hv
        obtain ⟨a, vs, rfl, q, r⟩ := w.list R.f e1
        rw [intsOf_eq e2] at r
        rw [r.ints] at q
        refine ⟨a, ns, rfl, q, fun ns' p h1 h2 hp => ?_⟩
        rw [← srtI_eq h1 h2]
        exact after_new R hp (Reps.of_ints _) k
      · cases g
    · cases g
  · cases g
theorem oe_sorted (ha : AE X [e] am) (hm : X.mg "sorted" = none) (hg : Gl X "sorted" := by rfl) (he : starEach [e] X.env = (false, eval e X.env) :: starEach [] X.env := by rfl) : OE X (.Call (.Name "sorted" p) [e] [] pos) (biM sortG am) := oe_bi cr_sortedI cs_sort ha hm (by decide +kernel) hg (by decide) (by decide) he
theorem oe_callC0 {k : Nat} {fn : Fn} {io : List Nat} {x : Str} (c : Callee X.prog X.w X.K X.mg X.base k x 0 fn) (hr : Room k X.A) (hg : Gl X x := by rfl) (hdb : (x == ("__debug__" : Str)) = false := by decide) : OE X (.Call (.Name x p) [] [] pos) (callM fn io nilA) := by
  obtain ⟨f, fd, ps, F, hm, hk, hb⟩ := c.ex
  refine ⟨pe_imp (pe_call0 F hr hg hm hk hb .nil pass0 hdb) fun σ H Q h => ?_⟩
  obtain ⟨Fr, F2, ρ, os, ρ', R, em, kk⟩ := call_read (E := E0) h (fun _ _ _ h => nilA_len h)
  cases em
  exact kk F2 H [] (Same.refl F2) R .nil
end
end Ev

set_option Elab.async false
set_option linter.all false
set_option maxRecDepth 100000
set_option autoImplicit false
namespace Ev.W
open PySem PySem.Spec PyProof.Rows L2 Ev
def m_row_of (κ : String → Nat) : Fn := fnM 2 1 []
    (retM (biM tupleG (consA (compM [2] (rng1 (consD (varM 1) nilD)) (nameG 2) yesM (esc (binM andG (binM shrG (varM 0) (binM subG (binM subG (varM 1) (constM (.int 1))) (varM 2))) (constM (.int 1))))) nilA)))
def m_rows_of (κ : String → Nat) : Fn := fnM 1 1 []
    (retM (compM [1] (rng1 (consD (binM shlG (constM (.int 1)) (varM 0)) nilD)) (nameG 1) yesM (esc (callM (m_row_of κ) [] (consA (varM 1) (consA (varM 0) nilA))))))
def m_rows_beyond (κ : String → Nat) : Fn := fnM 4 4 []
    (seqM (setM 4 (lstM nilD))
    (seqM (forM (zipI2 (consD (callM (m_rows_of κ) [] (consA (biM lenX (consA (varM 0) nilA)) nilA)) (consD (varM 1) nilD))) (tupG 2 (consG (nameG 5) (consG (nameG 6) nilG))) (ifS (andM (boolM (binM isnG (varM 6) (constM .non))) (truM (biM allT (consA (compM [7] (rng1 (consD (biM lenX (consA (varM 0) nilA)) nilD)) (nameG 7) (boolM (binM (inX false) (binM atD (varM 0) (varM 7)) (varM 2))) (esc (binM eqG (binM atD (varM 5) (varM 7)) (varM 3)))) nilA)))) (exprM (methM 4 (consD (tupM (consD (varM 5) (consD (varM 6) nilD))) nilD) appendG)) nextM))
    (retM (varM 4))))
def m_new_forced (κ : String → Nat) : Fn := fnM 4 3 []
    (retM (compM [4] (rng1 (consD (biM lenX (consA (varM 0) nilA)) nilD)) (nameG 4) (andM (boolM (binM (inX true) (binM atD (varM 0) (varM 4)) (varM 2))) (truM (biM allT (consA (compM [5, 6] (nameI 1) (tupG 2 (consG (nameG 5) (consG (nameG 6) nilG))) yesM (esc (binM eqG (binM atD (varM 5) (varM 4)) (varM 3)))) nilA)))) (esc (binM atD (varM 0) (varM 4)))))
def m_forced_steps (κ : String → Nat) : Fn := fnM 2 9 []
    (seqM (setM 2 dnewM)
    (seqM (setM 3 (lstM nilD))
    (seqM (setM 4 (constM (.bl true)))
    (seqM (whileM (truM (varM 4)) (seqM (setM 4 (constM (.bl false)))
    (forM (rng1 (consD (biM lenX (consA (varM 0) nilA)) nilD)) (nameG 5) (seqM (asgM (tupG 2 (consG (nameG 8) (consG (nameG 9) nilG))) (binM atD (varM 0) (varM 5)))
    (seqM (setM 6 (callM (m_rows_beyond κ) [] (consA (varM 8) (consA (varM 9) (consA (varM 2) (consA (varM 1) nilA))))))
    (seqM (ifS (notM (truM (varM 6))) (seqM (exprM (methM 3 (consD (varM 5) nilD) appendG))
    (retM (tupM (consD (varM 2) (consD (biM tupleG (consA (varM 3) nilA)) (consD (constM (.bl true)) nilD)))))) nextM)
    (seqM (setM 7 (callM (m_new_forced κ) [] (consA (varM 8) (consA (varM 6) (consA (varM 2) (consA (varM 1) nilA))))))
    (ifS (truM (varM 7)) (seqM (exprM (methM 3 (consD (varM 5) nilD) appendG))
    (seqM (forM (nameI 7) (nameG 10) (dputM 2 (varM 10) (constM (.bl true))))
    (seqM (setM 4 (constM (.bl true)))
    breakM))) nextM))))))))
    (retM (tupM (consD (varM 2) (consD (biM tupleG (consA (varM 3) nilA)) (consD (constM (.bl false)) nilD)))))))))
def m__law_begin (κ : String → Nat) : Fn := fnM 1 1 []
    (retM (lstM (consD (compM [1] (nameI 0) (nameG 1) yesM (esc (biM intFG (consA (varM 1) nilA)))) (consD (constM (.int 0)) (consD (constM (.int 0)) (consD (constM (.int 7)) nilD))))))
def m__law_draw (κ : String → Nat) : Fn := fnM 2 3 [0]
    (seqM (ifS (boolM (binM gtG (binM atD (varM 0) (constM (.int 2))) (constM (.int 0)))) (seqM (setM 3 (binM atD (varM 0) (constM (.int 2))))
    (seqM (putM 0 (constM (.int 2)) (binM divG (varM 3) (varM 1)))
    (retM (binM modG (biM intFG (consA (varM 3) nilA)) (varM 1))))) nextM)
    (seqM (setM 2 (constM (.int 0)))
    (seqM (ifS (boolM (binM ltG (binM atD (varM 0) (constM (.int 1))) (biM lenX (consA (binM atD (varM 0) (constM (.int 0))) nilA)))) (seqM (setM 4 (binM atD (binM atD (varM 0) (constM (.int 0))) (binM atD (varM 0) (constM (.int 1)))))
    (setM 2 (binM addG (binM mulG (constM (.int 2)) (biM absG (consA (varM 4) nilA))) (biM intFG (consA (binM ltG (varM 4) (constM (.int 0))) nilA))))) nextM)
    (seqM (augAtM 0 (constM (.int 1)) iaddG (constM (.int 1)))
    (seqM (ifS (boolM (binM geG (varM 2) (binM mulG (constM (.int 2)) (binM powG (constM (.int 10)) (constM (.int 18)))))) (seqM (setM 3 (binM modG (biM intFG (consA (binM divG (varM 2) (constM (.int 2))) nilA)) (binM shlG (constM (.int 1)) (constM (.int 6000)))))
    (seqM (putM 0 (constM (.int 2)) (binM divG (varM 3) (varM 1)))
    (retM (binM modG (biM intFG (consA (varM 3) nilA)) (varM 1))))) nextM)
    (seqM (putM 0 (constM (.int 3)) (binM modG (biM intFG (consA (binM addG (binM addG (binM addG (binM mulG (binM atD (varM 0) (constM (.int 3))) (constM (.int 48271))) (binM mulG (binM modG (biM intFG (consA (varM 2) nilA)) (constM (.int 2147483629))) (constM (.int 16807)))) (binM mulG (binM atD (varM 0) (constM (.int 1))) (constM (.int 69621)))) (constM (.int 11))) nilA)) (constM (.int 2147483647))))
    (retM (binM modG (biM intFG (consA (binM divG (binM atD (varM 0) (constM (.int 3))) (constM (.int 16))) nilA)) (varM 1)))))))))
def m__law_pick (κ : String → Nat) : Fn := fnM 2 0 [0]
    (retM (binM atD (varM 1) (callM (m__law_draw κ) [0] (consA (varM 0) (consA (biM lenX (consA (varM 1) nilA)) nilA)))))
def m__law_rare (κ : String → Nat) : Fn := fnM 2 0 [0]
    (retM (binM eqG (callM (m__law_draw κ) [0] (consA (varM 0) (consA (varM 1) nilA))) (binM divG (varM 1) (constM (.int 2)))))
def m__law_shuffled (κ : String → Nat) : Fn := fnM 2 3 [0]
    (seqM (setM 2 (biM listG (consA (varM 1) nilA)))
    (seqM (setM 3 (lstM nilD))
    (seqM (forM (rng1 (consD (biM lenX (consA (varM 2) nilA)) nilD)) (nameG 4) (exprM (methM 3 (consD (methM 2 (consD (callM (m__law_draw κ) [0] (consA (varM 0) (consA (biM lenX (consA (varM 2) nilA)) nilA))) nilD) popAtG) nilD) appendG)))
    (retM (varM 3)))))
def m__law_is_int (κ : String → Nat) : Fn := fnM 1 0 []
    (retM (andV (isiM ["int"] (varM 0)) (notV (isiM ["bool"] (varM 0)))))
def m__law_is_ints (κ : String → Nat) : Fn := fnM 1 1 []
    (retM (andV (isiM ["tuple"] (varM 0)) (biM allT (consA (compM [1] (nameI 0) (nameG 1) yesM (esc (callM (m__law_is_int κ) [] (consA (varM 1) nilA)))) nilA))))
def m__law_row (κ : String → Nat) : Fn := fnM 2 1 []
    (retM (biM tupleG (consA (compM [2] (rng1 (consD (varM 1) nilD)) (nameG 2) yesM (esc (binM andG (binM shrG (varM 0) (binM subG (binM subG (varM 1) (constM (.int 1))) (varM 2))) (constM (.int 1))))) nilA)))
def m__law_rows (κ : String → Nat) : Fn := fnM 1 1 []
    (retM (compM [1] (rng1 (consD (binM shlG (constM (.int 1)) (varM 0)) nilD)) (nameG 1) yesM (esc (callM (m__law_row κ) [] (consA (varM 1) (consA (varM 0) nilA))))))
def m__law_number (κ : String → Nat) : Fn := fnM 1 2 []
    (seqM (setM 1 (constM (.int 0)))
    (seqM (forM (nameI 0) (nameG 2) (setM 1 (binM addG (binM mulG (varM 1) (constM (.int 2))) (varM 2))))
    (retM (varM 1))))
def m__law_ones (κ : String → Nat) : Fn := fnM 1 1 []
    (seqM (setM 1 (constM (.int 0)))
    (seqM (whileM (boolM (binM gtG (varM 0) (constM (.int 0)))) (seqM (setM 0 (binM andG (varM 0) (binM subG (varM 0) (constM (.int 1)))))
    (augM 1 iaddG (constM (.int 1)))))
    (retM (varM 1))))
def m__law_sum (κ : String → Nat) : Fn := fnM 1 2 []
    (seqM (setM 1 (constM (.int 0)))
    (seqM (forM (nameI 0) (nameG 2) (seqM (ifS (boolM (binM isG (varM 2) (constM .non))) (retM (constM .non)) nextM)
    (augM 1 iaddG (varM 2))))
    (retM (varM 1))))
def m__law_low (κ : String → Nat) : Fn := fnM 1 2 []
    (seqM (setM 1 (constM .non))
    (seqM (forM (nameI 0) (nameG 2) (ifS (andM (boolM (binM isnG (varM 2) (constM .non))) (orM (boolM (binM isG (varM 1) (constM .non))) (boolM (binM ltG (varM 2) (varM 1))))) (setM 1 (varM 2)) nextM))
    (retM (varM 1))))
def m__law_times (κ : String → Nat) : Fn := fnM 2 0 []
    (seqM (ifS (boolM (binM isG (varM 0) (constM .non))) (retM (constM .non)) nextM)
    (retM (binM mulG (varM 0) (varM 1))))
def m__law_above (κ : String → Nat) : Fn := fnM 2 0 []
    (seqM (ifS (boolM (binM isG (varM 1) (constM .non))) (retM (constM (.bl false))) nextM)
    (retM (orV (binM isG (varM 0) (constM .non)) (binM gtG (varM 0) (varM 1)))))
def m__law_most (κ : String → Nat) : Fn := fnM 3 0 []
    (retM (binM orG (binM orG (binM andG (varM 0) (varM 1)) (binM andG (varM 0) (varM 2))) (binM andG (varM 1) (varM 2))))
def m__law_kinds (κ : String → Nat) : Fn := fnM 0 0 []
    (retM (lstM (consD (constM (.str "zero")) (consD (constM (.str "one")) (consD (constM (.str "least")) (consD (constM (.str "greatest")) (consD (constM (.str "cut")) (consD (constM (.str "twos")) (consD (constM (.str "sums")) (consD (constM (.str "ties")) nilD))))))))))
def m__law_breach_one (κ : String → Nat) : Fn := fnM 3 2 []
    (seqM (setM 3 (binM subG (biM lenX (consA (varM 1) nilA)) (constM (.int 1))))
    (seqM (forM (nameI 2) (nameG 4) (ifS (truM (callM (m__law_above κ) [] (consA (binM atD (varM 1) (ifM (boolM (binM eqG (varM 0) (constM (.str "zero")))) (constM (.int 0)) (varM 3))) (consA (binM atD (varM 1) (varM 4)) nilA)))) (retM (constM (.bl true))) nextM))
    (retM (constM (.bl false)))))
def m__law_breach_two (κ : String → Nat) : Fn := fnM 3 4 []
    (seqM (forM (nameI 2) (nameG 3) (forM (nameI 2) (nameG 4) (seqM (setM 5 (callM (m__law_times κ) [] (consA (binM atD (varM 1) (binM andG (varM 3) (varM 4))) (consA (constM (.int 2)) nilA))))
    (seqM (setM 6 (callM (m__law_times κ) [] (consA (binM atD (varM 1) (binM orG (varM 3) (varM 4))) (consA (constM (.int 2)) nilA))))
    (seqM (ifS (boolM (binM eqG (varM 0) (constM (.str "greatest")))) (setM 5 (varM 6)) nextM)
    (seqM (ifS (boolM (binM eqG (varM 0) (constM (.str "cut")))) (setM 5 (callM (m__law_sum κ) [] (consA (lstM (consD (binM atD (varM 1) (binM andG (varM 3) (varM 4))) (consD (binM atD (varM 1) (binM orG (varM 3) (varM 4))) nilD))) nilA))) nextM)
    (ifS (truM (callM (m__law_above κ) [] (consA (varM 5) (consA (binM addG (binM atD (varM 1) (varM 3)) (binM atD (varM 1) (varM 4))) nilA)))) (retM (constM (.bl true))) nextM)))))))
    (retM (constM (.bl false))))
def m__law_breach_three (κ : String → Nat) : Fn := fnM 3 6 []
    (seqM (forM (rng1 (consD (biM lenX (consA (varM 2) nilA)) nilD)) (nameG 3) (forM (rng2 (consD (varM 3) (consD (biM lenX (consA (varM 2) nilA)) nilD))) (nameG 4) (forM (rng2 (consD (varM 4) (consD (biM lenX (consA (varM 2) nilA)) nilD))) (nameG 5) (seqM (setM 6 (binM atD (varM 1) (callM (m__law_most κ) [] (consA (binM atD (varM 2) (varM 3)) (consA (binM atD (varM 2) (varM 4)) (consA (binM atD (varM 2) (varM 5)) nilA))))))
    (seqM (setM 7 (binM atD (varM 1) (binM xorG (binM xorG (binM atD (varM 2) (varM 3)) (binM atD (varM 2) (varM 4))) (binM atD (varM 2) (varM 5)))))
    (seqM (setM 8 (callM (m__law_sum κ) [] (consA (lstM (consD (varM 6) (consD (varM 6) (consD (varM 7) nilD)))) nilA)))
    (seqM (ifS (boolM (binM eqG (varM 0) (constM (.str "twos")))) (setM 8 (callM (m__law_times κ) [] (consA (varM 6) (consA (constM (.int 3)) nilA)))) nextM)
    (seqM (ifS (boolM (binM eqG (varM 0) (constM (.str "sums")))) (setM 8 (callM (m__law_times κ) [] (consA (varM 7) (consA (constM (.int 3)) nilA)))) nextM)
    (ifS (truM (callM (m__law_above κ) [] (consA (varM 8) (consA (binM addG (binM addG (binM atD (varM 1) (binM atD (varM 2) (varM 3))) (binM atD (varM 1) (binM atD (varM 2) (varM 4)))) (binM atD (varM 1) (binM atD (varM 2) (varM 5)))) nilA)))) (retM (constM (.bl true))) nextM)))))))))
    (retM (constM (.bl false))))
def m__law_keeps (κ : String → Nat) : Fn := fnM 2 2 []
    (seqM (setM 2 (compM [3] (rng1 (consD (biM lenX (consA (varM 1) nilA)) nilD)) (nameG 3) (boolM (binM isnG (binM atD (varM 1) (varM 3)) (constM .non))) (esc (varM 3))))
    (seqM (ifS (boolM (binM (inX false) (varM 0) (tupM (consD (constM (.str "zero")) (consD (constM (.str "one")) nilD))))) (retM (notV (callM (m__law_breach_one κ) [] (consA (varM 0) (consA (varM 1) (consA (varM 2) nilA)))))) nextM)
    (seqM (ifS (boolM (binM (inX false) (varM 0) (tupM (consD (constM (.str "least")) (consD (constM (.str "greatest")) (consD (constM (.str "cut")) nilD)))))) (retM (notV (callM (m__law_breach_two κ) [] (consA (varM 0) (consA (varM 1) (consA (varM 2) nilA)))))) nextM)
    (retM (notV (callM (m__law_breach_three κ) [] (consA (varM 0) (consA (varM 1) (consA (varM 2) nilA)))))))))
def m__law_kept (κ : String → Nat) : Fn := fnM 2 1 []
    (retM (biM allT (consA (compM [2] (nameI 1) (nameG 2) yesM (esc (callM (m__law_keeps κ) [] (consA (varM 0) (consA (binM atD (varM 2) (constM (.int 1))) nilA))))) nilA)))
def m__law_first_kind (κ : String → Nat) : Fn := fnM 1 1 []
    (seqM (forM (seqI0 (callM (m__law_kinds κ) [] nilA)) (nameG 1) (ifS (truM (callM (m__law_kept κ) [] (consA (varM 1) (consA (varM 0) nilA)))) (retM (varM 1)) nextM))
    (retM (constM .non)))
def m__law_cost (κ : String → Nat) : Fn := fnM 1 0 [0]
    (seqM (ifS (truM (callM (m__law_rare κ) [0] (consA (varM 0) (consA (constM (.int 11)) nilA)))) (retM (callM (m__law_draw κ) [0] (consA (varM 0) (consA (constM (.int 1001)) nilA)))) nextM)
    (retM (callM (m__law_draw κ) [0] (consA (varM 0) (consA (constM (.int 6)) nilA)))))
def m__law_opened (κ : String → Nat) : Fn := fnM 2 0 [0, 1]
    (seqM (ifS (boolM (binM isG (callM (m__law_low κ) [] (consA (varM 1) nilA)) (constM .non))) (putM 1 (callM (m__law_draw κ) [0] (consA (varM 0) (consA (biM lenX (consA (varM 1) nilA)) nilA))) (callM (m__law_cost κ) [0] (consA (varM 0) nilA))) nextM)
    (retM (varM 1)))
def m__law_loose (κ : String → Nat) : Fn := fnM 3 3 [0]
    (seqM (setM 3 (lstM nilD))
    (seqM (forM (rng1 (consD (binM shlG (constM (.int 1)) (varM 1)) nilD)) (nameG 4) (seqM (setM 5 (binM ltG (callM (m__law_draw κ) [0] (consA (varM 0) (consA (constM (.int 8)) nilA))) (varM 2)))
    (exprM (methM 3 (consD (ifM (truM (varM 5)) (constM .non) (callM (m__law_cost κ) [0] (consA (varM 0) nilA))) nilD) appendG))))
    (retM (tupM (consD (varM 1) (consD (biM tupleG (consA (callM (m__law_opened κ) [0, 1] (consA (varM 0) (consA (varM 3) nilA))) nilA)) nilD))))))
def m__law_crisp (κ : String → Nat) : Fn := fnM 3 3 [0]
    (seqM (setM 3 (callM (m__law_cost κ) [0] (consA (varM 0) nilA)))
    (seqM (setM 4 (compM [5] (rng1 (consD (binM shlG (constM (.int 1)) (varM 1)) nilD)) (nameG 5) yesM (esc (ifM (boolM (binM ltG (callM (m__law_draw κ) [0] (consA (varM 0) (consA (constM (.int 8)) nilA))) (varM 2))) (constM .non) (varM 3)))))
    (retM (tupM (consD (varM 1) (consD (biM tupleG (consA (callM (m__law_opened κ) [0, 1] (consA (varM 0) (consA (varM 4) nilA))) nilA)) nilD))))))
def m__law_turned (κ : String → Nat) : Fn := fnM 1 1 []
    (retM (tupM (consD (binM atD (varM 0) (constM (.int 0))) (consD (biM tupleG (consA (compM [1] (revI (binM atD (varM 0) (constM (.int 1)))) (nameG 1) yesM (esc (varM 1))) nilA)) nilD))))
def m__law_zero (κ : String → Nat) : Fn := fnM 2 2 [0]
    (seqM (setM 2 (biM listG (consA (binM atD (callM (m__law_loose κ) [0] (consA (varM 0) (consA (varM 1) (consA (callM (m__law_draw κ) [0] (consA (varM 0) (consA (constM (.int 5)) nilA))) nilA)))) (constM (.int 1))) nilA)))
    (seqM (setM 3 (callM (m__law_low κ) [] (consA (varM 2) nilA)))
    (seqM (putM 2 (constM (.int 0)) (ifM (boolM (binM eqG (callM (m__law_draw κ) [0] (consA (varM 0) (consA (constM (.int 2)) nilA))) (constM (.int 0)))) (varM 3) (callM (m__law_draw κ) [0] (consA (varM 0) (consA (binM addG (varM 3) (constM (.int 1))) nilA)))))
    (retM (tupM (consD (varM 1) (consD (biM tupleG (consA (varM 2) nilA)) nilD)))))))
def m__law_least (κ : String → Nat) : Fn := fnM 2 10 [0]
    (seqM (setM 2 (binM shlG (constM (.int 1)) (varM 1)))
    (seqM (setM 3 (compM [7] (rng1 (consD (varM 2) nilD)) (nameG 7) yesM (esc (biM intFG (consA (binM ltG (callM (m__law_draw κ) [0] (consA (varM 0) (consA (constM (.int 8)) nilA))) (constM (.int 5))) nilA)))))
    (seqM (putM 3 (callM (m__law_draw κ) [0] (consA (varM 0) (consA (varM 2) nilA))) (constM (.int 1)))
    (seqM (forM (rng1 (consD (varM 2) nilD)) (nameG 4) (forM (rng1 (consD (varM 2) nilD)) (nameG 8) (ifS (andM (boolM (binM eqG (binM atD (varM 3) (varM 4)) (constM (.int 1)))) (boolM (binM eqG (binM atD (varM 3) (varM 8)) (constM (.int 1))))) (putM 3 (binM andG (varM 4) (varM 8)) (constM (.int 1))) nextM)))
    (seqM (forM (revI (lrgM (varM 2))) (nameG 4) (forM (rng1 (consD (varM 2) nilD)) (nameG 8) (ifS (andM (boolM (binM eqG (binM atD (varM 3) (varM 4)) (constM (.int 1)))) (boolM (binM eqG (binM atD (varM 3) (varM 8)) (constM (.int 1))))) (putM 3 (binM andG (varM 4) (varM 8)) (constM (.int 1))) nextM)))
    (seqM (setM 5 (binM mulG (lstM (consD (constM .non) nilD)) (varM 2)))
    (seqM (setM 6 (callM (m__law_draw κ) [0] (consA (varM 0) (consA (constM (.int 4)) nilA))))
    (seqM (forM (rng1 (consD (varM 2) nilD)) (nameG 7) (ifS (boolM (binM eqG (binM atD (varM 3) (varM 7)) (constM (.int 1)))) (seqM (setM 9 (compM [10] (rng1 (consD (varM 7) nilD)) (nameG 10) (boolM (binM eqG (binM andG (varM 10) (varM 7)) (varM 10))) (esc (binM atD (varM 5) (varM 10)))))
    (seqM (setM 9 (compM [11] (nameI 9) (nameG 11) (boolM (binM isnG (varM 11) (constM .non))) (esc (varM 11))))
    (putM 5 (varM 7) (binM addG (biM maxG (consA (binM addG (lstM (consD (varM 6) nilD)) (varM 9)) nilA)) (binM mulG (callM (m__law_draw κ) [0] (consA (varM 0) (consA (constM (.int 3)) nilA))) (callM (m__law_draw κ) [0] (consA (varM 0) (consA (constM (.int 4)) nilA)))))))) nextM))
    (retM (tupM (consD (varM 1) (consD (biM tupleG (consA (varM 5) nilA)) nilD))))))))))))
def m__law_add_bends (κ : String → Nat) : Fn := fnM 3 9 [0, 2]
    (seqM (setM 3 (biM lenX (consA (varM 2) nilA)))
    (seqM (forM (rng1 (consD (callM (m__law_draw κ) [0] (consA (varM 0) (consA (constM (.int 4)) nilA))) nilD)) (nameG 4) (seqM (setM 5 (callM (m__law_draw κ) [0] (consA (varM 0) (consA (varM 3) nilA))))
    (seqM (setM 6 (callM (m__law_draw κ) [0] (consA (varM 0) (consA (constM (.int 6)) nilA))))
    (seqM (setM 7 (callM (m__law_draw κ) [0] (consA (varM 0) (consA (constM (.int 2)) nilA))))
    (forM (rng1 (consD (varM 3) nilD)) (nameG 8) (seqM (setM 11 (binM andG (varM 8) (varM 5)))
    (ifS (orM (andM (boolM (binM eqG (varM 7) (constM (.int 0)))) (boolM (binM neG (varM 11) (varM 5)))) (andM (boolM (binM eqG (varM 7) (constM (.int 1)))) (boolM (binM neG (varM 11) (constM (.int 0)))))) (augAtM 2 (varM 8) iaddG (varM 6)) nextM)))))))
    (seqM (forM (rng1 (consD (callM (m__law_draw κ) [0] (consA (varM 0) (consA (constM (.int 5)) nilA))) nilD)) (nameG 4) (seqM (setM 9 (binM shlG (constM (.int 1)) (callM (m__law_draw κ) [0] (consA (varM 0) (consA (varM 1) nilA)))))
    (seqM (setM 10 (binM shlG (constM (.int 1)) (callM (m__law_draw κ) [0] (consA (varM 0) (consA (varM 1) nilA)))))
    (seqM (setM 6 (callM (m__law_draw κ) [0] (consA (varM 0) (consA (constM (.int 6)) nilA))))
    (forM (rng1 (consD (varM 3) nilD)) (nameG 8) (ifS (andM (boolM (binM gtG (binM andG (varM 8) (varM 9)) (constM (.int 0)))) (boolM (binM eqG (binM andG (varM 8) (varM 10)) (constM (.int 0))))) (augAtM 2 (varM 8) iaddG (varM 6)) nextM))))))
    (retM (varM 2)))))
def m__law_cut (κ : String → Nat) : Fn := fnM 2 11 [0]
    (seqM (setM 2 (binM shlG (constM (.int 1)) (varM 1)))
    (seqM (setM 3 (binM mulG (lstM (consD (callM (m__law_draw κ) [0] (consA (varM 0) (consA (constM (.int 4)) nilA))) nilD)) (varM 2)))
    (seqM (forM (rng1 (consD (varM 1) nilD)) (nameG 4) (seqM (setM 7 (lstM (consD (callM (m__law_draw κ) [0] (consA (varM 0) (consA (constM (.int 6)) nilA))) (consD (callM (m__law_draw κ) [0] (consA (varM 0) (consA (constM (.int 6)) nilA))) nilD))))
    (setM 3 (compM [12] (rng1 (consD (varM 2) nilD)) (nameG 12) yesM (esc (binM addG (binM atD (varM 3) (varM 12)) (binM atD (varM 7) (binM andG (binM shrG (varM 12) (varM 4)) (constM (.int 1))))))))))
    (seqM (setM 3 (callM (m__law_add_bends κ) [0, 2] (consA (varM 0) (consA (varM 1) (consA (varM 3) nilA)))))
    (seqM (setM 5 (callM (m__law_draw κ) [0] (consA (varM 0) (consA (varM 2) nilA))))
    (seqM (forM (rng1 (consD (binM mulG (binM divG (callM (m__law_draw κ) [0] (consA (varM 0) (consA (constM (.int 4)) nilA))) (constM (.int 2))) (callM (m__law_draw κ) [0] (consA (varM 0) (consA (constM (.int 3)) nilA)))) nilD)) (nameG 6) (seqM (setM 8 (binM shlG (constM (.int 1)) (callM (m__law_draw κ) [0] (consA (varM 0) (consA (varM 1) nilA)))))
    (seqM (setM 9 (binM shlG (constM (.int 1)) (callM (m__law_draw κ) [0] (consA (varM 0) (consA (varM 1) nilA)))))
    (ifS (orM (boolM (binM eqG (binM andG (varM 5) (varM 8)) (constM (.int 0)))) (boolM (binM gtG (binM andG (varM 5) (varM 9)) (constM (.int 0))))) (seqM (setM 11 (compM [12] (rng1 (consD (varM 2) nilD)) (nameG 12) yesM (esc (andV (binM gtG (binM andG (varM 12) (varM 8)) (constM (.int 0))) (binM eqG (binM andG (varM 12) (varM 9)) (constM (.int 0)))))))
    (setM 3 (compM [12] (rng1 (consD (varM 2) nilD)) (nameG 12) yesM (esc (ifM (truM (binM atD (varM 11) (varM 12))) (constM .non) (binM atD (varM 3) (varM 12))))))) nextM))))
    (seqM (ifS (boolM (binM eqG (callM (m__law_draw κ) [0] (consA (varM 0) (consA (constM (.int 5)) nilA))) (constM (.int 2)))) (seqM (setM 10 (binM shlG (constM (.int 1)) (callM (m__law_draw κ) [0] (consA (varM 0) (consA (varM 1) nilA)))))
    (setM 3 (compM [12] (rng1 (consD (varM 2) nilD)) (nameG 12) yesM (esc (ifM (boolM (binM eqG (binM andG (varM 12) (varM 10)) (binM andG (varM 5) (varM 10)))) (binM atD (varM 3) (varM 12)) (constM .non)))))) nextM)
    (retM (tupM (consD (varM 1) (consD (biM tupleG (consA (varM 3) nilA)) nilD)))))))))))
def m__law_twos (κ : String → Nat) : Fn := fnM 2 9 [0]
    (seqM (setM 2 (binM shlG (constM (.int 1)) (varM 1)))
    (seqM (setM 3 (callM (m__law_cost κ) [0] (consA (varM 0) nilA)))
    (seqM (setM 4 (callM (m__law_draw κ) [0] (consA (varM 0) (consA (varM 2) nilA))))
    (seqM (setM 5 (binM mulG (lstM (consD (varM 3) nilD)) (varM 2)))
    (seqM (forM (rng1 (consD (callM (m__law_draw κ) [0] (consA (varM 0) (consA (constM (.int 5)) nilA))) nilD)) (nameG 6) (seqM (setM 7 (callM (m__law_draw κ) [0] (consA (varM 0) (consA (varM 1) nilA))))
    (seqM (setM 8 (callM (m__law_draw κ) [0] (consA (varM 0) (consA (varM 1) nilA))))
    (seqM (setM 9 (tupM (consD (callM (m__law_draw κ) [0] (consA (varM 0) (consA (constM (.int 2)) nilA))) (consD (callM (m__law_draw κ) [0] (consA (varM 0) (consA (constM (.int 2)) nilA))) nilD))))
    (forM (rng1 (consD (varM 2) nilD)) (nameG 10) (ifS (andM (boolM (binM eqG (tupM (consD (binM andG (binM shrG (varM 10) (varM 7)) (constM (.int 1))) (consD (binM andG (binM shrG (varM 10) (varM 8)) (constM (.int 1))) nilD))) (varM 9))) (boolM (binM neG (varM 10) (varM 4)))) (ifS (boolM (binM neG (tupM (consD (binM andG (binM shrG (varM 4) (varM 7)) (constM (.int 1))) (consD (binM andG (binM shrG (varM 4) (varM 8)) (constM (.int 1))) nilD))) (varM 9))) (putM 5 (varM 10) (constM .non)) nextM) nextM))))))
    (retM (tupM (consD (varM 1) (consD (biM tupleG (consA (varM 5) nilA)) nilD)))))))))
def m__law_sums (κ : String → Nat) : Fn := fnM 2 7 [0]
    (seqM (setM 2 (binM shlG (constM (.int 1)) (varM 1)))
    (seqM (setM 3 (callM (m__law_cost κ) [0] (consA (varM 0) nilA)))
    (seqM (setM 4 (callM (m__law_draw κ) [0] (consA (varM 0) (consA (varM 2) nilA))))
    (seqM (setM 5 (binM mulG (lstM (consD (varM 3) nilD)) (varM 2)))
    (seqM (forM (rng1 (consD (callM (m__law_draw κ) [0] (consA (varM 0) (consA (constM (.int 4)) nilA))) nilD)) (nameG 6) (seqM (setM 7 (callM (m__law_draw κ) [0] (consA (varM 0) (consA (varM 2) nilA))))
    (forM (rng1 (consD (varM 2) nilD)) (nameG 8) (ifS (boolM (binM eqG (binM andG (binM xorG (callM (m__law_ones κ) [] (consA (binM andG (varM 8) (varM 7)) nilA)) (callM (m__law_ones κ) [] (consA (binM andG (varM 4) (varM 7)) nilA))) (constM (.int 1))) (constM (.int 1)))) (putM 5 (varM 8) (constM .non)) nextM))))
    (retM (tupM (consD (varM 1) (consD (biM tupleG (consA (varM 5) nilA)) nilD)))))))))
def m__law_ties (κ : String → Nat) : Fn := fnM 2 14 [0]
    (seqM (setM 2 (binM shlG (constM (.int 1)) (varM 1)))
    (seqM (setM 3 (binM mulG (lstM (consD (constM (.int 0)) nilD)) (binM addG (varM 1) (constM (.int 1)))))
    (seqM (forM (rng1 (consD (varM 1) nilD)) (nameG 4) (seqM (setM 11 (callM (m__law_draw κ) [0] (consA (varM 0) (consA (binM addG (varM 1) (constM (.int 1))) nilA))))
    (putM 3 (varM 11) (binM orG (binM atD (varM 3) (varM 11)) (binM shlG (constM (.int 1)) (varM 4))))))
    (seqM (setM 5 (compM [15] (seqI0 (cutM (varM 3) (someP (constM (.int 1))) noP)) (nameG 15) (boolM (binM gtG (varM 15) (constM (.int 0)))) (esc (varM 15))))
    (seqM (setM 6 (compM [15] (nameI 5) (nameG 15) yesM (esc (binM subG (callM (m__law_draw κ) [0] (consA (varM 0) (consA (constM (.int 11)) nilA))) (constM (.int 5))))))
    (seqM (setM 7 (callM (m__law_draw κ) [0] (consA (varM 0) (consA (varM 2) nilA))))
    (seqM (setM 8 (binM addG (binM mulG (constM (.int 5)) (biM lenX (consA (varM 5) nilA))) (callM (m__law_draw κ) [0] (consA (varM 0) (consA (constM (.int 4)) nilA)))))
    (seqM (setM 9 (binM mulG (lstM (consD (constM .non) nilD)) (varM 2)))
    (seqM (forM (rng1 (consD (binM shlG (constM (.int 1)) (biM lenX (consA (varM 5) nilA))) nilD)) (nameG 10) (seqM (setM 12 (varM 7))
    (seqM (setM 13 (varM 8))
    (seqM (forM (rng1 (consD (biM lenX (consA (varM 5) nilA)) nilD)) (nameG 14) (ifS (boolM (binM eqG (binM andG (binM shrG (varM 10) (varM 14)) (constM (.int 1))) (constM (.int 1)))) (seqM (setM 12 (binM xorG (varM 12) (binM atD (varM 5) (varM 14))))
    (augM 13 iaddG (binM atD (varM 6) (varM 14)))) nextM))
    (putM 9 (varM 12) (varM 13))))))
    (retM (tupM (consD (varM 1) (consD (biM tupleG (consA (varM 9) nilA)) nilD)))))))))))))
def m__law_kind_table (κ : String → Nat) : Fn := fnM 3 0 [0]
    (seqM (ifS (boolM (binM eqG (varM 1) (constM (.str "zero")))) (retM (callM (m__law_zero κ) [0] (consA (varM 0) (consA (varM 2) nilA)))) nextM)
    (seqM (ifS (boolM (binM eqG (varM 1) (constM (.str "one")))) (retM (callM (m__law_turned κ) [] (consA (callM (m__law_zero κ) [0] (consA (varM 0) (consA (varM 2) nilA))) nilA))) nextM)
    (seqM (ifS (boolM (binM eqG (varM 1) (constM (.str "least")))) (retM (callM (m__law_least κ) [0] (consA (varM 0) (consA (varM 2) nilA)))) nextM)
    (seqM (ifS (boolM (binM eqG (varM 1) (constM (.str "greatest")))) (retM (callM (m__law_turned κ) [] (consA (callM (m__law_least κ) [0] (consA (varM 0) (consA (varM 2) nilA))) nilA))) nextM)
    (seqM (ifS (boolM (binM eqG (varM 1) (constM (.str "cut")))) (retM (callM (m__law_cut κ) [0] (consA (varM 0) (consA (varM 2) nilA)))) nextM)
    (seqM (ifS (boolM (binM eqG (varM 1) (constM (.str "twos")))) (retM (callM (m__law_twos κ) [0] (consA (varM 0) (consA (varM 2) nilA)))) nextM)
    (seqM (ifS (boolM (binM eqG (varM 1) (constM (.str "sums")))) (retM (callM (m__law_sums κ) [0] (consA (varM 0) (consA (varM 2) nilA)))) nextM)
    (retM (callM (m__law_ties κ) [0] (consA (varM 0) (consA (varM 2) nilA)))))))))))
def m__law_kind_lot (κ : String → Nat) : Fn := fnM 4 1 [0]
    (retM (compM [4] (rng1 (consD (varM 2) nilD)) (nameG 4) yesM (esc (callM (m__law_kind_table κ) [0] (consA (varM 0) (consA (varM 1) (consA (binM addG (constM (.int 1)) (callM (m__law_draw κ) [0] (consA (varM 0) (consA (varM 3) nilA)))) nilA)))))))
def m__law_sure_hard (κ : String → Nat) : Fn := fnM 1 3 [0]
    (seqM (setM 1 (callM (m__law_draw κ) [0] (consA (varM 0) (consA (constM (.int 5)) nilA))))
    (seqM (setM 2 (callM (m__law_draw κ) [0] (consA (varM 0) (consA (constM (.int 5)) nilA))))
    (seqM (setM 3 (callM (m__law_draw κ) [0] (consA (varM 0) (consA (constM (.int 7)) nilA))))
    (seqM (ifS (boolM (binM eqG (varM 3) (constM (.int 0)))) (retM (lstM (consD (tupM (consD (constM (.int 3)) (consD (tupM (consD (constM .non) (consD (varM 1) (consD (varM 1) (consD (constM .non) (consD (varM 1) (consD (constM .non) (consD (constM .non) (consD (constM .non) nilD))))))))) nilD))) nilD))) nextM)
    (seqM (ifS (boolM (binM eqG (varM 3) (constM (.int 1)))) (retM (lstM (consD (tupM (consD (constM (.int 3)) (consD (tupM (consD (constM .non) (consD (varM 1) (consD (varM 1) (consD (varM 1) (consD (varM 1) (consD (varM 1) (consD (varM 1) (consD (constM .non) nilD))))))))) nilD))) nilD))) nextM)
    (seqM (ifS (boolM (binM eqG (varM 3) (constM (.int 2)))) (retM (lstM (consD (tupM (consD (constM (.int 2)) (consD (tupM (consD (binM addG (binM addG (varM 1) (varM 2)) (constM (.int 1))) (consD (varM 1) (consD (varM 1) (consD (binM addG (varM 1) (constM (.int 1))) nilD))))) nilD))) nilD))) nextM)
    (seqM (ifS (boolM (binM eqG (varM 3) (constM (.int 3)))) (retM (lstM (consD (tupM (consD (constM (.int 2)) (consD (tupM (consD (binM addG (varM 1) (constM (.int 1))) (consD (varM 1) (consD (varM 1) (consD (binM addG (varM 1) (constM (.int 1))) nilD))))) nilD))) nilD))) nextM)
    (seqM (ifS (boolM (binM eqG (varM 3) (constM (.int 4)))) (retM (lstM (consD (tupM (consD (constM (.int 3)) (consD (tupM (consD (constM .non) (consD (varM 1) (consD (varM 1) (consD (binM addG (binM addG (varM 1) (varM 2)) (constM (.int 1))) (consD (varM 1) (consD (binM addG (binM addG (varM 1) (varM 2)) (constM (.int 1))) (consD (binM addG (binM addG (varM 1) (varM 2)) (constM (.int 1))) (consD (constM .non) nilD))))))))) nilD))) (consD (tupM (consD (constM (.int 1)) (consD (tupM (consD (varM 2) (consD (binM addG (varM 2) (constM (.int 1))) nilD))) nilD))) nilD)))) nextM)
    (seqM (ifS (boolM (binM eqG (varM 3) (constM (.int 5)))) (retM (lstM (consD (tupM (consD (constM (.int 2)) (consD (tupM (consD (varM 1) (consD (varM 1) (consD (varM 1) (consD (constM .non) nilD))))) nilD))) (consD (tupM (consD (constM (.int 2)) (consD (tupM (consD (constM .non) (consD (varM 1) (consD (varM 1) (consD (varM 2) nilD))))) nilD))) (consD (tupM (consD (constM (.int 1)) (consD (tupM (consD (binM addG (varM 2) (constM (.int 2))) (consD (varM 2) nilD))) nilD))) (consD (tupM (consD (constM (.int 1)) (consD (tupM (consD (varM 2) (consD (binM addG (varM 2) (constM (.int 1))) nilD))) nilD))) nilD)))))) nextM)
    (retM (lstM (consD (tupM (consD (constM (.int 3)) (consD (tupM (consD (varM 2) (consD (constM .non) (consD (constM .non) (consD (varM 1) (consD (constM .non) (consD (binM addG (varM 1) (constM (.int 2))) (consD (varM 1) (consD (constM .non) nilD))))))))) nilD))) (consD (tupM (consD (constM (.int 2)) (consD (tupM (consD (constM .non) (consD (varM 2) (consD (varM 2) (consD (constM .non) nilD))))) nilD))) (consD (tupM (consD (constM (.int 2)) (consD (tupM (consD (constM (.int 1)) (consD (constM (.int 0)) (consD (constM (.int 0)) (consD (constM (.int 3)) nilD))))) nilD))) nilD))))))))))))))
def m__law_hard_lot (κ : String → Nat) : Fn := fnM 1 3 [0]
    (seqM (setM 1 (lstM nilD))
    (seqM (forM (rng1 (consD (binM addG (constM (.int 1)) (callM (m__law_draw κ) [0] (consA (varM 0) (consA (constM (.int 3)) nilA)))) nilD)) (nameG 2) (seqM (setM 3 (binM addG (constM (.int 1)) (callM (m__law_draw κ) [0] (consA (varM 0) (consA (constM (.int 3)) nilA)))))
    (ifS (boolM (binM eqG (callM (m__law_draw κ) [0] (consA (varM 0) (consA (constM (.int 3)) nilA))) (constM (.int 1)))) (exprM (methM 1 (consD (callM (m__law_crisp κ) [0] (consA (varM 0) (consA (varM 3) (consA (binM addG (constM (.int 1)) (callM (m__law_draw κ) [0] (consA (varM 0) (consA (constM (.int 5)) nilA)))) nilA)))) nilD) appendG)) (exprM (methM 1 (consD (callM (m__law_loose κ) [0] (consA (varM 0) (consA (varM 3) (consA (callM (m__law_draw κ) [0] (consA (varM 0) (consA (constM (.int 6)) nilA))) nilA)))) nilD) appendG)))))
    (seqM (ifS (boolM (binM isG (callM (m__law_first_kind κ) [] (consA (varM 1) nilA)) (constM .non))) (retM (varM 1)) nextM)
    (retM (callM (m__law_sure_hard κ) [0] (consA (varM 0) nilA))))))
def m__law_any_lot (κ : String → Nat) : Fn := fnM 1 0 [0]
    (seqM (ifS (boolM (binM eqG (callM (m__law_draw κ) [0] (consA (varM 0) (consA (constM (.int 3)) nilA))) (constM (.int 0)))) (retM (callM (m__law_hard_lot κ) [0] (consA (varM 0) nilA))) nextM)
    (retM (callM (m__law_kind_lot κ) [0] (consA (varM 0) (consA (callM (m__law_pick κ) [0] (consA (varM 0) (consA (callM (m__law_kinds κ) [] nilA) nilA))) (consA (binM addG (constM (.int 1)) (callM (m__law_draw κ) [0] (consA (varM 0) (consA (constM (.int 3)) nilA)))) (consA (constM (.int 3)) nilA)))))))
def m__law_uses (κ : String → Nat) : Fn := fnM 4 6 [0]
    (seqM (setM 4 (lstM nilD))
    (seqM (forM (rng1 (consD (varM 3) nilD)) (nameG 5) (seqM (setM 6 (callM (m__law_draw κ) [0] (consA (varM 0) (consA (biM lenX (consA (varM 1) nilA)) nilA))))
    (seqM (setM 7 (biM tupleG (consA (compM [9] (rng1 (consD (binM atD (binM atD (varM 1) (varM 6)) (constM (.int 0))) nilD)) (nameG 9) yesM (esc (callM (m__law_draw κ) [0] (consA (varM 0) (consA (varM 2) nilA))))) nilA)))
    (seqM (setM 8 (ifM (boolM (binM gtG (callM (m__law_draw κ) [0] (consA (varM 0) (consA (constM (.int 3)) nilA))) (constM (.int 0)))) (constM (.int 1)) (binM addG (constM (.int 1)) (callM (m__law_draw κ) [0] (consA (varM 0) (consA (constM (.int 9)) nilA))))))
    (exprM (methM 4 (consD (tupM (consD (varM 6) (consD (varM 7) (consD (varM 8) nilD)))) nilD) appendG))))))
    (retM (biM tupleG (consA (varM 4) nilA)))))
def m__law_merged (κ : String → Nat) : Fn := fnM 2 5 []
    (seqM (setM 2 (lstM nilD))
    (seqM (forM (seqI0 (binM atD (varM 1) (constM (.int 1)))) (nameG 3) (ifS (boolM (binM (inX true) (varM 3) (varM 2))) (exprM (methM 2 (consD (varM 3) nilD) appendG)) nextM))
    (seqM (setM 4 (lstM nilD))
    (seqM (forM (seqI0 (callM (m__law_rows κ) [] (consA (biM lenX (consA (varM 2) nilA)) nilA))) (nameG 5) (seqM (setM 6 (constM (.int 0)))
    (seqM (forM (seqI0 (binM atD (varM 1) (constM (.int 1)))) (nameG 3) (setM 6 (binM addG (binM mulG (varM 6) (constM (.int 2))) (binM atD (varM 5) (indexM (varM 2) (consA (varM 3) nilA))))))
    (exprM (methM 4 (consD (callM (m__law_times κ) [] (consA (binM atD (binM atD (binM atD (varM 0) (binM atD (varM 1) (constM (.int 0)))) (constM (.int 1))) (varM 6)) (consA (binM atD (varM 1) (constM (.int 2))) nilA))) nilD) appendG)))))
    (retM (tupM (consD (biM tupleG (consA (varM 2) nilA)) (consD (biM tupleG (consA (varM 4) nilA)) nilD))))))))
def m__law_beyond (κ : String → Nat) : Fn := fnM 3 5 []
    (seqM (setM 3 (lstM nilD))
    (seqM (forM (zipI2 (consD (callM (m__law_rows κ) [] (consA (biM lenX (consA (binM atD (varM 0) (constM (.int 0))) nilA)) nilA)) (consD (binM atD (varM 0) (constM (.int 1))) nilD))) (tupG 2 (consG (nameG 4) (consG (nameG 5) nilG))) (ifS (andM (boolM (binM isnG (varM 5) (constM .non))) (truM (biM allT (consA (compM [6, 7] (zipI2 (consD (binM atD (varM 0) (constM (.int 0))) (consD (varM 4) nilD))) (tupG 2 (consG (nameG 6) (consG (nameG 7) nilG))) (boolM (binM (inX false) (varM 6) (varM 1))) (esc (binM eqG (varM 7) (varM 2)))) nilA)))) (exprM (methM 3 (consD (varM 4) nilD) appendG)) nextM))
    (retM (varM 3))))
def m__law_next (κ : String → Nat) : Fn := fnM 3 8 []
    (seqM (forM (rng1 (consD (biM lenX (consA (varM 0) nilA)) nilD)) (nameG 3) (seqM (setM 4 (binM atD (binM atD (varM 0) (varM 3)) (constM (.int 0))))
    (seqM (setM 5 (callM (m__law_beyond κ) [] (consA (binM atD (varM 0) (varM 3)) (consA (varM 1) (consA (varM 2) nilA)))))
    (seqM (ifS (boolM (binM eqG (biM lenX (consA (varM 5) nilA)) (constM (.int 0)))) (retM (tupM (consD (varM 3) (consD (constM .non) nilD)))) nextM)
    (seqM (setM 6 (compM [8] (rng1 (consD (biM lenX (consA (varM 4) nilA)) nilD)) (nameG 8) (truM (biM allT (consA (compM [10] (nameI 5) (nameG 10) yesM (esc (binM eqG (binM atD (varM 10) (varM 8)) (varM 2)))) nilA))) (esc (binM atD (varM 4) (varM 8)))))
    (seqM (setM 7 (compM [9] (nameI 6) (nameG 9) (boolM (binM (inX true) (varM 9) (varM 1))) (esc (varM 9))))
    (ifS (boolM (binM gtG (biM lenX (consA (varM 7) nilA)) (constM (.int 0)))) (retM (tupM (consD (varM 3) (consD (varM 7) nilD)))) nextM)))))))
    (retM (constM .non)))
def m__law_course (κ : String → Nat) : Fn := fnM 3 4 []
    (seqM (setM 3 (lstM nilD))
    (seqM (setM 4 (lstM nilD))
    (seqM (forM (rng1 (consD (binM addG (varM 1) (constM (.int 1))) nilD)) (nameG 5) (seqM (setM 6 (callM (m__law_next κ) [] (consA (varM 0) (consA (varM 3) (consA (varM 2) nilA)))))
    (seqM (ifS (boolM (binM isG (varM 6) (constM .non))) (retM (tupM (consD (varM 3) (consD (biM tupleG (consA (varM 4) nilA)) (consD (constM (.bl false)) nilD))))) nextM)
    (seqM (exprM (methM 4 (consD (binM atD (varM 6) (constM (.int 0))) nilD) appendG))
    (seqM (ifS (boolM (binM isG (binM atD (varM 6) (constM (.int 1))) (constM .non))) (retM (tupM (consD (varM 3) (consD (biM tupleG (consA (varM 4) nilA)) (consD (constM (.bl true)) nilD))))) nextM)
    (setM 3 (binM addG (varM 3) (binM atD (varM 6) (constM (.int 1))))))))))
    (retM (tupM (consD (varM 3) (consD (biM tupleG (consA (varM 4) nilA)) (consD (constM (.bl false)) nilD))))))))
def m__law_open (κ : String → Nat) : Fn := fnM 2 5 []
    (seqM (setM 2 (lstM nilD))
    (seqM (forM (seqI0 (callM (m__law_rows κ) [] (consA (varM 1) nilA))) (nameG 3) (seqM (setM 4 (compM [5] (nameI 0) (nameG 5) yesM (esc (binM atD (binM atD (varM 5) (constM (.int 1))) (callM (m__law_number κ) [] (consA (compM [6] (seqI0 (binM atD (varM 5) (constM (.int 0)))) (nameG 6) yesM (esc (binM atD (varM 3) (varM 6)))) nilA))))))
    (ifS (boolM (binM isnG (callM (m__law_sum κ) [] (consA (varM 4) nilA)) (constM .non))) (exprM (methM 2 (consD (varM 3) nilD) appendG)) nextM)))
    (retM (varM 2))))
def m__law_meant (κ : String → Nat) : Fn := fnM 6 4 []
    (seqM (setM 6 (callM (m__law_open κ) [] (consA (varM 0) (consA (varM 1) nilA))))
    (seqM (forM (nameI 6) (nameG 7) (ifS (orM (truM (varM 5)) (notM (truM (biM allT (consA (compM [9] (nameI 4) (nameG 9) yesM (esc (binM eqG (binM atD (varM 7) (varM 9)) (varM 2)))) nilA))))) (retM (constM (.bl false))) nextM))
    (seqM (ifS (andM (truM (varM 3)) (boolM (binM neG (varM 5) (binM eqG (biM lenX (consA (varM 6) nilA)) (constM (.int 0)))))) (retM (constM (.bl false))) nextM)
    (seqM (setM 8 (compM [9] (rng1 (consD (varM 1) nilD)) (nameG 9) (truM (biM allT (consA (compM [7] (nameI 6) (nameG 7) yesM (esc (binM eqG (binM atD (varM 7) (varM 9)) (varM 2)))) nilA))) (esc (varM 9))))
    (retM (orV (varM 5) (orV (notV (varM 3)) (binM eqG (varM 8) (biM sortG (consA (varM 4) nilA))))))))))
def m__law_right (κ : String → Nat) : Fn := fnM 5 4 []
    (seqM (asgM (tupG 3 (consG (nameG 5) (consG (nameG 6) (consG (nameG 7) nilG)))) (callM (m__law_course κ) [] (consA (varM 0) (consA (varM 1) (consA (varM 2) nilA)))))
    (seqM (ifS (orM (notM (truM (isiM ["tuple"] (varM 4)))) (orM (boolM (binM neG (biM lenX (consA (varM 4) nilA)) (constM (.int 3)))) (notM (truM (isiM ["dict"] (binM atD (varM 4) (constM (.int 0)))))))) (retM (constM (.bl false))) nextM)
    (seqM (ifS (orM (boolM (binM neG (compM [8] (rng1 (consD (varM 1) nilD)) (nameG 8) (boolM (binM (inX false) (varM 8) (binM atD (varM 4) (constM (.int 0))))) (esc (varM 8))) (biM sortG (consA (varM 5) nilA)))) (boolM (binM neG (biM lenX (consA (binM atD (varM 4) (constM (.int 0))) nilA)) (biM lenX (consA (varM 5) nilA))))) (retM (constM (.bl false))) nextM)
    (seqM (ifS (orM (notM (truM (callM (m__law_is_ints κ) [] (consA (binM atD (varM 4) (constM (.int 1))) nilA)))) (boolM (binM neG (binM atD (varM 4) (constM (.int 1))) (varM 6)))) (retM (constM (.bl false))) nextM)
    (seqM (ifS (orM (boolM (binM neG (binM (isBG false) (binM atD (varM 4) (constM (.int 2))) (constM (.bl true))) (varM 7))) (boolM (binM eqG (binM (isBG false) (binM atD (varM 4) (constM (.int 2))) (constM (.bl false))) (varM 7)))) (retM (constM (.bl false))) nextM)
    (retM (orV (binM gtG (varM 1) (constM (.int 7))) (callM (m__law_meant κ) [] (consA (varM 0) (consA (varM 1) (consA (varM 2) (consA (varM 3) (consA (varM 5) (consA (varM 7) nilA))))))))))))))
def m__law_small (κ : String → Nat) : Fn := fnM 1 5 [0]
    (seqM (setM 1 (callM (m__law_draw κ) [0] (consA (varM 0) (consA (constM (.int 5)) nilA))))
    (seqM (ifS (boolM (binM ltG (varM 1) (constM (.int 3)))) (setM 4 (callM (m__law_kind_lot κ) [0] (consA (varM 0) (consA (binM atD (tupM (consD (constM (.str "least")) (consD (constM (.str "greatest")) (consD (constM (.str "cut")) nilD)))) (varM 1)) (consA (binM addG (constM (.int 1)) (callM (m__law_draw κ) [0] (consA (varM 0) (consA (constM (.int 3)) nilA)))) (consA (constM (.int 3)) nilA)))))) (ifS (boolM (binM eqG (varM 1) (constM (.int 3)))) (setM 4 (callM (m__law_any_lot κ) [0] (consA (varM 0) nilA))) (setM 4 (compM [5] (rng1 (consD (binM addG (constM (.int 1)) (callM (m__law_draw κ) [0] (consA (varM 0) (consA (constM (.int 2)) nilA)))) nilD)) (nameG 5) yesM (esc (callM (m__law_loose κ) [0] (consA (varM 0) (consA (binM addG (constM (.int 1)) (callM (m__law_draw κ) [0] (consA (varM 0) (consA (constM (.int 3)) nilA)))) (consA (binM addG (constM (.int 2)) (callM (m__law_draw κ) [0] (consA (varM 0) (consA (constM (.int 5)) nilA)))) nilA)))))))))
    (seqM (setM 2 (binM addG (binM addG (constM (.int 1)) (callM (m__law_draw κ) [0] (consA (varM 0) (consA (constM (.int 5)) nilA)))) (biM intFG (consA (callM (m__law_rare κ) [0] (consA (varM 0) (consA (constM (.int 5)) nilA))) nilA))))
    (seqM (setM 3 (biM listG (consA (callM (m__law_uses κ) [0] (consA (varM 0) (consA (varM 4) (consA (varM 2) (consA (callM (m__law_draw κ) [0] (consA (varM 0) (consA (constM (.int 8)) nilA))) nilA))))) nilA)))
    (seqM (setM 4 (binM addG (varM 4) (lstM (consD (tupM (consD (constM (.int 1)) (consD (tupM (consD (constM (.int 0)) (consD (constM .non) nilD))) nilD))) (consD (tupM (consD (constM (.int 1)) (consD (tupM (consD (constM .non) (consD (constM (.int 0)) nilD))) nilD))) nilD)))))
    (seqM (forM (rng1 (consD (callM (m__law_draw κ) [0] (consA (varM 0) (consA (constM (.int 4)) nilA))) nilD)) (nameG 5) (exprM (methM 3 (consD (tupM (consD (binM subG (binM subG (biM lenX (consA (varM 4) nilA)) (constM (.int 1))) (callM (m__law_draw κ) [0] (consA (varM 0) (consA (constM (.int 2)) nilA)))) (consD (tupM (consD (callM (m__law_draw κ) [0] (consA (varM 0) (consA (varM 2) nilA))) nilD)) (consD (constM (.int 1)) nilD)))) nilD) appendG)))
    (retM (tupM (consD (varM 4) (consD (varM 2) (consD (callM (m__law_shuffled κ) [0] (consA (varM 0) (consA (varM 3) nilA))) nilD)))))))))))
def m__law_long (κ : String → Nat) : Fn := fnM 1 10 [0]
    (seqM (setM 1 (callM (m__law_draw κ) [0] (consA (varM 0) (consA (constM (.int 2)) nilA))))
    (seqM (setM 2 (binM addG (constM (.int 12)) (callM (m__law_draw κ) [0] (consA (varM 0) (consA (constM (.int 29)) nilA)))))
    (seqM (setM 3 (compM [9] (rng1 (consD (constM (.int 4)) nilD)) (nameG 9) yesM (esc (callM (m__law_draw κ) [0] (consA (varM 0) (consA (constM (.int 9)) nilA))))))
    (seqM (putM 3 (binM addG (varM 1) (constM (.int 1))) (constM .non))
    (seqM (setM 4 (lstM (consD (callM (m__law_draw κ) [0] (consA (varM 0) (consA (constM (.int 9)) nilA))) (consD (callM (m__law_draw κ) [0] (consA (varM 0) (consA (constM (.int 9)) nilA))) nilD))))
    (seqM (putM 4 (binM subG (constM (.int 1)) (varM 1)) (constM .non))
    (seqM (setM 5 (lstM (consD (tupM (consD (constM (.int 2)) (consD (biM tupleG (consA (varM 3) nilA)) nilD))) (consD (tupM (consD (constM (.int 1)) (consD (biM tupleG (consA (varM 4) nilA)) nilD))) (consD (callM (m__law_loose κ) [0] (consA (varM 0) (consA (binM addG (constM (.int 1)) (callM (m__law_draw κ) [0] (consA (varM 0) (consA (constM (.int 3)) nilA)))) (consA (binM addG (constM (.int 2)) (callM (m__law_draw κ) [0] (consA (varM 0) (consA (constM (.int 4)) nilA)))) nilA)))) nilD)))))
    (seqM (setM 6 (callM (m__law_shuffled κ) [0] (consA (varM 0) (consA (lrgM (varM 2)) nilA))))
    (seqM (setM 7 (compM [9] (rng1 (consD (binM subG (varM 2) (constM (.int 1))) nilD)) (nameG 9) yesM (esc (tupM (consD (constM (.int 0)) (consD (tupM (consD (binM atD (varM 6) (varM 9)) (consD (binM atD (varM 6) (binM addG (varM 9) (constM (.int 1)))) nilD))) (consD (constM (.int 1)) nilD)))))))
    (seqM (ifS (boolM (binM eqG (callM (m__law_draw κ) [0] (consA (varM 0) (consA (constM (.int 3)) nilA))) (constM (.int 1)))) (exprM (methM 7 (consD (callM (m__law_draw κ) [0] (consA (varM 0) (consA (biM lenX (consA (varM 7) nilA)) nilA))) nilD) popAtG)) nextM)
    (seqM (exprM (methM 7 (consD (tupM (consD (constM (.int 1)) (consD (tupM (consD (binM atD (varM 6) (constM (.int 0))) nilD)) (consD (constM (.int 1)) nilD)))) nilD) appendG))
    (seqM (exprM (methM 7 (consD (biM listG (consA (callM (m__law_uses κ) [0] (consA (varM 0) (consA (varM 5) (consA (varM 2) (consA (callM (m__law_draw κ) [0] (consA (varM 0) (consA (constM (.int 4)) nilA))) nilA))))) nilA)) nilD) extendG))
    (seqM (setM 8 (callM (m__law_draw κ) [0] (consA (varM 0) (consA (constM (.int 3)) nilA))))
    (seqM (ifS (boolM (binM eqG (varM 8) (constM (.int 0)))) (setM 7 (compM [10] (revI (varM 7)) (nameG 10) yesM (esc (varM 10)))) nextM)
    (seqM (ifS (boolM (binM eqG (varM 8) (constM (.int 1)))) (setM 7 (callM (m__law_shuffled κ) [0] (consA (varM 0) (consA (varM 7) nilA)))) nextM)
    (retM (tupM (consD (varM 5) (consD (varM 2) (consD (varM 7) nilD))))))))))))))))))))
def m_law (κ : String → Nat) : Fn := fnM 1 11 []
    (seqM (setM 1 (callM (m__law_begin κ) [] (consA (varM 0) nilA)))
    (seqM (asgM (tupG 3 (consG (nameG 4) (consG (nameG 5) (consG (nameG 6) nilG)))) (ifM (truM (callM (m__law_rare κ) [0] (consA (varM 1) (consA (constM (.int 6)) nilA)))) (callM (m__law_long κ) [0] (consA (varM 1) nilA)) (callM (m__law_small κ) [0] (consA (varM 1) nilA))))
    (seqM (setM 2 (compM [10] (nameI 6) (nameG 10) yesM (esc (callM (m__law_merged κ) [] (consA (varM 4) (consA (varM 10) nilA))))))
    (seqM (forM (seqI0 (tupM (consD (constM (.int 1)) (consD (constM (.int 0)) nilD)))) (nameG 3) (seqM (setM 7 (orV (callM (m__law_kept κ) [] (consA (binM atD (tupM (consD (constM (.str "greatest")) (consD (constM (.str "least")) nilD))) (varM 3)) (consA (varM 4) nilA))) (callM (m__law_kept κ) [] (consA (constM (.str "cut")) (consA (varM 4) nilA)))))
    (seqM (setM 8 (biM listG (consA (varM 2) nilA)))
    (seqM (setM 9 (callM (m_forced_steps κ) [] (consA (varM 8) (consA (varM 3) nilA))))
    (seqM (ifS (orM (boolM (binM neG (varM 8) (varM 2))) (notM (truM (callM (m__law_right κ) [] (consA (varM 2) (consA (varM 5) (consA (varM 3) (consA (varM 7) (consA (varM 9) nilA))))))))) (retM (constM (.bl false))) nextM)
    (ifS (boolM (binM ltG (varM 5) (constM (.int 8)))) (seqM (setM 11 (callM (m__law_shuffled κ) [0] (consA (varM 1) (consA (varM 2) nilA))))
    (ifS (notM (truM (callM (m__law_right κ) [] (consA (varM 11) (consA (varM 5) (consA (varM 3) (consA (varM 7) (consA (callM (m_forced_steps κ) [] (consA (biM listG (consA (varM 11) nilA)) (consA (varM 3) nilA))) nilA)))))))) (retM (constM (.bl false))) nextM)) nextM))))))
    (retM (andV (callM (m__law_right κ) [] (consA (lstM nilD) (consA (varM 5) (consA (constM (.int 1)) (consA (constM (.bl false)) (consA (callM (m_forced_steps κ) [] (consA (lstM nilD) (consA (constM (.int 1)) nilA))) nilA)))))) (callM (m__law_right κ) [] (consA (lstM nilD) (consA (constM (.int 1)) (consA (constM (.int 0)) (consA (constM (.bl true)) (consA (callM (m_forced_steps κ) [] (consA (lstM nilD) (consA (constM (.int 0)) nilA))) nilA))))))))))))
end Ev.W

set_option Elab.async false
set_option linter.all false
set_option maxRecDepth 100000
set_option autoImplicit false
namespace Ev.W
open PySem PySem.Spec PyProof.Rows L2 Ev
def topS (i : Nat) : Stmt := PySem.Challenge.pw_pricedrules_k26_steps_forced_one_by_one.main.body.getD i (.Pass ⟨0, 0, 0, 0⟩)
/-- the built-ins' names are free; constants; classes -/
structure Bl (K : PySem.W.Frag) (mg : Str → Option Value) (κ : String → Nat) : Prop where
  abs_ : mg "abs" = none
  all_ : mg "all" = none
  bool_ : mg "bool" = none
  dict_ : mg "dict" = none
  int_ : mg "int" = none
  isinstance_ : mg "isinstance" = none
  len_ : mg "len" = none
  list_ : mg "list" = none
  max_ : mg "max" = none
  range_ : mg "range" = none
  reversed_ : mg "reversed" = none
  sorted_ : mg "sorted" = none
  tuple_ : mg "tuple" = none
  zip_ : mg "zip" = none
/-! row_of -/
abbrev s_row_of : Stmt := topS 1
theorem sc_row_of : FnScope ["number", "places", "place"] ["number", "places"] (defScope s_row_of) := ⟨rfl, rfl, rfl, by decide +kernel, rfl, by decide +kernel, by decide +kernel⟩
theorem ok_row_of {P : Program} {w : World} {K : PySem.W.Frag} {mg : Str → Option Value} {κ : String → Nat} {base : Heap} {f : Addr} {fd : FuncData} (Fu : Fun K "row_of" "row_of" s_row_of f fd) (b : Bl K mg κ)  :
    FnOk P w K mg base CX0 1 f fd ["number", "places"] (spF K (m_row_of κ) 2) := by
  refine fn_ok (k := 0) (io := []) Fu sc_row_of rfl rfl (fun cdv A outer s H E hr => ?_)
  have hu := room64 hr
  exact ⟨_, by decide, (sse_one (se_ret (oe_tuple (ae_cons (oe_comp rfl sc_row_of.nd (ie_range1 (by rfl) b.range_ (de_cons (oe_var 1) de_nil)) (blkOk_by (own := [("place", 2)]) (by exact rfl)) (fun _ _ _ _ _ => (ge_name (i := 2) sc_row_of.nd)) (fun _ _ _ _ _ => if_nil) (fun _ _ _ _ _ => (oe_band (oe_shr (oe_var 0) (oe_sub (oe_sub (oe_var 1) oe_int) (oe_var 2))) oe_int))) ae_nil) b.tuple_)))⟩
/-! rows_of -/
abbrev s_rows_of : Stmt := topS 2
theorem sc_rows_of : FnScope ["places", "number"] ["places"] (defScope s_rows_of) := ⟨rfl, rfl, rfl, by decide +kernel, rfl, by decide +kernel, by decide +kernel⟩
theorem ok_rows_of {P : Program} {w : World} {K : PySem.W.Frag} {mg : Str → Option Value} {κ : String → Nat} {base : Heap} {f : Addr} {fd : FuncData} (Fu : Fun K "rows_of" "rows_of" s_rows_of f fd) (b : Bl K mg κ) (c_row_of : Callee P w K mg base 1 "row_of" 2 (m_row_of κ)) :
    FnOk P w K mg base CX0 2 f fd ["places"] (spF K (m_rows_of κ) 1) := by
  refine fn_ok (k := 1) (io := []) Fu sc_rows_of rfl rfl (fun cdv A outer s H E hr => ?_)
  have hu := room64 hr
  exact ⟨_, by decide, (sse_one (se_ret (oe_comp rfl sc_rows_of.nd (ie_range1 (by rfl) b.range_ (de_cons (oe_shl oe_int (oe_var 0)) de_nil)) (blkOk_by (own := [("number", 1)]) (by exact rfl)) (fun _ _ _ _ _ => (ge_name (i := 1) sc_rows_of.nd)) (fun _ _ _ _ _ => if_nil) (fun _ _ _ _ _ => (oe_callC c_row_of (hr.mono (by decide)) (ae_cons (oe_var 1) (ae_cons (oe_var 0) ae_nil)) (consA_len (consA_len (fun _ _ _ h => nilA_len h))))))))⟩
/-! rows_beyond -/
abbrev s_rows_beyond : Stmt := topS 4
theorem sc_rows_beyond : FnScope ["names", "prices", "forced", "value", "found", "row", "price", "spot"] ["names", "prices", "forced", "value"] (defScope s_rows_beyond) := ⟨rfl, rfl, rfl, by decide +kernel, rfl, by decide +kernel, by decide +kernel⟩
theorem ok_rows_beyond {P : Program} {w : World} {K : PySem.W.Frag} {mg : Str → Option Value} {κ : String → Nat} {base : Heap} {f : Addr} {fd : FuncData} (Fu : Fun K "rows_beyond" "rows_beyond" s_rows_beyond f fd) (b : Bl K mg κ) (c_rows_of : Callee P w K mg base 2 "rows_of" 1 (m_rows_of κ)) :
    FnOk P w K mg base CX0 3 f fd ["names", "prices", "forced", "value"] (spF K (m_rows_beyond κ) 4) := by
  refine fn_ok (k := 2) (io := []) Fu sc_rows_beyond rfl rfl (fun cdv A outer s H E hr => ?_)
  have hu := room64 hr
  exact ⟨_, by decide, (sse_cons (se_set 4 sc_rows_beyond.nd (oe_lst de_nil))
    (sse_cons (se_for PassesOwn.never rfl (ie_zip2 b.zip_ (de_cons (oe_callC c_rows_of (hr.mono (by decide)) (ae_cons (oe_lenX (ae_cons (oe_var 0) ae_nil) b.len_) ae_nil) (consA_len (fun _ _ _ h => nilA_len h))) (de_cons (oe_var 1) de_nil))) (ge_tup rfl (gse_cons (ge_name (i := 5) sc_rows_beyond.nd) (gse_cons (ge_name (i := 6) sc_rows_beyond.nd) gse_nil))) (sse_one (se_if ((tw_and (te_isn (oe_var 6) oe_non) (tw_and1 (te_tru (oe_allT rfl (ae_cons (oe_comp rfl sc_rows_beyond.nd (ie_range1 (by rfl) b.range_ (de_cons (oe_lenX (ae_cons (oe_var 0) ae_nil) b.len_) de_nil)) (blkOk_by (own := [("spot", 7)]) (by exact rfl)) (fun _ _ _ _ _ => (ge_name (i := 7) sc_rows_beyond.nd)) (fun _ _ _ _ _ => (if_one (te_inX (room65 hr) (oe_at (oe_var 0) (oe_var 7)) (oe_var 2)))) (fun _ _ _ _ _ => (oe_eq hu (oe_at (oe_var 5) (oe_var 7)) (oe_var 3)))) ae_nil) b.all_))))).te (sse_one (se_expr (oe_append 4 (de_cons (oe_tup (de_cons (oe_var 5) (de_cons (oe_var 6) de_nil))) de_nil)))) sse_nil)))
    (sse_one (se_ret (oe_var 4)))))⟩
/-! new_forced -/
abbrev s_new_forced : Stmt := topS 6
theorem sc_new_forced : FnScope ["names", "rows", "forced", "value", "at", "row", "price"] ["names", "rows", "forced", "value"] (defScope s_new_forced) := ⟨rfl, rfl, rfl, by decide +kernel, rfl, by decide +kernel, by decide +kernel⟩
theorem ok_new_forced {P : Program} {w : World} {K : PySem.W.Frag} {mg : Str → Option Value} {κ : String → Nat} {base : Heap} {f : Addr} {fd : FuncData} (Fu : Fun K "new_forced" "new_forced" s_new_forced f fd) (b : Bl K mg κ)  :
    FnOk P w K mg base CX0 1 f fd ["names", "rows", "forced", "value"] (spF K (m_new_forced κ) 4) := by
  refine fn_ok (k := 0) (io := []) Fu sc_new_forced rfl rfl (fun cdv A outer s H E hr => ?_)
  have hu := room64 hr
  exact ⟨_, by decide, (sse_one (se_ret (oe_comp rfl sc_new_forced.nd (ie_range1 (by rfl) b.range_ (de_cons (oe_lenX (ae_cons (oe_var 0) ae_nil) b.len_) de_nil)) (blkOk_by (own := [("at", 4)]) (by exact rfl)) (fun _ _ _ _ _ => (ge_name (i := 4) sc_new_forced.nd)) (fun _ _ _ _ _ => (if_one ((tw_and (te_ninX (room65 hr) (oe_at (oe_var 0) (oe_var 4)) (oe_var 2)) (tw_and1 (te_tru (oe_allT rfl (ae_cons (oe_comp rfl sc_new_forced.nd (ie_name 1) (blkOk_by (own := [("row", 5), ("price", 6)]) (by exact rfl)) (fun _ _ _ _ _ => (ge_tup rfl (gse_cons (ge_name (i := 5) sc_new_forced.nd) (gse_cons (ge_name (i := 6) sc_new_forced.nd) gse_nil)))) (fun _ _ _ _ _ => if_nil) (fun _ _ _ _ _ => (oe_eq hu (oe_at (oe_var 5) (oe_var 4)) (oe_var 3)))) ae_nil) b.all_))))).te)) (fun _ _ _ _ _ => (oe_at (oe_var 0) (oe_var 4))))))⟩
/-! forced_steps -/
abbrev s_forced_steps : Stmt := topS 7
theorem sc_forced_steps : FnScope ["uses", "value", "forced", "spots", "moved", "spot", "rows", "fresh", "names", "prices", "name"] ["uses", "value"] (defScope s_forced_steps) := ⟨rfl, rfl, rfl, by decide +kernel, rfl, by decide +kernel, by decide +kernel⟩
theorem ok_forced_steps {P : Program} {w : World} {K : PySem.W.Frag} {mg : Str → Option Value} {κ : String → Nat} {base : Heap} {f : Addr} {fd : FuncData} (Fu : Fun K "forced_steps" "forced_steps" s_forced_steps f fd) (b : Bl K mg κ) (c_new_forced : Callee P w K mg base 1 "new_forced" 4 (m_new_forced κ)) (c_rows_beyond : Callee P w K mg base 3 "rows_beyond" 4 (m_rows_beyond κ)) :
    FnOk P w K mg base CX0 4 f fd ["uses", "value"] (spF K (m_forced_steps κ) 2) := by
  refine fn_ok (k := 3) (io := []) Fu sc_forced_steps rfl rfl (fun cdv A outer s H E hr => ?_)
  have hu := room64 hr
  exact ⟨_, by decide, (sse_cons (se_set 2 sc_forced_steps.nd oe_dnew)
    (sse_cons (se_set 3 sc_forced_steps.nd (oe_lst de_nil))
    (sse_cons (se_set 4 sc_forced_steps.nd oe_bl)
    (sse_cons (se_while PassesOwn.never (te_tru (oe_var 4)) (sse_cons (se_set 4 sc_forced_steps.nd oe_bl)
    (sse_one (se_for PassesOwn.never rfl (ie_range1 (by rfl) b.range_ (de_cons (oe_lenX (ae_cons (oe_var 0) ae_nil) b.len_) de_nil)) (ge_name (i := 5) sc_forced_steps.nd) (sse_cons (se_asg (oe_at (oe_var 0) (oe_var 5)) (ge_tup rfl (gse_cons (ge_name (i := 8) sc_forced_steps.nd) (gse_cons (ge_name (i := 9) sc_forced_steps.nd) gse_nil))))
    (sse_cons (se_set 6 sc_forced_steps.nd (oe_callC c_rows_beyond (hr.mono (by decide)) (ae_cons (oe_var 8) (ae_cons (oe_var 9) (ae_cons (oe_var 2) (ae_cons (oe_var 1) ae_nil)))) (consA_len (consA_len (consA_len (consA_len (fun _ _ _ h => nilA_len h)))))))
    (sse_cons (se_if (te_not (te_tru (oe_var 6))) (sse_cons (se_expr (oe_append 3 (de_cons (oe_var 5) de_nil)))
    (sse_one (se_ret (oe_tup (de_cons (oe_var 2) (de_cons (oe_tuple (ae_cons (oe_var 3) ae_nil) b.tuple_) (de_cons oe_bl de_nil))))))) sse_nil)
    (sse_cons (se_set 7 sc_forced_steps.nd (oe_callC c_new_forced (hr.mono (by decide)) (ae_cons (oe_var 8) (ae_cons (oe_var 6) (ae_cons (oe_var 2) (ae_cons (oe_var 1) ae_nil)))) (consA_len (consA_len (consA_len (consA_len (fun _ _ _ h => nilA_len h)))))))
    (sse_one (se_if (te_tru (oe_var 7)) (sse_cons (se_expr (oe_append 3 (de_cons (oe_var 5) de_nil)))
    (sse_cons (se_for PassesOwn.never rfl (ie_name 7) (ge_name (i := 10) sc_forced_steps.nd) (sse_one (se_dput 2 hu oe_bl (oe_var 10))))
    (sse_cons (se_set 4 sc_forced_steps.nd oe_bl)
    (sse_one se_break)))) sse_nil))))))))))
    (sse_one (se_ret (oe_tup (de_cons (oe_var 2) (de_cons (oe_tuple (ae_cons (oe_var 3) ae_nil) b.tuple_) (de_cons oe_bl de_nil))))))))))⟩
/-! _law_begin -/
abbrev s__law_begin : Stmt := topS 9
theorem sc__law_begin : FnScope ["script", "cell"] ["script"] (defScope s__law_begin) := ⟨rfl, rfl, rfl, by decide +kernel, rfl, by decide +kernel, by decide +kernel⟩
theorem ok__law_begin {P : Program} {w : World} {K : PySem.W.Frag} {mg : Str → Option Value} {κ : String → Nat} {base : Heap} {f : Addr} {fd : FuncData} (Fu : Fun K "_law_begin" "_law_begin" s__law_begin f fd) (b : Bl K mg κ)  :
    FnOk P w K mg base CX0 1 f fd ["script"] (spF K (m__law_begin κ) 1) := by
  refine fn_ok (k := 0) (io := []) Fu sc__law_begin rfl rfl (fun cdv A outer s H E hr => ?_)
  have hu := room64 hr
  exact ⟨_, by decide, (sse_one (se_ret (oe_lst (de_cons (oe_comp rfl sc__law_begin.nd (ie_name 0) (blkOk_by (own := [("cell", 1)]) (by exact rfl)) (fun _ _ _ _ _ => (ge_name (i := 1) sc__law_begin.nd)) (fun _ _ _ _ _ => if_nil) (fun _ _ _ _ _ => (oe_int_ (ae_cons (oe_var 1) ae_nil) b.int_))) (de_cons oe_int (de_cons oe_int (de_cons oe_int de_nil)))))))⟩
/-! _law_draw -/
abbrev s__law_draw : Stmt := topS 10
theorem sc__law_draw : FnScope ["d", "many", "size", "found", "cell"] ["d", "many"] (defScope s__law_draw) := ⟨rfl, rfl, rfl, by decide +kernel, rfl, by decide +kernel, by decide +kernel⟩
theorem ok__law_draw {P : Program} {w : World} {K : PySem.W.Frag} {mg : Str → Option Value} {κ : String → Nat} {base : Heap} {f : Addr} {fd : FuncData} (Fu : Fun K "_law_draw" "_law_draw" s__law_draw f fd) (b : Bl K mg κ)  :
    FnOk P w K mg base CX0 1 f fd ["d", "many"] (spF K (m__law_draw κ) 2) := by
  refine fn_ok (k := 0) (io := [0]) Fu sc__law_draw rfl rfl (fun cdv A outer s H E hr => ?_)
  have hu := room64 hr
  exact ⟨_, by decide, (sse_cons (se_if (te_gt (oe_at (oe_var 0) oe_int) oe_int) (sse_cons (se_set 3 sc__law_draw.nd (oe_at (oe_var 0) oe_int))
    (sse_cons (se_put 0 (oe_div (oe_var 3) (oe_var 1)) oe_int)
    (sse_one (se_ret (oe_mod (oe_int_ (ae_cons (oe_var 3) ae_nil) b.int_) (oe_var 1)))))) sse_nil)
    (sse_cons (se_set 2 sc__law_draw.nd oe_int)
    (sse_cons (se_if (te_lt (oe_at (oe_var 0) oe_int) (oe_lenX (ae_cons (oe_at (oe_var 0) oe_int) ae_nil) b.len_)) (sse_cons (se_set 4 sc__law_draw.nd (oe_at (oe_at (oe_var 0) oe_int) (oe_at (oe_var 0) oe_int)))
    (sse_one (se_set 2 sc__law_draw.nd (oe_add (oe_mul oe_int (oe_abs (ae_cons (oe_var 4) ae_nil) b.abs_)) (oe_int_ (ae_cons (oe_lt (oe_var 4) oe_int) ae_nil) b.int_))))) sse_nil)
    (sse_cons (se_iaddAt 0 oe_int oe_int)
    (sse_cons (se_if (te_ge (oe_var 2) (oe_mul oe_int (oe_pow oe_int oe_int))) (sse_cons (se_set 3 sc__law_draw.nd (oe_mod (oe_int_ (ae_cons (oe_div (oe_var 2) oe_int) ae_nil) b.int_) (oe_shl oe_int oe_int)))
    (sse_cons (se_put 0 (oe_div (oe_var 3) (oe_var 1)) oe_int)
    (sse_one (se_ret (oe_mod (oe_int_ (ae_cons (oe_var 3) ae_nil) b.int_) (oe_var 1)))))) sse_nil)
    (sse_cons (se_put 0 (oe_mod (oe_int_ (ae_cons (oe_add (oe_add (oe_add (oe_mul (oe_at (oe_var 0) oe_int) oe_int) (oe_mul (oe_mod (oe_int_ (ae_cons (oe_var 2) ae_nil) b.int_) oe_int) oe_int)) (oe_mul (oe_at (oe_var 0) oe_int) oe_int)) oe_int) ae_nil) b.int_) oe_int) oe_int)
    (sse_one (se_ret (oe_mod (oe_int_ (ae_cons (oe_div (oe_at (oe_var 0) oe_int) oe_int) ae_nil) b.int_) (oe_var 1))))))))))⟩
/-! _law_pick -/
abbrev s__law_pick : Stmt := topS 11
theorem sc__law_pick : FnScope ["d", "row"] ["d", "row"] (defScope s__law_pick) := ⟨rfl, rfl, rfl, by decide +kernel, rfl, by decide +kernel, by decide +kernel⟩
theorem ok__law_pick {P : Program} {w : World} {K : PySem.W.Frag} {mg : Str → Option Value} {κ : String → Nat} {base : Heap} {f : Addr} {fd : FuncData} (Fu : Fun K "_law_pick" "_law_pick" s__law_pick f fd) (b : Bl K mg κ) (c__law_draw : Callee P w K mg base 1 "_law_draw" 2 (m__law_draw κ)) :
    FnOk P w K mg base CX0 2 f fd ["d", "row"] (spF K (m__law_pick κ) 2) := by
  refine fn_ok (k := 1) (io := [0]) Fu sc__law_pick rfl rfl (fun cdv A outer s H E hr => ?_)
  have hu := room64 hr
  exact ⟨_, by decide, (sse_one (se_ret (oe_at (oe_var 1) (oe_callC c__law_draw (hr.mono (by decide)) (ae_cons (oe_var 0) (ae_cons (oe_lenX (ae_cons (oe_var 1) ae_nil) b.len_) ae_nil)) (consA_len (consA_len (fun _ _ _ h => nilA_len h)))))))⟩
/-! _law_rare -/
abbrev s__law_rare : Stmt := topS 12
theorem sc__law_rare : FnScope ["d", "many"] ["d", "many"] (defScope s__law_rare) := ⟨rfl, rfl, rfl, by decide +kernel, rfl, by decide +kernel, by decide +kernel⟩
theorem ok__law_rare {P : Program} {w : World} {K : PySem.W.Frag} {mg : Str → Option Value} {κ : String → Nat} {base : Heap} {f : Addr} {fd : FuncData} (Fu : Fun K "_law_rare" "_law_rare" s__law_rare f fd) (b : Bl K mg κ) (c__law_draw : Callee P w K mg base 1 "_law_draw" 2 (m__law_draw κ)) :
    FnOk P w K mg base CX0 2 f fd ["d", "many"] (spF K (m__law_rare κ) 2) := by
  refine fn_ok (k := 1) (io := [0]) Fu sc__law_rare rfl rfl (fun cdv A outer s H E hr => ?_)
  have hu := room64 hr
  exact ⟨_, by decide, (sse_one (se_ret (oe_eq hu (oe_callC c__law_draw (hr.mono (by decide)) (ae_cons (oe_var 0) (ae_cons (oe_var 1) ae_nil)) (consA_len (consA_len (fun _ _ _ h => nilA_len h)))) (oe_div (oe_var 1) oe_int))))⟩
/-! _law_shuffled -/
abbrev s__law_shuffled : Stmt := topS 13
theorem sc__law_shuffled : FnScope ["d", "row", "left", "found", "k"] ["d", "row"] (defScope s__law_shuffled) := ⟨rfl, rfl, rfl, by decide +kernel, rfl, by decide +kernel, by decide +kernel⟩
theorem ok__law_shuffled {P : Program} {w : World} {K : PySem.W.Frag} {mg : Str → Option Value} {κ : String → Nat} {base : Heap} {f : Addr} {fd : FuncData} (Fu : Fun K "_law_shuffled" "_law_shuffled" s__law_shuffled f fd) (b : Bl K mg κ) (c__law_draw : Callee P w K mg base 1 "_law_draw" 2 (m__law_draw κ)) :
    FnOk P w K mg base CX0 2 f fd ["d", "row"] (spF K (m__law_shuffled κ) 2) := by
  refine fn_ok (k := 1) (io := [0]) Fu sc__law_shuffled rfl rfl (fun cdv A outer s H E hr => ?_)
  have hu := room64 hr
  exact ⟨_, by decide, (sse_cons (se_set 2 sc__law_shuffled.nd (oe_list (ae_cons (oe_var 1) ae_nil) b.list_))
    (sse_cons (se_set 3 sc__law_shuffled.nd (oe_lst de_nil))
    (sse_cons (se_for PassesOwn.never rfl (ie_range1 (by rfl) b.range_ (de_cons (oe_lenX (ae_cons (oe_var 2) ae_nil) b.len_) de_nil)) (ge_name (i := 4) sc__law_shuffled.nd) (sse_one (se_expr (oe_append 3 (de_cons (oe_popAt 2 (de_cons (oe_callC c__law_draw (hr.mono (by decide)) (ae_cons (oe_var 0) (ae_cons (oe_lenX (ae_cons (oe_var 2) ae_nil) b.len_) ae_nil)) (consA_len (consA_len (fun _ _ _ h => nilA_len h)))) de_nil)) de_nil)))))
    (sse_one (se_ret (oe_var 3))))))⟩
/-! _law_is_int -/
abbrev s__law_is_int : Stmt := topS 14
theorem sc__law_is_int : FnScope ["thing"] ["thing"] (defScope s__law_is_int) := ⟨rfl, rfl, rfl, by decide +kernel, rfl, by decide +kernel, by decide +kernel⟩
theorem ok__law_is_int {P : Program} {w : World} {K : PySem.W.Frag} {mg : Str → Option Value} {κ : String → Nat} {base : Heap} {f : Addr} {fd : FuncData} (Fu : Fun K "_law_is_int" "_law_is_int" s__law_is_int f fd) (b : Bl K mg κ)  :
    FnOk P w K mg base CX0 1 f fd ["thing"] (spF K (m__law_is_int κ) 1) := by
  refine fn_ok (k := 0) (io := []) Fu sc__law_is_int rfl rfl (fun cdv A outer s H E hr => ?_)
  have hu := room64 hr
  exact ⟨_, by decide, (sse_one (se_ret (oe_and (oe_isi1 (oe_var 0) b.isinstance_ b.int_ (by decide +kernel)) (oe_one (oe_not (oe_isi1 (oe_var 0) b.isinstance_ b.bool_ (by decide +kernel)))))))⟩
/-! _law_is_ints -/
abbrev s__law_is_ints : Stmt := topS 15
theorem sc__law_is_ints : FnScope ["row", "part"] ["row"] (defScope s__law_is_ints) := ⟨rfl, rfl, rfl, by decide +kernel, rfl, by decide +kernel, by decide +kernel⟩
theorem ok__law_is_ints {P : Program} {w : World} {K : PySem.W.Frag} {mg : Str → Option Value} {κ : String → Nat} {base : Heap} {f : Addr} {fd : FuncData} (Fu : Fun K "_law_is_ints" "_law_is_ints" s__law_is_ints f fd) (b : Bl K mg κ) (c__law_is_int : Callee P w K mg base 1 "_law_is_int" 1 (m__law_is_int κ)) :
    FnOk P w K mg base CX0 2 f fd ["row"] (spF K (m__law_is_ints κ) 1) := by
  refine fn_ok (k := 1) (io := []) Fu sc__law_is_ints rfl rfl (fun cdv A outer s H E hr => ?_)
  have hu := room64 hr
  exact ⟨_, by decide, (sse_one (se_ret (oe_and (oe_isi1 (oe_var 0) b.isinstance_ b.tuple_ (by decide +kernel)) (oe_one (oe_allT rfl (ae_cons (oe_comp rfl sc__law_is_ints.nd (ie_name 0) (blkOk_by (own := [("part", 1)]) (by exact rfl)) (fun _ _ _ _ _ => (ge_name (i := 1) sc__law_is_ints.nd)) (fun _ _ _ _ _ => if_nil) (fun _ _ _ _ _ => (oe_callC c__law_is_int (hr.mono (by decide)) (ae_cons (oe_var 1) ae_nil) (consA_len (fun _ _ _ h => nilA_len h))))) ae_nil) b.all_)))))⟩
/-! _law_row -/
abbrev s__law_row : Stmt := topS 16
theorem sc__law_row : FnScope ["number", "places", "place"] ["number", "places"] (defScope s__law_row) := ⟨rfl, rfl, rfl, by decide +kernel, rfl, by decide +kernel, by decide +kernel⟩
theorem ok__law_row {P : Program} {w : World} {K : PySem.W.Frag} {mg : Str → Option Value} {κ : String → Nat} {base : Heap} {f : Addr} {fd : FuncData} (Fu : Fun K "_law_row" "_law_row" s__law_row f fd) (b : Bl K mg κ)  :
    FnOk P w K mg base CX0 1 f fd ["number", "places"] (spF K (m__law_row κ) 2) := by
  refine fn_ok (k := 0) (io := []) Fu sc__law_row rfl rfl (fun cdv A outer s H E hr => ?_)
  have hu := room64 hr
  exact ⟨_, by decide, (sse_one (se_ret (oe_tuple (ae_cons (oe_comp rfl sc__law_row.nd (ie_range1 (by rfl) b.range_ (de_cons (oe_var 1) de_nil)) (blkOk_by (own := [("place", 2)]) (by exact rfl)) (fun _ _ _ _ _ => (ge_name (i := 2) sc__law_row.nd)) (fun _ _ _ _ _ => if_nil) (fun _ _ _ _ _ => (oe_band (oe_shr (oe_var 0) (oe_sub (oe_sub (oe_var 1) oe_int) (oe_var 2))) oe_int))) ae_nil) b.tuple_)))⟩
/-! _law_rows -/
abbrev s__law_rows : Stmt := topS 17
theorem sc__law_rows : FnScope ["places", "number"] ["places"] (defScope s__law_rows) := ⟨rfl, rfl, rfl, by decide +kernel, rfl, by decide +kernel, by decide +kernel⟩
theorem ok__law_rows {P : Program} {w : World} {K : PySem.W.Frag} {mg : Str → Option Value} {κ : String → Nat} {base : Heap} {f : Addr} {fd : FuncData} (Fu : Fun K "_law_rows" "_law_rows" s__law_rows f fd) (b : Bl K mg κ) (c__law_row : Callee P w K mg base 1 "_law_row" 2 (m__law_row κ)) :
    FnOk P w K mg base CX0 2 f fd ["places"] (spF K (m__law_rows κ) 1) := by
  refine fn_ok (k := 1) (io := []) Fu sc__law_rows rfl rfl (fun cdv A outer s H E hr => ?_)
  have hu := room64 hr
  exact ⟨_, by decide, (sse_one (se_ret (oe_comp rfl sc__law_rows.nd (ie_range1 (by rfl) b.range_ (de_cons (oe_shl oe_int (oe_var 0)) de_nil)) (blkOk_by (own := [("number", 1)]) (by exact rfl)) (fun _ _ _ _ _ => (ge_name (i := 1) sc__law_rows.nd)) (fun _ _ _ _ _ => if_nil) (fun _ _ _ _ _ => (oe_callC c__law_row (hr.mono (by decide)) (ae_cons (oe_var 1) (ae_cons (oe_var 0) ae_nil)) (consA_len (consA_len (fun _ _ _ h => nilA_len h))))))))⟩
/-! _law_number -/
abbrev s__law_number : Stmt := topS 18
theorem sc__law_number : FnScope ["row", "number", "value"] ["row"] (defScope s__law_number) := ⟨rfl, rfl, rfl, by decide +kernel, rfl, by decide +kernel, by decide +kernel⟩
theorem ok__law_number {P : Program} {w : World} {K : PySem.W.Frag} {mg : Str → Option Value} {κ : String → Nat} {base : Heap} {f : Addr} {fd : FuncData} (Fu : Fun K "_law_number" "_law_number" s__law_number f fd) (b : Bl K mg κ)  :
    FnOk P w K mg base CX0 1 f fd ["row"] (spF K (m__law_number κ) 1) := by
  refine fn_ok (k := 0) (io := []) Fu sc__law_number rfl rfl (fun cdv A outer s H E hr => ?_)
  have hu := room64 hr
  exact ⟨_, by decide, (sse_cons (se_set 1 sc__law_number.nd oe_int)
    (sse_cons (se_for PassesOwn.never rfl (ie_name 0) (ge_name (i := 2) sc__law_number.nd) (sse_one (se_set 1 sc__law_number.nd (oe_add (oe_mul (oe_var 1) oe_int) (oe_var 2)))))
    (sse_one (se_ret (oe_var 1)))))⟩
/-! _law_ones -/
abbrev s__law_ones : Stmt := topS 19
theorem sc__law_ones : FnScope ["mask", "many"] ["mask"] (defScope s__law_ones) := ⟨rfl, rfl, rfl, by decide +kernel, rfl, by decide +kernel, by decide +kernel⟩
theorem ok__law_ones {P : Program} {w : World} {K : PySem.W.Frag} {mg : Str → Option Value} {κ : String → Nat} {base : Heap} {f : Addr} {fd : FuncData} (Fu : Fun K "_law_ones" "_law_ones" s__law_ones f fd) (b : Bl K mg κ)  :
    FnOk P w K mg base CX0 1 f fd ["mask"] (spF K (m__law_ones κ) 1) := by
  refine fn_ok (k := 0) (io := []) Fu sc__law_ones rfl rfl (fun cdv A outer s H E hr => ?_)
  have hu := room64 hr
  exact ⟨_, by decide, (sse_cons (se_set 1 sc__law_ones.nd oe_int)
    (sse_cons (se_while PassesOwn.never (te_gt (oe_var 0) oe_int) (sse_cons (se_set 0 sc__law_ones.nd (oe_band (oe_var 0) (oe_sub (oe_var 0) oe_int)))
    (sse_one (se_iadd 1 sc__law_ones.nd oe_int))))
    (sse_one (se_ret (oe_var 1)))))⟩
/-! _law_sum -/
abbrev s__law_sum : Stmt := topS 20
theorem sc__law_sum : FnScope ["prices", "whole", "price"] ["prices"] (defScope s__law_sum) := ⟨rfl, rfl, rfl, by decide +kernel, rfl, by decide +kernel, by decide +kernel⟩
theorem ok__law_sum {P : Program} {w : World} {K : PySem.W.Frag} {mg : Str → Option Value} {κ : String → Nat} {base : Heap} {f : Addr} {fd : FuncData} (Fu : Fun K "_law_sum" "_law_sum" s__law_sum f fd) (b : Bl K mg κ)  :
    FnOk P w K mg base CX0 1 f fd ["prices"] (spF K (m__law_sum κ) 1) := by
  refine fn_ok (k := 0) (io := []) Fu sc__law_sum rfl rfl (fun cdv A outer s H E hr => ?_)
  have hu := room64 hr
  exact ⟨_, by decide, (sse_cons (se_set 1 sc__law_sum.nd oe_int)
    (sse_cons (se_for PassesOwn.never rfl (ie_name 0) (ge_name (i := 2) sc__law_sum.nd) (sse_cons (se_if (te_is (oe_var 2) oe_non) (sse_one (se_ret oe_non)) sse_nil)
    (sse_one (se_iadd 1 sc__law_sum.nd (oe_var 2)))))
    (sse_one (se_ret (oe_var 1)))))⟩
/-! _law_low -/
abbrev s__law_low : Stmt := topS 21
theorem sc__law_low : FnScope ["prices", "best", "price"] ["prices"] (defScope s__law_low) := ⟨rfl, rfl, rfl, by decide +kernel, rfl, by decide +kernel, by decide +kernel⟩
theorem ok__law_low {P : Program} {w : World} {K : PySem.W.Frag} {mg : Str → Option Value} {κ : String → Nat} {base : Heap} {f : Addr} {fd : FuncData} (Fu : Fun K "_law_low" "_law_low" s__law_low f fd) (b : Bl K mg κ)  :
    FnOk P w K mg base CX0 1 f fd ["prices"] (spF K (m__law_low κ) 1) := by
  refine fn_ok (k := 0) (io := []) Fu sc__law_low rfl rfl (fun cdv A outer s H E hr => ?_)
  have hu := room64 hr
  exact ⟨_, by decide, (sse_cons (se_set 1 sc__law_low.nd oe_non)
    (sse_cons (se_for PassesOwn.never rfl (ie_name 0) (ge_name (i := 2) sc__law_low.nd) (sse_one (se_if ((tw_and (te_isn (oe_var 2) oe_non) (tw_and1 ((tw_or (te_is (oe_var 1) oe_non) (tw_or1 (te_lt (oe_var 2) (oe_var 1))))).te))).te (sse_one (se_set 1 sc__law_low.nd (oe_var 2))) sse_nil)))
    (sse_one (se_ret (oe_var 1)))))⟩
/-! _law_times -/
abbrev s__law_times : Stmt := topS 22
theorem sc__law_times : FnScope ["price", "times"] ["price", "times"] (defScope s__law_times) := ⟨rfl, rfl, rfl, by decide +kernel, rfl, by decide +kernel, by decide +kernel⟩
theorem ok__law_times {P : Program} {w : World} {K : PySem.W.Frag} {mg : Str → Option Value} {κ : String → Nat} {base : Heap} {f : Addr} {fd : FuncData} (Fu : Fun K "_law_times" "_law_times" s__law_times f fd) (b : Bl K mg κ)  :
    FnOk P w K mg base CX0 1 f fd ["price", "times"] (spF K (m__law_times κ) 2) := by
  refine fn_ok (k := 0) (io := []) Fu sc__law_times rfl rfl (fun cdv A outer s H E hr => ?_)
  have hu := room64 hr
  exact ⟨_, by decide, (sse_cons (se_if (te_is (oe_var 0) oe_non) (sse_one (se_ret oe_non)) sse_nil)
    (sse_one (se_ret (oe_mul (oe_var 0) (oe_var 1)))))⟩
/-! _law_above -/
abbrev s__law_above : Stmt := topS 23
theorem sc__law_above : FnScope ["first", "second"] ["first", "second"] (defScope s__law_above) := ⟨rfl, rfl, rfl, by decide +kernel, rfl, by decide +kernel, by decide +kernel⟩
theorem ok__law_above {P : Program} {w : World} {K : PySem.W.Frag} {mg : Str → Option Value} {κ : String → Nat} {base : Heap} {f : Addr} {fd : FuncData} (Fu : Fun K "_law_above" "_law_above" s__law_above f fd) (b : Bl K mg κ)  :
    FnOk P w K mg base CX0 1 f fd ["first", "second"] (spF K (m__law_above κ) 2) := by
  refine fn_ok (k := 0) (io := []) Fu sc__law_above rfl rfl (fun cdv A outer s H E hr => ?_)
  have hu := room64 hr
  exact ⟨_, by decide, (sse_cons (se_if (te_is (oe_var 1) oe_non) (sse_one (se_ret oe_bl)) sse_nil)
    (sse_one (se_ret (oe_or (oe_is (oe_var 0) oe_non) (oe_one (oe_gt (oe_var 0) (oe_var 1)))))))⟩
/-! _law_most -/
abbrev s__law_most : Stmt := topS 24
theorem sc__law_most : FnScope ["first", "second", "third"] ["first", "second", "third"] (defScope s__law_most) := ⟨rfl, rfl, rfl, by decide +kernel, rfl, by decide +kernel, by decide +kernel⟩
theorem ok__law_most {P : Program} {w : World} {K : PySem.W.Frag} {mg : Str → Option Value} {κ : String → Nat} {base : Heap} {f : Addr} {fd : FuncData} (Fu : Fun K "_law_most" "_law_most" s__law_most f fd) (b : Bl K mg κ)  :
    FnOk P w K mg base CX0 1 f fd ["first", "second", "third"] (spF K (m__law_most κ) 3) := by
  refine fn_ok (k := 0) (io := []) Fu sc__law_most rfl rfl (fun cdv A outer s H E hr => ?_)
  have hu := room64 hr
  exact ⟨_, by decide, (sse_one (se_ret (oe_bor (oe_bor (oe_band (oe_var 0) (oe_var 1)) (oe_band (oe_var 0) (oe_var 2))) (oe_band (oe_var 1) (oe_var 2)))))⟩
/-! _law_kinds -/
abbrev s__law_kinds : Stmt := topS 25
theorem sc__law_kinds : FnScope [] [] (defScope s__law_kinds) := ⟨rfl, rfl, rfl, by decide +kernel, rfl, by decide +kernel, by decide +kernel⟩
theorem ok__law_kinds {P : Program} {w : World} {K : PySem.W.Frag} {mg : Str → Option Value} {κ : String → Nat} {base : Heap} {f : Addr} {fd : FuncData} (Fu : Fun K "_law_kinds" "_law_kinds" s__law_kinds f fd) (b : Bl K mg κ)  :
    FnOk P w K mg base CX0 1 f fd [] (spF K (m__law_kinds κ) 0) := by
  refine fn_ok (k := 0) (io := []) Fu sc__law_kinds rfl rfl (fun cdv A outer s H E hr => ?_)
  have hu := room64 hr
  exact ⟨_, by decide, (sse_one (se_ret (oe_lst (de_cons oe_str (de_cons oe_str (de_cons oe_str (de_cons oe_str (de_cons oe_str (de_cons oe_str (de_cons oe_str (de_cons oe_str de_nil)))))))))))⟩
/-! _law_breach_one -/
abbrev s__law_breach_one : Stmt := topS 26
theorem sc__law_breach_one : FnScope ["kind", "prices", "rows", "last", "t"] ["kind", "prices", "rows"] (defScope s__law_breach_one) := ⟨rfl, rfl, rfl, by decide +kernel, rfl, by decide +kernel, by decide +kernel⟩
theorem ok__law_breach_one {P : Program} {w : World} {K : PySem.W.Frag} {mg : Str → Option Value} {κ : String → Nat} {base : Heap} {f : Addr} {fd : FuncData} (Fu : Fun K "_law_breach_one" "_law_breach_one" s__law_breach_one f fd) (b : Bl K mg κ) (c__law_above : Callee P w K mg base 1 "_law_above" 2 (m__law_above κ)) :
    FnOk P w K mg base CX0 2 f fd ["kind", "prices", "rows"] (spF K (m__law_breach_one κ) 3) := by
  refine fn_ok (k := 1) (io := []) Fu sc__law_breach_one rfl rfl (fun cdv A outer s H E hr => ?_)
  have hu := room64 hr
  exact ⟨_, by decide, (sse_cons (se_set 3 sc__law_breach_one.nd (oe_sub (oe_lenX (ae_cons (oe_var 1) ae_nil) b.len_) oe_int))
    (sse_cons (se_for PassesOwn.never rfl (ie_name 2) (ge_name (i := 4) sc__law_breach_one.nd) (sse_one (se_if (te_tru (oe_callC c__law_above (hr.mono (by decide)) (ae_cons (oe_at (oe_var 1) (oe_if (te_eq hu (oe_var 0) oe_str) oe_int (oe_var 3))) (ae_cons (oe_at (oe_var 1) (oe_var 4)) ae_nil)) (consA_len (consA_len (fun _ _ _ h => nilA_len h))))) (sse_one (se_ret oe_bl)) sse_nil)))
    (sse_one (se_ret oe_bl))))⟩
/-! _law_breach_two -/
abbrev s__law_breach_two : Stmt := topS 27
theorem sc__law_breach_two : FnScope ["kind", "prices", "rows", "s", "t", "low", "high"] ["kind", "prices", "rows"] (defScope s__law_breach_two) := ⟨rfl, rfl, rfl, by decide +kernel, rfl, by decide +kernel, by decide +kernel⟩
theorem ok__law_breach_two {P : Program} {w : World} {K : PySem.W.Frag} {mg : Str → Option Value} {κ : String → Nat} {base : Heap} {f : Addr} {fd : FuncData} (Fu : Fun K "_law_breach_two" "_law_breach_two" s__law_breach_two f fd) (b : Bl K mg κ) (c__law_above : Callee P w K mg base 1 "_law_above" 2 (m__law_above κ)) (c__law_sum : Callee P w K mg base 1 "_law_sum" 1 (m__law_sum κ)) (c__law_times : Callee P w K mg base 1 "_law_times" 2 (m__law_times κ)) :
    FnOk P w K mg base CX0 2 f fd ["kind", "prices", "rows"] (spF K (m__law_breach_two κ) 3) := by
  refine fn_ok (k := 1) (io := []) Fu sc__law_breach_two rfl rfl (fun cdv A outer s H E hr => ?_)
  have hu := room64 hr
  exact ⟨_, by decide, (sse_cons (se_for PassesOwn.never rfl (ie_name 2) (ge_name (i := 3) sc__law_breach_two.nd) (sse_one (se_for PassesOwn.never rfl (ie_name 2) (ge_name (i := 4) sc__law_breach_two.nd) (sse_cons (se_set 5 sc__law_breach_two.nd (oe_callC c__law_times (hr.mono (by decide)) (ae_cons (oe_at (oe_var 1) (oe_band (oe_var 3) (oe_var 4))) (ae_cons oe_int ae_nil)) (consA_len (consA_len (fun _ _ _ h => nilA_len h)))))
    (sse_cons (se_set 6 sc__law_breach_two.nd (oe_callC c__law_times (hr.mono (by decide)) (ae_cons (oe_at (oe_var 1) (oe_bor (oe_var 3) (oe_var 4))) (ae_cons oe_int ae_nil)) (consA_len (consA_len (fun _ _ _ h => nilA_len h)))))
    (sse_cons (se_if (te_eq hu (oe_var 0) oe_str) (sse_one (se_set 5 sc__law_breach_two.nd (oe_var 6))) sse_nil)
    (sse_cons (se_if (te_eq hu (oe_var 0) oe_str) (sse_one (se_set 5 sc__law_breach_two.nd (oe_callC c__law_sum (hr.mono (by decide)) (ae_cons (oe_lst (de_cons (oe_at (oe_var 1) (oe_band (oe_var 3) (oe_var 4))) (de_cons (oe_at (oe_var 1) (oe_bor (oe_var 3) (oe_var 4))) de_nil))) ae_nil) (consA_len (fun _ _ _ h => nilA_len h))))) sse_nil)
    (sse_one (se_if (te_tru (oe_callC c__law_above (hr.mono (by decide)) (ae_cons (oe_var 5) (ae_cons (oe_add (oe_at (oe_var 1) (oe_var 3)) (oe_at (oe_var 1) (oe_var 4))) ae_nil)) (consA_len (consA_len (fun _ _ _ h => nilA_len h))))) (sse_one (se_ret oe_bl)) sse_nil)))))))))
    (sse_one (se_ret oe_bl)))⟩
/-! _law_breach_three -/
abbrev s__law_breach_three : Stmt := topS 28
theorem sc__law_breach_three : FnScope ["kind", "prices", "rows", "i", "j", "k", "most", "odd", "made"] ["kind", "prices", "rows"] (defScope s__law_breach_three) := ⟨rfl, rfl, rfl, by decide +kernel, rfl, by decide +kernel, by decide +kernel⟩
theorem ok__law_breach_three {P : Program} {w : World} {K : PySem.W.Frag} {mg : Str → Option Value} {κ : String → Nat} {base : Heap} {f : Addr} {fd : FuncData} (Fu : Fun K "_law_breach_three" "_law_breach_three" s__law_breach_three f fd) (b : Bl K mg κ) (c__law_above : Callee P w K mg base 1 "_law_above" 2 (m__law_above κ)) (c__law_most : Callee P w K mg base 1 "_law_most" 3 (m__law_most κ)) (c__law_sum : Callee P w K mg base 1 "_law_sum" 1 (m__law_sum κ)) (c__law_times : Callee P w K mg base 1 "_law_times" 2 (m__law_times κ)) :
    FnOk P w K mg base CX0 2 f fd ["kind", "prices", "rows"] (spF K (m__law_breach_three κ) 3) := by
  refine fn_ok (k := 1) (io := []) Fu sc__law_breach_three rfl rfl (fun cdv A outer s H E hr => ?_)
  have hu := room64 hr
  exact ⟨_, by decide, (sse_cons (se_for PassesOwn.never rfl (ie_range1 (by rfl) b.range_ (de_cons (oe_lenX (ae_cons (oe_var 2) ae_nil) b.len_) de_nil)) (ge_name (i := 3) sc__law_breach_three.nd) (sse_one (se_for PassesOwn.never rfl (ie_range2 (by rfl) b.range_ (de_cons (oe_var 3) (de_cons (oe_lenX (ae_cons (oe_var 2) ae_nil) b.len_) de_nil))) (ge_name (i := 4) sc__law_breach_three.nd) (sse_one (se_for PassesOwn.never rfl (ie_range2 (by rfl) b.range_ (de_cons (oe_var 4) (de_cons (oe_lenX (ae_cons (oe_var 2) ae_nil) b.len_) de_nil))) (ge_name (i := 5) sc__law_breach_three.nd) (sse_cons (se_set 6 sc__law_breach_three.nd (oe_at (oe_var 1) (oe_callC c__law_most (hr.mono (by decide)) (ae_cons (oe_at (oe_var 2) (oe_var 3)) (ae_cons (oe_at (oe_var 2) (oe_var 4)) (ae_cons (oe_at (oe_var 2) (oe_var 5)) ae_nil))) (consA_len (consA_len (consA_len (fun _ _ _ h => nilA_len h)))))))
    (sse_cons (se_set 7 sc__law_breach_three.nd (oe_at (oe_var 1) (oe_bxor (oe_bxor (oe_at (oe_var 2) (oe_var 3)) (oe_at (oe_var 2) (oe_var 4))) (oe_at (oe_var 2) (oe_var 5)))))
    (sse_cons (se_set 8 sc__law_breach_three.nd (oe_callC c__law_sum (hr.mono (by decide)) (ae_cons (oe_lst (de_cons (oe_var 6) (de_cons (oe_var 6) (de_cons (oe_var 7) de_nil)))) ae_nil) (consA_len (fun _ _ _ h => nilA_len h))))
    (sse_cons (se_if (te_eq hu (oe_var 0) oe_str) (sse_one (se_set 8 sc__law_breach_three.nd (oe_callC c__law_times (hr.mono (by decide)) (ae_cons (oe_var 6) (ae_cons oe_int ae_nil)) (consA_len (consA_len (fun _ _ _ h => nilA_len h)))))) sse_nil)
    (sse_cons (se_if (te_eq hu (oe_var 0) oe_str) (sse_one (se_set 8 sc__law_breach_three.nd (oe_callC c__law_times (hr.mono (by decide)) (ae_cons (oe_var 7) (ae_cons oe_int ae_nil)) (consA_len (consA_len (fun _ _ _ h => nilA_len h)))))) sse_nil)
    (sse_one (se_if (te_tru (oe_callC c__law_above (hr.mono (by decide)) (ae_cons (oe_var 8) (ae_cons (oe_add (oe_add (oe_at (oe_var 1) (oe_at (oe_var 2) (oe_var 3))) (oe_at (oe_var 1) (oe_at (oe_var 2) (oe_var 4)))) (oe_at (oe_var 1) (oe_at (oe_var 2) (oe_var 5)))) ae_nil)) (consA_len (consA_len (fun _ _ _ h => nilA_len h))))) (sse_one (se_ret oe_bl)) sse_nil))))))))))))
    (sse_one (se_ret oe_bl)))⟩
/-! _law_keeps -/
abbrev s__law_keeps : Stmt := topS 29
theorem sc__law_keeps : FnScope ["kind", "prices", "rows", "number"] ["kind", "prices"] (defScope s__law_keeps) := ⟨rfl, rfl, rfl, by decide +kernel, rfl, by decide +kernel, by decide +kernel⟩
theorem ok__law_keeps {P : Program} {w : World} {K : PySem.W.Frag} {mg : Str → Option Value} {κ : String → Nat} {base : Heap} {f : Addr} {fd : FuncData} (Fu : Fun K "_law_keeps" "_law_keeps" s__law_keeps f fd) (b : Bl K mg κ) (c__law_breach_one : Callee P w K mg base 2 "_law_breach_one" 3 (m__law_breach_one κ)) (c__law_breach_three : Callee P w K mg base 2 "_law_breach_three" 3 (m__law_breach_three κ)) (c__law_breach_two : Callee P w K mg base 2 "_law_breach_two" 3 (m__law_breach_two κ)) :
    FnOk P w K mg base CX0 3 f fd ["kind", "prices"] (spF K (m__law_keeps κ) 2) := by
  refine fn_ok (k := 2) (io := []) Fu sc__law_keeps rfl rfl (fun cdv A outer s H E hr => ?_)
  have hu := room64 hr
  exact ⟨_, by decide, (sse_cons (se_setComp 2 rfl sc__law_keeps.nd (ie_range1 (by rfl) b.range_ (de_cons (oe_lenX (ae_cons (oe_var 1) ae_nil) b.len_) de_nil)) (blkOk_by (own := [("number", 3)]) (by exact rfl)) (fun _ _ _ _ _ => (ge_name (i := 3) sc__law_keeps.nd)) (fun _ _ _ _ _ => (if_one (te_isn (oe_at (oe_var 1) (oe_var 3)) oe_non))) (fun _ _ _ _ _ => (oe_var 3)) (sw_true rfl rfl rfl (by decide +kernel)))
    (sse_cons (se_if (te_inX (room65 hr) (oe_var 0) (oe_tup (de_cons oe_str (de_cons oe_str de_nil)))) (sse_one (se_ret (oe_not (oe_callC c__law_breach_one (hr.mono (by decide)) (ae_cons (oe_var 0) (ae_cons (oe_var 1) (ae_cons (oe_var 2) ae_nil))) (consA_len (consA_len (consA_len (fun _ _ _ h => nilA_len h)))))))) sse_nil)
    (sse_cons (se_if (te_inX (room65 hr) (oe_var 0) (oe_tup (de_cons oe_str (de_cons oe_str (de_cons oe_str de_nil))))) (sse_one (se_ret (oe_not (oe_callC c__law_breach_two (hr.mono (by decide)) (ae_cons (oe_var 0) (ae_cons (oe_var 1) (ae_cons (oe_var 2) ae_nil))) (consA_len (consA_len (consA_len (fun _ _ _ h => nilA_len h)))))))) sse_nil)
    (sse_one (se_ret (oe_not (oe_callC c__law_breach_three (hr.mono (by decide)) (ae_cons (oe_var 0) (ae_cons (oe_var 1) (ae_cons (oe_var 2) ae_nil))) (consA_len (consA_len (consA_len (fun _ _ _ h => nilA_len h)))))))))))⟩
/-! _law_kept -/
abbrev s__law_kept : Stmt := topS 30
theorem sc__law_kept : FnScope ["kind", "tables", "table"] ["kind", "tables"] (defScope s__law_kept) := ⟨rfl, rfl, rfl, by decide +kernel, rfl, by decide +kernel, by decide +kernel⟩
theorem ok__law_kept {P : Program} {w : World} {K : PySem.W.Frag} {mg : Str → Option Value} {κ : String → Nat} {base : Heap} {f : Addr} {fd : FuncData} (Fu : Fun K "_law_kept" "_law_kept" s__law_kept f fd) (b : Bl K mg κ) (c__law_keeps : Callee P w K mg base 3 "_law_keeps" 2 (m__law_keeps κ)) :
    FnOk P w K mg base CX0 4 f fd ["kind", "tables"] (spF K (m__law_kept κ) 2) := by
  refine fn_ok (k := 3) (io := []) Fu sc__law_kept rfl rfl (fun cdv A outer s H E hr => ?_)
  have hu := room64 hr
  exact ⟨_, by decide, (sse_one (se_ret (oe_allT rfl (ae_cons (oe_comp rfl sc__law_kept.nd (ie_name 1) (blkOk_by (own := [("table", 2)]) (by exact rfl)) (fun _ _ _ _ _ => (ge_name (i := 2) sc__law_kept.nd)) (fun _ _ _ _ _ => if_nil) (fun _ _ _ _ _ => (oe_callC c__law_keeps (hr.mono (by decide)) (ae_cons (oe_var 0) (ae_cons (oe_at (oe_var 2) oe_int) ae_nil)) (consA_len (consA_len (fun _ _ _ h => nilA_len h)))))) ae_nil) b.all_)))⟩
/-! _law_first_kind -/
abbrev s__law_first_kind : Stmt := topS 31
theorem sc__law_first_kind : FnScope ["tables", "kind"] ["tables"] (defScope s__law_first_kind) := ⟨rfl, rfl, rfl, by decide +kernel, rfl, by decide +kernel, by decide +kernel⟩
theorem ok__law_first_kind {P : Program} {w : World} {K : PySem.W.Frag} {mg : Str → Option Value} {κ : String → Nat} {base : Heap} {f : Addr} {fd : FuncData} (Fu : Fun K "_law_first_kind" "_law_first_kind" s__law_first_kind f fd) (b : Bl K mg κ) (c__law_kept : Callee P w K mg base 4 "_law_kept" 2 (m__law_kept κ)) (c__law_kinds : Callee P w K mg base 1 "_law_kinds" 0 (m__law_kinds κ)) :
    FnOk P w K mg base CX0 5 f fd ["tables"] (spF K (m__law_first_kind κ) 1) := by
  refine fn_ok (k := 4) (io := []) Fu sc__law_first_kind rfl rfl (fun cdv A outer s H E hr => ?_)
  have hu := room64 hr
  exact ⟨_, by decide, (sse_cons (se_for PassesOwn.never rfl (ie_seq (oe_callC0 c__law_kinds (hr.mono (by decide)))) (ge_name (i := 1) sc__law_first_kind.nd) (sse_one (se_if (te_tru (oe_callC c__law_kept (hr.mono (by decide)) (ae_cons (oe_var 1) (ae_cons (oe_var 0) ae_nil)) (consA_len (consA_len (fun _ _ _ h => nilA_len h))))) (sse_one (se_ret (oe_var 1))) sse_nil)))
    (sse_one (se_ret oe_non)))⟩
/-! _law_cost -/
abbrev s__law_cost : Stmt := topS 32
theorem sc__law_cost : FnScope ["d"] ["d"] (defScope s__law_cost) := ⟨rfl, rfl, rfl, by decide +kernel, rfl, by decide +kernel, by decide +kernel⟩
theorem ok__law_cost {P : Program} {w : World} {K : PySem.W.Frag} {mg : Str → Option Value} {κ : String → Nat} {base : Heap} {f : Addr} {fd : FuncData} (Fu : Fun K "_law_cost" "_law_cost" s__law_cost f fd) (b : Bl K mg κ) (c__law_draw : Callee P w K mg base 1 "_law_draw" 2 (m__law_draw κ)) (c__law_rare : Callee P w K mg base 2 "_law_rare" 2 (m__law_rare κ)) :
    FnOk P w K mg base CX0 3 f fd ["d"] (spF K (m__law_cost κ) 1) := by
  refine fn_ok (k := 2) (io := [0]) Fu sc__law_cost rfl rfl (fun cdv A outer s H E hr => ?_)
  have hu := room64 hr
  exact ⟨_, by decide, (sse_cons (se_if (te_tru (oe_callC c__law_rare (hr.mono (by decide)) (ae_cons (oe_var 0) (ae_cons oe_int ae_nil)) (consA_len (consA_len (fun _ _ _ h => nilA_len h))))) (sse_one (se_ret (oe_callC c__law_draw (hr.mono (by decide)) (ae_cons (oe_var 0) (ae_cons oe_int ae_nil)) (consA_len (consA_len (fun _ _ _ h => nilA_len h)))))) sse_nil)
    (sse_one (se_ret (oe_callC c__law_draw (hr.mono (by decide)) (ae_cons (oe_var 0) (ae_cons oe_int ae_nil)) (consA_len (consA_len (fun _ _ _ h => nilA_len h)))))))⟩
/-! _law_opened -/
abbrev s__law_opened : Stmt := topS 33
theorem sc__law_opened : FnScope ["d", "prices"] ["d", "prices"] (defScope s__law_opened) := ⟨rfl, rfl, rfl, by decide +kernel, rfl, by decide +kernel, by decide +kernel⟩
theorem ok__law_opened {P : Program} {w : World} {K : PySem.W.Frag} {mg : Str → Option Value} {κ : String → Nat} {base : Heap} {f : Addr} {fd : FuncData} (Fu : Fun K "_law_opened" "_law_opened" s__law_opened f fd) (b : Bl K mg κ) (c__law_cost : Callee P w K mg base 3 "_law_cost" 1 (m__law_cost κ)) (c__law_draw : Callee P w K mg base 1 "_law_draw" 2 (m__law_draw κ)) (c__law_low : Callee P w K mg base 1 "_law_low" 1 (m__law_low κ)) :
    FnOk P w K mg base CX0 4 f fd ["d", "prices"] (spF K (m__law_opened κ) 2) := by
  refine fn_ok (k := 3) (io := [0, 1]) Fu sc__law_opened rfl rfl (fun cdv A outer s H E hr => ?_)
  have hu := room64 hr
  exact ⟨_, by decide, (sse_cons (se_if (te_is (oe_callC c__law_low (hr.mono (by decide)) (ae_cons (oe_var 1) ae_nil) (consA_len (fun _ _ _ h => nilA_len h))) oe_non) (sse_one (se_put 1 (oe_callC c__law_cost (hr.mono (by decide)) (ae_cons (oe_var 0) ae_nil) (consA_len (fun _ _ _ h => nilA_len h))) (oe_callC c__law_draw (hr.mono (by decide)) (ae_cons (oe_var 0) (ae_cons (oe_lenX (ae_cons (oe_var 1) ae_nil) b.len_) ae_nil)) (consA_len (consA_len (fun _ _ _ h => nilA_len h)))))) sse_nil)
    (sse_one (se_ret (oe_var 1))))⟩
/-! _law_loose -/
abbrev s__law_loose : Stmt := topS 34
theorem sc__law_loose : FnScope ["d", "places", "barred", "prices", "number", "bar"] ["d", "places", "barred"] (defScope s__law_loose) := ⟨rfl, rfl, rfl, by decide +kernel, rfl, by decide +kernel, by decide +kernel⟩
theorem ok__law_loose {P : Program} {w : World} {K : PySem.W.Frag} {mg : Str → Option Value} {κ : String → Nat} {base : Heap} {f : Addr} {fd : FuncData} (Fu : Fun K "_law_loose" "_law_loose" s__law_loose f fd) (b : Bl K mg κ) (c__law_cost : Callee P w K mg base 3 "_law_cost" 1 (m__law_cost κ)) (c__law_draw : Callee P w K mg base 1 "_law_draw" 2 (m__law_draw κ)) (c__law_opened : Callee P w K mg base 4 "_law_opened" 2 (m__law_opened κ)) :
    FnOk P w K mg base CX0 5 f fd ["d", "places", "barred"] (spF K (m__law_loose κ) 3) := by
  refine fn_ok (k := 4) (io := [0]) Fu sc__law_loose rfl rfl (fun cdv A outer s H E hr => ?_)
  have hu := room64 hr
  exact ⟨_, by decide, (sse_cons (se_set 3 sc__law_loose.nd (oe_lst de_nil))
    (sse_cons (se_for PassesOwn.never rfl (ie_range1 (by rfl) b.range_ (de_cons (oe_shl oe_int (oe_var 1)) de_nil)) (ge_name (i := 4) sc__law_loose.nd) (sse_cons (se_set 5 sc__law_loose.nd (oe_lt (oe_callC c__law_draw (hr.mono (by decide)) (ae_cons (oe_var 0) (ae_cons oe_int ae_nil)) (consA_len (consA_len (fun _ _ _ h => nilA_len h)))) (oe_var 2)))
    (sse_one (se_expr (oe_append 3 (de_cons (oe_if (te_tru (oe_var 5)) oe_non (oe_callC c__law_cost (hr.mono (by decide)) (ae_cons (oe_var 0) ae_nil) (consA_len (fun _ _ _ h => nilA_len h)))) de_nil))))))
    (sse_one (se_ret (oe_tup (de_cons (oe_var 1) (de_cons (oe_tuple (ae_cons (oe_callC c__law_opened (hr.mono (by decide)) (ae_cons (oe_var 0) (ae_cons (oe_var 3) ae_nil)) (consA_len (consA_len (fun _ _ _ h => nilA_len h)))) ae_nil) b.tuple_) de_nil)))))))⟩
/-! _law_crisp -/
abbrev s__law_crisp : Stmt := topS 35
theorem sc__law_crisp : FnScope ["d", "places", "barred", "price", "prices", "number"] ["d", "places", "barred"] (defScope s__law_crisp) := ⟨rfl, rfl, rfl, by decide +kernel, rfl, by decide +kernel, by decide +kernel⟩
theorem ok__law_crisp {P : Program} {w : World} {K : PySem.W.Frag} {mg : Str → Option Value} {κ : String → Nat} {base : Heap} {f : Addr} {fd : FuncData} (Fu : Fun K "_law_crisp" "_law_crisp" s__law_crisp f fd) (b : Bl K mg κ) (c__law_cost : Callee P w K mg base 3 "_law_cost" 1 (m__law_cost κ)) (c__law_draw : Callee P w K mg base 1 "_law_draw" 2 (m__law_draw κ)) (c__law_opened : Callee P w K mg base 4 "_law_opened" 2 (m__law_opened κ)) :
    FnOk P w K mg base CX0 5 f fd ["d", "places", "barred"] (spF K (m__law_crisp κ) 3) := by
  refine fn_ok (k := 4) (io := [0]) Fu sc__law_crisp rfl rfl (fun cdv A outer s H E hr => ?_)
  have hu := room64 hr
  exact ⟨_, by decide, (sse_cons (se_set 3 sc__law_crisp.nd (oe_callC c__law_cost (hr.mono (by decide)) (ae_cons (oe_var 0) ae_nil) (consA_len (fun _ _ _ h => nilA_len h))))
    (sse_cons (se_setComp 4 rfl sc__law_crisp.nd (ie_range1 (by rfl) b.range_ (de_cons (oe_shl oe_int (oe_var 1)) de_nil)) (blkOk_by (own := [("number", 5)]) (by exact rfl)) (fun _ _ _ _ _ => (ge_name (i := 5) sc__law_crisp.nd)) (fun _ _ _ _ _ => if_nil) (fun _ _ _ _ _ => (oe_if (te_lt (oe_callC c__law_draw (hr.mono (by decide)) (ae_cons (oe_var 0) (ae_cons oe_int ae_nil)) (consA_len (consA_len (fun _ _ _ h => nilA_len h)))) (oe_var 2)) oe_non (oe_var 3))) (sw_true rfl rfl rfl (by decide +kernel)))
    (sse_one (se_ret (oe_tup (de_cons (oe_var 1) (de_cons (oe_tuple (ae_cons (oe_callC c__law_opened (hr.mono (by decide)) (ae_cons (oe_var 0) (ae_cons (oe_var 4) ae_nil)) (consA_len (consA_len (fun _ _ _ h => nilA_len h)))) ae_nil) b.tuple_) de_nil)))))))⟩
/-! _law_turned -/
abbrev s__law_turned : Stmt := topS 36
theorem sc__law_turned : FnScope ["table", "price"] ["table"] (defScope s__law_turned) := ⟨rfl, rfl, rfl, by decide +kernel, rfl, by decide +kernel, by decide +kernel⟩
theorem ok__law_turned {P : Program} {w : World} {K : PySem.W.Frag} {mg : Str → Option Value} {κ : String → Nat} {base : Heap} {f : Addr} {fd : FuncData} (Fu : Fun K "_law_turned" "_law_turned" s__law_turned f fd) (b : Bl K mg κ)  :
    FnOk P w K mg base CX0 1 f fd ["table"] (spF K (m__law_turned κ) 1) := by
  refine fn_ok (k := 0) (io := []) Fu sc__law_turned rfl rfl (fun cdv A outer s H E hr => ?_)
  have hu := room64 hr
  exact ⟨_, by decide, (sse_one (se_ret (oe_tup (de_cons (oe_at (oe_var 0) oe_int) (de_cons (oe_tuple (ae_cons (oe_comp rfl sc__law_turned.nd (ie_rev b.reversed_ (oe_at (oe_var 0) oe_int)) (blkOk_by (own := [("price", 1)]) (by exact rfl)) (fun _ _ _ _ _ => (ge_name (i := 1) sc__law_turned.nd)) (fun _ _ _ _ _ => if_nil) (fun _ _ _ _ _ => (oe_var 1))) ae_nil) b.tuple_) de_nil)))))⟩
/-! _law_zero -/
abbrev s__law_zero : Stmt := topS 37
theorem sc__law_zero : FnScope ["d", "places", "prices", "least"] ["d", "places"] (defScope s__law_zero) := ⟨rfl, rfl, rfl, by decide +kernel, rfl, by decide +kernel, by decide +kernel⟩
theorem ok__law_zero {P : Program} {w : World} {K : PySem.W.Frag} {mg : Str → Option Value} {κ : String → Nat} {base : Heap} {f : Addr} {fd : FuncData} (Fu : Fun K "_law_zero" "_law_zero" s__law_zero f fd) (b : Bl K mg κ) (c__law_draw : Callee P w K mg base 1 "_law_draw" 2 (m__law_draw κ)) (c__law_loose : Callee P w K mg base 5 "_law_loose" 3 (m__law_loose κ)) (c__law_low : Callee P w K mg base 1 "_law_low" 1 (m__law_low κ)) :
    FnOk P w K mg base CX0 6 f fd ["d", "places"] (spF K (m__law_zero κ) 2) := by
  refine fn_ok (k := 5) (io := [0]) Fu sc__law_zero rfl rfl (fun cdv A outer s H E hr => ?_)
  have hu := room64 hr
  exact ⟨_, by decide, (sse_cons (se_set 2 sc__law_zero.nd (oe_list (ae_cons (oe_at (oe_callC c__law_loose (hr.mono (by decide)) (ae_cons (oe_var 0) (ae_cons (oe_var 1) (ae_cons (oe_callC c__law_draw (hr.mono (by decide)) (ae_cons (oe_var 0) (ae_cons oe_int ae_nil)) (consA_len (consA_len (fun _ _ _ h => nilA_len h)))) ae_nil))) (consA_len (consA_len (consA_len (fun _ _ _ h => nilA_len h))))) oe_int) ae_nil) b.list_))
    (sse_cons (se_set 3 sc__law_zero.nd (oe_callC c__law_low (hr.mono (by decide)) (ae_cons (oe_var 2) ae_nil) (consA_len (fun _ _ _ h => nilA_len h))))
    (sse_cons (se_put 2 (oe_if (te_eq hu (oe_callC c__law_draw (hr.mono (by decide)) (ae_cons (oe_var 0) (ae_cons oe_int ae_nil)) (consA_len (consA_len (fun _ _ _ h => nilA_len h)))) oe_int) (oe_var 3) (oe_callC c__law_draw (hr.mono (by decide)) (ae_cons (oe_var 0) (ae_cons (oe_add (oe_var 3) oe_int) ae_nil)) (consA_len (consA_len (fun _ _ _ h => nilA_len h))))) oe_int)
    (sse_one (se_ret (oe_tup (de_cons (oe_var 1) (de_cons (oe_tuple (ae_cons (oe_var 2) ae_nil) b.tuple_) de_nil))))))))⟩
/-! _law_least -/
abbrev s__law_least : Stmt := topS 38
theorem sc__law_least : FnScope ["d", "places", "size", "kept", "first", "prices", "base", "number", "second", "below", "k", "price"] ["d", "places"] (defScope s__law_least) := ⟨rfl, rfl, rfl, by decide +kernel, rfl, by decide +kernel, by decide +kernel⟩
theorem ok__law_least {P : Program} {w : World} {K : PySem.W.Frag} {mg : Str → Option Value} {κ : String → Nat} {base : Heap} {f : Addr} {fd : FuncData} (Fu : Fun K "_law_least" "_law_least" s__law_least f fd) (b : Bl K mg κ) (c__law_draw : Callee P w K mg base 1 "_law_draw" 2 (m__law_draw κ)) :
    FnOk P w K mg base CX0 2 f fd ["d", "places"] (spF K (m__law_least κ) 2) := by
  refine fn_ok (k := 1) (io := [0]) Fu sc__law_least rfl rfl (fun cdv A outer s H E hr => ?_)
  have hu := room64 hr
  exact ⟨_, by decide, (sse_cons (se_set 2 sc__law_least.nd (oe_shl oe_int (oe_var 1)))
    (sse_cons (se_setComp 3 rfl sc__law_least.nd (ie_range1 (by rfl) b.range_ (de_cons (oe_var 2) de_nil)) (blkOk_by (own := [("number", 7)]) (by exact rfl)) (fun _ _ _ _ _ => (ge_name (i := 7) sc__law_least.nd)) (fun _ _ _ _ _ => if_nil) (fun _ _ _ _ _ => (oe_int_ (ae_cons (oe_lt (oe_callC c__law_draw (hr.mono (by decide)) (ae_cons (oe_var 0) (ae_cons oe_int ae_nil)) (consA_len (consA_len (fun _ _ _ h => nilA_len h)))) oe_int) ae_nil) b.int_)) (sw_true rfl rfl rfl (by decide +kernel)))
    (sse_cons (se_put 3 oe_int (oe_callC c__law_draw (hr.mono (by decide)) (ae_cons (oe_var 0) (ae_cons (oe_var 2) ae_nil)) (consA_len (consA_len (fun _ _ _ h => nilA_len h)))))
    (sse_cons (se_for PassesOwn.never rfl (ie_range1 (by rfl) b.range_ (de_cons (oe_var 2) de_nil)) (ge_name (i := 4) sc__law_least.nd) (sse_one (se_for PassesOwn.never rfl (ie_range1 (by rfl) b.range_ (de_cons (oe_var 2) de_nil)) (ge_name (i := 8) sc__law_least.nd) (sse_one (se_if ((tw_and (te_eq hu (oe_at (oe_var 3) (oe_var 4)) oe_int) (tw_and1 (te_eq hu (oe_at (oe_var 3) (oe_var 8)) oe_int)))).te (sse_one (se_put 3 oe_int (oe_band (oe_var 4) (oe_var 8)))) sse_nil)))))
    (sse_cons (se_for PassesOwn.never rfl (ie_rev b.reversed_ (oe_listRg rfl (oe_var 2) b.list_ b.range_)) (ge_name (i := 4) sc__law_least.nd) (sse_one (se_for PassesOwn.never rfl (ie_range1 (by rfl) b.range_ (de_cons (oe_var 2) de_nil)) (ge_name (i := 8) sc__law_least.nd) (sse_one (se_if ((tw_and (te_eq hu (oe_at (oe_var 3) (oe_var 4)) oe_int) (tw_and1 (te_eq hu (oe_at (oe_var 3) (oe_var 8)) oe_int)))).te (sse_one (se_put 3 oe_int (oe_band (oe_var 4) (oe_var 8)))) sse_nil)))))
    (sse_cons (se_set 5 sc__law_least.nd (oe_mul (oe_lst (de_cons oe_non de_nil)) (oe_var 2)))
    (sse_cons (se_set 6 sc__law_least.nd (oe_callC c__law_draw (hr.mono (by decide)) (ae_cons (oe_var 0) (ae_cons oe_int ae_nil)) (consA_len (consA_len (fun _ _ _ h => nilA_len h)))))
    (sse_cons (se_for PassesOwn.never rfl (ie_range1 (by rfl) b.range_ (de_cons (oe_var 2) de_nil)) (ge_name (i := 7) sc__law_least.nd) (sse_one (se_if (te_eq hu (oe_at (oe_var 3) (oe_var 7)) oe_int) (sse_cons (se_setComp 9 rfl sc__law_least.nd (ie_range1 (by rfl) b.range_ (de_cons (oe_var 7) de_nil)) (blkOk_by (own := [("k", 10)]) (by exact rfl)) (fun _ _ _ _ _ => (ge_name (i := 10) sc__law_least.nd)) (fun _ _ _ _ _ => (if_one (te_eq hu (oe_band (oe_var 10) (oe_var 7)) (oe_var 10)))) (fun _ _ _ _ _ => (oe_at (oe_var 5) (oe_var 10))) (sw_true rfl rfl rfl (by decide +kernel)))
    (sse_cons (se_setComp 9 rfl sc__law_least.nd (ie_name 9) (blkOk_by (own := [("price", 11)]) (by exact rfl)) (fun _ _ _ _ _ => (ge_name (i := 11) sc__law_least.nd)) (fun _ _ _ _ _ => (if_one (te_isn (oe_var 11) oe_non))) (fun _ _ _ _ _ => (oe_var 11)) (sw_true rfl rfl rfl (by decide +kernel)))
    (sse_one (se_put 5 (oe_add (oe_max rfl (ae_cons (oe_add (oe_lst (de_cons (oe_var 6) de_nil)) (oe_var 9)) ae_nil) b.max_) (oe_mul (oe_callC c__law_draw (hr.mono (by decide)) (ae_cons (oe_var 0) (ae_cons oe_int ae_nil)) (consA_len (consA_len (fun _ _ _ h => nilA_len h)))) (oe_callC c__law_draw (hr.mono (by decide)) (ae_cons (oe_var 0) (ae_cons oe_int ae_nil)) (consA_len (consA_len (fun _ _ _ h => nilA_len h)))))) (oe_var 7))))) sse_nil)))
    (sse_one (se_ret (oe_tup (de_cons (oe_var 1) (de_cons (oe_tuple (ae_cons (oe_var 5) ae_nil) b.tuple_) de_nil)))))))))))))⟩
/-! _law_add_bends -/
abbrev s__law_add_bends : Stmt := topS 39
theorem sc__law_add_bends : FnScope ["d", "places", "prices", "size", "k", "mask", "cost", "way", "number", "low", "high", "inside"] ["d", "places", "prices"] (defScope s__law_add_bends) := ⟨rfl, rfl, rfl, by decide +kernel, rfl, by decide +kernel, by decide +kernel⟩
theorem ok__law_add_bends {P : Program} {w : World} {K : PySem.W.Frag} {mg : Str → Option Value} {κ : String → Nat} {base : Heap} {f : Addr} {fd : FuncData} (Fu : Fun K "_law_add_bends" "_law_add_bends" s__law_add_bends f fd) (b : Bl K mg κ) (c__law_draw : Callee P w K mg base 1 "_law_draw" 2 (m__law_draw κ)) :
    FnOk P w K mg base CX0 2 f fd ["d", "places", "prices"] (spF K (m__law_add_bends κ) 3) := by
  refine fn_ok (k := 1) (io := [0, 2]) Fu sc__law_add_bends rfl rfl (fun cdv A outer s H E hr => ?_)
  have hu := room64 hr
  exact ⟨_, by decide, (sse_cons (se_set 3 sc__law_add_bends.nd (oe_lenX (ae_cons (oe_var 2) ae_nil) b.len_))
    (sse_cons (se_for PassesOwn.never rfl (ie_range1 (by rfl) b.range_ (de_cons (oe_callC c__law_draw (hr.mono (by decide)) (ae_cons (oe_var 0) (ae_cons oe_int ae_nil)) (consA_len (consA_len (fun _ _ _ h => nilA_len h)))) de_nil)) (ge_name (i := 4) sc__law_add_bends.nd) (sse_cons (se_set 5 sc__law_add_bends.nd (oe_callC c__law_draw (hr.mono (by decide)) (ae_cons (oe_var 0) (ae_cons (oe_var 3) ae_nil)) (consA_len (consA_len (fun _ _ _ h => nilA_len h)))))
    (sse_cons (se_set 6 sc__law_add_bends.nd (oe_callC c__law_draw (hr.mono (by decide)) (ae_cons (oe_var 0) (ae_cons oe_int ae_nil)) (consA_len (consA_len (fun _ _ _ h => nilA_len h)))))
    (sse_cons (se_set 7 sc__law_add_bends.nd (oe_callC c__law_draw (hr.mono (by decide)) (ae_cons (oe_var 0) (ae_cons oe_int ae_nil)) (consA_len (consA_len (fun _ _ _ h => nilA_len h)))))
    (sse_one (se_for PassesOwn.never rfl (ie_range1 (by rfl) b.range_ (de_cons (oe_var 3) de_nil)) (ge_name (i := 8) sc__law_add_bends.nd) (sse_cons (se_set 11 sc__law_add_bends.nd (oe_band (oe_var 8) (oe_var 5)))
    (sse_one (se_if ((tw_or ((tw_and (te_eq hu (oe_var 7) oe_int) (tw_and1 (te_ne hu (oe_var 11) (oe_var 5))))).te (tw_or1 ((tw_and (te_eq hu (oe_var 7) oe_int) (tw_and1 (te_ne hu (oe_var 11) oe_int)))).te))).te (sse_one (se_iaddAt 2 (oe_var 6) (oe_var 8))) sse_nil)))))))))
    (sse_cons (se_for PassesOwn.never rfl (ie_range1 (by rfl) b.range_ (de_cons (oe_callC c__law_draw (hr.mono (by decide)) (ae_cons (oe_var 0) (ae_cons oe_int ae_nil)) (consA_len (consA_len (fun _ _ _ h => nilA_len h)))) de_nil)) (ge_name (i := 4) sc__law_add_bends.nd) (sse_cons (se_set 9 sc__law_add_bends.nd (oe_shl oe_int (oe_callC c__law_draw (hr.mono (by decide)) (ae_cons (oe_var 0) (ae_cons (oe_var 1) ae_nil)) (consA_len (consA_len (fun _ _ _ h => nilA_len h))))))
    (sse_cons (se_set 10 sc__law_add_bends.nd (oe_shl oe_int (oe_callC c__law_draw (hr.mono (by decide)) (ae_cons (oe_var 0) (ae_cons (oe_var 1) ae_nil)) (consA_len (consA_len (fun _ _ _ h => nilA_len h))))))
    (sse_cons (se_set 6 sc__law_add_bends.nd (oe_callC c__law_draw (hr.mono (by decide)) (ae_cons (oe_var 0) (ae_cons oe_int ae_nil)) (consA_len (consA_len (fun _ _ _ h => nilA_len h)))))
    (sse_one (se_for PassesOwn.never rfl (ie_range1 (by rfl) b.range_ (de_cons (oe_var 3) de_nil)) (ge_name (i := 8) sc__law_add_bends.nd) (sse_one (se_if ((tw_and (te_gt (oe_band (oe_var 8) (oe_var 9)) oe_int) (tw_and1 (te_eq hu (oe_band (oe_var 8) (oe_var 10)) oe_int)))).te (sse_one (se_iaddAt 2 (oe_var 6) (oe_var 8))) sse_nil))))))))
    (sse_one (se_ret (oe_var 2))))))⟩
/-! _law_cut -/
abbrev s__law_cut : Stmt := topS 40
theorem sc__law_cut : FnScope ["d", "places", "size", "prices", "place", "saved", "k", "spent", "low", "high", "spot", "bars", "number"] ["d", "places"] (defScope s__law_cut) := ⟨rfl, rfl, rfl, by decide +kernel, rfl, by decide +kernel, by decide +kernel⟩
theorem ok__law_cut {P : Program} {w : World} {K : PySem.W.Frag} {mg : Str → Option Value} {κ : String → Nat} {base : Heap} {f : Addr} {fd : FuncData} (Fu : Fun K "_law_cut" "_law_cut" s__law_cut f fd) (b : Bl K mg κ) (c__law_add_bends : Callee P w K mg base 2 "_law_add_bends" 3 (m__law_add_bends κ)) (c__law_draw : Callee P w K mg base 1 "_law_draw" 2 (m__law_draw κ)) :
    FnOk P w K mg base CX0 3 f fd ["d", "places"] (spF K (m__law_cut κ) 2) := by
  refine fn_ok (k := 2) (io := [0]) Fu sc__law_cut rfl rfl (fun cdv A outer s H E hr => ?_)
  have hu := room64 hr
  exact ⟨_, by decide, (sse_cons (se_set 2 sc__law_cut.nd (oe_shl oe_int (oe_var 1)))
    (sse_cons (se_set 3 sc__law_cut.nd (oe_mul (oe_lst (de_cons (oe_callC c__law_draw (hr.mono (by decide)) (ae_cons (oe_var 0) (ae_cons oe_int ae_nil)) (consA_len (consA_len (fun _ _ _ h => nilA_len h)))) de_nil)) (oe_var 2)))
    (sse_cons (se_for PassesOwn.never rfl (ie_range1 (by rfl) b.range_ (de_cons (oe_var 1) de_nil)) (ge_name (i := 4) sc__law_cut.nd) (sse_cons (se_set 7 sc__law_cut.nd (oe_lst (de_cons (oe_callC c__law_draw (hr.mono (by decide)) (ae_cons (oe_var 0) (ae_cons oe_int ae_nil)) (consA_len (consA_len (fun _ _ _ h => nilA_len h)))) (de_cons (oe_callC c__law_draw (hr.mono (by decide)) (ae_cons (oe_var 0) (ae_cons oe_int ae_nil)) (consA_len (consA_len (fun _ _ _ h => nilA_len h)))) de_nil))))
    (sse_one (se_set 3 sc__law_cut.nd (oe_comp rfl sc__law_cut.nd (ie_range1 (by rfl) b.range_ (de_cons (oe_var 2) de_nil)) (blkOk_by (own := [("number", 12)]) (by exact rfl)) (fun _ _ _ _ _ => (ge_name (i := 12) sc__law_cut.nd)) (fun _ _ _ _ _ => if_nil) (fun _ _ _ _ _ => (oe_add (oe_at (oe_var 3) (oe_var 12)) (oe_at (oe_var 7) (oe_band (oe_shr (oe_var 12) (oe_var 4)) oe_int)))))))))
    (sse_cons (se_set 3 sc__law_cut.nd (oe_callC c__law_add_bends (hr.mono (by decide)) (ae_cons (oe_var 0) (ae_cons (oe_var 1) (ae_cons (oe_var 3) ae_nil))) (consA_len (consA_len (consA_len (fun _ _ _ h => nilA_len h))))))
    (sse_cons (se_set 5 sc__law_cut.nd (oe_callC c__law_draw (hr.mono (by decide)) (ae_cons (oe_var 0) (ae_cons (oe_var 2) ae_nil)) (consA_len (consA_len (fun _ _ _ h => nilA_len h)))))
    (sse_cons (se_for PassesOwn.never rfl (ie_range1 (by rfl) b.range_ (de_cons (oe_mul (oe_div (oe_callC c__law_draw (hr.mono (by decide)) (ae_cons (oe_var 0) (ae_cons oe_int ae_nil)) (consA_len (consA_len (fun _ _ _ h => nilA_len h)))) oe_int) (oe_callC c__law_draw (hr.mono (by decide)) (ae_cons (oe_var 0) (ae_cons oe_int ae_nil)) (consA_len (consA_len (fun _ _ _ h => nilA_len h))))) de_nil)) (ge_name (i := 6) sc__law_cut.nd) (sse_cons (se_set 8 sc__law_cut.nd (oe_shl oe_int (oe_callC c__law_draw (hr.mono (by decide)) (ae_cons (oe_var 0) (ae_cons (oe_var 1) ae_nil)) (consA_len (consA_len (fun _ _ _ h => nilA_len h))))))
    (sse_cons (se_set 9 sc__law_cut.nd (oe_shl oe_int (oe_callC c__law_draw (hr.mono (by decide)) (ae_cons (oe_var 0) (ae_cons (oe_var 1) ae_nil)) (consA_len (consA_len (fun _ _ _ h => nilA_len h))))))
    (sse_one (se_if ((tw_or (te_eq hu (oe_band (oe_var 5) (oe_var 8)) oe_int) (tw_or1 (te_gt (oe_band (oe_var 5) (oe_var 9)) oe_int)))).te (sse_cons (se_set 11 sc__law_cut.nd (oe_comp rfl sc__law_cut.nd (ie_range1 (by rfl) b.range_ (de_cons (oe_var 2) de_nil)) (blkOk_by (own := [("number", 12)]) (by exact rfl)) (fun _ _ _ _ _ => (ge_name (i := 12) sc__law_cut.nd)) (fun _ _ _ _ _ => if_nil) (fun _ _ _ _ _ => (oe_and (oe_gt (oe_band (oe_var 12) (oe_var 8)) oe_int) (oe_one (oe_eq hu (oe_band (oe_var 12) (oe_var 9)) oe_int))))))
    (sse_one (se_set 3 sc__law_cut.nd (oe_comp rfl sc__law_cut.nd (ie_range1 (by rfl) b.range_ (de_cons (oe_var 2) de_nil)) (blkOk_by (own := [("number", 12)]) (by exact rfl)) (fun _ _ _ _ _ => (ge_name (i := 12) sc__law_cut.nd)) (fun _ _ _ _ _ => if_nil) (fun _ _ _ _ _ => (oe_if (te_tru (oe_at (oe_var 11) (oe_var 12))) oe_non (oe_at (oe_var 3) (oe_var 12)))))))) sse_nil)))))
    (sse_cons (se_if (te_eq hu (oe_callC c__law_draw (hr.mono (by decide)) (ae_cons (oe_var 0) (ae_cons oe_int ae_nil)) (consA_len (consA_len (fun _ _ _ h => nilA_len h)))) oe_int) (sse_cons (se_set 10 sc__law_cut.nd (oe_shl oe_int (oe_callC c__law_draw (hr.mono (by decide)) (ae_cons (oe_var 0) (ae_cons (oe_var 1) ae_nil)) (consA_len (consA_len (fun _ _ _ h => nilA_len h))))))
    (sse_one (se_set 3 sc__law_cut.nd (oe_comp rfl sc__law_cut.nd (ie_range1 (by rfl) b.range_ (de_cons (oe_var 2) de_nil)) (blkOk_by (own := [("number", 12)]) (by exact rfl)) (fun _ _ _ _ _ => (ge_name (i := 12) sc__law_cut.nd)) (fun _ _ _ _ _ => if_nil) (fun _ _ _ _ _ => (oe_if (te_eq hu (oe_band (oe_var 12) (oe_var 10)) (oe_band (oe_var 5) (oe_var 10))) (oe_at (oe_var 3) (oe_var 12)) oe_non)))))) sse_nil)
    (sse_one (se_ret (oe_tup (de_cons (oe_var 1) (de_cons (oe_tuple (ae_cons (oe_var 3) ae_nil) b.tuple_) de_nil))))))))))))⟩
/-! _law_twos -/
abbrev s__law_twos : Stmt := topS 41
theorem sc__law_twos : FnScope ["d", "places", "size", "price", "saved", "prices", "k", "first", "second", "pair", "number"] ["d", "places"] (defScope s__law_twos) := ⟨rfl, rfl, rfl, by decide +kernel, rfl, by decide +kernel, by decide +kernel⟩
theorem ok__law_twos {P : Program} {w : World} {K : PySem.W.Frag} {mg : Str → Option Value} {κ : String → Nat} {base : Heap} {f : Addr} {fd : FuncData} (Fu : Fun K "_law_twos" "_law_twos" s__law_twos f fd) (b : Bl K mg κ) (c__law_cost : Callee P w K mg base 3 "_law_cost" 1 (m__law_cost κ)) (c__law_draw : Callee P w K mg base 1 "_law_draw" 2 (m__law_draw κ)) :
    FnOk P w K mg base CX0 4 f fd ["d", "places"] (spF K (m__law_twos κ) 2) := by
  refine fn_ok (k := 3) (io := [0]) Fu sc__law_twos rfl rfl (fun cdv A outer s H E hr => ?_)
  have hu := room64 hr
  exact ⟨_, by decide, (sse_cons (se_set 2 sc__law_twos.nd (oe_shl oe_int (oe_var 1)))
    (sse_cons (se_set 3 sc__law_twos.nd (oe_callC c__law_cost (hr.mono (by decide)) (ae_cons (oe_var 0) ae_nil) (consA_len (fun _ _ _ h => nilA_len h))))
    (sse_cons (se_set 4 sc__law_twos.nd (oe_callC c__law_draw (hr.mono (by decide)) (ae_cons (oe_var 0) (ae_cons (oe_var 2) ae_nil)) (consA_len (consA_len (fun _ _ _ h => nilA_len h)))))
    (sse_cons (se_set 5 sc__law_twos.nd (oe_mul (oe_lst (de_cons (oe_var 3) de_nil)) (oe_var 2)))
    (sse_cons (se_for PassesOwn.never rfl (ie_range1 (by rfl) b.range_ (de_cons (oe_callC c__law_draw (hr.mono (by decide)) (ae_cons (oe_var 0) (ae_cons oe_int ae_nil)) (consA_len (consA_len (fun _ _ _ h => nilA_len h)))) de_nil)) (ge_name (i := 6) sc__law_twos.nd) (sse_cons (se_set 7 sc__law_twos.nd (oe_callC c__law_draw (hr.mono (by decide)) (ae_cons (oe_var 0) (ae_cons (oe_var 1) ae_nil)) (consA_len (consA_len (fun _ _ _ h => nilA_len h)))))
    (sse_cons (se_set 8 sc__law_twos.nd (oe_callC c__law_draw (hr.mono (by decide)) (ae_cons (oe_var 0) (ae_cons (oe_var 1) ae_nil)) (consA_len (consA_len (fun _ _ _ h => nilA_len h)))))
    (sse_cons (se_set 9 sc__law_twos.nd (oe_tup (de_cons (oe_callC c__law_draw (hr.mono (by decide)) (ae_cons (oe_var 0) (ae_cons oe_int ae_nil)) (consA_len (consA_len (fun _ _ _ h => nilA_len h)))) (de_cons (oe_callC c__law_draw (hr.mono (by decide)) (ae_cons (oe_var 0) (ae_cons oe_int ae_nil)) (consA_len (consA_len (fun _ _ _ h => nilA_len h)))) de_nil))))
    (sse_one (se_for PassesOwn.never rfl (ie_range1 (by rfl) b.range_ (de_cons (oe_var 2) de_nil)) (ge_name (i := 10) sc__law_twos.nd) (sse_one (se_if ((tw_and (te_eq hu (oe_tup (de_cons (oe_band (oe_shr (oe_var 10) (oe_var 7)) oe_int) (de_cons (oe_band (oe_shr (oe_var 10) (oe_var 8)) oe_int) de_nil))) (oe_var 9)) (tw_and1 (te_ne hu (oe_var 10) (oe_var 4))))).te (sse_one (se_if (te_ne hu (oe_tup (de_cons (oe_band (oe_shr (oe_var 4) (oe_var 7)) oe_int) (de_cons (oe_band (oe_shr (oe_var 4) (oe_var 8)) oe_int) de_nil))) (oe_var 9)) (sse_one (se_put 5 oe_non (oe_var 10))) sse_nil)) sse_nil))))))))
    (sse_one (se_ret (oe_tup (de_cons (oe_var 1) (de_cons (oe_tuple (ae_cons (oe_var 5) ae_nil) b.tuple_) de_nil))))))))))⟩
/-! _law_sums -/
abbrev s__law_sums : Stmt := topS 42
theorem sc__law_sums : FnScope ["d", "places", "size", "price", "saved", "prices", "k", "mask", "number"] ["d", "places"] (defScope s__law_sums) := ⟨rfl, rfl, rfl, by decide +kernel, rfl, by decide +kernel, by decide +kernel⟩
theorem ok__law_sums {P : Program} {w : World} {K : PySem.W.Frag} {mg : Str → Option Value} {κ : String → Nat} {base : Heap} {f : Addr} {fd : FuncData} (Fu : Fun K "_law_sums" "_law_sums" s__law_sums f fd) (b : Bl K mg κ) (c__law_cost : Callee P w K mg base 3 "_law_cost" 1 (m__law_cost κ)) (c__law_draw : Callee P w K mg base 1 "_law_draw" 2 (m__law_draw κ)) (c__law_ones : Callee P w K mg base 1 "_law_ones" 1 (m__law_ones κ)) :
    FnOk P w K mg base CX0 4 f fd ["d", "places"] (spF K (m__law_sums κ) 2) := by
  refine fn_ok (k := 3) (io := [0]) Fu sc__law_sums rfl rfl (fun cdv A outer s H E hr => ?_)
  have hu := room64 hr
  exact ⟨_, by decide, (sse_cons (se_set 2 sc__law_sums.nd (oe_shl oe_int (oe_var 1)))
    (sse_cons (se_set 3 sc__law_sums.nd (oe_callC c__law_cost (hr.mono (by decide)) (ae_cons (oe_var 0) ae_nil) (consA_len (fun _ _ _ h => nilA_len h))))
    (sse_cons (se_set 4 sc__law_sums.nd (oe_callC c__law_draw (hr.mono (by decide)) (ae_cons (oe_var 0) (ae_cons (oe_var 2) ae_nil)) (consA_len (consA_len (fun _ _ _ h => nilA_len h)))))
    (sse_cons (se_set 5 sc__law_sums.nd (oe_mul (oe_lst (de_cons (oe_var 3) de_nil)) (oe_var 2)))
    (sse_cons (se_for PassesOwn.never rfl (ie_range1 (by rfl) b.range_ (de_cons (oe_callC c__law_draw (hr.mono (by decide)) (ae_cons (oe_var 0) (ae_cons oe_int ae_nil)) (consA_len (consA_len (fun _ _ _ h => nilA_len h)))) de_nil)) (ge_name (i := 6) sc__law_sums.nd) (sse_cons (se_set 7 sc__law_sums.nd (oe_callC c__law_draw (hr.mono (by decide)) (ae_cons (oe_var 0) (ae_cons (oe_var 2) ae_nil)) (consA_len (consA_len (fun _ _ _ h => nilA_len h)))))
    (sse_one (se_for PassesOwn.never rfl (ie_range1 (by rfl) b.range_ (de_cons (oe_var 2) de_nil)) (ge_name (i := 8) sc__law_sums.nd) (sse_one (se_if (te_eq hu (oe_band (oe_bxor (oe_callC c__law_ones (hr.mono (by decide)) (ae_cons (oe_band (oe_var 8) (oe_var 7)) ae_nil) (consA_len (fun _ _ _ h => nilA_len h))) (oe_callC c__law_ones (hr.mono (by decide)) (ae_cons (oe_band (oe_var 4) (oe_var 7)) ae_nil) (consA_len (fun _ _ _ h => nilA_len h)))) oe_int) oe_int) (sse_one (se_put 5 oe_non (oe_var 8))) sse_nil))))))
    (sse_one (se_ret (oe_tup (de_cons (oe_var 1) (de_cons (oe_tuple (ae_cons (oe_var 5) ae_nil) b.tuple_) de_nil))))))))))⟩
/-! _law_ties -/
abbrev s__law_ties : Stmt := topS 43
theorem sc__law_ties : FnScope ["d", "places", "size", "masks", "place", "groups", "gains", "saved", "base", "prices", "choice", "spot", "number", "cost", "k", "mask"] ["d", "places"] (defScope s__law_ties) := ⟨rfl, rfl, rfl, by decide +kernel, rfl, by decide +kernel, by decide +kernel⟩
theorem ok__law_ties {P : Program} {w : World} {K : PySem.W.Frag} {mg : Str → Option Value} {κ : String → Nat} {base : Heap} {f : Addr} {fd : FuncData} (Fu : Fun K "_law_ties" "_law_ties" s__law_ties f fd) (b : Bl K mg κ) (c__law_draw : Callee P w K mg base 1 "_law_draw" 2 (m__law_draw κ)) :
    FnOk P w K mg base CX0 2 f fd ["d", "places"] (spF K (m__law_ties κ) 2) := by
  refine fn_ok (k := 1) (io := [0]) Fu sc__law_ties rfl rfl (fun cdv A outer s H E hr => ?_)
  have hu := room64 hr
  exact ⟨_, by decide, (sse_cons (se_set 2 sc__law_ties.nd (oe_shl oe_int (oe_var 1)))
    (sse_cons (se_set 3 sc__law_ties.nd (oe_mul (oe_lst (de_cons oe_int de_nil)) (oe_add (oe_var 1) oe_int)))
    (sse_cons (se_for PassesOwn.never rfl (ie_range1 (by rfl) b.range_ (de_cons (oe_var 1) de_nil)) (ge_name (i := 4) sc__law_ties.nd) (sse_cons (se_set 11 sc__law_ties.nd (oe_callC c__law_draw (hr.mono (by decide)) (ae_cons (oe_var 0) (ae_cons (oe_add (oe_var 1) oe_int) ae_nil)) (consA_len (consA_len (fun _ _ _ h => nilA_len h)))))
    (sse_one (se_put 3 (oe_bor (oe_at (oe_var 3) (oe_var 11)) (oe_shl oe_int (oe_var 4))) (oe_var 11)))))
    (sse_cons (se_setComp 5 rfl sc__law_ties.nd (ie_seq (oe_cut (oe_var 3) (pa_some oe_int) pa_no)) (blkOk_by (own := [("mask", 15)]) (by exact rfl)) (fun _ _ _ _ _ => (ge_name (i := 15) sc__law_ties.nd)) (fun _ _ _ _ _ => (if_one (te_gt (oe_var 15) oe_int))) (fun _ _ _ _ _ => (oe_var 15)) (sw_true rfl rfl rfl (by decide +kernel)))
    (sse_cons (se_setComp 6 rfl sc__law_ties.nd (ie_name 5) (blkOk_by (own := [("mask", 15)]) (by exact rfl)) (fun _ _ _ _ _ => (ge_name (i := 15) sc__law_ties.nd)) (fun _ _ _ _ _ => if_nil) (fun _ _ _ _ _ => (oe_sub (oe_callC c__law_draw (hr.mono (by decide)) (ae_cons (oe_var 0) (ae_cons oe_int ae_nil)) (consA_len (consA_len (fun _ _ _ h => nilA_len h)))) oe_int)) (sw_true rfl rfl rfl (by decide +kernel)))
    (sse_cons (se_set 7 sc__law_ties.nd (oe_callC c__law_draw (hr.mono (by decide)) (ae_cons (oe_var 0) (ae_cons (oe_var 2) ae_nil)) (consA_len (consA_len (fun _ _ _ h => nilA_len h)))))
    (sse_cons (se_set 8 sc__law_ties.nd (oe_add (oe_mul oe_int (oe_lenX (ae_cons (oe_var 5) ae_nil) b.len_)) (oe_callC c__law_draw (hr.mono (by decide)) (ae_cons (oe_var 0) (ae_cons oe_int ae_nil)) (consA_len (consA_len (fun _ _ _ h => nilA_len h))))))
    (sse_cons (se_set 9 sc__law_ties.nd (oe_mul (oe_lst (de_cons oe_non de_nil)) (oe_var 2)))
    (sse_cons (se_for PassesOwn.never rfl (ie_range1 (by rfl) b.range_ (de_cons (oe_shl oe_int (oe_lenX (ae_cons (oe_var 5) ae_nil) b.len_)) de_nil)) (ge_name (i := 10) sc__law_ties.nd) (sse_cons (se_set 12 sc__law_ties.nd (oe_var 7))
    (sse_cons (se_set 13 sc__law_ties.nd (oe_var 8))
    (sse_cons (se_for PassesOwn.never rfl (ie_range1 (by rfl) b.range_ (de_cons (oe_lenX (ae_cons (oe_var 5) ae_nil) b.len_) de_nil)) (ge_name (i := 14) sc__law_ties.nd) (sse_one (se_if (te_eq hu (oe_band (oe_shr (oe_var 10) (oe_var 14)) oe_int) oe_int) (sse_cons (se_set 12 sc__law_ties.nd (oe_bxor (oe_var 12) (oe_at (oe_var 5) (oe_var 14))))
    (sse_one (se_iadd 13 sc__law_ties.nd (oe_at (oe_var 6) (oe_var 14))))) sse_nil)))
    (sse_one (se_put 9 (oe_var 13) (oe_var 12)))))))
    (sse_one (se_ret (oe_tup (de_cons (oe_var 1) (de_cons (oe_tuple (ae_cons (oe_var 9) ae_nil) b.tuple_) de_nil))))))))))))))⟩
/-! _law_kind_table -/
abbrev s__law_kind_table : Stmt := topS 44
theorem sc__law_kind_table : FnScope ["d", "kind", "places"] ["d", "kind", "places"] (defScope s__law_kind_table) := ⟨rfl, rfl, rfl, by decide +kernel, rfl, by decide +kernel, by decide +kernel⟩
theorem ok__law_kind_table {P : Program} {w : World} {K : PySem.W.Frag} {mg : Str → Option Value} {κ : String → Nat} {base : Heap} {f : Addr} {fd : FuncData} (Fu : Fun K "_law_kind_table" "_law_kind_table" s__law_kind_table f fd) (b : Bl K mg κ) (c__law_cut : Callee P w K mg base 3 "_law_cut" 2 (m__law_cut κ)) (c__law_least : Callee P w K mg base 2 "_law_least" 2 (m__law_least κ)) (c__law_sums : Callee P w K mg base 4 "_law_sums" 2 (m__law_sums κ)) (c__law_ties : Callee P w K mg base 2 "_law_ties" 2 (m__law_ties κ)) (c__law_turned : Callee P w K mg base 1 "_law_turned" 1 (m__law_turned κ)) (c__law_twos : Callee P w K mg base 4 "_law_twos" 2 (m__law_twos κ)) (c__law_zero : Callee P w K mg base 6 "_law_zero" 2 (m__law_zero κ)) :
    FnOk P w K mg base CX0 7 f fd ["d", "kind", "places"] (spF K (m__law_kind_table κ) 3) := by
  refine fn_ok (k := 6) (io := [0]) Fu sc__law_kind_table rfl rfl (fun cdv A outer s H E hr => ?_)
  have hu := room64 hr
  exact ⟨_, by decide, (sse_cons (se_if (te_eq hu (oe_var 1) oe_str) (sse_one (se_ret (oe_callC c__law_zero (hr.mono (by decide)) (ae_cons (oe_var 0) (ae_cons (oe_var 2) ae_nil)) (consA_len (consA_len (fun _ _ _ h => nilA_len h)))))) sse_nil)
    (sse_cons (se_if (te_eq hu (oe_var 1) oe_str) (sse_one (se_ret (oe_callC c__law_turned (hr.mono (by decide)) (ae_cons (oe_callC c__law_zero (hr.mono (by decide)) (ae_cons (oe_var 0) (ae_cons (oe_var 2) ae_nil)) (consA_len (consA_len (fun _ _ _ h => nilA_len h)))) ae_nil) (consA_len (fun _ _ _ h => nilA_len h))))) sse_nil)
    (sse_cons (se_if (te_eq hu (oe_var 1) oe_str) (sse_one (se_ret (oe_callC c__law_least (hr.mono (by decide)) (ae_cons (oe_var 0) (ae_cons (oe_var 2) ae_nil)) (consA_len (consA_len (fun _ _ _ h => nilA_len h)))))) sse_nil)
    (sse_cons (se_if (te_eq hu (oe_var 1) oe_str) (sse_one (se_ret (oe_callC c__law_turned (hr.mono (by decide)) (ae_cons (oe_callC c__law_least (hr.mono (by decide)) (ae_cons (oe_var 0) (ae_cons (oe_var 2) ae_nil)) (consA_len (consA_len (fun _ _ _ h => nilA_len h)))) ae_nil) (consA_len (fun _ _ _ h => nilA_len h))))) sse_nil)
    (sse_cons (se_if (te_eq hu (oe_var 1) oe_str) (sse_one (se_ret (oe_callC c__law_cut (hr.mono (by decide)) (ae_cons (oe_var 0) (ae_cons (oe_var 2) ae_nil)) (consA_len (consA_len (fun _ _ _ h => nilA_len h)))))) sse_nil)
    (sse_cons (se_if (te_eq hu (oe_var 1) oe_str) (sse_one (se_ret (oe_callC c__law_twos (hr.mono (by decide)) (ae_cons (oe_var 0) (ae_cons (oe_var 2) ae_nil)) (consA_len (consA_len (fun _ _ _ h => nilA_len h)))))) sse_nil)
    (sse_cons (se_if (te_eq hu (oe_var 1) oe_str) (sse_one (se_ret (oe_callC c__law_sums (hr.mono (by decide)) (ae_cons (oe_var 0) (ae_cons (oe_var 2) ae_nil)) (consA_len (consA_len (fun _ _ _ h => nilA_len h)))))) sse_nil)
    (sse_one (se_ret (oe_callC c__law_ties (hr.mono (by decide)) (ae_cons (oe_var 0) (ae_cons (oe_var 2) ae_nil)) (consA_len (consA_len (fun _ _ _ h => nilA_len h)))))))))))))⟩
/-! _law_kind_lot -/
abbrev s__law_kind_lot : Stmt := topS 45
theorem sc__law_kind_lot : FnScope ["d", "kind", "many", "places", "k"] ["d", "kind", "many", "places"] (defScope s__law_kind_lot) := ⟨rfl, rfl, rfl, by decide +kernel, rfl, by decide +kernel, by decide +kernel⟩
theorem ok__law_kind_lot {P : Program} {w : World} {K : PySem.W.Frag} {mg : Str → Option Value} {κ : String → Nat} {base : Heap} {f : Addr} {fd : FuncData} (Fu : Fun K "_law_kind_lot" "_law_kind_lot" s__law_kind_lot f fd) (b : Bl K mg κ) (c__law_draw : Callee P w K mg base 1 "_law_draw" 2 (m__law_draw κ)) (c__law_kind_table : Callee P w K mg base 7 "_law_kind_table" 3 (m__law_kind_table κ)) :
    FnOk P w K mg base CX0 8 f fd ["d", "kind", "many", "places"] (spF K (m__law_kind_lot κ) 4) := by
  refine fn_ok (k := 7) (io := [0]) Fu sc__law_kind_lot rfl rfl (fun cdv A outer s H E hr => ?_)
  have hu := room64 hr
  exact ⟨_, by decide, (sse_one (se_ret (oe_comp rfl sc__law_kind_lot.nd (ie_range1 (by rfl) b.range_ (de_cons (oe_var 2) de_nil)) (blkOk_by (own := [("k", 4)]) (by exact rfl)) (fun _ _ _ _ _ => (ge_name (i := 4) sc__law_kind_lot.nd)) (fun _ _ _ _ _ => if_nil) (fun _ _ _ _ _ => (oe_callC c__law_kind_table (hr.mono (by decide)) (ae_cons (oe_var 0) (ae_cons (oe_var 1) (ae_cons (oe_add oe_int (oe_callC c__law_draw (hr.mono (by decide)) (ae_cons (oe_var 0) (ae_cons (oe_var 3) ae_nil)) (consA_len (consA_len (fun _ _ _ h => nilA_len h))))) ae_nil))) (consA_len (consA_len (consA_len (fun _ _ _ h => nilA_len h)))))))))⟩
/-! _law_sure_hard -/
abbrev s__law_sure_hard : Stmt := topS 46
theorem sc__law_sure_hard : FnScope ["d", "a", "b", "way"] ["d"] (defScope s__law_sure_hard) := ⟨rfl, rfl, rfl, by decide +kernel, rfl, by decide +kernel, by decide +kernel⟩
theorem ok__law_sure_hard {P : Program} {w : World} {K : PySem.W.Frag} {mg : Str → Option Value} {κ : String → Nat} {base : Heap} {f : Addr} {fd : FuncData} (Fu : Fun K "_law_sure_hard" "_law_sure_hard" s__law_sure_hard f fd) (b : Bl K mg κ) (c__law_draw : Callee P w K mg base 1 "_law_draw" 2 (m__law_draw κ)) :
    FnOk P w K mg base CX0 2 f fd ["d"] (spF K (m__law_sure_hard κ) 1) := by
  refine fn_ok (k := 1) (io := [0]) Fu sc__law_sure_hard rfl rfl (fun cdv A outer s H E hr => ?_)
  have hu := room64 hr
  exact ⟨_, by decide, (sse_cons (se_set 1 sc__law_sure_hard.nd (oe_callC c__law_draw (hr.mono (by decide)) (ae_cons (oe_var 0) (ae_cons oe_int ae_nil)) (consA_len (consA_len (fun _ _ _ h => nilA_len h)))))
    (sse_cons (se_set 2 sc__law_sure_hard.nd (oe_callC c__law_draw (hr.mono (by decide)) (ae_cons (oe_var 0) (ae_cons oe_int ae_nil)) (consA_len (consA_len (fun _ _ _ h => nilA_len h)))))
    (sse_cons (se_set 3 sc__law_sure_hard.nd (oe_callC c__law_draw (hr.mono (by decide)) (ae_cons (oe_var 0) (ae_cons oe_int ae_nil)) (consA_len (consA_len (fun _ _ _ h => nilA_len h)))))
    (sse_cons (se_if (te_eq hu (oe_var 3) oe_int) (sse_one (se_ret (oe_lst (de_cons (oe_tup (de_cons oe_int (de_cons (oe_tup (de_cons oe_non (de_cons (oe_var 1) (de_cons (oe_var 1) (de_cons oe_non (de_cons (oe_var 1) (de_cons oe_non (de_cons oe_non (de_cons oe_non de_nil))))))))) de_nil))) de_nil)))) sse_nil)
    (sse_cons (se_if (te_eq hu (oe_var 3) oe_int) (sse_one (se_ret (oe_lst (de_cons (oe_tup (de_cons oe_int (de_cons (oe_tup (de_cons oe_non (de_cons (oe_var 1) (de_cons (oe_var 1) (de_cons (oe_var 1) (de_cons (oe_var 1) (de_cons (oe_var 1) (de_cons (oe_var 1) (de_cons oe_non de_nil))))))))) de_nil))) de_nil)))) sse_nil)
    (sse_cons (se_if (te_eq hu (oe_var 3) oe_int) (sse_one (se_ret (oe_lst (de_cons (oe_tup (de_cons oe_int (de_cons (oe_tup (de_cons (oe_add (oe_add (oe_var 1) (oe_var 2)) oe_int) (de_cons (oe_var 1) (de_cons (oe_var 1) (de_cons (oe_add (oe_var 1) oe_int) de_nil))))) de_nil))) de_nil)))) sse_nil)
    (sse_cons (se_if (te_eq hu (oe_var 3) oe_int) (sse_one (se_ret (oe_lst (de_cons (oe_tup (de_cons oe_int (de_cons (oe_tup (de_cons (oe_add (oe_var 1) oe_int) (de_cons (oe_var 1) (de_cons (oe_var 1) (de_cons (oe_add (oe_var 1) oe_int) de_nil))))) de_nil))) de_nil)))) sse_nil)
    (sse_cons (se_if (te_eq hu (oe_var 3) oe_int) (sse_one (se_ret (oe_lst (de_cons (oe_tup (de_cons oe_int (de_cons (oe_tup (de_cons oe_non (de_cons (oe_var 1) (de_cons (oe_var 1) (de_cons (oe_add (oe_add (oe_var 1) (oe_var 2)) oe_int) (de_cons (oe_var 1) (de_cons (oe_add (oe_add (oe_var 1) (oe_var 2)) oe_int) (de_cons (oe_add (oe_add (oe_var 1) (oe_var 2)) oe_int) (de_cons oe_non de_nil))))))))) de_nil))) (de_cons (oe_tup (de_cons oe_int (de_cons (oe_tup (de_cons (oe_var 2) (de_cons (oe_add (oe_var 2) oe_int) de_nil))) de_nil))) de_nil))))) sse_nil)
    (sse_cons (se_if (te_eq hu (oe_var 3) oe_int) (sse_one (se_ret (oe_lst (de_cons (oe_tup (de_cons oe_int (de_cons (oe_tup (de_cons (oe_var 1) (de_cons (oe_var 1) (de_cons (oe_var 1) (de_cons oe_non de_nil))))) de_nil))) (de_cons (oe_tup (de_cons oe_int (de_cons (oe_tup (de_cons oe_non (de_cons (oe_var 1) (de_cons (oe_var 1) (de_cons (oe_var 2) de_nil))))) de_nil))) (de_cons (oe_tup (de_cons oe_int (de_cons (oe_tup (de_cons (oe_add (oe_var 2) oe_int) (de_cons (oe_var 2) de_nil))) de_nil))) (de_cons (oe_tup (de_cons oe_int (de_cons (oe_tup (de_cons (oe_var 2) (de_cons (oe_add (oe_var 2) oe_int) de_nil))) de_nil))) de_nil))))))) sse_nil)
    (sse_one (se_ret (oe_lst (de_cons (oe_tup (de_cons oe_int (de_cons (oe_tup (de_cons (oe_var 2) (de_cons oe_non (de_cons oe_non (de_cons (oe_var 1) (de_cons oe_non (de_cons (oe_add (oe_var 1) oe_int) (de_cons (oe_var 1) (de_cons oe_non de_nil))))))))) de_nil))) (de_cons (oe_tup (de_cons oe_int (de_cons (oe_tup (de_cons oe_non (de_cons (oe_var 2) (de_cons (oe_var 2) (de_cons oe_non de_nil))))) de_nil))) (de_cons (oe_tup (de_cons oe_int (de_cons (oe_tup (de_cons oe_int (de_cons oe_int (de_cons oe_int (de_cons oe_int de_nil))))) de_nil))) de_nil)))))))))))))))⟩
/-! _law_hard_lot -/
abbrev s__law_hard_lot : Stmt := topS 47
theorem sc__law_hard_lot : FnScope ["d", "tables", "k", "places"] ["d"] (defScope s__law_hard_lot) := ⟨rfl, rfl, rfl, by decide +kernel, rfl, by decide +kernel, by decide +kernel⟩
theorem ok__law_hard_lot {P : Program} {w : World} {K : PySem.W.Frag} {mg : Str → Option Value} {κ : String → Nat} {base : Heap} {f : Addr} {fd : FuncData} (Fu : Fun K "_law_hard_lot" "_law_hard_lot" s__law_hard_lot f fd) (b : Bl K mg κ) (c__law_crisp : Callee P w K mg base 5 "_law_crisp" 3 (m__law_crisp κ)) (c__law_draw : Callee P w K mg base 1 "_law_draw" 2 (m__law_draw κ)) (c__law_first_kind : Callee P w K mg base 5 "_law_first_kind" 1 (m__law_first_kind κ)) (c__law_loose : Callee P w K mg base 5 "_law_loose" 3 (m__law_loose κ)) (c__law_sure_hard : Callee P w K mg base 2 "_law_sure_hard" 1 (m__law_sure_hard κ)) :
    FnOk P w K mg base CX0 6 f fd ["d"] (spF K (m__law_hard_lot κ) 1) := by
  refine fn_ok (k := 5) (io := [0]) Fu sc__law_hard_lot rfl rfl (fun cdv A outer s H E hr => ?_)
  have hu := room64 hr
  exact ⟨_, by decide, (sse_cons (se_set 1 sc__law_hard_lot.nd (oe_lst de_nil))
    (sse_cons (se_for PassesOwn.never rfl (ie_range1 (by rfl) b.range_ (de_cons (oe_add oe_int (oe_callC c__law_draw (hr.mono (by decide)) (ae_cons (oe_var 0) (ae_cons oe_int ae_nil)) (consA_len (consA_len (fun _ _ _ h => nilA_len h))))) de_nil)) (ge_name (i := 2) sc__law_hard_lot.nd) (sse_cons (se_set 3 sc__law_hard_lot.nd (oe_add oe_int (oe_callC c__law_draw (hr.mono (by decide)) (ae_cons (oe_var 0) (ae_cons oe_int ae_nil)) (consA_len (consA_len (fun _ _ _ h => nilA_len h))))))
    (sse_one (se_if (te_eq hu (oe_callC c__law_draw (hr.mono (by decide)) (ae_cons (oe_var 0) (ae_cons oe_int ae_nil)) (consA_len (consA_len (fun _ _ _ h => nilA_len h)))) oe_int) (sse_one (se_expr (oe_append 1 (de_cons (oe_callC c__law_crisp (hr.mono (by decide)) (ae_cons (oe_var 0) (ae_cons (oe_var 3) (ae_cons (oe_add oe_int (oe_callC c__law_draw (hr.mono (by decide)) (ae_cons (oe_var 0) (ae_cons oe_int ae_nil)) (consA_len (consA_len (fun _ _ _ h => nilA_len h))))) ae_nil))) (consA_len (consA_len (consA_len (fun _ _ _ h => nilA_len h))))) de_nil)))) (sse_one (se_expr (oe_append 1 (de_cons (oe_callC c__law_loose (hr.mono (by decide)) (ae_cons (oe_var 0) (ae_cons (oe_var 3) (ae_cons (oe_callC c__law_draw (hr.mono (by decide)) (ae_cons (oe_var 0) (ae_cons oe_int ae_nil)) (consA_len (consA_len (fun _ _ _ h => nilA_len h)))) ae_nil))) (consA_len (consA_len (consA_len (fun _ _ _ h => nilA_len h))))) de_nil))))))))
    (sse_cons (se_if (te_is (oe_callC c__law_first_kind (hr.mono (by decide)) (ae_cons (oe_var 1) ae_nil) (consA_len (fun _ _ _ h => nilA_len h))) oe_non) (sse_one (se_ret (oe_var 1))) sse_nil)
    (sse_one (se_ret (oe_callC c__law_sure_hard (hr.mono (by decide)) (ae_cons (oe_var 0) ae_nil) (consA_len (fun _ _ _ h => nilA_len h))))))))⟩
/-! _law_any_lot -/
abbrev s__law_any_lot : Stmt := topS 48
theorem sc__law_any_lot : FnScope ["d"] ["d"] (defScope s__law_any_lot) := ⟨rfl, rfl, rfl, by decide +kernel, rfl, by decide +kernel, by decide +kernel⟩
theorem ok__law_any_lot {P : Program} {w : World} {K : PySem.W.Frag} {mg : Str → Option Value} {κ : String → Nat} {base : Heap} {f : Addr} {fd : FuncData} (Fu : Fun K "_law_any_lot" "_law_any_lot" s__law_any_lot f fd) (b : Bl K mg κ) (c__law_draw : Callee P w K mg base 1 "_law_draw" 2 (m__law_draw κ)) (c__law_hard_lot : Callee P w K mg base 6 "_law_hard_lot" 1 (m__law_hard_lot κ)) (c__law_kind_lot : Callee P w K mg base 8 "_law_kind_lot" 4 (m__law_kind_lot κ)) (c__law_kinds : Callee P w K mg base 1 "_law_kinds" 0 (m__law_kinds κ)) (c__law_pick : Callee P w K mg base 2 "_law_pick" 2 (m__law_pick κ)) :
    FnOk P w K mg base CX0 9 f fd ["d"] (spF K (m__law_any_lot κ) 1) := by
  refine fn_ok (k := 8) (io := [0]) Fu sc__law_any_lot rfl rfl (fun cdv A outer s H E hr => ?_)
  have hu := room64 hr
  exact ⟨_, by decide, (sse_cons (se_if (te_eq hu (oe_callC c__law_draw (hr.mono (by decide)) (ae_cons (oe_var 0) (ae_cons oe_int ae_nil)) (consA_len (consA_len (fun _ _ _ h => nilA_len h)))) oe_int) (sse_one (se_ret (oe_callC c__law_hard_lot (hr.mono (by decide)) (ae_cons (oe_var 0) ae_nil) (consA_len (fun _ _ _ h => nilA_len h))))) sse_nil)
    (sse_one (se_ret (oe_callC c__law_kind_lot (hr.mono (by decide)) (ae_cons (oe_var 0) (ae_cons (oe_callC c__law_pick (hr.mono (by decide)) (ae_cons (oe_var 0) (ae_cons (oe_callC0 c__law_kinds (hr.mono (by decide))) ae_nil)) (consA_len (consA_len (fun _ _ _ h => nilA_len h)))) (ae_cons (oe_add oe_int (oe_callC c__law_draw (hr.mono (by decide)) (ae_cons (oe_var 0) (ae_cons oe_int ae_nil)) (consA_len (consA_len (fun _ _ _ h => nilA_len h))))) (ae_cons oe_int ae_nil)))) (consA_len (consA_len (consA_len (consA_len (fun _ _ _ h => nilA_len h)))))))))⟩
/-! _law_uses -/
abbrev s__law_uses : Stmt := topS 49
theorem sc__law_uses : FnScope ["d", "tables", "many", "count", "found", "k", "at", "names", "times", "place"] ["d", "tables", "many", "count"] (defScope s__law_uses) := ⟨rfl, rfl, rfl, by decide +kernel, rfl, by decide +kernel, by decide +kernel⟩
theorem ok__law_uses {P : Program} {w : World} {K : PySem.W.Frag} {mg : Str → Option Value} {κ : String → Nat} {base : Heap} {f : Addr} {fd : FuncData} (Fu : Fun K "_law_uses" "_law_uses" s__law_uses f fd) (b : Bl K mg κ) (c__law_draw : Callee P w K mg base 1 "_law_draw" 2 (m__law_draw κ)) :
    FnOk P w K mg base CX0 2 f fd ["d", "tables", "many", "count"] (spF K (m__law_uses κ) 4) := by
  refine fn_ok (k := 1) (io := [0]) Fu sc__law_uses rfl rfl (fun cdv A outer s H E hr => ?_)
  have hu := room64 hr
  exact ⟨_, by decide, (sse_cons (se_set 4 sc__law_uses.nd (oe_lst de_nil))
    (sse_cons (se_for PassesOwn.never rfl (ie_range1 (by rfl) b.range_ (de_cons (oe_var 3) de_nil)) (ge_name (i := 5) sc__law_uses.nd) (sse_cons (se_set 6 sc__law_uses.nd (oe_callC c__law_draw (hr.mono (by decide)) (ae_cons (oe_var 0) (ae_cons (oe_lenX (ae_cons (oe_var 1) ae_nil) b.len_) ae_nil)) (consA_len (consA_len (fun _ _ _ h => nilA_len h)))))
    (sse_cons (se_set 7 sc__law_uses.nd (oe_tuple (ae_cons (oe_comp rfl sc__law_uses.nd (ie_range1 (by rfl) b.range_ (de_cons (oe_at (oe_at (oe_var 1) (oe_var 6)) oe_int) de_nil)) (blkOk_by (own := [("place", 9)]) (by exact rfl)) (fun _ _ _ _ _ => (ge_name (i := 9) sc__law_uses.nd)) (fun _ _ _ _ _ => if_nil) (fun _ _ _ _ _ => (oe_callC c__law_draw (hr.mono (by decide)) (ae_cons (oe_var 0) (ae_cons (oe_var 2) ae_nil)) (consA_len (consA_len (fun _ _ _ h => nilA_len h)))))) ae_nil) b.tuple_))
    (sse_cons (se_set 8 sc__law_uses.nd (oe_if (te_gt (oe_callC c__law_draw (hr.mono (by decide)) (ae_cons (oe_var 0) (ae_cons oe_int ae_nil)) (consA_len (consA_len (fun _ _ _ h => nilA_len h)))) oe_int) oe_int (oe_add oe_int (oe_callC c__law_draw (hr.mono (by decide)) (ae_cons (oe_var 0) (ae_cons oe_int ae_nil)) (consA_len (consA_len (fun _ _ _ h => nilA_len h)))))))
    (sse_one (se_expr (oe_append 4 (de_cons (oe_tup (de_cons (oe_var 6) (de_cons (oe_var 7) (de_cons (oe_var 8) de_nil)))) de_nil))))))))
    (sse_one (se_ret (oe_tuple (ae_cons (oe_var 4) ae_nil) b.tuple_)))))⟩
/-! _law_merged -/
abbrev s__law_merged : Stmt := topS 50
theorem sc__law_merged : FnScope ["tables", "use", "names", "name", "prices", "row", "number"] ["tables", "use"] (defScope s__law_merged) := ⟨rfl, rfl, rfl, by decide +kernel, rfl, by decide +kernel, by decide +kernel⟩
theorem ok__law_merged {P : Program} {w : World} {K : PySem.W.Frag} {mg : Str → Option Value} {κ : String → Nat} {base : Heap} {f : Addr} {fd : FuncData} (Fu : Fun K "_law_merged" "_law_merged" s__law_merged f fd) (b : Bl K mg κ) (c__law_rows : Callee P w K mg base 2 "_law_rows" 1 (m__law_rows κ)) (c__law_times : Callee P w K mg base 1 "_law_times" 2 (m__law_times κ)) :
    FnOk P w K mg base CX0 3 f fd ["tables", "use"] (spF K (m__law_merged κ) 2) := by
  refine fn_ok (k := 2) (io := []) Fu sc__law_merged rfl rfl (fun cdv A outer s H E hr => ?_)
  have hu := room64 hr
  exact ⟨_, by decide, (sse_cons (se_set 2 sc__law_merged.nd (oe_lst de_nil))
    (sse_cons (se_for PassesOwn.never rfl (ie_seq (oe_at (oe_var 1) oe_int)) (ge_name (i := 3) sc__law_merged.nd) (sse_one (se_if (te_ninX (room65 hr) (oe_var 3) (oe_var 2)) (sse_one (se_expr (oe_append 2 (de_cons (oe_var 3) de_nil)))) sse_nil)))
    (sse_cons (se_set 4 sc__law_merged.nd (oe_lst de_nil))
    (sse_cons (se_for PassesOwn.never rfl (ie_seq (oe_callC c__law_rows (hr.mono (by decide)) (ae_cons (oe_lenX (ae_cons (oe_var 2) ae_nil) b.len_) ae_nil) (consA_len (fun _ _ _ h => nilA_len h)))) (ge_name (i := 5) sc__law_merged.nd) (sse_cons (se_set 6 sc__law_merged.nd oe_int)
    (sse_cons (se_for PassesOwn.never rfl (ie_seq (oe_at (oe_var 1) oe_int)) (ge_name (i := 3) sc__law_merged.nd) (sse_one (se_set 6 sc__law_merged.nd (oe_add (oe_mul (oe_var 6) oe_int) (oe_at (oe_var 5) (oe_index (oe_var 2) (ae_cons (oe_var 3) ae_nil)))))))
    (sse_one (se_expr (oe_append 4 (de_cons (oe_callC c__law_times (hr.mono (by decide)) (ae_cons (oe_at (oe_at (oe_at (oe_var 0) (oe_at (oe_var 1) oe_int)) oe_int) (oe_var 6)) (ae_cons (oe_at (oe_var 1) oe_int) ae_nil)) (consA_len (consA_len (fun _ _ _ h => nilA_len h)))) de_nil)))))))
    (sse_one (se_ret (oe_tup (de_cons (oe_tuple (ae_cons (oe_var 2) ae_nil) b.tuple_) (de_cons (oe_tuple (ae_cons (oe_var 4) ae_nil) b.tuple_) de_nil)))))))))⟩
/-! _law_beyond -/
abbrev s__law_beyond : Stmt := topS 51
theorem sc__law_beyond : FnScope ["use", "forced", "value", "found", "row", "price", "name", "here"] ["use", "forced", "value"] (defScope s__law_beyond) := ⟨rfl, rfl, rfl, by decide +kernel, rfl, by decide +kernel, by decide +kernel⟩
theorem ok__law_beyond {P : Program} {w : World} {K : PySem.W.Frag} {mg : Str → Option Value} {κ : String → Nat} {base : Heap} {f : Addr} {fd : FuncData} (Fu : Fun K "_law_beyond" "_law_beyond" s__law_beyond f fd) (b : Bl K mg κ) (c__law_rows : Callee P w K mg base 2 "_law_rows" 1 (m__law_rows κ)) :
    FnOk P w K mg base CX0 3 f fd ["use", "forced", "value"] (spF K (m__law_beyond κ) 3) := by
  refine fn_ok (k := 2) (io := []) Fu sc__law_beyond rfl rfl (fun cdv A outer s H E hr => ?_)
  have hu := room64 hr
  exact ⟨_, by decide, (sse_cons (se_set 3 sc__law_beyond.nd (oe_lst de_nil))
    (sse_cons (se_for PassesOwn.never rfl (ie_zip2 b.zip_ (de_cons (oe_callC c__law_rows (hr.mono (by decide)) (ae_cons (oe_lenX (ae_cons (oe_at (oe_var 0) oe_int) ae_nil) b.len_) ae_nil) (consA_len (fun _ _ _ h => nilA_len h))) (de_cons (oe_at (oe_var 0) oe_int) de_nil))) (ge_tup rfl (gse_cons (ge_name (i := 4) sc__law_beyond.nd) (gse_cons (ge_name (i := 5) sc__law_beyond.nd) gse_nil))) (sse_one (se_if ((tw_and (te_isn (oe_var 5) oe_non) (tw_and1 (te_tru (oe_allT rfl (ae_cons (oe_comp rfl sc__law_beyond.nd (ie_zip2 b.zip_ (de_cons (oe_at (oe_var 0) oe_int) (de_cons (oe_var 4) de_nil))) (blkOk_by (own := [("name", 6), ("here", 7)]) (by exact rfl)) (fun _ _ _ _ _ => (ge_tup rfl (gse_cons (ge_name (i := 6) sc__law_beyond.nd) (gse_cons (ge_name (i := 7) sc__law_beyond.nd) gse_nil)))) (fun _ _ _ _ _ => (if_one (te_inX (room65 hr) (oe_var 6) (oe_var 1)))) (fun _ _ _ _ _ => (oe_eq hu (oe_var 7) (oe_var 2)))) ae_nil) b.all_))))).te (sse_one (se_expr (oe_append 3 (de_cons (oe_var 4) de_nil)))) sse_nil)))
    (sse_one (se_ret (oe_var 3)))))⟩
/-! _law_next -/
abbrev s__law_next : Stmt := topS 52
theorem sc__law_next : FnScope ["uses", "forced", "value", "spot", "names", "rows", "sure", "fresh", "k", "name", "row"] ["uses", "forced", "value"] (defScope s__law_next) := ⟨rfl, rfl, rfl, by decide +kernel, rfl, by decide +kernel, by decide +kernel⟩
theorem ok__law_next {P : Program} {w : World} {K : PySem.W.Frag} {mg : Str → Option Value} {κ : String → Nat} {base : Heap} {f : Addr} {fd : FuncData} (Fu : Fun K "_law_next" "_law_next" s__law_next f fd) (b : Bl K mg κ) (c__law_beyond : Callee P w K mg base 3 "_law_beyond" 3 (m__law_beyond κ)) :
    FnOk P w K mg base CX0 4 f fd ["uses", "forced", "value"] (spF K (m__law_next κ) 3) := by
  refine fn_ok (k := 3) (io := []) Fu sc__law_next rfl rfl (fun cdv A outer s H E hr => ?_)
  have hu := room64 hr
  exact ⟨_, by decide, (sse_cons (se_for PassesOwn.never rfl (ie_range1 (by rfl) b.range_ (de_cons (oe_lenX (ae_cons (oe_var 0) ae_nil) b.len_) de_nil)) (ge_name (i := 3) sc__law_next.nd) (sse_cons (se_set 4 sc__law_next.nd (oe_at (oe_at (oe_var 0) (oe_var 3)) oe_int))
    (sse_cons (se_set 5 sc__law_next.nd (oe_callC c__law_beyond (hr.mono (by decide)) (ae_cons (oe_at (oe_var 0) (oe_var 3)) (ae_cons (oe_var 1) (ae_cons (oe_var 2) ae_nil))) (consA_len (consA_len (consA_len (fun _ _ _ h => nilA_len h))))))
    (sse_cons (se_if (te_eq hu (oe_lenX (ae_cons (oe_var 5) ae_nil) b.len_) oe_int) (sse_one (se_ret (oe_tup (de_cons (oe_var 3) (de_cons oe_non de_nil))))) sse_nil)
    (sse_cons (se_setComp 6 rfl sc__law_next.nd (ie_range1 (by rfl) b.range_ (de_cons (oe_lenX (ae_cons (oe_var 4) ae_nil) b.len_) de_nil)) (blkOk_by (own := [("k", 8)]) (by exact rfl)) (fun _ _ _ _ _ => (ge_name (i := 8) sc__law_next.nd)) (fun _ _ _ _ _ => (if_one (te_tru (oe_allT rfl (ae_cons (oe_comp rfl sc__law_next.nd (ie_name 5) (blkOk_by (own := [("row", 10)]) (by exact rfl)) (fun _ _ _ _ _ => (ge_name (i := 10) sc__law_next.nd)) (fun _ _ _ _ _ => if_nil) (fun _ _ _ _ _ => (oe_eq hu (oe_at (oe_var 10) (oe_var 8)) (oe_var 2)))) ae_nil) b.all_)))) (fun _ _ _ _ _ => (oe_at (oe_var 4) (oe_var 8))) (sw_true rfl rfl rfl (by decide +kernel)))
    (sse_cons (se_setComp 7 rfl sc__law_next.nd (ie_name 6) (blkOk_by (own := [("name", 9)]) (by exact rfl)) (fun _ _ _ _ _ => (ge_name (i := 9) sc__law_next.nd)) (fun _ _ _ _ _ => (if_one (te_ninX (room65 hr) (oe_var 9) (oe_var 1)))) (fun _ _ _ _ _ => (oe_var 9)) (sw_true rfl rfl rfl (by decide +kernel)))
    (sse_one (se_if (te_gt (oe_lenX (ae_cons (oe_var 7) ae_nil) b.len_) oe_int) (sse_one (se_ret (oe_tup (de_cons (oe_var 3) (de_cons (oe_var 7) de_nil))))) sse_nil))))))))
    (sse_one (se_ret oe_non)))⟩
/-! _law_course -/
abbrev s__law_course : Stmt := topS 53
theorem sc__law_course : FnScope ["uses", "many", "value", "forced", "spots", "k", "step"] ["uses", "many", "value"] (defScope s__law_course) := ⟨rfl, rfl, rfl, by decide +kernel, rfl, by decide +kernel, by decide +kernel⟩
theorem ok__law_course {P : Program} {w : World} {K : PySem.W.Frag} {mg : Str → Option Value} {κ : String → Nat} {base : Heap} {f : Addr} {fd : FuncData} (Fu : Fun K "_law_course" "_law_course" s__law_course f fd) (b : Bl K mg κ) (c__law_next : Callee P w K mg base 4 "_law_next" 3 (m__law_next κ)) :
    FnOk P w K mg base CX0 5 f fd ["uses", "many", "value"] (spF K (m__law_course κ) 3) := by
  refine fn_ok (k := 4) (io := []) Fu sc__law_course rfl rfl (fun cdv A outer s H E hr => ?_)
  have hu := room64 hr
  exact ⟨_, by decide, (sse_cons (se_set 3 sc__law_course.nd (oe_lst de_nil))
    (sse_cons (se_set 4 sc__law_course.nd (oe_lst de_nil))
    (sse_cons (se_for PassesOwn.never rfl (ie_range1 (by rfl) b.range_ (de_cons (oe_add (oe_var 1) oe_int) de_nil)) (ge_name (i := 5) sc__law_course.nd) (sse_cons (se_set 6 sc__law_course.nd (oe_callC c__law_next (hr.mono (by decide)) (ae_cons (oe_var 0) (ae_cons (oe_var 3) (ae_cons (oe_var 2) ae_nil))) (consA_len (consA_len (consA_len (fun _ _ _ h => nilA_len h))))))
    (sse_cons (se_if (te_is (oe_var 6) oe_non) (sse_one (se_ret (oe_tup (de_cons (oe_var 3) (de_cons (oe_tuple (ae_cons (oe_var 4) ae_nil) b.tuple_) (de_cons oe_bl de_nil)))))) sse_nil)
    (sse_cons (se_expr (oe_append 4 (de_cons (oe_at (oe_var 6) oe_int) de_nil)))
    (sse_cons (se_if (te_is (oe_at (oe_var 6) oe_int) oe_non) (sse_one (se_ret (oe_tup (de_cons (oe_var 3) (de_cons (oe_tuple (ae_cons (oe_var 4) ae_nil) b.tuple_) (de_cons oe_bl de_nil)))))) sse_nil)
    (sse_one (se_set 3 sc__law_course.nd (oe_add (oe_var 3) (oe_at (oe_var 6) oe_int)))))))))
    (sse_one (se_ret (oe_tup (de_cons (oe_var 3) (de_cons (oe_tuple (ae_cons (oe_var 4) ae_nil) b.tuple_) (de_cons oe_bl de_nil)))))))))⟩
/-! _law_open -/
abbrev s__law_open : Stmt := topS 54
theorem sc__law_open : FnScope ["uses", "many", "found", "filling", "here", "use", "name"] ["uses", "many"] (defScope s__law_open) := ⟨rfl, rfl, rfl, by decide +kernel, rfl, by decide +kernel, by decide +kernel⟩
theorem ok__law_open {P : Program} {w : World} {K : PySem.W.Frag} {mg : Str → Option Value} {κ : String → Nat} {base : Heap} {f : Addr} {fd : FuncData} (Fu : Fun K "_law_open" "_law_open" s__law_open f fd) (b : Bl K mg κ) (c__law_number : Callee P w K mg base 1 "_law_number" 1 (m__law_number κ)) (c__law_rows : Callee P w K mg base 2 "_law_rows" 1 (m__law_rows κ)) (c__law_sum : Callee P w K mg base 1 "_law_sum" 1 (m__law_sum κ)) :
    FnOk P w K mg base CX0 3 f fd ["uses", "many"] (spF K (m__law_open κ) 2) := by
  refine fn_ok (k := 2) (io := []) Fu sc__law_open rfl rfl (fun cdv A outer s H E hr => ?_)
  have hu := room64 hr
  exact ⟨_, by decide, (sse_cons (se_set 2 sc__law_open.nd (oe_lst de_nil))
    (sse_cons (se_for PassesOwn.never rfl (ie_seq (oe_callC c__law_rows (hr.mono (by decide)) (ae_cons (oe_var 1) ae_nil) (consA_len (fun _ _ _ h => nilA_len h)))) (ge_name (i := 3) sc__law_open.nd) (sse_cons (se_setComp 4 rfl sc__law_open.nd (ie_name 0) (blkOk_by (own := [("use", 5)]) (by exact rfl)) (fun _ _ _ _ _ => (ge_name (i := 5) sc__law_open.nd)) (fun _ _ _ _ _ => if_nil) (fun _ _ _ _ _ => (oe_at (oe_at (oe_var 5) oe_int) (oe_callC c__law_number (hr.mono (by decide)) (ae_cons (oe_comp rfl sc__law_open.nd (ie_seq (oe_at (oe_var 5) oe_int)) (blkOk_by (own := [("name", 6)]) (by exact rfl)) (fun _ _ _ _ _ => (ge_name (i := 6) sc__law_open.nd)) (fun _ _ _ _ _ => if_nil) (fun _ _ _ _ _ => (oe_at (oe_var 3) (oe_var 6)))) ae_nil) (consA_len (fun _ _ _ h => nilA_len h))))) (sw_true rfl rfl rfl (by decide +kernel)))
    (sse_one (se_if (te_isn (oe_callC c__law_sum (hr.mono (by decide)) (ae_cons (oe_var 4) ae_nil) (consA_len (fun _ _ _ h => nilA_len h))) oe_non) (sse_one (se_expr (oe_append 2 (de_cons (oe_var 3) de_nil)))) sse_nil))))
    (sse_one (se_ret (oe_var 2)))))⟩
/-! _law_meant -/
abbrev s__law_meant : Stmt := topS 55
theorem sc__law_meant : FnScope ["uses", "many", "value", "exact", "forced", "stuck", "rows", "row", "sure", "name"] ["uses", "many", "value", "exact", "forced", "stuck"] (defScope s__law_meant) := ⟨rfl, rfl, rfl, by decide +kernel, rfl, by decide +kernel, by decide +kernel⟩
theorem ok__law_meant {P : Program} {w : World} {K : PySem.W.Frag} {mg : Str → Option Value} {κ : String → Nat} {base : Heap} {f : Addr} {fd : FuncData} (Fu : Fun K "_law_meant" "_law_meant" s__law_meant f fd) (b : Bl K mg κ) (c__law_open : Callee P w K mg base 3 "_law_open" 2 (m__law_open κ)) :
    FnOk P w K mg base CX0 4 f fd ["uses", "many", "value", "exact", "forced", "stuck"] (spF K (m__law_meant κ) 6) := by
  refine fn_ok (k := 3) (io := []) Fu sc__law_meant rfl rfl (fun cdv A outer s H E hr => ?_)
  have hu := room64 hr
  exact ⟨_, by decide, (sse_cons (se_set 6 sc__law_meant.nd (oe_callC c__law_open (hr.mono (by decide)) (ae_cons (oe_var 0) (ae_cons (oe_var 1) ae_nil)) (consA_len (consA_len (fun _ _ _ h => nilA_len h)))))
    (sse_cons (se_for PassesOwn.never rfl (ie_name 6) (ge_name (i := 7) sc__law_meant.nd) (sse_one (se_if ((tw_or (te_tru (oe_var 5)) (tw_or1 (te_not (te_tru (oe_allT rfl (ae_cons (oe_comp rfl sc__law_meant.nd (ie_name 4) (blkOk_by (own := [("name", 9)]) (by exact rfl)) (fun _ _ _ _ _ => (ge_name (i := 9) sc__law_meant.nd)) (fun _ _ _ _ _ => if_nil) (fun _ _ _ _ _ => (oe_eq hu (oe_at (oe_var 7) (oe_var 9)) (oe_var 2)))) ae_nil) b.all_)))))).te (sse_one (se_ret oe_bl)) sse_nil)))
    (sse_cons (se_if ((tw_and (te_tru (oe_var 3)) (tw_and1 (te_ne hu (oe_var 5) (oe_eq hu (oe_lenX (ae_cons (oe_var 6) ae_nil) b.len_) oe_int))))).te (sse_one (se_ret oe_bl)) sse_nil)
    (sse_cons (se_setComp 8 rfl sc__law_meant.nd (ie_range1 (by rfl) b.range_ (de_cons (oe_var 1) de_nil)) (blkOk_by (own := [("name", 9)]) (by exact rfl)) (fun _ _ _ _ _ => (ge_name (i := 9) sc__law_meant.nd)) (fun _ _ _ _ _ => (if_one (te_tru (oe_allT rfl (ae_cons (oe_comp rfl sc__law_meant.nd (ie_name 6) (blkOk_by (own := [("row", 7)]) (by exact rfl)) (fun _ _ _ _ _ => (ge_name (i := 7) sc__law_meant.nd)) (fun _ _ _ _ _ => if_nil) (fun _ _ _ _ _ => (oe_eq hu (oe_at (oe_var 7) (oe_var 9)) (oe_var 2)))) ae_nil) b.all_)))) (fun _ _ _ _ _ => (oe_var 9)) (sw_true rfl rfl rfl (by decide +kernel)))
    (sse_one (se_ret (oe_or (oe_var 5) (oe_or (oe_not (oe_var 3)) (oe_one (oe_eq hu (oe_var 8) (oe_sorted (ae_cons (oe_var 4) ae_nil) b.sorted_)))))))))))⟩
/-! _law_right -/
abbrev s__law_right : Stmt := topS 56
theorem sc__law_right : FnScope ["uses", "many", "value", "exact", "told", "forced", "spots", "stuck", "name"] ["uses", "many", "value", "exact", "told"] (defScope s__law_right) := ⟨rfl, rfl, rfl, by decide +kernel, rfl, by decide +kernel, by decide +kernel⟩
theorem ok__law_right {P : Program} {w : World} {K : PySem.W.Frag} {mg : Str → Option Value} {κ : String → Nat} {base : Heap} {f : Addr} {fd : FuncData} (Fu : Fun K "_law_right" "_law_right" s__law_right f fd) (b : Bl K mg κ) (c__law_course : Callee P w K mg base 5 "_law_course" 3 (m__law_course κ)) (c__law_is_ints : Callee P w K mg base 2 "_law_is_ints" 1 (m__law_is_ints κ)) (c__law_meant : Callee P w K mg base 4 "_law_meant" 6 (m__law_meant κ)) :
    FnOk P w K mg base CX0 6 f fd ["uses", "many", "value", "exact", "told"] (spF K (m__law_right κ) 5) := by
  refine fn_ok (k := 5) (io := []) Fu sc__law_right rfl rfl (fun cdv A outer s H E hr => ?_)
  have hu := room64 hr
  exact ⟨_, by decide, (sse_cons (se_asg (oe_callC c__law_course (hr.mono (by decide)) (ae_cons (oe_var 0) (ae_cons (oe_var 1) (ae_cons (oe_var 2) ae_nil))) (consA_len (consA_len (consA_len (fun _ _ _ h => nilA_len h))))) (ge_tup rfl (gse_cons (ge_name (i := 5) sc__law_right.nd) (gse_cons (ge_name (i := 6) sc__law_right.nd) (gse_cons (ge_name (i := 7) sc__law_right.nd) gse_nil)))))
    (sse_cons (se_if ((tw_or (te_not (te_tru (oe_isi1 (oe_var 4) b.isinstance_ b.tuple_ (by decide +kernel)))) (tw_or (te_ne hu (oe_lenX (ae_cons (oe_var 4) ae_nil) b.len_) oe_int) (tw_or1 (te_not (te_tru (oe_isi1 (oe_at (oe_var 4) oe_int) b.isinstance_ b.dict_ (by decide +kernel)))))))).te (sse_one (se_ret oe_bl)) sse_nil)
    (sse_cons (se_if ((tw_or (te_ne hu (oe_comp rfl sc__law_right.nd (ie_range1 (by rfl) b.range_ (de_cons (oe_var 1) de_nil)) (blkOk_by (own := [("name", 8)]) (by exact rfl)) (fun _ _ _ _ _ => (ge_name (i := 8) sc__law_right.nd)) (fun _ _ _ _ _ => (if_one (te_inX (room65 hr) (oe_var 8) (oe_at (oe_var 4) oe_int)))) (fun _ _ _ _ _ => (oe_var 8))) (oe_sorted (ae_cons (oe_var 5) ae_nil) b.sorted_)) (tw_or1 (te_ne hu (oe_lenX (ae_cons (oe_at (oe_var 4) oe_int) ae_nil) b.len_) (oe_lenX (ae_cons (oe_var 5) ae_nil) b.len_))))).te (sse_one (se_ret oe_bl)) sse_nil)
    (sse_cons (se_if ((tw_or (te_not (te_tru (oe_callC c__law_is_ints (hr.mono (by decide)) (ae_cons (oe_at (oe_var 4) oe_int) ae_nil) (consA_len (fun _ _ _ h => nilA_len h))))) (tw_or1 (te_ne hu (oe_at (oe_var 4) oe_int) (oe_var 6))))).te (sse_one (se_ret oe_bl)) sse_nil)
    (sse_cons (se_if ((tw_or (te_ne hu (oe_isB (oe_at (oe_var 4) oe_int) oe_bl) (oe_var 7)) (tw_or1 (te_eq hu (oe_isB (oe_at (oe_var 4) oe_int) oe_bl) (oe_var 7))))).te (sse_one (se_ret oe_bl)) sse_nil)
    (sse_one (se_ret (oe_or (oe_gt (oe_var 1) oe_int) (oe_one (oe_callC c__law_meant (hr.mono (by decide)) (ae_cons (oe_var 0) (ae_cons (oe_var 1) (ae_cons (oe_var 2) (ae_cons (oe_var 3) (ae_cons (oe_var 5) (ae_cons (oe_var 7) ae_nil)))))) (consA_len (consA_len (consA_len (consA_len (consA_len (consA_len (fun _ _ _ h => nilA_len h)))))))))))))))))⟩
/-! _law_small -/
abbrev s__law_small : Stmt := topS 57
theorem sc__law_small : FnScope ["d", "way", "many", "uses", "tables", "k"] ["d"] (defScope s__law_small) := ⟨rfl, rfl, rfl, by decide +kernel, rfl, by decide +kernel, by decide +kernel⟩
theorem ok__law_small {P : Program} {w : World} {K : PySem.W.Frag} {mg : Str → Option Value} {κ : String → Nat} {base : Heap} {f : Addr} {fd : FuncData} (Fu : Fun K "_law_small" "_law_small" s__law_small f fd) (b : Bl K mg κ) (c__law_any_lot : Callee P w K mg base 9 "_law_any_lot" 1 (m__law_any_lot κ)) (c__law_draw : Callee P w K mg base 1 "_law_draw" 2 (m__law_draw κ)) (c__law_kind_lot : Callee P w K mg base 8 "_law_kind_lot" 4 (m__law_kind_lot κ)) (c__law_loose : Callee P w K mg base 5 "_law_loose" 3 (m__law_loose κ)) (c__law_rare : Callee P w K mg base 2 "_law_rare" 2 (m__law_rare κ)) (c__law_shuffled : Callee P w K mg base 2 "_law_shuffled" 2 (m__law_shuffled κ)) (c__law_uses : Callee P w K mg base 2 "_law_uses" 4 (m__law_uses κ)) :
    FnOk P w K mg base CX0 10 f fd ["d"] (spF K (m__law_small κ) 1) := by
  refine fn_ok (k := 9) (io := [0]) Fu sc__law_small rfl rfl (fun cdv A outer s H E hr => ?_)
  have hu := room64 hr
  exact ⟨_, by decide, (sse_cons (se_set 1 sc__law_small.nd (oe_callC c__law_draw (hr.mono (by decide)) (ae_cons (oe_var 0) (ae_cons oe_int ae_nil)) (consA_len (consA_len (fun _ _ _ h => nilA_len h)))))
    (sse_cons (se_if (te_lt (oe_var 1) oe_int) (sse_one (se_set 4 sc__law_small.nd (oe_callC c__law_kind_lot (hr.mono (by decide)) (ae_cons (oe_var 0) (ae_cons (oe_at (oe_tup (de_cons oe_str (de_cons oe_str (de_cons oe_str de_nil)))) (oe_var 1)) (ae_cons (oe_add oe_int (oe_callC c__law_draw (hr.mono (by decide)) (ae_cons (oe_var 0) (ae_cons oe_int ae_nil)) (consA_len (consA_len (fun _ _ _ h => nilA_len h))))) (ae_cons oe_int ae_nil)))) (consA_len (consA_len (consA_len (consA_len (fun _ _ _ h => nilA_len h)))))))) (sse_one (se_if (te_eq hu (oe_var 1) oe_int) (sse_one (se_set 4 sc__law_small.nd (oe_callC c__law_any_lot (hr.mono (by decide)) (ae_cons (oe_var 0) ae_nil) (consA_len (fun _ _ _ h => nilA_len h))))) (sse_one (se_setComp 4 rfl sc__law_small.nd (ie_range1 (by rfl) b.range_ (de_cons (oe_add oe_int (oe_callC c__law_draw (hr.mono (by decide)) (ae_cons (oe_var 0) (ae_cons oe_int ae_nil)) (consA_len (consA_len (fun _ _ _ h => nilA_len h))))) de_nil)) (blkOk_by (own := [("k", 5)]) (by exact rfl)) (fun _ _ _ _ _ => (ge_name (i := 5) sc__law_small.nd)) (fun _ _ _ _ _ => if_nil) (fun _ _ _ _ _ => (oe_callC c__law_loose (hr.mono (by decide)) (ae_cons (oe_var 0) (ae_cons (oe_add oe_int (oe_callC c__law_draw (hr.mono (by decide)) (ae_cons (oe_var 0) (ae_cons oe_int ae_nil)) (consA_len (consA_len (fun _ _ _ h => nilA_len h))))) (ae_cons (oe_add oe_int (oe_callC c__law_draw (hr.mono (by decide)) (ae_cons (oe_var 0) (ae_cons oe_int ae_nil)) (consA_len (consA_len (fun _ _ _ h => nilA_len h))))) ae_nil))) (consA_len (consA_len (consA_len (fun _ _ _ h => nilA_len h)))))) (sw_true rfl rfl rfl (by decide +kernel)))))))
    (sse_cons (se_set 2 sc__law_small.nd (oe_add (oe_add oe_int (oe_callC c__law_draw (hr.mono (by decide)) (ae_cons (oe_var 0) (ae_cons oe_int ae_nil)) (consA_len (consA_len (fun _ _ _ h => nilA_len h))))) (oe_int_ (ae_cons (oe_callC c__law_rare (hr.mono (by decide)) (ae_cons (oe_var 0) (ae_cons oe_int ae_nil)) (consA_len (consA_len (fun _ _ _ h => nilA_len h)))) ae_nil) b.int_)))
    (sse_cons (se_set 3 sc__law_small.nd (oe_list (ae_cons (oe_callC c__law_uses (hr.mono (by decide)) (ae_cons (oe_var 0) (ae_cons (oe_var 4) (ae_cons (oe_var 2) (ae_cons (oe_callC c__law_draw (hr.mono (by decide)) (ae_cons (oe_var 0) (ae_cons oe_int ae_nil)) (consA_len (consA_len (fun _ _ _ h => nilA_len h)))) ae_nil)))) (consA_len (consA_len (consA_len (consA_len (fun _ _ _ h => nilA_len h)))))) ae_nil) b.list_))
    (sse_cons (se_set 4 sc__law_small.nd (oe_add (oe_var 4) (oe_lst (de_cons (oe_tup (de_cons oe_int (de_cons (oe_tup (de_cons oe_int (de_cons oe_non de_nil))) de_nil))) (de_cons (oe_tup (de_cons oe_int (de_cons (oe_tup (de_cons oe_non (de_cons oe_int de_nil))) de_nil))) de_nil)))))
    (sse_cons (se_for PassesOwn.never rfl (ie_range1 (by rfl) b.range_ (de_cons (oe_callC c__law_draw (hr.mono (by decide)) (ae_cons (oe_var 0) (ae_cons oe_int ae_nil)) (consA_len (consA_len (fun _ _ _ h => nilA_len h)))) de_nil)) (ge_name (i := 5) sc__law_small.nd) (sse_one (se_expr (oe_append 3 (de_cons (oe_tup (de_cons (oe_sub (oe_sub (oe_lenX (ae_cons (oe_var 4) ae_nil) b.len_) oe_int) (oe_callC c__law_draw (hr.mono (by decide)) (ae_cons (oe_var 0) (ae_cons oe_int ae_nil)) (consA_len (consA_len (fun _ _ _ h => nilA_len h))))) (de_cons (oe_tup (de_cons (oe_callC c__law_draw (hr.mono (by decide)) (ae_cons (oe_var 0) (ae_cons (oe_var 2) ae_nil)) (consA_len (consA_len (fun _ _ _ h => nilA_len h)))) de_nil)) (de_cons oe_int de_nil)))) de_nil)))))
    (sse_one (se_ret (oe_tup (de_cons (oe_var 4) (de_cons (oe_var 2) (de_cons (oe_callC c__law_shuffled (hr.mono (by decide)) (ae_cons (oe_var 0) (ae_cons (oe_var 3) ae_nil)) (consA_len (consA_len (fun _ _ _ h => nilA_len h)))) de_nil))))))))))))⟩
/-! _law_long -/
abbrev s__law_long : Stmt := topS 58
theorem sc__law_long : FnScope ["d", "value", "many", "link", "start", "tables", "order", "uses", "way", "k", "use"] ["d"] (defScope s__law_long) := ⟨rfl, rfl, rfl, by decide +kernel, rfl, by decide +kernel, by decide +kernel⟩
theorem ok__law_long {P : Program} {w : World} {K : PySem.W.Frag} {mg : Str → Option Value} {κ : String → Nat} {base : Heap} {f : Addr} {fd : FuncData} (Fu : Fun K "_law_long" "_law_long" s__law_long f fd) (b : Bl K mg κ) (c__law_draw : Callee P w K mg base 1 "_law_draw" 2 (m__law_draw κ)) (c__law_loose : Callee P w K mg base 5 "_law_loose" 3 (m__law_loose κ)) (c__law_shuffled : Callee P w K mg base 2 "_law_shuffled" 2 (m__law_shuffled κ)) (c__law_uses : Callee P w K mg base 2 "_law_uses" 4 (m__law_uses κ)) :
    FnOk P w K mg base CX0 6 f fd ["d"] (spF K (m__law_long κ) 1) := by
  refine fn_ok (k := 5) (io := [0]) Fu sc__law_long rfl rfl (fun cdv A outer s H E hr => ?_)
  have hu := room64 hr
  exact ⟨_, by decide, (sse_cons (se_set 1 sc__law_long.nd (oe_callC c__law_draw (hr.mono (by decide)) (ae_cons (oe_var 0) (ae_cons oe_int ae_nil)) (consA_len (consA_len (fun _ _ _ h => nilA_len h)))))
    (sse_cons (se_set 2 sc__law_long.nd (oe_add oe_int (oe_callC c__law_draw (hr.mono (by decide)) (ae_cons (oe_var 0) (ae_cons oe_int ae_nil)) (consA_len (consA_len (fun _ _ _ h => nilA_len h))))))
    (sse_cons (se_setComp 3 rfl sc__law_long.nd (ie_range1 (by rfl) b.range_ (de_cons oe_int de_nil)) (blkOk_by (own := [("k", 9)]) (by exact rfl)) (fun _ _ _ _ _ => (ge_name (i := 9) sc__law_long.nd)) (fun _ _ _ _ _ => if_nil) (fun _ _ _ _ _ => (oe_callC c__law_draw (hr.mono (by decide)) (ae_cons (oe_var 0) (ae_cons oe_int ae_nil)) (consA_len (consA_len (fun _ _ _ h => nilA_len h))))) (sw_true rfl rfl rfl (by decide +kernel)))
    (sse_cons (se_put 3 oe_non (oe_add (oe_var 1) oe_int))
    (sse_cons (se_set 4 sc__law_long.nd (oe_lst (de_cons (oe_callC c__law_draw (hr.mono (by decide)) (ae_cons (oe_var 0) (ae_cons oe_int ae_nil)) (consA_len (consA_len (fun _ _ _ h => nilA_len h)))) (de_cons (oe_callC c__law_draw (hr.mono (by decide)) (ae_cons (oe_var 0) (ae_cons oe_int ae_nil)) (consA_len (consA_len (fun _ _ _ h => nilA_len h)))) de_nil))))
    (sse_cons (se_put 4 oe_non (oe_sub oe_int (oe_var 1)))
    (sse_cons (se_set 5 sc__law_long.nd (oe_lst (de_cons (oe_tup (de_cons oe_int (de_cons (oe_tuple (ae_cons (oe_var 3) ae_nil) b.tuple_) de_nil))) (de_cons (oe_tup (de_cons oe_int (de_cons (oe_tuple (ae_cons (oe_var 4) ae_nil) b.tuple_) de_nil))) (de_cons (oe_callC c__law_loose (hr.mono (by decide)) (ae_cons (oe_var 0) (ae_cons (oe_add oe_int (oe_callC c__law_draw (hr.mono (by decide)) (ae_cons (oe_var 0) (ae_cons oe_int ae_nil)) (consA_len (consA_len (fun _ _ _ h => nilA_len h))))) (ae_cons (oe_add oe_int (oe_callC c__law_draw (hr.mono (by decide)) (ae_cons (oe_var 0) (ae_cons oe_int ae_nil)) (consA_len (consA_len (fun _ _ _ h => nilA_len h))))) ae_nil))) (consA_len (consA_len (consA_len (fun _ _ _ h => nilA_len h))))) de_nil)))))
    (sse_cons (se_set 6 sc__law_long.nd (oe_callC c__law_shuffled (hr.mono (by decide)) (ae_cons (oe_var 0) (ae_cons (oe_listRg rfl (oe_var 2) b.list_ b.range_) ae_nil)) (consA_len (consA_len (fun _ _ _ h => nilA_len h)))))
    (sse_cons (se_setComp 7 rfl sc__law_long.nd (ie_range1 (by rfl) b.range_ (de_cons (oe_sub (oe_var 2) oe_int) de_nil)) (blkOk_by (own := [("k", 9)]) (by exact rfl)) (fun _ _ _ _ _ => (ge_name (i := 9) sc__law_long.nd)) (fun _ _ _ _ _ => if_nil) (fun _ _ _ _ _ => (oe_tup (de_cons oe_int (de_cons (oe_tup (de_cons (oe_at (oe_var 6) (oe_var 9)) (de_cons (oe_at (oe_var 6) (oe_add (oe_var 9) oe_int)) de_nil))) (de_cons oe_int de_nil))))) (sw_true rfl rfl rfl (by decide +kernel)))
    (sse_cons (se_if (te_eq hu (oe_callC c__law_draw (hr.mono (by decide)) (ae_cons (oe_var 0) (ae_cons oe_int ae_nil)) (consA_len (consA_len (fun _ _ _ h => nilA_len h)))) oe_int) (sse_one (se_expr (oe_popAt 7 (de_cons (oe_callC c__law_draw (hr.mono (by decide)) (ae_cons (oe_var 0) (ae_cons (oe_lenX (ae_cons (oe_var 7) ae_nil) b.len_) ae_nil)) (consA_len (consA_len (fun _ _ _ h => nilA_len h)))) de_nil)))) sse_nil)
    (sse_cons (se_expr (oe_append 7 (de_cons (oe_tup (de_cons oe_int (de_cons (oe_tup (de_cons (oe_at (oe_var 6) oe_int) de_nil)) (de_cons oe_int de_nil)))) de_nil)))
    (sse_cons (se_expr (oe_extend 7 (de_cons (oe_list (ae_cons (oe_callC c__law_uses (hr.mono (by decide)) (ae_cons (oe_var 0) (ae_cons (oe_var 5) (ae_cons (oe_var 2) (ae_cons (oe_callC c__law_draw (hr.mono (by decide)) (ae_cons (oe_var 0) (ae_cons oe_int ae_nil)) (consA_len (consA_len (fun _ _ _ h => nilA_len h)))) ae_nil)))) (consA_len (consA_len (consA_len (consA_len (fun _ _ _ h => nilA_len h)))))) ae_nil) b.list_) de_nil)))
    (sse_cons (se_set 8 sc__law_long.nd (oe_callC c__law_draw (hr.mono (by decide)) (ae_cons (oe_var 0) (ae_cons oe_int ae_nil)) (consA_len (consA_len (fun _ _ _ h => nilA_len h)))))
    (sse_cons (se_if (te_eq hu (oe_var 8) oe_int) (sse_one (se_setComp 7 rfl sc__law_long.nd (ie_rev b.reversed_ (oe_var 7)) (blkOk_by (own := [("use", 10)]) (by exact rfl)) (fun _ _ _ _ _ => (ge_name (i := 10) sc__law_long.nd)) (fun _ _ _ _ _ => if_nil) (fun _ _ _ _ _ => (oe_var 10)) (sw_true rfl rfl rfl (by decide +kernel)))) sse_nil)
    (sse_cons (se_if (te_eq hu (oe_var 8) oe_int) (sse_one (se_set 7 sc__law_long.nd (oe_callC c__law_shuffled (hr.mono (by decide)) (ae_cons (oe_var 0) (ae_cons (oe_var 7) ae_nil)) (consA_len (consA_len (fun _ _ _ h => nilA_len h)))))) sse_nil)
    (sse_one (se_ret (oe_tup (de_cons (oe_var 5) (de_cons (oe_var 2) (de_cons (oe_var 7) de_nil)))))))))))))))))))))⟩
/-! law -/
abbrev s_law : Stmt := topS 59
theorem sc_law : FnScope ["script", "d", "merged", "value", "tables", "many", "uses", "exact", "passed", "told", "use", "mixed"] ["script"] (defScope s_law) := ⟨rfl, rfl, rfl, by decide +kernel, rfl, by decide +kernel, by decide +kernel⟩
theorem ok_law {P : Program} {w : World} {K : PySem.W.Frag} {mg : Str → Option Value} {κ : String → Nat} {base : Heap} {f : Addr} {fd : FuncData} (Fu : Fun K "law" "law" s_law f fd) (b : Bl K mg κ) (c__law_begin : Callee P w K mg base 1 "_law_begin" 1 (m__law_begin κ)) (c__law_kept : Callee P w K mg base 4 "_law_kept" 2 (m__law_kept κ)) (c__law_long : Callee P w K mg base 6 "_law_long" 1 (m__law_long κ)) (c__law_merged : Callee P w K mg base 3 "_law_merged" 2 (m__law_merged κ)) (c__law_rare : Callee P w K mg base 2 "_law_rare" 2 (m__law_rare κ)) (c__law_right : Callee P w K mg base 6 "_law_right" 5 (m__law_right κ)) (c__law_shuffled : Callee P w K mg base 2 "_law_shuffled" 2 (m__law_shuffled κ)) (c__law_small : Callee P w K mg base 10 "_law_small" 1 (m__law_small κ)) (c_forced_steps : Callee P w K mg base 4 "forced_steps" 2 (m_forced_steps κ)) :
    FnOk P w K mg base CX0 11 f fd ["script"] (spF K (m_law κ) 1) := by
  refine fn_ok (k := 10) (io := []) Fu sc_law rfl rfl (fun cdv A outer s H E hr => ?_)
  have hu := room64 hr
  exact ⟨_, by decide, (sse_cons (se_set 1 sc_law.nd (oe_callC c__law_begin (hr.mono (by decide)) (ae_cons (oe_var 0) ae_nil) (consA_len (fun _ _ _ h => nilA_len h))))
    (sse_cons (se_asg (oe_if (te_tru (oe_callC c__law_rare (hr.mono (by decide)) (ae_cons (oe_var 1) (ae_cons oe_int ae_nil)) (consA_len (consA_len (fun _ _ _ h => nilA_len h))))) (oe_callC c__law_long (hr.mono (by decide)) (ae_cons (oe_var 1) ae_nil) (consA_len (fun _ _ _ h => nilA_len h))) (oe_callC c__law_small (hr.mono (by decide)) (ae_cons (oe_var 1) ae_nil) (consA_len (fun _ _ _ h => nilA_len h)))) (ge_tup rfl (gse_cons (ge_name (i := 4) sc_law.nd) (gse_cons (ge_name (i := 5) sc_law.nd) (gse_cons (ge_name (i := 6) sc_law.nd) gse_nil)))))
    (sse_cons (se_setComp 2 rfl sc_law.nd (ie_name 6) (blkOk_by (own := [("use", 10)]) (by exact rfl)) (fun _ _ _ _ _ => (ge_name (i := 10) sc_law.nd)) (fun _ _ _ _ _ => if_nil) (fun _ _ _ _ _ => (oe_callC c__law_merged (hr.mono (by decide)) (ae_cons (oe_var 4) (ae_cons (oe_var 10) ae_nil)) (consA_len (consA_len (fun _ _ _ h => nilA_len h))))) (sw_true rfl rfl rfl (by decide +kernel)))
    (sse_cons (se_for PassesOwn.never rfl (ie_seq (oe_tup (de_cons oe_int (de_cons oe_int de_nil)))) (ge_name (i := 3) sc_law.nd) (sse_cons (se_set 7 sc_law.nd (oe_or (oe_callC c__law_kept (hr.mono (by decide)) (ae_cons (oe_at (oe_tup (de_cons oe_str (de_cons oe_str de_nil))) (oe_var 3)) (ae_cons (oe_var 4) ae_nil)) (consA_len (consA_len (fun _ _ _ h => nilA_len h)))) (oe_one (oe_callC c__law_kept (hr.mono (by decide)) (ae_cons oe_str (ae_cons (oe_var 4) ae_nil)) (consA_len (consA_len (fun _ _ _ h => nilA_len h)))))))
    (sse_cons (se_set 8 sc_law.nd (oe_list (ae_cons (oe_var 2) ae_nil) b.list_))
    (sse_cons (se_set 9 sc_law.nd (oe_callC c_forced_steps (hr.mono (by decide)) (ae_cons (oe_var 8) (ae_cons (oe_var 3) ae_nil)) (consA_len (consA_len (fun _ _ _ h => nilA_len h)))))
    (sse_cons (se_if ((tw_or (te_ne hu (oe_var 8) (oe_var 2)) (tw_or1 (te_not (te_tru (oe_callC c__law_right (hr.mono (by decide)) (ae_cons (oe_var 2) (ae_cons (oe_var 5) (ae_cons (oe_var 3) (ae_cons (oe_var 7) (ae_cons (oe_var 9) ae_nil))))) (consA_len (consA_len (consA_len (consA_len (consA_len (fun _ _ _ h => nilA_len h)))))))))))).te (sse_one (se_ret oe_bl)) sse_nil)
    (sse_one (se_if (te_lt (oe_var 5) oe_int) (sse_cons (se_set 11 sc_law.nd (oe_callC c__law_shuffled (hr.mono (by decide)) (ae_cons (oe_var 1) (ae_cons (oe_var 2) ae_nil)) (consA_len (consA_len (fun _ _ _ h => nilA_len h)))))
    (sse_one (se_if (te_not (te_tru (oe_callC c__law_right (hr.mono (by decide)) (ae_cons (oe_var 11) (ae_cons (oe_var 5) (ae_cons (oe_var 3) (ae_cons (oe_var 7) (ae_cons (oe_callC c_forced_steps (hr.mono (by decide)) (ae_cons (oe_list (ae_cons (oe_var 11) ae_nil) b.list_) (ae_cons (oe_var 3) ae_nil)) (consA_len (consA_len (fun _ _ _ h => nilA_len h)))) ae_nil))))) (consA_len (consA_len (consA_len (consA_len (consA_len (fun _ _ _ h => nilA_len h))))))))) (sse_one (se_ret oe_bl)) sse_nil))) sse_nil)))))))
    (sse_one (se_ret (oe_and (oe_callC c__law_right (hr.mono (by decide)) (ae_cons (oe_lst de_nil) (ae_cons (oe_var 5) (ae_cons oe_int (ae_cons oe_bl (ae_cons (oe_callC c_forced_steps (hr.mono (by decide)) (ae_cons (oe_lst de_nil) (ae_cons oe_int ae_nil)) (consA_len (consA_len (fun _ _ _ h => nilA_len h)))) ae_nil))))) (consA_len (consA_len (consA_len (consA_len (consA_len (fun _ _ _ h => nilA_len h))))))) (oe_one (oe_callC c__law_right (hr.mono (by decide)) (ae_cons (oe_lst de_nil) (ae_cons oe_int (ae_cons oe_int (ae_cons oe_bl (ae_cons (oe_callC c_forced_steps (hr.mono (by decide)) (ae_cons (oe_lst de_nil) (ae_cons oe_int ae_nil)) (consA_len (consA_len (fun _ _ _ h => nilA_len h)))) ae_nil))))) (consA_len (consA_len (consA_len (consA_len (consA_len (fun _ _ _ h => nilA_len h)))))))))))))))⟩
end Ev.W

set_option Elab.async false
set_option linter.all false
set_option maxRecDepth 100000
/-! Ev. M: mirrors are run. -/
set_option autoImplicit false
namespace Ev
open PySem PySem.Spec PyProof.Rows L2

/-- what is asked of a value: as an instance, so that the simplifier leaves it alone -/
class Con (α : Type) where
  p : α → Prop
def OkI {α : Type} (x : Option α) [c : Con α] : Prop := ∃ a, x = some a ∧ c.p a
/-- it gives something, and what it gives is as P says -/
def Ok {α : Type} (x : Option α) (P : α → Prop) : Prop := @OkI α x ⟨P⟩
@[simp ↓] theorem ok_def {α : Type} {x : Option α} {P : α → Prop} : Ok x P = @OkI α x ⟨P⟩ := rfl
@[simp] theorem ok_some {α : Type} {a : α} {P : α → Prop} : @OkI α (some a) ⟨P⟩ = P a := by simp [OkI]
@[simp] theorem ok_none {α : Type} {P : α → Prop} : @OkI α none ⟨P⟩ = False := by simp [OkI]
@[simp] theorem ok_guard {α : Type} {c : Prop} [Decidable c] {x : Option α} {P : α → Prop} : @OkI α (if c then x else none) ⟨P⟩ = (c ∧ Ok x P) := by by_cases h : c <;> simp [OkI, Ok, h]
theorem ok_some' {α : Type} {a : α} {P : α → Prop} : Ok (some a) P = P a := by simp
theorem ok_none' {α : Type} {P : α → Prop} : Ok none P = False := by simp
theorem Ok.imp {α : Type} {x : Option α} {P Q : α → Prop} (h : Ok x P) (w : ∀ a, P a → Q a) : Ok x Q := by obtain ⟨a, e, p⟩ := h; exact ⟨a, e, w a p⟩
theorem Ok.of {α : Type} {x : Option α} {a : α} {P : α → Prop} (h : x = some a) (p : P a) : Ok x P := ⟨a, h, p⟩
theorem Ok.eq {α : Type} {x : Option α} {a : α} (h : Ok x (· = a)) : x = some a := by obtain ⟨b, e, rfl⟩ := h; exact e

@[simp] theorem intsOf_mapf {α : Type} (f : α → Int) : ∀ l : List α, intsOf (l.map fun a => D.int (f a)) = some (l.map f)
  | [] => rfl
  | a :: l => by rw [List.map_cons, intsOf, intsOf_mapf f l]; rfl
@[simp] theorem intsOf_int (l : List Int) : intsOf (l.map D.int) = some l := by have h := intsOf_mapf (fun x => x) l; simpa using h
@[simp] theorem intsOf_nil : intsOf [] = some [] := rfl
@[simp] theorem bolsOf_mapf {α : Type} (f : α → Bool) : ∀ l : List α, bolsOf (l.map fun a => D.bl (f a)) = some (l.map f)
  | [] => rfl
  | a :: l => by rw [List.map_cons, bolsOf, bolsOf_mapf f l]; rfl
theorem toPys_int : ∀ l : List Int, toPys (l.map D.int) = some (l.map PyData.int)
  | [] => by rw [List.map_nil, toPys]; rfl
  | a :: l => by rw [List.map_cons, toPys, toPys_int l]; simp [toPy]
theorem lay_int : ∀ l : List Int, PyData.canLayAll0 (l.map PyData.int) = true
  | [] => by rw [List.map_nil, PyData.canLayAll0]
  | a :: l => by rw [List.map_cons, PyData.canLayAll0, lay_int l]; simp [PyData.canLay0]
theorem dep_int : ∀ l : List Int, PyData.depthAll (l.map PyData.int) = 0
  | [] => by rw [List.map_nil, PyData.depthAll]
  | a :: l => by rw [List.map_cons, PyData.depthAll, dep_int l]; simp [PyData.depth]
theorem eqv_int : ∀ l r : List Int, PyData.eqvAll (l.map PyData.int) (r.map PyData.int) = decide (l = r)
  | [], [] => by simp [PyData.eqvAll]
  | [], _ :: _ => by simp [PyData.eqvAll]
  | _ :: _, [] => by simp [PyData.eqvAll]
  | a :: l, b :: r => by rw [List.map_cons, List.map_cons, PyData.eqvAll, eqv_int l r]; by_cases h : a = b <;> simp [PyData.eqv, h]
theorem eqD_int {a b : Int} : eqD (.int a) (.int b) = some (decide (a = b)) := by
  unfold eqD
  simp only [toPy]
  rw [if_pos ⟨by simp [SeqAt.shaped, PyData.canLay0, PyData.depth], by simp [SeqAt.shaped, PyData.canLay0, PyData.depth]⟩, PyData.eqv]
  by_cases h : a = b <;> simp [h]
theorem eqD_str {a b : Str} (ha : PyData.strOk a = true) (hb : PyData.strOk b = true) : eqD (.str a) (.str b) = some (a == b) := by
  unfold eqD
  simp only [toPy]
  rw [if_pos ⟨by simp [SeqAt.shaped, PyData.canLay0, PyData.depth, ha], by simp [SeqAt.shaped, PyData.canLay0, PyData.depth, hb]⟩, PyData.eqv]
theorem eqD_lst {ds es : List D} {xs ys : List Int} (h : intsOf ds = some xs) (k : intsOf es = some ys) : eqD (.lst ds) (.lst es) = some (decide (xs = ys)) := by
  rw [intsOf_eq h, intsOf_eq k]
  unfold eqD
  simp only [toPy, toPys_int]
  rw [if_pos ⟨by simp [SeqAt.shaped, PyData.canLay0, PyData.depth, lay_int, dep_int], by simp [SeqAt.shaped, PyData.canLay0, PyData.depth, lay_int, dep_int]⟩, PyData.eqv, eqv_int]
theorem eqD_tup {ds es : List D} {xs ys : List Int} (h : intsOf ds = some xs) (k : intsOf es = some ys) : eqD (.tup ds) (.tup es) = some (decide (xs = ys)) := by
  rw [intsOf_eq h, intsOf_eq k]
  unfold eqD
  simp only [toPy, toPys_int]
  rw [if_pos ⟨by simp [SeqAt.shaped, PyData.canLay0, PyData.depth, lay_int, dep_int], by simp [SeqAt.shaped, PyData.canLay0, PyData.depth, lay_int, dep_int]⟩, PyData.eqv, eqv_int]
theorem eqD_bl {a b : Bool} : eqD (.bl a) (.bl b) = some (a == b) := by
  unfold eqD
  simp only [toPy]
  rw [if_pos ⟨by simp [SeqAt.shaped, PyData.canLay0, PyData.depth], by simp [SeqAt.shaped, PyData.canLay0, PyData.depth]⟩, PyData.eqv]
@[simp] theorem eqG_int {a b : Int} : eqG (.int a) (.int b) = some (.val (.bl (decide (a = b)))) := by unfold eqG; rw [eqD_int]
@[simp] theorem neG_int {a b : Int} : neG (.int a) (.int b) = some (.val (.bl (!decide (a = b)))) := by unfold neG; rw [eqD_int]
@[simp] theorem eqG_bl {a b : Bool} : eqG (.bl a) (.bl b) = some (.val (.bl (a == b))) := by unfold eqG; rw [eqD_bl]
@[simp] theorem neG_bl {a b : Bool} : neG (.bl a) (.bl b) = some (.val (.bl (!(a == b)))) := by unfold neG; rw [eqD_bl]
theorem eqG_str {a b : Str} (ha : PyData.strOk a = true) (hb : PyData.strOk b = true) : eqG (.str a) (.str b) = some (.val (.bl (a == b))) := by unfold eqG; rw [eqD_str ha hb]
theorem neG_lst {ds es : List D} {xs ys : List Int} (h : intsOf ds = some xs) (k : intsOf es = some ys) : neG (.lst ds) (.lst es) = some (.val (.bl (!decide (xs = ys)))) := by unfold neG; rw [eqD_lst h k]
theorem neG_tup {ds es : List D} {xs ys : List Int} (h : intsOf ds = some xs) (k : intsOf es = some ys) : neG (.tup ds) (.tup es) = some (.val (.bl (!decide (xs = ys)))) := by unfold neG; rw [eqD_tup h k]
theorem sumG_lst {ds : List D} {xs : List Int} (h : intsOf ds = some xs) : sumG [.lst ds] = some (.val (.int xs.sum)) := by simp [sumG, h, listD]
theorem allG_lst {ds : List D} {xs : List Bool} (h : bolsOf ds = some xs) : allG [.lst ds] = some (.val (.bl (xs.all id))) := by simp [boolsG, h, listD]
theorem minG_lst {ds : List D} {xs : List Int} {k : Int} (h : intsOf ds = some xs) (h2 : minI xs = some k) : minG [.lst ds] = some (.val (.int k)) := by simp [extG, h, h2, listD]
theorem maxG_lst {ds : List D} {xs : List Int} {k : Int} (h : intsOf ds = some xs) (h2 : maxI xs = some k) : maxG [.lst ds] = some (.val (.int k)) := by simp [extG, h, h2, listD]

section
variable {P : Opd × Rho → Prop} {PV : D × Rho → Prop} {PT : Bool × Rho → Prop} {PA : List Opd × Rho → Prop} {PD : List D × Rho → Prop} {PS : Out × Rho → Prop} {PI : List D × Option (Nat × D) × Rho → Prop} {PP : Option Int × Rho → Prop}
variable {ρ : Rho} {m ma mb : EM} {am : AM} {dm : DM} {t u : TM} {s1 s2 : SM} {i j np nl : Nat} {io : List Nat} {g : D → D → Option Opd}

def frzO : Opd → Opd
  | .tmp d => .val d
  | o => o
@[simp] theorem frzO_val (d : D) : frzO (.val d) = .val d := rfl
@[simp] theorem frzO_var : frzO (.var i) = .var i := rfl
@[simp] theorem frzO_tmp (d : D) : frzO (.tmp d) = .val d := rfl
@[simp ↓] theorem ok_frz : @OkI _ (frz m ρ) ⟨P⟩ = Ok (m ρ) fun p => P (frzO p.1, p.2) := by
  unfold frz
  rcases h : m ρ with _ | ⟨o, ρ'⟩
  · simp
  · cases o <;> simp
@[simp ↓] theorem ok_esc : @OkI _ (esc m ρ) ⟨PV⟩ = Ok (m ρ) fun p => Ok (escO p.1 p.2) PV := by
  unfold esc
  rcases h : m ρ with _ | ⟨o, ρ'⟩ <;> simp
@[simp ↓] theorem ok_const {d : D} : @OkI _ (constM d ρ) ⟨P⟩ = P (.val d, ρ) := by simp [constM]
@[simp ↓] theorem ok_bin : @OkI _ (binM g ma mb ρ) ⟨P⟩ = Ok (frz ma ρ) fun p => Ok (frz mb p.2) fun q => Ok (look p.1 q.2) fun d => Ok (look q.1 q.2) fun e => Ok (g d e) fun o => P (o, q.2) := by
  unfold binM
  rcases frz ma ρ with _ | ⟨oa, ρ1⟩
  · simp
  simp only [ok_some']
  rcases frz mb ρ1 with _ | ⟨ob, ρ2⟩
  · simp
  simp only [ok_some']
  rcases look oa ρ2 with _ | d
  · simp
  rcases look ob ρ2 with _ | e
  · simp
  simp only [ok_some']
  rcases g d e with _ | o <;> simp
def bolO : Opd → Option Bool
  | .val (.bl b) => some b
  | _ => none
@[simp] theorem bolO_bl (b : Bool) : bolO (.val (.bl b)) = some b := rfl
@[simp ↓] theorem ok_boolM : @OkI _ (boolM m ρ) ⟨PT⟩ = Ok (m ρ) fun p => Ok (bolO p.1) fun b => PT (b, p.2) := by
  unfold boolM
  rcases m ρ with _ | ⟨o, ρ'⟩
  · simp
  rcases o with d | _ | _
  · cases d <;> simp [bolO]
  · simp [bolO]
  · simp [bolO]
@[simp ↓] theorem ok_truM : @OkI _ (truM m ρ) ⟨PT⟩ = Ok (frz m ρ) fun p => Ok (look p.1 p.2) fun d => Ok (truD d) fun b => PT (b, p.2) := by
  unfold truM
  rcases frz m ρ with _ | ⟨o, ρ'⟩
  · simp
  simp only [ok_some']
  rcases look o ρ' with _ | d
  · simp
  simp only [ok_some']
  rcases truD d with _ | b <;> simp
/-- go on by a truth value -/
def Br (b : Bool) (p q : Prop) : Prop := (b = true → p) ∧ (b = false → q)
@[simp] theorem br_t {p q : Prop} : Br true p q = p := by simp [Br]
@[simp] theorem br_f {p q : Prop} : Br false p q = q := by simp [Br]
theorem br_dec {c : Prop} [Decidable c] {p q : Prop} : Br (decide c) p q = ((c → p) ∧ (¬c → q)) := by simp [Br]
theorem Br.mk {b : Bool} {p q : Prop} (h : b = true → p) (k : b = false → q) : Br b p q := ⟨h, k⟩
@[simp ↓] theorem ok_andM : @OkI _ (andM t u ρ) ⟨PT⟩ = Ok (t ρ) fun p => Br p.1 (Ok (u p.2) PT) (PT (false, p.2)) := by
  unfold andM
  rcases t ρ with _ | ⟨_ | _, ρ'⟩ <;> simp
@[simp ↓] theorem ok_orM : @OkI _ (orM t u ρ) ⟨PT⟩ = Ok (t ρ) fun p => Br p.1 (PT (true, p.2)) (Ok (u p.2) PT) := by
  unfold orM
  rcases t ρ with _ | ⟨_ | _, ρ'⟩ <;> simp
@[simp ↓] theorem ok_notM : @OkI _ (notM t ρ) ⟨PT⟩ = Ok (t ρ) fun p => PT (!p.1, p.2) := by
  unfold notM
  rcases t ρ with _ | ⟨b, ρ'⟩ <;> simp
@[simp ↓] theorem ok_yesM : @OkI _ (yesM ρ) ⟨PT⟩ = PT (true, ρ) := by simp [yesM]
@[simp ↓] theorem ok_ifM : @OkI _ (ifM t ma mb ρ) ⟨P⟩ = Ok (t ρ) fun p => Br p.1 (Ok (ma p.2) P) (Ok (mb p.2) P) := by
  unfold ifM
  rcases t ρ with _ | ⟨_ | _, ρ'⟩ <;> simp
@[simp ↓] theorem ok_andV : @OkI _ (andV ma mb ρ) ⟨P⟩ = Ok (ma ρ) fun p => Ok (bolO p.1) fun b => Br b (Ok (mb p.2) P) (P (.val (.bl false), p.2)) := by
  unfold andV
  rcases ma ρ with _ | ⟨o, ρ'⟩
  · simp
  rcases o with d | _ | _
  · cases d with
    | bl b => cases b <;> simp [bolO]
    | _ => simp [bolO]
  · simp [bolO]
  · simp [bolO]
@[simp ↓] theorem ok_orV : @OkI _ (orV ma mb ρ) ⟨P⟩ = Ok (ma ρ) fun p => Ok (bolO p.1) fun b => Br b (P (.val (.bl true), p.2)) (Ok (mb p.2) P) := by
  unfold orV
  rcases ma ρ with _ | ⟨o, ρ'⟩
  · simp
  rcases o with d | _ | _
  · cases d with
    | bl b => cases b <;> simp [bolO]
    | _ => simp [bolO]
  · simp [bolO]
  · simp [bolO]
@[simp ↓] theorem ok_notV : @OkI _ (notV ma ρ) ⟨P⟩ = Ok (ma ρ) fun p => Ok (bolO p.1) fun b => P (.val (.bl (!b)), p.2) := by
  unfold notV
  rcases ma ρ with _ | ⟨o, ρ'⟩
  · simp
  rcases o with d | _ | _
  · cases d <;> simp [bolO]
  · simp [bolO]
  · simp [bolO]
@[simp ↓] theorem ok_nilA : @OkI _ (nilA ρ) ⟨PA⟩ = PA ([], ρ) := by simp [nilA]
@[simp ↓] theorem ok_consA : @OkI _ (consA m am ρ) ⟨PA⟩ = Ok (frz m ρ) fun p => Ok (am p.2) fun q => PA (p.1 :: q.1, q.2) := by
  unfold consA
  rcases frz m ρ with _ | ⟨o, ρ'⟩
  · simp
  simp only [ok_some']
  rcases am ρ' with _ | ⟨os, ρ2⟩ <;> simp
@[simp ↓] theorem ok_nilD : @OkI _ (nilD ρ) ⟨PD⟩ = PD ([], ρ) := by simp [nilD]
@[simp ↓] theorem ok_consD : @OkI _ (consD m dm ρ) ⟨PD⟩ = Ok (esc m ρ) fun p => Ok (dm p.2) fun q => PD (p.1 :: q.1, q.2) := by
  unfold consD
  rcases esc m ρ with _ | ⟨o, ρ'⟩
  · simp
  simp only [ok_some']
  rcases dm ρ' with _ | ⟨os, ρ2⟩ <;> simp
@[simp ↓] theorem ok_tupM : @OkI _ (tupM dm ρ) ⟨P⟩ = Ok (dm ρ) fun p => p.1.length ≤ sizeLine ∧ P (.val (.tup p.1), p.2) := by
  unfold tupM
  rcases dm ρ with _ | ⟨ds, ρ'⟩
  · simp
  by_cases h : ds.length ≤ sizeLine <;> simp [h]
@[simp ↓] theorem ok_lstM : @OkI _ (lstM dm ρ) ⟨P⟩ = Ok (dm ρ) fun p => p.1.length ≤ sizeLine ∧ P (.tmp (.lst p.1), p.2) := by
  unfold lstM
  rcases dm ρ with _ | ⟨ds, ρ'⟩
  · simp
  by_cases h : ds.length ≤ sizeLine <;> simp [h]
@[simp ↓] theorem ok_biM {f : List D → Option Opd} : @OkI _ (biM f am ρ) ⟨P⟩ = Ok (am ρ) fun p => Ok (looks p.1 p.2) fun ds => Ok (f ds) fun o => P (o, p.2) := by
  unfold biM
  rcases am ρ with _ | ⟨os, ρ'⟩
  · simp
  simp only [ok_some']
  rcases looks os ρ' with _ | ds
  · simp
  simp only [ok_some']
  rcases f ds with _ | o <;> simp
@[simp ↓] theorem ok_isiM {Ts : List String} : @OkI _ (isiM Ts m ρ) ⟨P⟩ = Ok (frz m ρ) fun p => Ok (look p.1 p.2) fun d => Ok (isiD Ts d) fun b => P (.val (.bl b), p.2) := by
  unfold isiM
  rcases frz m ρ with _ | ⟨o, ρ'⟩
  · simp
  simp only [ok_some']
  rcases look o ρ' with _ | d
  · simp
  simp only [ok_some']
  rcases isiD Ts d with _ | b <;> simp
def ownL (i : Nat) (ρ : Rho) : Option (List D) := match ρ[i]? with
  | some (some (.own (.lst ds))) => some ds
  | _ => none
@[simp ↓] theorem ok_methM {f : List D → List D → Option (List D × D)} : @OkI _ (methM i dm f ρ) ⟨P⟩ = Ok (ownL i ρ) fun _ => Ok (dm ρ) fun p => Ok (ownL i p.2) fun ds => Ok (f ds p.1) fun r => P (.val r.2, p.2.set i (some (.own (.lst r.1)))) := by
  unfold methM ownL
  rcases ρ[i]? with _ | _ | sv
  · simp
  · simp
  rcases sv with d | d | d | d
  · simp
  · cases d with
    | lst ds =>
      simp only [ok_some']
      rcases dm ρ with _ | ⟨as, ρ'⟩
      · simp
      simp only [ok_some']
      rcases ρ'[i]? with _ | _ | sv
      · simp
      · simp
      rcases sv with d | d | d | d
      · simp
      · cases d with
        | lst ds2 =>
          simp only [ok_some']
          rcases f ds2 as with _ | r <;> simp
        | _ => simp
      · simp
      · simp
    | _ => simp
  · simp
  · simp
@[simp ↓] theorem ok_noP : @OkI _ (noP ρ) ⟨PP⟩ = PP (none, ρ) := by simp [noP]
def intO : Opd → Option Int
  | .val (.int i) => some i
  | _ => none
@[simp] theorem intO_int (k : Int) : intO (.val (.int k)) = some k := rfl
@[simp ↓] theorem ok_someP : @OkI _ (someP m ρ) ⟨PP⟩ = Ok (m ρ) fun p => Ok (intO p.1) fun k => PP (some k, p.2) := by
  unfold someP
  rcases m ρ with _ | ⟨o, ρ'⟩
  · simp
  rcases o with d | _ | _
  · cases d <;> simp [intO]
  · simp [intO]
  · simp [intO]
@[simp ↓] theorem ok_cutM {lo hi : PM} : @OkI _ (cutM m lo hi ρ) ⟨P⟩ = Ok (frz m ρ) fun p => Ok (lo p.2) fun q => Ok (hi q.2) fun r => Ok (look p.1 r.2) fun d => Ok (cutD d q.1 r.1) fun o => P (o, r.2) := by
  unfold cutM
  rcases frz m ρ with _ | ⟨o, ρ1⟩
  · simp
  simp only [ok_some']
  rcases lo ρ1 with _ | ⟨a, ρ2⟩
  · simp
  simp only [ok_some']
  rcases hi ρ2 with _ | ⟨b, ρ3⟩
  · simp
  simp only [ok_some']
  rcases look o ρ3 with _ | d
  · simp
  simp only [ok_some']
  rcases cutD d a b with _ | r <;> simp
@[simp] theorem isiD_int {Ts : List String} {k : Int} : isiD Ts (.int k) = isiAny "int" Ts := rfl
@[simp] theorem isiD_bl {Ts : List String} {k : Bool} : isiD Ts (.bl k) = isiAny "bool" Ts := rfl
@[simp] theorem isiD_non {Ts : List String} : isiD Ts .non = isiAny "NoneType" Ts := rfl
@[simp] theorem isiD_str {Ts : List String} {k : Str} : isiD Ts (.str k) = isiAny "str" Ts := rfl
@[simp] theorem isiD_tup {Ts : List String} {k : List D} : isiD Ts (.tup k) = isiAny "tuple" Ts := rfl
@[simp] theorem isiD_lst {Ts : List String} {k : List D} : isiD Ts (.lst k) = isiAny "list" Ts := rfl
/-! instances -/
@[simp ↓] theorem ok_fldM {Cs : List Addr} {f : Str} : @OkI _ (fldM Cs f m ρ) ⟨P⟩ = Ok (frz m ρ) fun p => Ok (look p.1 p.2) fun d => Ok (fldD Cs f d) fun e => P (.val e, p.2) := by
  unfold fldM
  rcases frz m ρ with _ | ⟨o, ρ'⟩
  · simp
  simp only [ok_some']
  rcases look o ρ' with _ | d
  · simp
  simp only [ok_some']
  rcases fldD Cs f d with _ | b <;> simp
@[simp] theorem fldD_ins {Cs : List Addr} {f : Str} {C : Addr} {ks : List Str} {ds : List D} : fldD Cs f (.ins C ks ds) = if C ∈ Cs then (ks.zip ds).lookup f else none := rfl
def ownI (Cs : List Addr) (i : Nat) (ρ : Rho) : Option (Addr × List Str × List D) := match ρ[i]? with
  | some (some (.own (.ins C ks ds))) => if C ∈ Cs ∧ ks.length < 1000 then some (C, ks, ds) else none
  | _ => none
def ownIV (Cs : List Addr) : SV → Option (Addr × List Str × List D)
  | .own (.ins C ks ds) => if C ∈ Cs ∧ ks.length < 1000 then some (C, ks, ds) else none
  | _ => none
@[simp] theorem ownIV_ins {Cs : List Addr} {C : Addr} {ks : List Str} {ds : List D} : ownIV Cs (.own (.ins C ks ds)) = if C ∈ Cs ∧ ks.length < 1000 then some (C, ks, ds) else none := rfl
@[simp ↓] theorem ok_ownI {Cs : List Addr} {PO : Addr × List Str × List D → Prop} : @OkI _ (ownI Cs i ρ) ⟨PO⟩ = Ok ρ[i]? fun s => Ok s fun sv => Ok (ownIV Cs sv) PO := by
  unfold ownI ownIV
  rcases h : ρ[i]? with _ | _ | sv
  · simp [h]
  · simp [h]
  cases sv with
  | own d => cases d <;> simp [h]
  | _ => simp [h]
@[simp ↓] theorem ok_makeM {C : Addr} {fn : Fn} : @OkI _ (makeM C fn am ρ) ⟨P⟩ = Ok (am ρ) fun p => Ok (argsAll [] p.2 1 p.1) fun ss => Ok (fn (.own (.ins C [] []) :: ss)) fun q => q.1 = .val .non ∧ ∃ d, q.2[0]? = some (some (.own d)) ∧ P (.tmp d, p.2) := by
  unfold makeM
  rcases am ρ with _ | ⟨os, ρ1⟩
  · simp
  simp only [ok_some']
  rcases argsAll [] ρ1 1 os with _ | ss
  · simp
  simp only [ok_some']
  rcases fn (.own (.ins C [] []) :: ss) with _ | ⟨o, post⟩
  · simp
  cases o with
  | val d =>
    cases d with
    | non =>
      rcases h : post[0]? with _ | _ | sv
      · simp [h]
      · simp [h]
      cases sv <;> simp [h]
    | _ => simp
  | _ => simp
@[simp ↓] theorem ok_methC {C : Addr} {nm : Str} {fn : Fn} : @OkI _ (methC C nm fn io m am ρ) ⟨P⟩ = Ok (frz m ρ) fun p => Ok (look p.1 p.2) fun d => insD C nm d = true ∧ Ok (am p.2) fun q => exclOk io (p.1 :: q.1) = true ∧ Ok (argsAll io q.2 0 (p.1 :: q.1)) fun svs =>
    Ok (fn svs) fun r => Ok (putBack io r.2 0 (p.1 :: q.1) q.2) fun ρ2 => (∀ i, r.1 ≠ .var i) ∧ P (r.1, ρ2) := by
  unfold methC
  rcases frz m ρ with _ | ⟨o, ρ1⟩
  · simp
  simp only [ok_some']
  rcases look o ρ1 with _ | d
  · simp
  simp only [ok_some']
  by_cases hi : insD C nm d = true
  · simp only [hi, if_true, true_and]
    rcases am ρ1 with _ | ⟨os, ρ2⟩
    · simp
    simp only [ok_some']
    by_cases hx : exclOk io (o :: os) = true
    · simp only [hx, if_true, true_and]
      rcases argsAll io ρ2 0 (o :: os) with _ | svs
      · simp
      simp only [ok_some']
      rcases fn svs with _ | ⟨r, post⟩
      · simp
      cases r with
      | val d =>
        simp only [ok_some']
        rcases putBack io post 0 (o :: os) ρ2 with _ | ρ3 <;> simp
      | tmp d =>
        simp only [ok_some']
        rcases putBack io post 0 (o :: os) ρ2 with _ | ρ3 <;> simp
      | var i =>
        simp only [ok_some']
        rcases putBack io post 0 (o :: os) ρ2 with _ | ρ3 <;> simp
    · simp only [hx]; rw [if_neg (by decide), ok_none]; exact propext ⟨False.elim, fun h => nomatch h.1⟩
  · simp only [hi]; rw [if_neg (by decide), ok_none]; exact propext ⟨False.elim, fun h => nomatch h.1⟩
@[simp] theorem insD_ins {C C' : Addr} {nm : Str} {ks : List Str} {ds : List D} : insD C nm (.ins C' ks ds) = (decide (C' = C) && decide (nm ∉ ks) && decide (ks.length = ds.length)) := rfl
@[simp ↓] theorem ok_lrgM : @OkI _ (lrgM m ρ) ⟨P⟩ = Ok (m ρ) fun p => Ok (intO p.1) fun n => (inR n = true ∧ n.toNat ≤ 2 ^ 24) ∧ P (.tmp (.lst (rangeD 0 n.toNat)), p.2) := by
  unfold lrgM
  rcases m ρ with _ | ⟨o, ρ'⟩
  · simp
  cases o with
  | val d =>
    cases d with
    | int n =>
      by_cases h : inR n = true ∧ n.toNat ≤ 2 ^ 24
      · simp only [ok_some', intO]; rw [if_pos h, ok_some]; exact propext ⟨fun p => ⟨h, p⟩, fun p => p.2⟩
      · simp only [ok_some', intO]; rw [if_neg h, ok_none]; exact propext ⟨False.elim, fun p => h p.1⟩
    | _ => simp [intO]
  | _ => simp [intO]
def brO (o : Opd) : Option Bool := match o with
  | .val (.bl b) => some b
  | _ => none
@[simp] theorem brO_bl {b : Bool} : brO (.val (.bl b)) = some b := rfl
@[simp ↓] theorem ok_chnM {g' : D → D → Option Opd} {mc : EM} : @OkI _ (chnM g g' ma mb mc ρ) ⟨P⟩ = Ok (frz ma ρ) fun p => Ok (frz mb p.2) fun q => Ok (look p.1 q.2) fun d => Ok (look q.1 q.2) fun e => Ok (g d e) fun o => Ok (brO o) fun b =>
    Br b (Ok (frz mc q.2) fun r => Ok (look q.1 r.2) fun e' => Ok (look r.1 r.2) fun f => Ok (g' e' f) fun o => P (o, r.2)) (P (.val (.bl false), q.2)) := by
  unfold chnM
  rcases frz ma ρ with _ | ⟨oa, ρ1⟩
  · simp
  simp only [ok_some']
  rcases frz mb ρ1 with _ | ⟨ob, ρ2⟩
  · simp
  simp only [ok_some']
  rcases look oa ρ2 with _ | d
  · simp
  simp only [ok_some']
  rcases look ob ρ2 with _ | e
  · simp
  simp only [ok_some']
  rcases g d e with _ | o
  · simp
  cases o with
  | val d =>
    cases d with
    | bl b =>
      cases b with
      | false => simp
      | true =>
        simp only [ok_some', brO_bl, br_t]
        rcases frz mc ρ2 with _ | ⟨oc, ρ3⟩
        · simp
        simp only [ok_some']
        rcases look ob ρ3 with _ | e'
        · simp
        simp only [ok_some']
        rcases look oc ρ3 with _ | f
        · simp
        simp only [ok_some']
        rcases g' e' f with _ | o <;> simp
    | _ => simp [brO]
  | _ => simp [brO]
@[simp ↓] theorem ok_dnewM : @OkI _ (dnewM ρ) ⟨P⟩ = P (.tmp (.dct [] []), ρ) := by simp [dnewM]
@[simp] theorem keyD_int {k : Int} : keyD (.int k) = some (.inl k) := rfl
@[simp] theorem keyD_str {k : Str} : keyD (.str k) = some (.inr k) := rfl
@[simp ↓] theorem dgetG_dct {ks : List Key} {ds : List D} {k : D} {PO : Opd → Prop} : @OkI _ (dgetG (.dct ks ds) k) ⟨PO⟩ = Ok (keyD k) fun kk => Ok (dlk kk ks ds) fun d => PO (.val d) := by
  unfold dgetG
  dsimp only
  rcases keyD k with _ | kk
  · simp
  simp only [ok_some']
  rcases dlk kk ks ds with _ | d <;> simp
@[simp ↓] theorem dinG_dct {neg : Bool} {ks : List Key} {ds : List D} {k : D} {PO : Opd → Prop} : @OkI _ (dinG neg k (.dct ks ds)) ⟨PO⟩ = Ok (keyD k) fun kk => PO (.val (.bl (if neg then !(dlk kk ks ds).isSome else (dlk kk ks ds).isSome))) := by
  unfold dinG
  dsimp only
  rcases keyD k with _ | kk <;> simp
@[simp ↓] theorem ok_indexM : @OkI _ (indexM m am ρ) ⟨P⟩ = Ok (frz m ρ) fun p => Ok (look p.1 p.2) fun d1 => Ok (listD d1) fun _ => Ok (am p.2) fun q => Ok (look p.1 q.2) fun d2 => Ok (listD d2) fun ds => Ok (looks q.1 q.2) fun ys => ∃ y, ys = [y] ∧ Ok (indexD y ds) fun j => P (.val (.int (j : Nat)), q.2) := by
  unfold indexM
  rcases frz m ρ with _ | ⟨o, ρ1⟩
  · simp
  simp only [ok_some']
  rcases look o ρ1 with _ | d1
  · simp
  simp only [ok_some']
  rcases listD d1 with _ | ds1
  · simp
  simp only [ok_some']
  rcases am ρ1 with _ | ⟨os, ρ2⟩
  · simp
  simp only [ok_some']
  rcases look o ρ2 with _ | d2
  · simp
  simp only [ok_some']
  rcases listD d2 with _ | ds
  · simp
  simp only [ok_some']
  rcases looks os ρ2 with _ | ys
  · simp
  simp only [ok_some']
  rcases ys with _ | ⟨y, _ | ⟨z, r⟩⟩
  · simp
  · rcases h : indexD y ds with _ | j <;> simp [h]
  · simp
/-! how slots are read -/
def rdO (i : Nat) : SV → Opd
  | .val d => .val d
  | _ => .var i
@[simp] theorem rdO_val {d : D} : rdO i (.val d) = .val d := rfl
@[simp] theorem rdO_own {d : D} : rdO i (.own d) = .var i := rfl
@[simp] theorem rdO_bor {d : D} : rdO i (.bor d) = .var i := rfl
@[simp] theorem rdO_lck {d : D} : rdO i (.lck d) = .var i := rfl
@[simp ↓] theorem ok_varM : @OkI _ (varM i ρ) ⟨P⟩ = Ok ρ[i]? fun s => Ok s fun sv => P (rdO i sv, ρ) := by
  unfold varM
  rcases ρ[i]? with _ | _ | sv
  · simp
  · simp
  cases sv <;> simp
def slotD : Option (Option SV) → Option D
  | some (some sv) => some sv.d
  | _ => none
@[simp] theorem slotD_some {sv : SV} : slotD (some (some sv)) = some sv.d := rfl
@[simp] theorem svd_val {d : D} : (SV.val d).d = d := rfl
@[simp] theorem svd_own {d : D} : (SV.own d).d = d := rfl
@[simp] theorem svd_bor {d : D} : (SV.bor d).d = d := rfl
@[simp] theorem svd_lck {d : D} : (SV.lck d).d = d := rfl
@[simp] theorem svo_val {d : D} : (SV.val d).ob = false := rfl
@[simp] theorem svo_own {d : D} : (SV.own d).ob = true := rfl
@[simp] theorem svo_bor {d : D} : (SV.bor d).ob = true := rfl
@[simp] theorem svo_lck {d : D} : (SV.lck d).ob = true := rfl
@[simp] theorem look_val {d : D} : look (.val d) ρ = some d := rfl
@[simp] theorem look_var : look (.var i) ρ = slotD ρ[i]? := by unfold look slotD; rcases h : ρ[i]? with _ | _ | sv <;> simp [h]
@[simp] theorem looks_nil : looks [] ρ = some [] := rfl
@[simp ↓] theorem looks_cons {o : Opd} {os : List Opd} {PL : List D → Prop} : @OkI _ (looks (o :: os) ρ) ⟨PL⟩ = Ok (look o ρ) fun d => Ok (looks os ρ) fun ds => PL (d :: ds) := by
  rw [looks]
  rcases look o ρ with _ | d
  · simp
  simp only [ok_some']
  rcases looks os ρ with _ | ds <;> simp
def escV (i : Nat) (ρ : Rho) : SV → Option (D × Rho)
  | .own d => some (d, ρ.set i (some (.val d)))
  | .val d => some (d, ρ)
  | _ => none
@[simp] theorem escV_own {d : D} : escV i ρ (.own d) = some (d, ρ.set i (some (.val d))) := rfl
@[simp] theorem escV_val {d : D} : escV i ρ (.val d) = some (d, ρ) := rfl
@[simp] theorem escO_val {d : D} : escO (.val d) ρ = some (d, ρ) := rfl
@[simp] theorem escO_tmp {d : D} : escO (.tmp d) ρ = some (d, ρ) := rfl
@[simp ↓] theorem escO_var : @OkI _ (escO (.var i) ρ) ⟨PV⟩ = Ok ρ[i]? fun s => Ok s fun sv => Ok (escV i ρ sv) PV := by
  unfold escO escV
  rcases h : ρ[i]? with _ | _ | sv
  · simp [h]
  · simp [h]
  cases sv <;> simp [h]
@[simp] theorem truD_non : truD .non = some false := rfl
@[simp] theorem truD_bl {b : Bool} : truD (.bl b) = some b := rfl
@[simp] theorem truD_int {k : Int} : truD (.int k) = some (k != 0) := rfl
@[simp] theorem truD_tup {xs : List D} : truD (.tup xs) = some (!xs.isEmpty) := rfl
@[simp] theorem truD_lst {xs : List D} : truD (.lst xs) = some (!xs.isEmpty) := rfl
@[simp] theorem intG_int {c : Int → Int → Bool} {f : Int → Int → Int} {k l : Int} : intG c f (.int k) (.int l) = if c k l then some (.val (.int (f k l))) else none := rfl
@[simp] theorem intB_int {f : Int → Int → Bool} {k l : Int} : intB f (.int k) (.int l) = some (.val (.bl (f k l))) := rfl
@[simp] theorem yes_eq {k l : Int} : yes k l = true := rfl
@[simp] theorem addG_int {k l : Int} : addG (.int k) (.int l) = some (.val (.int (k + l))) := rfl
@[simp] theorem iaddG_int {k l : Int} : iaddG (.int k) (.int l) = some (.val (.int (k + l))) := rfl
@[simp] theorem addG_lst {k l : List D} : addG (.lst k) (.lst l) = if k.length + l.length ≤ sizeLine then some (.tmp (.lst (k ++ l))) else none := rfl
@[simp] theorem mulG_int {k l : Int} : mulG (.int k) (.int l) = if mulOk k l then some (.val (.int (k * l))) else none := rfl
def RepOk (n : Nat) (k : Int) : Prop := -(2 ^ 63) ≤ k ∧ k < 2 ^ 63 ∧ n * k.toNat ≤ sizeLine
@[simp ↓] theorem mulG_lst {xs : List D} {k : Int} {PO : Opd → Prop} : @OkI _ (mulG (.lst xs) (.int k)) ⟨PO⟩ = (RepOk xs.length k ∧ PO (.tmp (.lst (List.replicate k.toNat xs).flatten))) := by
  unfold mulG RepOk
  by_cases h : -(2 ^ 63) ≤ k ∧ k < 2 ^ 63 ∧ xs.length * k.toNat ≤ sizeLine
  · dsimp only; rw [if_pos h, ok_some]; exact propext ⟨fun p => ⟨h, p⟩, fun p => p.2⟩
  · dsimp only; rw [if_neg h, ok_none]; exact propext ⟨fun p => p.elim, fun p => h p.1⟩
theorem repOk_small {n : Nat} {k : Int} (h0 : 0 ≤ k) (h1 : k < 1000) (h2 : n < 1000) : RepOk n k := ⟨by omega, by omega, by
  have : n * k.toNat ≤ 1000 * 1000 := Nat.mul_le_mul (by omega) (by omega)
  unfold sizeLine; omega⟩
@[simp] theorem isG_non {d : D} : isG d .non = some (.val (.bl (isNonD d))) := rfl
@[simp] theorem isnG_non {d : D} : isnG d .non = some (.val (.bl (!isNonD d))) := rfl
@[simp] theorem isNonD_non : isNonD .non = true := rfl
@[simp] theorem isNonD_int {k : Int} : isNonD (.int k) = false := rfl
@[simp ↓] theorem atD_tup {xs : List D} {k : Int} {PO : Opd → Prop} : @OkI _ (atD (.tup xs) (.int k)) ⟨PO⟩ = Ok (ixN xs.length k) fun j => Ok xs[j]? fun d => PO (.val d) := by
  unfold atD atI
  rcases h0 : ixN xs.length k with _ | j
  · simp [h0]
  rcases h : xs[j]? with _ | d <;> simp [h, h0]
@[simp ↓] theorem atD_lst {xs : List D} {k : Int} {PO : Opd → Prop} : @OkI _ (atD (.lst xs) (.int k)) ⟨PO⟩ = Ok (ixN xs.length k) fun j => Ok xs[j]? fun d => PO (.val d) := by
  unfold atD atI
  rcases h0 : ixN xs.length k with _ | j
  · simp [h0]
  rcases h : xs[j]? with _ | d <;> simp [h, h0]
@[simp] theorem ixN_zero {n : Nat} : ixN n 0 = if 0 < n then some 0 else none := by
  unfold ixN; rw [if_pos (by omega)]; by_cases h : 0 < n
  · rw [if_pos h, if_pos (by omega)]; rfl
  · rw [if_neg h, if_neg (by omega)]
@[simp] theorem ixN_one {n : Nat} : ixN n 1 = if 1 < n then some 1 else none := by
  unfold ixN; rw [if_pos (by omega)]; by_cases h : 1 < n
  · rw [if_pos h, if_pos (by omega)]; rfl
  · rw [if_neg h, if_neg (by omega)]
@[simp] theorem ixN_nat {n k : Nat} : ixN n (k : Int) = if k < n then some k else none := by
  unfold ixN; rw [if_pos (by omega)]; by_cases h : k < n
  · rw [if_pos h, if_pos (by omega), Int.toNat_natCast]
  · rw [if_neg h, if_neg (by omega)]
@[simp] theorem ixN_two {n : Nat} : ixN n 2 = if 2 < n then some 2 else none := ixN_nat (k := 2)
@[simp] theorem ixN_three {n : Nat} : ixN n 3 = if 3 < n then some 3 else none := ixN_nat (k := 3)
theorem ixN_pos {n : Nat} {k : Int} (h0 : 0 ≤ k) (h1 : k < n) : ixN n k = some k.toNat := by unfold ixN; rw [if_pos h0, if_pos h1]
@[simp] theorem seqD_lst {xs : List D} : seqD (.lst xs) = some xs := rfl
@[simp] theorem seqD_tup {xs : List D} : seqD (.tup xs) = some xs := rfl
@[simp] theorem seqD_rol {xs : List D} : seqD (.rol xs) = some xs := rfl
@[simp] theorem listD_lst {xs : List D} : listD (.lst xs) = some xs := rfl
@[simp] theorem itemsD_lst {xs : List D} : itemsD (.lst xs) = some xs := rfl
@[simp] theorem itemsD_tup {xs : List D} : itemsD (.tup xs) = some xs := rfl
@[simp] theorem itemsD_rol {xs : List D} : itemsD (.rol xs) = some xs := rfl
@[simp] theorem lenG_lst {xs : List D} : lenG [.lst xs] = some (.val (.int xs.length)) := rfl
@[simp] theorem lenG_tup {xs : List D} : lenG [.tup xs] = some (.val (.int xs.length)) := rfl
@[simp] theorem intFG_int {k : Int} : intFG [.int k] = some (.val (.int k)) := rfl
@[simp] theorem intFG_bl {b : Bool} : intFG [.bl b] = some (.val (.int (if b then 1 else 0))) := rfl
@[simp] theorem absG_int {k : Int} : absG [.int k] = some (.val (.int (if k < 0 then -k else k))) := rfl
@[simp] theorem listG_lst {xs : List D} : listG [.lst xs] = some (.tmp (.lst xs)) := rfl
@[simp] theorem listG_tup {xs : List D} : listG [.tup xs] = some (.tmp (.lst xs)) := rfl
@[simp] theorem tupleG_lst {xs : List D} : tupleG [.lst xs] = some (.val (.tup xs)) := rfl
@[simp] theorem tupleG_tup {xs : List D} : tupleG [.tup xs] = some (.val (.tup xs)) := rfl
@[simp] theorem appendG_one {ds : List D} {d : D} : appendG ds [d] = if ds.length < sizeLine then some (ds ++ [d], .non) else none := rfl
def itI (j : Nat) (ρ : Rho) : SV → Option (List D × Option (Nat × D) × Rho)
  | .val d => match itemsD d with
    | some ds => some (ds, none, ρ)
    | none => none
  | .own d => match seqD d with
    | some ds => some (ds, some (j, d), ρ.set j (some (.lck d)))
    | none => none
  | .bor d => match seqD d with
    | some ds => some (ds, none, ρ)
    | none => none
  | .lck d => match seqD d with
    | some ds => some (ds, none, ρ)
    | none => none
@[simp] theorem itI_lck {xs : List D} : itI j ρ (.lck (.lst xs)) = some (xs, none, ρ) := rfl
@[simp] theorem itI_tup {xs : List D} : itI j ρ (.val (.tup xs)) = some (xs, none, ρ) := rfl
@[simp] theorem itI_lstv {xs : List D} : itI j ρ (.val (.lst xs)) = some (xs, none, ρ) := rfl
@[simp] theorem itI_rol {xs : List D} : itI j ρ (.val (.rol xs)) = some (xs, none, ρ) := rfl
@[simp] theorem itI_own {xs : List D} : itI j ρ (.own (.lst xs)) = some (xs, some (j, .lst xs), ρ.set j (some (.lck (.lst xs)))) := rfl
@[simp] theorem itI_bor {xs : List D} : itI j ρ (.bor (.lst xs)) = some (xs, none, ρ) := rfl
@[simp] theorem unlock_none : unlock none ρ = some ρ := rfl
def unlV (j : Nat) (d : D) (ρ : Rho) : SV → Option Rho
  | .lck _ => some (ρ.set j (some (.own d)))
  | _ => none
@[simp] theorem unlV_lck {d e : D} : unlV j d ρ (.lck e) = some (ρ.set j (some (.own d))) := rfl
@[simp ↓] theorem unlock_some {d : D} {PR : Rho → Prop} : @OkI _ (unlock (some (j, d)) ρ) ⟨PR⟩ = Ok ρ[j]? fun s => Ok s fun sv => Ok (unlV j d ρ sv) PR := by
  unfold unlock unlV
  rcases h : ρ[j]? with _ | _ | sv
  · simp [h]
  · simp [h]
  cases sv <;> simp [h]
def retV (np : Nat) (io : List Nat) (i : Nat) (ρ : Rho) : SV → Option (Opd × Rho)
  | .own d => if np ≤ i then some (.tmp d, keepIO io ρ np) else some (.val d, keepIO io (ρ.set i (some (.val d))) np)
  | .val d => some (.val d, keepIO io ρ np)
  | _ => none
@[simp] theorem retV_own {d : D} : retV np io i ρ (.own d) = if np ≤ i then some (.tmp d, keepIO io ρ np) else some (.val d, keepIO io (ρ.set i (some (.val d))) np) := rfl
@[simp] theorem retV_val {d : D} : retV np io i ρ (.val d) = some (.val d, keepIO io ρ np) := rfl
@[simp] theorem retF_val {d : D} : retF np io (.val d) ρ = some (.val d, keepIO io ρ np) := rfl
@[simp] theorem retF_tmp {d : D} : retF np io (.tmp d) ρ = some (.tmp d, keepIO io ρ np) := rfl
@[simp ↓] theorem retF_var : @OkI _ (retF np io (.var i) ρ) ⟨P⟩ = Ok ρ[i]? fun s => Ok s fun sv => Ok (retV np io i ρ sv) P := by
  unfold retF retV
  rcases h : ρ[i]? with _ | _ | sv
  · simp [h]
  · simp [h]
  cases sv <;> simp [h]
@[simp] theorem argsAll_nil {k : Nat} : argsAll io ρ k [] = some [] := rfl
@[simp ↓] theorem argsAll_cons {k : Nat} {o : Opd} {os : List Opd} {PL : List SV → Prop} : @OkI _ (argsAll io ρ k (o :: os)) ⟨PL⟩ = Ok (argOne (decide (k ∈ io)) o ρ) fun s => Ok (argsAll io ρ (k + 1) os) fun ss => PL (s :: ss) := by
  rw [argsAll]
  rcases argOne (decide (k ∈ io)) o ρ with _ | s
  · simp
  simp only [ok_some']
  rcases argsAll io ρ (k + 1) os with _ | ss <;> simp
@[simp] theorem argOne_val {b : Bool} {d : D} : argOne b (.val d) ρ = if b then none else some (.val d) := rfl
def argV (b : Bool) : SV → Option SV
  | .val d => if b then none else some (.val d)
  | .own d => if b then some (.own d) else some (.bor d)
  | .bor d => if b then none else some (.bor d)
  | .lck d => if b then none else some (.bor d)
@[simp] theorem argV_own {b : Bool} {d : D} : argV b (.own d) = if b then some (.own d) else some (.bor d) := rfl
@[simp] theorem argV_bor {b : Bool} {d : D} : argV b (.bor d) = if b then none else some (.bor d) := rfl
@[simp] theorem argV_lck {b : Bool} {d : D} : argV b (.lck d) = if b then none else some (.bor d) := rfl
@[simp] theorem argV_val {b : Bool} {d : D} : argV b (.val d) = if b then none else some (.val d) := rfl
@[simp ↓] theorem argOne_var {b : Bool} {PV : SV → Prop} : @OkI _ (argOne b (.var i) ρ) ⟨PV⟩ = Ok ρ[i]? fun s => Ok s fun sv => Ok (argV b sv) PV := by
  unfold argOne argV
  rcases h : ρ[i]? with _ | _ | sv
  · simp [h]
  · simp [h]
  cases sv <;> simp [h]
@[simp] theorem putBack_nil {post : Rho} {k : Nat} : putBack io post k [] ρ = some ρ := rfl
def putO (o : Opd) (s : Option (Option SV)) (ρ : Rho) : Option Rho := match o, s with
  | .var i, some (some (.own d)) => some (ρ.set i (some (.own d)))
  | .var i, some (some (.val d)) => some (ρ.set i (some (.val d)))
  | _, _ => none
@[simp] theorem putO_own {d : D} : putO (.var i) (some (some (.own d))) ρ = some (ρ.set i (some (.own d))) := rfl
@[simp] theorem putO_val {d : D} : putO (.var i) (some (some (.val d))) ρ = some (ρ.set i (some (.val d))) := rfl
@[simp ↓] theorem putBack_cons {post : Rho} {k : Nat} {o : Opd} {os : List Opd} {PR : Rho → Prop} : @OkI _ (putBack io post k (o :: os) ρ) ⟨PR⟩ = Br (decide (k ∈ io)) (Ok (putO o post[k]? ρ) fun ρ' => Ok (putBack io post (k + 1) os ρ') PR) (Ok (putBack io post (k + 1) os ρ) PR) := by
  conv => lhs; unfold putBack
  by_cases h : k ∈ io
  · simp only [h, if_true, decide_true, br_t]
    unfold putO
    cases o with
    | var i =>
      rcases h2 : post[k]? with _ | _ | sv
      · simp [h2]
      · simp [h2]
      cases sv <;> simp [h2]
    | _ => simp
  · simp [h]
@[simp ↓] theorem ok_fldS {Cs : List Addr} {f : Str} : @OkI _ (fldS Cs i f m ρ) ⟨PS⟩ = Ok (esc m ρ) fun p => Ok (ownI Cs i p.2) fun t => PS (.nx, p.2.set i (some (.own (.ins t.1 (putK f t.2.1) (putA f p.1 t.2.1 t.2.2))))) := by
  unfold fldS ownI
  rcases esc m ρ with _ | ⟨d, ρ1⟩
  · simp
  simp only [ok_some']
  rcases ρ1[i]? with _ | _ | sv
  · simp
  · simp
  cases sv with
  | own e =>
    cases e with
    | ins C ks ds =>
      by_cases h : C ∈ Cs ∧ ks.length < 1000
      · dsimp only; rw [if_pos h, if_pos h, ok_some, ok_some']
      · dsimp only; rw [if_neg h, if_neg h, ok_none, ok_none']
    | _ => simp
  | _ => simp
def anyL (i : Nat) (ρ : Rho) : Option Unit := match ρ[i]? with
  | some (some _) => some ()
  | _ => none
def valL (i : Nat) (ρ : Rho) : Option D := match ρ[i]? with
  | some (some (.val d)) => some d
  | _ => none
def ownV : SV → Option (List D)
  | .own (.lst ds) => some ds
  | _ => none
@[simp] theorem ownV_own {ds : List D} : ownV (.own (.lst ds)) = some ds := rfl
@[simp ↓] theorem ok_ownL {PO : List D → Prop} : @OkI _ (ownL i ρ) ⟨PO⟩ = Ok ρ[i]? fun s => Ok s fun sv => Ok (ownV sv) PO := by
  unfold ownL ownV
  rcases h : ρ[i]? with _ | _ | sv
  · simp [h]
  · simp [h]
  cases sv with
  | own d => simp only [h, ok_some']; cases d <;> rfl
  | _ => simp [h]
def anyV (_ : SV) : Option Unit := some ()
@[simp] theorem anyV_eq {sv : SV} : anyV sv = some () := rfl
@[simp ↓] theorem ok_anyL {PO : Unit → Prop} : @OkI _ (anyL i ρ) ⟨PO⟩ = Ok ρ[i]? fun s => Ok s fun sv => PO () := by
  unfold anyL
  rcases h : ρ[i]? with _ | _ | sv <;> simp [h]
def valV : SV → Option D
  | .val d => some d
  | _ => none
@[simp] theorem valV_val {d : D} : valV (.val d) = some d := rfl
@[simp ↓] theorem ok_valL {PO : D → Prop} : @OkI _ (valL i ρ) ⟨PO⟩ = Ok ρ[i]? fun s => Ok s fun sv => Ok (valV sv) PO := by
  unfold valL valV
  rcases h : ρ[i]? with _ | _ | sv
  · simp [h]
  · simp [h]
  cases sv <;> simp [h]
/-! statements -/
@[simp ↓] theorem ok_nextM : @OkI _ (nextM ρ) ⟨PS⟩ = PS (.nx, ρ) := by simp [nextM]
@[simp ↓] theorem ok_breakM : @OkI _ (breakM ρ) ⟨PS⟩ = PS (.bk, ρ) := by simp [breakM]
@[simp ↓] theorem ok_contM : @OkI _ (contM ρ) ⟨PS⟩ = PS (.ct, ρ) := by simp [contM]
def seqK (s2 : SM) (PS : Out × Rho → Prop) : Out × Rho → Prop
  | (.nx, ρ) => Ok (s2 ρ) PS
  | p => PS p
@[simp ↓] theorem seqK_nx : seqK s2 PS (.nx, ρ) = Ok (s2 ρ) PS := rfl
@[simp ↓] theorem seqK_rt {o : Opd} : seqK s2 PS (.rt o, ρ) = PS (.rt o, ρ) := rfl
@[simp ↓] theorem seqK_bk : seqK s2 PS (.bk, ρ) = PS (.bk, ρ) := rfl
@[simp ↓] theorem seqK_ct : seqK s2 PS (.ct, ρ) = PS (.ct, ρ) := rfl
@[simp ↓] theorem ok_seqM : @OkI _ (seqM s1 s2 ρ) ⟨PS⟩ = Ok (s1 ρ) (seqK s2 PS) := by
  unfold seqM
  rcases s1 ρ with _ | ⟨o, ρ'⟩
  · simp
  cases o <;> simp [seqK]
@[simp ↓] theorem ok_exprM : @OkI _ (exprM m ρ) ⟨PS⟩ = Ok (m ρ) fun p => PS (.nx, p.2) := by
  unfold exprM
  rcases m ρ with _ | ⟨o, ρ'⟩ <;> simp
@[simp ↓] theorem ok_retM : @OkI _ (retM m ρ) ⟨PS⟩ = Ok (m ρ) fun p => PS (.rt p.1, p.2) := by
  unfold retM
  rcases m ρ with _ | ⟨o, ρ'⟩ <;> simp
@[simp ↓] theorem ok_ifS : @OkI _ (ifS t s1 s2 ρ) ⟨PS⟩ = Ok (t ρ) fun p => Br p.1 (Ok (s1 p.2) PS) (Ok (s2 p.2) PS) := by
  unfold ifS
  rcases t ρ with _ | ⟨_ | _, ρ'⟩ <;> simp
def setO (i : Nat) (o : Opd) (ρ : Rho) : Option Rho := match o with
  | .tmp d => some (ρ.set i (some (.own d)))
  | .val d => some (ρ.set i (some (.val d)))
  | .var j => match escO (.var j) ρ with
    | some (d, ρ2) => some (ρ2.set i (some (.val d)))
    | none => none
@[simp] theorem setO_tmp {d : D} : setO i (.tmp d) ρ = some (ρ.set i (some (.own d))) := rfl
@[simp] theorem setO_val {d : D} : setO i (.val d) ρ = some (ρ.set i (some (.val d))) := rfl
@[simp ↓] theorem setO_var {j : Nat} {PR : Rho → Prop} : @OkI _ (setO i (.var j) ρ) ⟨PR⟩ = Ok (escO (.var j) ρ) fun p => PR (p.2.set i (some (.val p.1))) := by
  have e : setO i (.var j) ρ = match escO (.var j) ρ with
    | some (d, ρ2) => some (ρ2.set i (some (.val d)))
    | none => none := rfl
  rw [e]
  rcases h : escO (.var j) ρ with _ | ⟨d, ρ2⟩ <;> simp only [ok_some, ok_none, ok_def]
@[simp ↓] theorem ok_setM : @OkI _ (setM i m ρ) ⟨PS⟩ = Ok (m ρ) fun p => Ok (setO i p.1 p.2) fun ρ2 => PS (.nx, ρ2) := by
  unfold setM
  rcases m ρ with _ | ⟨o, ρ'⟩
  · simp
  cases o with
  | tmp d => simp [setO]
  | val d => simp [setO, escO]
  | var j =>
    simp only [ok_some', setO]
    rcases escO (.var j) ρ' with _ | ⟨d, ρ2⟩ <;> simp
@[simp ↓] theorem ok_asgM {gg : D → Rho → Option Rho} : @OkI _ (asgM gg m ρ) ⟨PS⟩ = Ok (esc m ρ) fun p => Ok (gg p.1 p.2) fun ρ2 => PS (.nx, ρ2) := by
  unfold asgM
  rcases esc m ρ with _ | ⟨d, ρ'⟩
  · simp
  simp only [ok_some']
  rcases gg d ρ' with _ | ρ2 <;> simp
def valO : Opd → Option D
  | .val d => some d
  | _ => none
@[simp] theorem valO_val (d : D) : valO (.val d) = some d := rfl
@[simp ↓] theorem ok_augM : @OkI _ (augM i g m ρ) ⟨PS⟩ = Ok (valL i ρ) fun d => Ok (frz m ρ) fun p => Ok (look p.1 p.2) fun e => Ok (g d e) fun o => Ok (valO o) fun r => PS (.nx, p.2.set i (some (.val r))) := by
  unfold augM valL
  rcases ρ[i]? with _ | _ | sv
  · simp
  · simp
  rcases sv with d | d | d | d
  · simp only [ok_some']
    rcases frz m ρ with _ | ⟨o, ρ1⟩
    · simp
    simp only [ok_some']
    rcases look o ρ1 with _ | e
    · simp
    simp only [ok_some']
    rcases g d e with _ | o
    · simp
    cases o <;> simp [valO]
  · simp
  · simp
  · simp
@[simp ↓] theorem ok_putM {mi : EM} : @OkI _ (putM i mi m ρ) ⟨PS⟩ = Ok (esc m ρ) fun p => Ok (anyL i p.2) fun _ => Ok (frz mi p.2) fun q => Ok (intO q.1) fun k => Ok (ownL i q.2) fun ds => Ok (ixN ds.length k) fun j => PS (.nx, q.2.set i (some (.own (.lst (ds.set j p.1))))) := by
  unfold putM anyL
  rcases esc m ρ with _ | ⟨d, ρ1⟩
  · simp
  simp only [ok_some']
  rcases ρ1[i]? with _ | _ | sv
  · simp
  · simp
  simp only [ok_some']
  rcases frz mi ρ1 with _ | ⟨o, ρ2⟩
  · simp
  rcases o with e | e | e
  · cases e with
    | int k =>
      simp only [ok_some', intO]
      unfold ownL
      rcases ρ2[i]? with _ | _ | sv
      · simp
      · simp
      rcases sv with d' | d' | d' | d'
      · simp
      · cases d' with
        | lst ds =>
          simp only [ok_some']
          rcases ixN ds.length k with _ | j <;> simp
        | _ => simp
      · simp
      · simp
    | _ => simp [intO]
  · simp [intO]
  · simp [intO]
@[simp ↓] theorem ok_augAtM {mi : EM} : @OkI _ (augAtM i mi g m ρ) ⟨PS⟩ = Ok (anyL i ρ) fun _ => Ok (frz mi ρ) fun p => Ok (intO p.1) fun k => Ok (ownL i p.2) fun ds => 0 ≤ k ∧ Ok ds[k.toNat]? fun old => Ok (frz m p.2) fun q => Ok (look q.1 q.2) fun e => Ok (g old e) fun o => Ok (valO o) fun r =>
    Ok (ownL i q.2) fun ds2 => k.toNat < ds2.length ∧ PS (.nx, q.2.set i (some (.own (.lst (ds2.set k.toNat r))))) := by
  unfold augAtM anyL
  rcases ρ[i]? with _ | _ | sv
  · simp
  · simp
  simp only [ok_some']
  rcases frz mi ρ with _ | ⟨o, ρ2⟩
  · simp
  rcases o with e | e | e
  · cases e with
    | int k =>
      simp only [ok_some', intO]
      unfold ownL
      rcases ρ2[i]? with _ | _ | sv
      · simp
      · simp
      rcases sv with d' | d' | d' | d'
      · simp
      · cases d' with
        | lst ds =>
          simp only [ok_some']
          by_cases hk : 0 ≤ k
          · simp only [hk, if_true, true_and]
            rcases ds[k.toNat]? with _ | old
            · simp
            simp only [ok_some']
            rcases frz m ρ2 with _ | ⟨o, ρ3⟩
            · simp
            simp only [ok_some']
            rcases look o ρ3 with _ | e
            · simp
            simp only [ok_some']
            rcases g old e with _ | o
            · simp
            cases o with
            | val r =>
              simp only [ok_some', valO]
              rcases ρ3[i]? with _ | _ | sv
              · simp
              · simp
              rcases sv with d' | d' | d' | d'
              · simp
              · cases d' with
                | lst ds2 =>
                  simp only [ok_some']
                  by_cases hl : k.toNat < ds2.length <;> simp [hl]
                | _ => simp
              · simp
              · simp
            | _ => simp [valO]
          · simp [hk]
        | _ => simp
      · simp
      · simp
    | _ => simp [intO]
  · simp [intO]
  · simp [intO]
def forE (lk : Option (Nat × D)) (PS : Out × Rho → Prop) : Out × Rho → Prop := fun q => Ok (unlock lk q.2) fun ρ3 => PS (q.1, ρ3)
@[simp ↓] theorem forE_app {lk : Option (Nat × D)} {q : Out × Rho} : forE lk PS q = Ok (unlock lk q.2) fun ρ3 => PS (q.1, ρ3) := rfl
@[simp ↓] theorem ok_forM {it : IM} {gg : D → Rho → Option Rho} : @OkI _ (forM it gg s1 ρ) ⟨PS⟩ = Ok (it ρ) fun p => Ok (forL gg s1 p.1 p.2.2) (forE p.2.1 PS) := by
  unfold forM
  rcases it ρ with _ | ⟨ds, lk, ρ1⟩
  · simp
  simp only [ok_some']
  rcases forL gg s1 ds ρ1 with _ | ⟨out, ρ2⟩
  · simp
  simp only [ok_some']
  rw [forE]
  rcases unlock lk ρ2 with _ | ρ3 <;> simp
@[simp ↓] theorem ok_compM {vs : List Nat} {it : IM} {gg : D → Rho → Option Rho} {el : VM} : @OkI _ (compM vs it gg t el ρ) ⟨P⟩ = Ok (it ρ) fun p => bare p.2.2 vs = true ∧ Ok (compL vs gg t el p.1 [] (wipeR p.2.2 vs)) fun q => Ok (unlock p.2.1 (backR p.2.2 q.2 vs)) fun ρ3 => P (.tmp (.lst q.1), ρ3) := by
  unfold compM
  rcases it ρ with _ | ⟨ds, lk, ρ1⟩
  · simp
  simp only [ok_some']
  by_cases hb : bare ρ1 vs = true
  · simp only [hb, if_true, true_and]
    rcases compL vs gg t el ds [] (wipeR ρ1 vs) with _ | ⟨acc, ρ2⟩
    · simp
    simp only [ok_some']
    rcases unlock lk (backR ρ1 ρ2 vs) with _ | ρ3 <;> simp
  · simp only [hb]; rw [if_neg (by decide), ok_none]; exact propext ⟨False.elim, fun h => nomatch h.1⟩
def int1 : List D → Option Int
  | [.int k] => some k
  | _ => none
def int2 : List D → Option (Int × Int)
  | [.int k, .int l] => some (k, l)
  | _ => none
@[simp] theorem int1_int (k : Int) : int1 [.int k] = some k := rfl
@[simp] theorem int2_int (k l : Int) : int2 [.int k, .int l] = some (k, l) := rfl
@[simp ↓] theorem ok_rng1 : @OkI _ (rng1 dm ρ) ⟨PI⟩ = Ok (dm ρ) fun p => Ok (int1 p.1) fun k => inR k = true ∧ PI (rangeD 0 k.toNat, none, p.2) := by
  unfold rng1
  rcases dm ρ with _ | ⟨ds, ρ'⟩
  · simp
  rcases ds with _ | ⟨d, _ | ⟨e, r⟩⟩
  · simp [int1]
  · cases d with
    | int k => by_cases h : inR k = true <;> simp [h]
    | _ => simp [int1]
  · cases d <;> simp [int1]
@[simp ↓] theorem ok_nameI : @OkI _ (nameI j ρ) ⟨PI⟩ = Ok ρ[j]? fun s => Ok s fun sv => Ok (itI j ρ sv) PI := by
  unfold nameI itI
  rcases h : ρ[j]? with _ | _ | sv
  · simp [h]
  · simp [h]
  cases sv with
  | val d => simp only [h, ok_some']; cases itemsD d <;> rfl
  | own d => simp only [h, ok_some']; cases seqD d <;> rfl
  | bor d => simp only [h, ok_some']; cases seqD d <;> rfl
  | lck d => simp only [h, ok_some']; cases seqD d <;> rfl
@[simp ↓] theorem ok_rng2 : @OkI _ (rng2 dm ρ) ⟨PI⟩ = Ok (dm ρ) fun p => Ok (int2 p.1) fun k => (inR k.1 && inR k.2) = true ∧ PI (rangeD k.1 (k.2 - k.1).toNat, none, p.2) := by
  unfold rng2
  rcases dm ρ with _ | ⟨ds, ρ'⟩
  · simp
  rcases ds with _ | ⟨d, _ | ⟨e, _ | ⟨f, r⟩⟩⟩
  · simp [int2]
  · cases d <;> simp [int2]
  · cases d with
    | int k => cases e with
      | int l => by_cases h1 : inR k = true <;> by_cases h2 : inR l = true <;> simp [h1, h2]
      | _ => simp [int2]
    | _ => cases e <;> simp [int2]
  · cases d <;> cases e <;> simp [int2]
@[simp ↓] theorem ok_seqI0 : @OkI _ (seqI0 m ρ) ⟨PI⟩ = Ok (frz m ρ) fun p => Ok (valO p.1) fun d => Ok (itemsD d) fun ds => PI (ds, none, p.2) := by
  unfold seqI0
  rcases frz m ρ with _ | ⟨o, ρ'⟩
  · simp
  cases o with
  | val d =>
    simp only [ok_some', valO]
    rcases itemsD d with _ | ds <;> simp
  | _ => simp [valO]
def endF (np : Nat) (io : List Nat) : Out × Rho → Option (Opd × Rho)
  | (.rt o, ρ) => retF np io o ρ
  | (.nx, ρ) => some (.val .non, keepIO io ρ np)
  | _ => none
@[simp] theorem endF_rt {o : Opd} : endF np io (.rt o, ρ) = retF np io o ρ := rfl
@[simp] theorem endF_nx : endF np io (.nx, ρ) = some (.val .non, keepIO io ρ np) := rfl
def endK (np : Nat) (io : List Nat) (P : Opd × Rho → Prop) : Out × Rho → Prop := fun p => Ok (endF np io p) P
@[simp ↓] theorem endK_rt {o : Opd} : endK np io P (.rt o, ρ) = Ok (retF np io o ρ) P := rfl
@[simp ↓] theorem endK_nx : endK np io P (.nx, ρ) = P (.val .non, keepIO io ρ np) := by simp [endK]
theorem ok_fnM {args : List SV} : Ok (fnM np nl io s1 args) P = Ok (s1 (args.map some ++ List.replicate nl none)) (endK np io P) := by
  unfold fnM endK
  rcases s1 (args.map some ++ List.replicate nl none) with _ | ⟨o, ρ'⟩
  · simp
  cases o <;> simp [endF]
@[simp ↓] theorem ok_callM {fn : Fn} : @OkI _ (callM fn io am ρ) ⟨P⟩ = Ok (am ρ) fun p => exclOk io p.1 = true ∧ Ok (argsAll io p.2 0 p.1) fun svs => Ok (fn svs) fun q => Ok (putBack io q.2 0 p.1 p.2) fun ρ2 => (∀ i, q.1 ≠ .var i) ∧ P (q.1, ρ2) := by
  unfold callM
  rcases am ρ with _ | ⟨os, ρ1⟩
  · simp
  simp only [ok_some']
  by_cases hx : exclOk io os = true
  · simp only [hx, if_true, true_and]
    rcases argsAll io ρ1 0 os with _ | svs
    · simp
    simp only [ok_some']
    rcases fn svs with _ | ⟨o, post⟩
    · simp
    cases o with
    | val d =>
      simp only [ok_some']
      rcases putBack io post 0 os ρ1 with _ | ρ2 <;> simp
    | tmp d =>
      simp only [ok_some']
      rcases putBack io post 0 os ρ1 with _ | ρ2 <;> simp
    | var i =>
      simp only [ok_some']
      rcases putBack io post 0 os ρ1 with _ | ρ2 <;> simp
  · simp only [hx]; rw [if_neg (by decide), ok_none]; exact propext ⟨False.elim, fun h => nomatch h.1⟩
/-! loops -/
theorem forL_nil {gg : D → Rho → Option Rho} : Ok (forL gg s1 [] ρ) PS = PS (.nx, ρ) := by simp [forL]
def forK (gg : D → Rho → Option Rho) (s : SM) (ds : List D) (PS : Out × Rho → Prop) : Out × Rho → Prop
  | (.nx, ρ) => Ok (forL gg s ds ρ) PS
  | (.ct, ρ) => Ok (forL gg s ds ρ) PS
  | (.bk, ρ) => PS (.nx, ρ)
  | (.rt o, ρ) => PS (.rt o, ρ)
@[simp ↓] theorem forK_nx {gg : D → Rho → Option Rho} {ds : List D} : forK gg s1 ds PS (.nx, ρ) = Ok (forL gg s1 ds ρ) PS := rfl
@[simp ↓] theorem forK_ct {gg : D → Rho → Option Rho} {ds : List D} : forK gg s1 ds PS (.ct, ρ) = Ok (forL gg s1 ds ρ) PS := rfl
@[simp ↓] theorem forK_bk {gg : D → Rho → Option Rho} {ds : List D} : forK gg s1 ds PS (.bk, ρ) = PS (.nx, ρ) := rfl
@[simp ↓] theorem forK_rt {gg : D → Rho → Option Rho} {ds : List D} {o : Opd} : forK gg s1 ds PS (.rt o, ρ) = PS (.rt o, ρ) := rfl
theorem forL_cons {gg : D → Rho → Option Rho} {d : D} {ds : List D} : Ok (forL gg s1 (d :: ds) ρ) PS = Ok (gg d ρ) fun ρ1 => Ok (s1 ρ1) (forK gg s1 ds PS) := by
  rw [forL]
  rcases gg d ρ with _ | ρ1
  · simp
  simp only [ok_some']
  rcases s1 ρ1 with _ | ⟨o, ρ2⟩
  · simp
  cases o <;> simp [forK]
@[simp] theorem ex2 {α β : Sort _} {x : α} {y : β} {p : α → β → Prop} : (∃ a b, (x = a ∧ y = b) ∧ p a b) ↔ p x y := ⟨fun ⟨_, _, ⟨rfl, rfl⟩, h⟩ => h, fun h => ⟨_, _, ⟨rfl, rfl⟩, h⟩⟩
@[simp] theorem ex3 {α β γ : Sort _} {x : α} {y : β} {z : γ} {p : α → β → γ → Prop} : (∃ a b c, (x = a ∧ y = b ∧ z = c) ∧ p a b c) ↔ p x y z := ⟨fun ⟨_, _, _, ⟨rfl, rfl, rfl⟩, h⟩ => h, fun h => ⟨_, _, _, ⟨rfl, rfl, rfl⟩, h⟩⟩
@[simp] theorem ex4 {α β γ δ : Sort _} {x : α} {y : β} {z : γ} {u : δ} {p : α → β → γ → δ → Prop} : (∃ a b c d, (x = a ∧ y = b ∧ z = c ∧ u = d) ∧ p a b c d) ↔ p x y z u := ⟨fun ⟨_, _, _, _, ⟨rfl, rfl, rfl, rfl⟩, h⟩ => h, fun h => ⟨_, _, _, _, ⟨rfl, rfl, rfl, rfl⟩, h⟩⟩
theorem forL_nilI {gg : D → Rho → Option Rho} : @OkI _ (forL gg s1 [] ρ) ⟨PS⟩ = PS (.nx, ρ) := forL_nil
theorem forL_consI {gg : D → Rho → Option Rho} {d : D} {ds : List D} : @OkI _ (forL gg s1 (d :: ds) ρ) ⟨PS⟩ = Ok (gg d ρ) fun ρ1 => Ok (s1 ρ1) (forK gg s1 ds PS) := forL_cons
/-- over a list: I k ρ holds ahead of turn k -/
theorem forL_inv {gg : D → Rho → Option Rho} (I : Nat → Rho → Prop) : ∀ (ds : List D) (k : Nat) (ρ : Rho), I k ρ →
    (∀ k' d ρ, ds[k' - k]? = some d → k ≤ k' → I k' ρ → Ok (gg d ρ) fun ρ1 => Ok (s1 ρ1) fun p => (p.1 = .nx ∨ p.1 = .ct) ∧ I (k' + 1) p.2 ∨ (p.1 = .bk ∧ PS (.nx, p.2)) ∨ ((∃ o, p.1 = .rt o) ∧ PS p)) →
    (∀ ρ, I (k + ds.length) ρ → PS (.nx, ρ)) → Ok (forL gg s1 ds ρ) PS
  | [], k, ρ, h, _, w => by rw [forL_nil]; exact w _ h
  | d :: ds, k, ρ, h, st, w => by
    rw [forL_cons]
    refine (st k d ρ (by simp) (Nat.le_refl k) h).imp fun ρ1 h1 => h1.imp fun p hp => ?_
    obtain ⟨out, ρ2⟩ := p
    have more : I (k + 1) ρ2 → Ok (forL gg s1 ds ρ2) PS := fun h2 => forL_inv I ds (k + 1) ρ2 h2
      (fun k' d' ρ' e le => st k' d' ρ' (by rw [show k' - k = (k' - (k + 1)) + 1 by omega, List.getElem?_cons_succ]; exact e) (by omega))
      (fun ρ' hi => w ρ' (by rw [List.length_cons]; rw [show k + (ds.length + 1) = k + 1 + ds.length by omega]; exact hi))
    rcases hp with ⟨h2, h3⟩ | ⟨h2, h3⟩ | ⟨⟨o, h2⟩, h3⟩
    · rcases h2 with h2 | h2 <;> (dsimp at h2; subst h2; exact more h3)
    · dsimp at h2; subst h2; exact h3
    · dsimp at h2; subst h2; exact h3
theorem for_inv {gg : D → Rho → Option Rho} (I : Nat → Rho → Prop) {ds : List D} {ρ : Rho} (h : I 0 ρ)
    (st : ∀ k d ρ, ds[k]? = some d → k < ds.length → I k ρ → Ok (gg d ρ) fun ρ1 => Ok (s1 ρ1) fun p => (p.1 = .nx ∨ p.1 = .ct) ∧ I (k + 1) p.2 ∨ (p.1 = .bk ∧ PS (.nx, p.2)) ∨ ((∃ o, p.1 = .rt o) ∧ PS p))
    (w : ∀ ρ, I ds.length ρ → PS (.nx, ρ)) : Ok (forL gg s1 ds ρ) PS :=
  forL_inv I ds 0 ρ h (fun k d ρ e _ hi => st k d ρ e (by have := (List.getElem?_eq_some_iff.1 e).1; omega) hi) (fun ρ hi => w ρ (by rwa [Nat.zero_add] at hi))
/-- .. no break, no return -/
theorem for_nx {gg : D → Rho → Option Rho} (I : Nat → Rho → Prop) {ds : List D} {ρ : Rho} (h : I 0 ρ)
    (st : ∀ k d ρ, ds[k]? = some d → k < ds.length → I k ρ → Ok (gg d ρ) fun ρ1 => Ok (s1 ρ1) fun p => p.1 = .nx ∧ I (k + 1) p.2)
    (w : ∀ ρ, I ds.length ρ → PS (.nx, ρ)) : Ok (forL gg s1 ds ρ) PS :=
  for_inv I h (fun k d ρ e hk hi => (st k d ρ e hk hi).imp fun ρ1 h1 => h1.imp fun p hp => .inl ⟨.inl hp.1, hp.2⟩) w
theorem whileL_inv (I : Rho → Prop) (f : Rho → Nat) : ∀ (n : Nat) (ρ : Rho), f ρ < n → I ρ →
    (∀ ρ, I ρ → Ok (t ρ) fun p => Br p.1 (Ok (s1 p.2) fun q => ((q.1 = .nx ∨ q.1 = .ct) ∧ I q.2 ∧ f q.2 < f ρ) ∨ (q.1 = .bk ∧ PS (.nx, q.2)) ∨ ((∃ o, q.1 = .rt o) ∧ PS q)) (PS (.nx, p.2))) → Ok (whileL t s1 n ρ) PS
  | 0, ρ, hf, _, _ => by omega
  | n + 1, ρ, hf, h, st => by
    have hs := st ρ h
    rw [whileL]
    rcases e : t ρ with _ | ⟨_ | _, ρ1⟩
    · rw [e] at hs; simp at hs
    · rw [e] at hs; simpa using hs
    · rw [e] at hs
      simp only [ok_some', br_t] at hs
      obtain ⟨⟨out, ρ2⟩, e2, hq⟩ := hs
      simp only [e2]
      rcases hq with ⟨h2, h3, h4⟩ | ⟨h2, h3⟩ | ⟨⟨o, h2⟩, h3⟩
      · rcases h2 with h2 | h2 <;> (dsimp at h2 h4; subst h2; exact whileL_inv I f n ρ2 (by omega) h3 st)
      · dsimp at h2; subst h2; simpa using h3
      · dsimp at h2; subst h2; simpa using h3
/-- a comprehension whose parts change nothing -/
theorem compL_pure {α : Type} {vs : List Nat} {gg : D → Rho → Option Rho} {el : VM} (φ : α → D) (c : α → Bool) (f : α → D) : ∀ (l : List α) (acc : List D) (ρ : Rho),
    (∀ a ∈ l, Ok (gg (φ a) ρ) fun ρ1 => Ok (t ρ1) fun p => p.1 = c a ∧ Br (c a) (Ok (el p.2) fun q => q.1 = f a ∧ wipeR q.2 vs = ρ) (wipeR p.2 vs = ρ)) →
    acc.length + l.length ≤ sizeLine → compL vs gg t el (l.map φ) acc ρ = some (acc ++ (l.filter c).map f, ρ)
  | [], acc, ρ, _, _ => by simp [compL]
  | a :: l, acc, ρ, h, hl => by
    obtain ⟨ρ1, e1, ⟨b, ρ2⟩, e2, rfl, h3⟩ := h a (by simp)
    rw [List.length_cons] at hl
    have ih := fun acc' hl' => compL_pure φ c f l acc' ρ (fun a ha => h a (List.mem_cons_of_mem _ ha)) hl'
    rw [List.map_cons, compL]
    simp only [e1, e2]
    cases hc : c a with
    | false =>
      rw [hc, br_f] at h3
      simp only [h3, hc, List.filter_cons]
      rw [ih acc (by omega)]
      simp
    | true =>
      rw [hc, br_t] at h3
      obtain ⟨⟨y, ρ3⟩, e3, e4, e5⟩ := h3
      dsimp at e4 e5; subst e4
      simp only [e3, e5, List.filter_cons, hc]
      rw [if_pos (by omega), ih _ (by rw [List.length_append, List.length_singleton]; omega)]
      simp
/-- .. each value as Q says -/
theorem compL_all {vs : List Nat} {gg : D → Rho → Option Rho} {el : VM} (Q : D → Prop) {PC : List D × Rho → Prop} : ∀ (ds acc : List D) (ρ : Rho),
    (∀ d ∈ ds, Ok (gg d ρ) fun ρ1 => Ok (el ρ1) fun q => Q q.1 ∧ wipeR q.2 vs = ρ) → acc.length + ds.length ≤ sizeLine →
    (∀ acc', acc'.length = acc.length + ds.length → (∀ d ∈ acc', d ∈ acc ∨ Q d) → PC (acc', ρ)) → Ok (compL vs gg yesM el ds acc ρ) PC
  | [], acc, ρ, _, _, w => by rw [compL, ok_some']; exact w acc (by simp) fun d h => .inl h
  | d :: ds, acc, ρ, h, hl, w => by
    obtain ⟨ρ1, e1, ⟨y, ρ3⟩, e3, h4, h5⟩ := h d (by simp)
    dsimp at h4 h5
    rw [List.length_cons] at hl
    rw [compL]
    simp only [e1, yesM, e3, h5]
    rw [if_pos (by omega)]
    refine compL_all Q ds (acc ++ [y]) ρ (fun a ha => h a (List.mem_cons_of_mem _ ha)) (by rw [List.length_append, List.length_singleton]; omega) fun acc' a1 a2 => w acc' (by rw [a1, List.length_append, List.length_singleton, List.length_cons]; omega) fun d hd => ?_
    rcases a2 d hd with h | h
    · rcases List.mem_append.1 h with h | h
      · exact .inl h
      · rw [List.mem_singleton.1 h]; exact .inr h4
    · exact .inr h
theorem rangeD_get {n k : Nat} {d : D} (e : (rangeD 0 n)[k]? = some d) : d = .int k ∧ k < n := by
  unfold rangeD at e
  rw [List.getElem?_map] at e
  have h := List.getElem?_eq_some_iff.1 (show (List.range n)[k]? = some k from by
    rcases hk : (List.range n)[k]? with _ | j
    · rw [hk] at e; cases e
    · have := List.getElem?_eq_some_iff.1 hk
      obtain ⟨h1, h2⟩ := this
      rw [List.getElem_range] at h2
      rw [h2])
  rw [show (List.range n)[k]? = some k from List.getElem?_eq_some_iff.2 h] at e
  simp at e
  exact ⟨e.symm, by simpa using h.1⟩
@[simp] theorem rangeD_len {n : Nat} {lo : Int} : (rangeD lo n).length = n := by simp [rangeD]
theorem rangeD_mem {n : Nat} {d : D} (h : d ∈ rangeD 0 n) : ∃ k : Nat, d = .int k ∧ k < n := by
  obtain ⟨k, hk⟩ := List.mem_iff_getElem?.1 h
  exact ⟨k, rangeD_get hk⟩
theorem ok_comp {α : Type} {vs : List Nat} {gg : D → Rho → Option Rho} {el : VM} {φ : α → D} {l : List α} {acc : List D} (c : α → Bool) (f : α → D) {PC : List D × Rho → Prop}
    (h : ∀ a ∈ l, Ok (gg (φ a) ρ) fun ρ1 => Ok (t ρ1) fun p => p.1 = c a ∧ Br (c a) (Ok (el p.2) fun q => q.1 = f a ∧ wipeR q.2 vs = ρ) (wipeR p.2 vs = ρ)) (hl : acc.length + l.length ≤ sizeLine)
    (w : PC (acc ++ (l.filter c).map f, ρ)) : Ok (compL vs gg t el (l.map φ) acc ρ) PC := by
  rw [compL_pure φ c f l acc ρ h hl, ok_some']; exact w
/-- a comprehension, turn by turn -/
theorem compL_inv {vs : List Nat} {gg : D → Rho → Option Rho} {el : VM} {PC : List D × Rho → Prop} (I : Nat → List D → Rho → Prop) : ∀ (ds : List D) (k : Nat) (acc : List D) (ρ : Rho), I k acc ρ →
    (∀ k' d acc ρ, ds[k' - k]? = some d → k ≤ k' → I k' acc ρ → Ok (gg d ρ) fun ρ1 => Ok (t ρ1) fun p => Br p.1 (Ok (el p.2) fun q => acc.length < sizeLine ∧ I (k' + 1) (acc ++ [q.1]) (wipeR q.2 vs)) (I (k' + 1) acc (wipeR p.2 vs))) →
    (∀ acc ρ, I (k + ds.length) acc ρ → PC (acc, ρ)) → Ok (compL vs gg t el ds acc ρ) PC
  | [], k, acc, ρ, h, _, w => by rw [compL, ok_some']; exact w _ _ h
  | d :: ds, k, acc, ρ, h, st, w => by
    obtain ⟨ρ1, e1, ⟨b, ρ2⟩, e2, hb⟩ := st k d acc ρ (by simp) (Nat.le_refl k) h
    have more : ∀ acc' ρ', I (k + 1) acc' ρ' → Ok (compL vs gg t el ds acc' ρ') PC := fun acc' ρ' h2 => compL_inv I ds (k + 1) acc' ρ' h2
      (fun k' d' acc ρ' e le => st k' d' acc ρ' (by rw [show k' - k = (k' - (k + 1)) + 1 by omega, List.getElem?_cons_succ]; exact e) (by omega))
      (fun acc ρ' hi => w acc ρ' (by rw [List.length_cons]; rw [show k + (ds.length + 1) = k + 1 + ds.length by omega]; exact hi))
    replace hb : Br b (Ok (el ρ2) fun q => acc.length < sizeLine ∧ I (k + 1) (acc ++ [q.1]) (wipeR q.2 vs)) (I (k + 1) acc (wipeR ρ2 vs)) := hb
    rw [compL]
    simp only [e1, e2]
    cases b with
    | false => rw [br_f] at hb; exact more _ _ hb
    | true =>
      rw [br_t] at hb
      obtain ⟨⟨y, ρ3⟩, e3, hl, hi⟩ := hb
      simp only [e3]
      dsimp only at hl hi
      rw [if_pos hl]
      exact more _ _ hi
theorem comp_st {vs : List Nat} {gg : D → Rho → Option Rho} {el : VM} {PC : List D × Rho → Prop} (I : Nat → List D → Rho → Prop) {ds : List D} {ρ : Rho} (h : I 0 [] ρ)
    (st : ∀ k d acc ρ, ds[k]? = some d → k < ds.length → I k acc ρ → Ok (gg d ρ) fun ρ1 => Ok (t ρ1) fun p => Br p.1 (Ok (el p.2) fun q => acc.length < sizeLine ∧ I (k + 1) (acc ++ [q.1]) (wipeR q.2 vs)) (I (k + 1) acc (wipeR p.2 vs)))
    (w : ∀ acc ρ, I ds.length acc ρ → PC (acc, ρ)) : Ok (compL vs gg t el ds [] ρ) PC :=
  compL_inv I ds 0 [] ρ h (fun k d acc ρ e _ hi => st k d acc ρ e (by have := (List.getElem?_eq_some_iff.1 e).1; omega) hi) (fun acc ρ hi => w acc ρ (by rwa [Nat.zero_add] at hi))
/-- .. where the first turn changes how things are held -/
theorem ok_comp2 {α : Type} {vs : List Nat} {gg : D → Rho → Option Rho} {el : VM} {φ : α → D} {l : List α} {acc : List D} {ρ0 : Rho} (c : α → Bool) (f : α → D) {PC : List D × Rho → Prop}
    (h0 : ∀ a ∈ l, Ok (gg (φ a) ρ0) fun ρ1 => Ok (t ρ1) fun p => p.1 = c a ∧ Br (c a) (Ok (el p.2) fun q => q.1 = f a ∧ wipeR q.2 vs = ρ) (wipeR p.2 vs = ρ))
    (h : ∀ a ∈ l, Ok (gg (φ a) ρ) fun ρ1 => Ok (t ρ1) fun p => p.1 = c a ∧ Br (c a) (Ok (el p.2) fun q => q.1 = f a ∧ wipeR q.2 vs = ρ) (wipeR p.2 vs = ρ)) (hl : acc.length + l.length ≤ sizeLine) (hne : l ≠ [])
    (w : PC (acc ++ (l.filter c).map f, ρ)) : Ok (compL vs gg t el (l.map φ) acc ρ0) PC := by
  cases l with
  | nil => exact absurd rfl hne
  | cons a l =>
    obtain ⟨ρ1, e1, ⟨b, ρ2⟩, e2, rfl, h3⟩ := h0 a (by simp)
    rw [List.length_cons] at hl
    have ih := fun acc' hl' => compL_pure (t := t) φ c f l acc' ρ (fun a ha => h a (List.mem_cons_of_mem _ ha)) hl'
    rw [List.map_cons, compL]
    simp only [e1, e2]
    rw [List.filter_cons] at w
    cases hc : c a with
    | false =>
      rw [hc, br_f] at h3
      simp only [h3, hc] at w ⊢
      rw [ih acc (by omega), ok_some']
      simpa using w
    | true =>
      rw [hc, br_t] at h3
      obtain ⟨⟨y, ρ3⟩, e3, e4, e5⟩ := h3
      dsimp at e4 e5; subst e4
      simp only [e3, e5, hc] at w ⊢
      rw [if_pos (by omega), ih _ (by rw [List.length_append, List.length_singleton]; omega), ok_some']
      simpa using w
theorem ok_comps {α : Type} {vs : List Nat} {gg : D → Rho → Option Rho} {el : VM} {φ : α → D} {l : List α} {acc : List D} (f : α → D) {PC : List D × Rho → Prop}
    (h : ∀ a ∈ l, Ok (gg (φ a) ρ) fun ρ1 => Ok (el ρ1) fun q => q.1 = f a ∧ wipeR q.2 vs = ρ) (hl : acc.length + l.length ≤ sizeLine)
    (w : PC (acc ++ l.map f, ρ)) : Ok (compL vs gg yesM el (l.map φ) acc ρ) PC := by
  refine ok_comp (fun _ => true) f (fun a ha => ?_) hl ?_
  · refine (h a ha).imp fun ρ1 h1 => ?_
    simpa using h1
  · rw [List.filter_eq_self.2 (fun _ _ => rfl)]; exact w
def zip2 : List D → Option (List D)
  | [a, b] => match listD a, listD b with
    | some xs, some ys => some (zipD xs ys)
    | _, _ => match a, b with
      | .tup xs, .tup ys => some (zipD xs ys)
      | _, _ => none
  | _ => none
@[simp] theorem zip2_tup {xs ys : List D} : zip2 [.tup xs, .tup ys] = some (zipD xs ys) := rfl
@[simp] theorem zip2_lst {xs ys : List D} : zip2 [.lst xs, .lst ys] = some (zipD xs ys) := rfl
@[simp ↓] theorem ok_zipI : @OkI _ (zipI dm ρ) ⟨PI⟩ = Ok (dm ρ) fun p => Ok (zip2 p.1) fun ds => PI (ds, none, p.2) := by
  unfold zipI zip2
  rcases dm ρ with _ | ⟨ds, ρ'⟩
  · simp
  rcases ds with _ | ⟨a, _ | ⟨b, _ | ⟨c, r⟩⟩⟩
  · simp
  · simp
  · simp only [ok_some']
    rcases listD a with _ | xs
    · rcases listD b with _ | ys
      · cases a <;> cases b <;> simp
      · cases a <;> cases b <;> simp
    · rcases listD b with _ | ys
      · cases a <;> cases b <;> simp
      · simp
  · simp
@[simp] theorem tupG_tup {n : Nat} {gs : List D → Rho → Option Rho} {ds : List D} : tupG n gs (.tup ds) ρ = if ds.length = n then gs ds ρ else none := rfl
@[simp ↓] theorem consG_cons {gg : D → Rho → Option Rho} {gs : List D → Rho → Option Rho} {d : D} {ds : List D} {PR : Rho → Prop} : @OkI _ (consG gg gs (d :: ds) ρ) ⟨PR⟩ = Ok (gg d ρ) fun ρ' => Ok (gs ds ρ') PR := by
  unfold consG
  rcases h : gg d ρ with _ | ρ' <;> simp [h]
@[simp] theorem nilG_nil : nilG [] ρ = some ρ := rfl
@[simp] theorem isBG_nbl {a b : Bool} : isBG true (.bl a) (.bl b) = some (.val (.bl (!decide (a = b)))) := rfl
@[simp] theorem isBG_bl {a b : Bool} : isBG false (.bl a) (.bl b) = some (.val (.bl (decide (a = b)))) := rfl
def slN (i : Nat) (ρ : Rho) : Nat := match ρ[i]? with
  | some (some (.val (.int y))) => y.toNat
  | _ => 0
end
def zip22 : List D → Option (List D)
  | [a, b] => match zip2 [a, b] with
    | some r => some r
    | none => match a, b with
      | a, .tup ys => match listD a with
        | some xs => some (zipD xs ys)
        | none => none
      | .tup xs, b => match listD b with
        | some ys => some (zipD xs ys)
        | none => none
      | _, _ => none
  | _ => none
@[simp] theorem zip22_tup {xs ys : List D} : zip22 [.tup xs, .tup ys] = some (zipD xs ys) := rfl
@[simp] theorem zip22_lst {xs ys : List D} : zip22 [.lst xs, .lst ys] = some (zipD xs ys) := rfl
@[simp] theorem zip22_lt {xs ys : List D} : zip22 [.lst xs, .tup ys] = some (zipD xs ys) := rfl
@[simp] theorem zip22_tl {xs ys : List D} : zip22 [.tup xs, .lst ys] = some (zipD xs ys) := rfl
@[simp ↓] theorem ok_zipI2 {dm : DM} {ρ : Rho} {PI : List D × Option (Nat × D) × Rho → Prop} : @OkI _ (zipI2 dm ρ) ⟨PI⟩ = Ok (dm ρ) fun p => Ok (zip22 p.1) fun ds => PI (ds, none, p.2) := by
  unfold zipI2
  have hz : ∀ P2 : List D × Option (Nat × D) × Rho → Prop, @OkI _ (zipI dm ρ) ⟨P2⟩ = Ok (dm ρ) fun p => Ok (zip2 p.1) fun ds => P2 (ds, none, p.2) := fun P2 => ok_zipI
  rcases h : dm ρ with _ | ⟨ds, ρ'⟩
  · have : zipI dm ρ = none := by unfold zipI; rw [h]
    simp [this]
  · have e : zipI dm ρ = match zip2 ds with
        | some zs => some (zs, none, ρ')
        | none => none := by
      unfold zipI zip2; rw [h]
      rcases ds with _ | ⟨a, _ | ⟨b, _ | ⟨c, r⟩⟩⟩ <;> try rfl
      dsimp only
      rcases listD a with _ | xs <;> rcases listD b with _ | ys <;> try rfl
      all_goals (cases a <;> cases b <;> rfl)
    simp only [ok_some', e]
    rcases ds with _ | ⟨a, _ | ⟨b, _ | ⟨c, r⟩⟩⟩
    · simp [zip22, zip2]
    · simp [zip22, zip2]
    · unfold zip22
      dsimp only
      generalize zip2 [a, b] = z
      rcases z with _ | zs
      · cases b <;> cases a <;> simp [listD]
      · simp
    · simp [zip22, zip2]
@[simp ↓] theorem ok_negM {m : EM} {ρ : Rho} {P : Opd × Rho → Prop} : @OkI _ (negM m ρ) ⟨P⟩ = Ok (m ρ) fun p => Ok (intO p.1) fun k => P (.val (.int (-k)), p.2) := by
  unfold negM
  rcases m ρ with _ | ⟨o, ρ'⟩
  · simp
  rcases o with d | _ | _
  · cases d <;> simp [intO]
  · simp [intO]
  · simp [intO]
@[simp] theorem lenX_lst {xs : List D} : lenX [.lst xs] = some (.val (.int xs.length)) := rfl
@[simp] theorem lenX_tup {xs : List D} : lenX [.tup xs] = some (.val (.int xs.length)) := rfl
@[simp] theorem lenX_dct {ks : List Key} {ds : List D} : lenX [.dct ks ds] = some (.val (.int ks.length)) := rfl
@[simp] theorem inX_dct {neg : Bool} {d : D} {ks : List Key} {ds : List D} : inX neg d (.dct ks ds) = dinG neg d (.dct ks ds) := rfl
@[simp] theorem inX_lst {neg : Bool} {d : D} {xs : List D} : inX neg d (.lst xs) = inE neg d (.lst xs) := rfl
@[simp] theorem inX_tup {neg : Bool} {d : D} {xs : List D} : inX neg d (.tup xs) = inE neg d (.tup xs) := rfl
theorem inE_of {neg : Bool} {d e : D} {o : Opd} (h : inG neg d e = some o) : inE neg d e = some o := by unfold inE; rw [h]
@[simp ↓] theorem ok_revI {m : EM} {ρ : Rho} {PI : List D × Option (Nat × D) × Rho → Prop} : @OkI _ (revI m ρ) ⟨PI⟩ = Ok (esc m ρ) fun p => Ok (seqD p.1) fun ds => PI (ds.reverse, none, p.2) := by
  unfold revI
  rcases esc m ρ with _ | ⟨d, ρ'⟩
  · simp
  simp only [ok_some']
  rcases seqD d with _ | ds <;> simp
theorem sortG_lst {ds : List D} {ns : List Int} (h : intsOf ds = some ns) : sortG [.lst ds] = some (.tmp (.lst ((srtI ns).map D.int))) := by simp [sortG, h, listD]
def dctL (i : Nat) (ρ : Rho) : Option (List Key × List D) := match ρ[i]? with
  | some (some (.own (.dct ks ds))) => some (ks, ds)
  | _ => none
def dctV : SV → Option (List Key × List D)
  | .own (.dct ks ds) => some (ks, ds)
  | _ => none
@[simp] theorem dctV_own {ks : List Key} {ds : List D} : dctV (.own (.dct ks ds)) = some (ks, ds) := rfl
@[simp ↓] theorem ok_dctL {i : Nat} {ρ : Rho} {PO : List Key × List D → Prop} : @OkI _ (dctL i ρ) ⟨PO⟩ = Ok ρ[i]? fun s => Ok s fun sv => Ok (dctV sv) PO := by
  unfold dctL dctV
  rcases h : ρ[i]? with _ | _ | sv
  · simp [h]
  · simp [h]
  cases sv with
  | own d => cases d <;> simp [h]
  | _ => simp [h]
@[simp ↓] theorem ok_dputM {i : Nat} {mk m : EM} {ρ : Rho} {PS : Out × Rho → Prop} : @OkI _ (dputM i mk m ρ) ⟨PS⟩ = Ok (esc m ρ) fun p => Ok (anyL i p.2) fun _ => Ok (frz mk p.2) fun q => Ok (look q.1 q.2) fun kd => Ok (keyD kd) fun k => Ok (dctL i q.2) fun t => t.1.length < sizeLine ∧ PS (.nx, q.2.set i (some (.own (.dct (dputK k t.1) (dputD k p.1 t.1 t.2))))) := by
  unfold dputM anyL dctL
  rcases esc m ρ with _ | ⟨d, ρ1⟩
  · simp
  simp only [ok_some']
  rcases ρ1[i]? with _ | _ | sv
  · simp
  · simp
  simp only [ok_some']
  rcases frz mk ρ1 with _ | ⟨o, ρ2⟩
  · simp
  simp only [ok_some']
  rcases look o ρ2 with _ | kd
  · simp
  simp only [ok_some']
  rcases keyD kd with _ | k
  · simp
  simp only [ok_some']
  rcases ρ2[i]? with _ | _ | sv
  · simp
  · simp
  cases sv with
  | own d =>
    cases d with
    | dct ks ds => by_cases h : ks.length < sizeLine <;> simp [h]
    | _ => simp
  | _ => simp
@[simp] theorem tvs_nil : tvs [] = some [] := rfl
@[simp] theorem tvs_mapi {α : Type} (f : α → Int) : ∀ l : List α, tvs (l.map fun a => D.int (f a)) = some (l.map fun a => f a != 0)
  | [] => rfl
  | a :: l => by rw [List.map_cons, tvs, tvs_mapi f l]; rfl
@[simp] theorem tvs_mapb {α : Type} (f : α → Bool) : ∀ l : List α, tvs (l.map fun a => D.bl (f a)) = some (l.map f)
  | [] => rfl
  | a :: l => by rw [List.map_cons, tvs, tvs_mapb f l]; rfl
@[simp] theorem truG_lst {f : List Bool → Bool} {ds : List D} {PO : Opd → Prop} : @OkI _ (truG f [.lst ds]) ⟨PO⟩ = Ok (tvs ds) fun bs => PO (.val (.bl (f bs))) := by
  unfold truG
  simp only [listD]
  rcases tvs ds with _ | bs <;> simp
@[simp] theorem sz_le {n : Nat} (h : n ≤ 1000) : n ≤ sizeLine := Nat.le_trans h (by decide)
@[simp] theorem sz_lt {n : Nat} (h : n ≤ 1000) : n < sizeLine := Nat.lt_of_le_of_lt h (by decide)
@[simp] theorem mulOk_r {k l : Int} (h0 : 0 ≤ l) (h1 : l < 1152921504606846976) : mulOk k l = true := by unfold mulOk; rw [Bool.or_eq_true, Bool.or_eq_true]; exact .inl (.inr (decide_eq_true (by omega)))
@[simp] theorem mulOk_l {k l : Int} (h0 : 0 ≤ k) (h1 : k < 1152921504606846976) : mulOk k l = true := by unfold mulOk; rw [Bool.or_eq_true, Bool.or_eq_true]; exact .inl (.inl (decide_eq_true (by omega)))
end Ev

set_option Elab.async false
set_option linter.all false
set_option maxRecDepth 100000
set_option autoImplicit false
namespace Ev.W
open PySem PySem.Spec PyProof.Rows L2 Ev
variable {κ : String → Nat}
def bt (n x p : Nat) : Nat := if p < n then x / 2 ^ (n - 1 - p) % 2 else 0
theorem inR_small {k : Int} (h0 : 0 ≤ k) (h1 : k < 1152921504606846976) : inR k = true := by
  unfold inR; rw [Bool.and_eq_true, decide_eq_true_iff, decide_eq_true_iff]; omega
@[simp] theorem inR_nat {k : Nat} (h : k ≤ 1000) : inR (k : Int) = true := inR_small (by omega) (by omega)
theorem nband (a b : Nat) : Builtin.bitAnd (a : Int) (b : Int) = ((a &&& b : Nat) : Int) := by unfold Builtin.bitAnd; simp
theorem nbor (a b : Nat) : Builtin.bitOr (a : Int) (b : Int) = ((a ||| b : Nat) : Int) := by
  unfold Builtin.bitOr Builtin.bitNot Builtin.bitAnd Builtin.bitNot
  have h1 : decide (0 ≤ -(a : Int) - 1) = false := decide_eq_false (by omega)
  have h2 : decide (0 ≤ -(b : Int) - 1) = false := decide_eq_false (by omega)
  simp only [h1, h2]
  have e : ∀ x : Nat, (-(-(x : Int) - 1) - 1).toNat = x := fun x => by omega
  simp only [e]
  omega
theorem or_xor : ∀ a < 16, ∀ b < 16, (a ||| b) = (a ^^^ b) + (a &&& b) := by decide
theorem nbxor {a b : Nat} (ha : a < 16) (hb : b < 16) : Builtin.bitXor (a : Int) (b : Int) = ((a ^^^ b : Nat) : Int) := by
  unfold Builtin.bitXor
  rw [nbor, nband, or_xor a ha b hb]
  omega
theorem xor_lt : ∀ a < 16, ∀ b < 16, a ^^^ b < 16 := by decide
theorem or_lt : ∀ a < 16, ∀ b < 16, a ||| b < 16 := by decide
theorem band1 (a k : Nat) : Builtin.bitAnd ((a : Int) / 2 ^ k) 1 = ((a / 2 ^ k % 2 : Nat) : Int) := by
  rw [show (a : Int) / 2 ^ k = ((a / 2 ^ k : Nat) : Int) by simp, show (1 : Int) = ((1 : Nat) : Int) from rfl, nband, Nat.and_one_is_mod]
def toD : Option Int → D
  | none => .non
  | some k => .int k
@[simp] theorem toD_none : toD none = .non := rfl
@[simp] theorem toD_some {k : Int} : toD (some k) = .int k := rfl
@[simp] theorem isNonD_toD (o : Option Int) : isNonD (toD o) = o.isNone := by cases o <;> rfl
abbrev rl (N : Nat) (f : Nat → D) : List D := (List.range N).map f
@[simp] theorem rl_get {N k : Nat} {f : Nat → D} (h : k < N) : (rl N f)[k]? = some (f k) := by simp [h]
theorem rangeD_rl (N : Nat) : rangeD 0 N = rl N fun i => .int i := by simp [rangeD, rl]
theorem rl_set {n p : Nat} {f : Nat → D} {v : D} : (rl n f).set p v = rl n fun q => if q = p then v else f q := by
  apply List.ext_getElem?
  intro i
  rw [List.getElem?_set]
  by_cases h : i < n
  · by_cases h2 : p = i
    · subst h2; simp [h]
    · simp [h, h2, Ne.symm h2]
  · by_cases h2 : p = i
    · subst h2; simp [h]
    · simp [h, h2]
theorem rl_succ (k : Nat) (f : Nat → D) : rl k f ++ [f k] = rl (k + 1) f := by simp [rl, List.range_succ]
theorem bt_lt {n p : Nat} (x : Nat) (h : p < n) : x / 2 ^ (n - 1 - p) % 2 = bt n x p := by simp [bt, h]
theorem bt_le (n x p : Nat) : bt n x p ≤ 1 := by unfold bt; split <;> omega
theorem sh_eq {n p : Nat} (h : p < n) : (n : Int) - 1 - p = ((n - 1 - p : Nat) : Int) := by omega
theorem bt_eq {n x p : Nat} (h : p < n) : Builtin.bitAnd ((x : Int) / 2 ^ (n - 1 - p)) 1 = (bt n x p : Int) := by rw [band1, bt_lt x h]
theorem row_of_eq {n x : Nat} (hn : n ≤ 1000) : m_row_of κ [.val (.int x), .val (.int n)] = some (.val (.tup (rl n fun p => .int (bt n x p))), [none, none]) := by
  apply Ok.eq
  rw [m_row_of, ok_fnM]
  simp [hn]
  rw [rangeD_rl]
  refine ok_comps (φ := fun i : Nat => D.int i) (fun p => .int (bt n x p)) (fun p hp => ?_) (by simp [hn]) ?_
  · rw [List.mem_range] at hp
    simp [sh_eq hp, bt_eq hp]
  · simp
theorem law_row_eq {n x : Nat} (hn : n ≤ 1000) : m__law_row κ [.val (.int x), .val (.int n)] = some (.val (.tup (rl n fun p => .int (bt n x p))), [none, none]) := row_of_eq (κ := κ) hn
theorem pow_facts {n : Nat} (h2 : n ≤ 4) : ∃ N : Nat, 2 ^ n = N ∧ (2 : Int) ^ n = (N : Int) ∧ 1 ≤ N ∧ N ≤ 16 := by
  have : n = 0 ∨ n = 1 ∨ n = 2 ∨ n = 3 ∨ n = 4 := by omega
  rcases this with rfl | rfl | rfl | rfl | rfl <;> exact ⟨_, rfl, by decide, by decide, by decide⟩
theorem rows_of_eq {n : Nat} (hn : n ≤ 4) : m_rows_of κ [.val (.int n)] = some (.tmp (.lst (rl (2 ^ n) fun x => .tup (rl n fun p => .int (bt n x p)))), [none]) := by
  obtain ⟨N, hN, hZ, a1, a2⟩ := pow_facts hn
  apply Ok.eq
  rw [m_rows_of, ok_fnM]
  have z : N ≤ 1000 := by omega
  have n6 : (n : Int) ≤ 1000000 := by omega
  simp [hZ, z, hN, n6]
  rw [rangeD_rl]
  refine ok_comps (l := List.range N) (acc := []) (φ := fun i : Nat => D.int i) (fun x => .tup (rl n fun p => .int (bt n x p))) (fun x hx => ?_) (by simp [z]) ?_
  · simp [row_of_eq (κ := κ) (show n ≤ 1000 by omega)]
  · simp [hN]
theorem law_rows_eq {n : Nat} (hn : n ≤ 4) : m__law_rows κ [.val (.int n)] = some (.tmp (.lst (rl (2 ^ n) fun x => .tup (rl n fun p => .int (bt n x p)))), [none]) := rows_of_eq (κ := κ) hn
@[simp] theorem isi1 : isiAny "int" ["int"] = some true := by decide +kernel
@[simp] theorem isi2 : isiAny "int" ["bool"] = some false := by decide +kernel
@[simp] theorem isi3 : isiAny "NoneType" ["int"] = some false := by decide +kernel
@[simp] theorem isi4 : isiAny "tuple" ["tuple"] = some true := by decide +kernel
@[simp] theorem isi5 : isiAny "list" ["list", "tuple"] = some true := by decide +kernel
theorem isint_eq {v : Int} : m__law_is_int κ [.val (.int v)] = some (.val (.bl true), [none]) := by
  apply Ok.eq
  rw [m__law_is_int, ok_fnM]
  simp [Br]
theorem isint_non : m__law_is_int κ [.val .non] = some (.val (.bl false), [none]) := by
  apply Ok.eq
  rw [m__law_is_int, ok_fnM]
  simp [Br]
def OI (d : D) : Prop := d = .non ∨ ∃ k, d = .int k
@[simp] theorem OI_non : OI .non := .inl rfl
@[simp] theorem OI_int {k : Int} : OI (.int k) := .inr ⟨k, rfl⟩
@[simp] theorem OI_toD {o : Option Int} : OI (toD o) := by cases o <;> simp
theorem take_mem {α : Type} {ps : List α} {k : Nat} {d : α} (e : ps[k]? = some d) (x : α) : x ∈ ps.take (k + 1) ↔ x ∈ ps.take k ∨ x = d := by
  rw [List.take_add_one, e]; simp
theorem law_low_ok {ps : List D} {P : Opd × Rho → Prop} (h : ∀ d ∈ ps, OI d) (w : ∀ v, OI v → (v = .non ↔ ∀ d ∈ ps, d = .non) → P (.val v, [none])) : Ok (m__law_low κ [.val (.tup ps)]) P := by
  rw [m__law_low, ok_fnM]
  simp
  refine for_nx (fun k ρ => ∃ b x, ρ = [some (.val (.tup ps)), some (.val b), x] ∧ OI b ∧ (b = .non ↔ ∀ d ∈ ps.take k, d = .non)) ⟨.non, none, rfl, .inl rfl, by simp⟩ ?_ ?_
  · rintro k d ρ e hk ⟨b, x, rfl, hb, hn⟩
    have hd := h d (List.mem_of_getElem? e)
    have ht := take_mem e
    rcases hd with rfl | ⟨i, rfl⟩ <;> rcases hb with rfl | ⟨j, rfl⟩ <;> simp [ht, Br] at hn ⊢
    · rintro d (h | h)
      · exact hn d h
      · exact h
    · exact hn
  · rintro ρ ⟨b, x, rfl, hb, hn⟩
    simp
    exact w b hb (by simpa using hn)
def opn (P : Nat → Option Int) (N : Nat) : List Nat := (List.range N).filter fun x => (P x).isSome
def pD (P : Nat → Option Int) (N : Nat) : List D := rl N fun x => toD (P x)
@[simp] theorem pD_len {P : Nat → Option Int} {N : Nat} : (pD P N).length = N := by simp [pD]
@[simp] theorem pD_get {P : Nat → Option Int} {N k : Nat} : (pD P N)[k]? = if k < N then some (toD (P k)) else none := by
  by_cases h : k < N <;> simp [pD, h]
@[simp] theorem pD_getE {P : Nat → Option Int} {N k : Nat} (h : k < (pD P N).length) : (pD P N)[k] = toD (P k) := by simp [pD]
theorem opn_mem {P : Nat → Option Int} {N i : Nat} : i ∈ opn P N ↔ i < N ∧ (P i).isSome = true := by simp [opn]
structure GD (s : D) : Prop where
  ex : ∃ (cells : List Int) (pos : Nat) (carry seed : Int), s = .lst [.lst (cells.map D.int), .int pos, .int carry, .int seed] ∧ cells.length ≤ 63 ∧ 0 ≤ carry ∧ 0 ≤ seed

theorem log_small {k : Int} (h1 : 1 ≤ k) (h2 : k < 1152921504606846976) : k.natAbs.log2 < 9000 := by
  have h : k.natAbs < 2 ^ 9000 := by
    have : k.natAbs < 2 ^ 60 := by omega
    exact Nat.lt_of_lt_of_le this (Nat.pow_le_pow_right (by decide) (by decide))
  exact (Nat.log2_lt (by omega)).2 h
theorem draw_ok {s : D} {k : Int} {P : Opd × Rho → Prop} (h : GD s) (h1 : 1 ≤ k) (h2 : k < 1152921504606846976) (w : ∀ r s', 0 ≤ r → r < k → GD s' → P (.val (.int r), [some (.own s'), none])) : Ok (m__law_draw κ [.own s, .val (.int k)]) P := by
  obtain ⟨cells, pos, carry, seed, rfl, hl, hc, hs⟩ := h
  have hk := log_small h1 h2
  have h0 : 0 < k := by omega
  have hm : ∀ x : Int, 0 ≤ x % k ∧ x % k < k := fun x => ⟨Int.emod_nonneg _ (by omega), Int.emod_lt_of_pos _ h0⟩
  have hd : ∀ x : Int, 0 ≤ x → 0 ≤ x / k := fun x h => Int.ediv_nonneg h (by omega)
  have hp6 : (0 : Int) < 2 ^ 6000 := Int.pow_pos (by decide)
  have hpos : ((pos : Int) + 1) = ((pos + 1 : Nat) : Int) := by omega
  rw [m__law_draw, ok_fnM]
  by_cases hlt : pos < cells.length
  · have hc1 : cells[pos]? = some cells[pos] := List.getElem?_eq_getElem hlt
    simp [ixN, hlt, hk, h0]
    generalize cells[pos] = c
    refine ⟨fun _ => w _ _ (hm _).1 (hm _).2 ⟨cells, pos, _, _, rfl, hl, hd _ hc, hs⟩, fun _ => ⟨fun hb => ⟨by decide, hp6, ?_⟩, fun _ => ⟨by decide, ?_⟩⟩⟩
    · exact w _ _ (hm _).1 (hm _).2 ⟨cells, pos + 1, _, _, by rw [hpos], hl, hd _ (Int.emod_nonneg _ (by omega)), hs⟩
    · exact w _ _ (hm _).1 (hm _).2 ⟨cells, pos + 1, _, _, by rw [hpos], hl, hc, Int.emod_nonneg _ (by decide)⟩
  · simp [ixN, hlt, hk, h0]
    refine ⟨fun _ => w _ _ (hm _).1 (hm _).2 ⟨cells, pos, _, _, rfl, hl, hd _ hc, hs⟩, fun _ => ⟨by decide, ?_⟩⟩
    exact w _ _ (hm _).1 (hm _).2 ⟨cells, pos + 1, _, _, by rw [hpos], hl, hc, Int.emod_nonneg _ (by decide)⟩

def dR (κ : String → Nat) (s : D) (k : Int) : Int := match m__law_draw κ [.own s, .val (.int k)] with
  | some (.val (.int r), _) => r
  | _ => 0
def dS (κ : String → Nat) (s : D) (k : Int) : D := match m__law_draw κ [.own s, .val (.int k)] with
  | some (_, [some (.own s'), none]) => s'
  | _ => s
theorem draw_all {s : D} {k : Int} (h : GD s) (h1 : 1 ≤ k) (h2 : k < 1152921504606846976) : m__law_draw κ [.own s, .val (.int k)] = some (.val (.int (dR κ s k)), [some (.own (dS κ s k)), none]) ∧ 0 ≤ dR κ s k ∧ dR κ s k < k ∧ GD (dS κ s k) := by
  obtain ⟨a, e, r, s', h3, h4, h5, h6⟩ := draw_ok (P := fun a => ∃ r s', 0 ≤ r ∧ r < k ∧ GD s' ∧ a = (.val (.int r), [some (.own s'), none])) h h1 h2 fun r s' h3 h4 h5 => ⟨r, s', h3, h4, h5, rfl⟩
  subst h6
  have e1 : dR κ s k = r := by unfold dR; rw [e]
  have e2 : dS κ s k = s' := by unfold dS; rw [e]
  rw [e1, e2]
  exact ⟨e, h3, h4, h5⟩
@[simp] theorem draw_eq {s : D} {k : Int} (h : GD s) (h1 : 1 ≤ k) (h2 : k < 1152921504606846976) : m__law_draw κ [.own s, .val (.int k)] = some (.val (.int (dR κ s k)), [some (.own (dS κ s k)), none]) := (draw_all h h1 h2).1
@[simp] theorem dR_lo {s : D} {k : Int} (h : GD s) (h1 : 1 ≤ k) (h2 : k < 1152921504606846976) : 0 ≤ dR κ s k := (draw_all h h1 h2).2.1
theorem dR_hi {s : D} {k : Int} (h : GD s) (h1 : 1 ≤ k) (h2 : k < 1152921504606846976) : dR κ s k < k := (draw_all h h1 h2).2.2.1
@[simp] theorem dS_gd {s : D} {k : Int} (h : GD s) (h1 : 1 ≤ k) (h2 : k < 1152921504606846976) : GD (dS κ s k) := (draw_all h h1 h2).2.2.2

@[simp] theorem dR_le {s : D} {k : Int} (h : GD s) (h1 : 1 ≤ k) (h2 : k ≤ 1000000) : dR κ s k ≤ 1000000 := by have := dR_hi (κ := κ) h h1 (by omega); omega
@[simp] theorem inR_dR {s : D} {k : Int} (h : GD s) (h1 : 1 ≤ k) (h2 : k < 1152921504606846976) : inR (dR κ s k) = true := inR_small (dR_lo h h1 h2) (by have := dR_hi (κ := κ) h h1 h2; omega)
@[simp] theorem dR_lt {s : D} {k : Int} (h : GD s) (h1 : 1 ≤ k) (h2 : k < 1152921504606846976) : dR κ s k < 1152921504606846976 := by have := dR_hi (κ := κ) h h1 (by omega); omega
theorem begin_ok {ns : List Int} (h : ns.length ≤ 63) {P : Opd × Rho → Prop} (w : ∀ s, GD s → P (.tmp s, [none])) : Ok (m__law_begin κ [.val (.rol (ns.map D.int))]) P := by
  rw [m__law_begin, ok_fnM]
  simp
  have e := compL_pure (t := yesM) (vs := [1]) (gg := nameG 1) (el := esc (biM intFG (consA (varM 1) nilA))) D.int (fun _ => true) D.int ns [] [some (.val (.rol (ns.map D.int))), none] ?_ (by simp; exact sz_le (by omega))
  · rw [e]
    simp
    exact w _ ⟨⟨ns, 0, 0, 7, by rw [List.filter_eq_self.2 (fun _ _ => rfl)]; rfl, h, by omega, by omega⟩⟩
  · intro a ha
    simp
/-- pick -/
theorem pick_ok {s : D} {sv : SV} {ds : List D} {P : Opd × Rho → Prop} (g : GD s) (hsv : sv = .val (.lst ds) ∨ sv = .bor (.lst ds)) (h1 : 1 ≤ ds.length) (h2 : ds.length ≤ 1000) (w : ∀ (j : Nat) (hj : j < ds.length) s', GD s' → P (.val ds[j], [some (.own s'), none])) : Ok (m__law_pick κ [.own s, sv]) P := by
  have a1 : (1 : Int) ≤ ds.length := by omega
  have a2 : (ds.length : Int) < 1152921504606846976 := by omega
  have b1 := dR_lo (κ := κ) g a1 a2
  have b2 := dR_hi (κ := κ) g a1 a2
  have b3 : (dR κ s ds.length).toNat < ds.length := by omega
  rw [m__law_pick, ok_fnM]
  rcases hsv with rfl | rfl
  · simp [g, a1, a2]
    rw [ixN_pos b1 b2]
    simp [b3]
    exact w _ b3 _ (dS_gd g a1 a2)
  · simp [g, a1, a2]
    rw [ixN_pos b1 b2]
    simp [b3]
    exact w _ b3 _ (dS_gd g a1 a2)
end Ev.W

set_option Elab.async false
set_option linter.all false
set_option maxRecDepth 100000
set_option autoImplicit false
namespace Ev.W
open PySem PySem.Spec PyProof.Rows L2 Ev
variable {κ : String → Nat}
theorem rare_ok {s : D} {k : Int} {P : Opd × Rho → Prop} (h : GD s) (h1 : 1 ≤ k) (h2 : k < 1152921504606846976) (w : ∀ b s', GD s' → P (.val (.bl b), [some (.own s'), none])) : Ok (m__law_rare κ [.own s, .val (.int k)]) P := by
  rw [m__law_rare, ok_fnM]
  simp [h, h1, h2]
  exact ⟨by decide, w _ _ (by simp only [dS_gd h h1 h2])⟩
def rR (κ : String → Nat) (s : D) (k : Int) : Bool := match m__law_rare κ [.own s, .val (.int k)] with
  | some (.val (.bl r), _) => r
  | _ => false
def rS (κ : String → Nat) (s : D) (k : Int) : D := match m__law_rare κ [.own s, .val (.int k)] with
  | some (_, [some (.own s'), none]) => s'
  | _ => s
theorem rare_all {s : D} {k : Int} (h : GD s) (h1 : 1 ≤ k) (h2 : k < 1152921504606846976) : m__law_rare κ [.own s, .val (.int k)] = some (.val (.bl (rR κ s k)), [some (.own (rS κ s k)), none]) ∧ GD (rS κ s k) := by
  obtain ⟨a, e, r, s', h5, h6⟩ := rare_ok (P := fun a => ∃ r s', GD s' ∧ a = (.val (.bl r), [some (.own s'), none])) h h1 h2 fun r s' h5 => ⟨r, s', h5, rfl⟩
  subst h6
  have e1 : rR κ s k = r := by unfold rR; rw [e]
  have e2 : rS κ s k = s' := by unfold rS; rw [e]
  rw [e1, e2]
  exact ⟨e, h5⟩
@[simp] theorem rare_eq {s : D} {k : Int} (h : GD s) (h1 : 1 ≤ k) (h2 : k < 1152921504606846976) : m__law_rare κ [.own s, .val (.int k)] = some (.val (.bl (rR κ s k)), [some (.own (rS κ s k)), none]) := (rare_all h h1 h2).1
@[simp] theorem rS_gd {s : D} {k : Int} (h : GD s) (h1 : 1 ≤ k) (h2 : k < 1152921504606846976) : GD (rS κ s k) := (rare_all h h1 h2).2

def OB (d : D) : Prop := d = .non ∨ ∃ k, d = .int k ∧ 0 ≤ k ∧ k ≤ 1000
@[simp] theorem OB_non : OB .non := .inl rfl
theorem OB.oi {d : D} (h : OB d) : OI d := by rcases h with rfl | ⟨k, rfl, _⟩ <;> simp
theorem OB_int {k : Int} (h0 : 0 ≤ k) (h1 : k ≤ 1000) : OB (.int k) := .inr ⟨k, rfl, h0, h1⟩
theorem cost_ok {s : D} {P : Opd × Rho → Prop} (h : GD s) (w : ∀ r s', 0 ≤ r → r ≤ 1000 → GD s' → P (.val (.int r), [some (.own s')])) : Ok (m__law_cost κ [.own s]) P := by
  rw [m__law_cost, ok_fnM]
  simp [h]
  have g : GD (rS κ s 11) := by simp [h]
  have a1 := dR_lo (κ := κ) (k := 1001) g (by omega) (by omega)
  have a2 := dR_hi (κ := κ) (k := 1001) g (by omega) (by omega)
  have b1 := dR_lo (κ := κ) (k := 6) g (by omega) (by omega)
  have b2 := dR_hi (κ := κ) (k := 6) g (by omega) (by omega)
  exact ⟨fun _ => w _ _ a1 (by omega) (by simp [g]), fun _ => w _ _ b1 (by omega) (by simp [g])⟩
theorem low2_ok {sv : SV} {ps : List D} {P : Opd × Rho → Prop} (hit : ∀ ρ, itI 0 ρ sv = some (ps, none, ρ)) (h : ∀ d ∈ ps, OI d) (w : ∀ v, ((v = .non ∧ ∀ d ∈ ps, d = .non) ∨ (v ∈ ps ∧ v ≠ .non)) → P (.val v, [none])) : Ok (m__law_low κ [sv]) P := by
  rw [m__law_low, ok_fnM]
  simp [hit]
  refine for_nx (fun k ρ => ∃ b x, ρ = [some sv, some (.val b), x] ∧ ((b = .non ∧ ∀ d ∈ ps.take k, d = .non) ∨ (b ∈ ps.take k ∧ b ≠ .non))) ⟨.non, none, rfl, .inl ⟨rfl, by simp⟩⟩ ?_ ?_
  · rintro k d ρ e hk ⟨b, x, rfl, hb⟩
    have hd := h d (List.mem_of_getElem? e)
    have ht := take_mem e
    have hoi : OI b := by
      rcases hb with ⟨rfl, _⟩ | ⟨hb, _⟩
      · simp
      · exact h b (List.mem_of_mem_take hb)
    rcases hd with rfl | ⟨i, rfl⟩ <;> rcases hoi with rfl | ⟨j, rfl⟩
    · simp [ht, Br] at hb ⊢
      rintro d (h | h)
      · exact hb d h
      · exact h
    · simp [ht, Br] at hb ⊢; exact hb
    · simp [ht, Br]
    · simp only [ht]
      simp at hb
      simp [Br]
      exact fun _ => .inl hb
  · rintro ρ ⟨b, x, rfl, hb⟩
    simp
    exact w b (by simpa using hb)
theorem it_tup {ρ : Rho} {ps : List D} : itI 0 ρ (.val (.tup ps)) = some (ps, none, ρ) := rfl
theorem it_lst {ρ : Rho} {ps : List D} : itI 0 ρ (.val (.lst ps)) = some (ps, none, ρ) := rfl
theorem it_bor {ρ : Rho} {ps : List D} : itI 0 ρ (.bor (.lst ps)) = some (ps, none, ρ) := rfl
theorem opened_ok {s : D} {ps : List D} {P : Opd × Rho → Prop} (g : GD s) (h : ∀ d ∈ ps, OB d) (h1 : 1 ≤ ps.length) (h2 : ps.length ≤ 1000)
    (w : ∀ ps' s', ps'.length = ps.length → (∀ d ∈ ps', OB d) → (∃ d ∈ ps', d ≠ .non) → GD s' → P (.val (.lst ps'), [some (.own s'), some (.val (.lst ps'))])) : Ok (m__law_opened κ [.own s, .own (.lst ps)]) P := by
  have h3 : (1 : Int) ≤ ps.length := by omega
  have h4 : (ps.length : Int) < 1152921504606846976 := by omega
  rw [m__law_opened, ok_fnM]
  simp
  refine low2_ok (fun _ => it_bor) (fun d hd => (h d hd).oi) fun v hv => ?_
  rcases hv with ⟨rfl, hv⟩ | ⟨hv, hn⟩
  · simp
    refine cost_ok g fun r s' r0 r1 g' => ?_
    have a1 := dR_lo (κ := κ) (k := ps.length) g' h3 h4
    have a2 := dR_hi (κ := κ) (k := ps.length) g' h3 h4
    simp [g', h3, h4]
    rw [ixN_pos a1 a2]
    simp
    refine w _ _ (by simp) (fun d hd => ?_) ⟨_, List.mem_set (by omega) .., by simp⟩ (by simp [g', h3, h4])
    rcases List.mem_or_eq_of_mem_set hd with hd | rfl
    · exact h d hd
    · exact OB_int r0 r1
  · have hv2 : isNonD v = false := by
      rcases h v hv with rfl | ⟨k, rfl, _⟩
      · exact absurd rfl hn
      · rfl
    simp [hv2]
    exact w _ _ rfl h ⟨v, hv, hn⟩ g
theorem loose_ok {s : D} {n : Nat} {b : Int} {P : Opd × Rho → Prop} (g : GD s) (hn : n ≤ 4)
    (w : ∀ ps s', ps.length = 2 ^ n → (∀ d ∈ ps, OB d) → (∃ d ∈ ps, d ≠ .non) → GD s' → P (.val (.tup [.int n, .tup ps]), [some (.own s'), none, none])) : Ok (m__law_loose κ [.own s, .val (.int n), .val (.int b)]) P := by
  obtain ⟨N, hN, hZ, a1, a2⟩ := pow_facts hn
  rw [m__law_loose, ok_fnM]
  simp [hZ, show N ≤ 1000 by omega]
  rw [hN] at w
  refine ⟨by omega, ?_⟩
  refine for_nx (fun k ρ => ∃ s ps x y, ρ = [some (.own s), some (.val (.int n)), some (.val (.int b)), some (.own (.lst ps)), x, y] ∧ ps.length = k ∧ (∀ d ∈ ps, OB d) ∧ GD s) ⟨s, [], none, none, rfl, rfl, by simp, g⟩ ?_ ?_
  · rintro k d ρ e hk ⟨s, ps, x, y, rfl, hl, ho, g⟩
    simp at hk
    have : ps.length ≤ 1000 := by omega
    have hk6 : k ≤ 1000 := by omega
    simp [g]
    refine Br.mk (fun _ => ?_) (fun _ => ?_)
    · simp [this, hl, g, hk6]
      rintro d (hd | rfl)
      · exact ho d hd
      · simp
    · refine cost_ok (by simp [g]) fun r s' r0 r1 g' => ?_
      simp [this, hl, g', hk6]
      rintro d (hd | rfl)
      · exact ho d hd
      · exact OB_int r0 r1
  · rintro ρ ⟨s, ps, x, y, rfl, hl, ho, g⟩
    simp at hl
    simp
    refine opened_ok g ho (by omega) (by omega) fun ps' s' h1 h2 h3 h4 => ?_
    simp
    exact w _ _ (by omega) h2 h3 h4
theorem crisp_ok {s : D} {n : Nat} {b : Int} {P : Opd × Rho → Prop} (g : GD s) (hn : n ≤ 4)
    (w : ∀ ps s', ps.length = 2 ^ n → (∀ d ∈ ps, OB d) → (∃ d ∈ ps, d ≠ .non) → GD s' → P (.val (.tup [.int n, .tup ps]), [some (.own s'), none, none])) : Ok (m__law_crisp κ [.own s, .val (.int n), .val (.int b)]) P := by
  obtain ⟨N, hN, hZ, a1, a2⟩ := pow_facts hn
  rw [m__law_crisp, ok_fnM]
  simp
  refine cost_ok g fun r s' r0 r1 g' => ?_
  simp [hZ, show N ≤ 1000 by omega]
  rw [hN] at w
  refine ⟨by omega, ?_⟩
  refine comp_st (fun k acc ρ => ∃ s, ρ = [some (.own s), some (.val (.int n)), some (.val (.int b)), some (.val (.int r)), none, none] ∧ acc.length = k ∧ (∀ d ∈ acc, OB d) ∧ GD s) ⟨s', rfl, rfl, by simp, g'⟩ ?_ ?_
  · rintro k d acc ρ e hk ⟨s, rfl, hl, ho, g⟩
    simp at hk
    have : acc.length ≤ 1000 := by omega
    have hk6 : k ≤ 1000 := by omega
    simp [g, this, hl, hk6]
    refine ⟨fun _ => ?_, fun _ => ?_⟩
    · rintro d (hd | rfl)
      · exact ho d hd
      · simp
    · rintro d (hd | rfl)
      · exact ho d hd
      · exact OB_int r0 r1
  · rintro acc ρ ⟨s, rfl, hl, ho, g⟩
    simp at hl
    simp
    refine opened_ok g ho (by omega) (by omega) fun ps' s' h1 h2 h3 h4 => ?_
    simp
    exact w _ _ (by omega) h2 h3 h4
theorem turned_eq {n : Int} {ps : List D} (hl : ps.length ≤ 1000) : m__law_turned κ [.val (.tup [.int n, .tup ps])] = some (.val (.tup [.int n, .tup ps.reverse]), [none]) := by
  apply Ok.eq
  rw [m__law_turned, ok_fnM]
  simp
  rw [show ps.reverse = ps.reverse.map id by simp]
  refine ok_comps (l := ps.reverse) (acc := []) (φ := id) id (fun d hd => ?_) (by simp; exact sz_le hl) ?_
  · simp
  · simp
theorem zero_ok {s : D} {n : Nat} {P : Opd × Rho → Prop} (g : GD s) (hn : n ≤ 4)
    (w : ∀ ps s', ps.length = 2 ^ n → (∀ d ∈ ps, OI d) → GD s' → P (.val (.tup [.int n, .tup ps]), [some (.own s'), none])) : Ok (m__law_zero κ [.own s, .val (.int n)]) P := by
  obtain ⟨N, hN, hZ, a1, a2⟩ := pow_facts hn
  rw [m__law_zero, ok_fnM]
  simp [g]
  refine loose_ok (by simp [g]) hn fun ps s' h1 h2 h3 g' => ?_
  simp
  refine low2_ok (fun _ => it_bor) (fun d hd => (h2 d hd).oi) fun v hv => ?_
  obtain ⟨k, rfl, k0, k1⟩ : ∃ k, v = .int k ∧ 0 ≤ k ∧ k ≤ 1000 := by
    rcases hv with ⟨_, hv⟩ | ⟨hv, hn⟩
    · obtain ⟨d, hd, hd2⟩ := h3
      exact absurd (hv d hd) hd2
    · rcases h2 v hv with rfl | h
      · exact absurd rfl hn
      · exact h
  have g2 : GD (dS κ s' 2) := by simp [g']
  have hp : 0 < ps.length := by omega
  have e1 : (1 : Int) ≤ k + 1 := by omega
  have e2 : k + 1 < (1152921504606846976 : Int) := by omega
  have hoi : ∀ x : Int, ∀ d ∈ ps.set 0 (.int x), OI d := fun x d hd => by
    rcases List.mem_or_eq_of_mem_set hd with hd | rfl
    · exact (h2 d hd).oi
    · simp
  simp [g', hp, g2, e1, e2]
  exact ⟨fun _ => w _ _ (by simp [h1]) (hoi k) g2, fun _ => w _ _ (by simp [h1]) (hoi _) (by simp [g2, e1, e2])⟩
end Ev.W

set_option Elab.async false
set_option linter.all false
set_option maxRecDepth 100000
set_option autoImplicit false
namespace Ev.W
open PySem PySem.Spec PyProof.Rows L2 Ev
variable {κ : String → Nat}
def AI (ps : List D) : Prop := ∀ d ∈ ps, ∃ k, d = .int k
theorem AI.get {ps : List D} {k : Nat} (h : AI ps) (hk : k < ps.length) : ∃ i, ps[k] = .int i := by
  obtain ⟨i, hi⟩ := h ps[k] (List.getElem_mem hk)
  exact ⟨i, hi⟩
theorem AI.set {ps : List D} {k : Nat} {i : Int} (h : AI ps) : AI (ps.set k (.int i)) := fun d hd => by
  rcases List.mem_or_eq_of_mem_set hd with hd | rfl
  · exact h d hd
  · exact ⟨i, rfl⟩
theorem AI.oi {ps : List D} (h : AI ps) : ∀ d ∈ ps, OI d := fun d hd => .inr (h d hd)
theorem band_nat (a b : Nat) : Builtin.bitAnd (a : Int) (b : Int) = ((a &&& b : Nat) : Int) := by unfold Builtin.bitAnd; simp
theorem shr_nat (a b : Nat) : (a : Int) / 2 ^ b = ((a / 2 ^ b : Nat) : Int) := by simp
theorem bit_cases (a b : Nat) : Builtin.bitAnd ((a : Int) / 2 ^ b) 1 = 0 ∨ Builtin.bitAnd ((a : Int) / 2 ^ b) 1 = 1 := by
  rw [shr_nat, show (1 : Int) = ((1 : Nat) : Int) from rfl, band_nat, Nat.and_one_is_mod]
  omega
theorem bends_ok {s : D} {ps : List D} {n : Int} {P : Opd × Rho → Prop} (g : GD s) (hn1 : 1 ≤ n) (hn2 : n ≤ 4) (h1 : 1 ≤ ps.length) (h2 : ps.length ≤ 16) (h : AI ps)
    (w : ∀ ps' s', ps'.length = ps.length → AI ps' → GD s' → P (.val (.lst ps'), [some (.own s'), none, some (.val (.lst ps'))])) : Ok (m__law_add_bends κ [.own s, .val (.int n), .own (.lst ps)]) P := by
  rw [m__law_add_bends, ok_fnM]
  have hi : inR ps.length = true := inR_small (by omega) (by omega)
  have hn3 : n ≤ 1000000 := by omega
  have hn4 : n < 1152921504606846976 := by omega
  have q1 : (1 : Int) ≤ ps.length := by omega
  have q2 : (ps.length : Int) < 1152921504606846976 := by omega
  simp (maxDischargeDepth := 20) [g]
  refine for_nx (fun k ρ => ∃ s ps' x4 x5 x6 x7 x8 x9 x10 x11, ρ = [some (.own s), some (.val (.int n)), some (.own (.lst ps')), some (.val (.int ps.length)), x4, x5, x6, x7, x8, x9, x10, x11] ∧ ps'.length = ps.length ∧ AI ps' ∧ GD s) ⟨_, ps, none, none, none, none, none, none, none, none, rfl, rfl, h, by simp [g]⟩ ?_ ?_
  · rintro k d ρ e hk ⟨s, ps', x4, x5, x6, x7, x8, x9, x10, x11, rfl, hl, ho, g⟩
    simp (maxDischargeDepth := 20) [g, q1, q2, hi]
    refine for_nx (fun k ρ => ∃ s ps' x8 x11 a b c, ρ = [some (.own s), some (.val (.int n)), some (.own (.lst ps')), some (.val (.int ps.length)), some (.val d), some (.val (.int a)), some (.val (.int b)), some (.val (.int c)), x8, x9, x10, x11] ∧ ps'.length = ps.length ∧ AI ps' ∧ GD s) ⟨_, ps', _, _, _, _, _, rfl, hl, ho, by simp (maxDischargeDepth := 20) [g, q1, q2, hi]⟩ ?_ ?_
    · rintro k d' ρ e hk ⟨s, ps', x8, x11, a, b, c, rfl, hl, ho, g⟩
      obtain ⟨rfl, hk⟩ := rangeD_get e
      obtain ⟨i, hi⟩ := ho.get (k := k) (by omega)
      have hk' : k < ps'.length := by omega
      simp [hi, hk', Br]
      simp [hl, ho, ho.set, g]
    · rintro ρ ⟨s, ps', x8, x11, a, b, c, rfl, hl, ho, g⟩
      simp (maxDischargeDepth := 20) [hl, ho, g, q1, q2]
  · rintro ρ ⟨s, ps', x4, x5, x6, x7, x8, x9, x10, x11, rfl, hl, ho, g⟩
    simp (maxDischargeDepth := 20) [g]
    refine for_nx (fun k ρ => ∃ s ps' x4 x5 x6 x7 x8 x9 x10 x11, ρ = [some (.own s), some (.val (.int n)), some (.own (.lst ps')), some (.val (.int ps.length)), x4, x5, x6, x7, x8, x9, x10, x11] ∧ ps'.length = ps.length ∧ AI ps' ∧ GD s) ⟨_, ps', _, _, _, _, _, _, _, _, rfl, hl, ho, by simp [g]⟩ ?_ ?_
    · rintro k d ρ e hk ⟨s, ps', x4, x5, x6, x7, x8, x9, x10, x11, rfl, hl, ho, g⟩
      simp (maxDischargeDepth := 20) [g, q1, q2, hi, hn1, hn3, hn4]
      refine for_nx (fun k ρ => ∃ s ps' x8 a b c, ρ = [some (.own s), some (.val (.int n)), some (.own (.lst ps')), some (.val (.int ps.length)), some (.val d), x5, some (.val (.int a)), x7, x8, some (.val (.int b)), some (.val (.int c)), x11] ∧ ps'.length = ps.length ∧ AI ps' ∧ GD s) ⟨_, ps', _, _, _, _, rfl, hl, ho, by simp (maxDischargeDepth := 20) [g, q1, q2, hi, hn1, hn4]⟩ ?_ ?_
      · rintro k d' ρ e hk ⟨s, ps', x8, a, b, c, rfl, hl, ho, g⟩
        obtain ⟨rfl, hk⟩ := rangeD_get e
        obtain ⟨i, hi⟩ := ho.get (k := k) (by omega)
        have hk' : k < ps'.length := by omega
        simp [hi, hk', Br]
        simp [hl, ho, ho.set, g]
      · rintro ρ ⟨s, ps', x8, a, b, c, rfl, hl, ho, g⟩
        simp (maxDischargeDepth := 20) [hl, ho, g, q1, q2]
    · rintro ρ ⟨s, ps', x4, x5, x6, x7, x8, x9, x10, x11, rfl, hl, ho, g⟩
      simp
      exact w _ _ hl ho g
def barB : SM := seqM (setM 11 (compM [12] (rng1 (consD (varM 2) nilD)) (nameG 12) yesM (esc (andV (binM gtG (binM andG (varM 12) (varM 8)) (constM (.int 0))) (binM eqG (binM andG (varM 12) (varM 9)) (constM (.int 0)))))))
    (setM 3 (compM [12] (rng1 (consD (varM 2) nilD)) (nameG 12) yesM (esc (ifM (truM (binM atD (varM 11) (varM 12))) (constM .non) (binM atD (varM 3) (varM 12))))))
def spotB : SM := setM 3 (compM [12] (rng1 (consD (varM 2) nilD)) (nameG 12) yesM (esc (ifM (boolM (binM eqG (binM andG (varM 12) (varM 10)) (binM andG (varM 5) (varM 10)))) (binM atD (varM 3) (varM 12)) (constM .non))))
theorem OI_get {ps : List D} {k : Nat} (h : ∀ d ∈ ps, OI d) (hk : k < ps.length) : OI ps[k] := h _ (List.getElem_mem hk)
theorem bar_ok {s : D} {n : Int} {N : Nat} {sv : SV} {ps : List D} {c a b : Int} {x4 x6 x7 x10 x11 : Option SV} {PS : Out × Rho → Prop} (h2 : N ≤ 1000) (hsv : sv = .val (.lst ps) ∨ sv = .own (.lst ps)) (hl : ps.length = N) (ho : ∀ d ∈ ps, OI d)
    (w : ∀ ps' x11', ps'.length = N → (∀ d ∈ ps', OI d) → PS (.nx, [some (.own s), some (.val (.int n)), some (.val (.int N)), some (.own (.lst ps')), x4, some (.val (.int c)), x6, x7, some (.val (.int a)), some (.val (.int b)), x10, x11', none])) :
    Ok (barB [some (.own s), some (.val (.int n)), some (.val (.int N)), some sv, x4, some (.val (.int c)), x6, x7, some (.val (.int a)), some (.val (.int b)), x10, x11, none]) PS := by
  have z0 : inR N = true := inR_small (by omega) (by omega)
  unfold barB
  simp [z0]
  refine compL_all (fun d => ∃ b, d = .bl b) _ _ _ ?_ (by simp [h2]) ?_
  · intro d hd
    obtain ⟨j, rfl, hj⟩ := rangeD_mem hd
    simp [Br]
  · intro acc h1 h3
    replace h3 : ∀ d ∈ acc, ∃ b, d = D.bl b := fun d hd => by
      rcases h3 d hd with h | h
      · cases h
      · exact h
    simp at h1
    simp [z0]
    refine compL_all OI _ _ _ ?_ (by simp [h2]) ?_
    · intro d hd
      obtain ⟨j, rfl, hj⟩ := rangeD_mem hd
      have j1 : j < acc.length := by omega
      have j2 : j < ps.length := by omega
      obtain ⟨bb, hb⟩ := h3 acc[j] (List.getElem_mem j1)
      have := OI_get ho j2
      rcases hsv with rfl | rfl <;> simp [j1, j2, hb, this, Br]
    · intro acc' h4 h5
      simp at h4
      simp
      exact w _ _ h4 (fun d hd => by
        rcases h5 d hd with h | h
        · cases h
        · exact h)
theorem spot_ok {s : D} {n : Int} {N : Nat} {sv : SV} {ps : List D} {c a : Int} {x4 x6 x7 x8 x9 x11 : Option SV} {PS : Out × Rho → Prop} (h2 : N ≤ 1000) (hsv : sv = .val (.lst ps) ∨ sv = .own (.lst ps)) (hl : ps.length = N) (ho : ∀ d ∈ ps, OI d)
    (w : ∀ ps', ps'.length = N → (∀ d ∈ ps', OI d) → PS (.nx, [some (.own s), some (.val (.int n)), some (.val (.int N)), some (.own (.lst ps')), x4, some (.val (.int c)), x6, x7, x8, x9, some (.val (.int a)), x11, none])) :
    Ok (spotB [some (.own s), some (.val (.int n)), some (.val (.int N)), some sv, x4, some (.val (.int c)), x6, x7, x8, x9, some (.val (.int a)), x11, none]) PS := by
  have z0 : inR N = true := inR_small (by omega) (by omega)
  unfold spotB
  simp [z0]
  refine compL_all OI _ _ _ ?_ (by simp [h2]) ?_
  · intro d hd
    obtain ⟨j, rfl, hj⟩ := rangeD_mem hd
    have j2 : j < ps.length := by omega
    have := OI_get ho j2
    rcases hsv with rfl | rfl <;> simp [j2, this, Br]
  · intro acc' h4 h5
    simp at h4
    simp
    exact w _ h4 (fun d hd => by
      rcases h5 d hd with h | h
      · cases h
      · exact h)
theorem cut_ok {s : D} {n : Nat} {P : Opd × Rho → Prop} (g : GD s) (hn1 : 1 ≤ n) (hn2 : n ≤ 4)
    (w : ∀ ps s', ps.length = 2 ^ n → (∀ d ∈ ps, OI d) → GD s' → P (.val (.tup [.int n, .tup ps]), [some (.own s'), none])) : Ok (m__law_cut κ [.own s, .val (.int n)]) P := by
  rw [m__law_cut, show (seqM (setM 11 (compM [12] (rng1 (consD (varM 2) nilD)) (nameG 12) yesM (esc (andV (binM gtG (binM andG (varM 12) (varM 8)) (constM (.int 0))) (binM eqG (binM andG (varM 12) (varM 9)) (constM (.int 0)))))))
    (setM 3 (compM [12] (rng1 (consD (varM 2) nilD)) (nameG 12) yesM (esc (ifM (truM (binM atD (varM 11) (varM 12))) (constM .non) (binM atD (varM 3) (varM 12))))))) = barB from rfl,
    show (setM 3 (compM [12] (rng1 (consD (varM 2) nilD)) (nameG 12) yesM (esc (ifM (boolM (binM eqG (binM andG (varM 12) (varM 10)) (binM andG (varM 5) (varM 10)))) (binM atD (varM 3) (varM 12)) (constM .non))))) = spotB from rfl, ok_fnM]
  obtain ⟨N, hN, hZ, a1, a2⟩ := pow_facts hn2
  rw [hN] at w
  have z0 : inR N = true := inR_small (by omega) (by omega)
  have z1 : (1 : Int) ≤ N := by omega
  have z2 : (N : Int) < 1152921504606846976 := by omega
  have z3 : RepOk 1 N := repOk_small (by omega) (by omega) (by decide)
  have z5 : N ≤ 1000 := by omega
  have n1 : (1 : Int) ≤ n := by omega
  have n2 : (n : Int) < 1152921504606846976 := by omega
  have n3 : (n : Int) ≤ 1000000 := by omega
  have n4 : inR n = true := inR_small (by omega) n2
  simp (maxDischargeDepth := 20) [g, hZ, n3, z3, z5, z0, z1, z2, n4]
  refine for_nx (fun k ρ => ∃ s ps x4 x7, ρ = [some (.own s), some (.val (.int n)), some (.val (.int N)), some (.own (.lst ps)), x4, none, none, x7, none, none, none, none, none] ∧ ps.length = N ∧ AI ps ∧ GD s) ⟨_, _, none, none, rfl, by simp, fun d hd => ⟨_, List.eq_of_mem_replicate hd⟩, by simp [g]⟩ ?_ ?_
  · rintro k d ρ e hk ⟨s, ps, x4, x7, rfl, hl, ho, g⟩
    obtain ⟨rfl, hk⟩ := rangeD_get e
    simp (maxDischargeDepth := 20) [g, z0]
    refine compL_all (fun d => ∃ i, d = .int i) _ _ _ ?_ (by simp [z5]) ?_
    · intro d hd
      obtain ⟨j, rfl, hj⟩ := rangeD_mem hd
      obtain ⟨i, hi⟩ := ho.get (k := j) (by omega)
      have hj' : j < ps.length := by omega
      rcases bit_cases j k with hb | hb <;> simp [hj', hi, hb]
    · intro acc h1 h2
      simp at h1 h2
      simp (maxDischargeDepth := 20) [h1, g]
      exact fun d hd => h2 d hd
  · rintro ρ ⟨s, ps, x4, x7, rfl, hl, ho, g⟩
    simp
    refine bends_ok g n1 (by omega) (by omega) (by omega) ho fun ps s' h1 h2 g => ?_
    simp (maxDischargeDepth := 20) [g, z1, z2]
    have b1 := dR_lo (κ := κ) (k := 4) (dS_gd (κ := κ) g z1 z2) (by omega) (by omega)
    have b2 := dR_hi (κ := κ) (k := 4) (dS_gd (κ := κ) g z1 z2) (by omega) (by omega)
    have b3 := dR_lo (κ := κ) (k := 3) (dS_gd (κ := κ) (dS_gd (κ := κ) g z1 z2) (k := 4) (by omega) (by omega)) (by omega) (by omega)
    have b4 := dR_hi (κ := κ) (k := 3) (dS_gd (κ := κ) (dS_gd (κ := κ) g z1 z2) (k := 4) (by omega) (by omega)) (by omega) (by omega)
    have hr : ∀ a b : Int, 0 ≤ a → a < 4 → 0 ≤ b → b < 3 → inR (a / 2 * b) = true := fun a b h1 h2 h3 h4 => by
      have h5 : a / 2 = 0 ∨ a / 2 = 1 := by omega
      rcases h5 with h5 | h5 <;> rw [h5] <;> exact inR_small (by omega) (by omega)
    refine ⟨by decide, hr _ _ b1 b2 b3 b4, ?_⟩
    refine for_nx (fun k ρ => ∃ s sv ps c x6 x8 x9 x11, ρ = [some (.own s), some (.val (.int n)), some (.val (.int N)), some sv, x4, some (.val (.int c)), x6, x7, x8, x9, none, x11, none] ∧ (sv = .val (.lst ps) ∨ sv = .own (.lst ps)) ∧ ps.length = N ∧ (∀ d ∈ ps, OI d) ∧ GD s) ⟨_, _, ps, _, none, none, none, none, rfl, .inl rfl, by omega, h2.oi, by simp (maxDischargeDepth := 20) [g, z1, z2]⟩ ?_ ?_
    · rintro k d ρ e hk ⟨s, sv, ps, c, x6, x8, x9, x11, rfl, hsv, hl, ho, g⟩
      have g2 : GD (dS κ (dS κ s n) n) := by simp (maxDischargeDepth := 20) [g, n1, n2]
      rw [show nameG 6 d [some (.own s), some (.val (.int n)), some (.val (.int N)), some sv, x4, some (.val (.int c)), x6, x7, x8, x9, none, x11, none] = some [some (.own s), some (.val (.int n)), some (.val (.int N)), some sv, x4, some (.val (.int c)), some (.val d), x7, x8, x9, none, x11, none] from rfl, ok_some']
      simp (maxDischargeDepth := 20) [g, n1, n2, n3]
      refine ⟨fun _ => ?_, fun _ => ⟨fun _ => ?_, fun _ => ?_⟩⟩
      · refine bar_ok z5 hsv hl ho fun ps' x11' h1 h2 => ?_
        exact ⟨rfl, _, _, ps', _, _, _, _, _, rfl, .inr rfl, h1, h2, g2⟩
      · refine bar_ok z5 hsv hl ho fun ps' x11' h1 h2 => ?_
        exact ⟨rfl, _, _, ps', _, _, _, _, _, rfl, .inr rfl, h1, h2, g2⟩
      · first | exact ⟨ps, hsv, hl, ho, g2⟩ | exact ⟨ps, hsv, hl, ho⟩
    · rintro ρ ⟨s, sv, ps, c, x6, x8, x9, x11, rfl, hsv, hl, ho, g⟩
      simp (maxDischargeDepth := 20) [g, z0, n1, n2, n3]
      have g5 : GD (dS κ (dS κ s 5) n) := by simp (maxDischargeDepth := 20) [g, n1, n2]
      have g6 : GD (dS κ s 5) := by simp (maxDischargeDepth := 20) [g]
      refine ⟨fun _ => ?_, fun _ => ?_⟩
      · refine spot_ok z5 hsv hl ho fun ps' h1 h2 => ?_
        simp
        exact w _ _ h1 h2 g5
      · rcases hsv with rfl | rfl
        · simp
          exact w _ _ hl ho g6
        · simp
          exact w _ _ hl ho g6
end Ev.W

set_option Elab.async false
set_option linter.all false
set_option maxRecDepth 100000
set_option autoImplicit false
namespace Ev.W
open PySem PySem.Spec PyProof.Rows L2 Ev
variable {κ : String → Nat}
def AB (ps : List D) : Prop := ∀ d ∈ ps, d = .int 0 ∨ d = .int 1
theorem AB.get {ps : List D} {k : Nat} (h : AB ps) (hk : k < ps.length) : ps[k] = .int 0 ∨ ps[k] = .int 1 := h _ (List.getElem_mem hk)
theorem AB.set {ps : List D} {k : Nat} (h : AB ps) : AB (ps.set k (.int 1)) := fun d hd => by
  rcases List.mem_or_eq_of_mem_set hd with hd | rfl
  · exact h d hd
  · exact .inr rfl
theorem AB.snoc {ps : List D} {d : D} (h : AB ps) (hd : d = .int 0 ∨ d = .int 1) : AB (ps ++ [d]) := fun x hx => by
  rcases List.mem_append.1 hx with hx | hx
  · exact h x hx
  · rw [List.mem_singleton.1 hx]; exact hd
theorem and_lt {a b N : Nat} (ha : a < N) : a &&& b < N := Nat.lt_of_le_of_lt Nat.and_le_left ha
/-- one of the two closing loops' inner ones -/
def lb : SM := ifS (andM (boolM (binM eqG (binM atD (varM 3) (varM 4)) (constM (.int 1)))) (boolM (binM eqG (binM atD (varM 3) (varM 8)) (constM (.int 1))))) (putM 3 (binM andG (varM 4) (varM 8)) (constM (.int 1))) nextM
theorem lb_ok {N k : Nat} {s : D} {n : Int} {ks : List D} {x8 : Option SV} {PS : Out × Rho → Prop} (hk : k < N) (hl : ks.length = N) (hb : AB ks)
    (w : ∀ ks' x8', ks'.length = N → AB ks' → PS (.nx, [some (.own s), some (.val (.int n)), some (.val (.int N)), some (.own (.lst ks')), some (.val (.int k)), none, none, none, x8', none, none, none])) :
    Ok (forL (nameG 8) lb (rangeD 0 N) [some (.own s), some (.val (.int n)), some (.val (.int N)), some (.own (.lst ks)), some (.val (.int k)), none, none, none, x8, none, none, none]) PS := by
  refine for_nx (fun _ ρ => ∃ ks x8, ρ = [some (.own s), some (.val (.int n)), some (.val (.int N)), some (.own (.lst ks)), some (.val (.int k)), none, none, none, x8, none, none, none] ∧ ks.length = N ∧ AB ks) ⟨ks, x8, rfl, hl, hb⟩ ?_ ?_
  · rintro j d ρ e hj ⟨ks, x8, rfl, hl, hb⟩
    obtain ⟨rfl, hj⟩ := rangeD_get e
    have h1 := hb.get (k := k) (by omega)
    have h2 := hb.get (k := j) (by omega)
    have hk' : k < ks.length := by omega
    have hj' : j < ks.length := by omega
    have ha : k &&& j < ks.length := by have := and_lt (b := j) hk; omega
    have hbd := nband k j
    unfold lb
    have g1 : ks[k]? = some ks[k] := List.getElem?_eq_getElem hk'
    have g2 : ks[j]? = some ks[j] := List.getElem?_eq_getElem hj'
    rw [hl] at ha
    rcases h1 with h1 | h1 <;> rcases h2 with h2 | h2 <;> rw [h1] at g1 <;> rw [h2] at g2 <;> simp [h1, h2, hk, hj, hbd, ha, hl, hb, hb.set]
  · rintro ρ ⟨ks, x8, rfl, hl, hb⟩
    exact w ks x8 hl hb
theorem least_def (κ : String → Nat) : m__law_least κ = fnM 2 10 [0]
    (seqM (setM 2 (binM shlG (constM (.int 1)) (varM 1)))
    (seqM (setM 3 (compM [7] (rng1 (consD (varM 2) nilD)) (nameG 7) yesM (esc (biM intFG (consA (binM ltG (callM (m__law_draw κ) [0] (consA (varM 0) (consA (constM (.int 8)) nilA))) (constM (.int 5))) nilA)))))
    (seqM (putM 3 (callM (m__law_draw κ) [0] (consA (varM 0) (consA (varM 2) nilA))) (constM (.int 1)))
    (seqM (forM (rng1 (consD (varM 2) nilD)) (nameG 4) (forM (rng1 (consD (varM 2) nilD)) (nameG 8) lb))
    (seqM (forM (revI (lrgM (varM 2))) (nameG 4) (forM (rng1 (consD (varM 2) nilD)) (nameG 8) lb))
    (seqM (setM 5 (binM mulG (lstM (consD (constM .non) nilD)) (varM 2)))
    (seqM (setM 6 (callM (m__law_draw κ) [0] (consA (varM 0) (consA (constM (.int 4)) nilA))))
    (seqM (forM (rng1 (consD (varM 2) nilD)) (nameG 7) (ifS (boolM (binM eqG (binM atD (varM 3) (varM 7)) (constM (.int 1)))) (seqM (setM 9 (compM [10] (rng1 (consD (varM 7) nilD)) (nameG 10) (boolM (binM eqG (binM andG (varM 10) (varM 7)) (varM 10))) (esc (binM atD (varM 5) (varM 10)))))
    (seqM (setM 9 (compM [11] (nameI 9) (nameG 11) (boolM (binM isnG (varM 11) (constM .non))) (esc (varM 11))))
    (putM 5 (varM 7) (binM addG (biM maxG (consA (binM addG (lstM (consD (varM 6) nilD)) (varM 9)) nilA)) (binM mulG (callM (m__law_draw κ) [0] (consA (varM 0) (consA (constM (.int 3)) nilA))) (callM (m__law_draw κ) [0] (consA (varM 0) (consA (constM (.int 4)) nilA)))))))) nextM))
    (retM (tupM (consD (varM 1) (consD (biM tupleG (consA (varM 5) nilA)) nilD)))))))))))) := rfl
theorem intsOf_all : ∀ {ds : List D}, (∀ d ∈ ds, ∃ k, d = .int k) → ∃ ns, intsOf ds = some ns ∧ ns.length = ds.length
  | [], _ => ⟨[], rfl, rfl⟩
  | d :: ds, h => by
    obtain ⟨k, rfl⟩ := h d (by simp)
    obtain ⟨ns, e, hl⟩ := intsOf_all fun d hd => h d (List.mem_cons_of_mem _ hd)
    exact ⟨k :: ns, by rw [intsOf, e], by simp [hl]⟩
theorem maxI_some {l : List Int} (h : l ≠ []) : ∃ m, maxI l = some m := by
  cases l with
  | nil => exact absurd rfl h
  | cons a l => exact ⟨_, rfl⟩
theorem least_ok {s : D} {n : Nat} {P : Opd × Rho → Prop} (g : GD s) (hn : n ≤ 4)
    (w : ∀ ps s', ps.length = 2 ^ n → (∀ d ∈ ps, OI d) → GD s' → P (.val (.tup [.int n, .tup ps]), [some (.own s'), none])) : Ok (m__law_least κ [.own s, .val (.int n)]) P := by
  obtain ⟨N, hN, hZ, a1, a2⟩ := pow_facts hn
  rw [hN] at w
  have z0 : inR N = true := inR_nat (by omega)
  have z1 : (1 : Int) ≤ N := by omega
  have z2 : (N : Int) < 1152921504606846976 := by omega
  have z3 : RepOk 1 N := repOk_small (by omega) (by omega) (by decide)
  have z4 : (N : Nat) ≤ 2 ^ 24 := by omega
  rw [least_def, ok_fnM]
  simp [hZ, show (n : Int) ≤ 1000000 by omega, z0]
  refine comp_st (fun k acc ρ => ∃ s, ρ = [some (.own s), some (.val (.int n)), some (.val (.int N)), none, none, none, none, none, none, none, none, none] ∧ acc.length = k ∧ AB acc ∧ GD s) ⟨s, rfl, rfl, (fun d hd => by cases hd), g⟩ ?_ ?_
  · rintro k d acc ρ e hk ⟨s, rfl, hl, hb, g⟩
    simp at hk
    have hs : acc.length ≤ 1000 := by omega
    simp [g, hs, hl, show k ≤ 1000 by omega]
    refine hb.snoc ?_
    split
    · exact .inr rfl
    · exact .inl rfl
  · rintro acc ρ ⟨s, rfl, hl, hb, g⟩
    simp at hl
    have b1 := dR_lo (κ := κ) g z1 z2
    have b2 := dR_hi (κ := κ) g z1 z2
    simp [g, z1, z2]
    rw [ixN_pos b1 (by omega)]
    simp [z0]
    have gN : GD (dS κ s N) := by simp [g, z1, z2]
    refine for_nx (fun k ρ => ∃ ks x4 x8, ρ = [some (.own (dS κ s N)), some (.val (.int n)), some (.val (.int N)), some (.own (.lst ks)), x4, none, none, none, x8, none, none, none] ∧ ks.length = N ∧ AB ks) ⟨_, none, none, rfl, by simp [hl], hb.set⟩ ?_ ?_
    · rintro k d ρ e hk ⟨ks, x4, x8, rfl, hl, hb⟩
      obtain ⟨rfl, hk⟩ := rangeD_get e
      simp [z0]
      refine lb_ok hk hl hb fun ks' x8' h1 h2 => ?_
      simp [h1, h2]
    · rintro ρ ⟨ks, x4, x8, rfl, hl, hb⟩
      simp [z0, z4]
      refine for_nx (fun k ρ => ∃ ks x4 x8, ρ = [some (.own (dS κ s N)), some (.val (.int n)), some (.val (.int N)), some (.own (.lst ks)), x4, none, none, none, x8, none, none, none] ∧ ks.length = N ∧ AB ks) ⟨_, _, _, rfl, hl, hb⟩ ?_ ?_
      · rintro k d ρ e hk ⟨ks, x4, x8, rfl, hl, hb⟩
        obtain ⟨j, rfl, hj⟩ := rangeD_mem (List.mem_reverse.1 (List.mem_of_getElem? e))
        simp [z0]
        refine lb_ok hj hl hb fun ks' x8' h1 h2 => ?_
        simp [h1, h2]
      · rintro ρ ⟨ks, x4, x8, rfl, hl, hb⟩
        simp [z0, z3, gN]
        have gB : GD (dS κ (dS κ s N) 4) := by simp [gN]
        generalize dR κ (dS κ s N) 4 = base
        refine for_nx (fun k ρ => ∃ s ps x7 x9, ρ = [some (.own s), some (.val (.int n)), some (.val (.int N)), some (.own (.lst ks)), x4, some (.own (.lst ps)), some (.val (.int base)), x7, x8, x9, none, none] ∧ ps.length = N ∧ (∀ d ∈ ps, OI d) ∧ GD s) ⟨_, _, _, _, rfl, by simp, fun d hd => by rw [List.eq_of_mem_replicate hd]; simp, gB⟩ ?_ ?_
        · rintro k d ρ e hk ⟨s, ps, x7, x9, rfl, hpl, hpo, g⟩
          obtain ⟨rfl, hk⟩ := rangeD_get e
          have h1 := hb.get (k := k) (by omega)
          have g1 : ks[k]? = some ks[k] := List.getElem?_eq_getElem (by omega)
          have hi : inR (k : Int) = true := inR_nat (by omega)
          rcases h1 with h1 | h1 <;> rw [h1] at g1
          · simp [h1, hl, hk, hpl, g]
            exact hpo
          · simp [h1, hl, hk, hi]
            refine comp_st (fun j acc ρ => ρ = [some (.own s), some (.val (.int n)), some (.val (.int N)), some (.own (.lst ks)), x4, some (.own (.lst ps)), some (.val (.int base)), some (.val (.int k)), x8, x9, none, none] ∧ (∀ d ∈ acc, OI d) ∧ acc.length ≤ j) ⟨rfl, by simp, by simp⟩ ?_ ?_
            · rintro j d acc ρ e hj ⟨rfl, ho, hal⟩
              obtain ⟨rfl, hj⟩ := rangeD_get e
              have hjN : j < N := by omega
              have hpj : OI ps[j] := hpo _ (List.getElem_mem (by omega))
              have hbd := nband j k
              have hs : acc.length ≤ 1000 := by omega
              simp [hpl, hjN, hbd, hs]
              refine Br.mk (fun _ => ⟨?_, by omega⟩) (fun _ => ⟨ho, by omega⟩)
              rintro d (hd | rfl)
              · exact ho d hd
              · exact hpj
            · rintro acc ρ ⟨rfl, ho, hal⟩
              simp at hal
              simp
              refine comp_st (fun j acc' ρ => ρ = [some (.own s), some (.val (.int n)), some (.val (.int N)), some (.own (.lst ks)), x4, some (.own (.lst ps)), some (.val (.int base)), some (.val (.int k)), x8, some (.lck (.lst acc)), none, none] ∧ (∀ d ∈ acc', ∃ k, d = .int k) ∧ acc'.length ≤ j) ⟨rfl, by simp, by simp⟩ ?_ ?_
              · rintro j d acc' ρ e hj ⟨rfl, hi2, hal2⟩
                have hd := ho d (List.mem_of_getElem? e)
                have hs : acc'.length ≤ 1000 := by omega
                rcases hd with rfl | ⟨v, rfl⟩
                · simp
                  exact ⟨hi2, by omega⟩
                · simp [hs]
                  refine ⟨?_, by omega⟩
                  rintro d (hd | rfl)
                  · exact hi2 d hd
                  · exact ⟨_, rfl⟩
              · rintro acc' ρ ⟨rfl, hi2, hal2⟩
                obtain ⟨ns, hns, hnl⟩ := intsOf_all (ds := .int base :: acc') (fun d hd => by
                  rcases List.mem_cons.1 hd with rfl | hd
                  · exact ⟨_, rfl⟩
                  · exact hi2 d hd)
                obtain ⟨m, hm⟩ := maxI_some (l := ns) (by intro e; rw [e] at hnl; simp at hnl)
                have hmx := maxG_lst hns hm
                have c1 := dR_lo (κ := κ) (k := 3) g (by omega) (by omega)
                have c2 := dR_hi (κ := κ) (k := 3) g (by omega) (by omega)
                simp [hmx, g, hpl, hk]
                refine ⟨sz_le (by omega), fun d hd => ?_⟩
                rcases List.mem_or_eq_of_mem_set hd with hd | rfl
                · exact hpo d hd
                · simp
        · rintro ρ ⟨s, ps, x7, x9, rfl, hpl, hpo, g⟩
          simp
          exact w _ _ hpl hpo g
end Ev.W

set_option Elab.async false
set_option linter.all false
set_option maxRecDepth 100000
set_option autoImplicit false
namespace Ev.W
open PySem PySem.Spec PyProof.Rows L2 Ev
variable {κ : String → Nat}
def pop (x : Nat) : Nat := x % 2 + x / 2 % 2 + x / 4 % 2 + x / 8 % 2
theorem pop_step : ∀ x < 16, 0 < x → pop (x &&& (x - 1)) + 1 = pop x ∧ (x &&& (x - 1)) < x := by decide
theorem ones_eq {x : Nat} (h : x < 16) : m__law_ones κ [.val (.int x)] = some (.val (.int (pop x)), [none]) := by
  apply Ok.eq
  rw [m__law_ones, ok_fnM]
  simp [whileM]
  refine whileL_inv (fun ρ => ∃ y m : Nat, ρ = [some (.val (.int y)), some (.val (.int m))] ∧ y < 16 ∧ m + pop y = pop x) (slN 0) lots _ (by simp [lots, slN]; omega) ⟨x, 0, by simp, h, by simp⟩ ?_
  rintro ρ ⟨y, m, rfl, h1, h2⟩
  simp [Br, slN]
  refine ⟨fun h3 => ?_, fun h3 => ?_⟩
  · have h4 := pop_step y h1 h3
    have e : (y : Int) - 1 = ((y - 1 : Nat) : Int) := by omega
    rw [e, nband]
    simp
    exact ⟨⟨y &&& (y - 1), m + 1, ⟨rfl, by omega⟩, by omega, by omega⟩, h4.2⟩
  · subst h3
    simp [pop] at h2
    simp [h2, pop]
theorem eqG_t2 {a b c d : Int} : eqG (.tup [.int a, .int b]) (.tup [.int c, .int d]) = some (.val (.bl (decide ([a, b] = [c, d])))) := by unfold eqG; rw [eqD_tup (xs := [a, b]) (ys := [c, d]) rfl rfl]
theorem neG_t2 {a b c d : Int} : neG (.tup [.int a, .int b]) (.tup [.int c, .int d]) = some (.val (.bl (!decide ([a, b] = [c, d])))) := by unfold neG; rw [eqD_tup (xs := [a, b]) (ys := [c, d]) rfl rfl]
theorem AOI_set {ps : List D} {k : Nat} (h : ∀ d ∈ ps, OI d) {x : D} (hx : OI x) : ∀ d ∈ ps.set k x, OI d := fun d hd => by
  rcases List.mem_or_eq_of_mem_set hd with hd | rfl
  · exact h d hd
  · exact hx
theorem twos_ok {s : D} {n : Nat} {P : Opd × Rho → Prop} (g : GD s) (h1 : 1 ≤ n) (hn : n ≤ 4)
    (w : ∀ ps s', ps.length = 2 ^ n → (∀ d ∈ ps, OI d) → GD s' → P (.val (.tup [.int n, .tup ps]), [some (.own s'), none])) : Ok (m__law_twos κ [.own s, .val (.int n)]) P := by
  obtain ⟨N, hN, hZ, a1, a2⟩ := pow_facts hn
  rw [hN] at w
  have z0 : inR N = true := inR_nat (by omega)
  have z1 : (1 : Int) ≤ N := by omega
  have z2 : (N : Int) < 1152921504606846976 := by omega
  have z3 : RepOk 1 N := repOk_small (by omega) (by omega) (by decide)
  have n1 : (1 : Int) ≤ n := by omega
  have n2 : (n : Int) < 1152921504606846976 := by omega
  rw [m__law_twos, ok_fnM]
  simp [hZ, show (n : Int) ≤ 1000000 by omega]
  refine cost_ok g fun r s' r0 r1 g => ?_
  have b1 := dR_lo (κ := κ) g z1 z2
  obtain ⟨sv, hsv⟩ : ∃ q : Nat, dR κ s' N = q := ⟨_, (Int.toNat_of_nonneg b1).symm⟩
  have gN : GD (dS κ s' N) := by simp [g, z1, z2]
  simp (maxDischargeDepth := 20) [g, z1, z2, z3, gN, hsv]
  refine for_nx (fun k ρ => ∃ s ps x6 x7 x8 x9 x10, ρ = [some (.own s), some (.val (.int n)), some (.val (.int N)), some (.val (.int r)), some (.val (.int sv)), some (.own (.lst ps)), x6, x7, x8, x9, x10] ∧ ps.length = N ∧ (∀ d ∈ ps, OI d) ∧ GD s) ⟨_, _, _, _, _, _, _, rfl, by simp, fun d hd => by rw [List.eq_of_mem_replicate hd]; simp, by simp [gN]⟩ ?_ ?_
  · rintro k d ρ e hk ⟨s, ps, x6, x7, x8, x9, x10, rfl, hl, ho, g⟩
    have c1 := dR_lo (κ := κ) g n1 n2
    have c2 := dR_hi (κ := κ) g n1 n2
    have g2 : GD (dS κ s n) := by simp [g, n1, n2]
    have d1 := dR_lo (κ := κ) g2 n1 n2
    have d2 := dR_hi (κ := κ) g2 n1 n2
    obtain ⟨p1, hp1⟩ : ∃ q : Nat, dR κ s n = q := ⟨_, (Int.toNat_of_nonneg c1).symm⟩
    obtain ⟨p2, hp2⟩ : ∃ q : Nat, dR κ (dS κ s n) n = q := ⟨_, (Int.toNat_of_nonneg d1).symm⟩
    have g3 : GD (dS κ (dS κ s n) n) := by simp [g2, n1, n2]
    have g4 : GD (dS κ (dS κ (dS κ s n) n) 2) := by simp [g3]
    have g5 : GD (dS κ (dS κ (dS κ (dS κ s n) n) 2) 2) := by simp [g4]
    simp (maxDischargeDepth := 20) [g, g2, g3, g4, n1, n2, hp1, hp2, z0]
    generalize dS κ (dS κ (dS κ (dS κ s n) n) 2) 2 = s5 at *
    generalize dR κ (dS κ (dS κ s n) n) 2 = q1
    generalize dR κ (dS κ (dS κ (dS κ s n) n) 2) 2 = q2
    refine for_nx (fun _ ρ => ∃ ps x10, ρ = [some (.own s5), some (.val (.int n)), some (.val (.int N)), some (.val (.int r)), some (.val (.int sv)), some (.own (.lst ps)), some (.val d), some (.val (.int p1)), some (.val (.int p2)), some (.val (.tup [.int q1, .int q2])), x10] ∧ ps.length = N ∧ (∀ d ∈ ps, OI d)) ⟨_, _, rfl, hl, ho⟩ ?_ ?_
    · rintro j d' ρ e hj ⟨ps, x10, rfl, hl, ho⟩
      obtain ⟨rfl, hj⟩ := rangeD_get e
      simp (maxDischargeDepth := 20) [show (p1 : Int) ≤ 1000000 by omega, show (p2 : Int) ≤ 1000000 by omega, eqG_t2, neG_t2, Br, hl, hj]
      have hs := AOI_set ho (k := j) (x := .non) (by simp)
      exact ⟨fun _ _ => ⟨fun _ => ⟨fun _ => hs, fun _ _ => ho⟩, fun _ => ho⟩, fun _ => ho⟩
    · rintro ρ ⟨ps, x10, rfl, hl, ho⟩
      simp [hl, g5]
      exact ho
  · rintro ρ ⟨s, ps, x6, x7, x8, x9, x10, rfl, hl, ho, g⟩
    simp
    exact w _ _ hl ho g
theorem sums_ok {s : D} {n : Nat} {P : Opd × Rho → Prop} (g : GD s) (h1 : 1 ≤ n) (hn : n ≤ 4)
    (w : ∀ ps s', ps.length = 2 ^ n → (∀ d ∈ ps, OI d) → GD s' → P (.val (.tup [.int n, .tup ps]), [some (.own s'), none])) : Ok (m__law_sums κ [.own s, .val (.int n)]) P := by
  obtain ⟨N, hN, hZ, a1, a2⟩ := pow_facts hn
  rw [hN] at w
  have z0 : inR N = true := inR_nat (by omega)
  have z1 : (1 : Int) ≤ N := by omega
  have z2 : (N : Int) < 1152921504606846976 := by omega
  have z3 : RepOk 1 N := repOk_small (by omega) (by omega) (by decide)
  rw [m__law_sums, ok_fnM]
  simp [hZ, show (n : Int) ≤ 1000000 by omega]
  refine cost_ok g fun r s' r0 r1 g => ?_
  have b1 := dR_lo (κ := κ) g z1 z2
  have b2 := dR_hi (κ := κ) g z1 z2
  obtain ⟨sv, hsv⟩ : ∃ q : Nat, dR κ s' N = q := ⟨_, (Int.toNat_of_nonneg b1).symm⟩
  have gN : GD (dS κ s' N) := by simp [g, z1, z2]
  simp (maxDischargeDepth := 20) [g, z1, z2, z3, gN, hsv]
  refine for_nx (fun k ρ => ∃ s ps x6 x7 x8, ρ = [some (.own s), some (.val (.int n)), some (.val (.int N)), some (.val (.int r)), some (.val (.int sv)), some (.own (.lst ps)), x6, x7, x8] ∧ ps.length = N ∧ (∀ d ∈ ps, OI d) ∧ GD s) ⟨_, _, _, _, _, rfl, by simp, fun d hd => by rw [List.eq_of_mem_replicate hd]; simp, by simp [gN]⟩ ?_ ?_
  · rintro k d ρ e hk ⟨s, ps, x6, x7, x8, rfl, hl, ho, g⟩
    have c1 := dR_lo (κ := κ) g z1 z2
    have c2 := dR_hi (κ := κ) g z1 z2
    have g2 : GD (dS κ s N) := by simp [g, z1, z2]
    obtain ⟨mk, hmk⟩ : ∃ q : Nat, dR κ s N = q := ⟨_, (Int.toNat_of_nonneg c1).symm⟩
    simp [g, z1, z2, hmk, z0]
    refine for_nx (fun _ ρ => ∃ ps x8, ρ = [some (.own (dS κ s N)), some (.val (.int n)), some (.val (.int N)), some (.val (.int r)), some (.val (.int sv)), some (.own (.lst ps)), some (.val d), some (.val (.int mk)), x8] ∧ ps.length = N ∧ (∀ d ∈ ps, OI d)) ⟨_, _, rfl, hl, ho⟩ ?_ ?_
    · rintro j d' ρ e hj ⟨ps, x8, rfl, hl, ho⟩
      obtain ⟨rfl, hj⟩ := rangeD_get e
      have hs := AOI_set ho (k := j) (x := .non) (by simp)
      have h5 : j &&& mk < 16 := and_lt (by omega)
      have h6 : sv &&& mk < 16 := and_lt (by omega)
      simp [nband, ones_eq h5, ones_eq h6, Br, hl, hj]
      exact ⟨fun _ => hs, fun _ => ho⟩
    · rintro ρ ⟨ps, x8, rfl, hl, ho⟩
      simp [hl, g2]
      exact ho
  · rintro ρ ⟨s, ps, x6, x7, x8, rfl, hl, ho, g⟩
    simp
    exact w _ _ hl ho g
/-- lists of small numbers -/
def AN (N : Nat) (l : List D) : Prop := ∀ d ∈ l, ∃ k : Nat, d = .int k ∧ k < N
theorem AN.get {N k : Nat} {l : List D} (h : AN N l) (hk : k < l.length) : ∃ j : Nat, l[k] = .int j ∧ j < N := h _ (List.getElem_mem hk)
theorem AN.set {N k j : Nat} {l : List D} (h : AN N l) (hj : j < N) : AN N (l.set k (.int j)) := fun d hd => by
  rcases List.mem_or_eq_of_mem_set hd with hd | rfl
  · exact h d hd
  · exact ⟨j, rfl, hj⟩
theorem cutL_drop1 {α : Type} (xs : List α) : cutL xs (some 1) none = xs.drop 1 := by
  unfold cutL
  cases xs with
  | nil => simp
  | cons a xs =>
    have h1 : HT.sIx (a :: xs).length 0 (some 1) = 1 := by simp [HT.sIx]
    have h2 : HT.sIx (a :: xs).length (a :: xs).length none = (a :: xs).length := rfl
    rw [h1, h2]
    simp
@[simp] theorem cutD_drop1 {xs : List D} : cutD (.lst xs) (some 1) none = some (.tmp (.lst (xs.drop 1))) := by simp [cutD, cutL_drop1]
theorem ties_ok {s : D} {n : Nat} {P : Opd × Rho → Prop} (g : GD s) (h1 : 1 ≤ n) (hn : n ≤ 4)
    (w : ∀ ps s', ps.length = 2 ^ n → (∀ d ∈ ps, OI d) → GD s' → P (.val (.tup [.int n, .tup ps]), [some (.own s'), none])) : Ok (m__law_ties κ [.own s, .val (.int n)]) P := by
  obtain ⟨N, hN, hZ, a1, a2⟩ := pow_facts hn
  rw [hN] at w
  have z0 : inR N = true := inR_nat (by omega)
  have z1 : (1 : Int) ≤ N := by omega
  have z2 : (N : Int) < 1152921504606846976 := by omega
  have z3 : RepOk 1 N := repOk_small (by omega) (by omega) (by decide)
  have n1 : (1 : Int) ≤ (n : Int) + 1 := by omega
  have n2 : (n : Int) + 1 < 1152921504606846976 := by omega
  have z4 : RepOk 1 ((n : Int) + 1) := repOk_small (by omega) (by omega) (by decide)
  rw [m__law_ties, ok_fnM]
  simp (maxDischargeDepth := 20) [hZ, g, n1, n2, z4, show n ≤ 1000 by omega, show (n : Int) ≤ 1000000 by omega]
  refine for_nx (fun k ρ => ∃ s ms x4 x11, ρ = [some (.own s), some (.val (.int n)), some (.val (.int N)), some (.own (.lst ms)), x4, none, none, none, none, none, none, x11, none, none, none, none] ∧ ms.length = n + 1 ∧ AN N ms ∧ GD s) ⟨_, _, none, none, rfl, by simp, fun d hd => ⟨0, List.eq_of_mem_replicate hd, by omega⟩, g⟩ ?_ ?_
  · rintro k d ρ e hk ⟨s, ms, x4, x11, rfl, hl, hm, g⟩
    obtain ⟨rfl, hk⟩ := rangeD_get e
    have b1 := dR_lo (κ := κ) g n1 n2
    have b2 := dR_hi (κ := κ) g n1 n2
    obtain ⟨r, hr⟩ : ∃ r : Nat, dR κ s (n + 1) = r := ⟨_, (Int.toNat_of_nonneg b1).symm⟩
    have hrn : r < n + 1 := by omega
    obtain ⟨j, hj, hjN⟩ := hm.get (k := r) (by omega)
    have hor : Builtin.bitOr (j : Int) (2 ^ k) = ((j ||| 2 ^ k : Nat) : Int) := by rw [← nbor]; simp
    have hlt : j ||| 2 ^ k < N := by
      rw [← hN] at hjN ⊢
      exact Nat.or_lt_two_pow hjN (Nat.pow_lt_pow_right (by decide) hk)
    simp [g, n1, n2, hr, hl, hrn, hj, hor]
    exact ⟨by omega, hm.set hlt⟩
  · rintro ρ ⟨s, ms, x4, x11, rfl, hl, hm, g⟩
    simp
    refine comp_st (fun k acc ρ => ρ = [some (.own s), some (.val (.int n)), some (.val (.int N)), some (.own (.lst ms)), x4, none, none, none, none, none, none, x11, none, none, none, none] ∧ acc.length ≤ k ∧ AN N acc) ⟨rfl, by simp, (fun d hd => by cases hd)⟩ ?_ ?_
    · rintro k d acc ρ e hk ⟨rfl, hal, ha⟩
      obtain ⟨j, rfl, hj⟩ := hm d (List.mem_of_mem_tail (List.mem_of_getElem? e))
      simp [hl] at hk
      have hs : acc.length ≤ 1000 := by omega
      simp [hs]
      refine Br.mk (fun _ => ⟨by omega, fun d hd => ?_⟩) (fun _ => ⟨by omega, ha⟩)
      rcases List.mem_append.1 hd with hd | hd
      · exact ha d hd
      · rw [List.mem_singleton.1 hd]; exact ⟨j, rfl, hj⟩
    · rintro L ρ ⟨rfl, hLl, hLn⟩
      simp [hl] at hLl
      simp
      refine comp_st (fun k acc ρ => ∃ s, ρ = [some (.own s), some (.val (.int n)), some (.val (.int N)), some (.own (.lst ms)), x4, some (.lck (.lst L)), none, none, none, none, none, x11, none, none, none, none] ∧ acc.length = k ∧ (∀ d ∈ acc, ∃ k, d = .int k) ∧ GD s) ⟨s, rfl, rfl, by simp, g⟩ ?_ ?_
      · rintro k d acc ρ e hk ⟨s, rfl, hal, ha, g⟩
        have hs : acc.length ≤ 1000 := by omega
        simp [g, hs, hal, show k ≤ 1000 by omega]
        rintro d (hd | rfl)
        · exact ha d hd
        · exact ⟨_, rfl⟩
      · rintro gs ρ ⟨s, rfl, hgl, hg, g⟩
        have iL : inR (2 ^ L.length) = true ∧ ((2 : Int) ^ L.length).toNat ≤ 1000 := by
          obtain ⟨K, hK, hY, b1, b2⟩ := pow_facts (show L.length ≤ 4 by omega)
          rw [hY]; exact ⟨inR_nat (by omega), by omega⟩
        have hiL : inR (L.length : Int) = true := inR_nat (by omega)
        have gN : GD (dS κ s N) := by simp [g, z1, z2]
        have b1 := dR_lo (κ := κ) g z1 z2
        have b2 := dR_hi (κ := κ) g z1 z2
        obtain ⟨sv, hsv⟩ : ∃ q : Nat, dR κ s N = q := ⟨_, (Int.toNat_of_nonneg b1).symm⟩
        simp (maxDischargeDepth := 20) [g, z1, z2, z3, gN, iL.1, show (L.length : Int) ≤ 1000000 by omega, hsv]
        have gM : GD (dS κ (dS κ s N) 4) := by simp [gN]
        generalize dS κ (dS κ s N) 4 = s' at *
        generalize 5 * (L.length : Int) + dR κ (dS κ s N) 4 = base at *
        refine for_nx (fun k ρ => ∃ ps x10 x12 x13 x14, ρ = [some (.own s'), some (.val (.int n)), some (.val (.int N)), some (.own (.lst ms)), x4, some (.own (.lst L)), some (.own (.lst gs)), some (.val (.int sv)), some (.val (.int base)), some (.own (.lst ps)), x10, x11, x12, x13, x14, none] ∧ ps.length = N ∧ (∀ d ∈ ps, OI d)) ⟨_, none, none, none, none, rfl, by simp, fun d hd => by rw [List.eq_of_mem_replicate hd]; simp⟩ ?_ ?_
        · rintro k d ρ e hk ⟨ps, x10, x12, x13, x14, rfl, hpl, hpo⟩
          obtain ⟨rfl, hk⟩ := rangeD_get e
          simp [hiL]
          refine for_nx (fun j ρ => ∃ (a : Nat) (c : Int) (x14 : Option SV), ρ = [some (.own s'), some (.val (.int n)), some (.val (.int N)), some (.own (.lst ms)), x4, some (.own (.lst L)), some (.own (.lst gs)), some (.val (.int sv)), some (.val (.int base)), some (.own (.lst ps)), some (.val (.int k)), x11, some (.val (.int a)), some (.val (.int c)), x14, none] ∧ a < N) ⟨sv, base, x14, rfl, by omega⟩ ?_ ?_
          · rintro j d ρ e hj ⟨a, c, x14, rfl, hlt⟩
            obtain ⟨rfl, hj⟩ := rangeD_get e
            obtain ⟨m, hm2, hmN⟩ := hLn.get hj
            have hjg : j < gs.length := by omega
            obtain ⟨gv, hgv⟩ := hg _ (List.getElem_mem hjg)
            have hx := nbxor (show a < 16 by omega) (show m < 16 by omega)
            have hxl : a ^^^ m < N := by
              rw [← hN] at hlt hmN ⊢
              exact Nat.xor_lt_two_pow hlt hmN
            simp [band1, hj, hjg, hm2, hgv, hx]
            exact ⟨fun _ => ⟨_, rfl, hxl⟩, fun _ => ⟨_, rfl, hlt⟩⟩
          · rintro ρ ⟨a, c, x14, rfl, hlt⟩
            simp [hpl, hlt]
            exact AOI_set hpo (by simp)
        · rintro ρ ⟨ps, x10, x12, x13, x14, rfl, hpl, hpo⟩
          simp
          exact w _ _ hpl hpo gM
end Ev.W

set_option Elab.async false
set_option linter.all false
set_option maxRecDepth 100000
set_option autoImplicit false
namespace Ev.W
open PySem PySem.Spec PyProof.Rows L2 Ev
variable {κ : String → Nat}
/-- a table of a lot -/
structure Tb where
  n : Nat
  P : Nat → Option Int
def Tb.d (t : Tb) : D := .tup [.int t.n, .tup (pD t.P (2 ^ t.n))]
def Tb.ok (t : Tb) : Prop := 1 ≤ t.n ∧ t.n ≤ 4
def lotD (L : List Tb) : List D := L.map Tb.d
@[simp] theorem lotD_len {L : List Tb} : (lotD L).length = L.length := by simp [lotD]
@[simp] theorem lotD_getE {L : List Tb} {k : Nat} (h : k < (lotD L).length) : (lotD L)[k] = (L[k]'(by simpa using h)).d := by simp [lotD]
def lotOk (L : List Tb) : Prop := ∀ t ∈ L, t.ok
def ofPs (ps : List D) (k : Nat) : Option Int := match ps[k]? with
  | some (.int v) => some v
  | _ => none
theorem ofPs_eq {ps : List D} {N : Nat} (hl : ps.length = N) (ho : ∀ d ∈ ps, OI d) : ps = pD (ofPs ps) N := by
  apply List.ext_getElem?
  intro k
  by_cases h : k < N
  · have hk : k < ps.length := by omega
    rw [pD_get, if_pos h, List.getElem?_eq_getElem hk]
    congr 1
    unfold ofPs
    rw [List.getElem?_eq_getElem hk]
    rcases ho _ (List.getElem_mem hk) with e | ⟨v, e⟩ <;> rw [e] <;> rfl
  · rw [pD_get, if_neg h, List.getElem?_eq_none (by omega)]
theorem tb_of {n : Nat} {ps : List D} (h1 : 1 ≤ n) (h4 : n ≤ 4) (hl : ps.length = 2 ^ n) (ho : ∀ d ∈ ps, OI d) : ∃ t : Tb, t.ok ∧ D.tup [.int n, .tup ps] = t.d := ⟨⟨n, ofPs ps⟩, ⟨h1, h4⟩, by unfold Tb.d; rw [← ofPs_eq hl ho]⟩
def kindsL : List Str := ["zero", "one", "least", "greatest", "cut", "twos", "sums", "ties"]
theorem kinds_eq : m__law_kinds κ [] = some (.tmp (.lst (kindsL.map D.str)), []) := by
  apply Ok.eq
  rw [m__law_kinds, ok_fnM]
  simp [kindsL]
theorem strs_ok : ∀ k ∈ kindsL, PyData.strOk k = true := by decide +kernel
theorem eq_kind {k l : Str} (hk : k ∈ kindsL) (hl : l ∈ kindsL) : eqG (.str k) (.str l) = some (.val (.bl (k == l))) := eqG_str (strs_ok k hk) (strs_ok l hl)
theorem m0 : (Str.ofString "zero") ∈ kindsL := by simp [kindsL]
theorem m1 : (Str.ofString "one") ∈ kindsL := by simp [kindsL]
theorem m2 : (Str.ofString "least") ∈ kindsL := by simp [kindsL]
theorem m3 : (Str.ofString "greatest") ∈ kindsL := by simp [kindsL]
theorem m4 : (Str.ofString "cut") ∈ kindsL := by simp [kindsL]
theorem m5 : (Str.ofString "twos") ∈ kindsL := by simp [kindsL]
theorem m6 : (Str.ofString "sums") ∈ kindsL := by simp [kindsL]
theorem m7 : (Str.ofString "ties") ∈ kindsL := by simp [kindsL]
theorem kind_table_ok {s : D} {kd : Str} {n : Nat} {P : Opd × Rho → Prop} (g : GD s) (hk : kd ∈ kindsL) (h1 : 1 ≤ n) (h4 : n ≤ 4)
    (w : ∀ t s', Tb.ok t → GD s' → P (.val t.d, [some (.own s'), none, none])) : Ok (m__law_kind_table κ [.own s, .val (.str kd), .val (.int n)]) P := by
  have w2 : ∀ ps s', ps.length = 2 ^ n → (∀ d ∈ ps, OI d) → GD s' → P (.val (.tup [.int n, .tup ps]), [some (.own s'), none, none]) := fun ps s' hl ho g => by
    obtain ⟨t, ht, e⟩ := tb_of h1 h4 hl ho
    rw [e]; exact w t s' ht g
  have w3 : ∀ ps : List D, ps.length = 2 ^ n → ps.length ≤ 1000 := fun ps h => by obtain ⟨N, hN, _⟩ := pow_facts h4; omega
  rw [m__law_kind_table, ok_fnM]
  simp [eq_kind hk m0, eq_kind hk m1, eq_kind hk m2, eq_kind hk m3, eq_kind hk m4, eq_kind hk m5, eq_kind hk m6]
  refine Br.mk (fun _ => ?_) (fun _ => Br.mk (fun _ => ?_) (fun _ => Br.mk (fun _ => ?_) (fun _ => Br.mk (fun _ => ?_) (fun _ => Br.mk (fun _ => ?_) (fun _ => Br.mk (fun _ => ?_) (fun _ => Br.mk (fun _ => ?_) (fun _ => ?_)))))))
  · refine zero_ok g h4 fun ps s' hl ho g => ?_
    simp
    exact w2 _ _ hl ho g
  · refine zero_ok g h4 fun ps s' hl ho g => ?_
    simp [turned_eq (κ := κ) (n := n) (w3 ps hl)]
    exact w2 _ _ (by simpa using hl) (fun d hd => ho d (by simpa using hd)) g
  · refine least_ok g h4 fun ps s' hl ho g => ?_
    simp
    exact w2 _ _ hl ho g
  · refine least_ok g h4 fun ps s' hl ho g => ?_
    simp [turned_eq (κ := κ) (n := n) (w3 ps hl)]
    exact w2 _ _ (by simpa using hl) (fun d hd => ho d (by simpa using hd)) g
  · refine cut_ok g h1 h4 fun ps s' hl ho g => ?_
    simp
    exact w2 _ _ hl ho g
  · refine twos_ok g h1 h4 fun ps s' hl ho g => ?_
    simp
    exact w2 _ _ hl ho g
  · refine sums_ok g h1 h4 fun ps s' hl ho g => ?_
    simp
    exact w2 _ _ hl ho g
  · refine ties_ok g h1 h4 fun ps s' hl ho g => ?_
    simp
    exact w2 _ _ hl ho g
theorem lot_snoc {L : List Tb} {t : Tb} : lotD L ++ [t.d] = lotD (L ++ [t]) := by simp [lotD]
theorem lotOk_snoc {L : List Tb} {t : Tb} (h : lotOk L) (ht : t.ok) : lotOk (L ++ [t]) := fun x hx => by
  rcases List.mem_append.1 hx with hx | hx
  · exact h x hx
  · rw [List.mem_singleton.1 hx]; exact ht
theorem kind_lot_ok {s : D} {kd : Str} {many places : Nat} {P : Opd × Rho → Prop} (g : GD s) (hk : kd ∈ kindsL) (hm : many ≤ 1000) (h1 : 1 ≤ places) (h4 : places ≤ 4)
    (w : ∀ L s', lotOk L → L.length = many → GD s' → P (.tmp (.lst (lotD L)), [some (.own s'), none, none, none])) : Ok (m__law_kind_lot κ [.own s, .val (.str kd), .val (.int many), .val (.int places)]) P := by
  rw [m__law_kind_lot, ok_fnM]
  have n1 : (1 : Int) ≤ places := by omega
  have n2 : (places : Int) < 1152921504606846976 := by omega
  simp [hm]
  refine comp_st (fun k acc ρ => ∃ s L, acc = lotD L ∧ ρ = [some (.own s), some (.val (.str kd)), some (.val (.int many)), some (.val (.int places)), none] ∧ L.length = k ∧ lotOk L ∧ GD s) ⟨s, [], rfl, rfl, rfl, (fun t ht => by cases ht), g⟩ ?_ ?_
  · rintro k d acc ρ e hk2 ⟨s, L, rfl, rfl, hl, hL, g⟩
    simp at hk2
    have b1 := dR_lo (κ := κ) g n1 n2
    have b2 := dR_hi (κ := κ) g n1 n2
    obtain ⟨q, hq⟩ : ∃ q : Nat, 1 + dR κ s places = q := ⟨(1 + dR κ s places).toNat, by omega⟩
    simp [g, n1, n2, hq]
    refine kind_table_ok (by simp [g, n1, n2]) hk (by omega) (by omega) fun t s' ht g' => ?_
    simp
    exact ⟨sz_lt (by omega), s', L ++ [t], lot_snoc, rfl, by simp [hl], lotOk_snoc hL ht, g'⟩
  · rintro acc ρ ⟨s, L, rfl, rfl, hl, hL, g⟩
    simp at hl
    simp
    exact w L s hL hl g
theorem sure_hard_ok {s : D} {P : Opd × Rho → Prop} (g : GD s) (w : ∀ L s', lotOk L → 1 ≤ L.length → L.length ≤ 10 → GD s' → P (.tmp (.lst (lotD L)), [some (.own s')])) : Ok (m__law_sure_hard κ [.own s]) P := by
  have w2 : ∀ (ds : List D) s', (∀ d ∈ ds, ∃ (n : Nat) (ps : List D), d = .tup [.int n, .tup ps] ∧ 1 ≤ n ∧ n ≤ 4 ∧ ps.length = 2 ^ n ∧ ∀ d ∈ ps, OI d) → 1 ≤ ds.length → ds.length ≤ 10 → GD s' → P (.tmp (.lst ds), [some (.own s')]) := fun ds s' h h1 h2 g => by
    have : ∃ L, lotOk L ∧ ds = lotD L := by
      clear h1 h2
      induction ds with
      | nil => exact ⟨[], (fun t ht => by cases ht), rfl⟩
      | cons d ds ih =>
        obtain ⟨n, ps, rfl, q1, q4, hl, ho⟩ := h d (by simp)
        obtain ⟨t, ht, e⟩ := tb_of q1 q4 hl ho
        obtain ⟨L, hL, rfl⟩ := ih fun d hd => h d (List.mem_cons_of_mem _ hd)
        refine ⟨t :: L, fun x hx => ?_, by rw [e]; rfl⟩
        rcases List.mem_cons.1 hx with rfl | hx
        · exact ht
        · exact hL x hx
    obtain ⟨L, hL, rfl⟩ := this
    exact w L s' hL (by simpa using h1) (by simpa using h2) g
  rw [m__law_sure_hard, ok_fnM]
  simp (maxDischargeDepth := 20) [g]
  have g3 : GD (dS κ (dS κ (dS κ s 5) 5) 7) := by simp (maxDischargeDepth := 20) [g]
  generalize dS κ (dS κ (dS κ s 5) 5) 7 = s3 at *
  refine Br.mk (fun _ => ?_) (fun _ => Br.mk (fun _ => ?_) (fun _ => Br.mk (fun _ => ?_) (fun _ => Br.mk (fun _ => ?_) (fun _ => Br.mk (fun _ => ?_) (fun _ => Br.mk (fun _ => ?_) (fun _ => ?_))))))
  all_goals
    refine w2 _ _ (fun d hd => ?_) (by simp) (by simp) g3
    simp only [List.mem_cons, List.not_mem_nil, or_false] at hd
    rcases hd with rfl | hd
    · first | exact ⟨3, _, rfl, by omega, by omega, rfl, by simp⟩ | exact ⟨2, _, rfl, by omega, by omega, rfl, by simp⟩ | exact ⟨1, _, rfl, by omega, by omega, rfl, by simp⟩
    all_goals
      rcases hd with rfl | hd
      · first | exact ⟨3, _, rfl, by omega, by omega, rfl, by simp⟩ | exact ⟨2, _, rfl, by omega, by omega, rfl, by simp⟩ | exact ⟨1, _, rfl, by omega, by omega, rfl, by simp⟩
      all_goals
        rcases hd with rfl | hd
        · first | exact ⟨3, _, rfl, by omega, by omega, rfl, by simp⟩ | exact ⟨2, _, rfl, by omega, by omega, rfl, by simp⟩ | exact ⟨1, _, rfl, by omega, by omega, rfl, by simp⟩
        all_goals
          subst hd
          first | exact ⟨3, _, rfl, by omega, by omega, rfl, by simp⟩ | exact ⟨2, _, rfl, by omega, by omega, rfl, by simp⟩ | exact ⟨1, _, rfl, by omega, by omega, rfl, by simp⟩
end Ev.W

set_option Elab.async false
set_option linter.all false
set_option maxRecDepth 100000
set_option autoImplicit false
namespace Ev.W
open PySem PySem.Spec PyProof.Rows L2 Ev
variable {κ : String → Nat}
theorem times_eq {o : Option Int} {t : Int} (h0 : 0 ≤ t) (h1 : t ≤ 1000000) : m__law_times κ [.val (toD o), .val (.int t)] = some (.val (toD (o.map fun v => v * t)), [none, none]) := by
  apply Ok.eq
  rw [m__law_times, ok_fnM]
  cases o with
  | none => simp
  | some v =>
    simp
    exact mulOk_r h0 (by omega)
theorem sum_ok {sv : SV} {ds : List D} {P : Opd × Rho → Prop} (hit : ∀ ρ, itI 0 ρ sv = some (ds, none, ρ)) (h : ∀ d ∈ ds, OI d) (w : ∀ v, OI v → (v = .non ↔ D.non ∈ ds) → P (.val v, [none])) : Ok (m__law_sum κ [sv]) P := by
  rw [m__law_sum, ok_fnM]
  simp [hit]
  refine for_inv (fun k ρ => ∃ (i : Int) (x : Option SV), ρ = [some sv, some (.val (.int i)), x] ∧ D.non ∉ ds.take k) ⟨0, none, rfl, by simp⟩ ?_ ?_
  · rintro k d ρ e hk ⟨i, x, rfl, hn⟩
    have ht := take_mem e
    rcases h d (List.mem_of_getElem? e) with rfl | ⟨j, rfl⟩
    · simp
      exact w _ (by simp) (by simp [List.mem_of_getElem? e])
    · simp [ht, hn]
  · rintro ρ ⟨i, x, rfl, hn⟩
    simp at hn
    simp
    exact w _ (by simp) (by simp [hn])
theorem above_ok {a b : D} {P : Opd × Rho → Prop} (ha : OI a) (hb : OI b) (w : ∀ c, (b ≠ .non → a = .non → c = true) → P (.val (.bl c), [none, none])) : Ok (m__law_above κ [.val a, .val b]) P := by
  rw [m__law_above, ok_fnM]
  rcases ha with rfl | ⟨i, rfl⟩ <;> rcases hb with rfl | ⟨j, rfl⟩ <;> simp
  · exact w _ (by simp)
  · exact w _ (by simp)
  · exact w _ (by simp)
  · exact w _ (by simp)
theorem pD_OI {P : Nat → Option Int} {N : Nat} : ∀ d ∈ pD P N, OI d := fun d hd => by
  obtain ⟨x, _, rfl⟩ := List.mem_map.1 hd; simp
def nD (l : List Nat) : List D := l.map fun i : Nat => D.int i
@[simp] theorem nD_len {l : List Nat} : (nD l).length = l.length := by simp [nD]
@[simp] theorem nD_getE {l : List Nat} {k : Nat} (h : k < (nD l).length) : (nD l)[k] = .int (l[k]'(by simpa using h)) := by simp [nD]
theorem nD_get {l : List Nat} {k : Nat} {d : D} (e : (nD l)[k]? = some d) : ∃ x : Nat, l[k]? = some x ∧ d = .int x := by
  unfold nD at e
  rw [List.getElem?_map] at e
  obtain ⟨x, h1, h2⟩ := Option.map_eq_some_iff.1 e
  exact ⟨x, h1, h2.symm⟩
/-- closed as a kind asks -/
def Cl (kd : Str) (P : Nat → Option Int) (N : Nat) (s t : Nat) : Prop :=
  (kd = Str.ofString "least" → P (s &&& t) ≠ none) ∧ (kd = Str.ofString "greatest" → P (s ||| t) ≠ none) ∧ (kd = Str.ofString "cut" → P (s &&& t) ≠ none ∧ P (s ||| t) ≠ none)
theorem opn_some {P : Nat → Option Int} {N x : Nat} (h : x ∈ opn P N) : x < N ∧ ∃ v, P x = some v := ⟨(opn_mem.1 h).1, Option.isSome_iff_exists.1 (opn_mem.1 h).2⟩
theorem toD_non {o : Option Int} : toD o = .non ↔ o = none := by cases o <;> simp
theorem breach_two_ok {kd : Str} {P : Nat → Option Int} {n : Nat} {PO : Opd × Rho → Prop} (hk : kd ∈ kindsL) (h4 : n ≤ 4)
    (w : ∀ c, (c = false → ∀ s ∈ opn P (2 ^ n), ∀ t ∈ opn P (2 ^ n), (kd = Str.ofString "least" ∨ kd = Str.ofString "greatest" ∨ kd = Str.ofString "cut") → Cl kd P (2 ^ n) s t) → PO (.val (.bl c), [none, none, none])) :
    Ok (m__law_breach_two κ [.val (.str kd), .val (.tup (pD P (2 ^ n))), .bor (.lst (nD (opn P (2 ^ n))))]) PO := by
  rw [m__law_breach_two, ok_fnM]
  simp
  refine for_inv (fun k ρ => ∃ x3 x4 x5 x6, ρ = [some (.val (.str kd)), some (.val (.tup (pD P (2 ^ n)))), some (.bor (.lst (nD (opn P (2 ^ n))))), x3, x4, x5, x6] ∧ ∀ s ∈ (opn P (2 ^ n)).take k, ∀ t ∈ opn P (2 ^ n), (kd = Str.ofString "least" ∨ kd = Str.ofString "greatest" ∨ kd = Str.ofString "cut") → Cl kd P (2 ^ n) s t) ⟨none, none, none, none, rfl, by simp⟩ ?_ ?_
  · rintro k d ρ e hk2 ⟨x3, x4, x5, x6, rfl, hc⟩
    obtain ⟨s, hs, rfl⟩ := nD_get e
    have hsm := List.mem_of_getElem? hs
    obtain ⟨hsN, vs, hvs⟩ := opn_some hsm
    simp
    refine for_inv (fun j ρ => ∃ x4 x5 x6, ρ = [some (.val (.str kd)), some (.val (.tup (pD P (2 ^ n)))), some (.bor (.lst (nD (opn P (2 ^ n))))), some (.val (.int s)), x4, x5, x6] ∧ ∀ t ∈ (opn P (2 ^ n)).take j, (kd = Str.ofString "least" ∨ kd = Str.ofString "greatest" ∨ kd = Str.ofString "cut") → Cl kd P (2 ^ n) s t) ⟨x4, x5, x6, rfl, by simp⟩ ?_ ?_
    · rintro j d ρ e hj ⟨x4, x5, x6, rfl, hc2⟩
      obtain ⟨t, ht, rfl⟩ := nD_get e
      have htm := List.mem_of_getElem? ht
      obtain ⟨htN, vt, hvt⟩ := opn_some htm
      have ha : s &&& t < 2 ^ n := and_lt hsN
      have ho : s ||| t < 2 ^ n := Nat.or_lt_two_pow hsN htN
      have tk := take_mem ht
      have hte := times_eq (κ := κ) (o := P (s &&& t)) (t := 2) (by omega) (by omega)
      have htf := times_eq (κ := κ) (o := P (s ||| t)) (t := 2) (by omega) (by omega)
      have up : ((kd = Str.ofString "least" ∨ kd = Str.ofString "greatest" ∨ kd = Str.ofString "cut") → Cl kd P (2 ^ n) s t) → ∀ t' ∈ (opn P (2 ^ n)).take (j + 1), (kd = Str.ofString "least" ∨ kd = Str.ofString "greatest" ∨ kd = Str.ofString "cut") → Cl kd P (2 ^ n) s t' := fun h t' ht' => by
        rcases (tk t').1 ht' with h2 | rfl
        · exact hc2 t' h2
        · exact h
      by_cases hg : kd = Str.ofString "greatest"
      · have hg2 : (kd == Str.ofString "greatest") = true := beq_iff_eq.2 hg
        have hcu : (kd == Str.ofString "cut") = false := by rw [hg]; decide +kernel
        simp [nband, nbor, ha, ho, hte, htf, eq_kind hk m3, eq_kind hk m4, hg2, hcu, hsN, htN, hvs, hvt]
        refine above_ok (by simp) (by simp) fun c hcc => ?_
        cases c with
        | true => simp; exact w true (by simp)
        | false =>
          simp
          refine up fun _ => ⟨fun e => ?_, fun _ e => ?_, fun e => ?_⟩
          · rw [hg] at e; exact absurd e (by decide +kernel)
          · have := hcc (by simp) (toD_non.2 (by rw [e]; rfl)); cases this
          · rw [hg] at e; exact absurd e (by decide +kernel)
      · have hg2 : (kd == Str.ofString "greatest") = false := beq_eq_false_iff_ne.2 hg
        by_cases hu : kd = Str.ofString "cut"
        · have hcu : (kd == Str.ofString "cut") = true := beq_iff_eq.2 hu
          simp [nband, nbor, ha, ho, hte, htf, eq_kind hk m3, eq_kind hk m4, hg2, hcu]
          refine sum_ok (fun _ => it_lst) (by simp) fun v hv hvn => ?_
          simp [hsN, htN, hvs, hvt]
          refine above_ok hv (by simp) fun c hcc => ?_
          cases c with
          | true => simp; exact w true (by simp)
          | false =>
            simp
            have hvv : v ≠ .non := fun e => by have := hcc (by simp) e; cases this
            have hnm : D.non ∉ [toD (P (s &&& t)), toD (P (s ||| t))] := fun h => hvv (hvn.2 h)
            simp at hnm
            refine up fun _ => ⟨fun e => ?_, fun e => absurd e hg, fun _ => ⟨fun e => hnm.1 (toD_non.2 e).symm, fun e => hnm.2 (toD_non.2 e).symm⟩⟩
            rw [hu] at e; exact absurd e (by decide +kernel)
        · have hcu : (kd == Str.ofString "cut") = false := beq_eq_false_iff_ne.2 hu
          simp [nband, nbor, ha, ho, hte, htf, eq_kind hk m3, eq_kind hk m4, hg2, hcu, hsN, htN, hvs, hvt]
          refine above_ok (by simp) (by simp) fun c hcc => ?_
          cases c with
          | true => simp; exact w true (by simp)
          | false =>
            simp
            refine up fun _ => ⟨fun _ e => ?_, fun e => absurd e hg, fun e => absurd e hu⟩
            have := hcc (by simp) (toD_non.2 (by rw [e]; rfl)); cases this
    · rintro ρ ⟨x4, x5, x6, rfl, hc2⟩
      simp at hc2
      simp
      intro s' hs' t ht hkd
      rcases (take_mem hs s').1 hs' with h | rfl
      · exact hc s' h t ht hkd
      · exact hc2 t (by simpa using ht) hkd
  · rintro ρ ⟨x3, x4, x5, x6, rfl, hc⟩
    simp at hc
    simp
    exact w false (fun _ s hs t ht hkd => hc s (by simpa using hs) t ht hkd)
end Ev.W

set_option Elab.async false
set_option linter.all false
set_option maxRecDepth 100000
set_option autoImplicit false
namespace Ev.W
open PySem PySem.Spec PyProof.Rows L2 Ev
variable {κ : String → Nat}
theorem breach_one_ok {kd : Str} {P : Nat → Option Int} {n : Nat} {PO : Opd × Rho → Prop} (hk : kd ∈ kindsL) (h4 : n ≤ 4) (w : ∀ c, PO (.val (.bl c), [none, none, none])) :
    Ok (m__law_breach_one κ [.val (.str kd), .val (.tup (pD P (2 ^ n))), .bor (.lst (nD (opn P (2 ^ n))))]) PO := by
  obtain ⟨N, hN, hZ, a1, a2⟩ := pow_facts h4
  rw [m__law_breach_one, ok_fnM]
  simp
  refine for_inv (fun k ρ => ∃ x4, ρ = [some (.val (.str kd)), some (.val (.tup (pD P (2 ^ n)))), some (.bor (.lst (nD (opn P (2 ^ n))))), some (.val (.int ((N - 1 : Nat) : Int))), x4]) ⟨none, ?_⟩ ?_ ?_
  · rw [hZ]
    have : (N : Int) - 1 = ((N - 1 : Nat) : Int) := by omega
    rw [this]
  · rintro k d ρ e hk2 ⟨x4, rfl⟩
    obtain ⟨s, hs, rfl⟩ := nD_get e
    obtain ⟨hsN, vs, hvs⟩ := opn_some (List.mem_of_getElem? hs)
    have q1 : N - 1 < 2 ^ n := by omega
    have q0 : 0 < 2 ^ n := by omega
    have fin : ∀ o : Option Int, ∀ P2 : Opd × Rho → Prop, (∀ c, P2 (.val (.bl c), [none, none])) → Ok (m__law_above κ [.val (toD o), .val (toD (P s))]) P2 := fun o P2 h => above_ok (by simp) (by simp) fun c _ => h c
    by_cases hz : kd = Str.ofString "zero"
    · have hz2 : (kd == Str.ofString "zero") = true := beq_iff_eq.2 hz
      simp [eq_kind hk m0, hz2, q0, hsN]
      refine fin _ _ fun c => ?_
      cases c with
      | true => simp; exact w true
      | false => simp
    · have hz2 : (kd == Str.ofString "zero") = false := beq_eq_false_iff_ne.2 hz
      have q2 : (N - 1 : Nat) < 2 ^ n := q1
      simp [eq_kind hk m0, hz2, q1, hsN]
      refine fin _ _ fun c => ?_
      cases c with
      | true => simp; exact w true
      | false => simp
  · rintro ρ ⟨x4, rfl⟩
    simp
    exact w false
theorem rangeD_get2 {lo : Int} {n k : Nat} {d : D} (e : (rangeD lo n)[k]? = some d) : d = .int (lo + k) ∧ k < n := by
  unfold rangeD at e
  rw [List.getElem?_map] at e
  obtain ⟨x, h1, h2⟩ := Option.map_eq_some_iff.1 e
  obtain ⟨h3, h5⟩ := List.getElem?_eq_some_iff.1 h1
  simp at h5 h3
  subst h5
  exact ⟨h2.symm, h3⟩
theorem most_eq {a b c : Nat} : m__law_most κ [.val (.int a), .val (.int b), .val (.int c)] = some (.val (.int ((a &&& b ||| a &&& c ||| b &&& c : Nat) : Int)), [none, none, none]) := by
  apply Ok.eq
  rw [m__law_most, ok_fnM]
  simp [nband, nbor]
theorem breach_three_ok {kd : Str} {P : Nat → Option Int} {n : Nat} {PO : Opd × Rho → Prop} (hk : kd ∈ kindsL) (h4 : n ≤ 4) (w : ∀ c, PO (.val (.bl c), [none, none, none])) :
    Ok (m__law_breach_three κ [.val (.str kd), .val (.tup (pD P (2 ^ n))), .bor (.lst (nD (opn P (2 ^ n))))]) PO := by
  obtain ⟨N, hN, hZ, a1, a2⟩ := pow_facts h4
  have hlen : (opn P (2 ^ n)).length ≤ 16 := Nat.le_trans (List.length_filter_le ..) (by simp; omega)
  have hmem : ∀ x ∈ opn P (2 ^ n), x < 2 ^ n ∧ ∃ v, P x = some v := fun x hx => opn_some hx
  rw [m__law_breach_three, ok_fnM]
  generalize opn P (2 ^ n) = R at *
  have iR : inR (R.length : Int) = true := inR_nat (by omega)
  simp [iR]
  refine for_inv (fun k ρ => ∃ x3 x4 x5 x6 x7 x8, ρ = [some (.val (.str kd)), some (.val (.tup (pD P (2 ^ n)))), some (.bor (.lst (nD R))), x3, x4, x5, x6, x7, x8]) ⟨_, _, _, _, _, _, rfl⟩ ?_ ?_
  · rintro i d ρ e hi ⟨x3, x4, x5, x6, x7, x8, rfl⟩
    obtain ⟨rfl, hi⟩ := rangeD_get e
    have ii : inR (i : Int) = true := inR_nat (by omega)
    simp [iR, ii]
    refine for_inv (fun k ρ => ∃ x4 x5 x6 x7 x8, ρ = [some (.val (.str kd)), some (.val (.tup (pD P (2 ^ n)))), some (.bor (.lst (nD R))), some (.val (.int i)), x4, x5, x6, x7, x8]) ⟨_, _, _, _, _, rfl⟩ ?_ ?_
    · rintro j' d ρ e hj ⟨x4, x5, x6, x7, x8, rfl⟩
      obtain ⟨rfl, hj⟩ := rangeD_get2 e
      obtain ⟨j, hj2⟩ : ∃ j : Nat, (i : Int) + j' = j := ⟨i + j', by omega⟩
      have hjR : j < R.length := by omega
      have ij : inR (j : Int) = true := inR_nat (by omega)
      simp [iR, ij, hj2]
      refine for_inv (fun k ρ => ∃ x5 x6 x7 x8, ρ = [some (.val (.str kd)), some (.val (.tup (pD P (2 ^ n)))), some (.bor (.lst (nD R))), some (.val (.int i)), some (.val (.int j)), x5, x6, x7, x8]) ⟨_, _, _, _, rfl⟩ ?_ ?_
      · rintro k' d ρ e hkk ⟨x5, x6, x7, x8, rfl⟩
        obtain ⟨rfl, hkk⟩ := rangeD_get2 e
        obtain ⟨k, hk2⟩ : ∃ k : Nat, (j : Int) + k' = k := ⟨j + k', by omega⟩
        have hkR : k < R.length := by omega
        obtain ⟨ha, va, hva⟩ := hmem R[i] (List.getElem_mem hi)
        obtain ⟨hb, vb, hvb⟩ := hmem R[j] (List.getElem_mem hjR)
        obtain ⟨hc, vc, hvc⟩ := hmem R[k] (List.getElem_mem hkR)
        have hmo : R[i] &&& R[j] ||| R[i] &&& R[k] ||| R[j] &&& R[k] < 2 ^ n := Nat.or_lt_two_pow (Nat.or_lt_two_pow (and_lt ha) (and_lt ha)) (and_lt hb)
        have hxx : R[i] ^^^ R[j] ^^^ R[k] < 2 ^ n := Nat.xor_lt_two_pow (Nat.xor_lt_two_pow ha hb) hc
        have x1 := nbxor (a := R[i]) (b := R[j]) (by omega) (by omega)
        have x2 := nbxor (a := R[i] ^^^ R[j]) (b := R[k]) (xor_lt _ (by omega) _ (by omega)) (by omega)
        have t1 := times_eq (κ := κ) (o := P (R[i] &&& R[j] ||| R[i] &&& R[k] ||| R[j] &&& R[k])) (t := 3) (by omega) (by omega)
        have t2 := times_eq (κ := κ) (o := P (R[i] ^^^ R[j] ^^^ R[k])) (t := 3) (by omega) (by omega)
        simp [hi, hjR, hkR, hk2, most_eq (κ := κ), hmo, x1, x2, hxx]
        refine sum_ok (fun _ => it_lst) (by simp) fun v hv _ => ?_
        simp [eq_kind hk m5, eq_kind hk m6, t1, t2]
        refine Br.mk (fun _ => Br.mk (fun _ => ?_) (fun _ => ?_)) (fun _ => Br.mk (fun _ => ?_) (fun _ => ?_))
        all_goals
          simp [hi, hjR, hkR, ha, hb, hc, hva, hvb, hvc]
          refine above_ok (by first | exact hv | simp) (by simp) fun c _ => ?_
          cases c with
          | true => simp; exact w true
          | false => simp
      · rintro ρ ⟨x5, x6, x7, x8, rfl⟩
        simp
    · rintro ρ ⟨x4, x5, x6, x7, x8, rfl⟩
      simp
  · rintro ρ ⟨x3, x4, x5, x6, x7, x8, rfl⟩
    simp
    exact w false
theorem inE_strs {k : Str} {ls : List Str} : inE false (.str k) (.tup (ls.map D.str)) = some (.val (.bl (ls.contains k))) := by
  refine inE_of ?_
  unfold inG
  have h1 : (ls.map D.str).all flatD = true := by
    rw [List.all_eq_true]; intro d hd; obtain ⟨x, _, rfl⟩ := List.mem_map.1 hd; rfl
  have h2 : inF (.str k) (ls.map D.str) = ls.contains k := by
    unfold inF
    rw [List.any_map]
    induction ls with
    | nil => rfl
    | cons a ls ih =>
      rw [List.any_cons, List.contains_cons, ih (by rw [List.map_cons, List.all_cons, Bool.and_eq_true] at h1; exact h1.2)]
      congr 1
      show (a == k) = (k == a)
      exact BEq.comm
  simp only [seqD_tup, h1, h2, flatD, Bool.true_and, if_true]
  rfl
/-- what keeps says of a table -/
def Kp (kd : Str) (t : Tb) : Prop := ∀ x ∈ opn t.P (2 ^ t.n), ∀ y ∈ opn t.P (2 ^ t.n), (kd = Str.ofString "least" ∨ kd = Str.ofString "greatest" ∨ kd = Str.ofString "cut") → Cl kd t.P (2 ^ t.n) x y
theorem keeps_ok {kd : Str} {t : Tb} {PO : Opd × Rho → Prop} (hk : kd ∈ kindsL) (ht : t.ok) (w : ∀ c, (c = true → Kp kd t) → PO (.val (.bl c), [none, none])) :
    Ok (m__law_keeps κ [.val (.str kd), .val (.tup (pD t.P (2 ^ t.n)))]) PO := by
  obtain ⟨n, P⟩ := t
  have h4 : n ≤ 4 := ht.2
  obtain ⟨N, hN, hZ, a1, a2⟩ := pow_facts h4
  rw [m__law_keeps, ok_fnM]
  simp [hZ, show N ≤ 1000 by omega]
  rw [rangeD_rl]
  refine ok_comp (l := List.range N) (acc := []) (φ := fun i : Nat => D.int i) (fun x => (P x).isSome) (fun x : Nat => .int x) (fun x hx => ?_) (by simp; exact sz_le (by omega)) ?_
  · rw [List.mem_range] at hx
    simp [hN, hx, Br]
  rw [List.nil_append, show ((List.range N).filter fun x => (P x).isSome).map (fun x : Nat => D.int x) = nD (opn P (2 ^ n)) by rw [hN]; rfl]
  have e1 : inE false (.str kd) (.tup [.str (Str.ofString "zero"), .str (Str.ofString "one")]) = some (.val (.bl ([Str.ofString "zero", Str.ofString "one"].contains kd))) := inE_strs (ls := [Str.ofString "zero", Str.ofString "one"])
  have e2 : inE false (.str kd) (.tup [.str (Str.ofString "least"), .str (Str.ofString "greatest"), .str (Str.ofString "cut")]) = some (.val (.bl ([Str.ofString "least", Str.ofString "greatest", Str.ofString "cut"].contains kd))) := inE_strs (ls := [Str.ofString "least", Str.ofString "greatest", Str.ofString "cut"])
  simp [-List.contains_cons, -List.contains_eq_mem, e1, e2]
  refine Br.mk (fun hz => ?_) (fun _ => Br.mk (fun hz => ?_) (fun hz => ?_))
  · refine breach_one_ok hk h4 fun c => ?_
    simp
    refine w _ fun _ x _ y _ hkd => ?_
    simp at hz
    rcases hz with rfl | rfl <;> rcases hkd with h | h | h <;> exact absurd h (by decide +kernel)
  · refine breach_two_ok hk h4 fun c hc => ?_
    simp
    exact w _ fun hc2 => hc (by simpa using hc2)
  · refine breach_three_ok hk h4 fun c => ?_
    simp
    refine w _ fun _ x _ y _ hkd => ?_
    exfalso
    rcases hkd with rfl | rfl | rfl <;> simp at hz
theorem kept_ok {kd : Str} {L : List Tb} {sv : SV} {PO : Opd × Rho → Prop} (hk : kd ∈ kindsL) (hL : lotOk L) (hl : L.length ≤ 1000) (hit : ∀ ρ, itI 1 ρ sv = some (lotD L, none, ρ)) (w : ∀ c, (c = true → ∀ t ∈ L, Kp kd t) → PO (.val (.bl c), [none, none])) :
    Ok (m__law_kept κ [.val (.str kd), sv]) PO := by
  rw [m__law_kept, ok_fnM]
  simp [hit]
  refine comp_st (fun k acc ρ => ∃ bs : List Bool, acc = bs.map D.bl ∧ ρ = [some (.val (.str kd)), some sv, none] ∧ bs.length = k ∧ (bs.all id = true → ∀ t ∈ L.take k, Kp kd t)) ⟨[], rfl, rfl, rfl, by simp⟩ ?_ ?_
  · rintro k d acc ρ e hk2 ⟨bs, rfl, rfl, hbl, hb⟩
    simp at hk2
    have hd : L[k]? = some L[k] := List.getElem?_eq_getElem hk2
    have e2 : d = (L[k]).d := by
      simp [lotD, hk2] at e
      exact e.symm
    subst e2
    have tk := take_mem hd
    have htk := hL L[k] (List.getElem_mem hk2)
    generalize L[k] = t at *
    simp [Tb.d]
    refine keeps_ok hk htk fun c hc => ?_
    simp
    refine ⟨sz_lt (by omega), bs ++ [c], by simp, by simp [hbl], fun hall x hx => ?_⟩
    simp at hall
    rcases (tk x).1 hx with h | rfl
    · exact hb (by simpa using hall.1) x h
    · exact hc hall.2
  · rintro acc ρ ⟨bs, rfl, rfl, hbl, hb⟩
    simp at hbl
    have ht : tvs (bs.map D.bl) = some bs := by simpa using tvs_mapb id bs
    simp [ht]
    refine w _ fun hall => ?_
    have := hb hall
    rwa [List.take_of_length_le (by simp)] at this
theorem first_kind_ok {L : List Tb} {sv : SV} {PO : Opd × Rho → Prop} (hL : lotOk L) (hl : L.length ≤ 1000) (hsv : sv = .bor (.lst (lotD L))) (w : ∀ v, OI v ∨ (∃ k, v = .str k) → PO (.val v, [none])) : Ok (m__law_first_kind κ [sv]) PO := by
  subst hsv
  rw [m__law_first_kind, ok_fnM]
  simp [kinds_eq]
  refine for_inv (fun k ρ => ∃ x, ρ = [some (.bor (.lst (lotD L))), x]) ⟨none, rfl⟩ ?_ ?_
  · rintro k d ρ e hk2 ⟨x, rfl⟩
    obtain ⟨kd, hkd, rfl⟩ := List.mem_map.1 (List.mem_of_getElem? e)
    simp
    refine kept_ok hkd hL hl (fun _ => rfl) fun c _ => ?_
    cases c with
    | true => simp; exact w _ (.inr ⟨_, rfl⟩)
    | false => simp
  · rintro ρ ⟨x, rfl⟩
    simp
    exact w _ (.inl (by simp))
end Ev.W

set_option Elab.async false
set_option linter.all false
set_option maxRecDepth 100000
set_option autoImplicit false
namespace Ev.W
open PySem PySem.Spec PyProof.Rows L2 Ev
variable {κ : String → Nat}
theorem hard_lot_ok {s : D} {P : Opd × Rho → Prop} (g : GD s) (w : ∀ L s' o, (o = .tmp (.lst (lotD L)) ∨ o = .val (.lst (lotD L))) → lotOk L → 1 ≤ L.length → L.length ≤ 10 → GD s' → P (o, [some (.own s')])) : Ok (m__law_hard_lot κ [.own s]) P := by
  rw [m__law_hard_lot, ok_fnM]
  have b1 := dR_lo (κ := κ) (k := 3) g (by omega) (by omega)
  have b2 := dR_hi (κ := κ) (k := 3) g (by omega) (by omega)
  obtain ⟨q, hq⟩ : ∃ q : Nat, 1 + dR κ s 3 = q := ⟨(1 + dR κ s 3).toNat, by omega⟩
  simp [g, hq, show q ≤ 1000 by omega]
  refine for_nx (fun k ρ => ∃ s L x2 x3, ρ = [some (.own s), some (.own (.lst (lotD L))), x2, x3] ∧ L.length = k ∧ lotOk L ∧ GD s) ⟨_, [], _, _, rfl, rfl, (fun t ht => by cases ht), by simp [g]⟩ ?_ ?_
  · rintro k d ρ e hk ⟨s, L, x2, x3, rfl, hl, hL, g⟩
    simp at hk
    have c1 := dR_lo (κ := κ) (k := 3) g (by omega) (by omega)
    have c2 := dR_hi (κ := κ) (k := 3) g (by omega) (by omega)
    obtain ⟨n, hn⟩ : ∃ n : Nat, 1 + dR κ s 3 = n := ⟨(1 + dR κ s 3).toNat, by omega⟩
    have n1 : 1 ≤ n := by omega
    have n4 : n ≤ 4 := by omega
    have fin : ∀ (ps : List D) (s' : D), ps.length = 2 ^ n → (∀ d ∈ ps, OB d) → ∃ t : Tb, t.ok ∧ D.tup [.int n, .tup ps] = t.d := fun ps s' h1 h2 => tb_of n1 n4 h1 fun d hd => (h2 d hd).oi
    have hs : L.length < sizeLine := sz_lt (by omega)
    simp (maxDischargeDepth := 20) [g, hn]
    refine Br.mk (fun _ => ?_) (fun _ => ?_)
    · refine crisp_ok (by simp (maxDischargeDepth := 20) [g]) n4 fun ps s' h1 h2 _ g' => ?_
      obtain ⟨t, ht, et⟩ := fin ps s' h1 h2
      simp [et, hs]
      exact ⟨_, L ++ [t], ⟨rfl, lot_snoc⟩, by simp [hl], lotOk_snoc hL ht, g'⟩
    · refine loose_ok (by simp (maxDischargeDepth := 20) [g]) n4 fun ps s' h1 h2 _ g' => ?_
      obtain ⟨t, ht, et⟩ := fin ps s' h1 h2
      simp [et, hs]
      exact ⟨_, L ++ [t], ⟨rfl, lot_snoc⟩, by simp [hl], lotOk_snoc hL ht, g'⟩
  · rintro ρ ⟨s, L, x2, x3, rfl, hl, hL, g⟩
    simp at hl
    simp
    refine first_kind_ok hL (by omega) rfl fun v hv => ?_
    have h2 : ∃ b, isNonD v = b := ⟨_, rfl⟩
    obtain ⟨b, hb⟩ := h2
    simp [hb]
    cases b with
    | true => simp; exact w L s _ (.inl rfl) hL (by omega) (by omega) g
    | false =>
      simp
      refine sure_hard_ok g fun L' s' hL' hl1 hl2 g' => ?_
      simp
      exact w L' s' _ (.inl rfl) hL' hl1 hl2 g'
theorem any_lot_ok {s : D} {P : Opd × Rho → Prop} (g : GD s) (w : ∀ L s' o, (o = .tmp (.lst (lotD L)) ∨ o = .val (.lst (lotD L))) → lotOk L → 1 ≤ L.length → L.length ≤ 10 → GD s' → P (o, [some (.own s')])) : Ok (m__law_any_lot κ [.own s]) P := by
  rw [m__law_any_lot, ok_fnM]
  simp [g]
  have g1 : GD (dS κ s 3) := by simp [g]
  refine Br.mk (fun _ => ?_) (fun _ => ?_)
  · refine hard_lot_ok g1 fun L s' o ho hL h1 h2 g' => ?_
    rcases ho with rfl | rfl
    · simp; exact w L s' _ (.inl rfl) hL h1 h2 g'
    · simp; exact w L s' _ (.inr rfl) hL h1 h2 g'
  · simp [kinds_eq]
    refine pick_ok g1 (.inl rfl) (by simp [kindsL]) (by simp [kindsL]) fun j hj s' g' => ?_
    simp at hj
    have b1 := dR_lo (κ := κ) (k := 3) g' (by omega) (by omega)
    have b2 := dR_hi (κ := κ) (k := 3) g' (by omega) (by omega)
    obtain ⟨q, hq⟩ : ∃ q : Nat, 1 + dR κ s' 3 = q := ⟨(1 + dR κ s' 3).toNat, by omega⟩
    simp [g', hq]
    refine kind_lot_ok (places := 3) (by simp [g']) (List.getElem_mem hj) (by omega) (by omega) (by omega) fun L s' hL hl g' => ?_
    simp
    exact w L s' _ (.inl rfl) hL (by omega) (by omega) g'
/-- a drawn use -/
structure Du where
  at_ : Nat
  nms : List Int
  t : Int
def inD (l : List Int) : List D := l.map D.int
@[simp] theorem inD_len {l : List Int} : (inD l).length = l.length := by simp [inD]
def Du.d (u : Du) : D := .tup [.int u.at_, .tup (inD u.nms), .int u.t]
structure Du.ok (u : Du) (L : List Tb) (many : Nat) : Prop where
  lt : u.at_ < L.length
  len : ∀ h : u.at_ < L.length, u.nms.length = (L[u.at_]'h).n
  nm : ∀ x ∈ u.nms, 0 ≤ x ∧ x < many
  t0 : 0 ≤ u.t
  t1 : u.t ≤ 1000000
def usD (U : List Du) : List D := U.map Du.d
@[simp] theorem usD_len {U : List Du} : (usD U).length = U.length := by simp [usD]
@[simp] theorem usD_getE {U : List Du} {k : Nat} (h : k < (usD U).length) : (usD U)[k] = (U[k]'(by simpa using h)).d := by simp [usD]
def usOk (U : List Du) (L : List Tb) (many : Nat) : Prop := ∀ u ∈ U, u.ok L many
theorem us_snoc {U : List Du} {u : Du} : usD U ++ [u.d] = usD (U ++ [u]) := by simp [usD]
theorem usOk_snoc {U : List Du} {u : Du} {L : List Tb} {many : Nat} (h : usOk U L many) (hu : u.ok L many) : usOk (U ++ [u]) L many := fun x hx => by
  rcases List.mem_append.1 hx with hx | hx
  · exact h x hx
  · rw [List.mem_singleton.1 hx]; exact hu
theorem uses_ok {s : D} {L : List Tb} {many count : Nat} {sv : SV} {P : Opd × Rho → Prop} (g : GD s) (hL : lotOk L) (hl1 : 1 ≤ L.length) (hl2 : L.length ≤ 1000) (hm1 : 1 ≤ many) (hm2 : many ≤ 1000) (hc : count ≤ 1000) (hsv : sv = .val (.lst (lotD L)) ∨ sv = .bor (.lst (lotD L)))
    (w : ∀ U s', usOk U L many → U.length = count → GD s' → P (.val (.tup (usD U)), [some (.own s'), none, none, none])) : Ok (m__law_uses κ [.own s, sv, .val (.int many), .val (.int count)]) P := by
  have l1 : (1 : Int) ≤ L.length := by omega
  have l2 : (L.length : Int) < 1152921504606846976 := by omega
  have m1 : (1 : Int) ≤ many := by omega
  have m2 : (many : Int) < 1152921504606846976 := by omega
  rw [m__law_uses, ok_fnM]
  rcases hsv with rfl | rfl
  all_goals
    simp [hc]
    refine for_nx (fun k ρ => ∃ s U x5 x6 x7 x8, ρ = [some (.own s), some _, some (.val (.int many)), some (.val (.int count)), some (.own (.lst (usD U))), x5, x6, x7, x8, none] ∧ U.length = k ∧ usOk U L many ∧ GD s) ⟨s, [], _, _, _, _, rfl, rfl, (fun u hu => by cases hu), g⟩ ?_ ?_
    · rintro k d ρ e hk ⟨s, U, x5, x6, x7, x8, rfl, hl, hU, g⟩
      simp at hk
      have b1 := dR_lo (κ := κ) g l1 l2
      have b2 := dR_hi (κ := κ) g l1 l2
      obtain ⟨q, hq⟩ : ∃ q : Nat, dR κ s L.length = q := ⟨_, (Int.toNat_of_nonneg b1).symm⟩
      have hqL : q < L.length := by omega
      have gq : GD (dS κ s L.length) := by simp [g, l1, l2]
      have htn := (hL L[q] (List.getElem_mem hqL)).2
      have in6 : inR ((L[q]).n : Int) = true := inR_nat (by omega)
      simp [g, l1, l2, hq, hqL, Tb.d, in6]
      refine comp_st (fun k acc ρ => ∃ s nms, acc = inD nms ∧ ρ = [some (.own s), some _, some (.val (.int many)), some (.val (.int count)), some (.own (.lst (usD U))), some (.val d), some (.val (.int q)), x7, x8, none] ∧ nms.length = k ∧ (∀ x ∈ nms, 0 ≤ x ∧ x < many) ∧ GD s) ⟨_, [], rfl, rfl, rfl, by simp, gq⟩ ?_ ?_
      · rintro k d2 acc ρ e hk2 ⟨s, nms, rfl, rfl, hnl, hnn, g⟩
        simp at hk2
        have c1 := dR_lo (κ := κ) g m1 m2
        have c2 := dR_hi (κ := κ) g m1 m2
        simp [g, m1, m2]
        refine ⟨sz_lt (by omega), _, nms ++ [dR κ s many], by simp [inD], rfl, by simp [hnl], fun x hx => ?_, by simp [g, m1, m2]⟩
        rcases List.mem_append.1 hx with hx | hx
        · exact hnn x hx
        · rw [List.mem_singleton.1 hx]; exact ⟨c1, c2⟩
      · rintro acc ρ ⟨s, nms, rfl, rfl, hnl, hnn, g⟩
        simp at hnl
        have g3 : GD (dS κ s 3) := by simp [g]
        have c1 := dR_lo (κ := κ) (k := 9) g3 (by omega) (by omega)
        have c2 := dR_hi (κ := κ) (k := 9) g3 (by omega) (by omega)
        have hs : U.length < sizeLine := sz_lt (by omega)
        have mk : ∀ t : Int, 0 ≤ t → t ≤ 1000000 → Du.ok ⟨q, nms, t⟩ L many := fun t t0 t1 => ⟨hqL, fun _ => hnl, hnn, t0, t1⟩
        simp [g]
        refine Br.mk (fun _ => ?_) (fun _ => ?_)
        · simp [hs]
          exact ⟨_, U ++ [⟨q, nms, 1⟩], ⟨rfl, us_snoc (u := ⟨q, nms, 1⟩)⟩, by simp [hl], usOk_snoc hU (mk 1 (by omega) (by omega)), g3⟩
        · simp [g3, hs]
          exact ⟨_, U ++ [⟨q, nms, 1 + dR κ (dS κ s 3) 9⟩], ⟨rfl, us_snoc (u := ⟨q, nms, 1 + dR κ (dS κ s 3) 9⟩)⟩, by simp [hl], usOk_snoc hU (mk _ (by omega) (by omega)), by simp [g3]⟩
    · rintro ρ ⟨s, U, x5, x6, x7, x8, rfl, hl, hU, g⟩
      simp at hl
      simp
      exact w U s hU hl g
theorem shuffled_ok {s : D} {ds : List D} {sv : SV} {P : Opd × Rho → Prop} (g : GD s) (hl : ds.length ≤ 1000) (hsv : sv = .val (.lst ds) ∨ sv = .bor (.lst ds)) (w : ∀ es s', es.Perm ds → GD s' → P (.tmp (.lst es), [some (.own s'), none])) : Ok (m__law_shuffled κ [.own s, sv]) P := by
  rw [m__law_shuffled, ok_fnM]
  rcases hsv with rfl | rfl
  all_goals
    simp [hl]
    refine for_nx (fun k ρ => ∃ s left es x4, ρ = [some (.own s), some _, some (.own (.lst left)), some (.own (.lst es)), x4] ∧ es.length = k ∧ (es ++ left).Perm ds ∧ GD s) ⟨s, ds, [], none, rfl, rfl, by simp, g⟩ ?_ ?_
    · rintro k d ρ e hk ⟨s, left, es, x4, rfl, hel, hp, g⟩
      have hlen := hp.length_eq
      simp at hk hlen
      have q1 : (1 : Int) ≤ left.length := by omega
      have q2 : (left.length : Int) < 1152921504606846976 := by omega
      have b1 := dR_lo (κ := κ) g q1 q2
      have b2 := dR_hi (κ := κ) g q1 q2
      have b3 : (dR κ s left.length).toNat < left.length := by omega
      simp [g, q1, q2, popAtG]
      rw [ixN_pos b1 b2]
      generalize (dR κ s left.length).toNat = j at b3
      simp [b3]
      refine ⟨sz_lt (by omega), hel, ?_, by simp [g, q1, q2]⟩
      have hperm : (left[j] :: left.eraseIdx j).Perm left := by
        rw [List.eraseIdx_eq_take_drop_succ]
        have h2 : left.take j ++ left[j] :: left.drop (j + 1) = left := by rw [← List.drop_eq_getElem_cons b3, List.take_append_drop]
        have h3 := (List.perm_middle (a := left[j]) (l₁ := left.take j) (l₂ := left.drop (j + 1))).symm
        rwa [h2] at h3
      exact (hperm.append_left es).trans hp
    · rintro ρ ⟨s, left, es, x4, rfl, hel, hp, g⟩
      have hlen := hp.length_eq
      simp at hel hlen
      have : left = [] := List.length_eq_zero_iff.1 (by omega)
      subst this
      simp at hp
      simp
      exact w es s hp g
end Ev.W

set_option Elab.async false
set_option linter.all false
set_option maxRecDepth 100000
set_option autoImplicit false
namespace Ev.W
open PySem PySem.Spec PyProof.Rows L2 Ev
variable {κ : String → Nat}
theorem snocRec {α : Type} {P : List α → Prop} (h0 : P []) (hs : ∀ l a, P l → P (l ++ [a])) : ∀ l, P l := by
  suffices h : ∀ (k : Nat) (l : List α), l.length = k → P l from fun l => h _ l rfl
  intro k
  induction k with
  | zero => intro l hl; rw [List.length_eq_zero_iff.1 hl]; exact h0
  | succ k ih =>
    intro l hl
    rcases List.eq_nil_or_concat l with rfl | ⟨l', a, rfl⟩
    · simp at hl
    · simp at hl
      simpa using hs l' a (ih l' hl)
def uniq (l : List Int) : List Int := l.foldl (fun a x => if a.contains x then a else a ++ [x]) []
theorem uniq_snoc (l : List Int) (x : Int) : uniq (l ++ [x]) = if (uniq l).contains x then uniq l else uniq l ++ [x] := by simp [uniq, List.foldl_append]
theorem uniq_mem : ∀ (l : List Int) (x : Int), x ∈ l → x ∈ uniq l := by
  refine snocRec (by simp) fun l a ih => ?_
  · intro x hx
    rw [uniq_snoc]
    rcases List.mem_append.1 hx with h | h
    · split
      · exact ih x h
      · exact List.mem_append.2 (.inl (ih x h))
    · rw [List.mem_singleton.1 h]
      split
      · rename_i h2; simpa using h2
      · simp
def cmOf (l : List Int) : List Nat := l.map fun x => (uniq l).idxOf x
theorem flat_inD (l : List Int) : (inD l).all flatD = true := by
  rw [List.all_eq_true]
  intro d hd
  obtain ⟨x, _, rfl⟩ := List.mem_map.1 hd
  rfl
theorem inF_inD (x : Int) (l : List Int) : inF (.int x) (inD l) = l.contains x := by
  unfold inF inD
  rw [List.any_map]
  induction l with
  | nil => rfl
  | cons a l ih =>
    rw [List.any_cons, List.contains_cons, ih]
    congr 1
    show (a == x) = (x == a)
    exact BEq.comm
theorem inG_inD (neg : Bool) (x : Int) (l : List Int) : inG neg (.int x) (.lst (inD l)) = some (.val (.bl (if neg then !l.contains x else l.contains x))) := by
  unfold inG
  simp only [seqD_lst, flat_inD, flatD, Bool.true_and, if_true, inF_inD]
theorem find_idx (x : Int) : ∀ l : List Int, x ∈ l → (inD l).findIdx? (fun z => eqF z (.int x)) = some (l.idxOf x)
  | [], h => by cases h
  | a :: l, h => by
    show (D.int a :: inD l).findIdx? _ = _
    rw [List.findIdx?_cons, List.idxOf_cons]
    show (if (a == x) = true then _ else _) = _
    by_cases e : a = x
    · subst e; simp
    · have h2 : x ∈ l := by
        rcases List.mem_cons.1 h with rfl | h
        · exact absurd rfl e
        · exact h
      rw [find_idx x l h2, beq_eq_false_iff_ne.2 e]
      simp
theorem index_inD {x : Int} {l : List Int} (h : x ∈ l) : indexD (.int x) (inD l) = some (l.idxOf x) := by
  unfold indexD
  rw [flat_inD]
  simp only [flatD, Bool.true_and, if_true]
  exact find_idx x l h
theorem inD_get {l : List Int} {k : Nat} {d : D} (e : (inD l)[k]? = some d) : ∃ x : Int, l[k]? = some x ∧ d = .int x := by
  unfold inD at e
  rw [List.getElem?_map] at e
  obtain ⟨x, h1, h2⟩ := Option.map_eq_some_iff.1 e
  exact ⟨x, h1, h2.symm⟩
@[simp] theorem inD_app {l : List Int} {x : Int} : inD l ++ [.int x] = inD (l ++ [x]) := by simp [inD]
theorem uniq_take {l : List Int} {k : Nat} {x : Int} (h : l[k]? = some x) : uniq (l.take (k + 1)) = if (uniq (l.take k)).contains x then uniq (l.take k) else uniq (l.take k) ++ [x] := by
  rw [List.take_add_one, h, Option.toList_some, uniq_snoc]
theorem uniq_len : ∀ l : List Int, (uniq l).length ≤ l.length := snocRec (by simp [uniq]) fun l a ih => by
  rw [uniq_snoc]
  split
  · simp; omega
  · simp; omega

@[simp] theorem inD_getE {l : List Int} {k : Nat} (h : k < (inD l).length) : (inD l)[k] = .int (l.getD k 0) := by
  simp at h
  simp [inD, h]
theorem uniq_nodup : ∀ l : List Int, (uniq l).Nodup := snocRec (by simp [uniq]) fun l a ih => by
  rw [uniq_snoc]
  split
  · exact ih
  · rename_i h
    rw [List.nodup_append]
    refine ⟨ih, by simp, fun x hx y hy e => ?_⟩
    rw [List.mem_singleton.1 hy] at e
    subst e
    exact h (by simpa using hx)
theorem uniq_sub : ∀ (l : List Int) (x : Int), x ∈ uniq l → x ∈ l := by
  refine snocRec (by simp [uniq]) fun l a ih => ?_
  intro x hx
  rw [uniq_snoc] at hx
  split at hx
  · exact List.mem_append.2 (.inl (ih x hx))
  · rcases List.mem_append.1 hx with h | h
    · exact List.mem_append.2 (.inl (ih x h))
    · exact List.mem_append.2 (.inr h)
theorem cm_lt {l : List Int} : ∀ i ∈ cmOf l, i < (uniq l).length := fun i hi => by
  obtain ⟨x, hx, rfl⟩ := List.mem_map.1 hi
  exact List.idxOf_lt_length_of_mem (uniq_mem l x hx)
def exN (m : Nat) (cm : List Nat) (y : Nat) : Nat := cm.foldl (fun a i => a * 2 + bt m y i) 0
theorem exN_snoc {m y i : Nat} {cm : List Nat} : exN m (cm ++ [i]) y = exN m cm y * 2 + bt m y i := by simp [exN, List.foldl_append]
theorem exN_lt (m y : Nat) : ∀ cm : List Nat, exN m cm y < 2 ^ cm.length := snocRec (by simp [exN]) fun cm i ih => by
  rw [exN_snoc, List.length_append, List.length_singleton, Nat.pow_succ]
  have := bt_le m y i
  omega
theorem exN_bt (m y : Nat) : ∀ (cm : List Nat) (p : Nat), p < cm.length → bt cm.length (exN m cm y) p = bt m y (cm.getD p 0) := by
  refine snocRec (fun p hp => by simp at hp) fun cm i ih => ?_
  intro p hp
  rw [List.length_append, List.length_singleton] at hp ⊢
  rw [exN_snoc]
  have hb := bt_le m y i
  unfold bt at ih ⊢
  rw [if_pos hp]
  by_cases h : p < cm.length
  · have e : cm.length + 1 - 1 - p = (cm.length - 1 - p) + 1 := by omega
    have ih := ih p h
    rw [if_pos h] at ih
    rw [e, Nat.pow_succ', ← Nat.div_div_eq_div_mul]
    have e2 : (exN m cm y * 2 + (if i < m then y / 2 ^ (m - 1 - i) % 2 else 0)) / 2 = exN m cm y := by unfold bt at hb; omega
    rw [e2, ih, show (cm ++ [i]).getD p 0 = cm.getD p 0 by simp [List.getElem?_append, h]]
  · have e : p = cm.length := by omega
    subst e
    rw [show cm.length + 1 - 1 - cm.length = 0 by omega, show (cm ++ [i]).getD cm.length 0 = i by simp]
    unfold bt at hb
    simp
    omega
theorem foldl_take {α β : Type} (f : β → α → β) (b : β) (l : List α) {k : Nat} {x : α} (h : l[k]? = some x) : (l.take (k + 1)).foldl f b = f ((l.take k).foldl f b) x := by
  rw [List.take_add_one, h]; simp
/-- a use in merged form -/
structure Us where
  nm : List Int
  P : Nat → Option Int
def Us.m (u : Us) : Nat := u.nm.length
def Us.d (u : Us) : D := .tup [.tup (inD u.nm), .tup (pD u.P (2 ^ u.m))]
structure Us.ok (u : Us) (many : Nat) : Prop where
  m4 : u.m ≤ 4
  nd : u.nm.Nodup
  nm : ∀ x ∈ u.nm, 0 ≤ x ∧ x < many
def mU (u : Du) (t : Tb) : Us := ⟨uniq u.nms, fun y => (t.P (exN (uniq u.nms).length (cmOf u.nms) y)).map fun v => v * u.t⟩
theorem merged_eq {L : List Tb} {u : Du} {many : Nat} {sv : SV} (hL : lotOk L) (hu : u.ok L many) (hsv : sv = .val (.lst (lotD L))) :
    m__law_merged κ [sv, .val u.d] = some (.val (mU u (L[u.at_]'hu.lt)).d, [none, none]) := by
  obtain ⟨at_, nms, t⟩ := u
  have hlt : at_ < L.length := hu.lt
  have hlen : nms.length = (L[at_]).n := hu.len hlt
  have htk := hL L[at_] (List.getElem_mem hlt)
  show m__law_merged κ [sv, .val (.tup [.int at_, .tup (inD nms), .int t])] = some (.val (mU ⟨at_, nms, t⟩ L[at_]).d, [none, none])
  have htd : (L[at_]).d = .tup [.int (L[at_]).n, .tup (pD (L[at_]).P (2 ^ (L[at_]).n))] := rfl
  generalize hT : L[at_] = T at *
  have hul := uniq_len nms
  have h4 := htk.2
  have hm4 : (uniq nms).length ≤ 4 := by omega
  have hm6 : (uniq nms).length ≤ 1000 := by omega
  subst hsv
  apply Ok.eq
  rw [m__law_merged, ok_fnM]
  simp
  refine for_nx (fun k ρ => ∃ x3, ρ = [some (.val (.lst (lotD L))), some (.val (.tup [.int at_, .tup (inD nms), .int t])), some (.own (.lst (inD (uniq (nms.take k))))), x3, none, none, none]) ⟨none, by simp [uniq, inD]⟩ ?_ ?_
  · rintro k d ρ e hk ⟨x3, rfl⟩
    obtain ⟨x, hx, rfl⟩ := inD_get e
    have hkn : k < nms.length := (List.getElem?_eq_some_iff.1 hx).1
    have hul := uniq_len (nms.take k)
    have hsz : (uniq (nms.take k)).length < sizeLine := sz_lt (by simp at hul; omega)
    rw [uniq_take hx]
    simp [inE_of (inG_inD true x (uniq (nms.take k)))]
    by_cases hc : x ∈ uniq (nms.take k)
    · simp [hc]
    · simp [hc, hsz]
  · rintro ρ ⟨x3, rfl⟩
    rw [List.take_of_length_le (by simp)]
    simp [law_rows_eq (κ := κ) hm4]
    refine for_nx (fun k ρ => ∃ x3 x5 x6, ρ = [some (.val (.lst (lotD L))), some (.val (.tup [.int at_, .tup (inD nms), .int t])), some (.own (.lst (inD (uniq nms)))), x3, some (.own (.lst (pD (mU ⟨at_, nms, t⟩ T).P k))), x5, x6]) ⟨_, _, _, rfl⟩ ?_ ?_
    · rintro k d ρ e hk ⟨x3, x5, x6, rfl⟩
      have hk2 : k < 2 ^ (uniq nms).length := by simpa using hk
      have e2 : d = .tup (rl (uniq nms).length fun p => .int (bt (uniq nms).length k p)) := by
        simp [hk2] at e
        exact e.symm
      subst e2
      simp
      refine for_nx (fun j ρ => ∃ x3, ρ = [some (.val (.lst (lotD L))), some (.val (.tup [.int at_, .tup (inD nms), .int t])), some (.own (.lst (inD (uniq nms)))), x3, some (.own (.lst (pD (mU ⟨at_, nms, t⟩ T).P k))), some (.val (.tup (rl (uniq nms).length fun p => .int (bt (uniq nms).length k p)))), some (.val (.int (((cmOf nms).take j).foldl (fun a i => a * 2 + bt (uniq nms).length k i) 0 : Nat)))]) ⟨_, rfl⟩ ?_ ?_
      · rintro j d ρ e hj ⟨x3, rfl⟩
        obtain ⟨x, hx, rfl⟩ := inD_get e
        have hmem := uniq_mem nms x (List.mem_of_getElem? hx)
        have hix := index_inD hmem
        have hlt := List.idxOf_lt_length_of_mem hmem
        have hcm : (cmOf nms)[j]? = some ((uniq nms).idxOf x) := by simp [cmOf, hx]
        rw [foldl_take _ _ _ hcm]
        simp [hix, hlt]
      · rintro ρ ⟨x3, rfl⟩
        rw [List.take_of_length_le (by simp [cmOf])]
        have hex : exN (uniq nms).length (cmOf nms) k < 2 ^ T.n := by
          have := exN_lt (uniq nms).length k (cmOf nms)
          rwa [show (cmOf nms).length = T.n by simp [cmOf, hlen]] at this
        have hlt2 := times_eq (κ := κ) (o := T.P (exN (uniq nms).length (cmOf nms) k)) (t := t) hu.t0 hu.t1
        have hk6 : k ≤ 1000 := by obtain ⟨N, hN, _⟩ := pow_facts hm4; omega
        rw [show ((cmOf nms).foldl (fun a i => a * 2 + bt (uniq nms).length k i) 0) = exN (uniq nms).length (cmOf nms) k from rfl]
        simp [hlt, hT, htd, hex, hlt2, hk6]
        unfold pD
        rw [← rl_succ]
        rfl
    · rintro ρ ⟨x3, x5, x6, rfl⟩
      simp
      rfl
end Ev.W

set_option Elab.async false
set_option linter.all false
set_option maxRecDepth 100000
set_option autoImplicit false
namespace Ev.W
open PySem PySem.Spec PyProof.Rows L2 Ev
variable {κ : String → Nat}
def smallR (κ : String → Nat) : SM :=
    (seqM (setM 2 (binM addG (binM addG (constM (.int 1)) (callM (m__law_draw κ) [0] (consA (varM 0) (consA (constM (.int 5)) nilA)))) (biM intFG (consA (callM (m__law_rare κ) [0] (consA (varM 0) (consA (constM (.int 5)) nilA))) nilA))))
    (seqM (setM 3 (biM listG (consA (callM (m__law_uses κ) [0] (consA (varM 0) (consA (varM 4) (consA (varM 2) (consA (callM (m__law_draw κ) [0] (consA (varM 0) (consA (constM (.int 8)) nilA))) nilA))))) nilA)))
    (seqM (setM 4 (binM addG (varM 4) (lstM (consD (tupM (consD (constM (.int 1)) (consD (tupM (consD (constM (.int 0)) (consD (constM .non) nilD))) nilD))) (consD (tupM (consD (constM (.int 1)) (consD (tupM (consD (constM .non) (consD (constM (.int 0)) nilD))) nilD))) nilD)))))
    (seqM (forM (rng1 (consD (callM (m__law_draw κ) [0] (consA (varM 0) (consA (constM (.int 4)) nilA))) nilD)) (nameG 5) (exprM (methM 3 (consD (tupM (consD (binM subG (binM subG (biM lenX (consA (varM 4) nilA)) (constM (.int 1))) (callM (m__law_draw κ) [0] (consA (varM 0) (consA (constM (.int 2)) nilA)))) (consD (tupM (consD (callM (m__law_draw κ) [0] (consA (varM 0) (consA (varM 2) nilA))) nilD)) (consD (constM (.int 1)) nilD)))) nilD) appendG)))
    (retM (tupM (consD (varM 4) (consD (varM 2) (consD (callM (m__law_shuffled κ) [0] (consA (varM 0) (consA (varM 3) nilA))) nilD)))))))))
theorem small_def (κ : String → Nat) : m__law_small κ = fnM 1 5 [0]
    (seqM (setM 1 (callM (m__law_draw κ) [0] (consA (varM 0) (consA (constM (.int 5)) nilA))))
    (seqM (ifS (boolM (binM ltG (varM 1) (constM (.int 3)))) (setM 4 (callM (m__law_kind_lot κ) [0] (consA (varM 0) (consA (binM atD (tupM (consD (constM (.str "least")) (consD (constM (.str "greatest")) (consD (constM (.str "cut")) nilD)))) (varM 1)) (consA (binM addG (constM (.int 1)) (callM (m__law_draw κ) [0] (consA (varM 0) (consA (constM (.int 3)) nilA)))) (consA (constM (.int 3)) nilA)))))) (ifS (boolM (binM eqG (varM 1) (constM (.int 3)))) (setM 4 (callM (m__law_any_lot κ) [0] (consA (varM 0) nilA))) (setM 4 (compM [5] (rng1 (consD (binM addG (constM (.int 1)) (callM (m__law_draw κ) [0] (consA (varM 0) (consA (constM (.int 2)) nilA)))) nilD)) (nameG 5) yesM (esc (callM (m__law_loose κ) [0] (consA (varM 0) (consA (binM addG (constM (.int 1)) (callM (m__law_draw κ) [0] (consA (varM 0) (consA (constM (.int 3)) nilA)))) (consA (binM addG (constM (.int 2)) (callM (m__law_draw κ) [0] (consA (varM 0) (consA (constM (.int 5)) nilA)))) nilA)))))))))
    (smallR κ))) := rfl
theorem usOk_app {U : List Du} {L M : List Tb} {many : Nat} (h : usOk U L many) : usOk U (L ++ M) many := fun u hu => by
  have := h u hu
  refine ⟨by rw [List.length_append]; have := this.lt; omega, fun hh => ?_, this.nm, this.t0, this.t1⟩
  rw [List.getElem_append_left this.lt]
  exact this.len this.lt
theorem perm_us {U : List Du} {es : List D} (h : es.Perm (usD U)) : ∃ U', U'.Perm U ∧ es = usD U' := by
  suffices hs : ∀ (es fs : List D), es.Perm fs → ∀ U, fs = usD U → ∃ U', U'.Perm U ∧ es = usD U' from hs es _ h U rfl
  intro es fs hp
  induction hp with
  | nil => intro U hU; exact ⟨U, List.Perm.refl _, hU⟩
  | cons x _ ih =>
    intro U hU
    cases U with
    | nil => cases hU
    | cons u U =>
      injection hU with h1 h2
      obtain ⟨U', p, rfl⟩ := ih U h2
      exact ⟨u :: U', List.Perm.cons u p, by rw [h1]; rfl⟩
  | swap x y l =>
    intro U hU
    rcases U with _ | ⟨u, _ | ⟨v, U⟩⟩
    · cases hU
    · injection hU with _ h; cases h
    · injection hU with h1 h2
      injection h2 with h2 h3
      exact ⟨v :: u :: U, List.Perm.swap _ _ _, by rw [h1, h2, h3]; rfl⟩
  | trans _ _ ih1 ih2 =>
    intro U hU
    obtain ⟨U1, p1, e1⟩ := ih2 U hU
    obtain ⟨U2, p2, e2⟩ := ih1 U1 e1
    exact ⟨U2, p2.trans p1, e2⟩
theorem usOk_perm {U U' : List Du} {L : List Tb} {many : Nat} (h : usOk U L many) (p : U'.Perm U) : usOk U' L many := fun u hu => h u (p.mem_iff.1 hu)
def t01 : Tb := ⟨1, ofPs [.int 0, .non]⟩
def t10 : Tb := ⟨1, ofPs [.non, .int 0]⟩
theorem t01_d : t01.d = .tup [.int 1, .tup [.int 0, .non]] := by
  have h := ofPs_eq (ps := [.int 0, .non]) (N := 2) rfl (by simp)
  show D.tup [.int 1, .tup (pD (ofPs [.int 0, .non]) 2)] = _
  rw [← h]
theorem t10_d : t10.d = .tup [.int 1, .tup [.non, .int 0]] := by
  have h := ofPs_eq (ps := [.non, .int 0]) (N := 2) rfl (by simp)
  show D.tup [.int 1, .tup (pD (ofPs [.non, .int 0]) 2)] = _
  rw [← h]
theorem smallR_ok {s : D} {L : List Tb} {sv : SV} {x1 : Option SV} {PO : Opd × Rho → Prop} (g : GD s) (hL : lotOk L) (hl1 : 1 ≤ L.length) (hl2 : L.length ≤ 100) (hsv : sv = .val (.lst (lotD L)) ∨ sv = .own (.lst (lotD L)))
    (w : ∀ L U many s', lotOk L → usOk U L many → 1 ≤ many → many ≤ 900 → L.length ≤ 1000 → U.length ≤ 1000 → GD s' → PO (.val (.tup [.lst (lotD L), .int many, .lst (usD U)]), [some (.own s')])) :
    Ok (smallR κ [some (.own s), x1, none, none, some sv, none]) (endK 1 [0] PO) := by
  have b1 := dR_lo (κ := κ) (k := 5) g (by omega) (by omega)
  have b2 := dR_hi (κ := κ) (k := 5) g (by omega) (by omega)
  have g1 : GD (dS κ s 5) := by simp [g]
  have g2 : GD (rS κ (dS κ s 5) 5) := by simp [g1]
  obtain ⟨many, hm, m1, m2⟩ : ∃ many : Nat, (1 + dR κ s 5 + if rR κ (dS κ s 5) 5 = true then 1 else 0) = (many : Int) ∧ 1 ≤ many ∧ many ≤ 900 := by
    refine ⟨(1 + dR κ s 5 + if rR κ (dS κ s 5) 5 = true then 1 else 0).toNat, ?_, ?_, ?_⟩ <;> split <;> omega
  have c1 := dR_lo (κ := κ) (k := 8) g2 (by omega) (by omega)
  have c2 := dR_hi (κ := κ) (k := 8) g2 (by omega) (by omega)
  have g3 : GD (dS κ (rS κ (dS κ s 5) 5) 8) := by simp [g2]
  obtain ⟨cnt, hc⟩ : ∃ q : Nat, dR κ (rS κ (dS κ s 5) 5) 8 = q := ⟨_, (Int.toNat_of_nonneg c1).symm⟩
  have mm1 : (1 : Int) ≤ many := by omega
  have mm2 : (many : Int) < 1152921504606846976 := by omega
  unfold smallR
  rcases hsv with rfl | rfl
  all_goals
    simp [g, g1, hm, g2, hc]
    refine uses_ok g3 hL hl1 (by omega) m1 (by omega) (by omega) (by first | exact .inl rfl | exact .inr rfl) fun U s' hU hUl g => ?_
    have d1 := dR_lo (κ := κ) (k := 4) g (by omega) (by omega)
    have d2 := dR_hi (κ := κ) (k := 4) g (by omega) (by omega)
    have hs : L.length + 2 ≤ sizeLine := sz_le (by omega)
    have hadd : lotD L ++ [.tup [.int 1, .tup [.int 0, .non]], .tup [.int 1, .tup [.non, .int 0]]] = lotD (L ++ [t01, t10]) := by simp [lotD, t01_d, t10_d]
    simp [hs, g, hadd]
    have hL2 : lotOk (L ++ [t01, t10]) := fun t ht => by
      rcases List.mem_append.1 ht with h | h
      · exact hL t h
      · simp at h
        rcases h with rfl | rfl <;> exact ⟨by decide, by decide⟩
    have hU2 := usOk_app (M := [t01, t10]) hU
    refine for_nx (fun k ρ => ∃ s U x5, ρ = [some (.own s), x1, some (.val (.int many)), some (.own (.lst (usD U))), some (.own (.lst (lotD (L ++ [t01, t10])))), x5] ∧ U.length = cnt + k ∧ usOk U (L ++ [t01, t10]) many ∧ GD s) ⟨_, U, _, rfl, hUl, hU2, by simp [g]⟩ ?_ ?_
    · rintro k d ρ e hk ⟨s, U, x5, rfl, hUl, hU, g⟩
      simp at hk
      have e1 := dR_lo (κ := κ) (k := 2) g (by omega) (by omega)
      have e2 := dR_hi (κ := κ) (k := 2) g (by omega) (by omega)
      have gg : GD (dS κ s 2) := by simp [g]
      have f1 := dR_lo (κ := κ) gg mm1 mm2
      have f2 := dR_hi (κ := κ) gg mm1 mm2
      obtain ⟨q, hq⟩ : ∃ q : Nat, (L.length : Int) + 2 - 1 - dR κ s 2 = q := ⟨((L.length : Int) + 2 - 1 - dR κ s 2).toNat, by omega⟩
      have hsU : U.length < sizeLine := sz_lt (by omega)
      have hqlt : q < (L ++ [t01, t10]).length := by simp; omega
      have hqn : (L ++ [t01, t10])[q].n = 1 := by
        rw [List.getElem_append_right (by omega)]
        have : q - L.length = 0 ∨ q - L.length = 1 := by omega
        rcases this with h | h
        · simp [h, t01]
        · simp [h, t10]
      simp (maxDischargeDepth := 20) [g, gg, mm1, mm2, hsU]
      rw [hq]
      refine ⟨_, U ++ [⟨q, [dR κ (dS κ s 2) many], 1⟩], ⟨rfl, us_snoc (u := ⟨q, [dR κ (dS κ s 2) many], 1⟩)⟩, by simp; omega, usOk_snoc hU ⟨hqlt, fun _ => by rw [hqn]; rfl, fun x hx => ?_, show (0 : Int) ≤ 1 by omega, show (1 : Int) ≤ 1000000 by omega⟩, by simp [gg, mm1, mm2]⟩
      rw [List.mem_singleton.1 hx]
      exact ⟨f1, f2⟩
    · rintro ρ ⟨s, U, x5, rfl, hUl, hU, g⟩
      simp at hUl
      simp
      refine shuffled_ok g (by simp; omega) (.inr rfl) fun es s' hp g' => ?_
      obtain ⟨U', hp', rfl⟩ := perm_us hp
      simp
      exact w _ U' many s' hL2 (usOk_perm hU hp') m1 m2 (by simp; omega) (by rw [hp'.length_eq]; omega) g'
theorem small_ok {s : D} {PO : Opd × Rho → Prop} (g : GD s)
    (w : ∀ L U many s', lotOk L → usOk U L many → 1 ≤ many → many ≤ 900 → L.length ≤ 1000 → U.length ≤ 1000 → GD s' → PO (.val (.tup [.lst (lotD L), .int many, .lst (usD U)]), [some (.own s')])) :
    Ok (m__law_small κ [.own s]) PO := by
  rw [small_def, ok_fnM]
  have b1 := dR_lo (κ := κ) (k := 5) g (by omega) (by omega)
  have b2 := dR_hi (κ := κ) (k := 5) g (by omega) (by omega)
  have g1 : GD (dS κ s 5) := by simp [g]
  obtain ⟨way, hw⟩ : ∃ q : Nat, dR κ s 5 = q := ⟨_, (Int.toNat_of_nonneg b1).symm⟩
  simp [g, hw]
  refine Br.mk (fun h3 => ?_) (fun _ => Br.mk (fun _ => ?_) (fun _ => ?_))
  · have h3 : way < 3 := by have := of_decide_eq_true h3; omega
    have c1 := dR_lo (κ := κ) (k := 3) g1 (by omega) (by omega)
    have c2 := dR_hi (κ := κ) (k := 3) g1 (by omega) (by omega)
    obtain ⟨q, hq⟩ : ∃ q : Nat, 1 + dR κ (dS κ s 5) 3 = q := ⟨(1 + dR κ (dS κ s 5) 3).toNat, by omega⟩
    have hkd : ∃ kd, [D.str (Str.ofString "least"), D.str (Str.ofString "greatest"), D.str (Str.ofString "cut")][way]'h3 = D.str kd ∧ kd ∈ kindsL := by
      have : way = 0 ∨ way = 1 ∨ way = 2 := by omega
      rcases this with rfl | rfl | rfl
      · exact ⟨_, rfl, m2⟩
      · exact ⟨_, rfl, m3⟩
      · exact ⟨_, rfl, m4⟩
    obtain ⟨kd, hkd, hkm⟩ := hkd
    simp [h3, hkd, g1, hq]
    refine kind_lot_ok (places := 3) (by simp [g1]) hkm (by omega) (by omega) (by omega) fun L s' hL hl g' => ?_
    simp
    exact smallR_ok g' hL (by omega) (by omega) (.inr rfl) w
  · refine any_lot_ok g1 fun L s' o ho hL h1 h2 g' => ?_
    rcases ho with rfl | rfl
    · simp
      exact smallR_ok g' hL h1 (by omega) (.inr rfl) w
    · simp
      exact smallR_ok g' hL h1 (by omega) (.inl rfl) w
  · have c1 := dR_lo (κ := κ) (k := 2) g1 (by omega) (by omega)
    have c2 := dR_hi (κ := κ) (k := 2) g1 (by omega) (by omega)
    obtain ⟨q, hq⟩ : ∃ q : Nat, 1 + dR κ (dS κ s 5) 2 = q := ⟨(1 + dR κ (dS κ s 5) 2).toNat, by omega⟩
    simp [g1, hq, show q ≤ 1000 by omega]
    refine comp_st (fun k acc ρ => ∃ s L, acc = lotD L ∧ ρ = [some (.own s), some (.val (.int way)), none, none, none, none] ∧ L.length = k ∧ lotOk L ∧ GD s) ⟨_, [], rfl, rfl, rfl, (fun t ht => by cases ht), by simp [g1]⟩ ?_ ?_
    · rintro k d acc ρ e hk ⟨s, L, rfl, rfl, hl, hL, g⟩
      simp at hk
      have d1 := dR_lo (κ := κ) (k := 3) g (by omega) (by omega)
      have d2 := dR_hi (κ := κ) (k := 3) g (by omega) (by omega)
      obtain ⟨n, hn⟩ : ∃ n : Nat, 1 + dR κ s 3 = n := ⟨(1 + dR κ s 3).toNat, by omega⟩
      have g3 : GD (dS κ s 3) := by simp [g]
      simp [g, hn, g3]
      refine loose_ok (by simp [g3]) (by omega) fun ps s' h1 h2 _ g' => ?_
      obtain ⟨t, ht, et⟩ := tb_of (by omega) (by omega) h1 fun d hd => (h2 d hd).oi
      simp [et]
      exact ⟨sz_lt (by omega), s', L ++ [t], lot_snoc, rfl, by simp [hl], lotOk_snoc hL ht, g'⟩
    · rintro acc ρ ⟨s, L, rfl, rfl, hl, hL, g⟩
      simp at hl
      simp
      exact smallR_ok g hL (by omega) (by omega) (.inr rfl) w
def longT (κ : String → Nat) : SM :=
    (seqM (setM 8 (callM (m__law_draw κ) [0] (consA (varM 0) (consA (constM (.int 3)) nilA))))
    (seqM (ifS (boolM (binM eqG (varM 8) (constM (.int 0)))) (setM 7 (compM [10] (revI (varM 7)) (nameG 10) yesM (esc (varM 10)))) nextM)
    (seqM (ifS (boolM (binM eqG (varM 8) (constM (.int 1)))) (setM 7 (callM (m__law_shuffled κ) [0] (consA (varM 0) (consA (varM 7) nilA)))) nextM)
    (retM (tupM (consD (varM 5) (consD (varM 2) (consD (varM 7) nilD))))))))
def longR (κ : String → Nat) : SM :=
    (seqM (exprM (methM 7 (consD (tupM (consD (constM (.int 1)) (consD (tupM (consD (binM atD (varM 6) (constM (.int 0))) nilD)) (consD (constM (.int 1)) nilD)))) nilD) appendG))
    (seqM (exprM (methM 7 (consD (biM listG (consA (callM (m__law_uses κ) [0] (consA (varM 0) (consA (varM 5) (consA (varM 2) (consA (callM (m__law_draw κ) [0] (consA (varM 0) (consA (constM (.int 4)) nilA))) nilA))))) nilA)) nilD) extendG))
    (longT κ)))
theorem long_def (κ : String → Nat) : m__law_long κ = fnM 1 10 [0]
    (seqM (setM 1 (callM (m__law_draw κ) [0] (consA (varM 0) (consA (constM (.int 2)) nilA))))
    (seqM (setM 2 (binM addG (constM (.int 12)) (callM (m__law_draw κ) [0] (consA (varM 0) (consA (constM (.int 29)) nilA)))))
    (seqM (setM 3 (compM [9] (rng1 (consD (constM (.int 4)) nilD)) (nameG 9) yesM (esc (callM (m__law_draw κ) [0] (consA (varM 0) (consA (constM (.int 9)) nilA))))))
    (seqM (putM 3 (binM addG (varM 1) (constM (.int 1))) (constM .non))
    (seqM (setM 4 (lstM (consD (callM (m__law_draw κ) [0] (consA (varM 0) (consA (constM (.int 9)) nilA))) (consD (callM (m__law_draw κ) [0] (consA (varM 0) (consA (constM (.int 9)) nilA))) nilD))))
    (seqM (putM 4 (binM subG (constM (.int 1)) (varM 1)) (constM .non))
    (seqM (setM 5 (lstM (consD (tupM (consD (constM (.int 2)) (consD (biM tupleG (consA (varM 3) nilA)) nilD))) (consD (tupM (consD (constM (.int 1)) (consD (biM tupleG (consA (varM 4) nilA)) nilD))) (consD (callM (m__law_loose κ) [0] (consA (varM 0) (consA (binM addG (constM (.int 1)) (callM (m__law_draw κ) [0] (consA (varM 0) (consA (constM (.int 3)) nilA)))) (consA (binM addG (constM (.int 2)) (callM (m__law_draw κ) [0] (consA (varM 0) (consA (constM (.int 4)) nilA)))) nilA)))) nilD)))))
    (seqM (setM 6 (callM (m__law_shuffled κ) [0] (consA (varM 0) (consA (lrgM (varM 2)) nilA))))
    (seqM (setM 7 (compM [9] (rng1 (consD (binM subG (varM 2) (constM (.int 1))) nilD)) (nameG 9) yesM (esc (tupM (consD (constM (.int 0)) (consD (tupM (consD (binM atD (varM 6) (varM 9)) (consD (binM atD (varM 6) (binM addG (varM 9) (constM (.int 1)))) nilD))) (consD (constM (.int 1)) nilD)))))))
    (seqM (ifS (boolM (binM eqG (callM (m__law_draw κ) [0] (consA (varM 0) (consA (constM (.int 3)) nilA))) (constM (.int 1)))) (exprM (methM 7 (consD (callM (m__law_draw κ) [0] (consA (varM 0) (consA (biM lenX (consA (varM 7) nilA)) nilA))) nilD) popAtG)) nextM)
    (longR κ))))))))))) := rfl
theorem longT_ok {s : D} {L : List Tb} {U : List Du} {many : Nat} {x1 x3 x4 x6 x8 : Option SV} {PO : Opd × Rho → Prop} (g : GD s) (hL : lotOk L) (hl2 : L.length ≤ 1000) (hU : usOk U L many) (hUl : U.length ≤ 1000) (m1 : 1 ≤ many) (m2 : many ≤ 900)
    (w : ∀ L U many s', lotOk L → usOk U L many → 1 ≤ many → many ≤ 900 → L.length ≤ 1000 → U.length ≤ 1000 → GD s' → PO (.val (.tup [.lst (lotD L), .int many, .lst (usD U)]), [some (.own s')])) :
    Ok (longT κ [some (.own s), x1, some (.val (.int many)), x3, x4, some (.own (.lst (lotD L))), x6, some (.own (.lst (usD U))), x8, none, none]) (endK 1 [0] PO) := by
  have g3 : GD (dS κ s 3) := by simp [g]
  unfold longT
  simp [g]
  by_cases h0 : dR κ s 3 = 0
  · simp [h0]
    rw [show (usD U).reverse = ((usD U).reverse).map id by simp]
    refine ok_comps (l := (usD U).reverse) (acc := []) (φ := id) id (fun d hd => ?_) (by simp; exact sz_le (by omega)) ?_
    · simp
    simp
    rw [show (usD U).reverse = usD U.reverse by simp [usD]]
    exact w L U.reverse many _ hL (fun u hu => hU u (by simpa using hu)) m1 m2 hl2 (by simpa using hUl) g3
  · by_cases h1 : dR κ s 3 = 1
    · simp [h1]
      refine shuffled_ok g3 (by simp; omega) (.inr rfl) fun es s' hp g' => ?_
      obtain ⟨U', hp', rfl⟩ := perm_us hp
      simp
      exact w L U' many s' hL (usOk_perm hU hp') m1 m2 hl2 (by rw [hp'.length_eq]; omega) g'
    · simp [h0, h1]
      exact w L U many _ hL hU m1 m2 hl2 hUl g3
theorem longR_ok {s : D} {tA tB tC : Tb} {U : List Du} {es : List D} {many : Nat} {x1 x3 x4 x8 : Option SV} {PO : Opd × Rho → Prop} (g : GD s) (hL : lotOk [tA, tB, tC]) (nB : tB.n = 1) (hU : usOk U [tA, tB, tC] many) (hUl : U.length ≤ 500) (m1 : 1 ≤ many) (m2 : many ≤ 900)
    (hes : ∃ i : Nat, ∃ h : 0 < es.length, es[0] = .int i ∧ i < many)
    (w : ∀ L U many s', lotOk L → usOk U L many → 1 ≤ many → many ≤ 900 → L.length ≤ 1000 → U.length ≤ 1000 → GD s' → PO (.val (.tup [.lst (lotD L), .int many, .lst (usD U)]), [some (.own s')])) :
    Ok (longR κ [some (.own s), x1, some (.val (.int many)), x3, x4, some (.own (.lst (lotD [tA, tB, tC]))), some (.own (.lst es)), some (.own (.lst (usD U))), x8, none, none]) (endK 1 [0] PO) := by
  obtain ⟨i, h0, hi, him⟩ := hes
  have hs : U.length < sizeLine := sz_lt (by omega)
  have b1 := dR_lo (κ := κ) (k := 4) g (by omega) (by omega)
  have b2 := dR_hi (κ := κ) (k := 4) g (by omega) (by omega)
  have g4 : GD (dS κ s 4) := by simp [g]
  obtain ⟨c, hc⟩ : ∃ q : Nat, dR κ s 4 = q := ⟨_, (Int.toNat_of_nonneg b1).symm⟩
  have hU2 : usOk (U ++ [⟨1, [(i : Int)], 1⟩]) [tA, tB, tC] many := usOk_snoc hU ⟨by simp, fun _ => by simp [nB], fun x hx => by rw [List.mem_singleton.1 hx]; omega, show (0 : Int) ≤ 1 by omega, show (1 : Int) ≤ 1000000 by omega⟩
  unfold longR
  simp [h0, hi, hs, g, hc]
  refine uses_ok g4 hL (by simp) (by simp) m1 (by omega) (by omega) (.inr rfl) fun U2 s' hU3 hUl3 g' => ?_
  have hs2 : U.length + 1 + U2.length ≤ sizeLine := sz_le (by omega)
  have hcat : usD U ++ (D.tup [.int 1, .tup [.int i], .int 1] :: usD U2) = usD (U ++ [⟨1, [(i : Int)], 1⟩] ++ U2) := by simp [usD, Du.d, inD]
  simp [extendG, hs2]
  rw [hcat]
  refine longT_ok g' hL (by simp) (fun u hu => ?_) (by simp; omega) m1 m2 w
  rcases List.mem_append.1 hu with hu | hu
  · exact hU2 u hu
  · exact hU3 u hu
theorem long_ok {s : D} {PO : Opd × Rho → Prop} (g : GD s)
    (w : ∀ L U many s', lotOk L → usOk U L many → 1 ≤ many → many ≤ 900 → L.length ≤ 1000 → U.length ≤ 1000 → GD s' → PO (.val (.tup [.lst (lotD L), .int many, .lst (usD U)]), [some (.own s')])) :
    Ok (m__law_long κ [.own s]) PO := by
  rw [long_def, ok_fnM]
  have b1 := dR_lo (κ := κ) (k := 2) g (by omega) (by omega)
  have b2 := dR_hi (κ := κ) (k := 2) g (by omega) (by omega)
  have g1 : GD (dS κ s 2) := by simp [g]
  have c1 := dR_lo (κ := κ) (k := 29) g1 (by omega) (by omega)
  have c2 := dR_hi (κ := κ) (k := 29) g1 (by omega) (by omega)
  have g2 : GD (dS κ (dS κ s 2) 29) := by simp [g1]
  obtain ⟨v, hv⟩ : ∃ q : Nat, dR κ s 2 = q := ⟨_, (Int.toNat_of_nonneg b1).symm⟩
  obtain ⟨many, hm⟩ : ∃ q : Nat, 12 + dR κ (dS κ s 2) 29 = q := ⟨(12 + dR κ (dS κ s 2) 29).toNat, by omega⟩
  have i4 : inR 4 = true := by decide
  simp [g, g1, hv, hm, i4]
  refine comp_st (fun k acc ρ => ∃ s, ρ = [some (.own s), some (.val (.int v)), some (.val (.int many)), none, none, none, none, none, none, none, none] ∧ acc.length = k ∧ (∀ d ∈ acc, OI d) ∧ GD s) ⟨_, rfl, rfl, by simp, g2⟩ ?_ ?_
  · rintro k d acc ρ e hk ⟨s, rfl, hl, ho, g⟩
    simp at hk
    have hs : acc.length < sizeLine := sz_lt (by omega)
    simp [g, hs, hl]
    refine ⟨sz_lt (by omega), ?_⟩
    rintro d (hd | rfl)
    · exact ho d hd
    · simp
  · rintro link ρ ⟨s, rfl, hl, ho, g⟩
    simp at hl
    have hlk : v + 1 < link.length := by omega
    have e1 : (v : Int) + 1 = ((v + 1 : Nat) : Int) := by omega
    have e2 : 1 - (v : Int) = ((1 - v : Nat) : Int) := by omega
    have hv2 : 1 - v < 2 := by omega
    have d1 := dR_lo (κ := κ) (k := 3) (s := dS κ (dS κ s 9) 9) (by simp (maxDischargeDepth := 20) [g]) (by omega) (by omega)
    have d2 := dR_hi (κ := κ) (k := 3) (s := dS κ (dS κ s 9) 9) (by simp (maxDischargeDepth := 20) [g]) (by omega) (by omega)
    obtain ⟨n, hn⟩ : ∃ n : Nat, 1 + dR κ (dS κ (dS κ s 9) 9) 3 = n := ⟨(1 + dR κ (dS κ (dS κ s 9) 9) 3).toNat, by omega⟩
    have x1 : ixN link.length ((v : Int) + 1) = some (v + 1) := by rw [ixN_pos (by omega) (by omega)]; congr 1
    have x2 : ixN 2 (1 - (v : Int)) = some (1 - v) := by rw [ixN_pos (by omega) (by omega)]; congr 1; omega
    simp (maxDischargeDepth := 20) [g, x1, x2, hn]
    obtain ⟨tA, hA, eA⟩ := tb_of (n := 2) (ps := link.set (v + 1) .non) (by omega) (by omega) (by simp [hl]) (AOI_set ho (by simp))
    obtain ⟨tB, hB, eB⟩ := tb_of (n := 1) (ps := [D.int (dR κ s 9), D.int (dR κ (dS κ s 9) 9)].set (1 - v) .non) (by omega) (by omega) (by simp) (AOI_set (by simp) (by simp))
    have nA : tA.n = 2 := by have := eA; unfold Tb.d at this; injection this with h; injection h with h _; injection h with h; omega
    have nB : tB.n = 1 := by have := eB; unfold Tb.d at this; injection this with h; injection h with h _; injection h with h; omega
    simp at eA eB
    refine loose_ok (by simp (maxDischargeDepth := 20) [g]) (by omega) fun ps s' h1 h2 _ g' => ?_
    obtain ⟨tC, hC, eC⟩ := tb_of (by omega) (by omega) h1 fun d hd => (h2 d hd).oi
    have hlot : [tA.d, tB.d, tC.d] = lotD [tA, tB, tC] := rfl
    have hL : lotOk [tA, tB, tC] := fun t ht => by
      simp at ht
      rcases ht with rfl | rfl | rfl
      · exact hA
      · exact hB
      · exact hC
    have z24 : many ≤ 2 ^ 24 := by omega
    simp [eA, eB, eC, hlot, z24, show many ≤ 1000 by omega]
    refine shuffled_ok g' (by simp; omega) (.inl rfl) fun es s' hp g' => ?_
    have hel : es.length = many := by rw [hp.length_eq]; simp
    have hord : ∀ k (h : k < es.length), ∃ i : Nat, es[k] = .int i ∧ i < many := fun k h => rangeD_mem (hp.mem_iff.1 (List.getElem_mem h))
    have im : inR ((many : Int) - 1) = true := inR_small (by omega) (by omega)
    simp [im]
    refine comp_st (fun k acc ρ => ∃ U, acc = usD U ∧ ρ = [some (.own s'), some (.val (.int v)), some (.val (.int many)), some (.own (.lst (link.set (v + 1) .non))), some (.own (.lst ([D.int (dR κ s 9), D.int (dR κ (dS κ s 9) 9)].set (1 - v) .non))), some (.own (.lst (lotD [tA, tB, tC]))), some (.own (.lst es)), none, none, none, none] ∧ U.length = k ∧ usOk U [tA, tB, tC] many) ⟨[], rfl, rfl, rfl, (fun u hu => by cases hu)⟩ ?_ ?_
    · rintro k d acc ρ e hk ⟨U, rfl, rfl, hUl, hU⟩
      obtain ⟨rfl, hk⟩ := rangeD_get e
      have hk1 : k + 1 < es.length := by omega
      obtain ⟨i, hi, him⟩ := hord k (by omega)
      obtain ⟨j, hj, hjm⟩ := hord (k + 1) hk1
      have xk : ixN es.length ((k : Int) + 1) = some (k + 1) := by rw [ixN_pos (by omega) (by omega)]; congr 1
      simp [show k < es.length by omega, hk1, xk, hi, hj]
      refine ⟨sz_lt (by omega), U ++ [⟨0, [(i : Int), (j : Int)], 1⟩], us_snoc (u := ⟨0, [(i : Int), (j : Int)], 1⟩), by simp [hUl], usOk_snoc hU ⟨by simp, fun _ => by simp [nA], fun x hx => ?_, show (0 : Int) ≤ 1 by omega, show (1 : Int) ≤ 1000000 by omega⟩⟩
      simp at hx
      rcases hx with rfl | rfl <;> omega
    · rintro acc ρ ⟨U, rfl, rfl, hUl, hU⟩
      simp at hUl
      have hUl2 : U.length = many - 1 := by omega
      have u1 : (1 : Int) ≤ U.length := by omega
      have u2 : (U.length : Int) < 1152921504606846976 := by omega
      obtain ⟨i0, hi0, him0⟩ := hord 0 (by omega)
      have g3 : GD (dS κ s' 3) := by simp [g']
      have b1 := dR_lo (κ := κ) g3 u1 u2
      have b2 := dR_hi (κ := κ) g3 u1 u2
      simp [g']
      refine Br.mk (fun _ => ?_) (fun _ => ?_)
      · obtain ⟨q, hq⟩ : ∃ q : Nat, dR κ (dS κ s' 3) U.length = q := ⟨_, (Int.toNat_of_nonneg b1).symm⟩
        have hqU : q < U.length := by omega
        have he : ∀ (U : List Du) (q : Nat), (usD U).eraseIdx q = usD (U.eraseIdx q) := fun U => by
          induction U with
          | nil => intro q; rfl
          | cons u U ih =>
            intro q
            cases q with
            | zero => rfl
            | succ q => show u.d :: (usD U).eraseIdx q = u.d :: usD (U.eraseIdx q); rw [ih q]
        simp [g3, u1, u2, popAtG, hq, hqU, he]
        exact longR_ok (by simp [g3, u1, u2]) hL nB (fun u hu => hU u (List.mem_of_mem_eraseIdx hu)) (by rw [List.length_eraseIdx, if_pos hqU]; omega) (by omega) (by omega) ⟨i0, by omega, hi0, him0⟩ w
      · exact longR_ok g3 hL nB hU (by omega) (by omega) (by omega) ⟨i0, by omega, hi0, him0⟩ w
end Ev.W

set_option Elab.async false
set_option linter.all false
set_option maxRecDepth 100000
set_option autoImplicit false
namespace Ev.W
open PySem PySem.Spec PyProof.Rows L2 Ev
variable {κ : String → Nat}
abbrev rowD (n x : Nat) : List D := rl n fun p => .int (bt n x p)
theorem zipD_rl {α : Type} (f g : α → D) : ∀ l : List α, zipD (l.map f) (l.map g) = l.map fun p => .tup [f p, g p]
  | [] => rfl
  | a :: l => by
    have ih := zipD_rl f g l
    unfold zipD at ih ⊢
    rw [List.map_cons, List.map_cons, List.zipWith_cons_cons, ih]; rfl
theorem inD_rl {l : List Int} : inD l = (List.range l.length).map fun p => D.int (l.getD p 0) := by
  apply List.ext_getElem?
  intro k
  by_cases h : k < l.length
  · simp [inD, h]
  · simp [inD, h]
def nmv (u : Us) (p : Nat) : Int := u.nm.getD p 0
def bey (u : Us) (F : List Int) (v : Nat) : List Nat := (List.range (2 ^ u.m)).filter fun y => (u.P y).isSome && (((List.range u.m).filter fun p => F.contains (nmv u p)).map fun p => bt u.m y p == v).all id
def rowsD (m : Nat) (l : List Nat) : List D := l.map fun y => .tup (rowD m y)
@[simp] theorem rowsD_len {m : Nat} {l : List Nat} : (rowsD m l).length = l.length := by simp [rowsD]
theorem bey_len {u : Us} {F : List Int} {v : Nat} (h : u.m ≤ 4) : (bey u F v).length ≤ 16 := by
  obtain ⟨N, hN, hZ, a1, a2⟩ := pow_facts h
  exact Nat.le_trans (List.length_filter_le ..) (by simp; omega)
theorem eqI (a b : Nat) : decide ((a : Int) = (b : Int)) = (a == b) := by
  by_cases h : a = b
  · subst h; simp
  · have : (a : Int) ≠ b := by omega
    rw [decide_eq_false this, beq_eq_false_iff_ne.2 h]
theorem br_tt {b : Bool} : Br b True True = True := by cases b <;> simp
theorem zip_nm {u : Us} {k : Nat} : zipD (inD u.nm) (rowD u.m k) = (List.range u.m).map fun p => D.tup [.int (nmv u p), .int (bt u.m k p)] := by
  rw [inD_rl]
  exact zipD_rl _ _ _
theorem beyond_eq {u : Us} {F : List Int} {v : Nat} (h4 : u.m ≤ 4) : m__law_beyond κ [.val u.d, .bor (.lst (inD F)), .val (.int v)] = some (.tmp (.lst (rowsD u.m (bey u F v))), [none, none, none]) := by
  obtain ⟨N, hN, hZ, a1, a2⟩ := pow_facts h4
  have n6 : u.m ≤ 1000 := by omega
  apply Ok.eq
  rw [m__law_beyond, ok_fnM, show u.d = .tup [.tup (inD u.nm), .tup (pD u.P (2 ^ u.m))] from rfl]
  simp [law_rows_eq (κ := κ) (show u.nm.length ≤ 4 from h4)]
  rw [show u.nm.length = u.m from rfl, show pD u.P (2 ^ u.m) = (List.range (2 ^ u.m)).map fun x => toD (u.P x) from rfl, zipD_rl]
  refine for_nx (fun k ρ => ∃ x4 x5, ρ = [some (.val (.tup [.tup (inD u.nm), .tup ((List.range (2 ^ u.m)).map fun x => toD (u.P x))])), some (.bor (.lst (inD F))), some (.val (.int v)), some (.own (.lst (rowsD u.m ((List.range k).filter fun y => (u.P y).isSome && (((List.range u.m).filter fun p => F.contains (nmv u p)).map fun p => bt u.m y p == v).all id)))), x4, x5, none, none]) ⟨_, _, rfl⟩ ?_ ?_
  · rintro k d ρ e hk ⟨x4, x5, rfl⟩
    have hk' : k < 2 ^ u.m := by simpa using hk
    have e2 : d = .tup [.tup (rowD u.m k), toD (u.P k)] := by
      simp [hk'] at e
      exact e.symm
    subst e2
    rw [List.range_succ, List.filter_append]
    have hsz : ((List.range k).filter fun y => (u.P y).isSome && (((List.range u.m).filter fun p => F.contains (nmv u p)).map fun p => bt u.m y p == v).all id).length < sizeLine := sz_lt (Nat.le_trans (List.length_filter_le ..) (by simp; omega))
    generalize hacc : ((List.range k).filter fun y => (u.P y).isSome && (((List.range u.m).filter fun p => F.contains (nmv u p)).map fun p => bt u.m y p == v).all id) = acc at *
    cases hP : u.P k with
    | none => simp [hP]
    | some pv =>
      simp
      rw [zip_nm]
      refine ok_comp (l := List.range u.m) (acc := []) (φ := fun p => D.tup [.int (nmv u p), .int (bt u.m k p)]) (fun p => F.contains (nmv u p)) (fun p => .bl (bt u.m k p == v)) (fun p hp => ?_) (by simp [n6]) ?_
      · have hin := inE_of (inG_inD false (nmv u p) F)
        simp at hin
        simp [hin, eqI, br_tt]
      · rw [List.nil_append]
        have ht := tvs_mapb (fun p => bt u.m k p == v) ((List.range u.m).filter fun p => F.contains (nmv u p))
        simp [-List.all_map, -List.all_filter, ht, hsz]
        simp only [List.filter_cons, List.filter_nil, hP, Option.isSome_some, Bool.true_and]
        generalize (((List.range u.m).filter fun p => decide (nmv u p ∈ F)).map fun a => bt u.m k a == v).all id = b
        cases b <;> simp [rowsD]
  · rintro ρ ⟨x4, x5, rfl⟩
    simp [bey]
def sureL (u : Us) (F : List Int) (v : Nat) : List Int := ((List.range u.m).filter fun k => ((bey u F v).map fun y => bt u.m y k == v).all id).map fun k => nmv u k
def frs (u : Us) (F : List Int) (v : Nat) : List Int := (sureL u F v).filter fun x => !F.contains x
def stp (u : Us) (F : List Int) (v : Nat) : Option (Option (List Int)) := if (bey u F v).length = 0 then some none else if (frs u F v).length = 0 then none else some (some (frs u F v))
def nxtG (F : List Int) (v : Nat) : List Us → Nat → Option (Nat × Option (List Int))
  | [], _ => none
  | u :: U, k => match stp u F v with
    | some r => some (k, r)
    | none => nxtG F v U (k + 1)
theorem nxt_none {F : List Int} {v : Nat} : ∀ (U : List Us) (k : Nat), (∀ i (h : i < U.length), stp U[i] F v = none) → nxtG F v U k = none
  | [], _, _ => rfl
  | u :: U, k, h => by
    have h0 := h 0 (by simp)
    simp at h0
    rw [nxtG, h0]
    exact nxt_none U (k + 1) fun i hi => by
      have := h (i + 1) (by simpa using hi)
      rwa [List.getElem_cons_succ] at this
theorem nxt_some {F : List Int} {v : Nat} : ∀ (U : List Us) (k j : Nat) (h : j < U.length) (r : Option (List Int)), (∀ i (hi : i < j), stp (U[i]'(by omega)) F v = none) → stp U[j] F v = some r → nxtG F v U k = some (k + j, r)
  | [], _, j, h, _, _, _ => by simp at h
  | u :: U, k, 0, h, r, _, hr => by
    simp at hr
    rw [nxtG, hr]; rfl
  | u :: U, k, j + 1, h, r, hn, hr => by
    have h0 := hn 0 (by omega)
    simp at h0
    rw [nxtG, h0]
    dsimp only
    rw [nxt_some U (k + 1) j (by simpa using h) r (fun i hi => by have := hn (i + 1) (by omega); rwa [List.getElem_cons_succ] at this) (by rwa [List.getElem_cons_succ] at hr)]
    congr 2
    omega
def optL : Option (List Int) → D
  | none => .non
  | some l => .lst (inD l)
def nxtD : Option (Nat × Option (List Int)) → D
  | none => .non
  | some (k, r) => .tup [.int k, optL r]
def usL (U : List Us) : List D := U.map Us.d
@[simp] theorem usL_len {U : List Us} : (usL U).length = U.length := by simp [usL]
@[simp] theorem usL_getE {U : List Us} {k : Nat} (h : k < (usL U).length) : (usL U)[k] = (U[k]'(by simpa using h)).d := by simp [usL]
def uOk (U : List Us) (many : Nat) : Prop := ∀ u ∈ U, u.ok many
theorem rows_get {m : Nat} {l : List Nat} {d : D} (h : d ∈ rowsD m l) : ∃ y ∈ l, d = .tup (rowD m y) := by
  obtain ⟨y, hy, rfl⟩ := List.mem_map.1 h
  exact ⟨y, hy, rfl⟩
theorem next_ok {U : List Us} {F : List Int} {v many : Nat} {sv : SV} {PO : Opd × Rho → Prop} (hU : uOk U many) (hUl : U.length ≤ 1000) (hsv : sv = .val (.lst (usL U)) ∨ sv = .bor (.lst (usL U))) (w : PO (.val (nxtD (nxtG F v U 0)), [none, none, none])) :
    Ok (m__law_next κ [sv, .bor (.lst (inD F)), .val (.int v)]) PO := by
  rw [m__law_next, ok_fnM]
  rcases hsv with rfl | rfl
  all_goals
    simp [hUl]
    refine for_inv (fun k ρ => ∃ x3 x4 x5 x6 x7, ρ = [some _, some (.bor (.lst (inD F))), some (.val (.int v)), x3, x4, x5, x6, x7, none, none, none] ∧ ∀ i (h : i < U.length), i < k → stp U[i] F v = none) ⟨_, _, _, _, _, rfl, fun i _ h => absurd h (by omega)⟩ ?_ ?_
    · rintro k d ρ e hk ⟨x3, x4, x5, x6, x7, rfl, hn⟩
      obtain ⟨rfl, hk⟩ := rangeD_get e
      obtain ⟨u, hu⟩ : ∃ u, U[k] = u := ⟨_, rfl⟩
      have huk : u.ok many := hu ▸ hU U[k] (List.getElem_mem hk)
      have hbe := beyond_eq (κ := κ) (F := F) (v := v) huk.m4
      have hnx : ∀ r, stp u F v = some r → nxtG F v U 0 = some (k, r) := fun r hr => by
        have := nxt_some U 0 k hk r (fun i hi => hn i (by omega) hi) (by rw [hu]; exact hr)
        simpa using this
      have hnn : stp u F v = none → ∀ i (h : i < U.length), i < k + 1 → stp U[i] F v = none := fun h0 i h hik => by
        by_cases hi : i = k
        · subst hi; rw [hu]; exact h0
        · exact hn i h (by omega)
      have hdu : u.d = .tup [.tup (inD u.nm), .tup (pD u.P (2 ^ u.m))] := rfl
      rw [hdu] at hbe
      have n6 : u.m ≤ 1000 := by have := huk.m4; omega
      have hnl : u.nm.length ≤ 1000 := n6
      have hbl := bey_len (u := u) (F := F) (v := v) huk.m4
      simp [hk, hu, hdu, hbe]
      by_cases hb0 : (bey u F v).length = 0
      · have hr := hnx none (by unfold stp; rw [if_pos hb0])
        rw [hr] at w
        have hb1 : bey u F v = [] := List.length_eq_zero_iff.1 hb0
        simp [hb1]
        exact w
      · have hb1 : bey u F v ≠ [] := fun e => hb0 (by rw [e]; rfl)
        simp [hb1]
        refine ⟨inR_nat hnl, ?_⟩
        rw [rangeD_rl, show u.nm.length = u.m from rfl]
        refine ok_comp (l := List.range u.m) (acc := []) (φ := fun i : Nat => D.int i) (fun k => ((bey u F v).map fun y => bt u.m y k == v).all id) (fun k => .int (nmv u k)) (fun q hq => ?_) (by simp [n6]) ?_
        · rw [List.mem_range] at hq
          have hq2 : q < u.nm.length := hq
          simp
          refine ok_comps (l := bey u F v) (acc := []) (φ := fun y => D.tup (rowD u.m y)) (fun y => D.bl (bt u.m y q == v)) (fun y hy => ?_) (by simp; exact sz_le (by omega)) ?_
          · simp [hq, eqI]
          · have ht := tvs_mapb (fun y => bt u.m y q == v) (bey u F v)
            have hget : (inD u.nm)[q]? = some (.int (nmv u q)) := by simp [inD, nmv, hq2]
            simp [-List.all_map, ht, -List.getElem?_eq_getElem]
            refine Br.mk (fun _ => ⟨hq2, ?_⟩) (fun _ => trivial)
            change Ok (inD u.nm)[q]? _
            rw [hget]
            simp
        · rw [List.nil_append, show ((List.range u.m).filter fun k => ((bey u F v).map fun y => bt u.m y k == v).all id).map (fun k => D.int (nmv u k)) = inD (sureL u F v) by simp [sureL, inD, Function.comp_def]]
          simp
          refine ok_comp (l := sureL u F v) (acc := []) (φ := D.int) (fun x => !F.contains x) D.int (fun x hx => ?_) (by simp [sureL]; exact sz_le (Nat.le_trans (List.length_filter_le ..) (by simp; omega))) ?_
          · have hin := inE_of (inG_inD true x F)
            simp at hin
            simp [hin, br_tt]
          · rw [List.nil_append, show ((sureL u F v).filter fun x => !F.contains x).map D.int = inD (frs u F v) from rfl]
            have hst : stp u F v = if (frs u F v).length = 0 then none else some (some (frs u F v)) := by unfold stp; rw [if_neg hb0]
            by_cases hf0 : (frs u F v).length = 0
            · simp [hf0]
              exact hnn (by rw [hst, if_pos hf0])
            · have hr := hnx (some (frs u F v)) (by rw [hst, if_neg hf0])
              rw [hr] at w
              simp [show 0 < (frs u F v).length by omega]
              exact w
    · rintro ρ ⟨x3, x4, x5, x6, x7, rfl, hn⟩
      have := nxt_none (F := F) (v := v) U 0 (fun i hi => hn i hi (by simpa using hi))
      rw [this] at w
      simp
      exact w
end Ev.W

set_option Elab.async false
set_option linter.all false
set_option maxRecDepth 100000
set_option autoImplicit false
namespace Ev.W
open PySem PySem.Spec PyProof.Rows L2 Ev
variable {κ : String → Nat}
@[simp] theorem isNonD_tup {xs : List D} : isNonD (.tup xs) = false := rfl
@[simp] theorem isNonD_lst {xs : List D} : isNonD (.lst xs) = false := rfl
@[simp] theorem isNonD_dct {ks : List Key} {ds : List D} : isNonD (.dct ks ds) = false := rfl
def cou (U : List Us) (v : Nat) : Nat → List Int → List Nat → List Int × List Nat × Bool
  | 0, F, S => (F, S, false)
  | k + 1, F, S => match nxtG F v U 0 with
    | none => (F, S, false)
    | some (s, none) => (F, S ++ [s], true)
    | some (s, some fr) => cou U v k (F ++ fr) (S ++ [s])
/-- what is kept along a course -/
structure Fok (F : List Int) (many : Nat) : Prop where
  nd : F.Nodup
  lt : ∀ x ∈ F, 0 ≤ x ∧ x < many
theorem sure_mem {u : Us} {F : List Int} {v : Nat} {x : Int} (h : x ∈ sureL u F v) : x ∈ u.nm := by
  obtain ⟨k, hk, rfl⟩ := List.mem_map.1 h
  have := List.mem_range.1 (List.mem_filter.1 hk).1
  have h2 : k < u.nm.length := this
  simp [nmv, h2]
theorem nd_getD {l : List Int} (h : l.Nodup) {i j : Nat} (hi : i < l.length) (hj : j < l.length) (e : l.getD i 0 = l.getD j 0) : i = j := by
  simp [hi, hj] at e
  have hp := List.pairwise_iff_getElem.1 h
  rcases Nat.lt_trichotomy i j with hlt | rfl | hlt
  · exact absurd e (hp i j hi hj hlt)
  · rfl
  · exact absurd e.symm (hp j i hj hi hlt)
theorem sure_nd {u : Us} {F : List Int} {v : Nat} (h : u.nm.Nodup) : (sureL u F v).Nodup := by
  unfold sureL
  have h1 : ((List.range u.m).filter fun k => ((bey u F v).map fun y => bt u.m y k == v).all id).Nodup := List.Pairwise.filter _ List.nodup_range
  generalize hl : ((List.range u.m).filter fun k => ((bey u F v).map fun y => bt u.m y k == v).all id) = l at *
  have h2 : ∀ k ∈ l, k < u.nm.length := fun k hk => by rw [← hl] at hk; exact List.mem_range.1 (List.mem_filter.1 hk).1
  clear hl
  induction l with
  | nil => simp
  | cons a l ih =>
    rw [List.nodup_cons] at h1
    rw [List.map_cons, List.nodup_cons]
    refine ⟨fun hm => ?_, ih h1.2 fun k hk => h2 k (List.mem_cons_of_mem _ hk)⟩
    obtain ⟨b, hb, e⟩ := List.mem_map.1 hm
    have := nd_getD h (h2 b (List.mem_cons_of_mem _ hb)) (h2 a (by simp)) e
    subst this
    exact h1.1 hb
theorem nxt_inv {F : List Int} {v : Nat} : ∀ (U : List Us) (k s : Nat) (r : Option (List Int)), nxtG F v U k = some (s, r) → ∃ u ∈ U, stp u F v = some r
  | [], _, _, _, h => by cases h
  | u :: U, k, s, r, h => by
    rw [nxtG] at h
    cases e : stp u F v with
    | none =>
      rw [e] at h
      obtain ⟨u', hu', e'⟩ := nxt_inv U (k + 1) s r h
      exact ⟨u', List.mem_cons_of_mem _ hu', e'⟩
    | some r' =>
      rw [e] at h
      injection h with h
      injection h with _ h
      subst h
      exact ⟨u, by simp, e⟩
theorem stp_fr {u : Us} {F fr : List Int} {v : Nat} (h : stp u F v = some (some fr)) : fr = frs u F v ∧ 0 < fr.length ∧ (bey u F v).length ≠ 0 := by
  unfold stp at h
  split at h
  · cases h
  · rename_i h1
    split at h
    · cases h
    · rename_i h2
      injection h with h; injection h with h
      subst h
      exact ⟨rfl, by omega, h1⟩
theorem Fok.step {u : Us} {F fr : List Int} {v many : Nat} (h : Fok F many) (hu : u.ok many) (e : stp u F v = some (some fr)) : Fok (F ++ fr) many := by
  obtain ⟨rfl, _, _⟩ := stp_fr e
  refine ⟨?_, fun x hx => ?_⟩
  · rw [List.nodup_append]
    refine ⟨h.nd, List.Pairwise.filter _ (sure_nd hu.nd), fun a ha b hb e => ?_⟩
    subst e
    have := (List.mem_filter.1 hb).2
    simp at this
    exact this ha
  · rcases List.mem_append.1 hx with hx | hx
    · exact h.lt x hx
    · exact hu.nm x (sure_mem (List.mem_filter.1 hx).1)
theorem nd_len : ∀ (n : Nat) (l : List Int), l.Nodup → (∀ x ∈ l, 0 ≤ x ∧ x < n) → l.length ≤ n := fun n l h1 h2 => by
  have hp : (l.map Int.toNat).Nodup := by
    rw [List.nodup_iff_pairwise_ne, List.pairwise_map]
    exact h1.imp_of_mem fun {a b} ha hb hne e => hne (by have := h2 a ha; have := h2 b hb; omega)
  have hs : ∀ (n : Nat) (l : List Nat), l.Nodup → (∀ x ∈ l, x < n) → l.length ≤ n := by
    intro n
    induction n with
    | zero => intro l _ h; cases l with
      | nil => simp
      | cons a l => exact absurd (h a (by simp)) (by omega)
    | succ n ih =>
      intro l hn h
      have h3 := ih (l.filter (· != n)) (List.Pairwise.filter _ hn) fun x hx => by
        have h4 := List.mem_filter.1 hx
        have := h x h4.1
        have h5 : x ≠ n := by simpa using h4.2
        omega
      have h6 : l.length ≤ (l.filter (· != n)).length + 1 := by
        clear ih h h3
        induction l with
        | nil => simp
        | cons a l ih =>
          rw [List.nodup_cons] at hn
          rw [List.filter_cons]
          by_cases e : a = n
          · subst e
            have : l.filter (· != a) = l := List.filter_eq_self.2 fun x hx => by simp; rintro rfl; exact hn.1 hx
            simp [this]
          · simp [e]; exact ih hn.2
      omega
  have := hs n _ hp fun x hx => by obtain ⟨y, hy, rfl⟩ := List.mem_map.1 hx; have := h2 y hy; omega
  simpa using this
def couD (c : List Int × List Nat × Bool) : D := .tup [.lst (inD c.1), .tup (nD c.2.1), .bl c.2.2]
theorem course_ok {U : List Us} {v many : Nat} {sv : SV} {PO : Opd × Rho → Prop} (hU : uOk U many) (hUl : U.length ≤ 1000) (hm : many ≤ 900) (hsv : sv = .val (.lst (usL U)) ∨ sv = .bor (.lst (usL U))) (w : PO (.val (couD (cou U v (many + 1) [] [])), [none, none, none])) :
    Ok (m__law_course κ [sv, .val (.int many), .val (.int v)]) PO := by
  rw [m__law_course, ok_fnM]
  have i1 : inR ((many : Int) + 1) = true := inR_small (by omega) (by omega)
  generalize hC : cou U v (many + 1) [] [] = C at *
  rcases hsv with rfl | rfl
  all_goals
    simp [i1]
    refine for_inv (fun k ρ => ∃ F S x5 x6, ρ = [some _, some (.val (.int many)), some (.val (.int v)), some (.own (.lst (inD F))), some (.own (.lst (nD S))), x5, x6] ∧ C = cou U v (many + 1 - k) F S ∧ S.length = k ∧ Fok F many) ⟨[], [], _, _, rfl, hC.symm, rfl, ⟨by simp, by simp⟩⟩ ?_ ?_
    · rintro k d ρ e hk ⟨F, S, x5, x6, rfl, hc, hS, hF⟩
      have hk : k < many + 1 := by simpa using hk
      rw [show many + 1 - k = (many - k) + 1 by omega, cou] at hc
      have hFl := nd_len many F hF.nd hF.lt
      simp
      refine next_ok hU hUl (by first | exact .inl rfl | exact .inr rfl) ?_
      have hsz : S.length < sizeLine := sz_lt (by omega)
      cases hn : nxtG F v U 0 with
      | none =>
        rw [hn] at hc
        rw [hc] at w
        simp [nxtD]
        exact w
      | some sr =>
        obtain ⟨s, r⟩ := sr
        rw [hn] at hc
        cases r with
        | none =>
          dsimp only at hc
          rw [hc] at w
          simp [nxtD, optL, hsz]
          rw [show nD S ++ [D.int s] = nD (S ++ [s]) by simp [nD]]
          exact w
        | some fr =>
          dsimp only at hc
          obtain ⟨u, hu, he⟩ := nxt_inv U 0 s _ hn
          have hF2 := hF.step (hU u hu) he
          have hFl2 := nd_len many _ hF2.nd hF2.lt
          rw [List.length_append] at hFl2
          have hs2 : F.length + fr.length ≤ sizeLine := sz_le (by omega)
          simp [nxtD, optL, hsz, hs2]
          refine ⟨F ++ fr, S ++ [s], ⟨by simp [inD], by simp [nD]⟩, ?_, by simp [hS], hF2⟩
          exact hc
    · rintro ρ ⟨F, S, x5, x6, rfl, hc, hS, hF⟩
      have e : many + 1 - (rangeD 0 (many + 1)).length = 0 := by simp
      rw [e, cou] at hc
      rw [hc] at w
      simp
      exact w
end Ev.W

set_option Elab.async false
set_option linter.all false
set_option maxRecDepth 100000
set_option autoImplicit false
namespace Ev.W
open PySem PySem.Spec PyProof.Rows L2 Ev
variable {κ : String → Nat}
theorem pow7 {n : Nat} (h : n ≤ 7) : ∃ N : Nat, 2 ^ n = N ∧ (2 : Int) ^ n = (N : Int) ∧ 1 ≤ N ∧ N ≤ 128 := by
  have : n = 0 ∨ n = 1 ∨ n = 2 ∨ n = 3 ∨ n = 4 ∨ n = 5 ∨ n = 6 ∨ n = 7 := by omega
  rcases this with rfl | rfl | rfl | rfl | rfl | rfl | rfl | rfl <;> exact ⟨_, rfl, by decide, by decide, by decide⟩
theorem rows7_eq {n : Nat} (hn : n ≤ 7) : m__law_rows κ [.val (.int n)] = some (.tmp (.lst (rl (2 ^ n) fun x => .tup (rowD n x))), [none]) := by
  obtain ⟨N, hN, hZ, a1, a2⟩ := pow7 hn
  apply Ok.eq
  rw [m__law_rows, ok_fnM]
  have z : N ≤ 1000 := by omega
  simp [hZ, z, hN, show (n : Int) ≤ 1000000 by omega]
  rw [rangeD_rl]
  refine ok_comps (l := List.range N) (acc := []) (φ := fun i : Nat => D.int i) (fun x => .tup (rowD n x)) (fun x hx => ?_) (by simp [z]) ?_
  · simp [law_row_eq (κ := κ) (show n ≤ 1000 by omega)]
  · simp [hN]
theorem number_eq {l : List Nat} : m__law_number κ [.val (.lst (l.map fun b : Nat => .int b))] = some (.val (.int (l.foldl (fun a b => a * 2 + b) 0 : Nat)), [none]) := by
  apply Ok.eq
  rw [m__law_number, ok_fnM]
  simp
  refine for_nx (fun k ρ => ∃ x, ρ = [some (.val (.lst (l.map fun b : Nat => .int b))), some (.val (.int ((l.take k).foldl (fun a b => a * 2 + b) 0 : Nat))), x]) ⟨_, rfl⟩ ?_ ?_
  · rintro k d ρ e hk ⟨x, rfl⟩
    rw [List.getElem?_map] at e
    obtain ⟨b, hb, rfl⟩ := Option.map_eq_some_iff.1 e
    rw [foldl_take _ _ _ hb]
    simp
  · rintro ρ ⟨x, rfl⟩
    rw [List.take_of_length_le (by simp)]
    simp
def pos (u : Us) : List Nat := u.nm.map Int.toNat
def isOp (U : List Us) (many y : Nat) : Bool := (U.map fun u => (u.P (exN many (pos u) y)).isSome).all id
def openL (U : List Us) (many : Nat) : List Nat := (List.range (2 ^ many)).filter (isOp U many)
theorem openL_len {U : List Us} {many : Nat} (h : many ≤ 7) : (openL U many).length ≤ 128 := by
  obtain ⟨N, hN, hZ, a1, a2⟩ := pow7 h
  exact Nat.le_trans (List.length_filter_le ..) (by simp; omega)
theorem ex_fold (many y : Nat) (l : List Nat) : (l.map fun i => bt many y i).foldl (fun a b => a * 2 + b) 0 = exN many l y := by
  unfold exN
  rw [List.foldl_map]
theorem pos_get {u : Us} {many : Nat} (hu : u.ok many) : ∀ x ∈ u.nm, x.toNat < many := fun x hx => by have := hu.nm x hx; omega
theorem open_ok {U : List Us} {many : Nat} {sv : SV} {PO : Opd × Rho → Prop} (hU : uOk U many) (hUl : U.length ≤ 1000) (hm : many ≤ 7) (hsv : sv = .val (.lst (usL U)) ∨ sv = .bor (.lst (usL U))) (w : PO (.tmp (.lst (rowsD many (openL U many))), [none, none])) :
    Ok (m__law_open κ [sv, .val (.int many)]) PO := by
  obtain ⟨N, hN, hZ, a1, a2⟩ := pow7 hm
  rw [m__law_open, ok_fnM]
  rcases hsv with rfl | rfl
  all_goals
    simp [rows7_eq (κ := κ) hm]
    refine for_nx (fun k ρ => ∃ x3 x4, ρ = [some _, some (.val (.int many)), some (.own (.lst (rowsD many ((List.range k).filter (isOp U many))))), x3, x4, none, none]) ⟨_, _, rfl⟩ ?_ ?_
    · rintro k d ρ e hk ⟨x3, x4, rfl⟩
      have hk' : k < 2 ^ many := by simpa using hk
      have e2 : d = .tup (rowD many k) := by
        simp [hk'] at e
        exact e.symm
      subst e2
      simp
      refine ok_comps (l := U) (acc := []) (φ := Us.d) (fun u => toD (u.P (exN many (pos u) k))) (fun u hu => ?_) (by simp; exact sz_le (by omega)) ?_
      · have huk := hU u hu
        have hdu : u.d = .tup [.tup (inD u.nm), .tup (pD u.P (2 ^ u.m))] := rfl
        have hlt : exN many (pos u) k < 2 ^ u.m := by
          have := exN_lt many k (pos u)
          rwa [show (pos u).length = u.m by simp [pos, Us.m]] at this
        simp [hdu]
        refine ok_comps (l := u.nm) (acc := []) (φ := D.int) (fun x => .int (bt many k x.toNat : Nat)) (fun x hx => ?_) (by simp; have := huk.m4; exact sz_le (by unfold Us.m at this; omega)) ?_
        · have h1 := huk.nm x hx
          have h2 := pos_get huk x hx
          simp
          rw [ixN_pos h1.1 (by first | omega | (simp; omega))]
          simp [h2]
        · rw [List.nil_append, show (u.nm.map fun x => D.int (bt many k x.toNat : Nat)) = ((pos u).map fun i => bt many k i).map fun b : Nat => D.int b by simp [pos, Function.comp_def]]
          simp [-List.map_map, number_eq (κ := κ), ex_fold, hlt]
      · have hsz : ((List.range k).filter (isOp U many)).length < sizeLine := sz_lt (Nat.le_trans (List.length_filter_le ..) (by simp; omega))
        simp
        refine sum_ok (fun _ => it_bor) (fun d hd => by obtain ⟨u, _, rfl⟩ := List.mem_map.1 hd; simp) fun v hv hvn => ?_
        have hop : isNonD v = !isOp U many k := by
          have h1 : (isNonD v = true) ↔ v = .non := by
            rcases hv with rfl | ⟨i, rfl⟩ <;> simp
          rw [Bool.eq_iff_iff, h1, hvn]
          unfold isOp
          simp only [List.mem_map, Bool.not_eq_true', Bool.eq_false_iff]
          constructor
          · rintro ⟨u, hu, e⟩ hall
            rw [List.all_eq_true] at hall
            have := hall _ (List.mem_map_of_mem hu)
            rw [toD_non] at e
            simp [e] at this
          · intro h
            simp at h
            obtain ⟨u, hu, e⟩ := h
            exact ⟨u, hu, by rw [e]; rfl⟩
        rw [List.range_succ, List.filter_append]
        generalize (List.range k).filter (isOp U many) = acc at *
        simp only [List.filter_cons, List.filter_nil]
        simp [hop, hsz]
        cases isOp U many k <;> simp [rowsD]
    · rintro ρ ⟨x3, x4, rfl⟩
      simp [openL] at w ⊢
      exact w
end Ev.W

set_option Elab.async false
set_option linter.all false
set_option maxRecDepth 100000
set_option autoImplicit false
namespace Ev.W
open PySem PySem.Spec PyProof.Rows L2 Ev
variable {κ : String → Nat}
theorem inD_ints {l : List Int} : intsOf (inD l) = some l := intsOf_int l
theorem nD_ints {l : List Nat} : intsOf (nD l) = some (l.map fun k : Nat => (k : Int)) := intsOf_mapf (fun k : Nat => (k : Int)) l
def ndI (l : List Nat) : List Int := l.map fun k : Nat => (k : Int)
/-- the names of a range, by a test, in order -/
def rangeF (many : Nat) (c : Nat → Bool) : List Int := ndI ((List.range many).filter c)
theorem rangeF_sorted (many : Nat) (c : Nat → Bool) : (rangeF many c).Pairwise (· ≤ ·) := by
  unfold rangeF ndI
  rw [List.pairwise_map]
  exact (List.Pairwise.filter _ List.pairwise_lt_range).imp fun h => by omega
theorem rangeF_nd (many : Nat) (c : Nat → Bool) : (rangeF many c).Nodup := by
  unfold rangeF ndI
  rw [List.nodup_iff_pairwise_ne, List.pairwise_map]
  exact (List.Pairwise.filter _ List.pairwise_lt_range).imp fun h => by omega
theorem perm_of_mem : ∀ (a b : List Int), a.Nodup → b.Nodup → (∀ x, x ∈ a ↔ x ∈ b) → a.Perm b
  | [], b, _, _, h => by
    cases b with
    | nil => exact List.Perm.refl _
    | cons y b => exact absurd ((h y).2 (by simp)) (by simp)
  | x :: a, b, ha, hb, h => by
    have hx : x ∈ b := (h x).1 (by simp)
    obtain ⟨s, t, rfl⟩ := List.append_of_mem hx
    rw [List.nodup_cons] at ha
    have hp : (s ++ x :: t).Perm (x :: (s ++ t)) := List.perm_middle
    have hb2 : (x :: (s ++ t)).Nodup := hp.nodup_iff.1 hb
    rw [List.nodup_cons] at hb2
    refine (List.Perm.cons x (perm_of_mem a (s ++ t) ha.2 hb2.2 fun y => ?_)).trans hp.symm
    have h1 := h y
    have h2 := hp.mem_iff (a := y)
    simp only [List.mem_cons] at h1 h2
    constructor
    · intro hy
      rcases h2.1 (h1.1 (.inr hy)) with rfl | h3
      · exact absurd hy ha.1
      · exact h3
    · intro hy
      rcases h1.2 (h2.2 (.inr hy)) with rfl | h3
      · exact absurd hy hb2.1
      · exact h3
theorem srt_eq {F : List Int} {many : Nat} (h : Fok F many) : srtI F = rangeF many fun k => F.contains (k : Int) := by
  refine srtI_eq (perm_of_mem _ _ (rangeF_nd _ _) h.nd fun x => ?_) (rangeF_sorted _ _)
  unfold rangeF ndI
  rw [List.mem_map]
  constructor
  · rintro ⟨k, hk, rfl⟩
    simpa using (List.mem_filter.1 hk).2
  · intro hx
    have := h.lt x hx
    exact ⟨x.toNat, List.mem_filter.2 ⟨List.mem_range.2 (by omega), by simp [Int.toNat_of_nonneg this.1, hx]⟩, Int.toNat_of_nonneg this.1⟩
theorem eqL_ints {a b : List Int} : eqG (.lst (inD a)) (.lst (inD b)) = some (.val (.bl (decide (a = b)))) := by unfold eqG; rw [eqD_lst inD_ints inD_ints]
theorem meant_ok {U : List Us} {F : List Int} {v many : Nat} {exact stuck : Bool} {sv : SV} {PO : Opd × Rho → Prop} (hU : uOk U many) (hUl : U.length ≤ 1000) (hm : many ≤ 7) (hF : Fok F many) (hsv : sv = .val (.lst (usL U)) ∨ sv = .bor (.lst (usL U)))
    (h1 : ∀ y ∈ openL U many, stuck = false ∧ ∀ x ∈ F, bt many y x.toNat = v) (h2 : exact = true → stuck = decide ((openL U many).length = 0))
    (h3 : exact = true → stuck = false → (rangeF many fun k => ((openL U many).map fun y => bt many y k == v).all id) = srtI F) (w : PO (.val (.bl true), [none, none, none, none, none, none])) :
    Ok (m__law_meant κ [sv, .val (.int many), .val (.int v), .val (.bl exact), .val (.lst (inD F)), .val (.bl stuck)]) PO := by
  have n6 : many ≤ 1000 := by omega
  have hol := openL_len (U := U) hm
  have hFl := nd_len many F hF.nd hF.lt
  rw [m__law_meant, ok_fnM]
  rcases hsv with rfl | rfl
  all_goals
    simp
    refine open_ok hU hUl hm (by first | exact .inl rfl | exact .inr rfl) ?_
    simp
    refine for_nx (fun k ρ => ∃ x7, (x7 = none ∨ ∃ d, x7 = some (.val d)) ∧ ρ = [some _, some (.val (.int many)), some (.val (.int v)), some (.val (.bl exact)), some (.val (.lst (inD F))), some (.val (.bl stuck)), some (.lck (.lst (rowsD many (openL U many)))), x7, none, none]) ⟨_, .inl rfl, rfl⟩ ?_ ?_
    · rintro k d ρ e hk ⟨x7, _, rfl⟩
      obtain ⟨y, hy, rfl⟩ := rows_get (List.mem_of_getElem? e)
      obtain ⟨hst, hall⟩ := h1 y hy
      subst hst
      simp
      refine ok_comps (l := F) (acc := []) (φ := D.int) (fun x => .bl (bt many y x.toNat == v)) (fun x hx => ?_) (by simp; exact sz_le (by omega)) ?_
      · have q1 := hF.lt x hx
        have q2 : x.toNat < many := by omega
        simp
        rw [ixN_pos q1.1 (by first | omega | (simp; omega))]
        simp [q2, eqI]
      · have ht := tvs_mapb (fun x : Int => bt many y x.toNat == v) F
        have hal : (F.map fun x : Int => bt many y x.toNat == v).all id = true := by
          rw [List.all_eq_true]
          intro b hb
          obtain ⟨x, hx, rfl⟩ := List.mem_map.1 hb
          simpa using hall x hx
        simp [-List.all_map, ht, hal]
    · rintro ρ ⟨x7, hx7, rfl⟩
      simp
      refine Br.mk (fun hex => Br.mk (fun hbad => ?_) (fun _ => ⟨inR_nat n6, ?_⟩)) (fun hex => ⟨inR_nat n6, ?_⟩)
      · exfalso
        have h := h2 hex
        have e : decide (openL U many = []) = decide ((openL U many).length = 0) := by simp
        rw [e, ← h] at hbad
        cases stuck <;> simp at hbad
      all_goals
        rw [rangeD_rl]
        refine ok_comp (l := List.range many) (acc := []) (φ := fun i : Nat => D.int i) (fun k => ((openL U many).map fun y => bt many y k == v).all id) (fun k => .int k) (fun q hq => ?_) (by simp [n6]) ?_
        · rw [List.mem_range] at hq
          rcases hx7 with rfl | ⟨d7, rfl⟩
          all_goals
          simp
          refine ok_comps (l := openL U many) (acc := []) (φ := fun y => D.tup (rowD many y)) (fun y => D.bl (bt many y q == v)) (fun y hy => ?_) (by simp; exact sz_le (by omega)) ?_
          · simp [hq, eqI]
          · have ht := tvs_mapb (fun y => bt many y q == v) (openL U many)
            simp [-List.all_map, ht, br_tt]
        · rw [List.nil_append, show ((List.range many).filter fun k => ((openL U many).map fun y => bt many y k == v).all id).map (fun k : Nat => D.int k) = inD (rangeF many fun k => ((openL U many).map fun y => bt many y k == v).all id) by simp [rangeF, ndI, inD, Function.comp_def]]
          generalize hX : (rangeF many fun k => ((openL U many).map fun y => bt many y k == v).all id) = X at *
          simp
          cases stuck with
          | true => simp; exact w
          | false =>
            cases exact with
            | false => simp; exact w
            | true =>
              have hs := sortG_lst (inD_ints (l := F))
              simp [hs, show (srtI F).map D.int = inD (srtI F) from rfl, eqL_ints, h3 rfl rfl]
              exact w
theorem toldD_len : True := trivial
def toldD (c : List Int × List Nat × Bool) : D := .tup [.dct (c.1.map Sum.inl) (c.1.map fun _ => .bl true), .tup (nD c.2.1), .bl c.2.2]
theorem dlk_in (x : Int) : ∀ l : List Int, dlk (Sum.inl x) (l.map Sum.inl) (l.map fun _ => D.bl true) = if l.contains x then some (D.bl true) else none
  | [] => by simp [dlk]
  | q :: l => by
    rw [List.map_cons, List.map_cons, dlk, dlk_in x l]
    by_cases h : q = x
    · subst h; simp
    · have : (Sum.inl q : Key) ≠ Sum.inl x := fun e => h (by injection e)
      simp [this, Ne.symm h]
theorem right_ok {U : List Us} {C : List Int × List Nat × Bool} {v many : Nat} {exact : Bool} {sv : SV} {PO : Opd × Rho → Prop} (hU : uOk U many) (hUl : U.length ≤ 1000) (hm : many ≤ 900) (hC : cou U v (many + 1) [] [] = C) (hF : Fok C.1 many) (hS : C.2.1.length ≤ 1000) (hsv : sv = .val (.lst (usL U)) ∨ sv = .bor (.lst (usL U)))
    (h1 : many ≤ 7 → ∀ y ∈ openL U many, C.2.2 = false ∧ ∀ x ∈ C.1, bt many y x.toNat = v) (h2 : many ≤ 7 → exact = true → C.2.2 = decide ((openL U many).length = 0))
    (h3 : many ≤ 7 → exact = true → C.2.2 = false → (rangeF many fun k => ((openL U many).map fun y => bt many y k == v).all id) = srtI C.1) (w : PO (.val (.bl true), [none, none, none, none, none])) :
    Ok (m__law_right κ [sv, .val (.int many), .val (.int v), .val (.bl exact), .val (toldD C)]) PO := by
  obtain ⟨F, S, st⟩ := C
  have n6 : many ≤ 1000 := by omega
  have hFl := nd_len many F hF.nd hF.lt
  have dct1 : isiAny "dict" ["dict"] = some true := by decide +kernel
  have hints : m__law_is_ints κ [.val (.tup (nD S))] = some (.val (.bl true), [none]) := by
    apply Ok.eq
    rw [m__law_is_ints, ok_fnM]
    simp
    refine ok_comps (l := S) (acc := []) (φ := fun k : Nat => D.int k) (fun _ => D.bl true) (fun p hp => ?_) (by simp; exact sz_le (by simpa using hS)) ?_
    · simp [isint_eq]
    have hall : tvs (S.map fun _ => D.bl true) = some (S.map fun _ => true) := tvs_mapb (fun _ => true) _
    simp [-List.map_const_fun, hall]
  have hcl := course_ok (κ := κ) (v := v) (sv := sv) hU hUl hm hsv (PO := fun p => p = (.val (couD (F, S, st)), [none, none, none])) (by rw [hC])
  have hce := Ok.eq hcl
  have hdt : isiD ["dict"] (.dct (F.map Sum.inl) (F.map fun _ => .bl true)) = some true := by
    show (if isIns _ = true then none else isiAny "dict" ["dict"]) = _
    rw [dct1]; rfl
  have hne : neG (.tup (nD S)) (.tup (nD S)) = some (.val (.bl false)) := by rw [neG_tup nD_ints nD_ints]; simp
  rw [m__law_right, ok_fnM]
  unfold toldD
  rcases hsv with rfl | rfl
  all_goals
    simp [hce, couD, hdt, n6]
    rw [rangeD_rl]
    refine ok_comp (l := List.range many) (acc := []) (φ := fun i : Nat => D.int i) (fun k => F.contains (k : Int)) (fun k => .int k) (fun q hq => ?_) (by simp [n6]) ?_
    · simp [dlk_in, Br]
      by_cases h : (q : Int) ∈ F <;> simp [h]
    · rw [List.nil_append, show ((List.range many).filter fun k : Nat => F.contains (k : Int)).map (fun k : Nat => D.int k) = inD (rangeF many fun k : Nat => F.contains (k : Int)) by simp [rangeF, ndI, inD, Function.comp_def], ← srt_eq hF]
      have hs := sortG_lst (inD_ints (l := F))
      have hnn : neG (.lst (inD (srtI F))) (.lst (inD (srtI F))) = some (.val (.bl false)) := by rw [neG_lst inD_ints inD_ints]; simp
      simp [hs, show (srtI F).map D.int = inD (srtI F) from rfl, hnn, hints, hne]
      refine Br.mk (fun _ => w) (fun hn => ?_)
      have h7 : many ≤ 7 := by have := of_decide_eq_false hn; omega
      refine meant_ok hU hUl h7 hF (by first | exact .inl rfl | exact .inr rfl) (h1 h7) (h2 h7) (h3 h7) ?_
      simp
      exact w
end Ev.W

set_option Elab.async false
set_option linter.all false
set_option maxRecDepth 100000
set_option autoImplicit false
namespace Ev.W
open PySem PySem.Spec PyProof.Rows L2 Ev
variable {κ : String → Nat}
def dictD (F : List Int) : D := .dct (F.map Sum.inl) (F.map fun _ => .bl true)
def rowsP (u : Us) (l : List Nat) : List D := l.map fun y => .tup [.tup (rowD u.m y), toD (u.P y)]
@[simp] theorem rowsP_len {u : Us} {l : List Nat} : (rowsP u l).length = l.length := by simp [rowsP]
theorem isSome_if {c : Prop} [Decidable c] : (if c then some (D.bl true) else none).isSome = decide c := by by_cases h : c <;> simp [h]
theorem rows_beyond_eq {u : Us} {F : List Int} {v : Nat} (h4 : u.m ≤ 4) : m_rows_beyond κ [.val (.tup (inD u.nm)), .val (.tup (pD u.P (2 ^ u.m))), .bor (dictD F), .val (.int v)] = some (.tmp (.lst (rowsP u (bey u F v))), [none, none, none, none]) := by
  obtain ⟨N, hN, hZ, a1, a2⟩ := pow_facts h4
  have n6 : u.m ≤ 1000 := by omega
  have hnl : u.nm.length ≤ 1000 := n6
  apply Ok.eq
  rw [m_rows_beyond, ok_fnM]
  unfold dictD
  simp [rows_of_eq (κ := κ) (show u.nm.length ≤ 4 from h4)]
  rw [show u.nm.length = u.m from rfl, show zipD (rl (2 ^ u.m) fun x => D.tup (rl u.m fun p => D.int (bt u.m x p))) (pD u.P (2 ^ u.m)) = (List.range (2 ^ u.m)).map fun x => D.tup [.tup (rowD u.m x), toD (u.P x)] from zipD_rl _ _ _]
  refine for_nx (fun k ρ => ∃ x5 x6, ρ = [some (.val (.tup (inD u.nm))), some (.val (.tup (pD u.P (2 ^ u.m)))), some (.bor (.dct (F.map Sum.inl) (F.map fun _ => .bl true))), some (.val (.int v)), some (.own (.lst (rowsP u ((List.range k).filter fun y => (u.P y).isSome && (((List.range u.m).filter fun p => F.contains (nmv u p)).map fun p => bt u.m y p == v).all id)))), x5, x6, none]) ⟨_, _, rfl⟩ ?_ ?_
  · rintro k d ρ e hk ⟨x5, x6, rfl⟩
    have hk' : k < 2 ^ u.m := by simpa using hk
    have e2 : d = .tup [.tup (rowD u.m k), toD (u.P k)] := by
      simp [hk'] at e
      exact e.symm
    subst e2
    rw [List.range_succ, List.filter_append]
    have hsz : ((List.range k).filter fun y => (u.P y).isSome && (((List.range u.m).filter fun p => F.contains (nmv u p)).map fun p => bt u.m y p == v).all id).length < sizeLine := sz_lt (Nat.le_trans (List.length_filter_le ..) (by simp; omega))
    generalize hacc : ((List.range k).filter fun y => (u.P y).isSome && (((List.range u.m).filter fun p => F.contains (nmv u p)).map fun p => bt u.m y p == v).all id) = acc at *
    cases hP : u.P k with
    | none => simp [hP]
    | some pv =>
      simp
      refine ⟨inR_nat hnl, ?_⟩
      rw [rangeD_rl, show u.nm.length = u.m from rfl]
      refine ok_comp (l := List.range u.m) (acc := []) (φ := fun i : Nat => D.int i) (fun p => F.contains (nmv u p)) (fun p => .bl (bt u.m k p == v)) (fun p hp => ?_) (by simp [n6]) ?_
      · rw [List.mem_range] at hp
        have hget : (inD u.nm)[p]? = some (.int (nmv u p)) := by simp [inD, nmv, show p < u.nm.length from hp]
        simp
        refine ⟨hp, ?_⟩
        change Ok (inD u.nm)[p]? _
        rw [hget]
        simp [dlk_in, isSome_if, hp, eqI, br_tt]
      · rw [List.nil_append]
        have ht := tvs_mapb (fun p => bt u.m k p == v) ((List.range u.m).filter fun p => F.contains (nmv u p))
        simp [-List.all_map, -List.all_filter, ht, hsz]
        simp only [List.filter_cons, List.filter_nil, hP, Option.isSome_some, Bool.true_and]
        generalize (((List.range u.m).filter fun p => decide (nmv u p ∈ F)).map fun a => bt u.m k a == v).all id = b
        cases b <;> simp [rowsP, hP]
  · rintro ρ ⟨x5, x6, rfl⟩
    simp [bey]
theorem frs_eq {u : Us} {F : List Int} {v : Nat} : frs u F v = ((List.range u.m).filter fun k => !F.contains (nmv u k) && ((bey u F v).map fun y => bt u.m y k == v).all id).map fun k => nmv u k := by
  unfold frs sureL
  rw [List.filter_map, List.filter_filter]
  rfl
theorem new_forced_eq {u : Us} {F : List Int} {v : Nat} (h4 : u.m ≤ 4) : m_new_forced κ [.val (.tup (inD u.nm)), .bor (.lst (rowsP u (bey u F v))), .bor (dictD F), .val (.int v)] = some (.tmp (.lst (inD (frs u F v))), [none, none, none, none]) := by
  have n6 : u.m ≤ 1000 := by omega
  have hnl : u.nm.length ≤ 1000 := n6
  have hbl := bey_len (u := u) (F := F) (v := v) h4
  apply Ok.eq
  rw [m_new_forced, ok_fnM]
  unfold dictD
  simp
  refine ⟨inR_nat hnl, ?_⟩
  rw [rangeD_rl, show u.nm.length = u.m from rfl]
  refine ok_comp (l := List.range u.m) (acc := []) (φ := fun i : Nat => D.int i) (fun k => !F.contains (nmv u k) && ((bey u F v).map fun y => bt u.m y k == v).all id) (fun k => .int (nmv u k)) (fun p hp => ?_) (by simp [n6]) ?_
  · rw [List.mem_range] at hp
    have hget : (inD u.nm)[p]? = some (.int (nmv u p)) := by simp [inD, nmv, show p < u.nm.length from hp]
    simp
    refine ⟨hp, ?_⟩
    change Ok (inD u.nm)[p]? _
    rw [hget]
    simp [dlk_in]
    by_cases hF : nmv u p ∈ F
    · simp [hF]
    · simp [hF]
      refine ok_comps (l := bey u F v) (acc := []) (φ := fun y => D.tup [.tup (rowD u.m y), toD (u.P y)]) (fun y => D.bl (bt u.m y p == v)) (fun y hy => ?_) (by simp; exact sz_le (by omega)) ?_
      · simp [hp, eqI]
      · have ht := tvs_mapb (fun y => bt u.m y p == v) (bey u F v)
        simp [-List.all_map, ht, hF]
        refine Br.mk (fun _ => ⟨hp, ?_⟩) (fun _ => trivial)
        change Ok (inD u.nm)[p]? _
        rw [hget]
        simp
  · simp
    rw [frs_eq]
    simp [inD, Function.comp_def]
theorem hasK_in (x : Int) (l : List Int) : hasK (Sum.inl x) (l.map Sum.inl) = l.contains x := by
  unfold hasK
  induction l with
  | nil => rfl
  | cons q l ih =>
    rw [List.map_cons, List.any_cons, ih]
    by_cases h : q = x
    · subst h; simp
    · have : (Sum.inl q : Key) ≠ Sum.inl x := fun e => h (by injection e)
      simp [this, Ne.symm h]
theorem dput_in {F : List Int} {x : Int} (h : x ∉ F) : D.dct (dputK (Sum.inl x) (F.map Sum.inl)) (dputD (Sum.inl x) (D.bl true) (F.map Sum.inl) (F.map fun _ => D.bl true)) = dictD (F ++ [x]) := by
  have hk := hasK_in x F
  have hc : F.contains x = false := by simpa using h
  rw [hc] at hk
  unfold dictD dputK dputD
  rw [hk]
  simp
def msr (M : Nat) (ρ : Rho) : Nat := match (ρ[4]? : Option (Option SV)), (ρ[2]? : Option (Option SV)) with
  | some (some (SV.val (D.bl m))), some (some (SV.own (D.dct ks _))) => 2 * (M - ks.length) + if m then 1 else 0
  | _, _ => 0
theorem steps_ok {U : List Us} {v many : Nat} {sv : SV} {PO : Opd × Rho → Prop} (hU : uOk U many) (hUl : U.length ≤ 1000) (hm : many ≤ 900) (hsv : sv = .val (.lst (usL U)) ∨ sv = .bor (.lst (usL U))) (w : PO (.val (toldD (cou U v (many + 1) [] [])), [none, none])) :
    Ok (m_forced_steps κ [sv, .val (.int v)]) PO := by
  rw [m_forced_steps, ok_fnM]
  generalize hC : cou U v (many + 1) [] [] = C at *
  rcases hsv with rfl | rfl
  all_goals
    simp [whileM]
    refine whileL_inv (fun ρ => ∃ F S mv x5 x6 x7 x8 x9 x10, ρ = [some _, some (.val (.int v)), some (.own (dictD F)), some (.own (.lst (nD S))), some (.val (.bl mv)), x5, x6, x7, x8, x9, x10] ∧ Fok F many ∧ S.length ≤ F.length ∧ ((mv = true ∧ ∃ j, C = cou U v j F S ∧ many + 1 ≤ j + F.length) ∨ (mv = false ∧ C = (F, S, false)))) (msr many) lots _ (by simp [lots, msr]; omega) ⟨[], [], true, _, _, _, _, _, _, rfl, ⟨by simp, by simp⟩, by simp, .inl ⟨rfl, many + 1, hC.symm, by simp⟩⟩ ?_
    rintro ρ ⟨F, S, mv, x5, x6, x7, x8, x9, x10, rfl, hF, hS, hmv⟩
    have hFl := nd_len many F hF.nd hF.lt
    simp
    refine Br.mk (fun h1 => ?_) (fun h0 => ?_)
    · subst h1
      obtain ⟨j, hj, hjl⟩ : ∃ j, C = cou U v j F S ∧ many + 1 ≤ j + F.length := by
        rcases hmv with ⟨_, h⟩ | ⟨h, _⟩
        · exact h
        · cases h
      obtain ⟨j, rfl⟩ : ∃ j', j = j' + 1 := ⟨j - 1, by omega⟩
      rw [cou] at hj
      simp [hUl]
      refine for_inv (fun k ρ => ∃ x5 x6 x7 x8 x9 x10, ρ = [some _, some (.val (.int v)), some (.own (dictD F)), some (.own (.lst (nD S))), some (.val (.bl false)), x5, x6, x7, x8, x9, x10] ∧ ∀ i (h : i < U.length), i < k → stp U[i] F v = none) ⟨_, _, _, _, _, _, rfl, fun i _ h => absurd h (by omega)⟩ ?_ ?_
      · rintro k d ρ e hk ⟨x5, x6, x7, x8, x9, x10, rfl, hn⟩
        obtain ⟨rfl, hk⟩ := rangeD_get e
        obtain ⟨u, hu⟩ : ∃ u, U[k] = u := ⟨_, rfl⟩
        have huk : u.ok many := hu ▸ hU U[k] (List.getElem_mem hk)
        have hbe := rows_beyond_eq (κ := κ) (F := F) (v := v) huk.m4
        have hne := new_forced_eq (κ := κ) (F := F) (v := v) huk.m4
        have hnx : ∀ r, stp u F v = some r → nxtG F v U 0 = some (k, r) := fun r hr => by
          have := nxt_some U 0 k hk r (fun i hi => hn i (by omega) hi) (by rw [hu]; exact hr)
          simpa using this
        have hnn : stp u F v = none → ∀ i (h : i < U.length), i < k + 1 → stp U[i] F v = none := fun h0 i h hik => by
          by_cases hi : i = k
          · subst hi; rw [hu]; exact h0
          · exact hn i h (by omega)
        have hdu : u.d = .tup [.tup (inD u.nm), .tup (pD u.P (2 ^ u.m))] := rfl
        have hsS : S.length < sizeLine := sz_lt (by omega)
        simp [hk, hu, hdu, hbe]
        by_cases hb0 : (bey u F v).length = 0
        · have hb1 : bey u F v = [] := List.length_eq_zero_iff.1 hb0
          have hr := hnx none (by unfold stp; rw [if_pos hb0])
          rw [hr] at hj
          dsimp only at hj
          rw [hj] at w
          simp [hb1, rowsP, hsS]
          rw [show nD S ++ [D.int k] = nD (S ++ [k]) by simp [nD]]
          exact w
        · have hb1 : (rowsP u (bey u F v)).isEmpty = false := by
            rw [List.isEmpty_eq_false_iff]
            intro e
            exact hb0 (by have := congrArg List.length e; simpa using this)
          have hst : stp u F v = if (frs u F v).length = 0 then none else some (some (frs u F v)) := by unfold stp; rw [if_neg hb0]
          simp [hb1, hne]
          by_cases hf0 : (frs u F v).length = 0
          · have hf1 : frs u F v = [] := List.length_eq_zero_iff.1 hf0
            simp [hf1, inD]
            exact hnn (by rw [hst, if_pos hf0])
          · have hf1 : (inD (frs u F v)).isEmpty = false := by
              rw [List.isEmpty_eq_false_iff]
              intro e
              exact hf0 (by have := congrArg List.length e; simpa using this)
            have hst2 : stp u F v = some (some (frs u F v)) := by rw [hst, if_neg hf0]
            have hr := hnx _ hst2
            have hF2 := hF.step huk hst2
            have hFl2 := nd_len many _ hF2.nd hF2.lt
            rw [List.length_append] at hFl2
            rw [hr] at hj
            dsimp only at hj
            simp [hf1, hsS]
            rw [show nD S ++ [D.int k] = nD (S ++ [k]) by simp [nD]]
            generalize frs u F v = fr at *
            refine for_nx (fun q ρ => ∃ x10, ρ = [some _, some (.val (.int v)), some (.own (dictD (F ++ fr.take q))), some (.own (.lst (nD (S ++ [k])))), some (.val (.bl false)), some (.val (.int k)), some (.own (.lst (rowsP u (bey u F v)))), some (.lck (.lst (inD fr))), some (.val (.tup (inD u.nm))), some (.val (.tup (pD u.P (2 ^ u.m)))), x10]) ⟨x10, by rw [List.take_zero, List.append_nil]⟩ ?_ ?_
            · rintro q d ρ e hq ⟨x10, rfl⟩
              obtain ⟨x, hx, rfl⟩ := inD_get e
              have hql : q < fr.length := (List.getElem?_eq_some_iff.1 hx).1
              have hxF : x ∉ F ++ fr.take q := by
                have hnd := hF2.nd
                rw [show fr = fr.take q ++ fr.drop q by simp, List.drop_eq_getElem_cons hql, ← List.append_assoc, List.nodup_append] at hnd
                have hxe : fr[q] = x := (List.getElem?_eq_some_iff.1 hx).2
                intro hmem
                exact hnd.2.2 x hmem x (by simp [hxe]) rfl
              have hl2 : (F ++ fr.take q).length < sizeLine := sz_lt (by simp; omega)
              have hd := dput_in hxF
              rw [List.take_add_one, hx, Option.toList_some, ← List.append_assoc]
              generalize F ++ fr.take q = G at *
              unfold dictD at hd ⊢
              simp [hl2, hd]
            · rintro ρ ⟨x10, rfl⟩
              rw [List.take_of_length_le (by simp)]
              simp
              refine ⟨⟨F ++ fr, S ++ [k], ⟨rfl, rfl⟩, hF2, by simp; omega, j, hj, by simp; omega⟩, ?_⟩
              simp [msr, dictD]
              omega
      · rintro ρ ⟨x5, x6, x7, x8, x9, x10, rfl, hn⟩
        have hno := nxt_none (F := F) (v := v) U 0 (fun i hi => hn i hi (by simpa using hi))
        rw [hno] at hj
        simp
        refine ⟨⟨F, S, ⟨rfl, rfl⟩, hF, hS, hj⟩, ?_⟩
        simp [msr, dictD]
    · subst h0
      have hc : C = (F, S, false) := by
        rcases hmv with ⟨h, _⟩ | ⟨_, h⟩
        · cases h
        · exact h
      rw [hc] at w
      first
        | exact w
        | (simp; exact w)
end Ev.W

set_option Elab.async false
set_option linter.all false
set_option maxRecDepth 100000
set_option autoImplicit false
namespace Ev.W
open PySem PySem.Spec PyProof.Rows L2 Ev
variable {κ : String → Nat}
/-- flat at a depth, and equal to itself -/
def Nice (k : Nat) (d : D) : Prop := ∃ p, toPy d = some p ∧ PyData.canLay0 p = true ∧ p.depth ≤ k ∧ PyData.eqv p p = true
def Nices (k : Nat) (ds : List D) : Prop := ∃ ps, toPys ds = some ps ∧ PyData.canLayAll0 ps = true ∧ PyData.depthAll ps ≤ k ∧ PyData.eqvAll ps ps = true
theorem nice_non : Nice 0 .non := ⟨_, rfl, by simp [PyData.canLay0], by simp [PyData.depth], by simp [PyData.eqv]⟩
theorem nice_int (i : Int) : Nice 0 (.int i) := ⟨_, rfl, by simp [PyData.canLay0], by simp [PyData.depth], by simp [PyData.eqv]⟩
theorem nices_of {k : Nat} : ∀ {ds : List D}, (∀ d ∈ ds, Nice k d) → Nices k ds
  | [], _ => ⟨[], rfl, by simp [PyData.canLayAll0], by simp [PyData.depthAll], by simp [PyData.eqvAll]⟩
  | d :: ds, h => by
    obtain ⟨p, h1, h2, h3, h4⟩ := h d (by simp)
    obtain ⟨ps, g1, g2, g3, g4⟩ := nices_of fun d hd => h d (List.mem_cons_of_mem _ hd)
    exact ⟨p :: ps, by rw [toPys]; simp only [h1, g1], by rw [PyData.canLayAll0, h2, g2]; rfl, by rw [PyData.depthAll]; omega, by rw [PyData.eqvAll, h4, g4]; rfl⟩
theorem nice_tup {k : Nat} {ds : List D} (h : ∀ d ∈ ds, Nice k d) : Nice (k + 1) (.tup ds) := by
  obtain ⟨ps, g1, g2, g3, g4⟩ := nices_of h
  exact ⟨.tuple ps, by rw [toPy]; simp only [g1], by rw [PyData.canLay0]; exact g2, by rw [PyData.depth]; omega, by rw [PyData.eqv]; exact g4⟩
theorem nice_lst {k : Nat} {ds : List D} (h : ∀ d ∈ ds, Nice k d) : Nice (k + 1) (.lst ds) := by
  obtain ⟨ps, g1, g2, g3, g4⟩ := nices_of h
  exact ⟨.list ps, by rw [toPy]; simp only [g1], by rw [PyData.canLay0]; exact g2, by rw [PyData.depth]; omega, by rw [PyData.eqv]; exact g4⟩
theorem nice_OI {d : D} (h : OI d) : Nice 0 d := by
  rcases h with rfl | ⟨i, rfl⟩
  · exact nice_non
  · exact nice_int i
theorem eqG_self {k : Nat} {d : D} (h : Nice k d) (hk : k ≤ 64) : eqG d d = some (.val (.bl true)) := by
  obtain ⟨p, h1, h2, h3, h4⟩ := h
  unfold eqG eqD
  have hs : SeqAt.shaped p = true := by
    unfold SeqAt.shaped
    rw [h2, decide_eq_true (by omega)]; rfl
  simp only [h1, hs, h4, and_self, if_true]

theorem neG_self {k : Nat} {d : D} (h : Nice k d) (hk : k ≤ 64) : neG d d = some (.val (.bl false)) := by
  have h1 := eqG_self h hk
  unfold eqG at h1
  unfold neG
  split at h1
  · injection h1 with h1; injection h1 with h1; injection h1 with h1
    rw [h1]; rfl
  · cases h1
/-! the plain law -/
theorem bt_test {n x p : Nat} (h : p < n) : bt n x p = (x.testBit (n - 1 - p)).toNat := by
  rw [Nat.toNat_testBit, bt, if_pos h]
theorem bt_ext {n x y : Nat} (hx : x < 2 ^ n) (hy : y < 2 ^ n) (h : ∀ p < n, bt n x p = bt n y p) : x = y := by
  apply Nat.eq_of_testBit_eq
  intro i
  by_cases hi : i < n
  · have := h (n - 1 - i) (by omega)
    rw [bt_test (by omega), bt_test (by omega), show n - 1 - (n - 1 - i) = i by omega] at this
    cases h1 : x.testBit i <;> cases h2 : y.testBit i <;> simp [h1, h2] at this ⊢
  · rw [Nat.testBit_lt_two_pow (Nat.lt_of_lt_of_le hx (Nat.pow_le_pow_right (by decide) (by omega))), Nat.testBit_lt_two_pow (Nat.lt_of_lt_of_le hy (Nat.pow_le_pow_right (by decide) (by omega)))]
def opv (v a b : Nat) : Nat := if v = 1 then a &&& b else a ||| b
theorem op_lt {v a b n : Nat} (ha : a < 2 ^ n) (hb : b < 2 ^ n) : opv v a b < 2 ^ n := by
  unfold opv
  split
  · exact and_lt ha
  · exact Nat.or_lt_two_pow ha hb
theorem bt_op {v n a b p : Nat} (hv : v ≤ 1) (hp : p < n) : bt n (opv v a b) p = if bt n a p = v ∧ bt n b p = v then v else 1 - v := by
  have hv2 : v = 0 ∨ v = 1 := by omega
  rw [bt_test hp, bt_test hp, bt_test hp]
  unfold opv
  rcases hv2 with rfl | rfl
  · simp [Nat.testBit_or]
    cases a.testBit (n - 1 - p) <;> cases b.testBit (n - 1 - p) <;> rfl
  · simp [Nat.testBit_and]
    cases a.testBit (n - 1 - p) <;> cases b.testBit (n - 1 - p) <;> rfl
theorem exN_op {v m a b : Nat} (hv : v ≤ 1) {cm : List Nat} (hc : ∀ i ∈ cm, i < m) : exN m cm (opv v a b) = opv v (exN m cm a) (exN m cm b) := by
  refine bt_ext (exN_lt ..) (op_lt (exN_lt ..) (exN_lt ..)) fun p hp => ?_
  have hi : cm.getD p 0 < m := by
    rw [show cm.getD p 0 = cm[p] by simp [hp]]
    exact hc _ (List.getElem_mem hp)
  rw [exN_bt _ _ _ _ hp, bt_op hv hp, bt_op hv hi, exN_bt _ _ _ _ hp, exN_bt _ _ _ _ hp]
def numL (bs : List Nat) : Nat := bs.foldl (fun a b => a * 2 + b) 0
theorem numL_snoc {bs : List Nat} {b : Nat} : numL (bs ++ [b]) = numL bs * 2 + b := by simp [numL, List.foldl_append]
theorem numL_lt : ∀ bs : List Nat, (∀ b ∈ bs, b ≤ 1) → numL bs < 2 ^ bs.length := snocRec (by simp [numL]) fun bs b ih h => by
  have := ih fun x hx => h x (by simp [hx])
  have := h b (by simp)
  rw [numL_snoc, List.length_append, List.length_singleton, Nat.pow_succ]
  omega
theorem numL_bt : ∀ (bs : List Nat), (∀ b ∈ bs, b ≤ 1) → ∀ p, p < bs.length → bt bs.length (numL bs) p = bs.getD p 0 := by
  refine snocRec (fun _ p hp => by simp at hp) fun bs b ih h => ?_
  intro p hp
  have ih := ih (fun x hx => h x (by simp [hx])) p
  have hb := h b (by simp)
  rw [List.length_append, List.length_singleton] at hp ⊢
  rw [numL_snoc]
  unfold bt at ih ⊢
  rw [if_pos hp]
  by_cases hlt : p < bs.length
  · have ih := ih hlt
    rw [if_pos hlt] at ih
    rw [show bs.length + 1 - 1 - p = (bs.length - 1 - p) + 1 by omega, Nat.pow_succ', ← Nat.div_div_eq_div_mul, show (numL bs * 2 + b) / 2 = numL bs by omega, ih]
    simp [List.getElem?_append, hlt]
  · have e : p = bs.length := by omega
    subst e
    rw [show bs.length + 1 - 1 - bs.length = 0 by omega]
    simp
    omega
theorem open_mem {U : List Us} {many y : Nat} : y ∈ openL U many ↔ y < 2 ^ many ∧ ∀ u ∈ U, (u.P (exN many (pos u) y)).isSome = true := by
  unfold openL isOp
  rw [List.mem_filter, List.mem_range]
  simp
theorem pos_d {u : Us} {p : Nat} (hp : p < u.m) : (pos u).getD p 0 = (nmv u p).toNat := by
  have h2 : p < u.nm.length := hp
  simp [pos, nmv, h2]
theorem ex_bt {u : Us} {many y p : Nat} (hp : p < u.m) : bt u.m (exN many (pos u) y) p = bt many y (nmv u p).toNat := by
  have h := exN_bt many y (pos u) p (by simpa [pos, Us.m] using hp)
  rw [show (pos u).length = u.m by simp [pos, Us.m], pos_d hp] at h
  exact h
theorem ex_lt {u : Us} {many y : Nat} : exN many (pos u) y < 2 ^ u.m := by
  have h := exN_lt many y (pos u)
  rwa [show (pos u).length = u.m by simp [pos, Us.m]] at h
theorem bey_mem {u : Us} {F : List Int} {v y : Nat} : y ∈ bey u F v ↔ y < 2 ^ u.m ∧ (u.P y).isSome = true ∧ ∀ p < u.m, nmv u p ∈ F → bt u.m y p = v := by
  unfold bey
  rw [List.mem_filter, List.mem_range, Bool.and_eq_true]
  refine ⟨fun h => ⟨h.1, h.2.1, fun p hp hF => ?_⟩, fun h => ⟨h.1, h.2.1, ?_⟩⟩
  · have h3 := List.all_eq_true.1 h.2.2 _ (List.mem_map_of_mem (List.mem_filter.2 ⟨List.mem_range.2 hp, by simpa using hF⟩))
    simpa using h3
  · rw [List.all_eq_true]
    intro b hb
    obtain ⟨p, hp, rfl⟩ := List.mem_map.1 hb
    have h4 := List.mem_filter.1 hp
    simpa using h.2.2 p (List.mem_range.1 h4.1) (by simpa using h4.2)
theorem frs_mem {u : Us} {F : List Int} {v : Nat} {x : Int} : x ∈ frs u F v ↔ ∃ p, p < u.m ∧ x = nmv u p ∧ x ∉ F ∧ ∀ y ∈ bey u F v, bt u.m y p = v := by
  rw [frs_eq, List.mem_map]
  constructor
  · rintro ⟨p, hp, rfl⟩
    have h4 := List.mem_filter.1 hp
    have h5 := h4.2
    rw [Bool.and_eq_true] at h5
    refine ⟨p, List.mem_range.1 h4.1, rfl, by simpa using h5.1, fun y hy => ?_⟩
    have := List.all_eq_true.1 h5.2 _ (List.mem_map_of_mem hy)
    simpa using this
  · rintro ⟨p, hp, rfl, hF, hy⟩
    refine ⟨p, List.mem_filter.2 ⟨List.mem_range.2 hp, ?_⟩, rfl⟩
    rw [Bool.and_eq_true]
    refine ⟨by simpa using hF, ?_⟩
    rw [List.all_eq_true]
    intro b hb
    obtain ⟨y, hyy, rfl⟩ := List.mem_map.1 hb
    simpa using hy y hyy
theorem z_bey {U : List Us} {u : Us} {F : List Int} {v many y : Nat} (hu : u ∈ U) (hy : y ∈ openL U many) (hF : ∀ x ∈ F, bt many y x.toNat = v) : exN many (pos u) y ∈ bey u F v :=
  bey_mem.2 ⟨ex_lt, (open_mem.1 hy).2 u hu, fun p hp h => by rw [ex_bt hp]; exact hF _ h⟩
theorem cou_sound {U : List Us} {v many : Nat} : ∀ (k : Nat) (F : List Int) (S : List Nat), (∀ y ∈ openL U many, ∀ x ∈ F, bt many y x.toNat = v) → ∀ y ∈ openL U many, (cou U v k F S).2.2 = false ∧ ∀ x ∈ (cou U v k F S).1, bt many y x.toNat = v
  | 0, F, S, h, y, hy => ⟨rfl, h y hy⟩
  | k + 1, F, S, h, y, hy => by
    rw [cou]
    cases e : nxtG F v U 0 with
    | none => exact ⟨rfl, h y hy⟩
    | some sr =>
      obtain ⟨s, r⟩ := sr
      obtain ⟨u, hu, he⟩ := nxt_inv U 0 s r e
      cases r with
      | none =>
        exfalso
        have hz := z_bey hu hy (h y hy)
        unfold stp at he
        split at he
        · rename_i h0
          rw [List.length_eq_zero_iff.1 h0] at hz
          cases hz
        · split at he <;> cases he
      | some fr =>
        obtain ⟨rfl, _, _⟩ := stp_fr he
        refine cou_sound k _ _ (fun y' hy' x hx => ?_) y hy
        rcases List.mem_append.1 hx with hx | hx
        · exact h y' hy' x hx
        · obtain ⟨p, hp, rfl, _, hall⟩ := frs_mem.1 hx
          rw [← ex_bt hp]
          exact hall _ (z_bey hu hy' (h y' hy'))
theorem cou_ok {U : List Us} {v many : Nat} (hU : uOk U many) : ∀ (k : Nat) (F : List Int) (S : List Nat), Fok F many → Fok (cou U v k F S).1 many ∧ (cou U v k F S).2.1.length ≤ S.length + k
  | 0, F, S, h => ⟨h, by simp [cou]⟩
  | k + 1, F, S, h => by
    rw [cou]
    cases e : nxtG F v U 0 with
    | none => exact ⟨h, by dsimp only; omega⟩
    | some sr =>
      obtain ⟨s, r⟩ := sr
      obtain ⟨u, hu, he⟩ := nxt_inv U 0 s r e
      cases r with
      | none => exact ⟨h, by simp⟩
      | some fr =>
        have h2 := cou_ok (v := v) hU k (F ++ fr) (S ++ [s]) (h.step (hU u hu) he)
        refine ⟨h2.1, ?_⟩
        have := h2.2
        simp at this
        dsimp only
        omega
theorem cou_end {U : List Us} {v many : Nat} (hU : uOk U many) : ∀ (k : Nat) (F : List Int) (S : List Nat), Fok F many → many + 1 ≤ k + F.length → (cou U v k F S).2.2 = false → nxtG (cou U v k F S).1 v U 0 = none
  | 0, F, S, h, hk, _ => by have := nd_len many F h.nd h.lt; omega
  | k + 1, F, S, h, hk, hst => by
    rw [cou] at hst ⊢
    cases e : nxtG F v U 0 with
    | none => dsimp only; exact e
    | some sr =>
      obtain ⟨s, r⟩ := sr
      obtain ⟨u, hu, he⟩ := nxt_inv U 0 s r e
      rw [e] at hst
      cases r with
      | none => cases hst
      | some fr =>
        obtain ⟨_, h0, _⟩ := stp_fr he
        exact cou_end hU k _ _ (h.step (hU u hu) he) (by rw [List.length_append]; omega) hst
theorem nxt_all {F : List Int} {v : Nat} : ∀ (U : List Us) (k : Nat), nxtG F v U k = none → ∀ u ∈ U, stp u F v = none
  | [], _, _, _, h => by cases h
  | u :: U, k, h, u', hu' => by
    rw [nxtG] at h
    cases e : stp u F v with
    | some r => rw [e] at h; cases h
    | none =>
      rw [e] at h
      rcases List.mem_cons.1 hu' with rfl | hu'
      · exact e
      · exact nxt_all U (k + 1) h u' hu'
/-- closed as a value asks -/
def Clv (v : Nat) (u : Us) : Prop := ∀ a b, a < 2 ^ u.m → b < 2 ^ u.m → (u.P a).isSome = true → (u.P b).isSome = true → (u.P (opv v a b)).isSome = true
theorem meet {v m : Nat} (hv : v ≤ 1) {T : Nat → Prop} (hT : ∀ a b, T a → T b → T (opv v a b)) : ∀ l : List Nat, l ≠ [] → (∀ a ∈ l, T a) → ∃ r, T r ∧ ∀ p < m, (bt m r p = v ↔ ∀ a ∈ l, bt m a p = v)
  | [], h, _ => absurd rfl h
  | [a], _, h => ⟨a, h a (by simp), fun p hp => by simp⟩
  | a :: b :: l, _, h => by
    obtain ⟨r, hr, hb⟩ := meet hv hT (b :: l) (by simp) fun x hx => h x (List.mem_cons_of_mem _ hx)
    refine ⟨opv v a r, hT a r (h a (by simp)) hr, fun p hp => ?_⟩
    rw [bt_op hv hp]
    have h2 := hb p hp
    constructor
    · intro e x hx
      have h3 : bt m a p = v ∧ bt m r p = v := by
        by_cases hc : bt m a p = v ∧ bt m r p = v
        · exact hc
        · rw [if_neg hc] at e; omega
      rcases List.mem_cons.1 hx with rfl | hx
      · exact h3.1
      · exact h2.1 h3.2 x hx
    · intro e
      rw [if_pos ⟨e a (by simp), h2.2 fun x hx => e x (List.mem_cons_of_mem _ hx)⟩]
/-- the filling that has the value just at the forced names -/
def fil (F : List Int) (v many : Nat) : Nat := numL ((List.range many).map fun i : Nat => if F.contains (i : Int) then v else 1 - v)
theorem fil_lt {F : List Int} {v many : Nat} (hv : v ≤ 1) : fil F v many < 2 ^ many := by
  have h := numL_lt ((List.range many).map fun i : Nat => if F.contains (i : Int) then v else 1 - v) fun b hb => by
    obtain ⟨i, _, rfl⟩ := List.mem_map.1 hb
    split <;> omega
  simpa [fil] using h
theorem fil_bt {F : List Int} {v many i : Nat} (hv : v ≤ 1) (hi : i < many) : bt many (fil F v many) i = if F.contains (i : Int) then v else 1 - v := by
  have h := numL_bt ((List.range many).map fun i : Nat => if F.contains (i : Int) then v else 1 - v) (fun b hb => by
    obtain ⟨i, _, rfl⟩ := List.mem_map.1 hb
    split <;> omega) i (by simpa using hi)
  rw [show ((List.range many).map fun i : Nat => if F.contains (i : Int) then v else 1 - v).length = many by simp] at h
  unfold fil
  rw [h]
  simp [hi]
theorem fil_open {U : List Us} {F : List Int} {v many : Nat} (hv : v ≤ 1) (hU : uOk U many) (hn : nxtG F v U 0 = none) (hc : ∀ u ∈ U, Clv v u) : fil F v many ∈ openL U many := by
  refine open_mem.2 ⟨fil_lt hv, fun u hu => ?_⟩
  have hs := nxt_all U 0 hn u hu
  have huk := hU u hu
  unfold stp at hs
  split at hs
  · cases hs
  · rename_i h0
    split at hs
    · rename_i hf0
      have hfn : frs u F v = [] := List.length_eq_zero_iff.1 hf0
      obtain ⟨r, hr, hb⟩ := meet (m := u.m) hv (T := fun y => y ∈ bey u F v) (fun a b ha hb => by
        have h1 := bey_mem.1 ha
        have h2 := bey_mem.1 hb
        refine bey_mem.2 ⟨op_lt h1.1 h2.1, hc u hu a b h1.1 h2.1 h1.2.1 h2.2.1, fun p hp hF => ?_⟩
        rw [bt_op hv hp, if_pos ⟨h1.2.2 p hp hF, h2.2.2 p hp hF⟩]) (bey u F v) (fun e => h0 (by rw [e]; rfl)) fun a ha => ha
      have hrb := bey_mem.1 hr
      have e : exN many (pos u) (fil F v many) = r := by
        refine bt_ext ex_lt hrb.1 fun p hp => ?_
        have hnm := huk.nm (nmv u p) (by have h2 : p < u.nm.length := hp; simp [nmv, h2])
        rw [ex_bt hp, fil_bt hv (by omega), Int.toNat_of_nonneg hnm.1]
        by_cases hF : nmv u p ∈ F
        · rw [if_pos (by simpa using hF), hrb.2.2 p hp hF]
        · rw [if_neg (by simpa using hF)]
          have h3 : ¬ bt u.m r p = v := fun e => by
            have : nmv u p ∈ frs u F v := frs_mem.2 ⟨p, hp, rfl, hF, (hb p hp).1 e⟩
            rw [hfn] at this; cases this
          have := bt_le u.m r p
          omega
      rw [e]; exact hrb.2.1
    · cases hs
/-- what right asks of a course -/
theorem course_facts {U : List Us} {v many : Nat} {exact : Bool} (hv : v ≤ 1) (hU : uOk U many) (hc : exact = true → ∀ u ∈ U, Clv v u) :
    (∀ y ∈ openL U many, (cou U v (many + 1) [] []).2.2 = false ∧ ∀ x ∈ (cou U v (many + 1) [] []).1, bt many y x.toNat = v) ∧
    (exact = true → (cou U v (many + 1) [] []).2.2 = decide ((openL U many).length = 0)) ∧
    (exact = true → (cou U v (many + 1) [] []).2.2 = false → (rangeF many fun k => ((openL U many).map fun y => bt many y k == v).all id) = srtI (cou U v (many + 1) [] []).1) := by
  have h0 : Fok [] many := ⟨by simp, by simp⟩
  have h1 := cou_sound (U := U) (v := v) (many := many) (many + 1) [] [] (by simp)
  have hF := (cou_ok (v := v) hU (many + 1) [] [] h0).1
  have hop : exact = true → (cou U v (many + 1) [] []).2.2 = false → fil (cou U v (many + 1) [] []).1 v many ∈ openL U many := fun he hst => fil_open hv hU (cou_end hU (many + 1) [] [] h0 (by simp) hst) (hc he)
  refine ⟨h1, fun he => ?_, fun he hst => ?_⟩
  · cases hst : (cou U v (many + 1) [] []).2.2 with
    | true =>
      symm
      rw [decide_eq_true_iff, List.length_eq_zero_iff]
      cases ho : openL U many with
      | nil => rfl
      | cons y l =>
        have := (h1 y (by rw [ho]; simp)).1
        rw [hst] at this; cases this
    | false =>
      symm
      rw [decide_eq_false_iff_not]
      intro hl
      have := hop he hst
      rw [List.length_eq_zero_iff.1 hl] at this
      cases this
  · rw [srt_eq hF]
    unfold rangeF
    congr 1
    refine List.filter_congr fun k hk => ?_
    have hkm := List.mem_range.1 hk
    rw [Bool.eq_iff_iff, List.all_eq_true]
    constructor
    · intro hall
      have h2 := hall _ (List.mem_map_of_mem (hop he hst))
      have h3 : bt many (fil (cou U v (many + 1) [] []).1 v many) k = v := by simpa using h2
      rw [fil_bt hv hkm] at h3
      cases hcc : (cou U v (many + 1) [] []).1.contains (k : Int) with
      | true => rfl
      | false =>
        rw [hcc] at h3
        simp at h3
        omega
    · intro hcc b hb
      obtain ⟨y, hy, rfl⟩ := List.mem_map.1 hb
      have := (h1 y hy).2 (k : Int) (by simpa using hcc)
      simpa using this
end Ev.W

set_option Elab.async false
set_option linter.all false
set_option maxRecDepth 100000
set_option autoImplicit false
namespace Ev.W
open PySem PySem.Spec PyProof.Rows L2 Ev
variable {κ : String → Nat}
def lawT (κ : String → Nat) : SM :=
    (seqM (setM 8 (biM listG (consA (varM 2) nilA)))
    (seqM (setM 9 (callM (m_forced_steps κ) [] (consA (varM 8) (consA (varM 3) nilA))))
    (seqM (ifS (orM (boolM (binM neG (varM 8) (varM 2))) (notM (truM (callM (m__law_right κ) [] (consA (varM 2) (consA (varM 5) (consA (varM 3) (consA (varM 7) (consA (varM 9) nilA))))))))) (retM (constM (.bl false))) nextM)
    (ifS (boolM (binM ltG (varM 5) (constM (.int 8)))) (seqM (setM 11 (callM (m__law_shuffled κ) [0] (consA (varM 1) (consA (varM 2) nilA))))
    (ifS (notM (truM (callM (m__law_right κ) [] (consA (varM 11) (consA (varM 5) (consA (varM 3) (consA (varM 7) (consA (callM (m_forced_steps κ) [] (consA (biM listG (consA (varM 11) nilA)) (consA (varM 3) nilA))) nilA)))))))) (retM (constM (.bl false))) nextM)) nextM))))
def lawR (κ : String → Nat) : SM :=
    (seqM (setM 2 (compM [10] (nameI 6) (nameG 10) yesM (esc (callM (m__law_merged κ) [] (consA (varM 4) (consA (varM 10) nilA))))))
    (seqM (forM (seqI0 (tupM (consD (constM (.int 1)) (consD (constM (.int 0)) nilD)))) (nameG 3) (seqM (setM 7 (orV (callM (m__law_kept κ) [] (consA (binM atD (tupM (consD (constM (.str "greatest")) (consD (constM (.str "least")) nilD))) (varM 3)) (consA (varM 4) nilA))) (callM (m__law_kept κ) [] (consA (constM (.str "cut")) (consA (varM 4) nilA)))))
    (lawT κ)))
    (retM (andV (callM (m__law_right κ) [] (consA (lstM nilD) (consA (varM 5) (consA (constM (.int 1)) (consA (constM (.bl false)) (consA (callM (m_forced_steps κ) [] (consA (lstM nilD) (consA (constM (.int 1)) nilA))) nilA)))))) (callM (m__law_right κ) [] (consA (lstM nilD) (consA (constM (.int 1)) (consA (constM (.int 0)) (consA (constM (.bl true)) (consA (callM (m_forced_steps κ) [] (consA (lstM nilD) (consA (constM (.int 0)) nilA))) nilA))))))))))
theorem law_def (κ : String → Nat) : m_law κ = fnM 1 11 []
    (seqM (setM 1 (callM (m__law_begin κ) [] (consA (varM 0) nilA)))
    (seqM (asgM (tupG 3 (consG (nameG 4) (consG (nameG 5) (consG (nameG 6) nilG)))) (ifM (truM (callM (m__law_rare κ) [0] (consA (varM 1) (consA (constM (.int 6)) nilA)))) (callM (m__law_long κ) [0] (consA (varM 1) nilA)) (callM (m__law_small κ) [0] (consA (varM 1) nilA))))
    (lawR κ))) := rfl
theorem perm_map {α β : Type} (f : α → β) {l : List α} {es : List β} (h : es.Perm (l.map f)) : ∃ l' : List α, l'.Perm l ∧ es = l'.map f := by
  suffices hs : ∀ (es fs : List β), es.Perm fs → ∀ l : List α, fs = l.map f → ∃ l' : List α, l'.Perm l ∧ es = l'.map f from hs es _ h l rfl
  intro es fs hp
  induction hp with
  | nil => intro U hU; exact ⟨U, List.Perm.refl _, hU⟩
  | cons x _ ih =>
    intro U hU
    cases U with
    | nil => cases hU
    | cons u U =>
      injection hU with h1 h2
      obtain ⟨U', p, rfl⟩ := ih U h2
      exact ⟨u :: U', List.Perm.cons u p, by rw [h1]; rfl⟩
  | swap x y l =>
    intro U hU
    rcases U with _ | ⟨u, _ | ⟨v, U⟩⟩
    · cases hU
    · injection hU with _ h; cases h
    · injection hU with h1 h2
      injection h2 with h2 h3
      exact ⟨v :: u :: U, List.Perm.swap _ _ _, by rw [h1, h2, h3]; rfl⟩
  | trans _ _ ih1 ih2 =>
    intro U hU
    obtain ⟨U1, p1, e1⟩ := ih2 U hU
    obtain ⟨U2, p2, e2⟩ := ih1 U1 e1
    exact ⟨U2, p2.trans p1, e2⟩
theorem mU_ok {L : List Tb} {u : Du} {many : Nat} (hL : lotOk L) (hu : u.ok L many) : (mU u (L[u.at_]'hu.lt)).ok many := by
  have ht := hL _ (List.getElem_mem hu.lt)
  have hl := hu.len hu.lt
  refine ⟨?_, uniq_nodup _, fun x hx => hu.nm x (uniq_sub _ x hx)⟩
  have := uniq_len u.nms
  show (uniq u.nms).length ≤ 4
  have := ht.2
  omega
theorem mU_clv {v : Nat} {u : Du} {t : Tb} {kd : Str} (hv : v ≤ 1) (hl : u.nms.length = t.n) (hk : Kp kd t) (h : (v = 1 ∧ (kd = Str.ofString "least" ∨ kd = Str.ofString "cut")) ∨ (v = 0 ∧ (kd = Str.ofString "greatest" ∨ kd = Str.ofString "cut"))) : Clv v (mU u t) := by
  intro a b ha hb hPa hPb
  have hlt : ∀ y, exN (uniq u.nms).length (cmOf u.nms) y < 2 ^ t.n := fun y => by
    have := exN_lt (uniq u.nms).length y (cmOf u.nms)
    rwa [show (cmOf u.nms).length = t.n by simp [cmOf, hl]] at this
  have q : ∀ y, ((mU u t).P y).isSome = (t.P (exN (uniq u.nms).length (cmOf u.nms) y)).isSome := fun y => by simp [mU]
  rw [q] at hPa hPb ⊢
  rw [exN_op hv cm_lt]
  have ma := opn_mem.2 ⟨hlt a, hPa⟩
  have mb := opn_mem.2 ⟨hlt b, hPb⟩
  rw [Option.isSome_iff_ne_none]
  unfold opv
  rcases h with ⟨rfl, hkd⟩ | ⟨rfl, hkd⟩
  · rw [if_pos rfl]
    rcases hkd with rfl | rfl
    · exact (hk _ ma _ mb (.inl rfl)).1 rfl
    · exact ((hk _ ma _ mb (.inr (.inr rfl))).2.2 rfl).1
  · rw [if_neg (by decide)]
    rcases hkd with rfl | rfl
    · exact (hk _ ma _ mb (.inr (.inl rfl))).2.1 rfl
    · exact ((hk _ ma _ mb (.inr (.inr rfl))).2.2 rfl).2
theorem nice_us {U : List Us} : Nice 3 (.lst (usL U)) := by
  refine nice_lst (k := 2) fun d hd => ?_
  obtain ⟨u, _, rfl⟩ := List.mem_map.1 hd
  refine nice_tup (k := 1) fun d hd => ?_
  simp at hd
  rcases hd with rfl | rfl
  · refine nice_tup (k := 0) fun d hd => ?_
    obtain ⟨x, _, rfl⟩ := List.mem_map.1 hd
    exact nice_int x
  · exact nice_tup (k := 0) fun d hd => nice_OI (pD_OI d hd)
theorem right_all {U : List Us} {v many : Nat} {exact : Bool} {sv : SV} {PO : Opd × Rho → Prop} (hv : v ≤ 1) (hU : uOk U many) (hUl : U.length ≤ 1000) (hm : many ≤ 900) (hc : exact = true → ∀ u ∈ U, Clv v u) (hsv : sv = .val (.lst (usL U)) ∨ sv = .bor (.lst (usL U))) (w : PO (.val (.bl true), [none, none, none, none, none])) :
    Ok (m__law_right κ [sv, .val (.int many), .val (.int v), .val (.bl exact), .val (toldD (cou U v (many + 1) [] []))]) PO := by
  obtain ⟨f1, f2, f3⟩ := course_facts hv hU hc
  have ho := cou_ok (v := v) hU (many + 1) [] [] ⟨by simp, by simp⟩
  exact right_ok hU hUl hm rfl ho.1 (by have := ho.2; simp at this; omega) hsv (fun _ => f1) (fun _ => f2) (fun _ => f3) w
theorem lawR_ok {s : D} {L : List Tb} {DU : List Du} {many : Nat} {x0 : Option SV} (g : GD s) (hL : lotOk L) (hDU : usOk DU L many) (m1 : 1 ≤ many) (m2 : many ≤ 900) (hl : L.length ≤ 1000) (hdl : DU.length ≤ 1000) :
    Ok (lawR κ [x0, some (.own s), none, none, some (.val (.lst (lotD L))), some (.val (.int many)), some (.val (.lst (usD DU))), none, none, none, none, none]) (endK 1 [] fun p => p.1 = .val (.bl true)) := by
  unfold lawR
  simp
  refine comp_st (fun k acc ρ => ∃ MU, acc = usL MU ∧ ρ = [x0, some (.own s), none, none, some (.val (.lst (lotD L))), some (.val (.int many)), some (.val (.lst (usD DU))), none, none, none, none, none] ∧ MU.length = k ∧ uOk MU many ∧ (∀ u ∈ MU, ∃ (du : Du) (t : Tb), t ∈ L ∧ du.nms.length = t.n ∧ u = mU du t)) ⟨[], rfl, rfl, rfl, (fun u hu => by cases hu), (fun u hu => by cases hu)⟩ ?_ ?_
  · rintro k d acc ρ e hk ⟨MU, rfl, rfl, hMl, hMU, hfrom⟩
    have hk2 : k < DU.length := by simpa using hk
    have hd : d = (DU[k]).d := by
      simp [usD, hk2] at e
      exact e.symm
    subst hd
    have hdu := hDU DU[k] (List.getElem_mem hk2)
    generalize DU[k] = du at *
    have hme := merged_eq (κ := κ) hL hdu rfl
    have hmo := mU_ok hL hdu
    have hlen := hdu.len hdu.lt
    have hmem : L[du.at_]'hdu.lt ∈ L := List.getElem_mem hdu.lt
    generalize L[du.at_]'hdu.lt = t at *
    simp [hme]
    refine ⟨sz_lt (by omega), MU ++ [mU du t], by simp [usL], by simp [hMl], fun u hu => ?_, fun u hu => ?_⟩
    · rcases List.mem_append.1 hu with hu | hu
      · exact hMU u hu
      · rw [List.mem_singleton.1 hu]; exact hmo
    · rcases List.mem_append.1 hu with hu | hu
      · exact hfrom u hu
      · rw [List.mem_singleton.1 hu]; exact ⟨du, t, hmem, hlen, rfl⟩
  · rintro acc ρ ⟨MU, rfl, rfl, hMl, hMU, hfrom⟩
    have hMl : MU.length = DU.length := by simpa using hMl
    have clv : ∀ (v : Nat) (b c : Bool), v ≤ 1 → (b = true → ∀ t ∈ L, Kp (if v = 1 then Str.ofString "least" else Str.ofString "greatest") t) → (c = true → ∀ t ∈ L, Kp (Str.ofString "cut") t) → (b || c) = true → ∀ u ∈ MU, Clv v u := fun v b c hv hb hc hbc u hu => by
      obtain ⟨du, t, ht, hl, rfl⟩ := hfrom u hu
      have hv2 : v = 0 ∨ v = 1 := by omega
      cases b with
      | true =>
        refine mU_clv hv hl (hb rfl t ht) ?_
        rcases hv2 with rfl | rfl
        · exact .inr ⟨rfl, .inl rfl⟩
        · exact .inl ⟨rfl, .inl rfl⟩
      | false =>
        refine mU_clv hv hl (hc (by simpa using hbc) t ht) ?_
        rcases hv2 with rfl | rfl
        · exact .inr ⟨rfl, .inr rfl⟩
        · exact .inl ⟨rfl, .inr rfl⟩
    simp
    refine for_nx (fun k ρ => ∃ s x3 x7 x8 x9 x11, ρ = [x0, some (.own s), some (.own (.lst (usL MU))), x3, some (.val (.lst (lotD L))), some (.val (.int many)), some (.val (.lst (usD DU))), x7, x8, x9, none, x11] ∧ GD s) ⟨s, _, _, _, _, _, rfl, g⟩ ?_ ?_
    · rintro k d ρ e hk ⟨s, x3, x7, x8, x9, x11, rfl, g⟩
      have turn : ∀ (v : Nat) (b : Bool) (s : D) (x9 x11 : Option SV), v ≤ 1 → GD s → (b = true → ∀ u ∈ MU, Clv v u) → Ok (lawT κ [x0, some (.own s), some (.own (.lst (usL MU))), some (.val (.int v)), some (.val (.lst (lotD L))), some (.val (.int many)), some (.val (.lst (usD DU))), some (.val (.bl b)), x8, x9, none, x11]) fun p => p.1 = .nx ∧ ∃ s x3 x7 x8 x9 x11, p.2 = [x0, some (.own s), some (.own (.lst (usL MU))), x3, some (.val (.lst (lotD L))), some (.val (.int many)), some (.val (.lst (usD DU))), x7, x8, x9, none, x11] ∧ GD s := by
        intro v b s x9 x11 hv g hc
        unfold lawT
        simp
        refine steps_ok hMU (by omega) m2 (.inr rfl) ?_
        simp [neG_self (nice_us (U := MU)) (by decide)]
        refine right_all hv hMU (by omega) m2 hc (.inr rfl) ?_
        simp
        refine Br.mk (fun _ => ?_) (fun _ => ?_)
        · refine shuffled_ok g (by simp; omega) (.inr rfl) fun es s' hp g' => ?_
          obtain ⟨MU', hp', rfl⟩ := perm_map Us.d hp
          have hU' : uOk MU' many := fun u hu => hMU u (hp'.mem_iff.1 hu)
          have hl' : MU'.length ≤ 1000 := by rw [hp'.length_eq]; omega
          rw [show MU'.map Us.d = usL MU' from rfl]
          simp
          refine steps_ok hU' hl' m2 (.inl rfl) ?_
          simp
          refine right_all hv hU' hl' m2 (fun hb u hu => hc hb u (hp'.mem_iff.1 hu)) (.inr rfl) ?_
          simp
          exact g'
        · exact g
      have : k = 0 ∨ k = 1 := by simp at hk; omega
      rcases this with rfl | rfl
      all_goals
        simp at e
        subst e
        simp
      · refine kept_ok (kd := Str.ofString "least") Ev.W.m2 hL hl (fun _ => rfl) fun b hb => ?_
        cases b with
        | true =>
          simp
          exact turn 1 true s x9 x11 (by omega) g fun _ => clv 1 true false (by omega) (fun _ => hb rfl) (fun h => by cases h) rfl
        | false =>
          simp
          refine kept_ok (kd := Str.ofString "cut") Ev.W.m4 hL hl (fun _ => rfl) fun c hc => ?_
          simp
          exact turn 1 c s x9 x11 (by omega) g fun h => clv 1 false c (by omega) (fun h => by cases h) hc (by simpa using h)
      · refine kept_ok (kd := Str.ofString "greatest") Ev.W.m3 hL hl (fun _ => rfl) fun b hb => ?_
        cases b with
        | true =>
          simp
          exact turn 0 true s x9 x11 (by omega) g fun _ => clv 0 true false (by omega) (fun _ => hb rfl) (fun h => by cases h) rfl
        | false =>
          simp
          refine kept_ok (kd := Str.ofString "cut") Ev.W.m4 hL hl (fun _ => rfl) fun c hc => ?_
          simp
          exact turn 0 c s x9 x11 (by omega) g fun h => clv 0 false c (by omega) (fun h => by cases h) hc (by simpa using h)
    · rintro ρ ⟨s, x3, x7, x8, x9, x11, rfl, g⟩
      have u0 : uOk [] many := fun u hu => by cases hu
      have u1 : uOk [] 1 := fun u hu => by cases hu
      simp
      refine steps_ok (U := []) (v := 1) (many := many) u0 (by simp) m2 (.inl rfl) ?_
      simp
      refine right_all (U := []) (v := 1) (exact := false) (by omega) u0 (by simp) m2 (fun h => by cases h) (.inl rfl) ?_
      simp
      refine steps_ok (U := []) (v := 0) (many := 1) u1 (by simp) (by omega) (.inl rfl) ?_
      simp
      refine right_all (U := []) (v := 0) (many := 1) (exact := true) (by omega) u1 (by simp) (by omega) (fun _ u hu => by cases hu) (.inl rfl) ?_
      simp
theorem law_true (κ : String → Nat) (ns : List Int) (h : ns.length ≤ 63) : ∃ post, m_law κ [.val (.rol (ns.map D.int))] = some (.val (.bl true), post) := by
  suffices hs : Ok (m_law κ [.val (.rol (ns.map D.int))]) fun p => p.1 = .val (.bl true) by
    obtain ⟨⟨o, post⟩, e, ho⟩ := hs
    dsimp only at ho
    subst ho
    exact ⟨post, e⟩
  rw [law_def, ok_fnM]
  simp
  refine begin_ok h fun s g => ?_
  have gr : GD (rS κ s 6) := by simp [g]
  simp [g]
  refine Br.mk (fun _ => ?_) (fun _ => ?_)
  · refine long_ok gr fun L U many s' hL hU m1 m2 hl hul g' => ?_
    simp
    exact lawR_ok g' hL hU m1 m2 hl hul
  · refine small_ok gr fun L U many s' hL hU m1 m2 hl hul g' => ?_
    simp
    exact lawR_ok g' hL hU m1 m2 hl hul
end Ev.W

set_option Elab.async false
set_option linter.all false
set_option maxRecDepth 100000
set_option autoImplicit false
namespace Ev.W
open PySem PySem.Spec PyProof.Rows L2 Ev
set_option maxHeartbeats 0 in
/-- all defs, one upon the other -/
theorem all_ok {l : PySem.W.OpenLaw} {w : World} {K : PySem.W.Frag} {mg : Str → Option Value} {fa : Addr} (κ : String → Nat) (hfa : mg "law" = some (.ref fa)) (b : Bl K mg κ)
    (d_row_of : DefAt K mg "row_of" s_row_of)
    (d_rows_of : DefAt K mg "rows_of" s_rows_of)
    (d_rows_beyond : DefAt K mg "rows_beyond" s_rows_beyond)
    (d_new_forced : DefAt K mg "new_forced" s_new_forced)
    (d_forced_steps : DefAt K mg "forced_steps" s_forced_steps)
    (d__law_begin : DefAt K mg "_law_begin" s__law_begin)
    (d__law_draw : DefAt K mg "_law_draw" s__law_draw)
    (d__law_pick : DefAt K mg "_law_pick" s__law_pick)
    (d__law_rare : DefAt K mg "_law_rare" s__law_rare)
    (d__law_shuffled : DefAt K mg "_law_shuffled" s__law_shuffled)
    (d__law_is_int : DefAt K mg "_law_is_int" s__law_is_int)
    (d__law_is_ints : DefAt K mg "_law_is_ints" s__law_is_ints)
    (d__law_row : DefAt K mg "_law_row" s__law_row)
    (d__law_rows : DefAt K mg "_law_rows" s__law_rows)
    (d__law_number : DefAt K mg "_law_number" s__law_number)
    (d__law_ones : DefAt K mg "_law_ones" s__law_ones)
    (d__law_sum : DefAt K mg "_law_sum" s__law_sum)
    (d__law_low : DefAt K mg "_law_low" s__law_low)
    (d__law_times : DefAt K mg "_law_times" s__law_times)
    (d__law_above : DefAt K mg "_law_above" s__law_above)
    (d__law_most : DefAt K mg "_law_most" s__law_most)
    (d__law_kinds : DefAt K mg "_law_kinds" s__law_kinds)
    (d__law_breach_one : DefAt K mg "_law_breach_one" s__law_breach_one)
    (d__law_breach_two : DefAt K mg "_law_breach_two" s__law_breach_two)
    (d__law_breach_three : DefAt K mg "_law_breach_three" s__law_breach_three)
    (d__law_keeps : DefAt K mg "_law_keeps" s__law_keeps)
    (d__law_kept : DefAt K mg "_law_kept" s__law_kept)
    (d__law_first_kind : DefAt K mg "_law_first_kind" s__law_first_kind)
    (d__law_cost : DefAt K mg "_law_cost" s__law_cost)
    (d__law_opened : DefAt K mg "_law_opened" s__law_opened)
    (d__law_loose : DefAt K mg "_law_loose" s__law_loose)
    (d__law_crisp : DefAt K mg "_law_crisp" s__law_crisp)
    (d__law_turned : DefAt K mg "_law_turned" s__law_turned)
    (d__law_zero : DefAt K mg "_law_zero" s__law_zero)
    (d__law_least : DefAt K mg "_law_least" s__law_least)
    (d__law_add_bends : DefAt K mg "_law_add_bends" s__law_add_bends)
    (d__law_cut : DefAt K mg "_law_cut" s__law_cut)
    (d__law_twos : DefAt K mg "_law_twos" s__law_twos)
    (d__law_sums : DefAt K mg "_law_sums" s__law_sums)
    (d__law_ties : DefAt K mg "_law_ties" s__law_ties)
    (d__law_kind_table : DefAt K mg "_law_kind_table" s__law_kind_table)
    (d__law_kind_lot : DefAt K mg "_law_kind_lot" s__law_kind_lot)
    (d__law_sure_hard : DefAt K mg "_law_sure_hard" s__law_sure_hard)
    (d__law_hard_lot : DefAt K mg "_law_hard_lot" s__law_hard_lot)
    (d__law_any_lot : DefAt K mg "_law_any_lot" s__law_any_lot)
    (d__law_uses : DefAt K mg "_law_uses" s__law_uses)
    (d__law_merged : DefAt K mg "_law_merged" s__law_merged)
    (d__law_beyond : DefAt K mg "_law_beyond" s__law_beyond)
    (d__law_next : DefAt K mg "_law_next" s__law_next)
    (d__law_course : DefAt K mg "_law_course" s__law_course)
    (d__law_open : DefAt K mg "_law_open" s__law_open)
    (d__law_meant : DefAt K mg "_law_meant" s__law_meant)
    (d__law_right : DefAt K mg "_law_right" s__law_right)
    (d__law_small : DefAt K mg "_law_small" s__law_small)
    (d__law_long : DefAt K mg "_law_long" s__law_long)
    (d_law : DefAt K mg "law" s_law)
    : ∃ fd : FuncData, (∀ (s : Shared) (u : Value), BindsTo s fd ⟨[u], []⟩ [("script", u)]) ∧ ∀ base : Heap, K.In base → base.Ns mainGlobals mg → FnOk l.prog w K mg base CX0 11 fa fd ["script"] (spTrue K) := by
  obtain ⟨f, fd, F, hm⟩ := d_law.ex
  have e := hfa.symm.trans hm
  cases e
  refine ⟨fd, fun s u => ?_, fun base _ _ => ?_⟩
  · obtain ⟨_, _, _, _, _, _, _, _, _, rfl, _, _⟩ := F.ex
    exact .of_eq rfl
  · have c_row_of : Callee l.prog w K mg base 1 "row_of" 2 (m_row_of κ) := callee_of (ps := ["number", "places"]) d_row_of (fun F => ok_row_of F b ) fun _ _ _ _ _ _ us hl => match us, hl with | [_, _], _ => rfl
    have c_rows_of : Callee l.prog w K mg base 2 "rows_of" 1 (m_rows_of κ) := callee_of (ps := ["places"]) d_rows_of (fun F => ok_rows_of F b c_row_of) fun _ _ _ _ _ _ us hl => match us, hl with | [_], _ => rfl
    have c_rows_beyond : Callee l.prog w K mg base 3 "rows_beyond" 4 (m_rows_beyond κ) := callee_of (ps := ["names", "prices", "forced", "value"]) d_rows_beyond (fun F => ok_rows_beyond F b c_rows_of) fun _ _ _ _ _ _ us hl => match us, hl with | [_, _, _, _], _ => rfl
    have c_new_forced : Callee l.prog w K mg base 1 "new_forced" 4 (m_new_forced κ) := callee_of (ps := ["names", "rows", "forced", "value"]) d_new_forced (fun F => ok_new_forced F b ) fun _ _ _ _ _ _ us hl => match us, hl with | [_, _, _, _], _ => rfl
    have c_forced_steps : Callee l.prog w K mg base 4 "forced_steps" 2 (m_forced_steps κ) := callee_of (ps := ["uses", "value"]) d_forced_steps (fun F => ok_forced_steps F b c_new_forced c_rows_beyond) fun _ _ _ _ _ _ us hl => match us, hl with | [_, _], _ => rfl
    have c__law_begin : Callee l.prog w K mg base 1 "_law_begin" 1 (m__law_begin κ) := callee_of (ps := ["script"]) d__law_begin (fun F => ok__law_begin F b ) fun _ _ _ _ _ _ us hl => match us, hl with | [_], _ => rfl
    have c__law_draw : Callee l.prog w K mg base 1 "_law_draw" 2 (m__law_draw κ) := callee_of (ps := ["d", "many"]) d__law_draw (fun F => ok__law_draw F b ) fun _ _ _ _ _ _ us hl => match us, hl with | [_, _], _ => rfl
    have c__law_pick : Callee l.prog w K mg base 2 "_law_pick" 2 (m__law_pick κ) := callee_of (ps := ["d", "row"]) d__law_pick (fun F => ok__law_pick F b c__law_draw) fun _ _ _ _ _ _ us hl => match us, hl with | [_, _], _ => rfl
    have c__law_rare : Callee l.prog w K mg base 2 "_law_rare" 2 (m__law_rare κ) := callee_of (ps := ["d", "many"]) d__law_rare (fun F => ok__law_rare F b c__law_draw) fun _ _ _ _ _ _ us hl => match us, hl with | [_, _], _ => rfl
    have c__law_shuffled : Callee l.prog w K mg base 2 "_law_shuffled" 2 (m__law_shuffled κ) := callee_of (ps := ["d", "row"]) d__law_shuffled (fun F => ok__law_shuffled F b c__law_draw) fun _ _ _ _ _ _ us hl => match us, hl with | [_, _], _ => rfl
    have c__law_is_int : Callee l.prog w K mg base 1 "_law_is_int" 1 (m__law_is_int κ) := callee_of (ps := ["thing"]) d__law_is_int (fun F => ok__law_is_int F b ) fun _ _ _ _ _ _ us hl => match us, hl with | [_], _ => rfl
    have c__law_is_ints : Callee l.prog w K mg base 2 "_law_is_ints" 1 (m__law_is_ints κ) := callee_of (ps := ["row"]) d__law_is_ints (fun F => ok__law_is_ints F b c__law_is_int) fun _ _ _ _ _ _ us hl => match us, hl with | [_], _ => rfl
    have c__law_row : Callee l.prog w K mg base 1 "_law_row" 2 (m__law_row κ) := callee_of (ps := ["number", "places"]) d__law_row (fun F => ok__law_row F b ) fun _ _ _ _ _ _ us hl => match us, hl with | [_, _], _ => rfl
    have c__law_rows : Callee l.prog w K mg base 2 "_law_rows" 1 (m__law_rows κ) := callee_of (ps := ["places"]) d__law_rows (fun F => ok__law_rows F b c__law_row) fun _ _ _ _ _ _ us hl => match us, hl with | [_], _ => rfl
    have c__law_number : Callee l.prog w K mg base 1 "_law_number" 1 (m__law_number κ) := callee_of (ps := ["row"]) d__law_number (fun F => ok__law_number F b ) fun _ _ _ _ _ _ us hl => match us, hl with | [_], _ => rfl
    have c__law_ones : Callee l.prog w K mg base 1 "_law_ones" 1 (m__law_ones κ) := callee_of (ps := ["mask"]) d__law_ones (fun F => ok__law_ones F b ) fun _ _ _ _ _ _ us hl => match us, hl with | [_], _ => rfl
    have c__law_sum : Callee l.prog w K mg base 1 "_law_sum" 1 (m__law_sum κ) := callee_of (ps := ["prices"]) d__law_sum (fun F => ok__law_sum F b ) fun _ _ _ _ _ _ us hl => match us, hl with | [_], _ => rfl
    have c__law_low : Callee l.prog w K mg base 1 "_law_low" 1 (m__law_low κ) := callee_of (ps := ["prices"]) d__law_low (fun F => ok__law_low F b ) fun _ _ _ _ _ _ us hl => match us, hl with | [_], _ => rfl
    have c__law_times : Callee l.prog w K mg base 1 "_law_times" 2 (m__law_times κ) := callee_of (ps := ["price", "times"]) d__law_times (fun F => ok__law_times F b ) fun _ _ _ _ _ _ us hl => match us, hl with | [_, _], _ => rfl
    have c__law_above : Callee l.prog w K mg base 1 "_law_above" 2 (m__law_above κ) := callee_of (ps := ["first", "second"]) d__law_above (fun F => ok__law_above F b ) fun _ _ _ _ _ _ us hl => match us, hl with | [_, _], _ => rfl
    have c__law_most : Callee l.prog w K mg base 1 "_law_most" 3 (m__law_most κ) := callee_of (ps := ["first", "second", "third"]) d__law_most (fun F => ok__law_most F b ) fun _ _ _ _ _ _ us hl => match us, hl with | [_, _, _], _ => rfl
    have c__law_kinds : Callee l.prog w K mg base 1 "_law_kinds" 0 (m__law_kinds κ) := callee_of (ps := []) d__law_kinds (fun F => ok__law_kinds F b ) fun _ _ _ _ _ _ us hl => match us, hl with | [], _ => rfl
    have c__law_breach_one : Callee l.prog w K mg base 2 "_law_breach_one" 3 (m__law_breach_one κ) := callee_of (ps := ["kind", "prices", "rows"]) d__law_breach_one (fun F => ok__law_breach_one F b c__law_above) fun _ _ _ _ _ _ us hl => match us, hl with | [_, _, _], _ => rfl
    have c__law_breach_two : Callee l.prog w K mg base 2 "_law_breach_two" 3 (m__law_breach_two κ) := callee_of (ps := ["kind", "prices", "rows"]) d__law_breach_two (fun F => ok__law_breach_two F b c__law_above c__law_sum c__law_times) fun _ _ _ _ _ _ us hl => match us, hl with | [_, _, _], _ => rfl
    have c__law_breach_three : Callee l.prog w K mg base 2 "_law_breach_three" 3 (m__law_breach_three κ) := callee_of (ps := ["kind", "prices", "rows"]) d__law_breach_three (fun F => ok__law_breach_three F b c__law_above c__law_most c__law_sum c__law_times) fun _ _ _ _ _ _ us hl => match us, hl with | [_, _, _], _ => rfl
    have c__law_keeps : Callee l.prog w K mg base 3 "_law_keeps" 2 (m__law_keeps κ) := callee_of (ps := ["kind", "prices"]) d__law_keeps (fun F => ok__law_keeps F b c__law_breach_one c__law_breach_three c__law_breach_two) fun _ _ _ _ _ _ us hl => match us, hl with | [_, _], _ => rfl
    have c__law_kept : Callee l.prog w K mg base 4 "_law_kept" 2 (m__law_kept κ) := callee_of (ps := ["kind", "tables"]) d__law_kept (fun F => ok__law_kept F b c__law_keeps) fun _ _ _ _ _ _ us hl => match us, hl with | [_, _], _ => rfl
    have c__law_first_kind : Callee l.prog w K mg base 5 "_law_first_kind" 1 (m__law_first_kind κ) := callee_of (ps := ["tables"]) d__law_first_kind (fun F => ok__law_first_kind F b c__law_kept c__law_kinds) fun _ _ _ _ _ _ us hl => match us, hl with | [_], _ => rfl
    have c__law_cost : Callee l.prog w K mg base 3 "_law_cost" 1 (m__law_cost κ) := callee_of (ps := ["d"]) d__law_cost (fun F => ok__law_cost F b c__law_draw c__law_rare) fun _ _ _ _ _ _ us hl => match us, hl with | [_], _ => rfl
    have c__law_opened : Callee l.prog w K mg base 4 "_law_opened" 2 (m__law_opened κ) := callee_of (ps := ["d", "prices"]) d__law_opened (fun F => ok__law_opened F b c__law_cost c__law_draw c__law_low) fun _ _ _ _ _ _ us hl => match us, hl with | [_, _], _ => rfl
    have c__law_loose : Callee l.prog w K mg base 5 "_law_loose" 3 (m__law_loose κ) := callee_of (ps := ["d", "places", "barred"]) d__law_loose (fun F => ok__law_loose F b c__law_cost c__law_draw c__law_opened) fun _ _ _ _ _ _ us hl => match us, hl with | [_, _, _], _ => rfl
    have c__law_crisp : Callee l.prog w K mg base 5 "_law_crisp" 3 (m__law_crisp κ) := callee_of (ps := ["d", "places", "barred"]) d__law_crisp (fun F => ok__law_crisp F b c__law_cost c__law_draw c__law_opened) fun _ _ _ _ _ _ us hl => match us, hl with | [_, _, _], _ => rfl
    have c__law_turned : Callee l.prog w K mg base 1 "_law_turned" 1 (m__law_turned κ) := callee_of (ps := ["table"]) d__law_turned (fun F => ok__law_turned F b ) fun _ _ _ _ _ _ us hl => match us, hl with | [_], _ => rfl
    have c__law_zero : Callee l.prog w K mg base 6 "_law_zero" 2 (m__law_zero κ) := callee_of (ps := ["d", "places"]) d__law_zero (fun F => ok__law_zero F b c__law_draw c__law_loose c__law_low) fun _ _ _ _ _ _ us hl => match us, hl with | [_, _], _ => rfl
    have c__law_least : Callee l.prog w K mg base 2 "_law_least" 2 (m__law_least κ) := callee_of (ps := ["d", "places"]) d__law_least (fun F => ok__law_least F b c__law_draw) fun _ _ _ _ _ _ us hl => match us, hl with | [_, _], _ => rfl
    have c__law_add_bends : Callee l.prog w K mg base 2 "_law_add_bends" 3 (m__law_add_bends κ) := callee_of (ps := ["d", "places", "prices"]) d__law_add_bends (fun F => ok__law_add_bends F b c__law_draw) fun _ _ _ _ _ _ us hl => match us, hl with | [_, _, _], _ => rfl
    have c__law_cut : Callee l.prog w K mg base 3 "_law_cut" 2 (m__law_cut κ) := callee_of (ps := ["d", "places"]) d__law_cut (fun F => ok__law_cut F b c__law_add_bends c__law_draw) fun _ _ _ _ _ _ us hl => match us, hl with | [_, _], _ => rfl
    have c__law_twos : Callee l.prog w K mg base 4 "_law_twos" 2 (m__law_twos κ) := callee_of (ps := ["d", "places"]) d__law_twos (fun F => ok__law_twos F b c__law_cost c__law_draw) fun _ _ _ _ _ _ us hl => match us, hl with | [_, _], _ => rfl
    have c__law_sums : Callee l.prog w K mg base 4 "_law_sums" 2 (m__law_sums κ) := callee_of (ps := ["d", "places"]) d__law_sums (fun F => ok__law_sums F b c__law_cost c__law_draw c__law_ones) fun _ _ _ _ _ _ us hl => match us, hl with | [_, _], _ => rfl
    have c__law_ties : Callee l.prog w K mg base 2 "_law_ties" 2 (m__law_ties κ) := callee_of (ps := ["d", "places"]) d__law_ties (fun F => ok__law_ties F b c__law_draw) fun _ _ _ _ _ _ us hl => match us, hl with | [_, _], _ => rfl
    have c__law_kind_table : Callee l.prog w K mg base 7 "_law_kind_table" 3 (m__law_kind_table κ) := callee_of (ps := ["d", "kind", "places"]) d__law_kind_table (fun F => ok__law_kind_table F b c__law_cut c__law_least c__law_sums c__law_ties c__law_turned c__law_twos c__law_zero) fun _ _ _ _ _ _ us hl => match us, hl with | [_, _, _], _ => rfl
    have c__law_kind_lot : Callee l.prog w K mg base 8 "_law_kind_lot" 4 (m__law_kind_lot κ) := callee_of (ps := ["d", "kind", "many", "places"]) d__law_kind_lot (fun F => ok__law_kind_lot F b c__law_draw c__law_kind_table) fun _ _ _ _ _ _ us hl => match us, hl with | [_, _, _, _], _ => rfl
    have c__law_sure_hard : Callee l.prog w K mg base 2 "_law_sure_hard" 1 (m__law_sure_hard κ) := callee_of (ps := ["d"]) d__law_sure_hard (fun F => ok__law_sure_hard F b c__law_draw) fun _ _ _ _ _ _ us hl => match us, hl with | [_], _ => rfl
    have c__law_hard_lot : Callee l.prog w K mg base 6 "_law_hard_lot" 1 (m__law_hard_lot κ) := callee_of (ps := ["d"]) d__law_hard_lot (fun F => ok__law_hard_lot F b c__law_crisp c__law_draw c__law_first_kind c__law_loose c__law_sure_hard) fun _ _ _ _ _ _ us hl => match us, hl with | [_], _ => rfl
    have c__law_any_lot : Callee l.prog w K mg base 9 "_law_any_lot" 1 (m__law_any_lot κ) := callee_of (ps := ["d"]) d__law_any_lot (fun F => ok__law_any_lot F b c__law_draw c__law_hard_lot c__law_kind_lot c__law_kinds c__law_pick) fun _ _ _ _ _ _ us hl => match us, hl with | [_], _ => rfl
    have c__law_uses : Callee l.prog w K mg base 2 "_law_uses" 4 (m__law_uses κ) := callee_of (ps := ["d", "tables", "many", "count"]) d__law_uses (fun F => ok__law_uses F b c__law_draw) fun _ _ _ _ _ _ us hl => match us, hl with | [_, _, _, _], _ => rfl
    have c__law_merged : Callee l.prog w K mg base 3 "_law_merged" 2 (m__law_merged κ) := callee_of (ps := ["tables", "use"]) d__law_merged (fun F => ok__law_merged F b c__law_rows c__law_times) fun _ _ _ _ _ _ us hl => match us, hl with | [_, _], _ => rfl
    have c__law_beyond : Callee l.prog w K mg base 3 "_law_beyond" 3 (m__law_beyond κ) := callee_of (ps := ["use", "forced", "value"]) d__law_beyond (fun F => ok__law_beyond F b c__law_rows) fun _ _ _ _ _ _ us hl => match us, hl with | [_, _, _], _ => rfl
    have c__law_next : Callee l.prog w K mg base 4 "_law_next" 3 (m__law_next κ) := callee_of (ps := ["uses", "forced", "value"]) d__law_next (fun F => ok__law_next F b c__law_beyond) fun _ _ _ _ _ _ us hl => match us, hl with | [_, _, _], _ => rfl
    have c__law_course : Callee l.prog w K mg base 5 "_law_course" 3 (m__law_course κ) := callee_of (ps := ["uses", "many", "value"]) d__law_course (fun F => ok__law_course F b c__law_next) fun _ _ _ _ _ _ us hl => match us, hl with | [_, _, _], _ => rfl
    have c__law_open : Callee l.prog w K mg base 3 "_law_open" 2 (m__law_open κ) := callee_of (ps := ["uses", "many"]) d__law_open (fun F => ok__law_open F b c__law_number c__law_rows c__law_sum) fun _ _ _ _ _ _ us hl => match us, hl with | [_, _], _ => rfl
    have c__law_meant : Callee l.prog w K mg base 4 "_law_meant" 6 (m__law_meant κ) := callee_of (ps := ["uses", "many", "value", "exact", "forced", "stuck"]) d__law_meant (fun F => ok__law_meant F b c__law_open) fun _ _ _ _ _ _ us hl => match us, hl with | [_, _, _, _, _, _], _ => rfl
    have c__law_right : Callee l.prog w K mg base 6 "_law_right" 5 (m__law_right κ) := callee_of (ps := ["uses", "many", "value", "exact", "told"]) d__law_right (fun F => ok__law_right F b c__law_course c__law_is_ints c__law_meant) fun _ _ _ _ _ _ us hl => match us, hl with | [_, _, _, _, _], _ => rfl
    have c__law_small : Callee l.prog w K mg base 10 "_law_small" 1 (m__law_small κ) := callee_of (ps := ["d"]) d__law_small (fun F => ok__law_small F b c__law_any_lot c__law_draw c__law_kind_lot c__law_loose c__law_rare c__law_shuffled c__law_uses) fun _ _ _ _ _ _ us hl => match us, hl with | [_], _ => rfl
    have c__law_long : Callee l.prog w K mg base 6 "_law_long" 1 (m__law_long κ) := callee_of (ps := ["d"]) d__law_long (fun F => ok__law_long F b c__law_draw c__law_loose c__law_shuffled c__law_uses) fun _ _ _ _ _ _ us hl => match us, hl with | [_], _ => rfl
    exact (ok_law F b c__law_begin c__law_kept c__law_long c__law_merged c__law_rare c__law_right c__law_shuffled c__law_small c_forced_steps).imp (law_spT (law_true κ))
end Ev.W
open PySem PySem.W PyProof.Rows
set_option maxHeartbeats 0 in
theorem PySem.Challenge.cw_pricedrules_k26_steps_forced_one_by_one_holds : PySem.Challenge.rw_pricedrules_k26_steps_forced_one_by_one.Holds := by
  w_on; o_law; k_head; (case hw => w_witness2)
  k_fill
  refine L2.walk_of (l := PySem.Challenge.rw_pricedrules_k26_steps_forced_one_by_one) (n := 63) (k := 11) (x := "script") (CX := fun _ => L2.CX0) (sp := fun w => Ev.spTrue _) rfl (by decide) rfl ⟨rfl, by decide, by decide⟩ (fun w h Y => PySem.W.kIn_of Y) ?F (fun _ _ a ns hl _ hS => ⟨a, ns, rfl, hS, hl, fun _ => rfl⟩) (fun _ _ _ _ _ h => h)
  case F =>
    intro w mg fa h KX G hmg
    refine' Ev.W.all_ok (fun _ => 0) hmg ⟨?z_abs, ?z_all, ?z_bool, ?z_dict, ?z_int, ?z_isinstance, ?z_len, ?z_list, ?z_max, ?z_range, ?z_reversed, ?z_sorted, ?z_tuple, ?z_zip⟩  ?d_row_of ?d_rows_of ?d_rows_beyond ?d_new_forced ?d_forced_steps ?d__law_begin ?d__law_draw ?d__law_pick ?d__law_rare ?d__law_shuffled ?d__law_is_int ?d__law_is_ints ?d__law_row ?d__law_rows ?d__law_number ?d__law_ones ?d__law_sum ?d__law_low ?d__law_times ?d__law_above ?d__law_most ?d__law_kinds ?d__law_breach_one ?d__law_breach_two ?d__law_breach_three ?d__law_keeps ?d__law_kept ?d__law_first_kind ?d__law_cost ?d__law_opened ?d__law_loose ?d__law_crisp ?d__law_turned ?d__law_zero ?d__law_least ?d__law_add_bends ?d__law_cut ?d__law_twos ?d__law_sums ?d__law_ties ?d__law_kind_table ?d__law_kind_lot ?d__law_sure_hard ?d__law_hard_lot ?d__law_any_lot ?d__law_uses ?d__law_merged ?d__law_beyond ?d__law_next ?d__law_course ?d__law_open ?d__law_meant ?d__law_right ?d__law_small ?d__law_long ?d_law
    case z_abs => refine PySem.W.mg_none_of KX G ?z; (case z => k_is)
    case z_all => refine PySem.W.mg_none_of KX G ?z; (case z => k_is)
    case z_bool => refine PySem.W.mg_none_of KX G ?z; (case z => k_is)
    case z_dict => refine PySem.W.mg_none_of KX G ?z; (case z => k_is)
    case z_int => refine PySem.W.mg_none_of KX G ?z; (case z => k_is)
    case z_isinstance => refine PySem.W.mg_none_of KX G ?z; (case z => k_is)
    case z_len => refine PySem.W.mg_none_of KX G ?z; (case z => k_is)
    case z_list => refine PySem.W.mg_none_of KX G ?z; (case z => k_is)
    case z_max => refine PySem.W.mg_none_of KX G ?z; (case z => k_is)
    case z_range => refine PySem.W.mg_none_of KX G ?z; (case z => k_is)
    case z_reversed => refine PySem.W.mg_none_of KX G ?z; (case z => k_is)
    case z_sorted => refine PySem.W.mg_none_of KX G ?z; (case z => k_is)
    case z_tuple => refine PySem.W.mg_none_of KX G ?z; (case z => k_is)
    case z_zip => refine PySem.W.mg_none_of KX G ?z; (case z => k_is)
    case d_row_of => refine' Ev.def_mk KX G ?a ?l ?c ?k; (case a => k_is); (case l => k_is); (case c => k_is); (case k => k_is)
    case d_rows_of => refine' Ev.def_mk KX G ?a ?l ?c ?k; (case a => k_is); (case l => k_is); (case c => k_is); (case k => k_is)
    case d_rows_beyond => refine' Ev.def_mk KX G ?a ?l ?c ?k; (case a => k_is); (case l => k_is); (case c => k_is); (case k => k_is)
    case d_new_forced => refine' Ev.def_mk KX G ?a ?l ?c ?k; (case a => k_is); (case l => k_is); (case c => k_is); (case k => k_is)
    case d_forced_steps => refine' Ev.def_mk KX G ?a ?l ?c ?k; (case a => k_is); (case l => k_is); (case c => k_is); (case k => k_is)
    case d__law_begin => refine' Ev.def_mk KX G ?a ?l ?c ?k; (case a => k_is); (case l => k_is); (case c => k_is); (case k => k_is)
    case d__law_draw => refine' Ev.def_mk KX G ?a ?l ?c ?k; (case a => k_is); (case l => k_is); (case c => k_is); (case k => k_is)
    case d__law_pick => refine' Ev.def_mk KX G ?a ?l ?c ?k; (case a => k_is); (case l => k_is); (case c => k_is); (case k => k_is)
    case d__law_rare => refine' Ev.def_mk KX G ?a ?l ?c ?k; (case a => k_is); (case l => k_is); (case c => k_is); (case k => k_is)
    case d__law_shuffled => refine' Ev.def_mk KX G ?a ?l ?c ?k; (case a => k_is); (case l => k_is); (case c => k_is); (case k => k_is)
    case d__law_is_int => refine' Ev.def_mk KX G ?a ?l ?c ?k; (case a => k_is); (case l => k_is); (case c => k_is); (case k => k_is)
    case d__law_is_ints => refine' Ev.def_mk KX G ?a ?l ?c ?k; (case a => k_is); (case l => k_is); (case c => k_is); (case k => k_is)
    case d__law_row => refine' Ev.def_mk KX G ?a ?l ?c ?k; (case a => k_is); (case l => k_is); (case c => k_is); (case k => k_is)
    case d__law_rows => refine' Ev.def_mk KX G ?a ?l ?c ?k; (case a => k_is); (case l => k_is); (case c => k_is); (case k => k_is)
    case d__law_number => refine' Ev.def_mk KX G ?a ?l ?c ?k; (case a => k_is); (case l => k_is); (case c => k_is); (case k => k_is)
    case d__law_ones => refine' Ev.def_mk KX G ?a ?l ?c ?k; (case a => k_is); (case l => k_is); (case c => k_is); (case k => k_is)
    case d__law_sum => refine' Ev.def_mk KX G ?a ?l ?c ?k; (case a => k_is); (case l => k_is); (case c => k_is); (case k => k_is)
    case d__law_low => refine' Ev.def_mk KX G ?a ?l ?c ?k; (case a => k_is); (case l => k_is); (case c => k_is); (case k => k_is)
    case d__law_times => refine' Ev.def_mk KX G ?a ?l ?c ?k; (case a => k_is); (case l => k_is); (case c => k_is); (case k => k_is)
    case d__law_above => refine' Ev.def_mk KX G ?a ?l ?c ?k; (case a => k_is); (case l => k_is); (case c => k_is); (case k => k_is)
    case d__law_most => refine' Ev.def_mk KX G ?a ?l ?c ?k; (case a => k_is); (case l => k_is); (case c => k_is); (case k => k_is)
    case d__law_kinds => refine' Ev.def_mk KX G ?a ?l ?c ?k; (case a => k_is); (case l => k_is); (case c => k_is); (case k => k_is)
    case d__law_breach_one => refine' Ev.def_mk KX G ?a ?l ?c ?k; (case a => k_is); (case l => k_is); (case c => k_is); (case k => k_is)
    case d__law_breach_two => refine' Ev.def_mk KX G ?a ?l ?c ?k; (case a => k_is); (case l => k_is); (case c => k_is); (case k => k_is)
    case d__law_breach_three => refine' Ev.def_mk KX G ?a ?l ?c ?k; (case a => k_is); (case l => k_is); (case c => k_is); (case k => k_is)
    case d__law_keeps => refine' Ev.def_mk KX G ?a ?l ?c ?k; (case a => k_is); (case l => k_is); (case c => k_is); (case k => k_is)
    case d__law_kept => refine' Ev.def_mk KX G ?a ?l ?c ?k; (case a => k_is); (case l => k_is); (case c => k_is); (case k => k_is)
    case d__law_first_kind => refine' Ev.def_mk KX G ?a ?l ?c ?k; (case a => k_is); (case l => k_is); (case c => k_is); (case k => k_is)
    case d__law_cost => refine' Ev.def_mk KX G ?a ?l ?c ?k; (case a => k_is); (case l => k_is); (case c => k_is); (case k => k_is)
    case d__law_opened => refine' Ev.def_mk KX G ?a ?l ?c ?k; (case a => k_is); (case l => k_is); (case c => k_is); (case k => k_is)
    case d__law_loose => refine' Ev.def_mk KX G ?a ?l ?c ?k; (case a => k_is); (case l => k_is); (case c => k_is); (case k => k_is)
    case d__law_crisp => refine' Ev.def_mk KX G ?a ?l ?c ?k; (case a => k_is); (case l => k_is); (case c => k_is); (case k => k_is)
    case d__law_turned => refine' Ev.def_mk KX G ?a ?l ?c ?k; (case a => k_is); (case l => k_is); (case c => k_is); (case k => k_is)
    case d__law_zero => refine' Ev.def_mk KX G ?a ?l ?c ?k; (case a => k_is); (case l => k_is); (case c => k_is); (case k => k_is)
    case d__law_least => refine' Ev.def_mk KX G ?a ?l ?c ?k; (case a => k_is); (case l => k_is); (case c => k_is); (case k => k_is)
    case d__law_add_bends => refine' Ev.def_mk KX G ?a ?l ?c ?k; (case a => k_is); (case l => k_is); (case c => k_is); (case k => k_is)
    case d__law_cut => refine' Ev.def_mk KX G ?a ?l ?c ?k; (case a => k_is); (case l => k_is); (case c => k_is); (case k => k_is)
    case d__law_twos => refine' Ev.def_mk KX G ?a ?l ?c ?k; (case a => k_is); (case l => k_is); (case c => k_is); (case k => k_is)
    case d__law_sums => refine' Ev.def_mk KX G ?a ?l ?c ?k; (case a => k_is); (case l => k_is); (case c => k_is); (case k => k_is)
    case d__law_ties => refine' Ev.def_mk KX G ?a ?l ?c ?k; (case a => k_is); (case l => k_is); (case c => k_is); (case k => k_is)
    case d__law_kind_table => refine' Ev.def_mk KX G ?a ?l ?c ?k; (case a => k_is); (case l => k_is); (case c => k_is); (case k => k_is)
    case d__law_kind_lot => refine' Ev.def_mk KX G ?a ?l ?c ?k; (case a => k_is); (case l => k_is); (case c => k_is); (case k => k_is)
    case d__law_sure_hard => refine' Ev.def_mk KX G ?a ?l ?c ?k; (case a => k_is); (case l => k_is); (case c => k_is); (case k => k_is)
    case d__law_hard_lot => refine' Ev.def_mk KX G ?a ?l ?c ?k; (case a => k_is); (case l => k_is); (case c => k_is); (case k => k_is)
    case d__law_any_lot => refine' Ev.def_mk KX G ?a ?l ?c ?k; (case a => k_is); (case l => k_is); (case c => k_is); (case k => k_is)
    case d__law_uses => refine' Ev.def_mk KX G ?a ?l ?c ?k; (case a => k_is); (case l => k_is); (case c => k_is); (case k => k_is)
    case d__law_merged => refine' Ev.def_mk KX G ?a ?l ?c ?k; (case a => k_is); (case l => k_is); (case c => k_is); (case k => k_is)
    case d__law_beyond => refine' Ev.def_mk KX G ?a ?l ?c ?k; (case a => k_is); (case l => k_is); (case c => k_is); (case k => k_is)
    case d__law_next => refine' Ev.def_mk KX G ?a ?l ?c ?k; (case a => k_is); (case l => k_is); (case c => k_is); (case k => k_is)
    case d__law_course => refine' Ev.def_mk KX G ?a ?l ?c ?k; (case a => k_is); (case l => k_is); (case c => k_is); (case k => k_is)
    case d__law_open => refine' Ev.def_mk KX G ?a ?l ?c ?k; (case a => k_is); (case l => k_is); (case c => k_is); (case k => k_is)
    case d__law_meant => refine' Ev.def_mk KX G ?a ?l ?c ?k; (case a => k_is); (case l => k_is); (case c => k_is); (case k => k_is)
    case d__law_right => refine' Ev.def_mk KX G ?a ?l ?c ?k; (case a => k_is); (case l => k_is); (case c => k_is); (case k => k_is)
    case d__law_small => refine' Ev.def_mk KX G ?a ?l ?c ?k; (case a => k_is); (case l => k_is); (case c => k_is); (case k => k_is)
    case d__law_long => refine' Ev.def_mk KX G ?a ?l ?c ?k; (case a => k_is); (case l => k_is); (case c => k_is); (case k => k_is)
    case d_law => refine' Ev.def_mk KX G ?a ?l ?c ?k; (case a => k_is); (case l => k_is); (case c => k_is); (case k => k_is)
