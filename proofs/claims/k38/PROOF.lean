import PyProof.Rows.All
import Wide.All
import OpenK.AllK
import Wide.FinOn
import HandS.ForMost
import HandS.Wide
import HandS.TupAny
import HandS.IsInst
import HandS.Zip
import HandS.Rev
import HandS.Style
import HandS.Conv
import PySem.Challenge.RW_pricedrules_k38_below_exactly_if_cut
set_option Elab.async false
set_option linter.all false
set_option maxRecDepth 100000
/-! Ev: plain values for a program's run, over the hand layer. A: values, what stands for them, the state. -/
set_option autoImplicit false
namespace Ev
open PySem PySem.Spec PyProof.Rows L2
abbrev St := L2.St

/-- a plain value -/
inductive D where
  | non | bl (b : Bool) | int (i : Int) | str (s : Str)
  | tup (xs : List D) | lst (xs : List D)
  | rol (xs : List D)
  deriving Inhabited

mutual
/-- v stands, in the frozen heap F, for the plain value -/
inductive Rep (K : PySem.W.Frag) (F : Hp) : V → D → Prop
  | non : Rep K F .non .non
  | bl (b : Bool) : Rep K F (.bl b) (.bl b)
  | int (i : Int) : Rep K F (.int i) (.int i)
  | str (x : Str) : Rep K F (.str x) (.str x)
  | tup {a : Addr} {vs : List V} {ds : List D} : SqT K F a vs → Reps K F vs ds → Rep K F (.ref a) (.tup ds)
  | lst {a : Addr} {vs : List V} {ds : List D} : F a = some (.lst vs) → Reps K F vs ds → Rep K F (.ref a) (.lst ds)
  | rol {a : Addr} {vs : List V} {ds : List D} : SqL K F a vs → Reps K F vs ds → Rep K F (.ref a) (.rol ds)
inductive Reps (K : PySem.W.Frag) (F : Hp) : List V → List D → Prop
  | nil : Reps K F [] []
  | cons {v : V} {d : D} {vs : List V} {ds : List D} : Rep K F v d → Reps K F vs ds → Reps K F (v :: vs) (d :: ds)
end

theorem sameRd {H H' : Hp} {a : Addr} {u : HO} (e : Same H H') (h : Rd H a u) : Rd H' a u := by
  rcases h with h | ⟨o, h⟩
  · exact .inl (e a _ h)
  · exact .inr ⟨o, e a _ h⟩
theorem sameL {K : PySem.W.Frag} {H H' : Hp} {a : Addr} {xs : List V} (e : Same H H') (h : SqL K H a xs) : SqL K H' a xs := by
  rcases h with h | h
  · exact .inl (sameRd e h)
  · exact .inr h
theorem sameT {K : PySem.W.Frag} {H H' : Hp} {a : Addr} {xs : List V} (e : Same H H') (h : SqT K H a xs) : SqT K H' a xs := by
  rcases h with h | h
  · exact .inl (sameRd e h)
  · exact .inr h

mutual
theorem Rep.mono {K : PySem.W.Frag} {F F' : Hp} (e : Same F F') : ∀ {v : V} {d : D}, Rep K F v d → Rep K F' v d
  | _, _, .non => .non
  | _, _, .bl b => .bl b
  | _, _, .int i => .int i
  | _, _, .str x => .str x
  | _, _, .tup h r => .tup (sameT e h) (Reps.mono e r)
  | _, _, .lst h r => .lst (e _ _ h) (Reps.mono e r)
  | _, _, .rol h r => .rol (sameL e h) (Reps.mono e r)
theorem Reps.mono {K : PySem.W.Frag} {F F' : Hp} (e : Same F F') : ∀ {vs : List V} {ds : List D}, Reps K F vs ds → Reps K F' vs ds
  | _, _, .nil => .nil
  | _, _, .cons h r => .cons (Rep.mono e h) (Reps.mono e r)
end
section
variable {K : PySem.W.Frag} {F : Hp} {vs ws : List V} {ds es : List D}
theorem Reps.length : ∀ {vs : List V} {ds : List D}, Reps K F vs ds → vs.length = ds.length
  | _, _, .nil => rfl
  | _, _, .cons _ r => congrArg (· + 1) (Reps.length r)
theorem Reps.append : ∀ {vs : List V} {ds : List D}, Reps K F vs ds → Reps K F ws es → Reps K F (vs ++ ws) (ds ++ es)
  | _, _, .nil, q => q
  | _, _, .cons h r, q => .cons h (Reps.append r q)
theorem Reps.get : ∀ {vs : List V} {ds : List D} {i : Nat} {d : D}, Reps K F vs ds → ds[i]? = some d → ∃ v, vs[i]? = some v ∧ Rep K F v d
  | _, _, _, _, .nil, e => by simp at e
  | _, _, 0, _, .cons h _, e => by simp at e; subst e; exact ⟨_, rfl, h⟩
  | _, _, i + 1, d, .cons _ r, e => by
    obtain ⟨v, h1, h2⟩ := Reps.get (i := i) (d := d) r (by simpa using e)
    exact ⟨v, by simpa using h1, h2⟩
theorem Reps.set {v : V} {d : D} (h : Rep K F v d) : ∀ {vs : List V} {ds : List D} (i : Nat), Reps K F vs ds → Reps K F (vs.set i v) (ds.set i d)
  | _, _, _, .nil => .nil
  | _, _, 0, .cons _ r => .cons h r
  | _, _, i + 1, .cons q r => .cons q (Reps.set h i r)
theorem Reps.take : ∀ {vs : List V} {ds : List D} (n : Nat), Reps K F vs ds → Reps K F (vs.take n) (ds.take n)
  | _, _, 0, _ => .nil
  | _, _, _ + 1, .nil => .nil
  | _, _, n + 1, .cons h r => .cons h (Reps.take n r)
theorem Reps.drop : ∀ {vs : List V} {ds : List D} (n : Nat), Reps K F vs ds → Reps K F (vs.drop n) (ds.drop n)
  | _, _, 0, r => r
  | _, _, _ + 1, .nil => .nil
  | _, _, n + 1, .cons _ r => Reps.drop n r
theorem Reps.eraseIdx : ∀ {vs : List V} {ds : List D} (n : Nat), Reps K F vs ds → Reps K F (vs.eraseIdx n) (ds.eraseIdx n)
  | _, _, _, .nil => .nil
  | _, _, 0, .cons _ r => r
  | _, _, n + 1, .cons h r => .cons h (Reps.eraseIdx n r)
theorem Reps.insertIdx {v : V} {d : D} (h : Rep K F v d) : ∀ {vs : List V} {ds : List D} (n : Nat), Reps K F vs ds → Reps K F (vs.insertIdx n v) (ds.insertIdx n d)
  | _, _, 0, r => .cons h r
  | _, _, _ + 1, .nil => .nil
  | _, _, n + 1, .cons q r => .cons q (Reps.insertIdx h n r)
theorem Reps.dropLast (r : Reps K F vs ds) : Reps K F vs.dropLast ds.dropLast := by
  rw [List.dropLast_eq_take, List.dropLast_eq_take, r.length]
  exact r.take _
theorem Reps.reverse : ∀ {vs : List V} {ds : List D}, Reps K F vs ds → Reps K F vs.reverse ds.reverse
  | _, _, .nil => .nil
  | _, _, .cons h r => by
    rw [List.reverse_cons, List.reverse_cons]
    exact (Reps.reverse r).append (.cons h .nil)
theorem Reps.replicate {v : V} {d : D} (h : Rep K F v d) : ∀ n, Reps K F (List.replicate n v) (List.replicate n d)
  | 0 => .nil
  | n + 1 => .cons h (Reps.replicate h n)
theorem Reps.rep (r : Reps K F vs ds) : ∀ n, Reps K F (List.replicate n vs).flatten (List.replicate n ds).flatten
  | 0 => .nil
  | n + 1 => r.append (Reps.rep r n)
theorem Reps.ints : ∀ {vs : List V} {ns : List Int}, Reps K F vs (ns.map D.int) → vs = ns.map V.int
  | _, [], .nil => rfl
  | _, _ :: _, .cons h r => by cases h; rw [List.map_cons, Reps.ints r]
theorem Reps.of_ints : ∀ ns : List Int, Reps K F (ns.map V.int) (ns.map D.int)
  | [] => .nil
  | n :: ns => .cons (.int n) (Reps.of_ints ns)
theorem Reps.bls : ∀ {vs : List V} {ns : List Bool}, Reps K F vs (ns.map D.bl) → vs = ns.map V.bl
  | _, [], .nil => rfl
  | _, _ :: _, .cons h r => by cases h; rw [List.map_cons, Reps.bls r]
theorem Reps.strs : ∀ {vs : List V} {ns : List Str}, Reps K F vs (ns.map D.str) → vs = ns.map V.str
  | _, [], .nil => rfl
  | _, _ :: _, .cons h r => by cases h; rw [List.map_cons, Reps.strs r]
theorem Reps.of_strs : ∀ ns : List Str, Reps K F (ns.map V.str) (ns.map D.str)
  | [] => .nil
  | n :: ns => .cons (.str n) (Reps.of_strs ns)
end

/-! ### an object that may change -/
/-- what stands at the object, by its content -/
inductive Own (K : PySem.W.Frag) (F : Hp) : HO → D → Prop
  | lst {vs : List V} {ds : List D} : Reps K F vs ds → Own K F (.lst vs) (.lst ds)
theorem Own.mono {K : PySem.W.Frag} {F F' : Hp} (e : Same F F') {o : HO} {d : D} : Own K F o d → Own K F' o d
  | .lst r => .lst (r.mono e)

/-- what a name holds: a plain value | an object of its own | a caller's object, read only -/
inductive SV where
  | val (d : D) | own (d : D) | bor (d : D) | lck (d : D)
  deriving Inhabited
def SV.d : SV → D
  | .val d => d
  | .own d => d
  | .bor d => d
  | .lck d => d
/-- held by this name alone; an object at all -/
def SV.ex : SV → Bool
  | .own _ => true
  | .lck _ => true
  | _ => false
def SV.ob : SV → Bool
  | .val _ => false
  | _ => true
abbrev Rho := List (Option SV)

/-- what is kept as it is; no name reads the hidden part of it -/
structure Frm where
  h : Hp
  hid : Addr → Prop
  hs : ∀ a, hid a → h a ≠ none
instance : CoeFun Frm fun _ => Addr → Option HO := ⟨Frm.h⟩
instance : Coe Frm Hp := ⟨Frm.h⟩
def Frm.upd (Fr : Frm) (a : Addr) (o : HO) : Frm := ⟨L2.upd Fr.h a o, Fr.hid, fun b hb => by
  by_cases e : b = a
  · subst e; rw [upd_same]; exact fun z => nomatch z
  · rw [upd_ne e]; exact Fr.hs b hb⟩
/-- .. a hidden object more -/
def Frm.hide (Fr : Frm) (a : Addr) (o : HO) : Frm := ⟨L2.upd Fr.h a o, fun b => Fr.hid b ∨ b = a, fun b hb => by
  by_cases e : b = a
  · subst e; rw [upd_same]; exact fun z => nomatch z
  · rw [upd_ne e]; exact Fr.hs b (hb.resolve_right e)⟩
def SRel (K : PySem.W.Frag) (Fr : Frm) (F H : Hp) (v : V) : SV → Prop
  | .val d => Rep K F v d
  | .own d => ∃ a o, v = .ref a ∧ H a = some o ∧ Own K F o d ∧ F a = none ∧ Fr a = none
  | .bor d => ∃ a o, v = .ref a ∧ (Fr a = some o ∧ ¬ Fr.hid a) ∧ Own K F o d
  | .lck d => ∃ a o, v = .ref a ∧ (Fr a = some o ∧ ¬ Fr.hid a) ∧ Own K F o d

/-- the state: Fr is kept as it is, F holds the plain values -/
structure Rel (K : PySem.W.Frag) (Fr : Frm) (F : Hp) (ρ : Rho) (σ : St) (H : Hp) : Prop where
  fr : Same Fr.h H
  f : Same F H
  dj : ∀ b o, Fr b = some o → F b = none
  slot : ∀ (i : Nat) (sv : SV), ρ[i]? = some (some sv) → ∃ v, σ[i]? = some (some v) ∧ SRel K Fr F H v sv
  uniq : ∀ (i j : Nat) (s t : SV), ρ[i]? = some (some s) → ρ[j]? = some (some t) → s.ex = true → t.ob = true → σ[i]? = σ[j]? → i = j
  len : ρ.length ≤ σ.length

section
variable {K : PySem.W.Frag} {Fr : Frm} {F H F' H' : Hp} {ρ : Rho} {σ : St}

/-- the heap grows beside -/
theorem Rel.grow (R : Rel K Fr F ρ σ H) (eF : Same F F') (eH : Same H H') (fH : Same F' H') (dj : ∀ b o, Fr b = some o → F' b = none)
    (nw : ∀ b, F' b ≠ none → F b = none → H b = none) : Rel K Fr F' ρ σ H' := by
  refine ⟨R.fr.trans eH, fH, dj, fun i sv e => ?_, R.uniq, R.len⟩
  obtain ⟨v, e1, s⟩ := R.slot i sv e
  refine ⟨v, e1, ?_⟩
  cases sv with
  | val d => exact Rep.mono eF s
  | bor d => obtain ⟨a, o, e2, h1, h2⟩ := s; exact ⟨a, o, e2, h1, h2.mono eF⟩
  | lck d => obtain ⟨a, o, e2, h1, h2⟩ := s; exact ⟨a, o, e2, h1, h2.mono eF⟩
  | own d =>
    obtain ⟨a, o, e2, h1, h2, h3, h4⟩ := s
    refine ⟨a, o, e2, eH _ _ h1, h2.mono eF, ?_, h4⟩
    cases q : F' a with
    | none => rfl
    | some u =>
      have z := nw a (by rw [q]; exact fun z => nomatch z) h3
      rw [z] at h1; cases h1
theorem same_new {p : Addr} {o : HO} (h : H p = none) : Same H (upd H p o) := fun b u e => by
  rw [upd_ne (ne_of_none e h)]; exact e
theorem same_upd2 {p : Addr} {o : HO} (h : Same F H) : Same (upd F p o) (upd H p o) := fun b u e => by
  by_cases z : b = p
  · subst z; rw [upd_same] at e ⊢; exact e
  · rw [upd_ne z] at e ⊢; exact h b u e
/-- a new plain object -/
theorem Rel.new (R : Rel K Fr F ρ σ H) {p : Addr} (o : HO) (h : H p = none) : Rel K Fr (upd F p o) ρ σ (upd H p o) ∧ Same F (upd F p o) := by
  have hF : F p = none := by
    cases q : F p with
    | none => rfl
    | some u => rw [R.f _ _ q] at h; cases h
  have hFr : Fr p = none := by
    cases q : Fr p with
    | none => rfl
    | some u => rw [R.fr _ _ q] at h; cases h
  refine ⟨R.grow (same_new hF) (same_new h) (same_upd2 R.f) (fun b u e => ?_) (fun b z1 z2 => ?_), same_new hF⟩
  · rw [upd_ne (ne_of_none e hFr)]; exact R.dj b u e
  · by_cases z : b = p
    · subst z; exact h
    · rw [upd_ne z] at z1; exact absurd z2 z1
/-- an object that no name holds is frozen -/
theorem Rel.freeze (R : Rel K Fr F ρ σ H) {p : Addr} {o : HO} (h : H p = some o) (hF : F p = none) (hFr : Fr p = none) (hn : ∀ (i : Nat) (d : D), ρ[i]? = some (some (.own d)) → σ[i]? ≠ some (some (.ref p))) :
    Rel K Fr (upd F p o) ρ σ H ∧ Same F (upd F p o) := by
  refine ⟨⟨R.fr, fun b u e => ?_, fun b u e => ?_, fun i sv e => ?_, R.uniq, R.len⟩, same_new hF⟩
  · by_cases z : b = p
    · subst z; rw [upd_same] at e; rw [h]; exact e
    · rw [upd_ne z] at e; exact R.f b u e
  · rw [upd_ne (ne_of_none e hFr)]; exact R.dj b u e
  · obtain ⟨v, e1, s⟩ := R.slot i sv e
    refine ⟨v, e1, ?_⟩
    cases sv with
    | val d => exact Rep.mono (same_new hF) s
    | bor d => obtain ⟨a, o', e2, h1, h2⟩ := s; exact ⟨a, o', e2, h1, h2.mono (same_new hF)⟩
    | lck d => obtain ⟨a, o', e2, h1, h2⟩ := s; exact ⟨a, o', e2, h1, h2.mono (same_new hF)⟩
    | own d =>
      obtain ⟨a, o', e2, h1, h2, h3, h4⟩ := s
      refine ⟨a, o', e2, h1, h2.mono (same_new hF), ?_, h4⟩
      rw [upd_ne (fun z => hn i d e (by rw [e1, e2, z]))]
      exact h3
theorem get_set_some {α : Type} {l : List α} {i j : Nat} {x y : α} (h : (l.set i x)[j]? = some y) : (i = j ∧ x = y ∧ i < l.length) ∨ (i ≠ j ∧ l[j]? = some y) := by
  by_cases e : i = j
  · subst e
    by_cases hl : i < l.length
    · rw [List.getElem?_set_self hl] at h
      exact .inl ⟨rfl, Option.some.inj h, hl⟩
    · rw [List.getElem?_eq_none (by simpa using hl)] at h; cases h
  · rw [List.getElem?_set_ne e] at h
    exact .inr ⟨e, h⟩
theorem some_lt {α : Type} {l : List α} {i : Nat} {x : α} (h : l[i]? = some x) : i < l.length := (List.getElem?_eq_some_iff.mp h).1
end
end Ev

set_option Elab.async false
set_option linter.all false
set_option maxRecDepth 100000
/-! Ev. B: what an expression gives. -/
set_option autoImplicit false
namespace Ev
open PySem PySem.Spec PyProof.Rows L2

/-- what an expression hands on: a plain value | a name, unread | a new object of its own -/
inductive Opd where
  | val (d : D) | var (i : Nat) | tmp (d : D)
  deriving Inhabited

def ORel (K : PySem.W.Frag) (Fr : Frm) (F : Hp) (ρ : Rho) (σ : St) (H : Hp) (v : V) : Opd → Prop
  | .val d => Rep K F v d
  | .var i => σ[i]? = some (some v)
  | .tmp d => ∃ a o, v = .ref a ∧ H a = some o ∧ Own K F o d ∧ F a = none ∧ Fr a = none ∧ ∀ (i : Nat) (e : D), ρ[i]? = some (some (.own e)) → σ[i]? ≠ some (some v)
/-- .. behind freezing -/
def NRel (K : PySem.W.Frag) (F : Hp) (σ : St) (v : V) : Opd → Prop
  | .val d => Rep K F v d
  | .var i => σ[i]? = some (some v)
  | .tmp _ => False
abbrev NRels (K : PySem.W.Frag) (F : Hp) (σ : St) : List V → List Opd → Prop := Paired (NRel K F σ)

abbrev EM := Rho → Option (Opd × Rho)
abbrev VM := Rho → Option (D × Rho)
abbrev AM := Rho → Option (List Opd × Rho)
abbrev DM := Rho → Option (List D × Rho)
abbrev TM := Rho → Option (Bool × Rho)

def tE (K : PySem.W.Frag) (m : EM) : TE := fun σ H Q => ∃ Fr F ρ o ρ', Rel K Fr F ρ σ H ∧ m ρ = some (o, ρ') ∧ ∀ F' H' v, Same F F' → Rel K Fr F' ρ' σ H' → ORel K Fr F' ρ' σ H' v o → Q v H'
def tN (K : PySem.W.Frag) (m : EM) : TE := fun σ H Q => ∃ Fr F ρ o ρ', Rel K Fr F ρ σ H ∧ m ρ = some (o, ρ') ∧ ∀ F' H' v, Same F F' → Rel K Fr F' ρ' σ H' → NRel K F' σ v o → Q v H'
def tV (K : PySem.W.Frag) (m : VM) : TE := fun σ H Q => ∃ Fr F ρ d ρ', Rel K Fr F ρ σ H ∧ m ρ = some (d, ρ') ∧ ∀ F' H' v, Same F F' → Rel K Fr F' ρ' σ H' → Rep K F' v d → Q v H'
def tA (K : PySem.W.Frag) (m : AM) : TA := fun σ H Q => ∃ Fr F ρ os ρ', Rel K Fr F ρ σ H ∧ m ρ = some (os, ρ') ∧ ∀ F' H' vs, Same F F' → Rel K Fr F' ρ' σ H' → NRels K F' σ vs os → Q vs H'
def tD (K : PySem.W.Frag) (m : DM) : TA := fun σ H Q => ∃ Fr F ρ ds ρ', Rel K Fr F ρ σ H ∧ m ρ = some (ds, ρ') ∧ ∀ F' H' vs, Same F F' → Rel K Fr F' ρ' σ H' → Reps K F' vs ds → Q vs H'
def tT (K : PySem.W.Frag) (m : TM) : TT := fun σ H Q => ∃ Fr F ρ b ρ', Rel K Fr F ρ σ H ∧ m ρ = some (b, ρ') ∧ ∀ F' H', Same F F' → Rel K Fr F' ρ' σ H' → Q b H'

structure OE (X : Cx) (e : Expr) (m : EM) : Prop where
  pe : PE X e (tE X.K m)
structure NE (X : Cx) (e : Expr) (m : EM) : Prop where
  pe : PE X e (tN X.K m)
structure VE (X : Cx) (e : Expr) (m : VM) : Prop where
  pe : PE X e (tV X.K m)
/-- operands, read only -/
structure AE (X : Cx) (es : List Expr) (m : AM) : Prop where
  pa : PA X es (tA X.K m)
/-- values -/
structure DE (X : Cx) (es : List Expr) (m : DM) : Prop where
  pa : PA X es (tD X.K m)
structure TeE (X : Cx) (e : Expr) (m : TM) : Prop where
  pt : PT X e (tT X.K m)

theorem pe_imp {X : Cx} {e : Expr} {t t' : TE} (h : PE X e t) (w : ∀ σ H Q, t' σ H Q → t σ H Q) : PE X e t' := ⟨fun pins s σ H Q I q => h.run pins s σ H Q I (w σ H Q q)⟩
theorem pt_imp {X : Cx} {e : Expr} {t t' : TT} (h : PT X e t) (w : ∀ σ H Q, t' σ H Q → t σ H Q) : PT X e t' := ⟨fun pins s σ H Q I q => h.run pins s σ H Q I (w σ H Q q)⟩
theorem pw_imp {X : Cx} {e : Expr} {t t' : TT} (h : PW X e t) (w : ∀ σ H Q, t' σ H Q → t σ H Q) : PW X e t' := ⟨fun wh pins s σ H Q I q => h.run wh pins s σ H Q I (w σ H Q q)⟩
theorem pa_imp {X : Cx} {es : List Expr} {t t' : TA} (h : PA X es t) (w : ∀ σ H Q, t' σ H Q → t σ H Q) : PA X es t' := ⟨fun pos pins s σ H Q I q => h.run pos pins s σ H Q I (w σ H Q q)⟩
theorem ps_imp {X : Cx} {st : Stmt} {t t' : TS} (h : PS X st t) (w : ∀ Dn σ H, t' Dn σ H → t Dn σ H) : PS X st t' := ⟨fun pins s σ H Dn I q => h.run pins s σ H Dn I (w Dn σ H q)⟩
theorem pss_imp {X : Cx} {st : List Stmt} {t t' : TS} (h : PSs X st t) (w : ∀ Dn σ H, t' Dn σ H → t Dn σ H) : PSs X st t' := ⟨fun pins s σ H Dn I q => h.run pins s σ H Dn I (w Dn σ H q)⟩
theorem pg_imp {X : Cx} {e : Expr} {t t' : TG} (h : PG X e t) (w : ∀ v σ H Q, t' v σ H Q → t v σ H Q) : PG X e t' := ⟨fun pins s σ H v u Q I r q => h.run pins s σ H v u Q I r (w v σ H Q q)⟩
theorem pi_imp {X : Cx} {tg it : Expr} {t t' : TI} (h : PI X tg it t) (w : ∀ σ H R, t' σ H R → t σ H R) : PI X tg it t' := ⟨fun pins s σ H R I q => h.run pins s σ H R I (w σ H R q)⟩

def frz (m : EM) : EM := fun ρ => match m ρ with
  | some (.tmp d, ρ') => some (.val d, ρ')
  | r => r
/-- what is read of an operand, now -/
def look (o : Opd) (ρ : Rho) : Option D := match o with
  | .val d => some d
  | .var i => match ρ[i]? with
    | some (some sv) => some sv.d
    | _ => none
  | .tmp _ => none
def looks : List Opd → Rho → Option (List D)
  | [], _ => some []
  | o :: os, ρ => match look o ρ with
    | some d => match looks os ρ with
      | some ds => some (d :: ds)
      | none => none
    | none => none
/-- the operand as a plain value: a name's own object is frozen -/
def escO (o : Opd) (ρ : Rho) : Option (D × Rho) := match o with
  | .val d => some (d, ρ)
  | .tmp d => some (d, ρ)
  | .var i => match ρ[i]? with
    | some (some (.own d)) => some (d, ρ.set i (some (.val d)))
    | some (some (.val d)) => some (d, ρ)
    | _ => none
def esc (m : EM) : VM := fun ρ => match m ρ with
  | some (o, ρ') => escO o ρ'
  | none => none

/-- read: plain, or an object as it stands -/
def Viw (K : PySem.W.Frag) (F H : Hp) (v : V) (d : D) : Prop := Rep K F v d ∨ ∃ a o, v = .ref a ∧ H a = some o ∧ Own K F o d

section
variable {K : PySem.W.Frag} {Fr : Frm} {F F' H H' : Hp} {ρ ρ' : Rho} {σ : St} {v : V} {o : Opd} {d : D}

theorem NRel.mono (e : Same F F') (h : NRel K F σ v o) : NRel K F' σ v o := by
  cases o with
  | val d => exact Rep.mono e h
  | var i => exact h
  | tmp d => exact h
theorem NRels.mono (e : Same F F') : ∀ {vs : List V} {os : List Opd}, NRels K F σ vs os → NRels K F' σ vs os
  | _, _, .nil => .nil
  | _, _, .cons h r => .cons (NRel.mono e h) (NRels.mono e r)
theorem own_rep {a : Addr} {o : HO} (h : F a = some o) (w : Own K F o d) : Rep K F (.ref a) d := by
  cases w with
  | lst r => exact .lst h r
theorem Rel.frz (R : Rel K Fr F ρ σ H) (h : ORel K Fr F ρ σ H v (.tmp d)) : ∃ F', Same F F' ∧ Rel K Fr F' ρ σ H ∧ Rep K F' v d := by
  obtain ⟨a, o, rfl, h1, h2, h3, h4, h5⟩ := h
  obtain ⟨R', e⟩ := R.freeze h1 h3 h4 h5
  exact ⟨_, e, R', own_rep upd_same (h2.mono e)⟩
theorem NRel.look (R : Rel K Fr F ρ σ H) (n : NRel K F σ v o) (h : look o ρ = some d) : Viw K F H v d := by
  cases o with
  | val e => cases h; exact .inl n
  | tmp e => cases h
  | var i =>
    dsimp only [Ev.look] at h
    split at h
    · rename_i sv e
      cases h
      obtain ⟨v', e', s⟩ := R.slot i sv e
      rw [n] at e'; cases e'
      cases sv with
      | val d => exact .inl s
      | own d => obtain ⟨a, o, e1, h1, h2, _⟩ := s; exact .inr ⟨a, o, e1, h1, h2⟩
      | bor d => obtain ⟨a, o, e1, h1, h2⟩ := s; exact .inr ⟨a, o, e1, R.fr _ _ h1.1, h2⟩
      | lck d => obtain ⟨a, o, e1, h1, h2⟩ := s; exact .inr ⟨a, o, e1, R.fr _ _ h1.1, h2⟩
    · cases h
/-- the slot of an object becomes a plain value -/
theorem Rel.setVal (R : Rel K Fr F ρ σ H) {i : Nat} (h : σ[i]? = some (some v)) (r : Rep K F v d) : Rel K Fr F (ρ.set i (some (.val d))) σ H := by
  refine ⟨R.fr, R.f, R.dj, fun j sv e => ?_, fun j k d1 d2 e1 e2 x1 x2 => ?_, by rw [List.length_set]; exact R.len⟩
  · rcases get_set_some e with ⟨rfl, e1, _⟩ | ⟨_, e1⟩
    · cases e1; exact ⟨v, h, r⟩
    · exact R.slot j sv e1
  · rcases get_set_some e1 with ⟨_, e3, _⟩ | ⟨_, e3⟩
    · cases e3; cases x1
    · rcases get_set_some e2 with ⟨_, e4, _⟩ | ⟨_, e4⟩
      · cases e4; cases x2
      · exact R.uniq j k d1 d2 e3 e4 x1 x2
/-- a slot forgotten -/
theorem Rel.drop (R : Rel K Fr F ρ σ H) (i : Nat) : Rel K Fr F (ρ.set i none) σ H := by
  refine ⟨R.fr, R.f, R.dj, fun j sv e => ?_, fun j k d1 d2 e1 e2 x1 x2 e3 => ?_, by rw [List.length_set]; exact R.len⟩
  · rcases get_set_some e with ⟨_, e1, _⟩ | ⟨ne, e1⟩
    · cases e1
    · exact R.slot j sv e1
  · rcases get_set_some e1 with ⟨_, z, _⟩ | ⟨n1, z1⟩
    · cases z
    · rcases get_set_some e2 with ⟨_, z, _⟩ | ⟨n2, z2⟩
      · cases z
      · exact R.uniq j k d1 d2 z1 z2 x1 x2 e3
theorem Rel.escO (R : Rel K Fr F ρ σ H) (h : ORel K Fr F ρ σ H v o) (e : escO o ρ = some (d, ρ')) : ∃ F', Same F F' ∧ Rel K Fr F' ρ' σ H ∧ Rep K F' v d := by
  cases o with
  | val d' => cases e; exact ⟨F, Same.refl F, R, h⟩
  | tmp d' => cases e; exact R.frz h
  | var i =>
    dsimp only [Ev.escO] at e
    split at e
    · rename_i d' e'
      cases e
      obtain ⟨v', e1, a, o, e2, h1, h2, h3, h4⟩ := R.slot i _ e'
      have e1' : v' = v := by
        have z : σ[i]? = some (some v) := h
        rw [z] at e1; cases e1; rfl
      subst e1'
      have R0 := R.drop i
      obtain ⟨R1, e5⟩ := R0.freeze h1 h3 h4 fun j d1 e3 e4 => by
        rcases get_set_some e3 with ⟨_, e6, _⟩ | ⟨ne, e6⟩
        · cases e6
        · exact ne (R.uniq i j _ _ e' e6 rfl rfl (by rw [e1, e4, e2]))
      refine ⟨_, e5, ?_, by subst e2; exact own_rep upd_same (h2.mono e5)⟩
      have R2 := R1.setVal (i := i) e1 (by subst e2; exact own_rep upd_same (h2.mono e5))
      rw [List.set_set] at R2
      exact R2
    · rename_i d' e'
      cases e
      obtain ⟨v', e1, r⟩ := R.slot i _ e'
      have z : σ[i]? = some (some v) := h
      rw [z] at e1; cases e1
      exact ⟨F, Same.refl F, R, r⟩
    · cases e
theorem NRel.toO (h : NRel K F σ v o) : ORel K Fr F ρ σ H v o := by
  cases o with
  | val d => exact h
  | var i => exact h
  | tmp d => exact h.elim
theorem Viw.mono (e : Same F F') (h : Viw K F H v d) : Viw K F' H v d := by
  rcases h with h | ⟨a, o, e1, h1, h2⟩
  · exact .inl (h.mono e)
  · exact .inr ⟨a, o, e1, h1, h2.mono e⟩
theorem Viw.non (h : Viw K F H v .non) : v = .non := by
  rcases h with h | ⟨a, o, e1, h1, h2⟩
  · cases h; rfl
  · cases h2
theorem Viw.bl {b : Bool} (h : Viw K F H v (.bl b)) : v = .bl b := by
  rcases h with h | ⟨a, o, e1, h1, h2⟩
  · cases h; rfl
  · cases h2
theorem Viw.int {i : Int} (h : Viw K F H v (.int i)) : v = .int i := by
  rcases h with h | ⟨a, o, e1, h1, h2⟩
  · cases h; rfl
  · cases h2
theorem Viw.str {x : Str} (h : Viw K F H v (.str x)) : v = .str x := by
  rcases h with h | ⟨a, o, e1, h1, h2⟩
  · cases h; rfl
  · cases h2
theorem Viw.tup (s : Same F H) {ds : List D} (h : Viw K F H v (.tup ds)) : ∃ a vs, v = .ref a ∧ SqT K H a vs ∧ Reps K F vs ds := by
  rcases h with h | ⟨a, o, e1, h1, h2⟩
  · cases h with | tup h r => exact ⟨_, _, rfl, sameT s h, r⟩
  · cases h2
theorem Viw.lst (s : Same F H) {ds : List D} (h : Viw K F H v (.lst ds)) : ∃ a vs, v = .ref a ∧ H a = some (.lst vs) ∧ Reps K F vs ds := by
  rcases h with h | ⟨a, o, e1, h1, h2⟩
  · cases h with | lst h r => exact ⟨_, _, rfl, s _ _ h, r⟩
  · cases h2 with | lst r => exact ⟨_, _, e1, h1, r⟩
theorem Viw.rol (s : Same F H) {ds : List D} (h : Viw K F H v (.rol ds)) : ∃ a vs, v = .ref a ∧ SqL K H a vs ∧ Reps K F vs ds := by
  rcases h with h | ⟨a, o, e1, h1, h2⟩
  · cases h with | rol h r => exact ⟨_, _, rfl, sameL s h, r⟩
  · cases h2
end
/-- the items of a list or tuple -/
def seqD : D → Option (List D)
  | .tup xs => some xs
  | .lst xs => some xs
  | .rol xs => some xs
  | _ => none
theorem Viw.seq {K : PySem.W.Frag} {F H : Hp} {v : V} {d : D} {ds : List D} (s : Same F H) (h : Viw K F H v d) (e : seqD d = some ds) : ∃ a vs, v = .ref a ∧ (SqL K H a vs ∨ SqT K H a vs) ∧ Reps K F vs ds := by
  cases d <;> cases e
  · obtain ⟨a, vs, e1, q, r⟩ := h.tup s; exact ⟨a, vs, e1, .inr q, r⟩
  · obtain ⟨a, vs, e1, q, r⟩ := h.lst s; exact ⟨a, vs, e1, .inl (SqL.of q), r⟩
  · obtain ⟨a, vs, e1, q, r⟩ := h.rol s; exact ⟨a, vs, e1, .inl q, r⟩

section
variable {X : Cx} {e a b : Expr} {es : List Expr} {m ma mb : EM} {pos : Pos}
theorem OE.ne (h : OE X e m) : NE X e (frz m) := by
  refine ⟨pe_imp h.pe fun σ H Q ⟨Fr, F, ρ, o, ρ', R, em, k⟩ => ?_⟩
  unfold frz at em
  split at em
  · rename_i d ρ1 e1
    cases em
    refine ⟨Fr, F, ρ, _, _, R, e1, fun F' H' v s R' q => ?_⟩
    obtain ⟨F2, s2, R2, r2⟩ := R'.frz q
    exact k F2 H' v (s.trans s2) R2 r2
  · rename_i r hne
    cases o with
    | tmp d => exact absurd em (hne _ _)
    | val d => exact ⟨Fr, F, ρ, _, _, R, em, fun F' H' v s R' q => k F' H' v s R' q⟩
    | var i => exact ⟨Fr, F, ρ, _, _, R, em, fun F' H' v s R' q => k F' H' v s R' q⟩
theorem OE.ve (h : OE X e m) : VE X e (esc m) := by
  refine ⟨pe_imp h.pe fun σ H Q ⟨Fr, F, ρ, d, ρ', R, em, k⟩ => ?_⟩
  unfold esc at em
  split at em
  · rename_i o ρ1 e1
    refine ⟨Fr, F, ρ, _, _, R, e1, fun F' H' v s R' q => ?_⟩
    obtain ⟨F2, s2, R2, r2⟩ := R'.escO q em
    exact k F2 H' v (s.trans s2) R2 r2
  · cases em

/-! names, constants -/
def varM (i : Nat) : EM := fun ρ => match ρ[i]? with
  | some (some (.val d)) => some (.val d, ρ)
  | some (some _) => some (.var i, ρ)
  | _ => none
theorem oe_var (i : Nat) {x : Str} (hN : X.N[i]? = some x := by rfl) (hv : Vis X.env.scope x := by first | exact Or.inl rfl | exact Or.inr (Or.inl rfl) | exact Or.inr (Or.inr rfl)) (hd : (x == ("__debug__" : Str)) = false := by decide)
    (hcd : (x == ("__classdict__" : Str)) = false := by decide) : OE X (.Name x pos) (varM i) := by
  refine ⟨pe_imp (pe_var hN hv hd hcd) fun σ H Q ⟨Fr, F, ρ, o, ρ', R, em, k⟩ => ?_⟩
  unfold varM at em
  split at em
  · rename_i d e1
    cases em
    obtain ⟨v, e2, r⟩ := R.slot i _ e1
    exact ⟨v, e2, k F H v (Same.refl F) R r⟩
  · rename_i sv hne e1
    cases em
    obtain ⟨v, e2, r⟩ := R.slot i _ e1
    exact ⟨v, e2, k F H v (Same.refl F) R e2⟩
  · cases em
def constM (d : D) : EM := fun ρ => some (.val d, ρ)
theorem oe_const {v : V} {d : D} (h : PE X e (tC v)) (r : ∀ F, Rep X.K F v d) : OE X e (constM d) := by
  refine ⟨pe_imp h fun σ H Q ⟨Fr, F, ρ, o, ρ', R, em, k⟩ => ?_⟩
  cases em
  exact k F H v (Same.refl F) R (r F)
theorem oe_int {i : Int} {j} : OE X (.Constant (.int i) j pos) (constM (.int i)) := oe_const pe_int fun _ => .int i
theorem oe_bl {i : Bool} {j} : OE X (.Constant (.bool i) j pos) (constM (.bl i)) := oe_const pe_bl fun _ => .bl i
theorem oe_non {j} : OE X (.Constant .none j pos) (constM .non) := oe_const pe_non fun _ => .non
theorem oe_str {i : Str} {j} : OE X (.Constant (.str i) j pos) (constM (.str i)) := oe_const pe_str fun _ => .str i

/-! two operands -/
/-- what is wanted behind an operation that changes nothing -/
def After (K : PySem.W.Frag) (Fr : Frm) (F : Hp) (ρ : Rho) (σ : St) (o : Opd) (Q : VK) : Prop := ∀ F' H' v, Same F F' → Rel K Fr F' ρ σ H' → ORel K Fr F' ρ σ H' v o → Q v H'
def OpS (X : Cx) (r : R2) (g : D → D → Option Opd) : Prop :=
  ∀ {Fr : Frm} {F H : Hp} {ρ : Rho} {σ : St} {x y : V} {d e : D} {o : Opd} {Q : VK}, Rel X.K Fr F ρ σ H → Viw X.K F H x d → Viw X.K F H y e → g d e = some o → After X.K Fr F ρ σ o Q → r x y H Q
def binM (g : D → D → Option Opd) (ma mb : EM) : EM := fun ρ => match frz ma ρ with
  | some (oa, ρ1) => match frz mb ρ1 with
    | some (ob, ρ2) => match look oa ρ2 with
      | some d => match look ob ρ2 with
        | some e => match g d e with
          | some o => some (o, ρ2)
          | none => none
        | none => none
      | none => none
    | none => none
  | none => none
theorem binM_some {g : D → D → Option Opd} {ρ ρ' : Rho} {o : Opd} (h : binM g ma mb ρ = some (o, ρ')) : ∃ oa ρ1 ob d e, frz ma ρ = some (oa, ρ1) ∧ frz mb ρ1 = some (ob, ρ') ∧ look oa ρ' = some d ∧ look ob ρ' = some e ∧ g d e = some o := by
  unfold binM at h
  split at h
  · rename_i oa ρ1 e1
    split at h
    · rename_i ob ρ2 e2
      split at h
      · rename_i d e3
        split at h
        · rename_i e e4
          split at h
          · rename_i o' e5
            cases h
            exact ⟨_, _, _, _, _, e1, e2, e3, e4, e5⟩
          · cases h
        · cases h
      · cases h
    · cases h
  · cases h
theorem tOp_bin {r : R2} {g : D → D → Option Opd} (hs : OpS X r g) {σ : St} {H : Hp} {Q : VK} (h : tE X.K (binM g ma mb) σ H Q) : tOp r (tN X.K (frz ma)) (tN X.K (frz mb)) σ H Q := by
  obtain ⟨Fr, F, ρ, o, ρ', R, em, k⟩ := h
  obtain ⟨oa, ρ1, ob, d, e', e1, e2, e3, e4, e5⟩ := binM_some em
  refine ⟨Fr, F, ρ, oa, ρ1, R, e1, fun F1 H1 x s1 R1 q1 => ⟨Fr, F1, ρ1, ob, _, R1, e2, fun F2 H2 y s2 R2 q2 => ?_⟩⟩
  exact hs R2 ((q1.mono s2).look R2 e3) (q2.look R2 e4) e5 fun F3 H3 v s3 R3 q3 => k F3 H3 v ((s1.trans s2).trans s3) R3 q3
theorem oe_op {op : Operator} {r : R2} {g : D → D → Option Opd} (ho : OpR X (binaryOp op) r) (hs : OpS X r g) (ha : OE X a ma) (hb : OE X b mb) : OE X (.BinOp a op b pos) (binM g ma mb) :=
  ⟨pe_imp (pe_op ho ha.ne.pe hb.ne.pe) fun _ _ _ => tOp_bin hs⟩
theorem oe_cmp {op : CmpOp} {r : R2} {g : D → D → Option Opd} (ho : OpR X (compareOp op) r) (hs : OpS X r g) (ha : OE X a ma) (hb : OE X b mb) (hm : behindInMarks op b = false) : OE X (.Compare a [op] [b] pos) (binM g ma mb) :=
  ⟨pe_imp (pe_cmpR ho ha.ne.pe hb.ne.pe hm) fun _ _ _ => tOp_bin hs⟩
/-- an expression that gives a truth value, as a test -/
def boolM (m : EM) : TM := fun ρ => match m ρ with
  | some (.val (.bl b), ρ') => some (b, ρ')
  | _ => none
theorem boolM_some {ρ ρ' : Rho} {b : Bool} (h : boolM m ρ = some (b, ρ')) : m ρ = some (.val (.bl b), ρ') := by
  unfold boolM at h
  split at h
  · rename_i b' ρ1 e; cases h; exact e
  · cases h
theorem te_cmp {op : CmpOp} {r : R2} {g : D → D → Option Opd} (ho : OpR X (compareOp op) r) (hs : OpS X r g) (ha : OE X a ma) (hb : OE X b mb) (hm : behindInMarks op b = false) : TeE X (.Compare a [op] [b] pos) (boolM (binM g ma mb)) := by
  refine ⟨pt_imp (pt_cmpR ho ha.ne.pe hb.ne.pe hm) fun σ H Q ⟨Fr, F, ρ, c, ρ', R, em, k⟩ => ?_⟩
  refine tOp_bin hs ⟨Fr, F, ρ, _, ρ', R, boolM_some em, fun F' H' v s R' q => ?_⟩
  cases q
  exact ⟨c, rfl, k F' H' s R'⟩
/-- truth -/
def truD : D → Option Bool
  | .non => some false
  | .bl b => some b
  | .int i => some (i != 0)
  | .str s => if s.length ≤ sizeLine then some ((s.length : Int) != 0) else none
  | .tup xs => some (!xs.isEmpty)
  | .lst xs => some (!xs.isEmpty)
  | .rol xs => some (!xs.isEmpty)
theorem isE {K : PySem.W.Frag} {F : Hp} {vs : List V} {ds : List D} (r : Reps K F vs ds) : vs.isEmpty = ds.isEmpty := by cases r <;> rfl
theorem truV_of {K : PySem.W.Frag} {F H : Hp} {v : V} {d : D} {c : Bool} (s : Same F H) (h : Viw K F H v d) (e : truD d = some c) : TruV K v H c := by
  cases d with
  | non => cases h.non; cases e; rfl
  | bl b => cases h.bl; cases e; rfl
  | int i => cases h.int; cases e; rfl
  | str x =>
    cases h.str
    dsimp only [truD] at e
    split at e
    · rename_i hl; cases e; exact ⟨hl, rfl⟩
    · cases e
  | tup xs => cases e; obtain ⟨a, vs, rfl, q, r⟩ := h.tup s; exact .inr (.inl ⟨vs, q, by rw [isE r]⟩)
  | lst xs => cases e; obtain ⟨a, vs, rfl, q, r⟩ := h.lst s; exact .inl ⟨vs, SqL.of q, by rw [isE r]⟩
  | rol xs => cases e; obtain ⟨a, vs, rfl, q, r⟩ := h.rol s; exact .inl ⟨vs, q, by rw [isE r]⟩
def truM (m : EM) : TM := fun ρ => match frz m ρ with
  | some (o, ρ') => match look o ρ' with
    | some d => match truD d with
      | some b => some (b, ρ')
      | none => none
    | none => none
  | none => none
theorem truM_some {ρ ρ' : Rho} {c : Bool} (h : truM m ρ = some (c, ρ')) : ∃ o d, frz m ρ = some (o, ρ') ∧ look o ρ' = some d ∧ truD d = some c := by
  unfold truM at h
  split at h
  · rename_i o ρ1 e1
    split at h
    · rename_i d e2
      split at h
      · rename_i b' e3; cases h; exact ⟨_, _, e1, e2, e3⟩
      · cases h
    · cases h
  · cases h
theorem te_tru (h : OE X e m) (he : ∀ whole, isTrue e X.env whole = (do let v ← whole; standAt e.pos; holding [v] (truthy v)) := by intro _; rfl) : TeE X e (truM m) := by
  refine ⟨pt_imp (pt_truth h.ne.pe he) fun σ H Q ⟨Fr, F, ρ, c, ρ', R, em, k⟩ => ?_⟩
  obtain ⟨o, d, e1, e2, e3⟩ := truM_some em
  exact ⟨Fr, F, ρ, o, ρ', R, e1, fun F' H' v s R' q => ⟨c, truV_of R'.f (q.look R' e2) e3, k F' H' s R'⟩⟩

/-! and, or, not -/
structure TwE (X : Cx) (e : Expr) (m : TM) : Prop where
  pw : PW X e (tT X.K m)
variable {t u : TM} {rest : List Expr}
theorem TwE.te (h : TwE X e t) : TeE X e t := ⟨h.pw.pt⟩
def andM (t u : TM) : TM := fun ρ => match t ρ with
  | some (true, ρ') => u ρ'
  | r => r
def orM (t u : TM) : TM := fun ρ => match t ρ with
  | some (false, ρ') => u ρ'
  | r => r
def notM (t : TM) : TM := fun ρ => match t ρ with
  | some (b, ρ') => some (!b, ρ')
  | none => none
theorem tw_and1 (h : TeE X a t) : TwE X (.BoolOp .And [a] pos) t := ⟨pw_and1 h.pt⟩
theorem tw_or1 (h : TeE X a t) : TwE X (.BoolOp .Or [a] pos) t := ⟨pw_or1 h.pt⟩
theorem tw_and (ha : TeE X a t) (hb : TwE X (.BoolOp .And (b :: rest) pos) u) : TwE X (.BoolOp .And (a :: b :: rest) pos) (andM t u) := by
  refine ⟨pw_imp (pw_and ha.pt hb.pw) fun σ H Q ⟨Fr, F, ρ, c, ρ', R, em, k⟩ => ?_⟩
  unfold andM at em
  split at em
  · rename_i ρ1 e1
    refine ⟨Fr, F, ρ, _, _, R, e1, fun F1 H1 s1 R1 => iteT ?_⟩
    exact ⟨Fr, F1, ρ1, c, ρ', R1, em, fun F2 H2 s2 R2 => k F2 H2 (s1.trans s2) R2⟩
  · rename_i hne
    cases c with
    | true => exact absurd em (hne _)
    | false => exact ⟨Fr, F, ρ, _, _, R, em, fun F1 H1 s1 R1 => iteF (k F1 H1 s1 R1)⟩
theorem tw_or (ha : TeE X a t) (hb : TwE X (.BoolOp .Or (b :: rest) pos) u) : TwE X (.BoolOp .Or (a :: b :: rest) pos) (orM t u) := by
  refine ⟨pw_imp (pw_or ha.pt hb.pw) fun σ H Q ⟨Fr, F, ρ, c, ρ', R, em, k⟩ => ?_⟩
  unfold orM at em
  split at em
  · rename_i ρ1 e1
    refine ⟨Fr, F, ρ, _, _, R, e1, fun F1 H1 s1 R1 => iteF ?_⟩
    exact ⟨Fr, F1, ρ1, c, ρ', R1, em, fun F2 H2 s2 R2 => k F2 H2 (s1.trans s2) R2⟩
  · rename_i hne
    cases c with
    | false => exact absurd em (hne _)
    | true => exact ⟨Fr, F, ρ, _, _, R, em, fun F1 H1 s1 R1 => iteT (k F1 H1 s1 R1)⟩
theorem te_not (ha : TeE X a t) : TeE X (.UnaryOp .Not a pos) (notM t) := by
  refine ⟨pt_imp (pt_not ha.pt) fun σ H Q ⟨Fr, F, ρ, c, ρ', R, em, k⟩ => ?_⟩
  unfold notM at em
  split at em
  · rename_i b' ρ1 e1
    cases em
    exact ⟨Fr, F, ρ, _, _, R, e1, fun F1 H1 s1 R1 => k F1 H1 s1 R1⟩
  · cases em
/-- x if t else y -/
def ifM (t : TM) (ma mb : EM) : EM := fun ρ => match t ρ with
  | some (true, ρ') => ma ρ'
  | some (false, ρ') => mb ρ'
  | none => none
theorem oe_if {c : Expr} (hc : TeE X c t) (ha : OE X a ma) (hb : OE X b mb) : OE X (.IfExp c a b pos) (ifM t ma mb) := by
  refine ⟨pe_imp (pe_ifExp hc.pt ha.pe hb.pe) fun σ H Q ⟨Fr, F, ρ, o, ρ', R, em, k⟩ => ?_⟩
  unfold ifM at em
  split at em
  · rename_i ρ1 e1
    exact ⟨Fr, F, ρ, _, _, R, e1, fun F1 H1 s1 R1 => iteT ⟨Fr, F1, ρ1, o, ρ', R1, em, fun F2 H2 v s2 R2 q => k F2 H2 v (s1.trans s2) R2 q⟩⟩
  · rename_i ρ1 e1
    exact ⟨Fr, F, ρ, _, _, R, e1, fun F1 H1 s1 R1 => iteF ⟨Fr, F1, ρ1, o, ρ', R1, em, fun F2 H2 v s2 R2 q => k F2 H2 v (s1.trans s2) R2 q⟩⟩
  · cases em
/-- as values: truth values alone -/
def andV (ma mb : EM) : EM := fun ρ => match ma ρ with
  | some (.val (.bl true), ρ') => mb ρ'
  | some (.val (.bl false), ρ') => some (.val (.bl false), ρ')
  | _ => none
def orV (ma mb : EM) : EM := fun ρ => match ma ρ with
  | some (.val (.bl false), ρ') => mb ρ'
  | some (.val (.bl true), ρ') => some (.val (.bl true), ρ')
  | _ => none
def notV (ma : EM) : EM := fun ρ => match ma ρ with
  | some (.val (.bl b), ρ') => some (.val (.bl (!b)), ρ')
  | _ => none
theorem oe_one {op} (h : OE X a m) : OE X (.BoolOp op [a] pos) m := ⟨pe_one h.pe⟩
theorem oe_and (ha : OE X a ma) (hb : OE X (.BoolOp .And (b :: rest) pos) mb) : OE X (.BoolOp .And (a :: b :: rest) pos) (andV ma mb) := by
  refine ⟨pe_imp (pe_and ha.pe hb.pe) fun σ H Q ⟨Fr, F, ρ, o, ρ', R, em, k⟩ => ?_⟩
  unfold andV at em
  split at em
  · rename_i ρ1 e1
    refine ⟨Fr, F, ρ, _, _, R, e1, fun F1 H1 v s1 R1 q => ?_⟩
    cases q
    exact ⟨true, rfl, iteT ⟨Fr, F1, ρ1, o, ρ', R1, em, fun F2 H2 v s2 R2 q => k F2 H2 v (s1.trans s2) R2 q⟩⟩
  · rename_i ρ1 e1
    cases em
    refine ⟨Fr, F, ρ, _, _, R, e1, fun F1 H1 v s1 R1 q => ?_⟩
    cases q
    exact ⟨false, rfl, iteF (k F1 H1 _ s1 R1 (.bl false))⟩
  · cases em
theorem oe_or (ha : OE X a ma) (hb : OE X (.BoolOp .Or (b :: rest) pos) mb) : OE X (.BoolOp .Or (a :: b :: rest) pos) (orV ma mb) := by
  refine ⟨pe_imp (pe_or ha.pe hb.pe) fun σ H Q ⟨Fr, F, ρ, o, ρ', R, em, k⟩ => ?_⟩
  unfold orV at em
  split at em
  · rename_i ρ1 e1
    refine ⟨Fr, F, ρ, _, _, R, e1, fun F1 H1 v s1 R1 q => ?_⟩
    cases q
    exact ⟨false, rfl, iteF ⟨Fr, F1, ρ1, o, ρ', R1, em, fun F2 H2 v s2 R2 q => k F2 H2 v (s1.trans s2) R2 q⟩⟩
  · rename_i ρ1 e1
    cases em
    refine ⟨Fr, F, ρ, _, _, R, e1, fun F1 H1 v s1 R1 q => ?_⟩
    cases q
    exact ⟨true, rfl, iteT (k F1 H1 _ s1 R1 (.bl true))⟩
  · cases em
theorem oe_not (ha : OE X a ma) : OE X (.UnaryOp .Not a pos) (notV ma) := by
  refine ⟨pe_imp (pe_not ha.pe) fun σ H Q ⟨Fr, F, ρ, o, ρ', R, em, k⟩ => ?_⟩
  unfold notV at em
  split at em
  · rename_i b' ρ1 e1
    cases em
    refine ⟨Fr, F, ρ, _, _, R, e1, fun F1 H1 v s1 R1 q => ?_⟩
    cases q
    exact ⟨b', rfl, k F1 H1 _ s1 R1 (.bl _)⟩
  · cases em

/-! operands in a row -/
def nilA : AM := fun ρ => some ([], ρ)
def consA (m : EM) (r : AM) : AM := fun ρ => match frz m ρ with
  | some (o, ρ') => match r ρ' with
    | some (os, ρ2) => some (o :: os, ρ2)
    | none => none
  | none => none
theorem ae_nil : AE X [] nilA := ⟨pa_imp pa_nil fun σ H Q ⟨Fr, F, ρ, os, ρ', R, em, k⟩ => by cases em; exact k F H [] (Same.refl F) R .nil⟩
theorem ae_cons {r : AM} (h : OE X e m) (hr : AE X es r) (hs : starEach (e :: es) X.env = (false, eval e X.env) :: starEach es X.env := by rfl) : AE X (e :: es) (consA m r) := by
  refine ⟨pa_imp (pa_cons h.ne.pe hr.pa hs) fun σ H Q ⟨Fr, F, ρ, os, ρ', R, em, k⟩ => ?_⟩
  unfold consA at em
  split at em
  · rename_i o ρ1 e1
    split at em
    · rename_i os' ρ2 e2
      cases em
      exact ⟨Fr, F, ρ, _, _, R, e1, fun F1 H1 v s1 R1 q => ⟨Fr, F1, ρ1, _, _, R1, e2, fun F2 H2 vs s2 R2 q2 => k F2 H2 _ (s1.trans s2) R2 (.cons (q.mono s2) q2)⟩⟩
    · cases em
  · cases em
def nilD : DM := fun ρ => some ([], ρ)
def consD (m : EM) (r : DM) : DM := fun ρ => match esc m ρ with
  | some (d, ρ') => match r ρ' with
    | some (ds, ρ2) => some (d :: ds, ρ2)
    | none => none
  | none => none
theorem de_nil : DE X [] nilD := ⟨pa_imp pa_nil fun σ H Q ⟨Fr, F, ρ, os, ρ', R, em, k⟩ => by cases em; exact k F H [] (Same.refl F) R .nil⟩
theorem de_cons {r : DM} (h : OE X e m) (hr : DE X es r) (hs : starEach (e :: es) X.env = (false, eval e X.env) :: starEach es X.env := by rfl) : DE X (e :: es) (consD m r) := by
  refine ⟨pa_imp (pa_cons h.ve.pe hr.pa hs) fun σ H Q ⟨Fr, F, ρ, os, ρ', R, em, k⟩ => ?_⟩
  unfold consD at em
  split at em
  · rename_i o ρ1 e1
    split at em
    · rename_i os' ρ2 e2
      cases em
      exact ⟨Fr, F, ρ, _, _, R, e1, fun F1 H1 v s1 R1 q => ⟨Fr, F1, ρ1, _, _, R1, e2, fun F2 H2 vs s2 R2 q2 => k F2 H2 _ (s1.trans s2) R2 (.cons (q.mono s2) q2)⟩⟩
    · cases em
  · cases em
/-- (a, b, ..) and [a, b, ..] -/
def tupM (m : DM) : EM := fun ρ => match m ρ with
  | some (ds, ρ') => if ds.length ≤ sizeLine then some (.val (.tup ds), ρ') else none
  | none => none
def lstM (m : DM) : EM := fun ρ => match m ρ with
  | some (ds, ρ') => if ds.length ≤ sizeLine then some (.tmp (.lst ds), ρ') else none
  | none => none
/-- a new object of its own -/
theorem Rel.tmp {K : PySem.W.Frag} {Fr : Frm} {F H : Hp} {ρ : Rho} {σ : St} (R : Rel K Fr F ρ σ H) {p : Addr} {o : HO} {d : D} (h : H p = none) (w : Own K F o d) : Rel K Fr F ρ σ (upd H p o) ∧ ORel K Fr F ρ σ (upd H p o) (.ref p) (.tmp d) := by
  have hF : F p = none := R.f.free h
  have hFr : Fr p = none := R.fr.free h
  refine ⟨R.grow (Same.refl F) (same_new h) (R.f.trans (same_new h)) R.dj (fun b z1 z2 => absurd z2 z1), p, o, rfl, upd_same, w, hF, hFr, fun i e e1 e2 => ?_⟩
  obtain ⟨v, e3, a, o', e4, h1, _⟩ := R.slot i _ e1
  rw [e2] at e3
  have e5 : v = .ref p := (Option.some.inj (Option.some.inj e3)).symm
  rw [e5] at e4
  cases e4
  rw [h] at h1; cases h1
theorem oe_tup {dm : DM} {x1} (h : DE X es dm) : OE X (.Tuple es x1 pos) (tupM dm) := by
  refine ⟨pe_imp (pe_tup h.pa) fun σ H Q ⟨Fr, F, ρ, o, ρ', R, em, k⟩ => ?_⟩
  unfold tupM at em
  split at em
  · rename_i ds ρ1 e1
    split at em
    · rename_i hl
      cases em
      refine ⟨Fr, F, ρ, _, _, R, e1, fun F1 H1 vs s1 R1 q => ⟨by rw [q.length]; exact hl, fun p hp => ?_⟩⟩
      obtain ⟨R2, s2⟩ := R1.new (.tup vs) hp
      exact k _ _ _ (s1.trans s2) R2 (.tup (SqT.of upd_same) (q.mono s2))
    · cases em
  · cases em
theorem oe_lst {dm : DM} (h : DE X es dm) : OE X (.List es pos) (lstM dm) := by
  refine ⟨pe_imp (pe_lst h.pa) fun σ H Q ⟨Fr, F, ρ, o, ρ', R, em, k⟩ => ?_⟩
  unfold lstM at em
  split at em
  · rename_i ds ρ1 e1
    split at em
    · rename_i hl
      cases em
      refine ⟨Fr, F, ρ, _, _, R, e1, fun F1 H1 vs s1 R1 q => ⟨by rw [q.length]; exact hl, fun p hp => ?_⟩⟩
      obtain ⟨R2, w⟩ := R1.tmp hp (Own.lst q)
      exact k _ _ _ s1 R2 w
    · cases em
  · cases em
end
end Ev

set_option Elab.async false
set_option linter.all false
set_option maxRecDepth 100000
/-! Ev. C: operations on values. -/
set_option autoImplicit false
namespace Ev
open PySem PySem.Spec PyProof.Rows L2

section
variable {X : Cx}
/-- an operation that gives a plain value at once -/
theorem after_val {K : PySem.W.Frag} {Fr : Frm} {F H : Hp} {ρ : Rho} {σ : St} {v : V} {d : D} {Q : VK} (R : Rel K Fr F ρ σ H) (r : Rep K F v d) (k : After K Fr F ρ σ (.val d) Q) : Q v H := k F H v (Same.refl F) R r
theorem after_new {K : PySem.W.Frag} {Fr : Frm} {F H : Hp} {ρ : Rho} {σ : St} {p : Addr} {vs : List V} {ds : List D} {Q : VK} (R : Rel K Fr F ρ σ H) (hp : H p = none) (r : Reps K F vs ds) (k : After K Fr F ρ σ (.tmp (.lst ds)) Q) : Q (.ref p) (upd H p (.lst vs)) := by
  obtain ⟨R2, w⟩ := R.tmp hp (Own.lst r)
  exact k F _ _ (Same.refl F) R2 w
theorem after_tup {K : PySem.W.Frag} {Fr : Frm} {F H : Hp} {ρ : Rho} {σ : St} {p : Addr} {vs : List V} {ds : List D} {Q : VK} (R : Rel K Fr F ρ σ H) (hp : H p = none) (r : Reps K F vs ds) (k : After K Fr F ρ σ (.val (.tup ds)) Q) : Q (.ref p) (upd H p (.tup vs)) := by
  obtain ⟨R2, s2⟩ := R.new (.tup vs) hp
  exact k _ _ _ s2 R2 (.tup (SqT.of upd_same) (r.mono s2))

/-! ints -/
def intG (c : Int → Int → Bool) (f : Int → Int → Int) : D → D → Option Opd
  | .int i, .int j => if c i j then some (.val (.int (f i j))) else none
  | _, _ => none
def intB (f : Int → Int → Bool) : D → D → Option Opd
  | .int i, .int j => some (.val (.bl (f i j)))
  | _, _ => none
theorem ops_I {C : Int → Int → Prop} {c : Int → Int → Bool} {f : Int → Int → Int} (hc : ∀ i j, c i j = true → C i j) : OpS X (rI C fun i j => .int (f i j)) (intG c f) := by
  intro Fr F H ρ σ x y d e o Q R hx hy g k
  unfold intG at g
  split at g
  · rename_i i j
    split at g
    · rename_i h
      cases g
      cases hx.int
      cases hy.int
      exact ⟨i, j, rfl, rfl, hc i j h, after_val R (.int _) k⟩
    · cases g
  · cases g
theorem ops_I0 {f : Int → Int → Int} : OpS X (rI0 fun i j => .int (f i j)) (intG (fun _ _ => true) f) := by
  intro Fr F H ρ σ x y d e o Q R hx hy g k
  unfold intG at g
  split at g
  · rename_i i j
    cases g
    cases hx.int
    cases hy.int
    exact ⟨i, j, rfl, rfl, after_val R (.int _) k⟩
  · cases g
theorem ops_B0 {f : Int → Int → Bool} : OpS X (rI0 fun i j => .bl (f i j)) (intB f) := by
  intro Fr F H ρ σ x y d e o Q R hx hy g k
  unfold intB at g
  split at g
  · rename_i i j
    cases g
    cases hx.int
    cases hy.int
    exact ⟨i, j, rfl, rfl, after_val R (.bl _) k⟩
  · cases g
def yes : Int → Int → Bool := fun _ _ => true
def mulOk (i j : Int) : Bool := decide (-(2 ^ 64) < i ∧ i < 2 ^ 64) || decide (-(2 ^ 64) < j ∧ j < 2 ^ 64) || decide (i.natAbs.log2 + j.natAbs.log2 < 1000000)
@[simp] def divOk (_ j : Int) : Bool := decide (0 < j) && decide (j.natAbs.log2 < 9000)
@[simp] def modOk (_ j : Int) : Bool := decide (0 < j)
@[simp] def powOk (i j : Int) : Bool := decide (0 ≤ j) && decide (j ≤ 1000000) && decide (i.natAbs < 2 ^ 64)
@[simp] def shrOk (_ j : Int) : Bool := decide (0 ≤ j)
abbrev subG := intG yes (· - ·)
abbrev divG := intG divOk (· / ·)
abbrev modG := intG modOk (· % ·)
abbrev powG := intG powOk (fun i j => i ^ j.toNat)
abbrev shlG := intG powOk (fun i j => i * 2 ^ j.toNat)
abbrev shrG := intG shrOk (fun i j => i / 2 ^ j.toNat)
abbrev andG := intG yes Builtin.bitAnd
abbrev orG := intG yes Builtin.bitOr
abbrev xorG := intG yes Builtin.bitXor
abbrev ltG := intB (fun i j => decide (i < j))
abbrev leG := intB (fun i j => decide (i ≤ j))
abbrev gtG := intB (fun i j => decide (j < i))
abbrev geG := intB (fun i j => decide (j ≤ i))

/-- + of ints, texts, lists, tuples -/
def addG : D → D → Option Opd
  | .int i, .int j => some (.val (.int (i + j)))
  | .str s, .str t => if s.length + t.length ≤ sizeLine then some (.val (.str (s ++ t))) else none
  | .lst xs, .lst ys => if xs.length + ys.length ≤ sizeLine then some (.tmp (.lst (xs ++ ys))) else none
  | .tup xs, .tup ys => if xs.length + ys.length ≤ sizeLine then some (.val (.tup (xs ++ ys))) else none
  | _, _ => none
def rAdd (K : PySem.W.Frag) : R2 := fun x y H Q => (rI0 (fun i j => .int (i + j)) x y H Q ∨ (∃ i j, x = .str i ∧ y = .str j ∧ i.length + j.length ≤ sizeLine ∧ Q (.str (i ++ j)) H)) ∨ (rCat x y H Q ∨ rCatA K x y H Q)
theorem op_addD : OpR X (binaryOp .Add) (rAdd X.K) := (op_add.or op_add_str).or (op_cat.or op_catA)
theorem ops_add : OpS X (rAdd X.K) addG := by
  intro Fr F H ρ σ x y d e o Q R hx hy g k
  unfold addG at g
  split at g
  · rename_i i j
    cases g
    cases hx.int
    cases hy.int
    exact .inl (.inl ⟨i, j, rfl, rfl, after_val R (.int _) k⟩)
  · rename_i i j
    split at g
    · rename_i h
      cases g
      cases hx.str
      cases hy.str
      exact .inl (.inr ⟨i, j, rfl, rfl, h, after_val R (.str _) k⟩)
    · cases g
  · rename_i xs ys
    split at g
    · rename_i h
      cases g
      obtain ⟨a, vs, rfl, q1, r1⟩ := hx.lst R.f
      obtain ⟨b, ws, rfl, q2, r2⟩ := hy.lst R.f
      exact .inr (.inl ⟨a, b, vs, ws, rfl, rfl, q1, q2, by rw [r1.length, r2.length]; exact h, fun p hp => after_new R hp (r1.append r2) k⟩)
    · cases g
  · rename_i xs ys
    split at g
    · rename_i h
      cases g
      have hx0 : Rep X.K F x (.tup xs) := by
        rcases hx with z | ⟨a, o, e1, h1, h2⟩
        · exact z
        · cases h2
      have hy0 : Rep X.K F y (.tup ys) := by
        rcases hy with z | ⟨a, o, e1, h1, h2⟩
        · exact z
        · cases h2
      obtain ⟨a, vs, rfl, q1, r1⟩ := hx.tup R.f
      obtain ⟨b, ws, rfl, q2, r2⟩ := hy.tup R.f
      refine .inr (.inr ⟨a, b, vs, ws, rfl, rfl, q1, q2, by rw [r1.length, r2.length]; exact h, fun z => ?_, fun z z2 => ?_, fun z z2 p hp => after_tup R hp (r1.append r2) k⟩)
      · subst z
        cases r1
        exact after_val R hy0 k
      · subst z2
        cases r2
        rw [List.append_nil] at k
        exact after_val R hx0 k
    · cases g
  · cases g
/-- * of ints; a list so many times -/
def mulG : D → D → Option Opd
  | .int i, .int j => if mulOk i j then some (.val (.int (i * j))) else none
  | .lst xs, .int k => if -(2 ^ 63) ≤ k ∧ k < 2 ^ 63 ∧ xs.length * k.toNat ≤ sizeLine then some (.tmp (.lst (List.replicate k.toNat xs).flatten)) else none
  | _, _ => none
theorem op_mulD : OpR X (binaryOp .Mult) (fun x y H Q => (rI CMul (fun i j => .int (i * j)) x y H Q ∨ rI CMulW (fun i j => .int (i * j)) x y H Q) ∨ rRep x y H Q) := (op_mul.or op_mulW).or op_rep
theorem ops_mul : OpS X (fun x y H Q => (rI CMul (fun i j => .int (i * j)) x y H Q ∨ rI CMulW (fun i j => .int (i * j)) x y H Q) ∨ rRep x y H Q) mulG := by
  intro Fr F H ρ σ x y d e o Q R hx hy g k
  unfold mulG at g
  split at g
  · rename_i i j
    split at g
    · rename_i h
      cases g
      cases hx.int
      cases hy.int
      unfold mulOk at h
      rw [Bool.or_eq_true, Bool.or_eq_true] at h
      rcases h with (h | h) | h
      · exact .inl (.inl ⟨i, j, rfl, rfl, .inl (of_decide_eq_true h), after_val R (.int _) k⟩)
      · exact .inl (.inl ⟨i, j, rfl, rfl, .inr (of_decide_eq_true h), after_val R (.int _) k⟩)
      · exact .inl (.inr ⟨i, j, rfl, rfl, of_decide_eq_true (p := i.natAbs.log2 + j.natAbs.log2 < 1000000) h, after_val R (.int _) k⟩)
    · cases g
  · rename_i xs n
    split at g
    · rename_i h
      cases g
      cases hy.int
      obtain ⟨a, vs, rfl, q1, r1⟩ := hx.lst R.f
      exact .inr ⟨a, n, vs, rfl, rfl, q1, h.1, h.2.1, by rw [r1.length]; exact h.2.2, fun p hp => after_new R hp (r1.rep _) k⟩
    · cases g
  · cases g
variable {a b : Expr} {ma mb : EM} {pos : Pos}
theorem oe_add (ha : OE X a ma) (hb : OE X b mb) : OE X (.BinOp a .Add b pos) (binM addG ma mb) := oe_op op_addD ops_add ha hb
theorem oe_sub (ha : OE X a ma) (hb : OE X b mb) : OE X (.BinOp a .Sub b pos) (binM subG ma mb) := oe_op op_sub ops_I0 ha hb
theorem oe_mul (ha : OE X a ma) (hb : OE X b mb) : OE X (.BinOp a .Mult b pos) (binM mulG ma mb) := oe_op op_mulD ops_mul ha hb
theorem oe_div (ha : OE X a ma) (hb : OE X b mb) : OE X (.BinOp a .FloorDiv b pos) (binM divG ma mb) := oe_op op_fdivW (ops_I fun i j h => by
  unfold divOk at h
  rw [Bool.and_eq_true] at h
  exact ⟨of_decide_eq_true h.1, of_decide_eq_true h.2⟩) ha hb
theorem oe_mod (ha : OE X a ma) (hb : OE X b mb) : OE X (.BinOp a .Mod b pos) (binM modG ma mb) := oe_op op_mod (ops_I fun i j h => of_decide_eq_true h) ha hb
theorem powOk_C {i j : Int} (h : powOk i j = true) : CPow i j := by
  unfold powOk at h
  rw [Bool.and_eq_true, Bool.and_eq_true] at h
  exact ⟨of_decide_eq_true h.1.1, of_decide_eq_true h.1.2, of_decide_eq_true h.2⟩
theorem oe_pow (ha : OE X a ma) (hb : OE X b mb) : OE X (.BinOp a .Pow b pos) (binM powG ma mb) := oe_op op_pow (ops_I fun i j h => powOk_C h) ha hb
theorem oe_shl (ha : OE X a ma) (hb : OE X b mb) : OE X (.BinOp a .LShift b pos) (binM shlG ma mb) := oe_op op_shl (ops_I fun i j h => powOk_C h) ha hb
theorem oe_shr (ha : OE X a ma) (hb : OE X b mb) : OE X (.BinOp a .RShift b pos) (binM shrG ma mb) := oe_op op_shr (ops_I fun i j h => of_decide_eq_true h) ha hb
theorem oe_band (ha : OE X a ma) (hb : OE X b mb) : OE X (.BinOp a .BitAnd b pos) (binM andG ma mb) := oe_op op_and ops_I0 ha hb
theorem oe_bor (ha : OE X a ma) (hb : OE X b mb) : OE X (.BinOp a .BitOr b pos) (binM orG ma mb) := oe_op op_or ops_I0 ha hb
theorem oe_bxor (ha : OE X a ma) (hb : OE X b mb) : OE X (.BinOp a .BitXor b pos) (binM xorG ma mb) := oe_op op_xor ops_I0 ha hb
theorem oe_lt (ha : OE X a ma) (hb : OE X b mb) : OE X (.Compare a [.Lt] [b] pos) (binM ltG ma mb) := oe_cmp op_lt ops_B0 ha hb (nomark _)
theorem oe_le (ha : OE X a ma) (hb : OE X b mb) : OE X (.Compare a [.LtE] [b] pos) (binM leG ma mb) := oe_cmp op_le ops_B0 ha hb (nomark _)
theorem oe_gt (ha : OE X a ma) (hb : OE X b mb) : OE X (.Compare a [.Gt] [b] pos) (binM gtG ma mb) := oe_cmp op_gt ops_B0 ha hb (nomark _)
theorem oe_ge (ha : OE X a ma) (hb : OE X b mb) : OE X (.Compare a [.GtE] [b] pos) (binM geG ma mb) := oe_cmp op_ge ops_B0 ha hb (nomark _)
theorem te_lt (ha : OE X a ma) (hb : OE X b mb) : TeE X (.Compare a [.Lt] [b] pos) (boolM (binM ltG ma mb)) := te_cmp op_lt ops_B0 ha hb (nomark _)
theorem te_le (ha : OE X a ma) (hb : OE X b mb) : TeE X (.Compare a [.LtE] [b] pos) (boolM (binM leG ma mb)) := te_cmp op_le ops_B0 ha hb (nomark _)
theorem te_gt (ha : OE X a ma) (hb : OE X b mb) : TeE X (.Compare a [.Gt] [b] pos) (boolM (binM gtG ma mb)) := te_cmp op_gt ops_B0 ha hb (nomark _)
theorem te_ge (ha : OE X a ma) (hb : OE X b mb) : TeE X (.Compare a [.GtE] [b] pos) (boolM (binM geG ma mb)) := te_cmp op_ge ops_B0 ha hb (nomark _)
/-- - x -/
def negM (m : EM) : EM := fun ρ => match m ρ with
  | some (.val (.int i), ρ') => some (.val (.int (-i)), ρ')
  | _ => none
theorem oe_neg (ha : OE X a ma) : OE X (.UnaryOp .USub a pos) (negM ma) := by
  refine ⟨pe_imp (pe_un un_neg ha.pe) fun σ H Q ⟨Fr, F, ρ, o, ρ', R, em, k⟩ => ?_⟩
  unfold negM at em
  split at em
  · rename_i i ρ1 e1
    cases em
    refine ⟨Fr, F, ρ, _, _, R, e1, fun F1 H1 v s1 R1 q => ?_⟩
    cases q
    exact ⟨i, rfl, k F1 H1 _ s1 R1 (.int _)⟩
  · cases em

/-! ==, !=: data of any depth -/
mutual
def toPy : D → Option PyData
  | .non => some .none
  | .bl b => some (.bool b)
  | .int i => some (.int i)
  | .str s => some (.str s)
  | .tup xs => match toPys xs with
    | some ys => some (.tuple ys)
    | none => none
  | .lst xs => match toPys xs with
    | some ys => some (.list ys)
    | none => none
  | .rol xs => match toPys xs with
    | some ys => some (.list ys)
    | none => none
def toPys : List D → Option (List PyData)
  | [] => some []
  | x :: xs => match toPy x with
    | some y => match toPys xs with
      | some ys => some (y :: ys)
      | none => none
    | none => none
end
mutual
theorem rep_dp {K : PySem.W.Frag} {F H : Hp} (s : Same F H) : ∀ {v : V} {d : D} {p : PyData}, Rep K F v d → toPy d = some p → Dp K H v p
  | _, _, _, .non, e => by cases e; exact .non
  | _, _, _, .bl b, e => by cases e; exact .bl b
  | _, _, _, .int i, e => by cases e; exact .int i
  | _, _, _, .str x, e => by cases e; exact .str x
  | _, _, _, .tup h r, e => by
    rw [toPy] at e
    split at e
    · rename_i ys e1; cases e; exact .tup (sameT s h) (reps_dp s r e1)
    · cases e
  | _, _, _, .lst h r, e => by
    rw [toPy] at e
    split at e
    · rename_i ys e1; cases e; exact .lst (SqL.of (s _ _ h)) (reps_dp s r e1)
    · cases e
  | _, _, _, .rol h r, e => by
    rw [toPy] at e
    split at e
    · rename_i ys e1; cases e; exact .lst (sameL s h) (reps_dp s r e1)
    · cases e
theorem reps_dp {K : PySem.W.Frag} {F H : Hp} (s : Same F H) : ∀ {vs : List V} {ds : List D} {ps : List PyData}, Reps K F vs ds → toPys ds = some ps → DpAll K H vs ps
  | _, _, _, .nil, e => by cases e; exact .nil
  | _, _, _, .cons h r, e => by
    rw [toPys] at e
    split at e
    · rename_i y e1
      split at e
      · rename_i ys e2; cases e; exact .cons (rep_dp s h e1) (reps_dp s r e2)
      · cases e
    · cases e
end
theorem Viw.dp {K : PySem.W.Frag} {F H : Hp} {v : V} {d : D} {p : PyData} (s : Same F H) (h : Viw K F H v d) (e : toPy d = some p) : Dp K H v p := by
  rcases h with h | ⟨a, o, e1, h1, h2⟩
  · exact rep_dp s h e
  · cases h2 with
    | lst r =>
      rw [toPy] at e
      split at e
      · rename_i ys e2; cases e; subst e1; exact .lst (SqL.of h1) (reps_dp s r e2)
      · cases e
def eqD (d e : D) : Option Bool := match toPy d with
  | some p => match toPy e with
    | some q => if SeqAt.shaped p = true ∧ SeqAt.shaped q = true then some (PyData.eqv p q) else none
    | none => none
  | none => none
theorem eqD_some {d e : D} {c : Bool} (h : eqD d e = some c) : ∃ p q, toPy d = some p ∧ toPy e = some q ∧ SeqAt.shaped p = true ∧ SeqAt.shaped q = true ∧ PyData.eqv p q = c := by
  unfold eqD at h
  split at h
  · rename_i p e1
    split at h
    · rename_i q e2
      split at h
      · rename_i z; cases h; exact ⟨p, q, e1, e2, z.1, z.2, rfl⟩
      · cases h
    · cases h
  · cases h
def eqG (d e : D) : Option Opd := match eqD d e with
  | some c => some (.val (.bl c))
  | none => none
def neG (d e : D) : Option Opd := match eqD d e with
  | some c => some (.val (.bl (!c)))
  | none => none
theorem ops_eq : OpS X (rEqD X.K) eqG := by
  intro Fr F H ρ σ x y d e o Q R hx hy g k
  unfold eqG at g
  split at g
  · rename_i c e1
    cases g
    obtain ⟨p, q, e2, e3, z1, z2, rfl⟩ := eqD_some e1
    exact ⟨p, q, hx.dp R.f e2, hy.dp R.f e3, z1, z2, after_val R (.bl _) k⟩
  · cases g
theorem ops_ne : OpS X (rNeD X.K) neG := by
  intro Fr F H ρ σ x y d e o Q R hx hy g k
  unfold neG at g
  split at g
  · rename_i c e1
    cases g
    obtain ⟨p, q, e2, e3, z1, z2, rfl⟩ := eqD_some e1
    exact ⟨p, q, hx.dp R.f e2, hy.dp R.f e3, z1, z2, after_val R (.bl _) k⟩
  · cases g
theorem oe_eq (hu : X.A.units + 64 < cLine) (ha : OE X a ma) (hb : OE X b mb) : OE X (.Compare a [.Eq] [b] pos) (binM eqG ma mb) := oe_cmp (op_eqD hu) ops_eq ha hb (nomark _)
theorem oe_ne (hu : X.A.units + 64 < cLine) (ha : OE X a ma) (hb : OE X b mb) : OE X (.Compare a [.NotEq] [b] pos) (binM neG ma mb) := oe_cmp (op_neD hu) ops_ne ha hb (nomark _)
theorem te_eq (hu : X.A.units + 64 < cLine) (ha : OE X a ma) (hb : OE X b mb) : TeE X (.Compare a [.Eq] [b] pos) (boolM (binM eqG ma mb)) := te_cmp (op_eqD hu) ops_eq ha hb (nomark _)
theorem te_ne (hu : X.A.units + 64 < cLine) (ha : OE X a ma) (hb : OE X b mb) : TeE X (.Compare a [.NotEq] [b] pos) (boolM (binM neG ma mb)) := te_cmp (op_neD hu) ops_ne ha hb (nomark _)
/-- is None -/
def isNonD : D → Bool
  | .non => true
  | _ => false
def isG (d e : D) : Option Opd := match e with
  | .non => some (.val (.bl (isNonD d)))
  | _ => none
def isnG (d e : D) : Option Opd := match e with
  | .non => some (.val (.bl (!isNonD d)))
  | _ => none
theorem viw_isN {K : PySem.W.Frag} {F H : Hp} {v : V} {d : D} (h : Viw K F H v d) : decide (v = .non) = isNonD d := by
  rcases h with h | ⟨a, o, e1, h1, h2⟩
  · cases h <;> simp [isNonD]
  · cases h2; subst e1; simp [isNonD]
theorem ops_is : OpS X (fun x y H Q => y = .non ∧ Q (.bl (decide (x = .non))) H) isG := by
  intro Fr F H ρ σ x y d e o Q R hx hy g k
  unfold isG at g
  split at g
  · cases g
    refine ⟨hy.non, ?_⟩
    rw [viw_isN hx]
    exact after_val R (.bl _) k
  · cases g
theorem ops_isn : OpS X (fun x y H Q => y = .non ∧ Q (.bl (!decide (x = .non))) H) isnG := by
  intro Fr F H ρ σ x y d e o Q R hx hy g k
  unfold isnG at g
  split at g
  · cases g
    refine ⟨hy.non, ?_⟩
    rw [viw_isN hx]
    exact after_val R (.bl _) k
  · cases g
theorem oe_is (ha : OE X a ma) (hb : OE X b mb) : OE X (.Compare a [.Is] [b] pos) (binM isG ma mb) := oe_cmp op_isN ops_is ha hb (nomark _)
theorem oe_isn (ha : OE X a ma) (hb : OE X b mb) : OE X (.Compare a [.IsNot] [b] pos) (binM isnG ma mb) := oe_cmp op_notN ops_isn ha hb (nomark _)
theorem te_is (ha : OE X a ma) (hb : OE X b mb) : TeE X (.Compare a [.Is] [b] pos) (boolM (binM isG ma mb)) := te_cmp op_isN ops_is ha hb (nomark _)
theorem te_isn (ha : OE X a ma) (hb : OE X b mb) : TeE X (.Compare a [.IsNot] [b] pos) (boolM (binM isnG ma mb)) := te_cmp op_notN ops_isn ha hb (nomark _)

/-! xs[i] -/
def atD : D → D → Option Opd
  | .tup xs, .int i => match atI xs i with
    | some d => some (.val d)
    | none => none
  | .lst xs, .int i => match atI xs i with
    | some d => some (.val d)
    | none => none
  | .rol xs, .int i => match atI xs i with
    | some d => some (.val d)
    | none => none
  | .str z, .int i => if z.length ≤ sizeLine then match atI z.cps.toList i with
    | some c => some (.val (.str ⟨#[c]⟩))
    | none => none else none
  | _, _ => none
theorem Reps.at {K : PySem.W.Frag} {F : Hp} {vs : List V} {ds : List D} {i : Int} {d : D} (r : Reps K F vs ds) (h : atI ds i = some d) : ∃ v, atI vs i = some v ∧ Rep K F v d := by
  unfold atI at h ⊢
  rw [r.length]
  cases e : ixN ds.length i with
  | none => rw [e] at h; cases h
  | some j => rw [e] at h; exact r.get h
theorem ops_at : OpS X (rIx X.K) atD := by
  intro Fr F H ρ σ x y d e o Q R hx hy g k
  unfold atD at g
  split at g
  · rename_i xs i
    split at g
    · rename_i d e1
      cases g
      cases hy.int
      obtain ⟨a, vs, rfl, q, r⟩ := hx.tup R.f
      obtain ⟨v, e2, r2⟩ := r.at e1
      exact .inr (.inl ⟨a, vs, i, v, rfl, rfl, q, e2, after_val R r2 k⟩)
    · cases g
  · rename_i xs i
    split at g
    · rename_i d e1
      cases g
      cases hy.int
      obtain ⟨a, vs, rfl, q, r⟩ := hx.lst R.f
      obtain ⟨v, e2, r2⟩ := r.at e1
      exact .inl ⟨a, vs, i, v, rfl, rfl, SqL.of q, e2, after_val R r2 k⟩
    · cases g
  · rename_i xs i
    split at g
    · rename_i d e1
      cases g
      cases hy.int
      obtain ⟨a, vs, rfl, q, r⟩ := hx.rol R.f
      obtain ⟨v, e2, r2⟩ := r.at e1
      exact .inl ⟨a, vs, i, v, rfl, rfl, q, e2, after_val R r2 k⟩
    · cases g
  · rename_i z i
    split at g
    · rename_i hz
      split at g
      · rename_i c e1
        cases g
        cases hx.str
        cases hy.int
        exact .inr (.inr ⟨z, i, c, rfl, rfl, hz, e1, after_val R (.str _) k⟩)
      · cases g
    · cases g
  · cases g
theorem oe_at (ha : OE X a ma) (hb : OE X b mb) (hs : PlainIx b := by exact fun _ _ => rfl) : OE X (.Subscript a b pos) (binM atD ma mb) :=
  ⟨pe_imp (pe_ix ix_seq ha.ne.pe hb.ne.pe hs) fun _ _ _ => tOp_bin ops_at⟩

/-! slices -/
abbrev PM := Rho → Option (Option Int × Rho)
def tP (K : PySem.W.Frag) (m : PM) : TO := fun σ H Q => ∃ Fr F ρ i ρ', Rel K Fr F ρ σ H ∧ m ρ = some (i, ρ') ∧ ∀ F' H', Same F F' → Rel K Fr F' ρ' σ H' → Q i H'
structure PaE (X : Cx) (e : Option Expr) (m : PM) : Prop where
  po : PO X e (tP X.K m)
theorem po_imp {e : Option Expr} {t t' : TO} (h : PO X e t) (w : ∀ σ H Q, t' σ H Q → t σ H Q) : PO X e t' := ⟨fun pins s σ H Q I q => h.run pins s σ H Q I (w σ H Q q)⟩
def noP : PM := fun ρ => some (none, ρ)
def someP (m : EM) : PM := fun ρ => match m ρ with
  | some (.val (.int i), ρ') => some (some i, ρ')
  | _ => none
theorem pa_no : PaE X none noP := ⟨po_imp po_none fun σ H Q ⟨Fr, F, ρ, i, ρ', R, em, k⟩ => by cases em; exact k F H (Same.refl F) R⟩
theorem pa_some (h : OE X a ma) : PaE X (some a) (someP ma) := by
  refine ⟨po_imp (po_some h.pe) fun σ H Q ⟨Fr, F, ρ, i, ρ', R, em, k⟩ => ?_⟩
  unfold someP at em
  split at em
  · rename_i j ρ1 e1
    cases em
    refine ⟨Fr, F, ρ, _, _, R, e1, fun F1 H1 v s1 R1 q => ?_⟩
    cases q
    exact ⟨j, rfl, k F1 H1 s1 R1⟩
  · cases em
def cutL {α : Type} (xs : List α) (lo hi : Option Int) : List α := (xs.drop (HT.sIx xs.length 0 lo)).take (HT.sIx xs.length xs.length hi - HT.sIx xs.length 0 lo)
theorem Reps.cut {K : PySem.W.Frag} {F : Hp} {vs : List V} {ds : List D} (r : Reps K F vs ds) (lo hi : Option Int) : Reps K F (cutV vs lo hi) (cutL ds lo hi) := by
  unfold cutV cutL
  rw [r.length]
  exact (r.drop _).take _
def cutD (d : D) (lo hi : Option Int) : Option Opd := match d with
  | .tup xs => some (.val (.tup (cutL xs lo hi)))
  | .lst xs => some (.tmp (.lst (cutL xs lo hi)))
  | .rol xs => some (.tmp (.lst (cutL xs lo hi)))
  | .str z => if z.length ≤ sizeLine then some (.val (.str (cutS z lo hi))) else none
  | _ => none
def cutM (m : EM) (lo hi : PM) : EM := fun ρ => match frz m ρ with
  | some (o, ρ1) => match lo ρ1 with
    | some (i, ρ2) => match hi ρ2 with
      | some (j, ρ3) => match look o ρ3 with
        | some d => match cutD d i j with
          | some r => some (r, ρ3)
          | none => none
        | none => none
      | none => none
    | none => none
  | none => none
def rCut (K : PySem.W.Frag) : V → Option Int → Option Int → Hp → VK → Prop := fun x lo hi H Q => (rSlA K x lo hi H Q ∨ rSlL K x lo hi H Q) ∨ rSlS x lo hi H Q
theorem oe_cut {el eh : Option Expr} {lo hi : PM} {p2 : Pos} (h : OE X a ma) (hl : PaE X el lo) (hh : PaE X eh hi) : OE X (.Subscript a (.Slice el eh none p2) pos) (cutM ma lo hi) := by
  refine ⟨pe_imp (pe_slice (SlR.or (SlR.or sl_tupA sl_list) sl_str) h.ne.pe hl.po hh.po) fun σ H Q ⟨Fr, F, ρ, o, ρ', R, em, k⟩ => ?_⟩
  unfold cutM at em
  split at em
  · rename_i o1 ρ1 e1
    split at em
    · rename_i i ρ2 e2
      split at em
      · rename_i j ρ3 e3
        split at em
        · rename_i d e4
          split at em
          · rename_i r e5
            cases em
            refine ⟨Fr, F, ρ, _, _, R, e1, fun F1 H1 v s1 R1 q1 => ⟨Fr, F1, ρ1, _, _, R1, e2, fun F2 H2 s2 R2 => ⟨Fr, F2, ρ2, _, _, R2, e3, fun F3 H3 s3 R3 => ?_⟩⟩⟩
            have hv := (q1.mono (s2.trans s3)).look R3 e4
            have k' : After X.K Fr F3 ρ' σ o Q := fun F' H' v s R q => k F' H' v (((s1.trans s2).trans s3).trans s) R q
            unfold cutD at e5
            split at e5
            · rename_i xs
              cases e5
              obtain ⟨a', vs, rfl, q, r⟩ := hv.tup R3.f
              have hx0 : Rep X.K F3 (.ref a') (.tup xs) := by
                rcases hv with z | ⟨a, o, e1, h1, h2⟩
                · exact z
                · cases h2
              refine .inl (.inl ⟨a', vs, rfl, q, fun z => ?_, fun z p hp => after_tup R3 hp (r.cut i j) k'⟩)
              have e6 : cutL xs i j = xs := by
                unfold cutL
                rw [← r.length, z.1, z.2, List.drop_zero, Nat.sub_zero, r.length]
                exact List.take_length
              rw [e6] at k'
              exact after_val R3 hx0 k'
            · rename_i xs
              cases e5
              obtain ⟨a', vs, rfl, q, r⟩ := hv.lst R3.f
              exact .inl (.inr ⟨a', vs, rfl, SqL.of q, fun p hp => after_new R3 hp (r.cut i j) k'⟩)
            · rename_i xs
              cases e5
              obtain ⟨a', vs, rfl, q, r⟩ := hv.rol R3.f
              exact .inl (.inr ⟨a', vs, rfl, q, fun p hp => after_new R3 hp (r.cut i j) k'⟩)
            · rename_i z
              split at e5
              · rename_i hz
                cases e5
                cases hv.str
                exact .inr ⟨z, rfl, hz, after_val R3 (.str _) k'⟩
              · cases e5
            · cases e5
          · cases em
        · cases em
      · cases em
    · cases em
  · cases em
end
end Ev

set_option Elab.async false
set_option linter.all false
set_option maxRecDepth 100000
/-! Ev. D: statements, loops, comprehensions. -/
set_option autoImplicit false
namespace Ev
open PySem PySem.Spec PyProof.Rows L2

section
variable {K : PySem.W.Frag} {Fr : Frm} {F F' H H' : Hp} {ρ ρ' : Rho} {σ σ' : St} {v : V} {d : D}
theorem get_set_of {α : Type} {l : List α} {i j : Nat} {x : α} : (l.set i x)[j]? = if i = j then (if j < l.length then some x else none) else l[j]? := by
  by_cases e : i = j
  · subst e
    rw [if_pos rfl]
    by_cases hl : i < l.length
    · rw [if_pos hl, List.getElem?_set_self hl]
    · rw [if_neg hl, List.getElem?_eq_none (by simpa using hl)]
  · rw [if_neg e, List.getElem?_set_ne e]
theorem Rel.assign (R : Rel K Fr F ρ σ H) (i : Nat) (r : Rep K F v d) : Rel K Fr F (ρ.set i (some (.val d))) (σ.set i (some v)) H := by
  refine ⟨R.fr, R.f, R.dj, fun j sv e => ?_, fun j k d1 d2 e1 e2 x1 x2 e3 => ?_, by rw [List.length_set, List.length_set]; exact R.len⟩
  · rcases get_set_some e with ⟨rfl, e1, hl⟩ | ⟨ne, e1⟩
    · cases e1; exact ⟨v, List.getElem?_set_self (Nat.lt_of_lt_of_le hl R.len), r⟩
    · rw [List.getElem?_set_ne ne]; exact R.slot j sv e1
  · rcases get_set_some e1 with ⟨_, z, _⟩ | ⟨n1, z1⟩
    · cases z; cases x1
    · rcases get_set_some e2 with ⟨_, z, _⟩ | ⟨n2, z2⟩
      · cases z; cases x2
      · rw [List.getElem?_set_ne n1, List.getElem?_set_ne n2] at e3
        exact R.uniq j k d1 d2 z1 z2 x1 x2 e3
theorem Rel.obAddr (R : Rel K Fr F ρ σ H) {i : Nat} {t : SV} (h : ρ[i]? = some (some t)) (x : t.ob = true) : ∃ a o, σ[i]? = some (some (.ref a)) ∧ H a = some o ∧ (t.ex = false ∨ (∃ d, t = .lck d) → Fr a = some o) := by
  obtain ⟨v, e, s⟩ := R.slot i t h
  cases t with
  | val d => cases x
  | own d => obtain ⟨a, o, rfl, h1, _⟩ := s; exact ⟨a, o, e, h1, fun z => by rcases z with z | ⟨_, z⟩ <;> cases z⟩
  | bor d => obtain ⟨a, o, rfl, h1, _⟩ := s; exact ⟨a, o, e, R.fr _ _ h1.1, fun _ => h1.1⟩
  | lck d => obtain ⟨a, o, rfl, h1, _⟩ := s; exact ⟨a, o, e, R.fr _ _ h1.1, fun _ => h1.1⟩
/-- a new object stands apart from all that names hold -/
theorem ORel.apart (R : Rel K Fr F ρ σ H) (r : ORel K Fr F ρ σ H v (.tmp d)) {k : Nat} {t : SV} (h : ρ[k]? = some (some t)) (x : t.ob = true) : σ[k]? ≠ some (some v) := by
  obtain ⟨a, o, ev, h1, h2, h3, h4, h5⟩ := r
  intro z
  cases t with
  | val d => cases x
  | own d => exact h5 k d h z
  | bor d =>
    obtain ⟨v', e, b, o2, e2, g1, _⟩ := R.slot k _ h
    rw [z] at e
    have e3 : v' = v := (Option.some.inj (Option.some.inj e)).symm
    rw [e3, ev] at e2; cases e2
    rw [h4] at g1; cases g1.1
  | lck d =>
    obtain ⟨v', e, b, o2, e2, g1, _⟩ := R.slot k _ h
    rw [z] at e
    have e3 : v' = v := (Option.some.inj (Option.some.inj e)).symm
    rw [e3, ev] at e2; cases e2
    rw [h4] at g1; cases g1.1
theorem Rel.assignOwn (R : Rel K Fr F ρ σ H) (i : Nat) (r : ORel K Fr F ρ σ H v (.tmp d)) : Rel K Fr F (ρ.set i (some (.own d))) (σ.set i (some v)) H := by
  have ap := fun {k : Nat} {t : SV} => ORel.apart R r (k := k) (t := t)
  obtain ⟨a, o, ev, h1, h2, h3, h4, h5⟩ := r
  refine ⟨R.fr, R.f, R.dj, fun j sv e => ?_, fun j k d1 d2 e1 e2 x1 x2 e3 => ?_, by rw [List.length_set, List.length_set]; exact R.len⟩
  · rcases get_set_some e with ⟨rfl, e1, hl⟩ | ⟨ne, e1⟩
    · cases e1; exact ⟨v, List.getElem?_set_self (Nat.lt_of_lt_of_le hl R.len), a, o, ev, h1, h2, h3, h4⟩
    · rw [List.getElem?_set_ne ne]; exact R.slot j sv e1
  · rcases get_set_some e1 with ⟨rfl, z, hl⟩ | ⟨n1, z1⟩
    · rcases get_set_some e2 with ⟨rfl, z, _⟩ | ⟨n2, z2⟩
      · rfl
      · rw [List.getElem?_set_self (Nat.lt_of_lt_of_le hl R.len), List.getElem?_set_ne n2] at e3
        exact absurd e3.symm (ap z2 x2)
    · rcases get_set_some e2 with ⟨rfl, z, hl⟩ | ⟨n2, z2⟩
      · rw [List.getElem?_set_self (Nat.lt_of_lt_of_le hl R.len), List.getElem?_set_ne n1] at e3
        exact absurd e3 (ap z1 (by cases d1 <;> first | rfl | cases x1))
      · rw [List.getElem?_set_ne n1, List.getElem?_set_ne n2] at e3
        exact R.uniq j k d1 d2 z1 z2 x1 x2 e3
/-- the object of slot i is changed -/
theorem Rel.mut (R : Rel K Fr F ρ σ H) {i : Nat} {a : Addr} {e : D} {o : HO} (h : ρ[i]? = some (some (.own e))) (hs : σ[i]? = some (some (.ref a))) (w : Own K F o d) : Rel K Fr F (ρ.set i (some (.own d))) σ (upd H a o) := by
  obtain ⟨v, e1, a', o', e2, h1, h2, h3, h4⟩ := R.slot i _ h
  rw [hs] at e1
  have e3 : v = .ref a := (Option.some.inj (Option.some.inj e1)).symm
  rw [e3] at e2
  cases e2
  refine ⟨fun b u z => ?_, fun b u z => ?_, R.dj, fun j sv e => ?_, fun j k d1 d2 z1 z2 x1 x2 z3 => ?_, by rw [List.length_set]; exact R.len⟩
  · rw [upd_ne (ne_of_none z h4)]; exact R.fr b u z
  · rw [upd_ne (ne_of_none z h3)]; exact R.f b u z
  · rcases get_set_some e with ⟨rfl, e4, hl⟩ | ⟨ne, e4⟩
    · cases e4; exact ⟨_, hs, a, o, rfl, upd_same, w, h3, h4⟩
    · obtain ⟨v', e5, s⟩ := R.slot j sv e4
      refine ⟨v', e5, ?_⟩
      cases sv with
      | val d => exact s
      | bor d => exact s
      | lck d => exact s
      | own d' =>
        obtain ⟨b, o2, e6, g1, g2, g3, g4⟩ := s
        refine ⟨b, o2, e6, ?_, g2, g3, g4⟩
        rw [upd_ne (fun z => ne (R.uniq i j _ _ h e4 rfl rfl (by rw [hs, e5, e6, z])))]
        exact g1
  · have q : ∀ (m : Nat) (t : SV), (ρ.set i (some (.own d)))[m]? = some (some t) → ∃ t', ρ[m]? = some (some t') ∧ t'.ex = t.ex ∧ t'.ob = t.ob := fun m t zm => by
      rcases get_set_some zm with ⟨rfl, z, _⟩ | ⟨_, z⟩
      · cases z; exact ⟨_, h, rfl, rfl⟩
      · exact ⟨_, z, rfl, rfl⟩
    obtain ⟨t1, q1, y1, _⟩ := q j d1 z1
    obtain ⟨t2, q2, _, y2⟩ := q k d2 z2
    exact R.uniq j k _ _ q1 q2 (y1.trans x1) (y2.trans x2) z3
/-- lock: the object of slot i may only be read -/
theorem Rel.lock (R : Rel K Fr F ρ σ H) {i : Nat} (h : ρ[i]? = some (some (.own d))) : ∃ a o, σ[i]? = some (some (.ref a)) ∧ Fr a = none ∧ Own K F o d ∧ H a = some o ∧ Rel K (Fr.upd a o) F (ρ.set i (some (.lck d))) σ H := by
  obtain ⟨v, e1, a, o, rfl, h1, h2, h3, h4⟩ := R.slot i _ h
  refine ⟨a, o, e1, h4, h2, h1, fun b u z => ?_, R.f, fun b u z => ?_, fun j sv e => ?_, fun j k d1 d2 z1 z2 x1 x2 z3 => ?_, by rw [List.length_set]; exact R.len⟩
  · by_cases q : b = a
    · subst q; have z : L2.upd Fr.h b o b = some u := z; rw [upd_same] at z; rw [h1]; exact z
    · have z : L2.upd Fr.h a o b = some u := z; rw [upd_ne q] at z; exact R.fr b u z
  · by_cases q : b = a
    · subst q; exact h3
    · have z : L2.upd Fr.h a o b = some u := z; rw [upd_ne q] at z; exact R.dj b u z
  · rcases get_set_some e with ⟨rfl, e4, hl⟩ | ⟨ne, e4⟩
    · cases e4; exact ⟨_, e1, a, o, rfl, ⟨upd_same, fun z => Fr.hs a z h4⟩, h2⟩
    · obtain ⟨v', e5, s⟩ := R.slot j sv e4
      refine ⟨v', e5, ?_⟩
      cases sv with
      | val d => exact s
      | bor d' =>
        obtain ⟨b, o2, e6, g1, g2⟩ := s
        exact ⟨b, o2, e6, ⟨(upd_ne (ne_of_none g1.1 h4)).trans g1.1, g1.2⟩, g2⟩
      | lck d' =>
        obtain ⟨b, o2, e6, g1, g2⟩ := s
        exact ⟨b, o2, e6, ⟨(upd_ne (ne_of_none g1.1 h4)).trans g1.1, g1.2⟩, g2⟩
      | own d' =>
        obtain ⟨b, o2, e6, g1, g2, g3, g4⟩ := s
        refine ⟨b, o2, e6, g1, g2, g3, ?_⟩
        exact (upd_ne (fun z => ne (R.uniq i j _ _ h e4 rfl rfl (by rw [e1, e5, e6, z])))).trans g4
  · have q : ∀ (m : Nat) (t : SV), (ρ.set i (some (.lck d)))[m]? = some (some t) → ∃ t', ρ[m]? = some (some t') ∧ t'.ex = t.ex ∧ t'.ob = t.ob := fun m t zm => by
      rcases get_set_some zm with ⟨rfl, z, _⟩ | ⟨_, z⟩
      · cases z; exact ⟨_, h, rfl, rfl⟩
      · exact ⟨_, z, rfl, rfl⟩
    obtain ⟨t1, q1, y1, _⟩ := q j d1 z1
    obtain ⟨t2, q2, _, y2⟩ := q k d2 z2
    exact R.uniq j k _ _ q1 q2 (y1.trans x1) (y2.trans x2) z3
theorem Rel.unlock {a : Addr} {o : HO} {e : D} (R : Rel K (Fr.upd a o) F ρ σ H) {i : Nat} (h : ρ[i]? = some (some (.lck e))) (hs : σ[i]? = some (some (.ref a))) (hF : Fr a = none) (w : Own K F o d) : Rel K Fr F (ρ.set i (some (.own d))) σ H := by
  have ap : ∀ {j : Nat} {t : SV} {b : Addr}, i ≠ j → ρ[j]? = some (some t) → t.ob = true → σ[j]? = some (some (.ref b)) → b ≠ a := fun ne e5 x e6 z => ne (R.uniq _ _ _ _ h e5 rfl x (by rw [hs, e6, z]))
  refine ⟨fun b u z => ?_, R.f, fun b u z => ?_, fun j sv e4 => ?_, fun j k d1 d2 z1 z2 x1 x2 z3 => ?_, by rw [List.length_set]; exact R.len⟩
  · exact R.fr b u ((upd_ne (ne_of_none z hF)).trans z)
  · exact R.dj b u ((upd_ne (ne_of_none z hF)).trans z)
  · rcases get_set_some e4 with ⟨rfl, e5, hl⟩ | ⟨ne, e5⟩
    · cases e5; exact ⟨_, hs, a, o, rfl, R.fr a o upd_same, w, R.dj a o upd_same, hF⟩
    · obtain ⟨v', e6, s⟩ := R.slot j sv e5
      refine ⟨v', e6, ?_⟩
      cases sv with
      | val d => exact s
      | own d' =>
        obtain ⟨b, o2, e7, g1, g2, g3, g4⟩ := s
        refine ⟨b, o2, e7, g1, g2, g3, ?_⟩
        exact (upd_ne (ap ne e5 rfl (by rw [e6, e7]))).symm.trans g4
      | bor d' =>
        obtain ⟨b, o2, e7, g1, g2⟩ := s
        exact ⟨b, o2, e7, ⟨(upd_ne (ap ne e5 rfl (by rw [e6, e7]))).symm.trans g1.1, g1.2⟩, g2⟩
      | lck d' =>
        obtain ⟨b, o2, e7, g1, g2⟩ := s
        exact ⟨b, o2, e7, ⟨(upd_ne (ap ne e5 rfl (by rw [e6, e7]))).symm.trans g1.1, g1.2⟩, g2⟩
  · have q : ∀ (m : Nat) (t : SV), (ρ.set i (some (.own d)))[m]? = some (some t) → ∃ t', ρ[m]? = some (some t') ∧ t'.ex = t.ex ∧ t'.ob = t.ob := fun m t zm => by
      rcases get_set_some zm with ⟨rfl, z, _⟩ | ⟨_, z⟩
      · cases z; exact ⟨_, h, rfl, rfl⟩
      · exact ⟨_, z, rfl, rfl⟩
    obtain ⟨t1, q1, y1, _⟩ := q j d1 z1
    obtain ⟨t2, q2, _, y2⟩ := q k d2 z2
    exact R.uniq j k _ _ q1 q2 (y1.trans x1) (y2.trans x2) z3
end
end Ev

set_option Elab.async false
set_option linter.all false
set_option maxRecDepth 100000
/-! Ev. E: statements, loops. -/
set_option autoImplicit false
namespace Ev
open PySem PySem.Spec PyProof.Rows L2

inductive Out where
  | nx | bk | ct | rt (o : Opd)
  deriving Inhabited
abbrev SM := Rho → Option (Out × Rho)
def Fin (K : PySem.W.Frag) (Fr : Frm) (F : Hp) (ρ : Rho) (σ : St) (H : Hp) (Dn : Ends) : Out → Prop
  | .nx => Dn.nx σ H
  | .bk => Dn.bk σ H
  | .ct => Dn.ct σ H
  | .rt o => ∀ v, ORel K Fr F ρ σ H v o → Dn.rt v H
/-- slots outside W stay -/
def Keep (W : List Nat) (σ σ' : St) : Prop := σ'.length = σ.length ∧ ∀ i, i ∉ W → σ'[i]? = σ[i]?
theorem Keep.refl (W : List Nat) (σ : St) : Keep W σ σ := ⟨rfl, fun _ _ => rfl⟩
theorem Keep.trans {W W2 : List Nat} {σ σ1 σ2 : St} (a : Keep W σ σ1) (b : Keep W2 σ1 σ2) : Keep (W ++ W2) σ σ2 :=
  ⟨b.1.trans a.1, fun i h => (b.2 i fun z => h (List.mem_append_right _ z)).trans (a.2 i fun z => h (List.mem_append_left _ z))⟩
theorem Keep.mono {W W2 : List Nat} {σ σ1 : St} (a : Keep W σ σ1) (h : ∀ i ∈ W, i ∈ W2) : Keep W2 σ σ1 := ⟨a.1, fun i z => a.2 i fun y => z (h i y)⟩
theorem Keep.set {i : Nat} {σ : St} {x : Option V} : Keep [i] σ (σ.set i x) := ⟨by simp, fun j h => List.getElem?_set_ne (fun e => h (by simp [e]))⟩

def tS (K : PySem.W.Frag) (W : List Nat) (m : SM) : TS := fun Dn σ H => ∃ Fr F ρ out ρ', Rel K Fr F ρ σ H ∧ m ρ = some (out, ρ') ∧
  ∀ F' H' σ', Same F F' → Rel K Fr F' ρ' σ' H' → Keep W σ σ' → Fin K Fr F' ρ' σ' H' Dn out
def tG (K : PySem.W.Frag) (W : List Nat) (m : D → Rho → Option Rho) : TG := fun v σ H Q => ∃ Fr F ρ d ρ', Rel K Fr F ρ σ H ∧ Rep K F v d ∧ m d ρ = some ρ' ∧ ∀ F' H' σ', Same F F' → Rel K Fr F' ρ' σ' H' → Keep W σ σ' → Q σ' H'
def tGs (K : PySem.W.Frag) (W : List Nat) (m : List D → Rho → Option Rho) : TGs := fun vs σ H Q => ∃ Fr F ρ ds ρ', Rel K Fr F ρ σ H ∧ Reps K F vs ds ∧ m ds ρ = some ρ' ∧ ∀ F' H' σ', Same F F' → Rel K Fr F' ρ' σ' H' → Keep W σ σ' → Q σ' H'
structure SE (X : Cx) (st : Stmt) (W : List Nat) (m : SM) : Prop where
  ps : PS X st (tS X.K W m)
structure SsE (X : Cx) (st : List Stmt) (W : List Nat) (m : SM) : Prop where
  pss : PSs X st (tS X.K W m)
structure GE (X : Cx) (tg : Expr) (W : List Nat) (m : D → Rho → Option Rho) : Prop where
  pg : PG X tg (tG X.K W m)
structure GsE (X : Cx) (ts : List Expr) (W : List Nat) (m : List D → Rho → Option Rho) : Prop where
  pgs : PGs X ts (tGs X.K W m)
theorem pgs_imp {X : Cx} {es : List Expr} {t t' : TGs} (h : PGs X es t) (w : ∀ v σ H Q, t' v σ H Q → t v σ H Q) : PGs X es t' := ⟨fun pins s σ H vs us Q I r q => h.run pins s σ H vs us Q I r (w vs σ H Q q)⟩

section
variable {X : Cx} {st : Stmt} {rest : List Stmt} {e a b : Expr} {es : List Expr} {pos : Pos} {m ma mb : EM} {W W1 W2 : List Nat} {s1 s2 : SM}

def nextM : SM := fun ρ => some (.nx, ρ)
def seqM (s1 s2 : SM) : SM := fun ρ => match s1 ρ with
  | some (.nx, ρ1) => s2 ρ1
  | r => r
theorem sse_nil : SsE X [] [] nextM := ⟨pss_imp pss_nil fun Dn σ H ⟨Fr, F, ρ, out, ρ', R, em, k⟩ => by cases em; exact k F H σ (Same.refl F) R (.refl _ _)⟩
theorem sse_one (h : SE X st W s1) : SsE X [st] W s1 := ⟨pss_one h.ps⟩
theorem fin_nx {K : PySem.W.Frag} {Fr : Frm} {F H : Hp} {ρ : Rho} {σ : St} {Dn : Ends} {nx : St → Hp → Prop} {out : Out} (h : Fin K Fr F ρ σ H Dn out) (ne : out ≠ .nx) : Fin K Fr F ρ σ H { Dn with nx := nx } out := by
  cases out with
  | nx => exact absurd rfl ne
  | bk => exact h
  | ct => exact h
  | rt o => exact h
theorem sse_cons (h1 : SE X st W1 s1) (h2 : SsE X rest W2 s2) : SsE X (st :: rest) (W1 ++ W2) (seqM s1 s2) := by
  refine ⟨pss_imp (pss_cons h1.ps h2.pss) fun Dn σ H ⟨Fr, F, ρ, out, ρ', R, em, k⟩ => ?_⟩
  unfold seqM at em
  split at em
  · rename_i ρ1 e1
    exact ⟨Fr, F, ρ, _, _, R, e1, fun F1 H1 σ1 q1 R1 k1 => ⟨Fr, F1, ρ1, out, ρ', R1, em, fun F2 H2 σ2 q2 R2 k2 => k F2 H2 σ2 (q1.trans q2) R2 (k1.trans k2)⟩⟩
  · rename_i hne
    exact ⟨Fr, F, ρ, _, _, R, em, fun F1 H1 σ1 q1 R1 k1 => fin_nx (k F1 H1 σ1 q1 R1 (k1.mono fun i h => List.mem_append_left _ h)) fun z => hne _ (by rw [em, z])⟩
def passM : SM := nextM
def breakM : SM := fun ρ => some (.bk, ρ)
def contM : SM := fun ρ => some (.ct, ρ)
def neverM : SM := fun _ => none
theorem se_pass : SE X (.Pass pos) [] nextM := ⟨ps_imp ps_pass fun Dn σ H ⟨Fr, F, ρ, out, ρ', R, em, k⟩ => by cases em; exact k F H σ (Same.refl F) R (.refl _ _)⟩
theorem se_break : SE X (.Break pos) [] breakM := ⟨ps_imp ps_break fun Dn σ H ⟨Fr, F, ρ, out, ρ', R, em, k⟩ => by cases em; exact k F H σ (Same.refl F) R (.refl _ _)⟩
theorem se_cont : SE X (.Continue pos) [] contM := ⟨ps_imp ps_continue fun Dn σ H ⟨Fr, F, ρ, out, ρ', R, em, k⟩ => by cases em; exact k F H σ (Same.refl F) R (.refl _ _)⟩
theorem se_never : SE X st [] neverM := ⟨ps_imp ps_never fun Dn σ H ⟨Fr, F, ρ, out, ρ', R, em, k⟩ => by cases em⟩
/-- an expression for its effect -/
def exprM (m : EM) : SM := fun ρ => match m ρ with
  | some (_, ρ') => some (.nx, ρ')
  | none => none
theorem se_expr (h : OE X e m) (hs : swapsWith e none pos.line X.env = pure false := by rfl) : SE X (.Expr e pos) [] (exprM m) := by
  refine ⟨ps_imp (ps_expr h.pe hs) fun Dn σ H ⟨Fr, F, ρ, out, ρ', R, em, k⟩ => ?_⟩
  unfold exprM at em
  split at em
  · rename_i o ρ1 e1
    cases em
    exact ⟨Fr, F, ρ, _, _, R, e1, fun F1 H1 v q1 R1 _ => k F1 H1 σ q1 R1 (.refl _ _)⟩
  · cases em
def retM (m : EM) : SM := fun ρ => match m ρ with
  | some (o, ρ') => some (.rt o, ρ')
  | none => none
theorem se_ret (h : OE X e m) : SE X (.Return (some e) pos) [] (retM m) := by
  refine ⟨ps_imp (ps_ret h.pe) fun Dn σ H ⟨Fr, F, ρ, out, ρ', R, em, k⟩ => ?_⟩
  unfold retM at em
  split at em
  · rename_i o ρ1 e1
    cases em
    exact ⟨Fr, F, ρ, _, _, R, e1, fun F1 H1 v q1 R1 r => k F1 H1 σ q1 R1 (.refl _ _) v r⟩
  · cases em
theorem se_retN : SE X (.Return none pos) [] (retM (constM .non)) :=
  ⟨ps_imp ps_retN fun Dn σ H ⟨Fr, F, ρ, out, ρ', R, em, k⟩ => by cases em; exact k F H σ (Same.refl F) R (.refl _ _) .non .non⟩
def ifS (t : TM) (s1 s2 : SM) : SM := fun ρ => match t ρ with
  | some (true, ρ') => s1 ρ'
  | some (false, ρ') => s2 ρ'
  | none => none
theorem se_if {c : Expr} {sa sb : List Stmt} {t : TM} (hc : TeE X c t) (h1 : SsE X sa W1 s1) (h2 : SsE X sb W2 s2) : SE X (.If c sa sb pos) (W1 ++ W2) (ifS t s1 s2) := by
  refine ⟨ps_imp (ps_if hc.pt h1.pss h2.pss) fun Dn σ H ⟨Fr, F, ρ, out, ρ', R, em, k⟩ => ?_⟩
  unfold ifS at em
  split at em
  · rename_i ρ1 e1
    exact ⟨Fr, F, ρ, _, _, R, e1, fun F1 H1 q1 R1 => iteT ⟨Fr, F1, ρ1, out, ρ', R1, em, fun F2 H2 σ2 q2 R2 k2 => k F2 H2 σ2 (q1.trans q2) R2 (k2.mono fun i h => List.mem_append_left _ h)⟩⟩
  · rename_i ρ1 e1
    exact ⟨Fr, F, ρ, _, _, R, e1, fun F1 H1 q1 R1 => iteF ⟨Fr, F1, ρ1, out, ρ', R1, em, fun F2 H2 σ2 q2 R2 k2 => k F2 H2 σ2 (q1.trans q2) R2 (k2.mono fun i h => List.mem_append_right _ h)⟩⟩
  · cases em

/-! targets -/
@[simp] def nameG (i : Nat) : D → Rho → Option Rho := fun d ρ => some (ρ.set i (some (.val d)))
theorem ge_name {i : Nat} {x : Str} (hN : X.N.Nodup) (hi : X.N[i]? = some x := by rfl) (hx : Loc X.env.scope x := by first | exact Or.inl rfl | exact Or.inr rfl) (hf : X.fn x = true ∨ X.env.scope.names.lookup x = some .local := by first | exact .inl rfl | exact .inr rfl) : GE X (.Name x pos) [i] (nameG i) := by
  refine ⟨pg_imp (pg_name hN hi hx hf) fun v σ H Q ⟨Fr, F, ρ, d, ρ', R, r, em, k⟩ => ?_⟩
  cases em
  exact k F H _ (Same.refl F) (R.assign i r) .set
def nilG : List D → Rho → Option Rho := fun ds ρ => match ds with
  | [] => some ρ
  | _ => none
def consG (g : D → Rho → Option Rho) (gs : List D → Rho → Option Rho) : List D → Rho → Option Rho := fun ds ρ => match ds with
  | d :: ds => match g d ρ with
    | some ρ' => gs ds ρ'
    | none => none
  | [] => none
theorem gse_nil : GsE X [] [] nilG := by
  refine ⟨pgs_imp pgs_nil fun v σ H Q ⟨Fr, F, ρ, d, ρ', R, r, em, k⟩ => ?_⟩
  unfold nilG at em
  split at em
  · cases em; cases r; exact ⟨rfl, k F H σ (Same.refl F) R (.refl _ _)⟩
  · cases em
theorem gse_cons {g : D → Rho → Option Rho} {gs : List D → Rho → Option Rho} (h1 : GE X e W1 g) (h2 : GsE X es W2 gs)
    (hs : (assignEach (e :: es) X.env).map (·.2) = assign e X.env :: (assignEach es X.env).map (·.2) := by rfl) : GsE X (e :: es) (W1 ++ W2) (consG g gs) := by
  refine ⟨pgs_imp (pgs_cons h1.pg h2.pgs hs) fun v σ H Q ⟨Fr, F, ρ, d, ρ', R, r, em, k⟩ => ?_⟩
  unfold consG at em
  split at em
  · rename_i d0 ds0
    split at em
    · rename_i ρ1 e1
      cases r with
      | cons r1 r2 =>
        exact ⟨_, _, rfl, Fr, F, ρ, d0, ρ1, R, r1, e1, fun F1 H1 σ1 q1 R1 k1 => ⟨Fr, F1, ρ1, ds0, ρ', R1, r2.mono q1, em, fun F2 H2 σ2 q2 R2 k2 => k F2 H2 σ2 (q1.trans q2) R2 (k1.trans k2)⟩⟩
    · cases em
  · cases em
/-- a, b = a tuple -/
def tupG (n : Nat) (gs : List D → Rho → Option Rho) : D → Rho → Option Rho := fun d ρ => match d with
  | .tup ds => if ds.length = n then gs ds ρ else none
  | _ => none
theorem ge_tup {k0 n : Nat} {gs : List D → Rho → Option Rho} (hc : X.calm = true) (h : GsE X es W gs)
    (hn : (assignEach es X.env).length = n := by rfl) (hst : (assignEach es X.env).findIdx? (·.1) = none := by rfl) : GE X (.Tuple es k0 pos) W (tupG n gs) := by
  refine ⟨pg_imp (pg_tup hc h.pgs hn hst) fun v σ H Q ⟨Fr, F, ρ, d, ρ', R, r, em, k⟩ => ?_⟩
  unfold tupG at em
  split at em
  · split at em
    · rename_i hl
      cases r with
      | tup q rs => exact ⟨_, _, rfl, sameT R.f q, by rw [rs.length]; exact hl, Fr, F, ρ, _, ρ', R, rs, em, k⟩
    · cases em
  · cases em

/-! name = e -/
def setM (i : Nat) (m : EM) : SM := fun ρ => match m ρ with
  | some (.tmp d, ρ') => some (.nx, ρ'.set i (some (.own d)))
  | some (o, ρ') => match escO o ρ' with
    | some (d, ρ2) => some (.nx, ρ2.set i (some (.val d)))
    | none => none
  | none => none
theorem setM_ok {i : Nat} {te : TE} {Dn : Ends} {σ : St} {H : Hp} (w : ∀ Q, tE X.K m σ H Q → te σ H Q) (h : tS X.K [i] (setM i m) Dn σ H) : tAsg te (gName i) Dn σ H := by
  obtain ⟨Fr, F, ρ, out, ρ', R, em, k⟩ := h
  refine w _ ?_
  unfold setM at em
  split at em
  · rename_i d ρ1 e1
    cases em
    exact ⟨Fr, F, ρ, _, _, R, e1, fun F1 H1 v q1 R1 r => k F1 H1 _ q1 (R1.assignOwn i r) .set⟩
  · rename_i o ρ1 e1 hne
    split at em
    · rename_i d ρ2 e2
      cases em
      refine ⟨Fr, F, ρ, _, _, R, hne, fun F1 H1 v q1 R1 r => ?_⟩
      obtain ⟨F2, q2, R2, r2⟩ := R1.escO r e2
      exact k F2 H1 _ (q1.trans q2) (R2.assign i r2) .set
    · cases em
  · cases em
theorem se_set (i : Nat) {x : Str} {pos' : Pos} (hN : X.N.Nodup) (h : OE X e m) (hi : X.N[i]? = some x := by rfl) (hx : Loc X.env.scope x := by first | exact Or.inl rfl | exact Or.inr rfl) (hs : swapsWith e (some (.Name x pos')) pos.line X.env = pure false := by rfl) (hf : X.fn x = true ∨ X.env.scope.names.lookup x = some .local := by first | exact .inl rfl | exact .inr rfl) :
    SE X (.Assign [.Name x pos'] e pos) [i] (setM i m) := ⟨ps_imp (ps_set hN hi hx h.pe hs hf) fun Dn σ H h => setM_ok (fun _ z => z) h⟩
/-- target = e -/
def asgM (g : D → Rho → Option Rho) (m : EM) : SM := fun ρ => match esc m ρ with
  | some (d, ρ1) => match g d ρ1 with
    | some ρ2 => some (.nx, ρ2)
    | none => none
  | none => none
theorem se_asg {tg : Expr} {g : D → Rho → Option Rho} (h : OE X e m) (hg : GE X tg W g) (hs : swapsWithSole [tg] e pos.line X.env = pure false := by rfl) (hw : swappedStores [tg] e X.env = pure none := by rfl)
    (h1 : (assignEach [tg] X.env).map (·.2) = [assign tg X.env] := by rfl) : SE X (.Assign [tg] e pos) W (asgM g m) := by
  refine ⟨ps_imp (ps_asg h.ve.pe hg.pg hs hw h1) fun Dn σ H ⟨Fr, F, ρ, out, ρ', R, em, k⟩ => ?_⟩
  unfold asgM at em
  split at em
  · rename_i d ρ1 e1
    split at em
    · rename_i ρ2 e2
      cases em
      exact ⟨Fr, F, ρ, _, _, R, e1, fun F1 H1 v q1 R1 r => ⟨Fr, F1, ρ1, d, _, R1, r, e2, fun F2 H2 σ2 q2 R2 k2 => k F2 H2 σ2 (q1.trans q2) R2 k2⟩⟩
    · cases em
  · cases em
/-- a, b = x, y: names -/
def parM (i j : Nat) (ma mb : EM) : SM := fun ρ => match esc ma ρ with
  | some (d, ρ1) => match esc mb ρ1 with
    | some (e, ρ2) => some (.nx, (ρ2.set i (some (.val d))).set j (some (.val e)))
    | none => none
  | none => none
theorem se_par {i j : Nat} {x y : Str} {px py pt : Pos} {kt k2 pt2} (hc : X.calm = true) (hN : X.N.Nodup) (h1 : OE X a ma) (h2 : OE X b mb) (hi : X.N[i]? = some x := by rfl) (hj : X.N[j]? = some y := by rfl) (hij : i ≠ j := by decide)
    (hx : X.env.scope.names.lookup x = some .local := by rfl) (hy : X.env.scope.names.lookup y = some .local := by rfl)
    (hw : swappedStores [.Tuple [.Name x px, .Name y py] kt pt] (.Tuple [a, b] k2 pt2) X.env = pure (some [x, y]) := by rfl)
    (hs : swapsWithSole [.Tuple [.Name x px, .Name y py] kt pt] (.Tuple [a, b] k2 pt2) pos.line X.env = pure false := by rfl)
    (s1 : starEach [a, b] X.env = (false, eval a X.env) :: starEach [b] X.env := by rfl) (s2 : starEach [b] X.env = (false, eval b X.env) :: starEach [] X.env := by rfl) :
    SE X (.Assign [.Tuple [.Name x px, .Name y py] kt pt] (.Tuple [a, b] k2 pt2) pos) [i, j] (parM i j ma mb) := by
  refine ⟨ps_imp (ps_par hc hN hi hj hij hx hy (pa_cons h1.ve.pe (pa_cons h2.ve.pe pa_nil s2) s1) hw hs) fun Dn σ H ⟨Fr, F, ρ, out, ρ', R, em, k⟩ => ?_⟩
  unfold parM at em
  split at em
  · rename_i d ρ1 e1
    split at em
    · rename_i e ρ2 e2
      cases em
      refine ⟨Fr, F, ρ, _, _, R, e1, fun F1 H1 v q1 R1 r1 => ⟨Fr, F1, ρ1, _, _, R1, e2, fun F2 H2 w q2 R2 r2 => ⟨v, w, rfl, ?_⟩⟩⟩
      exact k F2 H2 _ (q1.trans q2) ((R2.assign i (r1.mono q2)).assign j r2) ((Keep.set (i := i)).trans (Keep.set (i := j)))
    · cases em
  · cases em
/-- name op= e, ints and texts: as name = name op e -/
def augM (i : Nat) (g : D → D → Option Opd) (m : EM) : SM := fun ρ => match ρ[i]? with
  | some (some (.val d)) => match frz m ρ with
    | some (o, ρ1) => match look o ρ1 with
      | some e => match g d e with
        | some (.val r) => some (.nx, ρ1.set i (some (.val r)))
        | _ => none
      | none => none
    | none => none
  | _ => none
theorem se_aug {op : Operator} {r : R2} {g : D → D → Option Opd} (i : Nat) {x : Str} {pos' : Pos} (hN : X.N.Nodup) (ho : OpR X (inplaceOp op) r) (hs : OpS X r g) (h : OE X e m) (hi : X.N[i]? = some x := by rfl) (hx : Loc X.env.scope x := by first | exact Or.inl rfl | exact Or.inr rfl)
    (hf : X.fn x = true ∨ X.env.scope.names.lookup x = some .local := by first | exact .inl rfl | exact .inr rfl) : SE X (.AugAssign (.Name x pos') op e pos) [i] (augM i g m) := by
  refine ⟨ps_imp (ps_aug hN hi hx h.ne.pe (op := op) (ti := r) ho hf) fun Dn σ H ⟨Fr, F, ρ, out, ρ', R, em, k⟩ => ?_⟩
  unfold augM at em
  split at em
  · rename_i d e1
    obtain ⟨v, e2, rv⟩ := R.slot i _ e1
    split at em
    · rename_i o ρ1 e3
      split at em
      · rename_i e' e4
        split at em
        · rename_i r' e5
          cases em
          refine ⟨v, e2, Fr, F, ρ, _, _, R, e3, fun F1 H1 y q1 R1 r1 => ?_⟩
          refine hs R1 (.inl (Rep.mono q1 rv)) (r1.look R1 e4) e5 fun F2 H2 z q2 R2 r2 => ?_
          exact k F2 H2 _ (q1.trans q2) (R2.assign i r2) .set
        · cases em
      · cases em
    · cases em
  · cases em
def rIAdd : R2 := fun x y H Q => rI0 (fun i j => .int (i + j)) x y H Q ∨ (∃ i j, x = .str i ∧ y = .str j ∧ i.length + j.length ≤ sizeLine ∧ Q (.str (i ++ j)) H)
def iaddG : D → D → Option Opd
  | .int i, .int j => some (.val (.int (i + j)))
  | .str s, .str t => if s.length + t.length ≤ sizeLine then some (.val (.str (s ++ t))) else none
  | _, _ => none
theorem op_iadd : OpR X (inplaceOp .Add) rIAdd := iop_add.or iop_add_str
theorem ops_iadd : OpS X rIAdd iaddG := by
  intro Fr F H ρ σ x y d e o Q R hx hy g k
  unfold iaddG at g
  split at g
  · rename_i i j
    cases g
    cases hx.int
    cases hy.int
    exact .inl ⟨i, j, rfl, rfl, after_val R (.int _) k⟩
  · rename_i i j
    split at g
    · rename_i h
      cases g
      cases hx.str
      cases hy.str
      exact .inr ⟨i, j, rfl, rfl, h, after_val R (.str _) k⟩
    · cases g
  · cases g
theorem se_iadd (i : Nat) {x : Str} {pos' : Pos} (hN : X.N.Nodup) (h : OE X e m) (hi : X.N[i]? = some x := by rfl) (hx : Loc X.env.scope x := by first | exact Or.inl rfl | exact Or.inr rfl)
    (hf : X.fn x = true ∨ X.env.scope.names.lookup x = some .local := by first | exact .inl rfl | exact .inr rfl) : SE X (.AugAssign (.Name x pos') .Add e pos) [i] (augM i iaddG m) := se_aug i hN op_iadd ops_iadd h hi hx hf
theorem se_isub (i : Nat) {x : Str} {pos' : Pos} (hN : X.N.Nodup) (h : OE X e m) (hi : X.N[i]? = some x := by rfl) (hx : Loc X.env.scope x := by first | exact Or.inl rfl | exact Or.inr rfl)
    (hf : X.fn x = true ∨ X.env.scope.names.lookup x = some .local := by first | exact .inl rfl | exact .inr rfl) : SE X (.AugAssign (.Name x pos') .Sub e pos) [i] (augM i subG m) := se_aug i hN iop_sub ops_I0 h hi hx hf

/-! xs[i] = e, xs[i] += e: xs a name's own list -/
def putM (i : Nat) (mi m : EM) : SM := fun ρ => match esc m ρ with
  | some (d, ρ1) => match ρ1[i]? with
    | some (some _) => match frz mi ρ1 with
      | some (.val (.int k), ρ2) => match ρ2[i]? with
        | some (some (.own (.lst ds))) => match ixN ds.length k with
          | some j => some (.nx, ρ2.set i (some (.own (.lst (ds.set j d)))))
          | none => none
        | _ => none
      | _ => none
    | _ => none
  | none => none
theorem se_put (i : Nat) {x : Str} {px tpos : Pos} (h : OE X e m) (hb : OE X b mb) (hN : X.N[i]? = some x := by rfl) (hv : Vis X.env.scope x := by first | exact Or.inl rfl | exact Or.inr (Or.inl rfl) | exact Or.inr (Or.inr rfl)) (hd : (x == ("__debug__" : Str)) = false := by decide)
    (hcd : (x == ("__classdict__" : Str)) = false := by decide) (ha : ∀ v, assign (.Subscript (.Name x px) b tpos) X.env v = (do
      let ov ← holding [v] (eval (.Name x px) X.env)
      let iv ← holding [v, ov] (eval b X.env)
      standAt tpos
      holding [v, ov, iv] (setItem ov iv v)
      release [v, ov, iv] []) := by intro _; rfl) (hs : swapsWithSole [.Subscript (.Name x px) b tpos] e pos.line X.env = pure false := by rfl) (hw : swappedStores [.Subscript (.Name x px) b tpos] e X.env = pure none := by rfl)
    (h1 : (assignEach [.Subscript (.Name x px) b tpos] X.env).map (·.2) = [assign (.Subscript (.Name x px) b tpos) X.env] := by rfl) :
    SE X (.Assign [.Subscript (.Name x px) b tpos] e pos) [] (putM i mb m) := by
  refine ⟨ps_imp (ps_asg h.ve.pe (pg_sub (pe_var hN hv hd hcd) hb.ne.pe set_list ha) hs hw h1) fun Dn σ H ⟨Fr, F, ρ, out, ρ', R, em, k⟩ => ?_⟩
  unfold putM at em
  split at em
  · rename_i d ρ1 e1
    split at em
    · rename_i sv e0
      split at em
      · rename_i n ρ2 e2
        split at em
        · rename_i ds e3
          split at em
          · rename_i j e4
            cases em
            refine ⟨Fr, F, ρ, _, _, R, e1, fun F1 H1 v q1 R1 r1 => ?_⟩
            obtain ⟨u, eu, _⟩ := R1.slot i _ e0
            refine ⟨u, eu, Fr, F1, ρ1, _, _, R1, e2, fun F2 H2 y q2 R2 r2 => ?_⟩
            cases r2
            obtain ⟨u', eu', a', o', ea, g1, g2, g3, g4⟩ := R2.slot i _ e3
            rw [eu] at eu'; cases eu'
            subst ea
            cases g2 with
            | lst rs =>
              refine ⟨a', _, n, j, rfl, rfl, g1, by rw [rs.length]; exact e4, ?_⟩
              exact k F2 _ σ (q1.trans q2) (R2.mut e3 eu (.lst (Reps.set (r1.mono q2) j rs))) (.refl _ _)
          · cases em
        · cases em
      · cases em
    · cases em
  · cases em
/-- o[i], by values -/
theorem get_list : PGet X (fun o i H Q => ∃ p xs k v, o = .ref p ∧ i = .int k ∧ SqL X.K H p xs ∧ 0 ≤ k ∧ xs[k.toNat]? = some v ∧ Q v H) := by
  intro pins s σ H o i ov iv Q I ro ri h
  obtain ⟨p, xs, k, v, rfl, rfl, hq, h0, hx, q⟩ := h
  cases ro
  obtain ⟨t, rfl⟩ := ri
  obtain ⟨its, r, pl, hz⟩ := I.list hq
  obtain ⟨w, ew, rw'⟩ := r.get hx
  have hn := line63
  have hl := some_lt hx
  exact wpAny_getItem_list pl.isList h0 (by omega) (by simpa using ew) ⟨v, H, I, rw', q⟩
def augAtM (i : Nat) (mi : EM) (g : D → D → Option Opd) (m : EM) : SM := fun ρ => match ρ[i]? with
  | some (some _) => match frz mi ρ with
    | some (.val (.int k), ρ1) => match ρ1[i]? with
      | some (some (.own (.lst ds))) => if 0 ≤ k then match ds[k.toNat]? with
        | some old => match frz m ρ1 with
          | some (o, ρ2) => match look o ρ2 with
            | some e => match g old e with
              | some (.val r) => match ρ2[i]? with
                | some (some (.own (.lst ds2))) => if k.toNat < ds2.length then some (.nx, ρ2.set i (some (.own (.lst (ds2.set k.toNat r))))) else none
                | _ => none
              | _ => none
            | none => none
          | none => none
        | none => none else none
      | _ => none
    | _ => none
  | _ => none
theorem se_augAt {op : Operator} {r : R2} {g : D → D → Option Opd} (i : Nat) {x : Str} {px tpos : Pos} (ho : OpR X (inplaceOp op) r) (hs : OpS X r g) (h : OE X e m) (hb : OE X b mb) (hN : X.N[i]? = some x := by rfl) (hv : Vis X.env.scope x := by first | exact Or.inl rfl | exact Or.inr (Or.inl rfl) | exact Or.inr (Or.inr rfl)) (hd : (x == ("__debug__" : Str)) = false := by decide)
    (hcd : (x == ("__classdict__" : Str)) = false := by decide) (ha : ∀ ov iv new, augStore b ov iv new = (do holding [new, ov, iv] (setItem ov iv new); release [new, ov, iv] []; pure .next) := by intros; rfl) :
    SE X (.AugAssign (.Subscript (.Name x px) b tpos) op e pos) [] (augAtM i mb g m) := by
  refine ⟨ps_imp (ps_augS (pe_var hN hv hd hcd) hb.ne.pe get_list h.ne.pe (op := op) (tip := r) ho set_list ha) fun Dn σ H ⟨Fr, F, ρ, out, ρ', R, em, k⟩ => ?_⟩
  unfold augAtM at em
  split at em
  · rename_i sv e0
    split at em
    · rename_i n ρ1 e1
      split at em
      · rename_i ds e2
        split at em
        · rename_i h0
          split at em
          · rename_i old e3
            split at em
            · rename_i o ρ2 e4
              split at em
              · rename_i ev e5
                split at em
                · rename_i rr e6
                  split at em
                  · rename_i ds2 e7
                    split at em
                    · rename_i hl
                      cases em
                      obtain ⟨u, eu, _⟩ := R.slot i _ e0
                      refine ⟨u, eu, Fr, F, ρ, _, _, R, e1, fun F1 H1 y q1 R1 r1 => ?_⟩
                      cases r1
                      obtain ⟨u', eu', a', o', ea, g1, g2, g3, g4⟩ := R1.slot i _ e2
                      rw [eu] at eu'; cases eu'
                      subst ea
                      cases g2 with
                      | lst rs =>
                        obtain ⟨vo, evo, rvo⟩ := rs.get e3
                        refine ⟨a', _, n, vo, rfl, rfl, SqL.of g1, h0, evo, Fr, F1, ρ1, _, _, R1, e4, fun F2 H2 z q2 R2 r2 => ?_⟩
                        refine hs R2 (.inl (Rep.mono q2 rvo)) (r2.look R2 e5) e6 fun F3 H3 w q3 R3 r3 => ?_
                        obtain ⟨u'', eu'', a'', o'', ea2, f1, f2, f3, f4⟩ := R3.slot i _ e7
                        rw [eu] at eu''; cases eu''
                        cases ea2
                        cases f2 with
                        | lst rs2 =>
                          refine ⟨a', _, n, n.toNat, rfl, rfl, f1, ?_, ?_⟩
                          · unfold ixN
                            rw [if_pos h0, rs2.length, if_pos (by omega)]
                          · exact k F3 _ σ ((q1.trans q2).trans q3) (R3.mut e7 eu (.lst (Reps.set r3 _ rs2))) (.refl _ _)
                    · cases em
                  · cases em
                · cases em
              · cases em
            · cases em
          · cases em
        · cases em
      · cases em
    · cases em
  · cases em
theorem se_iaddAt (i : Nat) {x : Str} {px tpos : Pos} (h : OE X e m) (hb : OE X b mb) (hN : X.N[i]? = some x := by rfl) (hv : Vis X.env.scope x := by first | exact Or.inl rfl | exact Or.inr (Or.inl rfl) | exact Or.inr (Or.inr rfl)) (hd : (x == ("__debug__" : Str)) = false := by decide)
    (hcd : (x == ("__classdict__" : Str)) = false := by decide) (ha : ∀ ov iv new, augStore b ov iv new = (do holding [new, ov, iv] (setItem ov iv new); release [new, ov, iv] []; pure .next) := by intros; rfl) :
    SE X (.AugAssign (.Subscript (.Name x px) b tpos) .Add e pos) [] (augAtM i mb iaddG m) := se_augAt i op_iadd ops_iadd h hb hN hv hd hcd ha
theorem se_isubAt (i : Nat) {x : Str} {px tpos : Pos} (h : OE X e m) (hb : OE X b mb) (hN : X.N[i]? = some x := by rfl) (hv : Vis X.env.scope x := by first | exact Or.inl rfl | exact Or.inr (Or.inl rfl) | exact Or.inr (Or.inr rfl)) (hd : (x == ("__debug__" : Str)) = false := by decide)
    (hcd : (x == ("__classdict__" : Str)) = false := by decide) (ha : ∀ ov iv new, augStore b ov iv new = (do holding [new, ov, iv] (setItem ov iv new); release [new, ov, iv] []; pure .next) := by intros; rfl) :
    SE X (.AugAssign (.Subscript (.Name x px) b tpos) .Sub e pos) [] (augAtM i mb subG m) := se_augAt i iop_sub ops_I0 h hb hN hv hd hcd ha

/-! while -/
def whileL (t : TM) (s : SM) : Nat → Rho → Option (Out × Rho)
  | 0, _ => none
  | n + 1, ρ => match t ρ with
    | some (true, ρ1) => match s ρ1 with
      | some (.nx, ρ2) => whileL t s n ρ2
      | some (.ct, ρ2) => whileL t s n ρ2
      | some (.bk, ρ2) => some (.nx, ρ2)
      | some (.rt o, ρ2) => some (.rt o, ρ2)
      | none => none
    | some (false, ρ1) => some (.nx, ρ1)
    | none => none
def lots : Nat := 2 ^ 64
def whileM (t : TM) (s : SM) : SM := fun ρ => whileL t s lots ρ
theorem se_while {c : Expr} {body : List Stmt} {t : TM} (hp : PassesOwn (model X.prog X.w) X.A X.env X.xe) (hc : TeE X c t) (hb : SsE X body W s1) : SE X (.While c body [] pos) W (whileM t s1) := by
  refine ⟨ps_imp (ps_while hp hc.pt hb.pss) fun Dn σ H ⟨Fr, F, ρ, out, ρ', R, em, k⟩ => ?_⟩
  refine ⟨fun n σ1 H1 => ∃ F1 ρ1, Same F F1 ∧ Rel X.K Fr F1 ρ1 σ1 H1 ∧ Keep W σ σ1 ∧ whileL t s1 n ρ1 = some (out, ρ'), ⟨lots, F, ρ, Same.refl F, R, .refl _ _, em⟩, ?_⟩
  rintro n σ1 H1 ⟨F1, ρ1, q1, R1, k1, e1⟩
  cases n with
  | zero => cases e1
  | succ n =>
    rw [whileL] at e1
    split at e1
    · rename_i ρ2 e2
      refine ⟨Fr, F1, ρ1, _, _, R1, e2, fun F2 H2 q2 R2 => iteT ?_⟩
      refine ⟨fun σ3 H3 => ∃ F3 ρ3, Same F F3 ∧ Rel X.K Fr F3 ρ3 σ3 H3 ∧ Keep W σ σ3 ∧ whileL t s1 n ρ3 = some (out, ρ'), fun σ3 H3 z => ⟨n, Nat.lt_succ_self n, z⟩, ?_⟩
      have km : ∀ {σ3 : St}, Keep W σ1 σ3 → Keep W σ σ3 := fun k3 => (k1.trans k3).mono fun i h => (List.mem_append.mp h).elim id id
      split at e1
      · rename_i ρ3 e3
        exact ⟨Fr, F2, ρ2, _, _, R2, e3, fun F3 H3 σ3 q3 R3 k3 => ⟨F3, ρ3, (q1.trans q2).trans q3, R3, km k3, e1⟩⟩
      · rename_i ρ3 e3
        exact ⟨Fr, F2, ρ2, _, _, R2, e3, fun F3 H3 σ3 q3 R3 k3 => ⟨F3, ρ3, (q1.trans q2).trans q3, R3, km k3, e1⟩⟩
      · rename_i ρ3 e3
        cases e1
        exact ⟨Fr, F2, ρ2, _, _, R2, e3, fun F3 H3 σ3 q3 R3 k3 => k F3 H3 σ3 ((q1.trans q2).trans q3) R3 (km k3)⟩
      · rename_i o ρ3 e3
        cases e1
        exact ⟨Fr, F2, ρ2, _, _, R2, e3, fun F3 H3 σ3 q3 R3 k3 => k F3 H3 σ3 ((q1.trans q2).trans q3) R3 (km k3)⟩
      · cases e1
    · rename_i ρ2 e2
      cases e1
      exact ⟨Fr, F1, ρ1, _, _, R1, e2, fun F2 H2 q2 R2 => iteF (k F2 H2 σ1 (q1.trans q2) R2 k1)⟩
    · cases e1

/-! what is walked -/
abbrev IM := Rho → Option (List D × Option (Nat × D) × Rho)
/-- J yields these values, at any later heap -/
def IterOk (K : PySem.W.Frag) (Fr : Frm) (F0 : Hp) (J : It) (ds : List D) : Prop := ∀ F H, Same F0 F → Same Fr H → Same F H → (∀ i d, ds[i]? = some d → J.go i H ∧ ∀ x H', J.yld i H x H' →
  ∃ F', Same F F' ∧ Same H H' ∧ (∀ Fr' ρ σ, Rel K Fr' F ρ σ H → Rel K Fr' F' ρ σ H') ∧ Rep K F' x d) ∧ J.stop ds.length H
def Lock (K : PySem.W.Frag) (Fr Fr' : Frm) (F : Hp) (σ : St) : Option (Nat × D) → Prop
  | none => Fr' = Fr
  | some (j, d) => ∃ a o, σ[j]? = some (some (.ref a)) ∧ Fr a = none ∧ Fr' = Fr.upd a o ∧ Own K F o d
def tI (K : PySem.W.Frag) (m : IM) : TI := fun σ H R => ∃ Fr F ρ ds lk ρ', Rel K Fr F ρ σ H ∧ m ρ = some (ds, lk, ρ') ∧
  ∀ Fr' F' H' J, Same F F' → Rel K Fr' F' ρ' σ H' → Lock K Fr Fr' F' σ lk → IterOk K Fr' F' J ds → R J H'
/-- L: the names that may be locked -/
structure IE (X : Cx) (tg it : Expr) (L : List Nat) (m : IM) : Prop where
  pi : PI X tg it (tI X.K m)
  lk : ∀ ρ ds j d ρ', m ρ = some (ds, some (j, d), ρ') → j ∈ L
def unlock (lk : Option (Nat × D)) (ρ : Rho) : Option Rho := match lk with
  | none => some ρ
  | some (j, d) => match ρ[j]? with
    | some (some (.lck _)) => some (ρ.set j (some (.own d)))
    | _ => none
theorem Lock.open {K : PySem.W.Frag} {Fr Fr' : Frm} {F F2 H : Hp} {ρ ρ' : Rho} {σ σ' : St} {lk : Option (Nat × D)} (l : Lock K Fr Fr' F σ lk) (e : Same F F2) (R : Rel K Fr' F2 ρ σ' H) (hs : ∀ j d, lk = some (j, d) → σ'[j]? = σ[j]?) (h : unlock lk ρ = some ρ') : Rel K Fr F2 ρ' σ' H := by
  cases lk with
  | none => cases h; cases l; exact R
  | some p =>
    obtain ⟨j, d⟩ := p
    obtain ⟨a, o, e1, e2, e3, w⟩ := l
    subst e3
    dsimp only [Ev.unlock] at h
    split at h
    · rename_i d' e4
      cases h
      exact R.unlock e4 (by rw [hs j d rfl, e1]) e2 (w.mono e)
    · cases h
def forL (g : D → Rho → Option Rho) (s : SM) : List D → Rho → Option (Out × Rho)
  | [], ρ => some (.nx, ρ)
  | d :: ds, ρ => match g d ρ with
    | some ρ1 => match s ρ1 with
      | some (.nx, ρ2) => forL g s ds ρ2
      | some (.ct, ρ2) => forL g s ds ρ2
      | some (.bk, ρ2) => some (.nx, ρ2)
      | some (.rt o, ρ2) => some (.rt o, ρ2)
      | none => none
    | none => none
def forM (it : IM) (g : D → Rho → Option Rho) (s : SM) : SM := fun ρ => match it ρ with
  | some (ds, lk, ρ1) => match forL g s ds ρ1 with
    | some (out, ρ2) => match unlock lk ρ2 with
      | some ρ3 => some (out, ρ3)
      | none => none
    | none => none
  | none => none
theorem Lock.orel {K : PySem.W.Frag} {Fr Fr' : Frm} {F F2 H : Hp} {ρ ρ' : Rho} {σ σ' : St} {lk : Option (Nat × D)} {v : V} {o : Opd} (l : Lock K Fr Fr' F σ lk) (h : unlock lk ρ = some ρ') (hs : ∀ j d, lk = some (j, d) → σ'[j]? = σ[j]?)
    (r : ORel K Fr' F2 ρ σ' H v o) : ORel K Fr F2 ρ' σ' H v o := by
  cases o with
  | val d => exact r
  | var i => exact r
  | tmp d =>
    cases lk with
    | none => cases h; cases l; exact r
    | some p =>
      obtain ⟨j, d'⟩ := p
      obtain ⟨b, o', e1, e2, e3, w⟩ := l
      subst e3
      obtain ⟨a, u, rfl, h1, h2, h3, h4, h5⟩ := r
      have h4 : L2.upd Fr.h b o' a = none := h4
      have hab : a ≠ b := fun z => by subst z; rw [upd_same] at h4; cases h4
      dsimp only [Ev.unlock] at h
      split at h
      · rename_i d2 e4
        cases h
        refine ⟨a, u, rfl, h1, h2, h3, by rw [upd_ne hab] at h4; exact h4, fun i e e5 => ?_⟩
        rcases get_set_some e5 with ⟨rfl, _, _⟩ | ⟨_, e6⟩
        · rw [hs _ _ rfl, e1]
          intro z
          exact hab (V.ref.inj (Option.some.inj (Option.some.inj z))).symm
        · exact h5 i e e6
      · cases h
theorem Lock.fin {K : PySem.W.Frag} {Fr Fr' : Frm} {F F2 H : Hp} {ρ ρ' : Rho} {σ σ' : St} {lk : Option (Nat × D)} {Dn : Ends} {out : Out} (l : Lock K Fr Fr' F σ lk) (h : unlock lk ρ = some ρ') (hs : ∀ j d, lk = some (j, d) → σ'[j]? = σ[j]?)
    (k : Fin K Fr F2 ρ' σ' H Dn out) : Fin K Fr' F2 ρ σ' H Dn out := by
  cases out with
  | nx => exact k
  | bk => exact k
  | ct => exact k
  | rt o => exact fun v r => k v (l.orel h hs r)
theorem se_for {tg it : Expr} {body : List Stmt} {L : List Nat} {mi : IM} {g : D → Rho → Option Rho} (hp : PassesOwn (model X.prog X.w) X.A X.env X.xe) (hc : X.calm = true) (hi : IE X tg it L mi) (hg : GE X tg W1 g) (hb : SsE X body W2 s1)
    (hL : ∀ j ∈ L, j ∉ W1 ++ W2 := by decide) (hs : ∀ x, foldedSetIterable it X.env x = pure x := by intro _; rfl) : SE X (.For tg it body [] pos) (W1 ++ W2) (forM mi g s1) := by
  refine ⟨ps_imp (ps_for hp hc hi.pi hg.pg hb.pss hs) fun Dn σ H ⟨Fr, F, ρ, out, ρ', R, em, k⟩ => ?_⟩
  unfold forM at em
  split at em
  · rename_i ds lk ρ1 e1
    split at em
    · rename_i out2 ρ2 e2
      split at em
      · rename_i ρ3 e3
        cases em
        have hj : ∀ {σ2 : St}, Keep (W1 ++ W2) σ σ2 → ∀ j d, lk = some (j, d) → σ2[j]? = σ[j]? := fun k2 j d z => k2.2 j (hL j (hi.lk ρ ds j d ρ1 (by rw [e1, z])))
        refine ⟨Fr, F, ρ, ds, lk, ρ1, R, e1, fun Fr' F1 H1 J q1 R1 l ok => ?_⟩
        refine ⟨fun i n σ2 H2 => ∃ F2 ρx, Same F1 F2 ∧ Rel X.K Fr' F2 ρx σ2 H2 ∧ Keep (W1 ++ W2) σ σ2 ∧ i ≤ ds.length ∧ n = ds.length - i ∧ forL g s1 (ds.drop i) ρx = some (out, ρ2), ⟨ds.length, F1, ρ1, Same.refl F1, R1, .refl _ _, Nat.zero_le _, rfl, e2⟩, ?_⟩
        rintro i n σ2 H2 ⟨F2, ρx, q2, R2, k2, hle, rfl, e4⟩
        have km : ∀ {σ3 : St}, Keep (W1 ++ W2) σ2 σ3 → Keep (W1 ++ W2) σ σ3 := fun k3 => (k2.trans k3).mono fun i h => (List.mem_append.mp h).elim id id
        obtain ⟨item, stop⟩ := ok F2 H2 q2 R2.fr R2.f
        by_cases hlt : i < ds.length
        · rw [List.drop_eq_getElem_cons hlt, forL] at e4
          obtain ⟨go, yl⟩ := item i _ (List.getElem?_eq_getElem hlt)
          refine .inr ⟨go, fun σ3 H3 => ∃ F3 ρy, Same F1 F3 ∧ Rel X.K Fr' F3 ρy σ3 H3 ∧ Keep (W1 ++ W2) σ σ3 ∧ forL g s1 (ds.drop (i + 1)) ρy = some (out, ρ2), fun σ3 H3 ⟨F3, ρy, z1, z2, z3, z4⟩ => ⟨ds.length - (i + 1), by omega, F3, ρy, z1, z2, z3, hlt, rfl, z4⟩, fun x H' y => ?_⟩
          obtain ⟨F3, q3, q4, tr, rx⟩ := yl x H' y
          split at e4
          · rename_i ρ4 e5
            refine ⟨Fr', F3, ρx, _, ρ4, tr _ _ _ R2, rx, e5, fun F4 H4 σ4 q5 R4 k4 => ?_⟩
            split at e4
            · rename_i ρ5 e6
              exact ⟨Fr', F4, ρ4, _, _, R4, e6, fun F5 H5 σ5 q6 R5 k5 => ⟨F5, ρ5, ((q2.trans q3).trans q5).trans q6, R5, km (k4.trans k5), e4⟩⟩
            · rename_i ρ5 e6
              exact ⟨Fr', F4, ρ4, _, _, R4, e6, fun F5 H5 σ5 q6 R5 k5 => ⟨F5, ρ5, ((q2.trans q3).trans q5).trans q6, R5, km (k4.trans k5), e4⟩⟩
            · rename_i ρ5 e6
              cases e4
              exact ⟨Fr', F4, ρ4, _, _, R4, e6, fun F5 H5 σ5 q6 R5 k5 => k F5 H5 σ5 ((((q1.trans q2).trans q3).trans q5).trans q6) (l.open (((q2.trans q3).trans q5).trans q6) R5 (hj (km (k4.trans k5))) e3) (km (k4.trans k5))⟩
            · rename_i o ρ5 e6
              cases e4
              refine ⟨Fr', F4, ρ4, _, _, R4, e6, fun F5 H5 σ5 q6 R5 k5 => ?_⟩
              have z := k F5 H5 σ5 ((((q1.trans q2).trans q3).trans q5).trans q6) (l.open (((q2.trans q3).trans q5).trans q6) R5 (hj (km (k4.trans k5))) e3) (km (k4.trans k5))
              exact fun v r => z v (l.orel e3 (hj (km (k4.trans k5))) r)
            · cases e4
          · cases e4
        · have ei : i = ds.length := by omega
          subst ei
          rw [List.drop_length, forL] at e4
          cases e4
          exact .inl ⟨stop, k F2 H2 σ2 (q1.trans q2) (l.open q2 R2 (hj k2) e3) k2⟩
      · cases em
    · cases em
  · cases em

/-! sources -/
def charsD (s : Str) : List D := s.cps.toList.map fun c => .str ⟨#[c]⟩
/-- a list, a tuple, a text -/
def itemsD : D → Option (List D)
  | .str s => some (charsD s)
  | d => seqD d
def seqI (m : EM) : IM := fun ρ => match frz m ρ with
  | some (.val d, ρ1) => match itemsD d with
    | some ds => some (ds, none, ρ1)
    | none => none
  | some (.var j, ρ1) => match ρ1[j]? with
    | some (some (.own d)) => match seqD d with
      | some ds => some (ds, some (j, d), ρ1.set j (some (.lck d)))
      | none => none
    | some (some sv) => match itemsD sv.d with
      | some ds => some (ds, none, ρ1)
      | none => none
    | _ => none
  | _ => none
theorem pi_or {tg it : Expr} {w1 w2 : TI} (h1 : PI X tg it w1) (h2 : PI X tg it w2) : PI X tg it (fun σ H R => w1 σ H R ∨ w2 σ H R) := ⟨fun pins s σ H R I h => by
  rcases h with h | h
  · exact h1.run pins s σ H R I h
  · exact h2.run pins s σ H R I h⟩
end
end Ev

set_option Elab.async false
set_option linter.all false
set_option maxRecDepth 100000
/-! Ev. F: what is walked, comprehensions. -/
set_option autoImplicit false
namespace Ev
open PySem PySem.Spec PyProof.Rows L2

theorem iter_list {K : PySem.W.Frag} {Fr : Frm} {F G : Hp} {a : Addr} {vs : List V} {ds : List D} (hG : ∀ H, Same Fr.h H → Same F H → Same G H) (h : SqL K G a vs) (r : Reps K F vs ds) : IterOk K Fr F (Itl K a) ds := by
  intro F2 H q f1 f2
  have hh : SqL K H a vs := sameL (hG H f1 (q.trans f2)) h
  refine ⟨fun i d e => ?_, vs, hh, by rw [r.length]; exact Nat.le_refl _⟩
  obtain ⟨v, e1, rv⟩ := r.get e
  refine ⟨⟨vs, v, hh, e1⟩, fun x H' y => ?_⟩
  obtain ⟨rfl, y⟩ := y
  have e2 := y vs hh
  rw [e1] at e2; cases e2
  exact ⟨F2, Same.refl _, Same.refl _, fun _ _ _ z => z, rv.mono q⟩
theorem iter_tup {K : PySem.W.Frag} {Fr : Frm} {F : Hp} {a : Addr} {vs : List V} {ds : List D} (h : SqT K F a vs) (r : Reps K F vs ds) : IterOk K Fr F (Itt K a) ds := by
  intro F2 H q f1 f2
  have hh : SqT K H a vs := sameT (q.trans f2) h
  refine ⟨fun i d e => ?_, vs, hh, by rw [r.length]; exact Nat.le_refl _⟩
  obtain ⟨v, e1, rv⟩ := r.get e
  refine ⟨⟨vs, v, hh, e1⟩, fun x H' y => ?_⟩
  obtain ⟨rfl, y⟩ := y
  have e2 := y vs hh
  rw [e1] at e2; cases e2
  exact ⟨F2, Same.refl _, Same.refl _, fun _ _ _ z => z, rv.mono q⟩
theorem iter_str {K : PySem.W.Frag} {Fr : Frm} {F : Hp} (x : Str) : IterOk K Fr F (Its x) (charsD x) := by
  intro F2 H q f1 f2
  refine ⟨fun i d e => ?_, ?_⟩
  · unfold charsD at e
    rw [List.getElem?_map] at e
    cases e1 : x.cps.toList[i]? with
    | none => rw [e1] at e; cases e
    | some c =>
      rw [e1] at e
      cases e
      have hi := some_lt e1
      refine ⟨(show i < x.cps.size by simpa using hi), fun v H' y => ?_⟩
      obtain ⟨rfl, c', e2, rfl⟩ := y
      have e3 : x.cps[i]? = some c := by simpa using e1
      rw [e3] at e2; cases e2
      exact ⟨F2, Same.refl _, Same.refl _, fun _ _ _ z => z, .str _⟩
  · show x.cps.size ≤ (charsD x).length
    unfold charsD
    simp
def rangeD (lo : Int) (n : Nat) : List D := (List.range n).map fun (i : Nat) => D.int (lo + i)
theorem iter_range {K : PySem.W.Frag} {Fr : Frm} {F : Hp} (lo : Int) (n : Nat) : IterOk K Fr F (Itr lo n) (rangeD lo n) := by
  intro F2 H q f1 f2
  refine ⟨fun i d e => ?_, by show n ≤ (rangeD lo n).length; unfold rangeD; simp⟩
  unfold rangeD at e
  rw [List.getElem?_map] at e
  by_cases hi : i < n
  · rw [List.getElem?_range hi] at e
    cases e
    refine ⟨hi, fun v H' y => ?_⟩
    obtain ⟨rfl, rfl⟩ := y
    exact ⟨F2, Same.refl _, Same.refl _, fun _ _ _ z => z, .int _⟩
  · rw [List.getElem?_eq_none (by simpa using hi)] at e; cases e

section
variable {X : Cx} {e a b : Expr} {es : List Expr} {tg : Expr} {pos : Pos} {m ma mb : EM} {W W1 W2 : List Nat}

/-- the walk over a value as it stands in F -/
def iAny (K : PySem.W.Frag) (te : TE) (tn : TA) : TI := fun σ H R => iList K te σ H R ∨ iTup K te σ H R ∨ iStr te σ H R
theorem pi_any {te : TE} (h : PE X e te) : PI X tg e (fun σ H R => iList X.K te σ H R ∨ iTup X.K te σ H R ∨ iStr te σ H R) := pi_or (pi_list h) (pi_or (pi_tup h) (pi_str h))
/-- over a value that is no name's own -/
def seqI0 (m : EM) : IM := fun ρ => match frz m ρ with
  | some (.val d, ρ1) => match itemsD d with
    | some ds => some (ds, none, ρ1)
    | none => none
  | _ => none
theorem seq_val {Fr : Frm} {F H : Hp} {ρ1 : Rho} {σ : St} {R : It → Hp → Prop} {d : D} {ds : List D} (w : ∀ Q, (∀ F' H' v, Same F F' → Rel X.K Fr F' ρ1 σ H' → Rep X.K F' v d → Q v H') → tN X.K (frz m) σ H Q) (e2 : itemsD d = some ds)
    (k : ∀ F' H' J, Same F F' → Rel X.K Fr F' ρ1 σ H' → IterOk X.K Fr F' J ds → R J H') : iList X.K (tN X.K (frz m)) σ H R ∨ iTup X.K (tN X.K (frz m)) σ H R ∨ iStr (tN X.K (frz m)) σ H R := by
  cases d with
  | lst xs =>
    cases e2
    refine .inl (w _ fun F1 H1 v q1 R1 r => ?_)
    cases r with
    | lst h rs => exact ⟨_, rfl, ⟨_, SqL.of (R1.f _ _ h)⟩, k F1 H1 _ q1 R1 (iter_list (G := F1) (fun _ _ z => z) (SqL.of h) rs)⟩
  | rol xs =>
    cases e2
    refine .inl (w _ fun F1 H1 v q1 R1 r => ?_)
    cases r with
    | rol h rs => exact ⟨_, rfl, ⟨_, sameL R1.f h⟩, k F1 H1 _ q1 R1 (iter_list (G := F1) (fun _ _ z => z) h rs)⟩
  | tup xs =>
    cases e2
    refine .inr (.inl (w _ fun F1 H1 v q1 R1 r => ?_))
    cases r with
    | tup h rs => exact ⟨_, rfl, ⟨_, sameT R1.f h⟩, k F1 H1 _ q1 R1 (iter_tup h rs)⟩
  | str x =>
    cases e2
    refine .inr (.inr (w _ fun F1 H1 v q1 R1 r => ?_))
    cases r
    exact ⟨x, rfl, k F1 H1 _ q1 R1 (iter_str x)⟩
  | non => cases e2
  | bl b => cases e2
  | int i => cases e2
theorem ie_seq (h : OE X e m) : IE X tg e [] (seqI0 m) := by
  refine ⟨pi_imp (pi_any h.ne.pe) fun σ H R ⟨Fr, F, ρ, ds, lk, ρ', Rr, em, k⟩ => ?_, fun ρ ds j d ρ' em => ?_⟩
  · unfold seqI0 at em
    split at em
    · rename_i d ρ1 e1
      split at em
      · rename_i ds' e2
        cases em
        exact seq_val (fun Q q => ⟨Fr, F, ρ, _, _, Rr, e1, q⟩) e2 fun F' H' J q1 R1 ok => k Fr F' H' J q1 R1 rfl ok
      · cases em
    · cases em
  · exfalso
    unfold seqI0 at em
    split at em
    · split at em
      · cases em
      · cases em
    · cases em
/-- over what a name holds -/
def nameI (j : Nat) : IM := fun ρ => match ρ[j]? with
  | some (some (.val d)) => match itemsD d with
    | some ds => some (ds, none, ρ)
    | none => none
  | some (some (.own d)) => match seqD d with
    | some ds => some (ds, some (j, d), ρ.set j (some (.lck d)))
    | none => none
  | some (some (.bor d)) => match seqD d with
    | some ds => some (ds, none, ρ)
    | none => none
  | some (some (.lck d)) => match seqD d with
    | some ds => some (ds, none, ρ)
    | none => none
  | _ => none
theorem own_seq {K : PySem.W.Frag} {F : Hp} {o : HO} {d : D} {ds : List D} (w : Own K F o d) (e : seqD d = some ds) : ∃ vs, o = .lst vs ∧ Reps K F vs ds := by
  cases w with
  | lst r => cases e; exact ⟨_, rfl, r⟩
theorem ie_name (j : Nat) {x : Str} (hN : X.N[j]? = some x := by rfl) (hv : Vis X.env.scope x := by first | exact Or.inl rfl | exact Or.inr (Or.inl rfl) | exact Or.inr (Or.inr rfl)) (hd : (x == ("__debug__" : Str)) = false := by decide)
    (hcd : (x == ("__classdict__" : Str)) = false := by decide) : IE X tg (.Name x pos) [j] (nameI j) := by
  have h := pe_var (X := X) (pos := pos) hN hv hd hcd
  refine ⟨pi_imp (pi_any (tg := tg) h) fun σ H R ⟨Fr, F, ρ, ds, lk, ρ', Rr, em, k⟩ => ?_, fun ρ ds i d ρ' em => ?_⟩
  · unfold nameI at em
    split at em
    · rename_i d e1
      obtain ⟨v, ev, r⟩ := Rr.slot j _ e1
      split at em
      · rename_i ds' e2
        cases em
        cases r with
        | lst hh rs => cases e2; exact .inl ⟨_, ev, _, rfl, ⟨_, SqL.of (Rr.f _ _ hh)⟩, k Fr F H _ (Same.refl F) Rr rfl (iter_list (G := F) (fun _ _ z => z) (SqL.of hh) rs)⟩
        | rol hh rs => cases e2; exact .inl ⟨_, ev, _, rfl, ⟨_, sameL Rr.f hh⟩, k Fr F H _ (Same.refl F) Rr rfl (iter_list (G := F) (fun _ _ z => z) hh rs)⟩
        | tup hh rs => cases e2; exact .inr (.inl ⟨_, ev, _, rfl, ⟨_, sameT Rr.f hh⟩, k Fr F H _ (Same.refl F) Rr rfl (iter_tup hh rs)⟩)
        | str x => cases e2; exact .inr (.inr ⟨_, ev, x, rfl, k Fr F H _ (Same.refl F) Rr rfl (iter_str x)⟩)
        | non => cases e2
        | bl b => cases e2
        | int i => cases e2
      · cases em
    · rename_i d e1
      split at em
      · rename_i ds' e2
        cases em
        obtain ⟨a, o, es, hFr, w, hH, R2⟩ := Rr.lock e1
        obtain ⟨vs, rfl, rs⟩ := own_seq w e2
        refine .inl ⟨_, es, a, rfl, ⟨vs, SqL.of hH⟩, k _ F H _ (Same.refl F) R2 ⟨a, _, es, hFr, rfl, w⟩ ?_⟩
        exact iter_list (G := (Fr.upd a (.lst vs)).h) (fun _ z _ => z) (SqL.of upd_same) rs
      · cases em
    · rename_i d e1
      obtain ⟨v, ev, a, o, rfl, h1, w⟩ := Rr.slot j _ e1
      split at em
      · rename_i ds' e2
        cases em
        obtain ⟨vs, rfl, rs⟩ := own_seq w e2
        exact .inl ⟨_, ev, a, rfl, ⟨vs, SqL.of (Rr.fr _ _ h1.1)⟩, k Fr F H _ (Same.refl F) Rr rfl (iter_list (G := Fr.h) (fun _ z _ => z) (SqL.of h1.1) rs)⟩
      · cases em
    · rename_i d e1
      obtain ⟨v, ev, a, o, rfl, h1, w⟩ := Rr.slot j _ e1
      split at em
      · rename_i ds' e2
        cases em
        obtain ⟨vs, rfl, rs⟩ := own_seq w e2
        exact .inl ⟨_, ev, a, rfl, ⟨vs, SqL.of (Rr.fr _ _ h1.1)⟩, k Fr F H _ (Same.refl F) Rr rfl (iter_list (G := Fr.h) (fun _ z _ => z) (SqL.of h1.1) rs)⟩
      · cases em
    · cases em
  · unfold nameI at em
    split at em
    · split at em <;> cases em
    · split at em
      · cases em; simp
      · cases em
    · split at em <;> cases em
    · split at em <;> cases em
    · cases em
/-- over range(n), range(a, b) -/
def inR (i : Int) : Bool := decide (-(2 ^ 62) ≤ i) && decide (i < 2 ^ 62)
theorem inR_iff {i : Int} (h : inR i = true) : -(2 ^ 62) ≤ i ∧ i < 2 ^ 62 := by
  unfold inR at h
  rw [Bool.and_eq_true] at h
  exact ⟨of_decide_eq_true h.1, of_decide_eq_true h.2⟩
def rng1 (m : DM) : IM := fun ρ => match m ρ with
  | some ([.int j], ρ') => if inR j then some (rangeD 0 j.toNat, none, ρ') else none
  | _ => none
def rng2 (m : DM) : IM := fun ρ => match m ρ with
  | some ([.int i, .int j], ρ') => if inR i && inR j then some (rangeD i (j - i).toNat, none, ρ') else none
  | _ => none
theorem ie_range1 {dm : DM} {p : Pos} (hg : Gl X "range") (hm : X.mg "range" = none) (h : DE X [a] dm) (hs : starEach [a] X.env = [(false, eval a X.env)] := by rfl) : IE X tg (.Call (.Name "range" p) [a] [] pos) [] (rng1 dm) := by
  refine ⟨pi_imp (pi_range1 hg hm h.pa hs) fun σ H R ⟨Fr, F, ρ, ds, lk, ρ', Rr, em, k⟩ => ?_, fun ρ ds j d ρ' em => ?_⟩
  · unfold rng1 at em
    split at em
    · rename_i j ρ1 e1
      split at em
      · rename_i hj
        cases em
        refine ⟨Fr, F, ρ, _, _, Rr, e1, fun F1 H1 vs q1 R1 r => ?_⟩
        cases r with
        | cons r1 r2 =>
          cases r2; cases r1
          exact ⟨j, rfl, (inR_iff hj).1, (inR_iff hj).2, k Fr F1 H1 _ q1 R1 rfl (iter_range 0 _)⟩
      · cases em
    · cases em
  · exfalso
    unfold rng1 at em
    split at em
    · split at em <;> cases em
    · cases em
theorem ie_range2 {dm : DM} {p : Pos} (hg : Gl X "range") (hm : X.mg "range" = none) (h : DE X [a, b] dm) (hs : starEach [a, b] X.env = [(false, eval a X.env), (false, eval b X.env)] := by rfl) (hs2 : starEach [b] X.env = [(false, eval b X.env)] := by rfl) :
    IE X tg (.Call (.Name "range" p) [a, b] [] pos) [] (rng2 dm) := by
  refine ⟨pi_imp (pi_range2 hg hm h.pa hs hs2) fun σ H R ⟨Fr, F, ρ, ds, lk, ρ', Rr, em, k⟩ => ?_, fun ρ ds j d ρ' em => ?_⟩
  · unfold rng2 at em
    split at em
    · rename_i i j ρ1 e1
      split at em
      · rename_i hj
        cases em
        rw [Bool.and_eq_true] at hj
        refine ⟨Fr, F, ρ, _, _, Rr, e1, fun F1 H1 vs q1 R1 r => ?_⟩
        cases r with
        | cons r1 r2 =>
          cases r2 with
          | cons r2 r3 =>
            cases r3; cases r1; cases r2
            exact ⟨i, j, rfl, ⟨(inR_iff hj.1).1, (inR_iff hj.1).2, (inR_iff hj.2).1, (inR_iff hj.2).2⟩, k Fr F1 H1 _ q1 R1 rfl (iter_range i _)⟩
      · cases em
    · cases em
  · exfalso
    unfold rng2 at em
    split at em
    · split at em <;> cases em
    · cases em

/-! comprehensions -/
@[simp] def wipeR (ρ : Rho) : List Nat → Rho
  | [] => ρ
  | v :: vs => (wipeR ρ vs).set v none
@[simp] def backR (ρ0 ρ : Rho) : List Nat → Rho
  | [] => ρ
  | v :: vs => (backR ρ0 ρ vs).set v (ρ0[v]?.getD none)
/-- these slots hold no object -/
@[simp] def bare (ρ : Rho) (vs : List Nat) : Bool := vs.all fun v => match ρ[v]? with
  | some (some sv) => !sv.ob
  | _ => true
def compL (vs : List Nat) (g : D → Rho → Option Rho) (t : TM) (el : VM) : List D → List D → Rho → Option (List D × Rho)
  | [], acc, ρ => some (acc, ρ)
  | d :: ds, acc, ρ => match g d ρ with
    | some ρ1 => match t ρ1 with
      | some (true, ρ2) => match el ρ2 with
        | some (y, ρ3) => if acc.length < sizeLine then compL vs g t el ds (acc ++ [y]) (wipeR ρ3 vs) else none
        | none => none
      | some (false, ρ2) => compL vs g t el ds acc (wipeR ρ2 vs)
      | none => none
    | none => none
def compM (vs : List Nat) (it : IM) (g : D → Rho → Option Rho) (t : TM) (el : VM) : EM := fun ρ => match it ρ with
  | some (ds, lk, ρ1) => if bare ρ1 vs then match compL vs g t el ds [] (wipeR ρ1 vs) with
    | some (acc, ρ2) => match unlock lk (backR ρ1 ρ2 vs) with
      | some ρ3 => some (.tmp (.lst acc), ρ3)
      | none => none
    | none => none else none
  | none => none
def yesM : TM := fun ρ => some (true, ρ)
structure IfE (X : Cx) (ifs : List Expr) (t : TM) : Prop where
  pts : PTs X ifs (tT X.K t)
theorem pts_imp {ifs : List Expr} {t t' : TT} (h : PTs X ifs t) (w : ∀ σ H Q, t' σ H Q → t σ H Q) : PTs X ifs t' := ⟨fun pins s σ H Q I q => h.run pins s σ H Q I (w σ H Q q)⟩
theorem if_nil : IfE X [] yesM := ⟨pts_imp pts_nil fun σ H Q ⟨Fr, F, ρ, b, ρ', R, em, k⟩ => by cases em; exact k F H (Same.refl F) R⟩
theorem if_one {c : Expr} {t : TM} (h : TeE X c t) : IfE X [c] t := ⟨pts_one h.pt⟩

theorem wipe_get {σ : St} {i : Nat} : ∀ {vs : List Nat}, (wipe σ vs)[i]? = if i ∈ vs then (if i < σ.length then some none else none) else σ[i]?
  | [] => by rw [if_neg (by simp)]; rfl
  | v :: vs => by
    unfold wipe
    rw [get_set_of, wipe_length, wipe_get (vs := vs)]
    by_cases e : v = i
    · subst e; simp
    · have ne : ¬ i = v := fun z => e z.symm
      simp [e, ne]
theorem wipeR_get {ρ : Rho} {i : Nat} : ∀ {vs : List Nat}, (wipeR ρ vs)[i]? = if i ∈ vs then (if i < ρ.length then some none else none) else ρ[i]?
  | [] => by rw [if_neg (by simp)]; rfl
  | v :: vs => by
    have hl : (wipeR ρ vs).length = ρ.length := by
      clear i
      induction vs with
      | nil => rfl
      | cons w ws ih => unfold wipeR; rw [List.length_set, ih]
    unfold wipeR
    rw [get_set_of, hl, wipeR_get (vs := vs)]
    by_cases e : v = i
    · subst e; simp
    · have ne : ¬ i = v := fun z => e z.symm
      simp [e, ne]
theorem wipeR_len (ρ : Rho) : ∀ vs : List Nat, (wipeR ρ vs).length = ρ.length
  | [] => rfl
  | v :: vs => by unfold wipeR; rw [List.length_set, wipeR_len ρ vs]
theorem backR_len (ρ0 ρ : Rho) : ∀ vs : List Nat, (backR ρ0 ρ vs).length = ρ.length
  | [] => rfl
  | v :: vs => by unfold backR; rw [List.length_set, backR_len ρ0 ρ vs]
theorem backR_get {ρ0 ρ : Rho} {i : Nat} : ∀ {vs : List Nat}, (backR ρ0 ρ vs)[i]? = if i ∈ vs then (if i < ρ.length then some (ρ0[i]?.getD none) else none) else ρ[i]?
  | [] => by rw [if_neg (by simp)]; rfl
  | v :: vs => by
    unfold backR
    rw [get_set_of, backR_len, backR_get (vs := vs)]
    by_cases e : v = i
    · subst e; simp
    · have ne : ¬ i = v := fun z => e z.symm
      simp [e, ne]
theorem wipe_keep {W vs : List Nat} {σ σ2 : St} (k : Keep W (wipe σ vs) σ2) (h : ∀ i ∈ W, i ∈ vs) : wipe σ2 vs = wipe σ vs := by
  apply List.ext_getElem?
  intro i
  rw [wipe_get, wipe_get]
  have hl : σ2.length = σ.length := by rw [k.1, wipe_length]
  by_cases hi : i ∈ vs
  · rw [if_pos hi, if_pos hi, hl]
  · rw [if_neg hi, if_neg hi, k.2 i (fun z => hi (h i z)), wipe_get, if_neg hi]
/-- the slots of vs forgotten on both sides -/
theorem Rel.wipes {K : PySem.W.Frag} {Fr : Frm} {F H : Hp} {ρ : Rho} {σ : St} (R : Rel K Fr F ρ σ H) (vs : List Nat) : Rel K Fr F (wipeR ρ vs) (wipe σ vs) H := by
  have q : ∀ {i : Nat} {sv : SV}, (wipeR ρ vs)[i]? = some (some sv) → i ∉ vs ∧ ρ[i]? = some (some sv) ∧ (wipe σ vs)[i]? = σ[i]? := fun {i sv} e => by
    rw [wipeR_get] at e
    by_cases hi : i ∈ vs
    · rw [if_pos hi] at e
      split at e <;> cases e
    · rw [if_neg hi] at e
      exact ⟨hi, e, by rw [wipe_get, if_neg hi]⟩
  refine ⟨R.fr, R.f, R.dj, fun i sv e => ?_, fun i j s t e1 e2 x1 x2 e3 => ?_, by rw [wipeR_len, wipe_length]; exact R.len⟩
  · obtain ⟨_, e1, e2⟩ := q e
    rw [e2]; exact R.slot i sv e1
  · obtain ⟨_, z1, y1⟩ := q e1
    obtain ⟨_, z2, y2⟩ := q e2
    rw [y1, y2] at e3
    exact R.uniq i j s t z1 z2 x1 x2 e3
/-- .. and come back, an object less hidden -/
theorem Rel.back {K : PySem.W.Frag} {Fr : Frm} {F1 F H1 H : Hp} {ρ1 ρ : Rho} {σ : St} {vs : List Nat} {p : Addr} {o : HO} (R1 : Rel K Fr F1 ρ1 σ H1) (hp : Fr p = none) (R : Rel K (Fr.hide p o) F ρ (wipe σ vs) H) (q : Same F1 F) (hb : bare ρ1 vs = true) : Rel K Fr F (backR ρ1 ρ vs) σ H := by
  have bar : ∀ {i : Nat} {sv : SV}, i ∈ vs → ρ1[i]? = some (some sv) → sv.ob = false := fun {i sv} hi e => by
    have := List.all_eq_true.mp hb i hi
    rw [e] at this
    simpa using this
  have g : ∀ {i : Nat} {sv : SV}, (backR ρ1 ρ vs)[i]? = some (some sv) → (i ∈ vs ∧ ρ1[i]? = some (some sv) ∧ sv.ob = false) ∨ (i ∉ vs ∧ ρ[i]? = some (some sv) ∧ (wipe σ vs)[i]? = σ[i]?) := fun {i sv} e => by
    rw [backR_get] at e
    by_cases hi : i ∈ vs
    · rw [if_pos hi] at e
      split at e
      · have e2 : ρ1[i]?.getD none = some sv := Option.some.inj e
        have e3 : ρ1[i]? = some (some sv) := by
          cases z : ρ1[i]? with
          | none => rw [z] at e2; cases e2
          | some w => rw [z] at e2; exact congrArg some e2
        exact .inl ⟨hi, e3, bar hi e3⟩
      · cases e
    · rw [if_neg hi] at e
      exact .inr ⟨hi, e, by rw [wipe_get, if_neg hi]⟩
  have up : ∀ {b : Addr} {u : HO}, Fr b = some u → (Fr.hide p o) b = some u := fun {b u} z => by
    show L2.upd Fr.h p o b = some u
    rw [upd_ne (ne_of_none z hp)]; exact z
  have dn : ∀ {b : Addr}, (Fr.hide p o) b = none → Fr b = none := fun {b} z => by
    have z : L2.upd Fr.h p o b = none := z
    by_cases e : b = p
    · subst e; exact hp
    · rw [upd_ne e] at z; exact z
  have vis : ∀ {b : Addr} {u : HO}, ((Fr.hide p o) b = some u ∧ ¬ (Fr.hide p o).hid b) → (Fr b = some u ∧ ¬ Fr.hid b) := fun {b u} ⟨z1, z2⟩ => by
    have ne : b ≠ p := fun e => z2 (.inr e)
    have z1 : L2.upd Fr.h p o b = some u := z1
    rw [upd_ne ne] at z1
    exact ⟨z1, fun z => z2 (.inl z)⟩
  refine ⟨fun b u z => R.fr b u (up z), R.f, fun b u z => R.dj b u (up z), fun i sv e => ?_, fun i j s t e1 e2 x1 x2 e3 => ?_, ?_⟩
  · rcases g e with ⟨hi, e1, x⟩ | ⟨hi, e1, e2⟩
    · obtain ⟨v, ev, s⟩ := R1.slot i sv e1
      refine ⟨v, ev, ?_⟩
      cases sv with
      | val d => exact Rep.mono q s
      | own d => cases x
      | bor d => cases x
      | lck d => cases x
    · obtain ⟨v, ev, s⟩ := R.slot i sv e1
      rw [e2] at ev
      refine ⟨v, ev, ?_⟩
      cases sv with
      | val d => exact s
      | own d => obtain ⟨b, u, z1, z2, z3, z4, z5⟩ := s; exact ⟨b, u, z1, z2, z3, z4, dn z5⟩
      | bor d => obtain ⟨b, u, z1, z2, z3⟩ := s; exact ⟨b, u, z1, vis z2, z3⟩
      | lck d => obtain ⟨b, u, z1, z2, z3⟩ := s; exact ⟨b, u, z1, vis z2, z3⟩
  · rcases g e1 with ⟨_, _, y1⟩ | ⟨h1, z1, y1⟩
    · cases s with
      | val d => cases x1
      | own d => cases y1
      | bor d => cases x1
      | lck d => cases y1
    · rcases g e2 with ⟨_, _, y2⟩ | ⟨h2, z2, y2⟩
      · rw [x2] at y2; cases y2
      · exact R.uniq i j s t z1 z2 x1 x2 (by rw [y1, y2]; exact e3)
  · rw [backR_len]
    have := R.len
    rw [wipe_length] at this
    exact this
/-- a hidden object, new -/
theorem Rel.hide {K : PySem.W.Frag} {Fr : Frm} {F H : Hp} {ρ : Rho} {σ : St} {p : Addr} {o : HO} (R : Rel K Fr F ρ σ H) (h : H p = none) : Rel K (Fr.hide p o) F ρ σ (upd H p o) := by
  have hF : F p = none := R.f.free h
  have hFr : Fr p = none := R.fr.free h
  refine ⟨fun b u z => ?_, fun b u z => ?_, fun b u z => ?_, fun i sv e => ?_, R.uniq, R.len⟩
  · have z : L2.upd Fr.h p o b = some u := z
    by_cases e : b = p
    · subst e; rw [upd_same] at z ⊢; exact z
    · rw [upd_ne e] at z ⊢; exact R.fr b u z
  · rw [upd_ne (ne_of_none z hF)]; exact R.f b u z
  · have z : L2.upd Fr.h p o b = some u := z
    by_cases e : b = p
    · subst e; exact hF
    · rw [upd_ne e] at z; exact R.dj b u z
  · obtain ⟨v, ev, s⟩ := R.slot i sv e
    have np : ∀ {b : Addr} {u : HO}, H b = some u → b ≠ p := fun z => ne_of_none z h
    refine ⟨v, ev, ?_⟩
    cases sv with
    | val d => exact s
    | own d =>
      obtain ⟨b, u, z1, z2, z3, z4, z5⟩ := s
      exact ⟨b, u, z1, by rw [upd_ne (np z2)]; exact z2, z3, z4, (upd_ne (np z2)).trans z5⟩
    | bor d =>
      obtain ⟨b, u, z1, z2, z3⟩ := s
      have ne := ne_of_none z2.1 hFr
      exact ⟨b, u, z1, ⟨(upd_ne ne).trans z2.1, fun z => z.elim z2.2 ne⟩, z3⟩
    | lck d =>
      obtain ⟨b, u, z1, z2, z3⟩ := s
      have ne := ne_of_none z2.1 hFr
      exact ⟨b, u, z1, ⟨(upd_ne ne).trans z2.1, fun z => z.elim z2.2 ne⟩, z3⟩
/-- the hidden object changes -/
theorem Rel.rehide {K : PySem.W.Frag} {Fr : Frm} {F H : Hp} {ρ : Rho} {σ : St} {p : Addr} {o u : HO} (R : Rel K (Fr.hide p o) F ρ σ H) : Rel K (Fr.hide p u) F ρ σ (upd H p u) := by
  have hF : F p = none := R.dj p o upd_same
  have same : ∀ {b : Addr}, b ≠ p → (Fr.hide p u) b = (Fr.hide p o) b := fun e => (upd_ne e).trans (upd_ne e).symm
  refine ⟨fun b w z => ?_, fun b w z => ?_, fun b w z => ?_, fun i sv e => ?_, R.uniq, R.len⟩
  · by_cases e : b = p
    · subst e
      have z : L2.upd Fr.h b u b = some w := z
      rw [upd_same] at z ⊢; exact z
    · rw [upd_ne e]; exact R.fr b w ((same e).symm.trans z)
  · rw [upd_ne (ne_of_none z hF)]; exact R.f b w z
  · by_cases e : b = p
    · subst e; exact hF
    · exact R.dj b w ((same e).symm.trans z)
  · obtain ⟨v, ev, s⟩ := R.slot i sv e
    refine ⟨v, ev, ?_⟩
    cases sv with
    | val d => exact s
    | own d =>
      obtain ⟨b, w, z1, z2, z3, z4, z5⟩ := s
      have ne : b ≠ p := fun z => by
        subst z
        have z5 : L2.upd Fr.h b o b = none := z5
        rw [upd_same] at z5; cases z5
      exact ⟨b, w, z1, by rw [upd_ne ne]; exact z2, z3, z4, (same ne).trans z5⟩
    | bor d =>
      obtain ⟨b, w, z1, z2, z3⟩ := s
      have ne : b ≠ p := fun z => z2.2 (.inr z)
      exact ⟨b, w, z1, ⟨(same ne).trans z2.1, z2.2⟩, z3⟩
    | lck d =>
      obtain ⟨b, w, z1, z2, z3⟩ := s
      have ne : b ≠ p := fun z => z2.2 (.inr z)
      exact ⟨b, w, z1, ⟨(same ne).trans z2.1, z2.2⟩, z3⟩

theorem lc_read {L vs : List Nat} {it : IM} {g : D → Rho → Option Rho} {t : TM} {el : VM} (hW : ∀ i ∈ W, i ∈ vs) {σ : St} {H : Hp} {Q : VK} (h : tE X.K (compM vs it g t el) σ H Q) :
    tLc (tI X.K it) (tG X.K W g) (tT X.K t) (tV X.K el) vs σ H Q := by
  obtain ⟨Fr, F, ρ, o, ρ', R, em, k⟩ := h
  unfold compM at em
  split at em
  · rename_i ds lk ρ1 e1
    split at em
    · rename_i hb
      split at em
      · rename_i acc ρ2 e2
        split at em
        · rename_i ρ3 e3
          cases em
          refine ⟨Fr, F, ρ, ds, lk, ρ1, R, e1, fun Fr' F1 H1 J q1 R1 l ok p hp => ?_⟩
          have hFr' : Fr' p = none := R1.fr.free hp
          refine ⟨fun i n H2 => ∃ F2 ρx vacc ac, Same F1 F2 ∧ Rel X.K (Fr'.hide p (.lst vacc)) F2 ρx (wipe σ vs) H2 ∧ Reps X.K F2 vacc ac ∧ i ≤ ds.length ∧ n = ds.length - i ∧ compL vs g t el (ds.drop i) ac ρx = some (acc, ρ2),
            ⟨ds.length, F1, wipeR ρ1 vs, [], [], Same.refl F1, (R1.wipes vs).hide hp, .nil, Nat.zero_le _, rfl, e2⟩, ?_⟩
          rintro i n H2 ⟨F2, ρx, vacc, ac, q2, R2, rs, hle, rfl, e4⟩
          have frS : Same Fr'.h H2 := fun b u z => R2.fr b u ((upd_ne (ne_of_none z hFr')).trans z)
          obtain ⟨item, stop⟩ := ok F2 H2 q2 frS R2.f
          by_cases hlt : i < ds.length
          · rw [List.drop_eq_getElem_cons hlt, compL] at e4
            obtain ⟨go, yl⟩ := item i _ (List.getElem?_eq_getElem hlt)
            refine .inr ⟨go, fun H3 => ∃ F3 ρx vacc ac, Same F1 F3 ∧ Rel X.K (Fr'.hide p (.lst vacc)) F3 ρx (wipe σ vs) H3 ∧ Reps X.K F3 vacc ac ∧ compL vs g t el (ds.drop (i + 1)) ac ρx = some (acc, ρ2),
              fun H3 ⟨F3, ρy, va, ay, z1, z2, z3, z4⟩ => ⟨ds.length - (i + 1), by omega, F3, ρy, va, ay, z1, z2, z3, hlt, rfl, z4⟩, fun x H' y => ?_⟩
            obtain ⟨F3, q3, q4, tr, rx⟩ := yl x H' y
            split at e4
            · rename_i ρ4 e5
              refine ⟨Fr'.hide p (.lst vacc), F3, ρx, _, ρ4, tr _ _ _ R2, rx, e5, fun F4 H4 σ4 q5 R4 k4 => ⟨wipe_keep k4 hW, ?_⟩⟩
              have hw : wipe σ4 vs = wipe σ vs := wipe_keep k4 hW
              split at e4
              · rename_i ρ5 e6
                split at e4
                · rename_i y ρ6 e7
                  split at e4
                  · rename_i hz
                    refine ⟨_, F4, ρ4, _, _, R4, e6, fun F5 H5 q6 R5 => iteT ⟨_, F5, ρ5, _, _, R5, e7, fun F6 H6 yv q7 R6 ry => ?_⟩⟩
                    have rs6 := rs.mono (((q3.trans q5).trans q6).trans q7)
                    refine ⟨vacc, R6.fr p _ upd_same, by rw [rs.length]; exact hz, F6, wipeR ρ6 vs, vacc ++ [yv], ac ++ [y], (((q2.trans q3).trans q5).trans q6).trans q7, ?_, rs6.append (.cons ry .nil), e4⟩
                    rw [← hw]
                    exact (R6.rehide (u := .lst (vacc ++ [yv]))).wipes vs
                  · cases e4
                · cases e4
              · rename_i ρ5 e6
                refine ⟨_, F4, ρ4, _, _, R4, e6, fun F5 H5 q6 R5 => iteF ⟨F5, wipeR ρ5 vs, vacc, ac, ((q2.trans q3).trans q5).trans q6, ?_, rs.mono ((q3.trans q5).trans q6), e4⟩⟩
                rw [← hw]
                exact R5.wipes vs
              · cases e4
            · cases e4
          · have ei : i = ds.length := by omega
            subst ei
            rw [List.drop_length, compL] at e4
            cases e4
            refine .inl ⟨stop, ?_⟩
            have R3 := R1.back hFr' R2 q2 hb
            have hF2 : F2 p = none := R2.dj p _ upd_same
            have w : ORel X.K Fr' F2 (backR ρ1 ρ2 vs) σ H2 (.ref p) (.tmp (.lst acc)) := by
              refine ⟨p, _, rfl, R2.fr p _ upd_same, .lst rs, hF2, hFr', fun i e z1 z2 => ?_⟩
              rw [backR_get] at z1
              by_cases hi : i ∈ vs
              · rw [if_pos hi] at z1
                split at z1
                · have z3 : ρ1[i]?.getD none = some (.own e) := Option.some.inj z1
                  have z4 : ρ1[i]? = some (some (.own e)) := by
                    cases z : ρ1[i]? with
                    | none => rw [z] at z3; cases z3
                    | some w => rw [z] at z3; exact congrArg some z3
                  have := List.all_eq_true.mp hb i hi
                  rw [z4] at this
                  cases this
                · cases z1
              · rw [if_neg hi] at z1
                obtain ⟨v, ev, a, u, rfl, _, _, _, y5⟩ := R2.slot i _ z1
                rw [wipe_get, if_neg hi, z2] at ev
                cases ev
                have y5 : L2.upd Fr'.h p (.lst vacc) p = none := y5
                rw [upd_same] at y5
                cases y5
            exact k F2 H2 _ (q1.trans q2) (l.open q2 R3 (fun _ _ _ => rfl) e3) (l.orel e3 (fun _ _ _ => rfl) w)
        · cases em
      · cases em
    · cases em
  · cases em
theorem oe_comp {elt iter : Expr} {ifs : List Expr} {scope : Scope} {own : List (Str × Nat)} {L : List Nat} {it : IM} {g : D → Rho → Option Rho} {t : TM} {el : EM} (hc : X.calm = true) (hN : X.N.Nodup) (hi : IE X tg iter L it) (ok : BlkOk X.N X.env.scope scope own)
    (hg : ∀ (s : Shared) (H : Hp) (C : Addr) (cl : List (Str × Addr)) (fp : List Addr), GE (X.blk s H scope (compEnvC scope cl C X.env) fp) tg W g)
    (ht : ∀ (s : Shared) (H : Hp) (C : Addr) (cl : List (Str × Addr)) (fp : List Addr), IfE (X.blk s H scope (compEnvC scope cl C X.env) fp) ifs t)
    (he : ∀ (s : Shared) (H : Hp) (C : Addr) (cl : List (Str × Addr)) (fp : List Addr), OE (X.blk s H scope (compEnvC scope cl C X.env) fp) elt el)
    (hW : ∀ i ∈ W, i ∈ own.map (·.2) := by decide) (hs : ∀ x, foldedSetIterable iter X.env x = pure x := by intro _; rfl) : OE X (.ListComp elt [⟨tg, iter, ifs, 0⟩] scope pos) (compM (own.map (·.2)) it g t (esc el)) :=
  ⟨pe_imp (pe_lc hc hN hi.pi ok (fun s H C cl fp => (hg s H C cl fp).pg) (fun s H C cl fp => (ht s H C cl fp).pts) (fun s H C cl fp => (he s H C cl fp).ve.pe) hs) fun σ H Q h => lc_read (L := L) hW h⟩
theorem se_setComp (i : Nat) {y : Str} {py spos : Pos} {elt iter : Expr} {ifs : List Expr} {scope : Scope} {own : List (Str × Nat)} {L : List Nat} {it : IM} {g : D → Rho → Option Rho} {t : TM} {el : EM} (hc : X.calm = true) (hN : X.N.Nodup) (hi : IE X tg iter L it) (ok : BlkOk X.N X.env.scope scope own)
    (hg : ∀ (s : Shared) (H : Hp) (C : Addr) (cl : List (Str × Addr)) (fp : List Addr), GE (X.blk s H scope (compEnvC scope cl C X.env) fp) tg W g)
    (ht : ∀ (s : Shared) (H : Hp) (C : Addr) (cl : List (Str × Addr)) (fp : List Addr), IfE (X.blk s H scope (compEnvC scope cl C X.env) fp) ifs t)
    (he : ∀ (s : Shared) (H : Hp) (C : Addr) (cl : List (Str × Addr)) (fp : List Addr), OE (X.blk s H scope (compEnvC scope cl C X.env) fp) elt el)
    (hsw : swapsWith (.ListComp elt [⟨tg, iter, ifs, 0⟩] scope pos) (some (.Name y py)) spos.line X.env = pure true)
    (hW : ∀ i ∈ W, i ∈ own.map (·.2) := by decide) (hy : X.N[i]? = some y := by rfl) (hyl : X.env.scope.names.lookup y = some .local := by rfl) (hs : ∀ x, foldedSetIterable iter X.env x = pure x := by intro _; rfl) :
    SE X (.Assign [.Name y py] (.ListComp elt [⟨tg, iter, ifs, 0⟩] scope pos) spos) [i] (setM i (compM (own.map (·.2)) it g t (esc el))) :=
  ⟨ps_imp (ps_setLc hc hN hy hyl hsw hi.pi ok (fun s H C cl fp => (hg s H C cl fp).pg) (fun s H C cl fp => (ht s H C cl fp).pts) (fun s H C cl fp => (he s H C cl fp).ve.pe) hs) fun Dn σ H h => setM_ok (fun Q z => lc_read (L := L) hW z) h⟩
end
end Ev

set_option Elab.async false
set_option linter.all false
set_option maxRecDepth 100000
/-! Ev. G: defs and their calls. -/
set_option autoImplicit false
namespace Ev
open PySem PySem.Spec PyProof.Rows L2

/-- a def: from what its parameters hold to what it hands back, and what the parameters that it changes hold then -/
abbrev Fn := List SV → Option (Opd × Rho)
/-- the promise: np parameters -/
def spF (K : PySem.W.Frag) (fn : Fn) (np : Nat) : Sp := fun vs H Q _ => vs.length = np ∧ ∃ (Fr : Frm) (F : Hp) (args : List SV) (o : Opd) (post : Rho), args.length = np ∧ Rel K Fr F (args.map some) (vs.map some) H ∧ fn args = some (o, post) ∧
  ∀ F' H' v, Same F F' → Rel K Fr F' post (vs.map some) H' → ORel K Fr F' post (vs.map some) H' v o → Q v H'

/-! a def by its body -/
@[simp] def keepIO (io : List Nat) (ρ : Rho) : Nat → Rho
  | 0 => []
  | n + 1 => keepIO io ρ n ++ [if n ∈ io then ρ[n]?.getD none else none]
def retF (np : Nat) (io : List Nat) (o : Opd) (ρ : Rho) : Option (Opd × Rho) := match o with
  | .val d => some (.val d, keepIO io ρ np)
  | .tmp d => some (.tmp d, keepIO io ρ np)
  | .var i => match ρ[i]? with
    | some (some (.own d)) => if np ≤ i then some (.tmp d, keepIO io ρ np) else some (.val d, keepIO io (ρ.set i (some (.val d))) np)
    | some (some (.val d)) => some (.val d, keepIO io ρ np)
    | _ => none
def fnM (np nl : Nat) (io : List Nat) (body : SM) : Fn := fun args => match body (args.map some ++ List.replicate nl none) with
  | some (.rt o, ρ) => retF np io o ρ
  | some (.nx, ρ) => some (.val .non, keepIO io ρ np)
  | _ => none
theorem keepIO_len (io : List Nat) (ρ : Rho) : ∀ n : Nat, (keepIO io ρ n).length = n
  | 0 => rfl
  | n + 1 => by rw [keepIO, List.length_append, keepIO_len io ρ n]; rfl
theorem keepIO_get {io : List Nat} {ρ : Rho} {i : Nat} {sv : SV} : ∀ {n : Nat}, (keepIO io ρ n)[i]? = some (some sv) → i ∈ io ∧ i < n ∧ ρ[i]? = some (some sv)
  | 0, h => by simp [keepIO] at h
  | n + 1, h => by
    rw [keepIO] at h
    by_cases hi : i < n
    · rw [List.getElem?_append_left (by rw [keepIO_len]; exact hi)] at h
      obtain ⟨a, b, c⟩ := keepIO_get h
      exact ⟨a, by omega, c⟩
    · rw [List.getElem?_append_right (by rw [keepIO_len]; omega), keepIO_len] at h
      have hl := some_lt h
      simp only [List.length_singleton] at hl
      have e : i = n := by omega
      subst e
      rw [Nat.sub_self] at h
      have h2 : (if i ∈ io then ρ[i]?.getD none else none) = some sv := Option.some.inj h
      by_cases hm : i ∈ io
      · rw [if_pos hm] at h2
        refine ⟨hm, Nat.lt_succ_self i, ?_⟩
        cases z : ρ[i]? with
        | none => rw [z] at h2; cases h2
        | some w => rw [z] at h2; exact congrArg some h2
      · rw [if_neg hm] at h2; cases h2
section
variable {K : PySem.W.Frag} {Fr : Frm} {F H F' H' : Hp} {ρ ρ' : Rho} {σ : St} {v : V} {o : Opd} {d : D}
theorem Rel.pad (R : Rel K Fr F ρ σ H) (hl : ρ.length = σ.length) (n m : Nat) (hnm : n ≤ m) : Rel K Fr F (ρ ++ List.replicate n none) (σ ++ List.replicate m none) H := by
  have q : ∀ {i : Nat} {sv : SV}, (ρ ++ List.replicate n none)[i]? = some (some sv) → ρ[i]? = some (some sv) ∧ (σ ++ List.replicate m none)[i]? = σ[i]? := fun {i sv} e => by
    by_cases hi : i < ρ.length
    · rw [List.getElem?_append_left hi] at e
      exact ⟨e, List.getElem?_append_left (by omega)⟩
    · rw [List.getElem?_append_right (by omega), List.getElem?_replicate] at e
      split at e <;> cases e
  refine ⟨R.fr, R.f, R.dj, fun i sv e => ?_, fun i j s t e1 e2 x1 x2 e3 => ?_, by simp [hl]; omega⟩
  · obtain ⟨e1, e2⟩ := q e; rw [e2]; exact R.slot i sv e1
  · obtain ⟨z1, y1⟩ := q e1
    obtain ⟨z2, y2⟩ := q e2
    rw [y1, y2] at e3
    exact R.uniq i j s t z1 z2 x1 x2 e3
theorem Rel.keepIO (R : Rel K Fr F ρ σ H) {io : List Nat} {n : Nat} {τ : St} (hτ : ∀ i ∈ io, i < n → σ[i]? = τ[i]?) (hl : n ≤ τ.length) : Rel K Fr F (keepIO io ρ n) τ H := by
  refine ⟨R.fr, R.f, R.dj, fun i sv e => ?_, fun i j s t e1 e2 x1 x2 e3 => ?_, by rw [keepIO_len]; exact hl⟩
  · obtain ⟨h1, h2, h3⟩ := keepIO_get e
    rw [← hτ i h1 h2]; exact R.slot i sv h3
  · obtain ⟨h1, h2, h3⟩ := keepIO_get e1
    obtain ⟨g1, g2, g3⟩ := keepIO_get e2
    rw [← hτ i h1 h2, ← hτ j g1 g2] at e3
    exact R.uniq i j s t h3 g3 x1 x2 e3
theorem ORel.keepIO {io : List Nat} {n : Nat} {τ : St} (hτ : ∀ i ∈ io, i < n → σ[i]? = τ[i]?) (r : ORel K Fr F ρ σ H v (.tmp d)) : ORel K Fr F (Ev.keepIO io ρ n) τ H v (.tmp d) := by
  obtain ⟨a, u, e, h1, h2, h3, h4, h5⟩ := r
  refine ⟨a, u, e, h1, h2, h3, h4, fun i e1 e2 => ?_⟩
  obtain ⟨g1, g2, g3⟩ := keepIO_get e2
  rw [← hτ i g1 g2]
  exact h5 i _ g3
end
section
variable {P : Program} {w : World} {K : PySem.W.Frag} {mg : Str → Option Value} {base : Heap}
/-- THE RULE for a def -/
theorem fn_ok {x qual : Str} {st : Stmt} {f : Addr} {fd : FuncData} {N ps : List Str} {k np nl : Nat} {io : List Nat} {m : SM} (Fu : Fun K x qual st f fd) (S : FnScope N ps (defScope st)) (hnp : ps.length = np) (hnl : np + nl = N.length)
    (hbody : ∀ (cdv : Value) (A : Around) (outer : List PySem.Env) (s : Shared) (H : Hp) (E : XK), Room k (A.deeper (envOfC qual (defScope st) s.heap.objs.size f cdv)) →
      ∃ W, (∀ i ∈ io, i ∉ W) ∧ SsE (cxOf CX0 P w K mg base N qual (defScope st) f cdv A outer s H E).nox (defBody st) W m) : FnOk P w K mg base CX0 (k + 1) f fd ps (spF K (fnM np nl io m) np) := by
  refine Fu.ok S (fun vs H Q E h => h.1.trans hnp.symm) (fun cdv A outer s H vs Q E hr h => ?_)
  obtain ⟨W, hio, hb⟩ := hbody cdv A outer s H E hr
  refine ⟨_, hb.pss, ?_⟩
  obtain ⟨hl, Fr, F, args, o, post, ha, R, ef, k⟩ := h
  unfold fnM at ef
  have R0 : Rel K Fr F (args.map some ++ List.replicate nl none) (L2.start N vs) H := by
    unfold L2.start
    exact R.pad (by simp [ha, hl]) _ _ (by omega)
  have gets : ∀ {σ' : St}, Keep W (L2.start N vs) σ' → ∀ i ∈ io, i < np → σ'[i]? = (vs.map some)[i]? := fun kp i hi hn => by
    rw [kp.2 i (hio i hi)]
    unfold L2.start
    rw [List.getElem?_append_left (by simpa [hl] using hn)]
  have lv : np ≤ (vs.map (some : V → Option V)).length := by simp [hl]
  show tS K W m _ (L2.start N vs) H
  split at ef
  · rename_i oo ρ1 e1
    refine ⟨Fr, F, _, _, _, R0, e1, fun F1 H1 σ1 q1 R1 k1 v r => ?_⟩
    have g := gets k1
    unfold retF at ef
    split at ef
    · rename_i d
      cases ef
      exact k F1 H1 v q1 (R1.keepIO g lv) r
    · rename_i d
      cases ef
      exact k F1 H1 v q1 (R1.keepIO g lv) (r.keepIO g)
    · rename_i i
      have r : σ1[i]? = some (some v) := r
      split at ef
      · rename_i d e2
        split at ef
        · rename_i hi
          cases ef
          obtain ⟨v', e3, a, u, ev, h1, h2, h3, h4⟩ := R1.slot i _ e2
          rw [r] at e3; cases e3
          refine k F1 H1 v q1 (R1.keepIO g lv) ⟨a, u, ev, h1, h2, h3, h4, fun j e5 e6 e7 => ?_⟩
          obtain ⟨g1, g2, g3⟩ := keepIO_get e6
          have := R1.uniq i j _ _ e2 g3 rfl rfl (by rw [r, g j g1 g2, e7])
          omega
        · cases ef
          obtain ⟨F2, q2, R2, r2⟩ := R1.escO (o := .var i) (v := v) (d := d) (ρ' := ρ1.set i (some (.val d))) r (by
            unfold escO
            simp only [e2])
          exact k F2 H1 v (q1.trans q2) (R2.keepIO g lv) r2
      · rename_i d e2
        cases ef
        obtain ⟨v', e3, h1⟩ := R1.slot i _ e2
        rw [r] at e3; cases e3
        exact k F1 H1 v q1 (R1.keepIO g lv) h1
      · cases ef
  · rename_i ρ1 e1
    cases ef
    exact ⟨Fr, F, _, _, _, R0, e1, fun F1 H1 σ1 q1 R1 k1 => k F1 H1 .non q1 (R1.keepIO (gets k1) lv) .non⟩
  · cases ef
end

/-! a call -/
def argOne (io : Bool) (o : Opd) (ρ : Rho) : Option SV := match o with
  | .val d => if io then none else some (.val d)
  | .var i => match ρ[i]? with
    | some (some (.val d)) => if io then none else some (.val d)
    | some (some (.own d)) => if io then some (.own d) else some (.bor d)
    | some (some (.bor d)) => if io then none else some (.bor d)
    | some (some (.lck d)) => if io then none else some (.bor d)
    | _ => none
  | .tmp _ => none
def argsAll (io : List Nat) (ρ : Rho) : Nat → List Opd → Option (List SV)
  | _, [] => some []
  | k, o :: os => match argOne (decide (k ∈ io)) o ρ with
    | some s => match argsAll io ρ (k + 1) os with
      | some ss => some (s :: ss)
      | none => none
    | none => none
def putBack (io : List Nat) (post : Rho) : Nat → List Opd → Rho → Option Rho
  | _, [], ρ => some ρ
  | k, o :: os, ρ => if k ∈ io then match o, post[k]? with
      | .var i, some (some (.own d)) => putBack io post (k + 1) os (ρ.set i (some (.own d)))
      | .var i, some (some (.val d)) => putBack io post (k + 1) os (ρ.set i (some (.val d)))
      | _, _ => none
    else putBack io post (k + 1) os ρ
/-- the names at the places of io, at the others -/
@[simp] def varsAt (io : List Nat) (b : Bool) : Nat → List Opd → List Nat
  | _, [] => []
  | k, .var i :: os => if decide (k ∈ io) = b then i :: varsAt io b (k + 1) os else varsAt io b (k + 1) os
  | k, _ :: os => varsAt io b (k + 1) os
@[simp] def nodupB : List Nat → Bool
  | [] => true
  | i :: is => !is.contains i && nodupB is
@[simp] def apartB : List Nat → List Nat → Bool
  | [], _ => true
  | i :: is, js => !js.contains i && apartB is js
@[simp] def exclOk (io : List Nat) (os : List Opd) : Bool := nodupB (varsAt io true 0 os) && apartB (varsAt io true 0 os) (varsAt io false 0 os)
def callM (fn : Fn) (io : List Nat) (am : AM) : EM := fun ρ => match am ρ with
  | some (os, ρ1) => if exclOk io os then match argsAll io ρ1 0 os with
    | some svs => match fn svs with
      | some (.val d, post) => match putBack io post 0 os ρ1 with
        | some ρ2 => some (.val d, ρ2)
        | none => none
      | some (.tmp d, post) => match putBack io post 0 os ρ1 with
        | some ρ2 => some (.tmp d, ρ2)
        | none => none
      | _ => none
    | none => none else none
  | none => none

theorem argsAll_get {io : List Nat} {ρ : Rho} : ∀ {k : Nat} {os : List Opd} {svs : List SV}, argsAll io ρ k os = some svs → svs.length = os.length ∧ ∀ p sv, svs[p]? = some sv → ∃ o, os[p]? = some o ∧ argOne (decide (k + p ∈ io)) o ρ = some sv
  | k, [], svs, h => by
    cases h
    exact ⟨rfl, fun p sv e => by simp at e⟩
  | k, o :: os, svs, h => by
    unfold argsAll at h
    split at h
    · rename_i s e1
      split at h
      · rename_i ss e2
        cases h
        obtain ⟨l, ih⟩ := argsAll_get e2
        refine ⟨by simp [l], fun p sv e => ?_⟩
        cases p with
        | zero => simp at e; subst e; exact ⟨o, rfl, e1⟩
        | succ p =>
          obtain ⟨o', g1, g2⟩ := ih p sv (by simpa using e)
          exact ⟨o', by simpa using g1, by rw [show k + (p + 1) = k + 1 + p by omega]; exact g2⟩
      · cases h
    · cases h
theorem putBack_len {io : List Nat} {post : Rho} : ∀ {k : Nat} {os : List Opd} {ρ ρ' : Rho}, putBack io post k os ρ = some ρ' → ρ'.length = ρ.length
  | k, [], ρ, ρ', h => by cases h; rfl
  | k, o :: os, ρ, ρ', h => by
    unfold putBack at h
    split at h
    · split at h
      · rw [putBack_len h, List.length_set]
      · rw [putBack_len h, List.length_set]
      · cases h
    · exact putBack_len h
theorem putBack_get {io : List Nat} {post : Rho} {i : Nat} {sv : SV} : ∀ {k : Nat} {os : List Opd} {ρ ρ' : Rho}, putBack io post k os ρ = some ρ' → ρ'[i]? = some (some sv) →
    (ρ[i]? = some (some sv) ∧ ∀ p, os[p]? = some (.var i) → k + p ∉ io) ∨ ∃ p, os[p]? = some (.var i) ∧ k + p ∈ io ∧ post[k + p]? = some (some sv) ∧ ((∃ d, sv = .own d) ∨ ∃ d, sv = .val d)
  | k, [], ρ, ρ', h, e => by
    cases h
    exact .inl ⟨e, fun p z => by simp at z⟩
  | k, o :: os, ρ, ρ', h, e => by
    have up : (∃ p, os[p]? = some (.var i) ∧ k + 1 + p ∈ io ∧ post[k + 1 + p]? = some (some sv) ∧ ((∃ d, sv = .own d) ∨ ∃ d, sv = .val d)) →
        ∃ p, (o :: os)[p]? = some (.var i) ∧ k + p ∈ io ∧ post[k + p]? = some (some sv) ∧ ((∃ d, sv = .own d) ∨ ∃ d, sv = .val d) := fun ⟨p, z1, z2, z3, z4⟩ =>
      ⟨p + 1, by simpa using z1, by rw [show k + (p + 1) = k + 1 + p by omega]; exact z2, by rw [show k + (p + 1) = k + 1 + p by omega]; exact z3, z4⟩
    unfold putBack at h
    by_cases hk : k ∈ io
    · rw [if_pos hk] at h
      have go : ∀ (i0 : Nat) (out : SV), o = .var i0 → post[k]? = some (some out) → ((∃ d, out = .own d) ∨ ∃ d, out = .val d) → putBack io post (k + 1) os (ρ.set i0 (some out)) = some ρ' →
          (ρ[i]? = some (some sv) ∧ ∀ p, (o :: os)[p]? = some (.var i) → k + p ∉ io) ∨ ∃ p, (o :: os)[p]? = some (.var i) ∧ k + p ∈ io ∧ post[k + p]? = some (some sv) ∧ ((∃ d, sv = .own d) ∨ ∃ d, sv = .val d) := fun i0 out eo ep eo2 h => by
        rcases putBack_get h e with ⟨z1, z2⟩ | z
        · rcases get_set_some z1 with ⟨rfl, z3, _⟩ | ⟨ne, z3⟩
          · cases z3
            exact .inr ⟨0, by rw [eo]; rfl, hk, ep, eo2⟩
          · refine .inl ⟨z3, fun p hp => ?_⟩
            cases p with
            | zero => simp at hp; rw [eo] at hp; cases hp; exact absurd rfl ne
            | succ p => rw [show k + (p + 1) = k + 1 + p by omega]; exact z2 p (by simpa using hp)
        · exact .inr (up z)
      split at h
      · rename_i i0 d ep; exact go i0 _ rfl ep (.inl ⟨d, rfl⟩) h
      · rename_i i0 d ep; exact go i0 _ rfl ep (.inr ⟨d, rfl⟩) h
      · cases h
    · rw [if_neg hk] at h
      rcases putBack_get h e with ⟨z1, z2⟩ | z
      · refine .inl ⟨z1, fun p hp => ?_⟩
        cases p with
        | zero => exact hk
        | succ p => rw [show k + (p + 1) = k + 1 + p by omega]; exact z2 p (by simpa using hp)
      · exact .inr (up z)
theorem varsAt_mem {io : List Nat} {b : Bool} {i : Nat} : ∀ {k : Nat} {os : List Opd} {p : Nat}, os[p]? = some (.var i) → decide (k + p ∈ io) = b → i ∈ varsAt io b k os
  | k, [], p, h, _ => by simp at h
  | k, o :: os, 0, h, hb => by
    simp at h; subst h
    unfold varsAt
    rw [if_pos (by simpa using hb)]
    exact List.mem_cons_self
  | k, o :: os, p + 1, h, hb => by
    have ih := varsAt_mem (k := k + 1) (os := os) (p := p) (by simpa using h) ((congrArg (fun z => decide (z ∈ io)) (show k + 1 + p = k + (p + 1) by omega)).trans hb)
    cases o with
    | var j =>
      unfold varsAt
      split
      · exact List.mem_cons_of_mem _ ih
      · exact ih
    | val d => exact ih
    | tmp d => exact ih
theorem varsAt_one {io : List Nat} {i : Nat} : ∀ {k : Nat} {os : List Opd} {p q : Nat}, nodupB (varsAt io true k os) = true → os[p]? = some (.var i) → os[q]? = some (.var i) → k + p ∈ io → k + q ∈ io → p = q
  | k, [], p, q, _, h, _, _, _ => by simp at h
  | k, o :: os, p, q, hn, h1, h2, m1, m2 => by
    have step : nodupB (varsAt io true (k + 1) os) = true := by
      cases o with
      | var j =>
        unfold varsAt at hn
        split at hn
        · unfold nodupB at hn; rw [Bool.and_eq_true] at hn; exact hn.2
        · exact hn
      | val d => exact hn
      | tmp d => exact hn
    have no : o = .var i → k ∈ io → ∀ r, os[r]? = some (.var i) → k + 1 + r ∈ io → False := fun e hk r z1 z2 => by
      subst e
      unfold varsAt at hn
      rw [if_pos (by simpa using hk)] at hn
      unfold nodupB at hn
      rw [Bool.and_eq_true] at hn
      have := varsAt_mem (io := io) (b := true) (k := k + 1) z1 (by simpa using z2)
      simp [this] at hn
    cases p with
    | zero =>
      cases q with
      | zero => rfl
      | succ q => exact (no (by simpa using h1) m1 q (by simpa using h2) (by rw [show k + 1 + q = k + (q + 1) by omega]; exact m2)).elim
    | succ p =>
      cases q with
      | zero => exact (no (by simpa using h2) m2 p (by simpa using h1) (by rw [show k + 1 + p = k + (p + 1) by omega]; exact m1)).elim
      | succ q =>
        exact congrArg (· + 1) (varsAt_one step (by simpa using h1) (by simpa using h2) (by rw [show k + 1 + p = k + (p + 1) by omega]; exact m1) (by rw [show k + 1 + q = k + (q + 1) by omega]; exact m2))
theorem apartB_of : ∀ {is js : List Nat} {i : Nat}, apartB is js = true → i ∈ is → i ∈ js → False
  | [], _, _, _, h, _ => by simp at h
  | j :: is, js, i, h, h1, h2 => by
    unfold apartB at h
    rw [Bool.and_eq_true] at h
    rcases List.mem_cons.mp h1 with rfl | h1
    · simp [h2] at h
    · exact apartB_of h.2 h1 h2
theorem excl_of {io : List Nat} {os : List Opd} (h : exclOk io os = true) {p q i : Nat} (hp : p ∈ io) (e1 : os[p]? = some (.var i)) (e2 : os[q]? = some (.var i)) : p = q := by
  unfold exclOk at h
  rw [Bool.and_eq_true] at h
  by_cases hq : q ∈ io
  · exact varsAt_one h.1 e1 e2 (by rw [Nat.zero_add]; exact hp) (by rw [Nat.zero_add]; exact hq)
  · exact (apartB_of h.2 (varsAt_mem e1 (by rw [Nat.zero_add]; simpa using hp)) (varsAt_mem e2 (by rw [Nat.zero_add]; simpa using hq))).elim

section
open Classical in
/-- the caller's own objects that the callee is not given to change -/
noncomputable def callFr (Fr : Frm) (ρ : Rho) (σ : St) (H : Hp) (ios : Nat → Prop) : Frm :=
  ⟨fun b => match Fr.h b with
    | some o => some o
    | none => if ∃ i d, ρ[i]? = some (some (.own d)) ∧ ¬ ios i ∧ σ[i]? = some (some (.ref b)) then H b else none, fun _ => False, fun _ h => h.elim⟩
variable {K : PySem.W.Frag} {Fr : Frm} {F H : Hp} {ρ : Rho} {σ : St} {ios : Nat → Prop}
theorem callFr_fr {b : Addr} {o : HO} (h : Fr b = some o) : (callFr Fr ρ σ H ios) b = some o := by
  show (match Fr.h b with | some o => some o | none => _) = some o
  rw [h]
theorem callFr_some (R : Rel K Fr F ρ σ H) {b : Addr} {o : HO} (h : (callFr Fr ρ σ H ios) b = some o) : H b = some o ∧ F b = none := by
  unfold callFr at h
  dsimp only at h
  split at h
  · rename_i u e
    cases h
    exact ⟨R.fr _ _ e, R.dj _ _ e⟩
  · split at h
    · rename_i e hc
      obtain ⟨i, d, e1, _, e2⟩ := hc
      obtain ⟨v, e3, a, u, ev, h1, h2, h3, h4⟩ := R.slot i _ e1
      rw [e2] at e3
      have : v = .ref b := (Option.some.inj (Option.some.inj e3)).symm
      rw [this] at ev
      cases ev
      exact ⟨h, h3⟩
    · cases h
theorem callFr_own {i : Nat} {d : D} {b : Addr} (e : ρ[i]? = some (some (.own d))) (hi : ¬ ios i) (hs : σ[i]? = some (some (.ref b))) (hF : Fr b = none) : (callFr Fr ρ σ H ios) b = H b := by
  show (match Fr.h b with | some o => some o | none => _) = H b
  rw [hF]
  exact if_pos ⟨i, d, e, hi, hs⟩
theorem callFr_io (R : Rel K Fr F ρ σ H) {i : Nat} {d : D} {b : Addr} (e : ρ[i]? = some (some (.own d))) (hi : ios i) (hs : σ[i]? = some (some (.ref b))) (hF : Fr b = none) : (callFr Fr ρ σ H ios) b = none := by
  show (match Fr.h b with | some o => some o | none => _) = none
  rw [hF]
  refine if_neg fun ⟨j, d', e1, e2, e3⟩ => ?_
  have := R.uniq i j _ _ e e1 rfl rfl (by rw [hs, e3])
  subst this
  exact e2 hi
end

section
variable {X : Cx} {e : Expr} {es : List Expr} {am : AM} {fn : Fn} {io : List Nat} {np k : Nat}
theorem nrel_get {K : PySem.W.Frag} {F : Hp} {σ : St} : ∀ {vs : List V} {os : List Opd} {p : Nat} {o : Opd}, NRels K F σ vs os → os[p]? = some o → ∃ v, vs[p]? = some v ∧ NRel K F σ v o
  | _, _, _, _, .nil, e => by simp at e
  | _, _, 0, _, .cons h _, e => by simp at e; subst e; exact ⟨_, rfl, h⟩
  | _, _, p + 1, o, .cons _ r, e => by
    obtain ⟨v, h1, h2⟩ := nrel_get (p := p) (o := o) r (by simpa using e)
    exact ⟨v, by simpa using h1, h2⟩
theorem call_read {σ : St} {H : Hp} {Q : VK} {E : XK} (h : tE X.K (callM fn io am) σ H Q) (hn : ∀ ρ os ρ', am ρ = some (os, ρ') → os.length = np) : tCall (spF X.K fn np) [] E (tA X.K am) σ H Q := by
  obtain ⟨Fr, F, ρ, o, ρ', R, em, kk⟩ := h
  unfold callM at em
  split at em
  · rename_i os ρ1 e1
    split at em
    · rename_i hx
      split at em
      · rename_i svs e2
        have main : ∀ (o : Opd) (post : Rho), fn svs = some (o, post) → (∀ i, o ≠ .var i) → putBack io post 0 os ρ1 = some ρ' → (∀ F' H' v, Same F F' → Rel X.K Fr F' ρ' σ H' → ORel X.K Fr F' ρ' σ H' v o → Q v H') →
            tCall (spF X.K fn np) [] E (tA X.K am) σ H Q := fun o post e3 hvar e4 kk => by
          refine ⟨Fr, F, ρ, os, ρ1, R, e1, fun F1 H1 vs q1 R1 rs => ?_⟩
          have hlen : os.length = np := hn _ _ _ e1
          have hvl : vs.length = os.length := Paired.length rs
          obtain ⟨svl, sget⟩ := argsAll_get e2
          let ios : Nat → Prop := fun i => ∃ p, p ∈ io ∧ os[p]? = some (.var i)
          -- a position's operand and value
          have opd : ∀ {p : Nat} {sv : SV}, svs[p]? = some sv → ∃ o v, os[p]? = some o ∧ vs[p]? = some v ∧ NRel X.K F1 σ v o ∧ argOne (decide (p ∈ io)) o ρ1 = some sv := fun {p sv} z => by
            obtain ⟨o, g1, g2⟩ := sget p sv z
            obtain ⟨v, g3, g4⟩ := nrel_get rs g1
            exact ⟨o, v, g1, g3, g4, by rw [Nat.zero_add] at g2; exact g2⟩
          -- an object handed over: its name
          have obj : ∀ {p : Nat} {sv : SV}, svs[p]? = some sv → sv.ob = true → ∃ i v t, os[p]? = some (.var i) ∧ vs[p]? = some v ∧ σ[i]? = some (some v) ∧ ρ1[i]? = some (some t) ∧ t.ob = true ∧ (sv.ex = true → t.ex = true ∧ p ∈ io ∧ ∃ d, t = .own d ∧ sv = .own d) ∧ (sv.ex = false → p ∉ io ∧ sv = .bor t.d) := fun {p sv} z hob => by
            obtain ⟨o, v, g1, g2, g3, g4⟩ := opd z
            cases o with
            | val d =>
              unfold argOne at g4
              dsimp only at g4
              split at g4
              · cases g4
              · cases g4; cases hob
            | tmp d => cases g4
            | var i =>
              unfold argOne at g4
              dsimp only at g4
              by_cases hp : p ∈ io
              · simp only [hp, decide_true, if_true] at g4
                split at g4
                · cases g4
                · rename_i d e5; cases g4; exact ⟨i, v, _, g1, g2, g3, e5, rfl, fun _ => ⟨rfl, hp, d, rfl, rfl⟩, fun z => by cases z⟩
                · cases g4
                · cases g4
                · cases g4
              · simp only [hp, decide_false, Bool.false_eq_true, if_false] at g4
                split at g4
                · cases g4; cases hob
                · rename_i d e5; cases g4; exact ⟨i, v, _, g1, g2, g3, e5, rfl, fun z => (by cases z), fun _ => ⟨hp, rfl⟩⟩
                · rename_i d e5; cases g4; exact ⟨i, v, _, g1, g2, g3, e5, rfl, fun z => (by cases z), fun _ => ⟨hp, rfl⟩⟩
                · rename_i d e5; cases g4; exact ⟨i, v, _, g1, g2, g3, e5, rfl, fun z => (by cases z), fun _ => ⟨hp, rfl⟩⟩
                · cases g4
          have R2 : Rel X.K (callFr Fr ρ1 σ H1 ios) F1 (svs.map some) (vs.map some) H1 := by
            have un : ∀ {p : Nat} {sv : SV}, (svs.map some)[p]? = some (some sv) → svs[p]? = some sv := fun {p sv} z => by
              rw [List.getElem?_map] at z
              cases y : svs[p]? with
              | none => rw [y] at z; cases z
              | some s => rw [y] at z; exact Option.some.inj z
            refine ⟨fun b u z => (callFr_some R1 z).1, R1.f, fun b u z => (callFr_some R1 z).2, fun p sv z => ?_, fun p q s t z1 z2 x1 x2 z3 => ?_, by simp [svl, hvl]⟩
            · have z' := un z
              obtain ⟨o, v, g1, g2, g3, g4⟩ := opd z'
              refine ⟨v, by rw [List.getElem?_map, g2]; rfl, ?_⟩
              by_cases hob : sv.ob = true
              · obtain ⟨i, v', t, y1, y2, y3, y4, y5, y6, y7⟩ := obj z' hob
                rw [g2] at y2; cases y2
                obtain ⟨v2, e5, s⟩ := R1.slot i t y4
                rw [y3] at e5; cases e5
                by_cases hex : sv.ex = true
                · obtain ⟨_, hp, d, rfl, rfl⟩ := y6 hex
                  obtain ⟨a, u, ev, h1, h2, h3, h4⟩ := s
                  exact ⟨a, u, ev, h1, h2, h3, callFr_io R1 y4 ⟨p, hp, y1⟩ (by rw [y3, ev]) h4⟩
                · obtain ⟨hp, rfl⟩ := y7 (by simpa using hex)
                  cases t with
                  | val d => cases y5
                  | own d =>
                    obtain ⟨a, u, ev, h1, h2, h3, h4⟩ := s
                    refine ⟨a, u, ev, ⟨?_, fun z => z⟩, h2⟩
                    rw [callFr_own y4 (fun ⟨p', hp', y'⟩ => hp (by rw [← excl_of hx hp' y' y1]; exact hp')) (by rw [y3, ev]) h4]
                    exact h1
                  | bor d => obtain ⟨a, u, ev, h1, h2⟩ := s; exact ⟨a, u, ev, ⟨callFr_fr h1.1, fun z => z⟩, h2⟩
                  | lck d => obtain ⟨a, u, ev, h1, h2⟩ := s; exact ⟨a, u, ev, ⟨callFr_fr h1.1, fun z => z⟩, h2⟩
              · cases sv with
                | own d => exact absurd rfl hob
                | bor d => exact absurd rfl hob
                | lck d => exact absurd rfl hob
                | val d =>
                  cases o with
                  | val d' =>
                    unfold argOne at g4
                    dsimp only at g4
                    split at g4
                    · cases g4
                    · cases g4; exact g3
                  | tmp d' => cases g4
                  | var i =>
                    obtain ⟨vv, e5, s⟩ : ∃ vv, σ[i]? = some (some vv) ∧ Rep X.K F1 vv d := by
                      unfold argOne at g4
                      dsimp only at g4
                      split at g4
                      · rename_i d' e5
                        split at g4
                        · cases g4
                        · cases g4; exact R1.slot i _ e5
                      · split at g4 <;> cases g4
                      · split at g4 <;> cases g4
                      · split at g4 <;> cases g4
                      · cases g4
                    have g3 : σ[i]? = some (some v) := g3
                    rw [g3] at e5; cases e5
                    exact s
            · have z1' := un z1
              have z2' := un z2
              have hob1 : s.ob = true := by cases s <;> first | rfl | cases x1
              obtain ⟨i, v1, t1, y1, y2, y3, y4, y5, y6, _⟩ := obj z1' hob1
              obtain ⟨j, v2, t2, w1, w2, w3, w4, w5, _, _⟩ := obj z2' x2
              obtain ⟨hex, hp, _⟩ := y6 x1
              have e5 : v1 = v2 := by
                rw [List.getElem?_map, List.getElem?_map, y2, w2] at z3
                exact Option.some.inj (Option.some.inj z3)
              subst e5
              have := R1.uniq i j t1 t2 y4 w4 hex w5 (by rw [y3, w3])
              subst this
              exact excl_of hx hp y1 w1
          refine ⟨by rw [List.append_nil, hvl, hlen], callFr Fr ρ1 σ H1 ios, F1, svs, o, post, by rw [svl, hlen], by rw [List.append_nil]; exact R2, e3, fun F2 H2 v q2 R3 r => ?_⟩
          rw [List.append_nil] at R3 r
          have vget : ∀ {p i : Nat}, os[p]? = some (.var i) → σ[i]? = (vs.map some)[p]? := fun {p i} z => by
            obtain ⟨v, g1, g2⟩ := nrel_get rs z
            rw [List.getElem?_map, g1]
            exact g2
          -- what stood at a changed name before
          have was : ∀ {p i : Nat}, p ∈ io → os[p]? = some (.var i) → ∃ d, ρ1[i]? = some (some (.own d)) := fun {p i} hp z => by
            obtain ⟨sv, g1⟩ : ∃ sv, svs[p]? = some sv := ⟨svs[p]'(by rw [svl]; exact some_lt z), List.getElem?_eq_getElem _⟩
            obtain ⟨o', v', g2, g3, g4, g5⟩ := opd g1
            rw [z] at g2; cases g2
            unfold argOne at g5
            dsimp only at g5
            simp only [hp, decide_true, if_true] at g5
            split at g5
            · cases g5
            · rename_i d e5; exact ⟨d, e5⟩
            · cases g5
            · cases g5
            · cases g5
          have R4 : Rel X.K Fr F2 ρ' σ H2 := by
            refine ⟨fun b u z => R3.fr b u (callFr_fr z), R3.f, fun b u z => R3.dj b u (callFr_fr z), fun i sv z => ?_, fun i j s t z1 z2 x1 x2 z3 => ?_, by rw [putBack_len e4]; exact R1.len⟩
            · rcases putBack_get e4 z with ⟨z1, z2⟩ | ⟨p, z1, z2, z3, z4⟩
              · obtain ⟨v, e5, s⟩ := R1.slot i sv z1
                refine ⟨v, e5, ?_⟩
                cases sv with
                | val d => exact Rep.mono q2 s
                | bor d => obtain ⟨a, u, ev, h1, h2⟩ := s; exact ⟨a, u, ev, h1, h2.mono q2⟩
                | lck d => obtain ⟨a, u, ev, h1, h2⟩ := s; exact ⟨a, u, ev, h1, h2.mono q2⟩
                | own d =>
                  obtain ⟨a, u, ev, h1, h2, h3, h4⟩ := s
                  have hf : (callFr Fr ρ1 σ H1 ios) a = some u := by
                    rw [callFr_own z1 (fun ⟨p', hp', y'⟩ => z2 p' y' (by rw [Nat.zero_add]; exact hp')) (by rw [e5, ev]) h4]
                    exact h1
                  exact ⟨a, u, ev, R3.fr _ _ hf, h2.mono q2, R3.dj _ _ hf, h4⟩
              · rw [Nat.zero_add] at z2 z3
                obtain ⟨v, e5, s⟩ := R3.slot p sv z3
                refine ⟨v, by rw [vget z1]; exact e5, ?_⟩
                rcases z4 with ⟨d, rfl⟩ | ⟨d, rfl⟩
                · obtain ⟨a, u, ev, h1, h2, h3, h4⟩ := s
                  refine ⟨a, u, ev, h1, h2, h3, ?_⟩
                  cases y : Fr.h a with
                  | none => rfl
                  | some u' => rw [callFr_fr y] at h4; cases h4
                · exact s
            · have old : ∀ {i : Nat} {s : SV}, ρ'[i]? = some (some s) → ∃ t, ρ1[i]? = some (some t) ∧ (s.ex = true → t.ex = true) ∧ (s.ob = true → t.ob = true) := fun {i s} z => by
                rcases putBack_get e4 z with ⟨z1, _⟩ | ⟨p, z1, z2, z3, z4⟩
                · exact ⟨s, z1, id, id⟩
                · rw [Nat.zero_add] at z2
                  obtain ⟨d, e5⟩ := was z2 z1
                  exact ⟨_, e5, fun _ => rfl, fun _ => rfl⟩
              obtain ⟨t1, g1, g2, _⟩ := old z1
              obtain ⟨t2, g3, _, g4⟩ := old z2
              exact R1.uniq i j t1 t2 g1 g3 (g2 x1) (g4 x2) z3
          refine kk F2 H2 v (q1.trans q2) R4 ?_
          cases o with
          | val d => exact r
          | var i => exact absurd rfl (hvar i)
          | tmp d =>
            obtain ⟨a, u, ev, h1, h2, h3, h4, h5⟩ := r
            have hFr : Fr a = none := by
              cases y : Fr.h a with
              | none => rfl
              | some u' => rw [callFr_fr y] at h4; cases h4
            refine ⟨a, u, ev, h1, h2, h3, hFr, fun i d' z z5 => ?_⟩
            rcases putBack_get e4 z with ⟨z1, z2⟩ | ⟨p, z1, z2, z3, z4⟩
            · obtain ⟨v', e5, b, u', ev', y1, y2, y3, y4⟩ := R1.slot i _ z1
              rw [z5] at e5
              have : v' = v := (Option.some.inj (Option.some.inj e5)).symm
              rw [this, ev] at ev'
              cases ev'
              rw [callFr_own z1 (fun ⟨p', hp', y'⟩ => z2 p' y' (by rw [Nat.zero_add]; exact hp')) (by rw [z5, ev]) y4, y1] at h4
              cases h4
            · rw [Nat.zero_add] at z2 z3
              exact h5 p d' z3 (by rw [← vget z1]; exact z5)
        split at em
        · rename_i d post e3
          split at em
          · rename_i ρ2 e4
            cases em
            exact main _ post e3 (fun i z => nomatch z) e4 kk
          · cases em
        · rename_i d post e3
          split at em
          · rename_i ρ2 e4
            cases em
            exact main _ post e3 (fun i z => nomatch z) e4 kk
          · cases em
        · cases em
      · cases em
    · cases em
  · cases em
/-- how many operands -/
theorem nilA_len {ρ ρ' : Rho} {os : List Opd} (h : nilA ρ = some (os, ρ')) : os.length = 0 := by cases h; rfl
theorem consA_len {n : Nat} {m : EM} {r : AM} (hr : ∀ ρ os ρ', r ρ = some (os, ρ') → os.length = n) : ∀ ρ os ρ', consA m r ρ = some (os, ρ') → os.length = n + 1 := fun ρ os ρ' h => by
  unfold consA at h
  split at h
  · split at h
    · rename_i e; cases h; simp [hr _ _ _ e]
    · cases h
  · cases h
theorem oe_call {f : Addr} {fd : FuncData} {ps : List Str} {x : Str} {p pos : Pos} (Fo : FnOk X.prog X.w X.K X.mg X.base CX0 k f fd ps (spF X.K fn np)) (hr : Room k X.A) (hm : X.mg x = some (.ref f)) (hk : PySem.W.keepIn X.K (.ref f) = true) (hb : Binds X.K fd ps [])
    (ha : AE X (e :: es) am) (hn : ∀ ρ os ρ', am ρ = some (os, ρ') → os.length = np) (hg : Gl X x := by rfl) (hdb : (x == ("__debug__" : Str)) = false := by decide) (he : starEach (e :: es) X.env = (false, eval e X.env) :: starEach es X.env := by rfl) (hpl : (backTo pos (starEach es X.env)).any (·.1) = false := by rfl) :
    OE X (.Call (.Name x p) (e :: es) [] pos) (callM fn io am) :=
  ⟨pe_imp (pe_call Fo hr hg hm hk hb .nil pass0 ha.pa hdb he hpl) fun σ H Q h => call_read h hn⟩
/-- a def that a caller may call -/
structure Callee (P : Program) (w : World) (K : PySem.W.Frag) (mg : Str → Option Value) (base : Heap) (k : Nat) (x : Str) (np : Nat) (fn : Fn) : Prop where
  ex : ∃ f fd ps, FnOk P w K mg base CX0 k f fd ps (spF K fn np) ∧ mg x = some (.ref f) ∧ PySem.W.keepIn K (.ref f) = true ∧ Binds K fd ps []
theorem oe_callC {x : Str} {p pos : Pos} (c : Callee X.prog X.w X.K X.mg X.base k x np fn) (hr : Room k X.A) (ha : AE X (e :: es) am) (hn : ∀ ρ os ρ', am ρ = some (os, ρ') → os.length = np) (hg : Gl X x := by rfl) (hdb : (x == ("__debug__" : Str)) = false := by decide)
    (he : starEach (e :: es) X.env = (false, eval e X.env) :: starEach es X.env := by rfl) (hpl : (backTo pos (starEach es X.env)).any (·.1) = false := by rfl) : OE X (.Call (.Name x p) (e :: es) [] pos) (callM fn io am) := by
  obtain ⟨f, fd, ps, F, hm, hk, hb⟩ := c.ex
  exact oe_call F hr hm hk hb ha hn hg hdb he hpl
theorem room64 {k : Nat} {A : Around} (r : Room k A) : A.units + 64 < cLine := by have := r.un; omega
end
end Ev

set_option Elab.async false
set_option linter.all false
set_option maxRecDepth 100000
/-! Ev. H: built-ins, methods of lists. -/
set_option autoImplicit false
namespace Ev
open PySem PySem.Spec PyProof.Rows L2

abbrev Viws (K : PySem.W.Frag) (F H : Hp) : List V → List D → Prop := Paired (Viw K F H)
def CalS (X : Cx) (r : List V → Hp → VK → Prop) (g : List D → Option Opd) : Prop :=
  ∀ {Fr : Frm} {F H : Hp} {ρ : Rho} {σ : St} {vs : List V} {ds : List D} {o : Opd} {Q : VK}, Rel X.K Fr F ρ σ H → Viws X.K F H vs ds → g ds = some o → After X.K Fr F ρ σ o Q → r vs H Q
def biM (g : List D → Option Opd) (am : AM) : EM := fun ρ => match am ρ with
  | some (os, ρ') => match looks os ρ' with
    | some ds => match g ds with
      | some o => some (o, ρ')
      | none => none
    | none => none
  | none => none
theorem looks_viw {K : PySem.W.Frag} {Fr : Frm} {F H : Hp} {ρ : Rho} {σ : St} (R : Rel K Fr F ρ σ H) : ∀ {vs : List V} {os : List Opd} {ds : List D}, NRels K F σ vs os → looks os ρ = some ds → Viws K F H vs ds
  | _, _, _, .nil, e => by cases e; exact .nil
  | _, _, _, .cons h r, e => by
    unfold looks at e
    split at e
    · rename_i d e1
      split at e
      · rename_i ds e2
        cases e
        exact .cons (NRel.look R h e1) (looks_viw R r e2)
      · cases e
    · cases e
theorem bi_read {X : Cx} {r : List V → Hp → VK → Prop} {g : List D → Option Opd} {am : AM} (hs : CalS X r g) {σ : St} {H : Hp} {Q : VK} (h : tE X.K (biM g am) σ H Q) : tCB r (tA X.K am) σ H Q := by
  obtain ⟨Fr, F, ρ, o, ρ', R, em, k⟩ := h
  unfold biM at em
  split at em
  · rename_i os ρ1 e1
    split at em
    · rename_i ds e2
      split at em
      · rename_i o' e3
        cases em
        exact ⟨Fr, F, ρ, _, _, R, e1, fun F1 H1 vs q1 R1 rs => hs R1 (looks_viw R1 rs e2) e3 fun F2 H2 v q2 R2 r2 => k F2 H2 v (q1.trans q2) R2 r2⟩
      · cases em
    · cases em
  · cases em
section
variable {X : Cx} {x : Str} {p pos : Pos} {e : Expr} {es : List Expr} {id T : String} {r : List V → Hp → VK → Prop} {g : List D → Option Opd} {am : AM}
theorem oe_bi (hc : CallR X (.builtin id) r) (hs : CalS X r g) (ha : AE X (e :: es) am) (hm : X.mg x = none) (hv : bootBuiltins x = some (.builtin id)) (hg : Gl X x := by rfl) (hn : x ≠ "__name__" := by decide) (hdb : (x == ("__debug__" : Str)) = false := by decide)
    (he : starEach (e :: es) X.env = (false, eval e X.env) :: starEach es X.env := by rfl) (hpl : (backTo pos (starEach es X.env)).any (·.1) = false := by rfl) : OE X (.Call (.Name x p) (e :: es) [] pos) (biM g am) :=
  ⟨pe_imp (pe_callB hc hg hm hv ha.pa hn hdb he hpl) fun _ _ _ => bi_read hs⟩
theorem oe_ty (hc : CallR X (.type T) r) (hs : CalS X r g) (ha : AE X (e :: es) am) (hm : X.mg x = none) (hv : bootBuiltins x = some (.type T)) (hg : Gl X x := by rfl) (hn : x ≠ "__name__" := by decide) (hdb : (x == ("__debug__" : Str)) = false := by decide)
    (he : starEach (e :: es) X.env = (false, eval e X.env) :: starEach es X.env := by rfl) (hpl : (backTo pos (starEach es X.env)).any (·.1) = false := by rfl) : OE X (.Call (.Name x p) (e :: es) [] pos) (biM g am) :=
  ⟨pe_imp (pe_callTy hc hg hm hv ha.pa hn hdb he hpl) fun _ _ _ => bi_read hs⟩
end
theorem vw1 {K : PySem.W.Frag} {F H : Hp} {vs : List V} {d : D} (h : Viws K F H vs [d]) : ∃ v, vs = [v] ∧ Viw K F H v d := by
  cases h with
  | cons h r => cases r; exact ⟨_, rfl, h⟩
theorem vw2 {K : PySem.W.Frag} {F H : Hp} {vs : List V} {d e : D} (h : Viws K F H vs [d, e]) : ∃ v w, vs = [v, w] ∧ Viw K F H v d ∧ Viw K F H w e := by
  cases h with
  | cons h r =>
    cases r with
    | cons h2 r => cases r; exact ⟨_, _, rfl, h, h2⟩

/-! ints and truth values out of items -/
def intsOf : List D → Option (List Int)
  | [] => some []
  | .int i :: ds => match intsOf ds with
    | some is => some (i :: is)
    | none => none
  | _ :: _ => none
def bolsOf : List D → Option (List Bool)
  | [] => some []
  | .bl i :: ds => match bolsOf ds with
    | some is => some (i :: is)
    | none => none
  | _ :: _ => none
theorem intsOf_eq : ∀ {ds : List D} {ns : List Int}, intsOf ds = some ns → ds = ns.map D.int
  | [], ns, h => by cases h; rfl
  | d :: ds, ns, h => by
    unfold intsOf at h
    split at h
    · rename_i z; cases z
    · rename_i i ds' z
      cases z
      split at h
      · rename_i is e; cases h; rw [intsOf_eq e]; rfl
      · cases h
    · cases h
theorem bolsOf_eq : ∀ {ds : List D} {ns : List Bool}, bolsOf ds = some ns → ds = ns.map D.bl
  | [], ns, h => by cases h; rfl
  | d :: ds, ns, h => by
    unfold bolsOf at h
    split at h
    · rename_i z; cases z
    · rename_i i ds' z
      cases z
      split at h
      · rename_i is e; cases h; rw [bolsOf_eq e]; rfl
      · cases h
    · cases h
theorem intsOf_map : ∀ ns : List Int, intsOf (ns.map D.int) = some ns
  | [] => rfl
  | n :: ns => by simp [intsOf, intsOf_map ns]
theorem bolsOf_map : ∀ ns : List Bool, bolsOf (ns.map D.bl) = some ns
  | [] => rfl
  | n :: ns => by simp [bolsOf, bolsOf_map ns]
/-- the items of a list (no tuple) -/
def listD : D → Option (List D)
  | .lst xs => some xs
  | .rol xs => some xs
  | _ => none
theorem Viw.list {K : PySem.W.Frag} {F H : Hp} {v : V} {d : D} {ds : List D} (s : Same F H) (h : Viw K F H v d) (e : listD d = some ds) : ∃ a vs, v = .ref a ∧ SqL K H a vs ∧ Reps K F vs ds := by
  cases d <;> cases e
  · obtain ⟨a, vs, e1, q, r⟩ := h.lst s; exact ⟨a, vs, e1, SqL.of q, r⟩
  · obtain ⟨a, vs, e1, q, r⟩ := h.rol s; exact ⟨a, vs, e1, q, r⟩

section
variable {X : Cx}
/-- len -/
def lenG : List D → Option Opd
  | [.str s] => if s.length ≤ sizeLine then some (.val (.int s.length)) else none
  | [d] => match seqD d with
    | some ds => some (.val (.int ds.length))
    | none => none
  | _ => none
theorem cs_len : CalS X (fun xs H Q => ∃ x n, xs = [x] ∧ LenV X.K x H n ∧ Q (.int n) H) lenG := by
  intro Fr F H ρ σ vs ds o Q R hv g k
  unfold lenG at g
  split at g
  · rename_i s
    split at g
    · rename_i hs
      cases g
      obtain ⟨v, rfl, w⟩ := vw1 hv
      cases w.str
      exact ⟨_, s.length, rfl, ⟨hs, rfl⟩, after_val R (.int _) k⟩
    · cases g
  · split at g
    · rename_i d hne ds' e
      cases g
      obtain ⟨v, rfl, w⟩ := vw1 hv
      obtain ⟨a, vs, rfl, q, r⟩ := w.seq R.f e
      refine ⟨_, ds'.length, rfl, ?_, after_val R (.int _) k⟩
      rcases q with q | q
      · exact .inl ⟨vs, q, r.length.symm⟩
      · exact .inr ⟨vs, q, r.length.symm⟩
    · cases g
  · cases g
/-- int(n), int(a truth value) -/
def intFG : List D → Option Opd
  | [.int i] => some (.val (.int i))
  | [.bl b] => some (.val (.int (if b then 1 else 0)))
  | _ => none
theorem cs_int : CalS X (fun xs H Q => (∃ i, xs = [.int i] ∧ Q (.int i) H) ∨ ∃ k, xs = [.bl k] ∧ Q (.int (if k then 1 else 0)) H) intFG := by
  intro Fr F H ρ σ vs ds o Q R hv g k
  unfold intFG at g
  split at g
  · rename_i i
    cases g
    obtain ⟨v, rfl, w⟩ := vw1 hv
    cases w.int
    exact .inl ⟨i, rfl, after_val R (.int _) k⟩
  · rename_i b
    cases g
    obtain ⟨v, rfl, w⟩ := vw1 hv
    cases w.bl
    exact .inr ⟨b, rfl, after_val R (.int _) k⟩
  · cases g
/-- abs, and of two ints min, max -/
def absG : List D → Option Opd
  | [.int i] => some (.val (.int (if i < 0 then -i else i)))
  | _ => none
theorem cs_abs : CalS X (fun xs H Q => ∃ i, xs = [.int i] ∧ Q (.int (if i < 0 then -i else i)) H) absG := by
  intro Fr F H ρ σ vs ds o Q R hv g k
  unfold absG at g
  split at g
  · rename_i i
    cases g
    obtain ⟨v, rfl, w⟩ := vw1 hv
    cases w.int
    exact ⟨i, rfl, after_val R (.int _) k⟩
  · cases g
/-- sum, any, all, max, min of a list -/
def sumG : List D → Option Opd
  | [d] => match listD d with
    | some ds => match intsOf ds with
      | some ns => some (.val (.int ns.sum))
      | none => none
    | none => none
  | _ => none
theorem cs_sum : CalS X (rSum X.K) sumG := by
  intro Fr F H ρ σ vs ds o Q R hv g k
  unfold sumG at g
  split at g
  · rename_i d
    split at g
    · rename_i ds' e1
      split at g
      · rename_i ns e2
        cases g
        obtain ⟨v, rfl, w⟩ := vw1 hv
        obtain ⟨a, vs, rfl, q, r⟩ := w.list R.f e1
        rw [intsOf_eq e2] at r
        rw [r.ints] at q
        exact ⟨a, ns, rfl, q, after_val R (.int _) k⟩
      · cases g
    · cases g
  · cases g
def boolsG (f : List Bool → Bool) : List D → Option Opd
  | [d] => match listD d with
    | some ds => match bolsOf ds with
      | some ns => some (.val (.bl (f ns)))
      | none => none
    | none => none
  | _ => none
abbrev anyG := boolsG fun bs => bs.any id
abbrev allG := boolsG fun bs => bs.all id
theorem cs_any : CalS X (rAny X.K) anyG := by
  intro Fr F H ρ σ vs ds o Q R hv g k
  unfold anyG boolsG at g
  split at g
  · rename_i d
    split at g
    · rename_i ds' e1
      split at g
      · rename_i ns e2
        cases g
        obtain ⟨v, rfl, w⟩ := vw1 hv
        obtain ⟨a, vs, rfl, q, r⟩ := w.list R.f e1
        rw [bolsOf_eq e2] at r
        rw [r.bls] at q
        exact ⟨a, ns, rfl, q, after_val R (.bl _) k⟩
      · cases g
    · cases g
  · cases g
theorem cs_all : CalS X (rAll X.K) allG := by
  intro Fr F H ρ σ vs ds o Q R hv g k
  unfold allG boolsG at g
  split at g
  · rename_i d
    split at g
    · rename_i ds' e1
      split at g
      · rename_i ns e2
        cases g
        obtain ⟨v, rfl, w⟩ := vw1 hv
        obtain ⟨a, vs, rfl, q, r⟩ := w.list R.f e1
        rw [bolsOf_eq e2] at r
        rw [r.bls] at q
        exact ⟨a, ns, rfl, q, after_val R (.bl _) k⟩
      · cases g
    · cases g
  · cases g
def maxI : List Int → Option Int
  | [] => none
  | n :: ns => some (ns.foldl max n)
def minI : List Int → Option Int
  | [] => none
  | n :: ns => some (ns.foldl min n)
theorem foldl_max : ∀ (ns : List Int) (n : Int), n ≤ ns.foldl max n ∧ (∀ x ∈ ns, x ≤ ns.foldl max n) ∧ (ns.foldl max n = n ∨ ns.foldl max n ∈ ns)
  | [], n => ⟨Int.le_refl _, fun x h => (by cases h), .inl rfl⟩
  | m :: ns, n => by
    obtain ⟨h1, h2, h3⟩ := foldl_max ns (max n m)
    have hn : n ≤ max n m := by omega
    have hm : m ≤ max n m := by omega
    refine ⟨Int.le_trans hn h1, fun x hx => ?_, ?_⟩
    · rcases List.mem_cons.mp hx with rfl | hx
      · exact Int.le_trans hm h1
      · exact h2 x hx
    · rcases h3 with h3 | h3
      · rw [List.foldl_cons, h3]
        by_cases q : n ≤ m
        · right; rw [show max n m = m by omega]; exact List.mem_cons_self
        · left; omega
      · exact .inr (List.mem_cons_of_mem _ h3)
theorem foldl_min : ∀ (ns : List Int) (n : Int), ns.foldl min n ≤ n ∧ (∀ x ∈ ns, ns.foldl min n ≤ x) ∧ (ns.foldl min n = n ∨ ns.foldl min n ∈ ns)
  | [], n => ⟨Int.le_refl _, fun x h => (by cases h), .inl rfl⟩
  | m :: ns, n => by
    obtain ⟨h1, h2, h3⟩ := foldl_min ns (min n m)
    have hn : min n m ≤ n := by omega
    have hm : min n m ≤ m := by omega
    refine ⟨Int.le_trans h1 hn, fun x hx => ?_, ?_⟩
    · rcases List.mem_cons.mp hx with rfl | hx
      · exact Int.le_trans h1 hm
      · exact h2 x hx
    · rcases h3 with h3 | h3
      · rw [List.foldl_cons, h3]
        by_cases q : n ≤ m
        · left; omega
        · right; rw [show min n m = m by omega]; exact List.mem_cons_self
      · exact .inr (List.mem_cons_of_mem _ h3)
theorem maxI_spec {ns : List Int} {m : Int} (h : maxI ns = some m) : m ∈ ns ∧ ∀ x ∈ ns, x ≤ m := by
  cases ns with
  | nil => cases h
  | cons n ns =>
    cases h
    obtain ⟨h1, h2, h3⟩ := foldl_max ns n
    refine ⟨?_, fun x hx => ?_⟩
    · rcases h3 with h3 | h3
      · rw [h3]; exact List.mem_cons_self
      · exact List.mem_cons_of_mem _ h3
    · rcases List.mem_cons.mp hx with rfl | hx
      · exact h1
      · exact h2 x hx
theorem minI_spec {ns : List Int} {m : Int} (h : minI ns = some m) : m ∈ ns ∧ ∀ x ∈ ns, m ≤ x := by
  cases ns with
  | nil => cases h
  | cons n ns =>
    cases h
    obtain ⟨h1, h2, h3⟩ := foldl_min ns n
    refine ⟨?_, fun x hx => ?_⟩
    · rcases h3 with h3 | h3
      · rw [h3]; exact List.mem_cons_self
      · exact List.mem_cons_of_mem _ h3
    · rcases List.mem_cons.mp hx with rfl | hx
      · exact h1
      · exact h2 x hx
def extG (f : List Int → Option Int) : List D → Option Opd
  | [d] => match listD d with
    | some ds => match intsOf ds with
      | some ns => match f ns with
        | some m => some (.val (.int m))
        | none => none
      | none => none
    | none => none
  | _ => none
abbrev maxG := extG maxI
abbrev minG := extG minI
theorem cs_max : CalS X (rMax X.K) maxG := by
  intro Fr F H ρ σ vs ds o Q R hv g k
  unfold maxG extG at g
  split at g
  · rename_i d
    split at g
    · rename_i ds' e1
      split at g
      · rename_i ns e2
        split at g
        · rename_i m e3
          cases g
          obtain ⟨v, rfl, w⟩ := vw1 hv
          obtain ⟨a, vs, rfl, q, r⟩ := w.list R.f e1
          rw [intsOf_eq e2] at r
          rw [r.ints] at q
          obtain ⟨z1, z2⟩ := maxI_spec e3
          refine ⟨a, ns, rfl, q, List.length_pos_of_mem z1, fun m' h1 h2 => ?_⟩
          have : m' = m := Int.le_antisymm (z2 _ h1) (h2 _ z1)
          subst this
          exact after_val R (.int _) k
        · cases g
      · cases g
    · cases g
  · cases g
theorem cs_min : CalS X (rMin X.K) minG := by
  intro Fr F H ρ σ vs ds o Q R hv g k
  unfold minG extG at g
  split at g
  · rename_i d
    split at g
    · rename_i ds' e1
      split at g
      · rename_i ns e2
        split at g
        · rename_i m e3
          cases g
          obtain ⟨v, rfl, w⟩ := vw1 hv
          obtain ⟨a, vs, rfl, q, r⟩ := w.list R.f e1
          rw [intsOf_eq e2] at r
          rw [r.ints] at q
          obtain ⟨z1, z2⟩ := minI_spec e3
          refine ⟨a, ns, rfl, q, List.length_pos_of_mem z1, fun m' h1 h2 => ?_⟩
          have : m' = m := Int.le_antisymm (h2 _ z1) (z2 _ h1)
          subst this
          exact after_val R (.int _) k
        · cases g
      · cases g
    · cases g
  · cases g
/-- list(xs), tuple(xs) -/
def listG : List D → Option Opd
  | [d] => match seqD d with
    | some ds => some (.tmp (.lst ds))
    | none => none
  | _ => none
theorem cs_list : CalS X (fun xs H Q => ∃ p ys, xs = [.ref p] ∧ (SqL X.K H p ys ∨ SqT X.K H p ys) ∧ ∀ l, H l = none → Q (.ref l) (upd H l (.lst ys))) listG := by
  intro Fr F H ρ σ vs ds o Q R hv g k
  unfold listG at g
  split at g
  · split at g
    · rename_i ds' e
      cases g
      obtain ⟨v, rfl, w⟩ := vw1 hv
      obtain ⟨a, vs, rfl, q, r⟩ := w.seq R.f e
      exact ⟨a, vs, rfl, q, fun l hl => after_new R hl r k⟩
    · cases g
  · cases g
def tupleG : List D → Option Opd
  | [d] => match seqD d with
    | some ds => some (.val (.tup ds))
    | none => none
  | _ => none
theorem cs_tuple : CalS X (fun xs H Q => ∃ p ys, xs = [.ref p] ∧ ((SqL X.K H p ys ∧ ∀ l, H l = none → Q (.ref l) (upd H l (.tup ys))) ∨ (SqT X.K H p ys ∧ Q (.ref p) H))) tupleG := by
  intro Fr F H ρ σ vs ds o Q R hv g k
  unfold tupleG at g
  split at g
  · rename_i d
    split at g
    · rename_i ds' e
      cases g
      obtain ⟨v, rfl, w⟩ := vw1 hv
      cases d <;> cases e
      · have hx0 : Rep X.K F v (.tup ds') := by
          rcases w with z | ⟨a, o, e1, h1, h2⟩
          · exact z
          · cases h2
        obtain ⟨a, vs, rfl, q, r⟩ := w.tup R.f
        exact ⟨a, vs, rfl, .inr ⟨q, after_val R hx0 k⟩⟩
      · obtain ⟨a, vs, rfl, q, r⟩ := w.lst R.f
        exact ⟨a, vs, rfl, .inl ⟨SqL.of q, fun l hl => after_tup R hl r k⟩⟩
      · obtain ⟨a, vs, rfl, q, r⟩ := w.rol R.f
        exact ⟨a, vs, rfl, .inl ⟨q, fun l hl => after_tup R hl r k⟩⟩
    · cases g
  · cases g
variable {e : Expr} {es : List Expr} {am : AM} {m ma mb : EM} {p pos : Pos} {a b : Expr}
theorem oe_len (ha : AE X [e] am) (hm : X.mg "len" = none) (hg : Gl X "len" := by rfl) (he : starEach [e] X.env = (false, eval e X.env) :: starEach [] X.env := by rfl) : OE X (.Call (.Name "len" p) [e] [] pos) (biM lenG am) := oe_bi call_len cs_len ha hm PySem.boot_len hg (by decide) (by decide) he
theorem oe_int_ (ha : AE X [e] am) (hm : X.mg "int" = none) (hg : Gl X "int" := by rfl) (he : starEach [e] X.env = (false, eval e X.env) :: starEach [] X.env := by rfl) : OE X (.Call (.Name "int" p) [e] [] pos) (biM intFG am) := oe_ty call_int1 cs_int ha hm (by decide +kernel) hg (by decide) (by decide) he
theorem oe_abs (ha : AE X [e] am) (hm : X.mg "abs" = none) (hg : Gl X "abs" := by rfl) (he : starEach [e] X.env = (false, eval e X.env) :: starEach [] X.env := by rfl) : OE X (.Call (.Name "abs" p) [e] [] pos) (biM absG am) := oe_bi call_abs cs_abs ha hm (by decide +kernel) hg (by decide) (by decide) he
theorem oe_sum (hc : X.calm = true) (ha : AE X [e] am) (hm : X.mg "sum" = none) (hg : Gl X "sum" := by rfl) (he : starEach [e] X.env = (false, eval e X.env) :: starEach [] X.env := by rfl) : OE X (.Call (.Name "sum" p) [e] [] pos) (biM sumG am) := oe_bi (cr_sum hc) cs_sum ha hm (by decide +kernel) hg (by decide) (by decide) he
theorem oe_any (hc : X.calm = true) (ha : AE X [e] am) (hm : X.mg "any" = none) (hg : Gl X "any" := by rfl) (he : starEach [e] X.env = (false, eval e X.env) :: starEach [] X.env := by rfl) : OE X (.Call (.Name "any" p) [e] [] pos) (biM anyG am) := oe_bi (cr_any hc) cs_any ha hm (by decide +kernel) hg (by decide) (by decide) he
theorem oe_all (hc : X.calm = true) (ha : AE X [e] am) (hm : X.mg "all" = none) (hg : Gl X "all" := by rfl) (he : starEach [e] X.env = (false, eval e X.env) :: starEach [] X.env := by rfl) : OE X (.Call (.Name "all" p) [e] [] pos) (biM allG am) := oe_bi (cr_all hc) cs_all ha hm (by decide +kernel) hg (by decide) (by decide) he
theorem oe_max (hc : X.calm = true) (ha : AE X [e] am) (hm : X.mg "max" = none) (hg : Gl X "max" := by rfl) (he : starEach [e] X.env = (false, eval e X.env) :: starEach [] X.env := by rfl) : OE X (.Call (.Name "max" p) [e] [] pos) (biM maxG am) := oe_bi (cr_max hc) cs_max ha hm (by decide +kernel) hg (by decide) (by decide) he
theorem oe_min (hc : X.calm = true) (ha : AE X [e] am) (hm : X.mg "min" = none) (hg : Gl X "min" := by rfl) (he : starEach [e] X.env = (false, eval e X.env) :: starEach [] X.env := by rfl) : OE X (.Call (.Name "min" p) [e] [] pos) (biM minG am) := oe_bi (cr_min hc) cs_min ha hm (by decide +kernel) hg (by decide) (by decide) he
theorem oe_list (ha : AE X [e] am) (hm : X.mg "list" = none) (hg : Gl X "list" := by rfl) (he : starEach [e] X.env = (false, eval e X.env) :: starEach [] X.env := by rfl) : OE X (.Call (.Name "list" p) [e] [] pos) (biM listG am) := oe_ty call_list_of cs_list ha hm (by decide +kernel) hg (by decide) (by decide) he
theorem oe_tuple (ha : AE X [e] am) (hm : X.mg "tuple" = none) (hg : Gl X "tuple" := by rfl) (he : starEach [e] X.env = (false, eval e X.env) :: starEach [] X.env := by rfl) : OE X (.Call (.Name "tuple" p) [e] [] pos) (biM tupleG am) := oe_ty call_tuple_of cs_tuple ha hm (by decide +kernel) hg (by decide) (by decide) he

/-! isinstance, by the written types -/
def tyD : D → String
  | .non => "NoneType"
  | .bl _ => "bool"
  | .int _ => "int"
  | .str _ => "str"
  | .tup _ => "tuple"
  | .lst _ => "list"
  | .rol _ => "list"
theorem tyX_sqT {K : PySem.W.Frag} {H : Hp} {a : Addr} {vs : List V} (h : SqT K H a vs) : TyX K H (.ref a) (.type "tuple") := by
  rcases h with (h | ⟨o, h⟩) | ⟨o, _, _, h, c, _⟩
  · exact .base (.tup h)
  · exact .fTuple h
  · exact .kTuple h c
theorem tyX_sqL {K : PySem.W.Frag} {H : Hp} {a : Addr} {vs : List V} (h : SqL K H a vs) : TyX K H (.ref a) (.type "list") := by
  rcases h with (h | ⟨o, h⟩) | ⟨o, _, _, h, c, _⟩
  · exact .base (.lst h)
  · exact .base (.frz h)
  · exact .kList h c
theorem Viw.ty {K : PySem.W.Frag} {F H : Hp} {v : V} {d : D} (s : Same F H) (h : Viw K F H v d) : TyX K H v (.type (tyD d)) := by
  cases d with
  | non => cases h.non; exact .base .non
  | bl b => cases h.bl; exact .base (.bl b)
  | int i => cases h.int; exact .base (.int i)
  | str x => cases h.str; exact .base (.str x)
  | tup xs => obtain ⟨a, vs, rfl, q, r⟩ := h.tup s; exact tyX_sqT q
  | lst xs => obtain ⟨a, vs, rfl, q, r⟩ := h.lst s; exact tyX_sqL (SqL.of q)
  | rol xs => obtain ⟨a, vs, rfl, q, r⟩ := h.rol s; exact tyX_sqL q
def isiAny (t : String) : List String → Option Bool
  | [] => some false
  | T :: Ts => match kitB t T with
    | some true => some true
    | some false => isiAny t Ts
    | none => none
theorem isi_kit {K : PySem.W.Frag} {t : String} : ∀ {Ts : List String} {b : Bool}, isiAny t Ts = some b → PySem.W.kitAny K (.type t) (Ts.map Value.type) = some b
  | [], b, h => by cases h; rfl
  | T :: Ts, b, h => by
    unfold isiAny at h
    split at h
    · rename_i e; cases h; exact kitAny_cons (b := true) (kit_ty e) (fun z => nomatch z) (fun _ => rfl)
    · rename_i e; exact kitAny_cons (b := false) (kit_ty e) (fun _ => isi_kit h) (fun z => nomatch z)
    · cases h
def isiM (Ts : List String) (m : EM) : EM := fun ρ => match frz m ρ with
  | some (o, ρ') => match look o ρ' with
    | some d => match isiAny (tyD d) Ts with
      | some b => some (.val (.bl b), ρ')
      | none => none
    | none => none
  | none => none
theorem isiM_some {Ts : List String} {ρ ρ' : Rho} {o : Opd} (h : isiM Ts m ρ = some (o, ρ')) : ∃ o' d b, frz m ρ = some (o', ρ') ∧ look o' ρ' = some d ∧ isiAny (tyD d) Ts = some b ∧ o = .val (.bl b) := by
  unfold isiM at h
  split at h
  · split at h
    · split at h
      · cases h; exact ⟨_, _, _, by assumption, by assumption, by assumption, rfl⟩
      · cases h
    · cases h
  · cases h
theorem pe_type {T : String} {x : Str} {p : Pos} (hg : Gl X x) (hm : X.mg x = none) (hv : bootBuiltins x = some (.type T)) (hn : x ≠ "__name__" := by decide) (hd : (x == ("__debug__" : Str)) = false := by decide) : PE X (.Name x p) (tC (.ty T)) := pe_bltn hg hm hv rfl hn hd
theorem oe_isi1 {T : String} {x : Str} {p2 : Pos} (ha : OE X a m) (hm : X.mg "isinstance" = none) (hm2 : X.mg x = none) (hv : bootBuiltins x = some (.type T)) (hg2 : Gl X x := by rfl) (hg : Gl X "isinstance" := by rfl) (hn : x ≠ "__name__" := by decide) (hd : (x == ("__debug__" : Str)) = false := by decide)
    (s1 : starEach [a, .Name x p2] X.env = (false, eval a X.env) :: starEach [.Name x p2] X.env := by rfl) (s2 : starEach [.Name x p2] X.env = (false, eval (.Name x p2) X.env) :: starEach [] X.env := by rfl)
    (hpl : (backTo pos (starEach [.Name x p2] X.env)).any (·.1) = false := by rfl) : OE X (.Call (.Name "isinstance" p) [a, .Name x p2] [] pos) (isiM [T] m) := by
  refine ⟨pe_imp (pe_callB call_isi hg hm (by decide +kernel) (pa_cons ha.ne.pe (pa_cons (pe_type hg2 hm2 hv hn hd) pa_nil s2) s1) (by decide) (by decide) s1 hpl) fun σ H Q ⟨Fr, F, ρ, o, ρ', R, em, k⟩ => ?_⟩
  obtain ⟨o', d, b, e1, e2, e3, rfl⟩ := isiM_some em
  refine ⟨Fr, F, ρ, _, _, R, e1, fun F1 H1 v q1 R1 r => ?_⟩
  have e4 : PySem.W.kitOne X.K (.type (tyD d)) (.type T) = some b := by
    unfold isiAny at e3
    split at e3
    · rename_i e; cases e3; exact kit_ty e
    · rename_i e; cases e3; exact kit_ty e
    · cases e3
  exact ⟨v, .ty T, .type (tyD d), .type T, b, rfl, .ty T, (r.look R1 e2).ty R1.f, e4, k F1 H1 _ q1 R1 (.bl b)⟩
theorem oe_isi2 {T T2 : String} {x x2 : Str} {p2 p3 tp : Pos} {k0} (ha : OE X a m) (hm : X.mg "isinstance" = none) (hm2 : X.mg x = none) (hv : bootBuiltins x = some (.type T)) (hm3 : X.mg x2 = none) (hv3 : bootBuiltins x2 = some (.type T2)) (hg2 : Gl X x := by rfl) (hg3 : Gl X x2 := by rfl) (hg : Gl X "isinstance" := by rfl)
    (hn : x ≠ "__name__" := by decide) (hd : (x == ("__debug__" : Str)) = false := by decide) (hn3 : x2 ≠ "__name__" := by decide) (hd3 : (x2 == ("__debug__" : Str)) = false := by decide)
    (s1 : starEach [a, .Tuple [.Name x p2, .Name x2 p3] k0 tp] X.env = (false, eval a X.env) :: starEach [.Tuple [.Name x p2, .Name x2 p3] k0 tp] X.env := by rfl) (s2 : starEach [.Tuple [.Name x p2, .Name x2 p3] k0 tp] X.env = (false, eval (.Tuple [.Name x p2, .Name x2 p3] k0 tp) X.env) :: starEach [] X.env := by rfl)
    (s3 : starEach [.Name x p2, .Name x2 p3] X.env = (false, eval (.Name x p2) X.env) :: starEach [.Name x2 p3] X.env := by rfl) (s4 : starEach [.Name x2 p3] X.env = (false, eval (.Name x2 p3) X.env) :: starEach [] X.env := by rfl)
    (hpl : (backTo pos (starEach [.Tuple [.Name x p2, .Name x2 p3] k0 tp] X.env)).any (·.1) = false := by rfl) : OE X (.Call (.Name "isinstance" p) [a, .Tuple [.Name x p2, .Name x2 p3] k0 tp] [] pos) (isiM [T, T2] m) := by
  refine ⟨pe_imp (pe_callB call_isiT hg hm (by decide +kernel) (pa_cons ha.ne.pe (pa_cons (pe_tup (pa_cons (pe_type hg2 hm2 hv hn hd) (pa_cons (pe_type hg3 hm3 hv3 hn3 hd3) pa_nil s4) s3)) pa_nil s2) s1) (by decide) (by decide) s1 hpl) fun σ H Q ⟨Fr, F, ρ, o, ρ', R, em, k⟩ => ?_⟩
  obtain ⟨o', d, b, e1, e2, e3, rfl⟩ := isiM_some em
  refine ⟨Fr, F, ρ, _, _, R, e1, fun F1 H1 v q1 R1 r => ⟨by show 2 ≤ sizeLine; decide, fun q hq => ?_⟩⟩
  obtain ⟨R2, s2⟩ := R1.new (.tup [.ty T, .ty T2]) hq
  exact ⟨v, q, [.ty T, .ty T2], .type (tyD d), [.type T, .type T2], b, rfl, upd_same, .cons (.ty T) (.cons (.ty T2) .nil), ((r.mono s2).look R2 e2).ty R2.f, isi_kit (Ts := [T, T2]) e3, k _ _ _ (q1.trans s2) R2 (.bl b)⟩

/-! x in xs, flat items -/
def flatD : D → Bool
  | .non => true
  | .bl _ => true
  | .int _ => true
  | .str _ => true
  | _ => false
def eqF : D → D → Bool
  | .non, .non => true
  | .bl a, .bl b => a == b
  | .bl a, .int b => (if a then 1 else 0) == b
  | .int a, .bl b => a == (if b then 1 else 0)
  | .int a, .int b => a == b
  | .str a, .str b => a == b
  | _, _ => false
def inF (d : D) (ds : List D) : Bool := ds.any fun e => eqF e d
def inG (neg : Bool) (d e : D) : Option Opd := match seqD e with
  | some ds => if flatD d && ds.all flatD then some (.val (.bl (if neg then !inF d ds else inF d ds))) else none
  | none => none
theorem flat_v {K : PySem.W.Frag} {F : Hp} {v : V} {d : D} (h : Rep K F v d) (f : flatD d = true) : flatV v = true := by
  cases h <;> first | rfl | cases f
theorem eq_v {K : PySem.W.Frag} {F : Hp} {v w : V} {d e : D} (h : Rep K F v d) (g : Rep K F w e) (f : flatD d = true) (f2 : flatD e = true) : eqV v w = eqF d e := by
  cases h <;> cases g <;> first | rfl | exact nomatch f | exact nomatch f2
theorem in_v {K : PySem.W.Frag} {F : Hp} {v : V} {d : D} (h : Rep K F v d) (f : flatD d = true) : ∀ {vs : List V} {ds : List D}, Reps K F vs ds → ds.all flatD = true → vs.all flatV = true ∧ inV v vs = inF d ds
  | _, _, .nil, _ => ⟨rfl, rfl⟩
  | _, _, .cons g r, z => by
    rw [List.all_cons, Bool.and_eq_true] at z
    obtain ⟨h1, h2⟩ := in_v h f r z.2
    refine ⟨by rw [List.all_cons, flat_v g z.1, h1]; rfl, ?_⟩
    unfold inV inF at h2 ⊢
    rw [List.any_cons, List.any_cons, eq_v g h z.1 f, h2]
theorem ops_in (neg : Bool) : OpS X (rIn X.K neg) (inG neg) := by
  intro Fr F H ρ σ x y d e o Q R hx hy g k
  unfold inG at g
  split at g
  · rename_i ds e1
    split at g
    · rename_i z
      cases g
      rw [Bool.and_eq_true] at z
      obtain ⟨a, vs, rfl, q, r⟩ := hy.seq R.f e1
      have hx0 : Rep X.K F x d := by
        rcases hx with z' | ⟨a, o, e1, h1, h2⟩
        · exact z'
        · cases h2; cases z.1
      obtain ⟨h1, h2⟩ := in_v hx0 z.1 r z.2
      refine ⟨a, vs, rfl, q, flat_v hx0 z.1, h1, ?_⟩
      rw [h2]
      exact after_val R (.bl _) k
    · cases g
  · cases g
theorem oe_in (ha : OE X a ma) (hb : OE X b mb) (hm : behindInMarks .In b = false := by rfl) : OE X (.Compare a [.In] [b] pos) (binM (inG false) ma mb) := oe_cmp op_in_seq (ops_in false) ha hb hm
theorem oe_nin (ha : OE X a ma) (hb : OE X b mb) (hm : behindInMarks .NotIn b = false := by rfl) : OE X (.Compare a [.NotIn] [b] pos) (binM (inG true) ma mb) := oe_cmp op_notIn_seq (ops_in true) ha hb hm
theorem te_in (ha : OE X a ma) (hb : OE X b mb) (hm : behindInMarks .In b = false := by rfl) : TeE X (.Compare a [.In] [b] pos) (boolM (binM (inG false) ma mb)) := te_cmp op_in_seq (ops_in false) ha hb hm
theorem te_nin (ha : OE X a ma) (hb : OE X b mb) (hm : behindInMarks .NotIn b = false := by rfl) : TeE X (.Compare a [.NotIn] [b] pos) (boolM (binM (inG true) ma mb)) := te_cmp op_notIn_seq (ops_in true) ha hb hm
/-- is of truth values -/
def isBG (neg : Bool) : D → D → Option Opd
  | .bl a, .bl b => some (.val (.bl (if neg then !decide (a = b) else decide (a = b))))
  | _, _ => none
theorem ops_isB : OpS X rIsB (isBG false) := by
  intro Fr F H ρ σ x y d e o Q R hx hy g k
  unfold isBG at g
  split at g
  · rename_i a b
    cases g
    cases hx.bl
    cases hy.bl
    exact ⟨a, b, rfl, rfl, after_val R (.bl _) k⟩
  · cases g
theorem oe_isB (ha : OE X a ma) (hb : OE X b mb) : OE X (.Compare a [.Is] [b] pos) (binM (isBG false) ma mb) := oe_cmp op_isBl ops_isB ha hb (nomark _)
theorem te_isB (ha : OE X a ma) (hb : OE X b mb) : TeE X (.Compare a [.Is] [b] pos) (boolM (binM (isBG false) ma mb)) := te_cmp op_isBl ops_isB ha hb (nomark _)

/-! methods of a name's own list -/
def methM (i : Nat) (dm : DM) (g : List D → List D → Option (List D × D)) : EM := fun ρ => match ρ[i]? with
  | some (some (.own (.lst _))) => match dm ρ with
    | some (as, ρ') => match ρ'[i]? with
      | some (some (.own (.lst ds))) => match g ds as with
        | some (ds2, r) => some (.val r, ρ'.set i (some (.own (.lst ds2))))
        | none => none
      | _ => none
    | none => none
  | _ => none
/-- r asks of a list and values what g gives -/
def MetS (K : PySem.W.Frag) (r : V → List V → Hp → VK → Prop) (g : List D → List D → Option (List D × D)) : Prop :=
  ∀ {F H : Hp} {a : Addr} {vs ws : List V} {ds as ds2 : List D} {d : D} {Q : VK}, H a = some (.lst vs) → Same F H → F a = none → Reps K F vs ds → Reps K F ws as → g ds as = some (ds2, d) →
    (∀ v vs2, Rep K F v d → Reps K F vs2 ds2 → Q v (upd H a (.lst vs2))) → r (.ref a) ws H Q
theorem meth_read {i : Nat} {dm : DM} {g : List D → List D → Option (List D × D)} {r : V → List V → Hp → VK → Prop} (hs : MetS X.K r g) {σ : St} {H : Hp} {Q : VK} (h : tE X.K (methM i dm g) σ H Q) :
    ∃ v, σ[i]? = some (some v) ∧ tyV X.K "list" v H ∧ tD X.K dm σ H fun xs H2 => r v xs H2 Q := by
  obtain ⟨Fr, F, ρ, o, ρ', R, em, k⟩ := h
  unfold methM at em
  split at em
  · rename_i ds0 e0
    split at em
    · rename_i as ρ1 e1
      split at em
      · rename_i ds e2
        split at em
        · rename_i ds2 rr e3
          cases em
          obtain ⟨u, eu, a, o, rfl, h1, h2, _⟩ := R.slot i _ e0
          cases h2 with
          | lst rs0 =>
            refine ⟨_, eu, .inl ⟨rfl, _, SqL.of h1⟩, Fr, F, ρ, _, _, R, e1, fun F1 H1 ws q1 R1 rw' => ?_⟩
            obtain ⟨u', eu', a', o', ea, g1, g2, g3, g4⟩ := R1.slot i _ e2
            rw [eu] at eu'; cases eu'
            cases ea
            cases g2 with
            | lst rs =>
              refine hs g1 R1.f g3 rs rw' e3 fun v vs2 rv rs2 => ?_
              exact k F1 _ v q1 (R1.mut e2 eu (.lst rs2)) rv
        · cases em
      · cases em
    · cases em
  · cases em
variable {x name : Str} {px apos cpos : Pos} {dm : DM} {g : List D → List D → Option (List D × D)} {r : V → List V → Hp → VK → Prop} {id : String}
theorem oe_meth (i : Nat) (slot : PySem.Slot "list" name id) (hty : typeOf (.builtin id) = pure (.type "method_descriptor")) (hm : MtR X id r) (hs : MetS X.K r g) (hd : DE X (e :: es) dm)
    (hN : X.N[i]? = some x := by rfl) (hv : Vis X.env.scope x := by first | exact Or.inl rfl | exact Or.inr (Or.inl rfl) | exact Or.inr (Or.inr rfl)) (hdb : (x == ("__debug__" : Str)) = false := by decide) (hcd : (x == ("__classdict__" : Str)) = false := by decide)
    (hbase : attributeBase (.Name x px) name X.env (eval (.Name x px) X.env) = eval (.Name x px) X.env := by rfl)
    (hfew : ((backTo cpos (starEach (e :: es) X.env)).all (fun x => !x.1) && (backToKw cpos (keywordEach [] X.env)).all (fun x => x.1.isSome)
      && decide ((e :: es).length + ([] : List Keyword).length + (if ([] : List Keyword).isEmpty then 0 else 1) < 30)) = true := by rfl)
    (hline : (apos.endLine == cpos.line) = true := by rfl) (hst : starEach (e :: es) X.env = (false, eval e X.env) :: starEach es X.env := by rfl) (hplain : (backTo cpos (starEach es X.env)).any (·.1) = false := by rfl) :
    OE X (.Call (.Attribute (.Name x px) name apos) (e :: es) [] cpos) (methM i dm g) :=
  ⟨pe_imp (pe_bm PySem.F.plainAttrs_list slot hty hm (pe_var hN hv hdb hcd) hd.pa hbase hfew hline hst hplain) fun σ H Q h => meth_read hs h⟩
theorem oe_meth0 (i : Nat) (slot : PySem.Slot "list" name id) (hty : typeOf (.builtin id) = pure (.type "method_descriptor")) (hm : MtR X id r) (hs : MetS X.K r g)
    (hN : X.N[i]? = some x := by rfl) (hv : Vis X.env.scope x := by first | exact Or.inl rfl | exact Or.inr (Or.inl rfl) | exact Or.inr (Or.inr rfl)) (hdb : (x == ("__debug__" : Str)) = false := by decide) (hcd : (x == ("__classdict__" : Str)) = false := by decide)
    (hbase : attributeBase (.Name x px) name X.env (eval (.Name x px) X.env) = eval (.Name x px) X.env := by rfl) (hline : (apos.endLine == cpos.line) = true := by rfl) :
    OE X (.Call (.Attribute (.Name x px) name apos) [] [] cpos) (methM i nilD g) := by
  refine ⟨pe_imp (pe_bm0 PySem.F.plainAttrs_list slot hty hm (pe_var hN hv hdb hcd) hbase hline) fun σ H Q h => ?_⟩
  obtain ⟨Fr, F, ρ, o, ρ', R, em, k⟩ := h
  unfold methM nilD at em
  split at em
  · rename_i ds0 e0
    dsimp only at em
    rw [e0] at em
    dsimp only at em
    split at em
    · rename_i ds2 rr e3
      cases em
      obtain ⟨u, eu, a, o, rfl, h1, h2, h3, _⟩ := R.slot i _ e0
      cases h2 with
      | lst rs =>
        refine ⟨_, eu, .inl ⟨rfl, _, SqL.of h1⟩, ?_⟩
        exact hs h1 R.f h3 rs .nil e3 fun v vs2 rv rs2 => k F _ v (Same.refl F) (R.mut e0 eu (.lst rs2)) rv
    · cases em
  · cases em
def appendG (ds as : List D) : Option (List D × D) := match as with
  | [d] => if ds.length < sizeLine then some (ds ++ [d], .non) else none
  | _ => none
theorem ms_append : MetS X.K rAppend appendG := by
  intro F H a vs ws ds as ds2 d Q h1 h2 h3 r1 r2 e k
  unfold appendG at e
  split at e
  · rename_i d0
    split at e
    · rename_i hl
      cases e
      cases r2 with
      | cons r2 r3 =>
        cases r3
        exact ⟨a, vs, _, rfl, rfl, h1, by rw [r1.length]; exact hl, k _ _ .non (r1.append (.cons r2 .nil))⟩
    · cases e
  · cases e
def extendG (ds as : List D) : Option (List D × D) := match as with
  | [.lst es] => if ds.length + es.length ≤ sizeLine then some (ds ++ es, .non) else none
  | _ => none
theorem ms_extend : MetS X.K rExtend extendG := by
  intro F H a vs ws ds as ds2 d Q h1 h2 h3 r1 r2 e k
  unfold extendG at e
  split at e
  · rename_i es
    split at e
    · rename_i hl
      cases e
      cases r2 with
      | cons r2 r3 =>
        cases r3
        cases r2 with
        | lst q rs => exact ⟨a, _, vs, _, rfl, rfl, h1, h2 _ _ q, by rw [r1.length, rs.length]; exact hl, k _ _ .non (r1.append rs)⟩
    · cases e
  · cases e
def popG (ds as : List D) : Option (List D × D) := match as with
  | [] => match ds[ds.length - 1]? with
    | some d => some (ds.dropLast, d)
    | none => none
  | _ => none
theorem ms_pop : MetS X.K rPop popG := by
  intro F H a vs ws ds as ds2 d Q h1 h2 h3 r1 r2 e k
  unfold popG at e
  split at e
  · split at e
    · rename_i d0 e0
      cases e
      cases r2
      obtain ⟨v, ev, rv⟩ := r1.get e0
      exact ⟨a, vs, v, rfl, rfl, h1, by rw [r1.length]; exact ev, k _ _ rv r1.dropLast⟩
    · cases e
  · cases e
def popAtG (ds as : List D) : Option (List D × D) := match as with
  | [.int i] => match ixN ds.length i with
    | some j => match ds[j]? with
      | some d => some (ds.eraseIdx j, d)
      | none => none
    | none => none
  | _ => none
def rSized (r : V → List V → Hp → VK → Prop) : V → List V → Hp → VK → Prop := fun x vs H Q => ∃ l xs, x = .ref l ∧ H l = some (.lst xs) ∧ (xs.length ≤ sizeLine → r x vs H Q)
theorem mt_sized {id : String} {r : V → List V → Hp → VK → Prop} (h : MtR X id r) : MtR X id (rSized r) := by
  intro pins s σ H x xs v us Q I rx rs q
  obtain ⟨l, ys, rfl, e, q⟩ := q
  obtain ⟨z, _⟩ := I.lstM e
  exact h pins s σ H _ xs v us Q I rx rs (q z)
theorem ms_popAt : MetS X.K (rSized rPopAt) popAtG := by
  intro F H a vs ws ds as ds2 d Q h1 h2 h3 r1 r2 e k
  refine ⟨a, vs, rfl, h1, fun hz => ?_⟩
  unfold popAtG at e
  split at e
  · rename_i i
    split at e
    · rename_i j ej
      split at e
      · rename_i d0 e0
        cases e
        cases r2 with
        | cons r2 r3 =>
          cases r3; cases r2
          obtain ⟨v, ev, rv⟩ := r1.get e0
          obtain ⟨z1, z2, z3, z4⟩ := ixN_seq ej
          have hn := line63
          rw [r1.length] at hz
          exact ⟨a, vs, i, j, v, rfl, rfl, h1, by omega, by omega, by rw [r1.length]; exact z1, ev, k _ _ rv (r1.eraseIdx j)⟩
      · cases e
    · cases e
  · cases e
def insertG (ds as : List D) : Option (List D × D) := match as with
  | [.int i, d] => if ds.length < sizeLine ∧ 0 ≤ i ∧ i < 2 ^ 63 then some (ds.take i.toNat ++ [d] ++ ds.drop i.toNat, .non) else none
  | _ => none
def rInsert : V → List V → Hp → VK → Prop := fun x vs H Q => ∃ (l : Addr) (xs : List V) (i : Int) (y : V), x = .ref l ∧ vs = [.int i, y] ∧ H l = some (.lst xs) ∧ xs.length < sizeLine ∧ 0 ≤ i ∧ i < 2 ^ 63 ∧
    Q .non (upd H l (.lst (xs.take i.toNat ++ [y] ++ xs.drop i.toNat)))
theorem ms_insert : MetS X.K rInsert insertG := by
  intro F H a vs ws ds as ds2 d Q h1 h2 h3 r1 r2 e k
  unfold insertG at e
  split at e
  · rename_i i d0
    split at e
    · rename_i hl
      cases e
      cases r2 with
      | cons r2 r3 =>
        cases r2
        cases r3 with
        | cons r3 r4 =>
          cases r4
          exact ⟨a, vs, i, _, rfl, rfl, h1, by rw [r1.length]; exact hl.1, hl.2.1, hl.2.2, k _ _ .non (((r1.take _).append (.cons r3 .nil)).append (r1.drop _))⟩
    · cases e
  · cases e
variable {px apos cpos : Pos} {x : Str} {dm : DM}
theorem oe_append (i : Nat) (hd : DE X [e] dm) (hN : X.N[i]? = some x := by rfl) (hv : Vis X.env.scope x := by first | exact Or.inl rfl | exact Or.inr (Or.inl rfl) | exact Or.inr (Or.inr rfl)) (hdb : (x == ("__debug__" : Str)) = false := by decide) (hcd : (x == ("__classdict__" : Str)) = false := by decide)
    (hbase : attributeBase (.Name x px) "append" X.env (eval (.Name x px) X.env) = eval (.Name x px) X.env := by rfl)
    (hfew : ((backTo cpos (starEach [e] X.env)).all (fun x => !x.1) && (backToKw cpos (keywordEach [] X.env)).all (fun x => x.1.isSome)
      && decide ([e].length + ([] : List Keyword).length + (if ([] : List Keyword).isEmpty then 0 else 1) < 30)) = true := by rfl)
    (hline : (apos.endLine == cpos.line) = true := by rfl) (hst : starEach [e] X.env = (false, eval e X.env) :: starEach [] X.env := by rfl) :
    OE X (.Call (.Attribute (.Name x px) "append" apos) [e] [] cpos) (methM i dm appendG) := oe_meth i PySem.F.slot_list_append PySem.F.type_list_append mt_append ms_append hd hN hv hdb hcd hbase hfew hline hst
theorem oe_extend (i : Nat) (hd : DE X [e] dm) (hN : X.N[i]? = some x := by rfl) (hv : Vis X.env.scope x := by first | exact Or.inl rfl | exact Or.inr (Or.inl rfl) | exact Or.inr (Or.inr rfl)) (hdb : (x == ("__debug__" : Str)) = false := by decide) (hcd : (x == ("__classdict__" : Str)) = false := by decide)
    (hbase : attributeBase (.Name x px) "extend" X.env (eval (.Name x px) X.env) = eval (.Name x px) X.env := by rfl)
    (hfew : ((backTo cpos (starEach [e] X.env)).all (fun x => !x.1) && (backToKw cpos (keywordEach [] X.env)).all (fun x => x.1.isSome)
      && decide ([e].length + ([] : List Keyword).length + (if ([] : List Keyword).isEmpty then 0 else 1) < 30)) = true := by rfl)
    (hline : (apos.endLine == cpos.line) = true := by rfl) (hst : starEach [e] X.env = (false, eval e X.env) :: starEach [] X.env := by rfl) :
    OE X (.Call (.Attribute (.Name x px) "extend" apos) [e] [] cpos) (methM i dm extendG) := oe_meth i PySem.F.slot_list_extend PySem.F.type_list_extend mt_extend ms_extend hd hN hv hdb hcd hbase hfew hline hst
theorem oe_popAt (i : Nat) (hd : DE X [e] dm) (hN : X.N[i]? = some x := by rfl) (hv : Vis X.env.scope x := by first | exact Or.inl rfl | exact Or.inr (Or.inl rfl) | exact Or.inr (Or.inr rfl)) (hdb : (x == ("__debug__" : Str)) = false := by decide) (hcd : (x == ("__classdict__" : Str)) = false := by decide)
    (hbase : attributeBase (.Name x px) "pop" X.env (eval (.Name x px) X.env) = eval (.Name x px) X.env := by rfl)
    (hfew : ((backTo cpos (starEach [e] X.env)).all (fun x => !x.1) && (backToKw cpos (keywordEach [] X.env)).all (fun x => x.1.isSome)
      && decide ([e].length + ([] : List Keyword).length + (if ([] : List Keyword).isEmpty then 0 else 1) < 30)) = true := by rfl)
    (hline : (apos.endLine == cpos.line) = true := by rfl) (hst : starEach [e] X.env = (false, eval e X.env) :: starEach [] X.env := by rfl) :
    OE X (.Call (.Attribute (.Name x px) "pop" apos) [e] [] cpos) (methM i dm popAtG) := oe_meth i PySem.F.slot_list_pop PySem.F.type_list_pop (mt_sized mt_popAt) ms_popAt hd hN hv hdb hcd hbase hfew hline hst
theorem oe_pop (i : Nat) (hN : X.N[i]? = some x := by rfl) (hv : Vis X.env.scope x := by first | exact Or.inl rfl | exact Or.inr (Or.inl rfl) | exact Or.inr (Or.inr rfl)) (hdb : (x == ("__debug__" : Str)) = false := by decide) (hcd : (x == ("__classdict__" : Str)) = false := by decide)
    (hbase : attributeBase (.Name x px) "pop" X.env (eval (.Name x px) X.env) = eval (.Name x px) X.env := by rfl) (hline : (apos.endLine == cpos.line) = true := by rfl) :
    OE X (.Call (.Attribute (.Name x px) "pop" apos) [] [] cpos) (methM i nilD popG) := oe_meth0 i PySem.F.slot_list_pop PySem.F.type_list_pop mt_pop ms_pop hN hv hdb hcd hbase hline

/-! zip, reversed -/
def zipD (xs ys : List D) : List D := List.zipWith (fun x y => .tup [x, y]) xs ys
def zipI (dm : DM) : IM := fun ρ => match dm ρ with
  | some ([a, b], ρ') => match listD a, listD b with
    | some xs, some ys => some (zipD xs ys, none, ρ')
    | _, _ => match a, b with
      | .tup xs, .tup ys => some (zipD xs ys, none, ρ')
      | _, _ => none
  | _ => none
theorem zip_item {Fr : Frm} {F : Hp} {J : It} {vs ws : List V} {ds es : List D} (r1 : Reps X.K F vs ds) (r2 : Reps X.K F ws es)
    (go : ∀ F2 H, Same F F2 → Same F2 H → ∀ i x y, vs[i]? = some x → ws[i]? = some y → J.go i H ∧ ∀ v H', J.yld i H v H' → ∃ T, v = .ref T ∧ H T = none ∧ H' = upd H T (.tup [x, y]))
    (stop : ∀ F2 H, Same F F2 → Same F2 H → ∀ i, (vs.length ≤ i ∨ ws.length ≤ i) → J.stop i H) : IterOk X.K Fr F J (zipD ds es) := by
  intro F2 H q f1 f2
  refine ⟨fun i d e => ?_, stop F2 H q f2 _ (by unfold zipD; rw [List.length_zipWith, r1.length, r2.length]; omega)⟩
  unfold zipD at e
  rw [List.getElem?_zipWith] at e
  cases e1 : ds[i]? with
  | none => rw [e1] at e; cases e
  | some d1 =>
    cases e2 : es[i]? with
    | none => rw [e1, e2] at e; cases e
    | some d2 =>
      rw [e1, e2] at e
      cases e
      obtain ⟨v1, g1, s1⟩ := r1.get e1
      obtain ⟨v2, g2, s2⟩ := r2.get e2
      obtain ⟨h1, h2⟩ := go F2 H q f2 i v1 v2 g1 g2
      refine ⟨h1, fun v H' y => ?_⟩
      obtain ⟨T, rfl, hT, rfl⟩ := h2 v H' y
      have hF : F2 T = none := f2.free hT
      refine ⟨upd F2 T (.tup [v1, v2]), same_new hF, same_new hT, fun Fr' ρ σ R => (R.new _ hT).1, .tup (SqT.of upd_same) ?_⟩
      exact .cons ((s1.mono q).mono (same_new hF)) (.cons ((s2.mono q).mono (same_new hF)) .nil)
theorem zipI_lk {ρ ρ' : Rho} {ds : List D} {j : Nat} {d : D} (h : zipI dm ρ = some (ds, some (j, d), ρ')) : False := by
  unfold zipI at h
  split at h
  · split at h
    · cases h
    · split at h <;> cases h
  · cases h
theorem Rep.list {K : PySem.W.Frag} {F : Hp} {v : V} {d : D} {ds : List D} (h : Rep K F v d) (e : listD d = some ds) : ∃ a vs, v = .ref a ∧ SqL K F a vs ∧ Reps K F vs ds := by
  cases h with
  | lst q r => cases e; exact ⟨_, _, rfl, SqL.of q, r⟩
  | rol q r => cases e; exact ⟨_, _, rfl, q, r⟩
  | non => cases e
  | bl => cases e
  | int => cases e
  | str => cases e
  | tup => cases e
theorem ie_zip {elts : List Expr} {kk : Nat} {tpos : Pos} (hm : X.mg "zip" = none) (hd : DE X [a, b] dm) (hg : Gl X "zip" := by rfl)
    (hs : starEach [a, b] X.env = (false, eval a X.env) :: starEach [b] X.env := by rfl) (hpl : (backTo pos (starEach [b] X.env)).any (·.1) = false := by rfl) :
    IE X (.Tuple elts kk tpos) (.Call (.Name "zip" p) [a, b] [] pos) [] (zipI dm) := by
  refine ⟨pi_imp (RZ.pi_zipA hg hm hd.pa hs hpl) fun σ H R ⟨Fr, F, ρ, ds, lk, ρ', Rr, em, k⟩ => ?_, fun ρ ds j d ρ' em => (zipI_lk em).elim⟩
  unfold zipI at em
  split at em
  · rename_i d1 d2 ρ1 e1
    split at em
    · rename_i xs ys h1 h2
      cases em
      refine ⟨Fr, F, ρ, _, _, Rr, e1, fun F1 H1 vs q1 R1 rs => ?_⟩
      cases rs with
      | cons r1 rs =>
        cases rs with
        | cons r2 rs =>
          cases rs
          obtain ⟨c1, v1, rfl, s1, t1⟩ := r1.list h1
          obtain ⟨c2, v2, rfl, s2, t2⟩ := r2.list h2
          refine ⟨c1, c2, v1, v2, rfl, .inl ⟨sameL R1.f s1, sameL R1.f s2, k Fr F1 H1 _ q1 R1 rfl (zip_item t1 t2 (fun F2 H2 q f i x y z1 z2 => ?_) fun F2 H2 q f i z => ?_)⟩⟩
          · have u1 := sameL (q.trans f) s1
            have u2 := sameL (q.trans f) s2
            refine ⟨⟨v1, v2, x, y, u1, u2, z1, z2⟩, fun v H' ⟨T, x', y', e1, e2, e3, e4, e5⟩ => ⟨T, e1, e2, ?_⟩⟩
            have g1 := e4 _ u1
            have g2 := e5 _ u2
            rw [z1] at g1; rw [z2] at g2
            cases g1; cases g2
            exact e3
          · exact ⟨v1, v2, sameL (q.trans f) s1, sameL (q.trans f) s2, z⟩
    · split at em
      · rename_i xs ys _
        cases em
        refine ⟨Fr, F, ρ, _, _, Rr, e1, fun F1 H1 vs q1 R1 rs => ?_⟩
        cases rs with
        | cons r1 rs =>
          cases rs with
          | cons r2 rs =>
            cases rs
            cases r1 with
            | tup s1 t1 =>
              cases r2 with
              | tup s2 t2 =>
                rename_i c1 v1 c2 v2
                refine ⟨c1, c2, v1, v2, rfl, .inr ⟨sameT R1.f s1, sameT R1.f s2, k Fr F1 H1 _ q1 R1 rfl (zip_item t1 t2 (fun F2 H2 q f i x y z1 z2 => ?_) fun F2 H2 q f i z => ?_)⟩⟩
                · have u1 := sameT (q.trans f) s1
                  have u2 := sameT (q.trans f) s2
                  refine ⟨⟨v1, v2, x, y, u1, u2, z1, z2⟩, fun v H' ⟨T, x', y', e1, e2, e3, e4, e5⟩ => ⟨T, e1, e2, ?_⟩⟩
                  have g1 := e4 _ u1
                  have g2 := e5 _ u2
                  rw [z1] at g1; rw [z2] at g2
                  cases g1; cases g2
                  exact e3
                · exact ⟨v1, v2, sameT (q.trans f) s1, sameT (q.trans f) s2, z⟩
      · cases em
  · cases em
def revI (m : EM) : IM := fun ρ => match esc m ρ with
  | some (d, ρ') => match seqD d with
    | some ds => some (ds.reverse, none, ρ')
    | none => none
  | none => none
theorem ie_rev (hm : X.mg "reversed" = none) (h : OE X a m) {tg : Expr} (hg : Gl X "reversed" := by rfl) (hs : starEach [a] X.env = (false, eval a X.env) :: starEach [] X.env := by rfl) :
    IE X tg (.Call (.Name "reversed" p) [a] [] pos) [] (revI m) := by
  refine ⟨pi_imp (RT.pi_revA hg hm h.ve.pe hs) fun σ H R ⟨Fr, F, ρ, ds, lk, ρ', Rr, em, k⟩ => ?_, fun ρ ds j d ρ' em => ?_⟩
  · unfold revI at em
    split at em
    · rename_i d ρ1 e1
      split at em
      · rename_i ds' e2
        cases em
        refine ⟨Fr, F, ρ, _, _, Rr, e1, fun F1 H1 v q1 R1 r => ?_⟩
        have item : ∀ {J : It} {vs : List V}, Reps X.K F1 vs ds' → (∀ F2 H2, Same F1 F2 → Same F2 H2 → ∀ i x, i < vs.length → vs[vs.length - 1 - i]? = some x → J.go i H2 ∧ ∀ v H', J.yld i H2 v H' → H' = H2 ∧ v = x) →
            (∀ i H2, vs.length ≤ i → J.stop i H2) → IterOk X.K Fr F1 J ds'.reverse := fun {J vs} t go stop F2 H2 q f1 f2 => by
          refine ⟨fun i d e => ?_, stop _ _ (by rw [List.length_reverse, t.length]; exact Nat.le_refl _)⟩
          have hi : i < vs.length := by rw [t.length, ← List.length_reverse]; exact some_lt e
          have t2 : Reps X.K F1 vs.reverse ds'.reverse := t.reverse
          obtain ⟨x, z1, z2⟩ := t2.get e
          rw [List.getElem?_reverse hi] at z1
          obtain ⟨g1, g2⟩ := go F2 H2 q f2 i x hi z1
          refine ⟨g1, fun v H' y => ?_⟩
          obtain ⟨rfl, rfl⟩ := g2 v H' y
          exact ⟨F2, Same.refl _, Same.refl _, fun _ _ _ z => z, z2.mono q⟩
        have lists : ∀ {c : Addr} {vs : List V}, v = .ref c → SqL X.K F1 c vs → Reps X.K F1 vs ds' → ∃ (a : Addr) (xs : List V), v = .ref a ∧ ((SqL X.K H1 a xs ∧ R (Itv X.K a xs.length) H1) ∨ (SqT X.K H1 a xs ∧ R (RT.ItvT X.K a xs.length) H1)) := fun {c vs} ev s t => by
          refine ⟨c, vs, ev, .inl ⟨sameL R1.f s, k Fr F1 H1 _ q1 R1 rfl (item t (fun F2 H2 q f i x hi z => ?_) fun i H2 z => z)⟩⟩
          refine ⟨⟨hi, vs, x, sameL (q.trans f) s, z⟩, fun w H' ⟨y1, y2⟩ => ⟨y1, ?_⟩⟩
          have y3 := y2 _ (sameL (q.trans f) s)
          rw [z] at y3; cases y3; rfl
        cases r with
        | lst s t => cases e2; exact lists rfl (SqL.of s) t
        | rol s t => cases e2; exact lists rfl s t
        | tup s t =>
          cases e2
          rename_i c vs
          refine ⟨c, vs, rfl, .inr ⟨sameT R1.f s, k Fr F1 H1 _ q1 R1 rfl (item t (fun F2 H2 q f i x hi z => ?_) fun i H2 z => z)⟩⟩
          refine ⟨⟨hi, vs, x, sameT (q.trans f) s, z⟩, fun w H' ⟨y1, y2⟩ => ⟨y1, ?_⟩⟩
          have y3 := y2 _ (sameT (q.trans f) s)
          rw [z] at y3; cases y3; rfl
        | non => cases e2
        | bl => cases e2
        | int => cases e2
        | str => cases e2
      · cases em
    · cases em
  · exfalso
    unfold revI at em
    split at em
    · split at em <;> cases em
    · cases em
end
end Ev

set_option Elab.async false
set_option linter.all false
set_option maxRecDepth 100000
/-! Ev. I: the end of a law. -/
set_option autoImplicit false
namespace Ev
open PySem PySem.Spec PyProof.Rows L2

/-- a def stands at the top -/
structure DefAt (K : PySem.W.Frag) (mg : Str → Option Value) (x : Str) (st : Stmt) : Prop where
  ex : ∃ f fd, Fun K x x st f fd ∧ mg x = some (.ref f)
theorem def_mk {K : PySem.W.Frag} {h : Heap} {mg : Str → Option Value} {x : Str} {st : Stmt} {f : Addr} {oc : Value} {od an : Option Addr} {osl : Array (Option Value)} {kV doc pm cdv ct : Value} (X : K.In h) (G : h.Ns mainGlobals mg)
    (a : PySem.W.nsIn K mainGlobals x = some (some (.ref f))) (l : K.lookup f = some ⟨oc, od, .func (PySem.W.fnOf x x (defArgs st) (defBody st) (defScope st) .none kV doc pm an cdv ct), osl⟩)
    (c : PySem.W.codeIn K cdv x = true) (k : PySem.W.keepIn K (.ref f) = true) : DefAt K mg x st := ⟨f, _, fun_mk l c k, PySem.W.mg_of X G a⟩
theorem callee_of {P : Program} {w : World} {K : PySem.W.Frag} {mg : Str → Option Value} {base : Heap} {x : Str} {st : Stmt} {k np : Nat} {ps : List Str} {fn : Fn} (d : DefAt K mg x st)
    (ok : ∀ {f : Addr} {fd : FuncData}, Fun K x x st f fd → FnOk P w K mg base CX0 k f fd ps (spF K fn np))
    (hb : ∀ (kV doc pm : Value) (an : Option Addr) (cdv ct : Value) (us : List Value), us.length = ps.length → bindArgs (PySem.W.fnOf x x (defArgs st) (defBody st) (defScope st) .none kV doc pm an cdv ct) ⟨us, []⟩ = pure (ps.zip us)) : Callee P w K mg base k x np fn := by
  obtain ⟨f, fd, F, hm⟩ := d.ex
  exact ⟨f, fd, ps, ok F, hm, F.kp, F.binds hb⟩
def noFr : Frm := ⟨fun _ => none, fun _ => False, fun _ h => h.elim⟩
/-- the law's promise out of its value -/
theorem law_sp {K : PySem.W.Frag} {fn : Fn} {H : Hp} {a : Addr} {ns : List Int} {E : XK} (hS : SqL K H a (ns.map V.int)) (h : ∃ post, fn [.val (.rol (ns.map D.int))] = some (.val (.bl true), post)) : spF K fn 1 [.ref a] H (fun v _ => v = .bl true) E := by
  obtain ⟨post, h⟩ := h
  refine ⟨rfl, noFr, H, [.val (.rol (ns.map D.int))], _, post, rfl, ⟨fun b o z => (nomatch z), Same.refl H, fun b o z => (nomatch z), fun i sv e => ?_, fun i j s t e1 e2 x1 x2 e3 => ?_, Nat.le_refl _⟩, h, fun F' H' v _ _ r => ?_⟩
  · cases i with
    | zero => cases e; exact ⟨_, rfl, .rol hS (Reps.of_ints ns)⟩
    | succ i => cases e
  · cases i with
    | zero => cases e1; cases x1
    | succ i => cases e1
  · cases r; rfl
end Ev

set_option Elab.async false
set_option linter.all false
set_option maxRecDepth 100000
set_option autoImplicit false
namespace Ev.W
open PySem PySem.Spec PyProof.Rows L2 Ev
def m_bit_count : Fn := fnM 1 1 []
    (seqM (setM 1 (constM (.int 0)))
    (seqM (whileM (truM (varM 0)) (seqM (setM 0 (binM andG (varM 0) (binM subG (varM 0) (constM (.int 1)))))
    (setM 1 (binM addG (varM 1) (constM (.int 1))))))
    (retM (varM 1))))
def m_bit_at : Fn := fnM 3 0 []
    (retM (binM andG (binM shrG (varM 0) (binM subG (binM subG (varM 1) (constM (.int 1))) (varM 2))) (constM (.int 1))))
def m_extended : Fn := fnM 2 3 []
    (seqM (setM 2 (compM [3] (rng1 (consD (biM lenG (consA (varM 0) nilA)) nilD)) (nameG 3) (boolM (binM isnG (binM atD (varM 0) (varM 3)) (constM .non))) (esc (varM 3))))
    (retM (compM [3] (rng1 (consD (biM lenG (consA (varM 0) nilA)) nilD)) (nameG 3) yesM (esc (biM minG (consA (compM [4] (nameI 2) (nameG 4) yesM (esc (binM addG (binM atD (varM 0) (varM 4)) (binM mulG (varM 1) (callM m_bit_count [] (consA (binM xorG (varM 4) (varM 3)) nilA)))))) nilA))))))
def m_gain_of : Fn := fnM 2 2 []
    (seqM (setM 2 (biM lenG (consA (varM 0) nilA)))
    (retM (biM sumG (consA (compM [3] (rng1 (consD (varM 2) nilD)) (nameG 3) (truM (callM m_bit_at [] (consA (varM 1) (consA (varM 2) (consA (varM 3) nilA))))) (esc (binM atD (varM 0) (varM 3)))) nilA))))
def m_greedy : Fn := fnM 2 4 []
    (seqM (setM 2 (binM mulG (lstM (consD (constM (.int 0)) nilD)) (biM lenG (consA (varM 1) nilA))))
    (seqM (setM 3 (constM (.int 0)))
    (seqM (forM (nameI 1) (nameG 4) (seqM (setM 5 (binM orG (varM 3) (binM shlG (constM (.int 1)) (binM subG (binM subG (biM lenG (consA (varM 1) nilA)) (constM (.int 1))) (varM 4)))))
    (seqM (putM 2 (varM 4) (binM subG (binM atD (varM 0) (varM 5)) (binM atD (varM 0) (varM 3))))
    (setM 3 (varM 5)))))
    (retM (varM 2)))))
def m_slack_of : Fn := fnM 2 1 []
    (retM (compM [2] (rng1 (consD (biM lenG (consA (varM 0) nilA)) nilD)) (nameG 2) yesM (esc (binM subG (binM subG (binM atD (varM 0) (varM 2)) (binM atD (varM 0) (constM (.int 0)))) (callM m_gain_of [] (consA (varM 1) (consA (varM 2) nilA)))))))
def m_is_below_heights : Fn := fnM 2 1 []
    (seqM (setM 2 (callM m_slack_of [] (consA (varM 0) (consA (varM 1) nilA))))
    (retM (andV (binM geG (biM minG (consA (varM 2) nilA)) (constM (.int 0))) (binM eqG (binM atD (varM 2) (binM subG (biM lenG (consA (varM 2) nilA)) (constM (.int 1)))) (constM (.int 0))))))
def m__law_begin : Fn := fnM 1 1 []
    (retM (lstM (consD (compM [1] (nameI 0) (nameG 1) yesM (esc (biM intFG (consA (varM 1) nilA)))) (consD (constM (.int 0)) (consD (constM (.int 0)) (consD (constM (.int 7)) nilD))))))
def m__law_draw : Fn := fnM 2 3 [0]
    (seqM (ifS (boolM (binM gtG (binM atD (varM 0) (constM (.int 2))) (constM (.int 0)))) (seqM (setM 3 (binM atD (varM 0) (constM (.int 2))))
    (seqM (putM 0 (constM (.int 2)) (binM divG (varM 3) (varM 1)))
    (retM (binM modG (biM intFG (consA (varM 3) nilA)) (varM 1))))) nextM)
    (seqM (setM 2 (constM (.int 0)))
    (seqM (ifS (boolM (binM ltG (binM atD (varM 0) (constM (.int 1))) (biM lenG (consA (binM atD (varM 0) (constM (.int 0))) nilA)))) (seqM (setM 4 (binM atD (binM atD (varM 0) (constM (.int 0))) (binM atD (varM 0) (constM (.int 1)))))
    (setM 2 (binM addG (binM mulG (constM (.int 2)) (biM absG (consA (varM 4) nilA))) (biM intFG (consA (binM ltG (varM 4) (constM (.int 0))) nilA))))) nextM)
    (seqM (augAtM 0 (constM (.int 1)) iaddG (constM (.int 1)))
    (seqM (ifS (boolM (binM geG (varM 2) (binM mulG (constM (.int 2)) (binM powG (constM (.int 10)) (constM (.int 18)))))) (seqM (setM 3 (binM modG (biM intFG (consA (binM divG (varM 2) (constM (.int 2))) nilA)) (binM shlG (constM (.int 1)) (constM (.int 6000)))))
    (seqM (putM 0 (constM (.int 2)) (binM divG (varM 3) (varM 1)))
    (retM (binM modG (biM intFG (consA (varM 3) nilA)) (varM 1))))) nextM)
    (seqM (putM 0 (constM (.int 3)) (binM modG (biM intFG (consA (binM addG (binM addG (binM addG (binM mulG (binM atD (varM 0) (constM (.int 3))) (constM (.int 48271))) (binM mulG (binM modG (biM intFG (consA (varM 2) nilA)) (constM (.int 2147483629))) (constM (.int 16807)))) (binM mulG (binM atD (varM 0) (constM (.int 1))) (constM (.int 69621)))) (constM (.int 11))) nilA)) (constM (.int 2147483647))))
    (retM (binM modG (biM intFG (consA (binM divG (binM atD (varM 0) (constM (.int 3))) (constM (.int 16))) nilA)) (varM 1)))))))))
def m__law_rare : Fn := fnM 2 0 [0]
    (retM (binM eqG (callM m__law_draw [0] (consA (varM 0) (consA (varM 1) nilA))) (binM divG (varM 1) (constM (.int 2)))))
def m__law_is_int : Fn := fnM 1 0 []
    (retM (andV (isiM ["int"] (varM 0)) (notV (isiM ["bool"] (varM 0)))))
def m__law_is_ints : Fn := fnM 1 1 []
    (retM (andV (isiM ["tuple"] (varM 0)) (biM allG (consA (compM [1] (nameI 0) (nameG 1) yesM (esc (callM m__law_is_int [] (consA (varM 1) nilA)))) nilA))))
def m__law_row : Fn := fnM 2 1 []
    (retM (biM tupleG (consA (compM [2] (rng1 (consD (varM 1) nilD)) (nameG 2) yesM (esc (binM andG (binM shrG (varM 0) (binM subG (binM subG (varM 1) (constM (.int 1))) (varM 2))) (constM (.int 1))))) nilA)))
def m__law_ones : Fn := fnM 1 1 []
    (seqM (setM 1 (constM (.int 0)))
    (seqM (whileM (boolM (binM gtG (varM 0) (constM (.int 0)))) (seqM (setM 0 (binM andG (varM 0) (binM subG (varM 0) (constM (.int 1)))))
    (augM 1 iaddG (constM (.int 1)))))
    (retM (varM 1))))
def m__law_sum : Fn := fnM 1 2 []
    (seqM (setM 1 (constM (.int 0)))
    (seqM (forM (nameI 0) (nameG 2) (seqM (ifS (boolM (binM isG (varM 2) (constM .non))) (retM (constM .non)) nextM)
    (augM 1 iaddG (varM 2))))
    (retM (varM 1))))
def m__law_low : Fn := fnM 1 2 []
    (seqM (setM 1 (constM .non))
    (seqM (forM (nameI 0) (nameG 2) (ifS (andM (boolM (binM isnG (varM 2) (constM .non))) (orM (boolM (binM isG (varM 1) (constM .non))) (boolM (binM ltG (varM 2) (varM 1))))) (setM 1 (varM 2)) nextM))
    (retM (varM 1))))
def m__law_times : Fn := fnM 2 0 []
    (seqM (ifS (boolM (binM isG (varM 0) (constM .non))) (retM (constM .non)) nextM)
    (retM (binM mulG (varM 0) (varM 1))))
def m__law_above : Fn := fnM 2 0 []
    (seqM (ifS (boolM (binM isG (varM 1) (constM .non))) (retM (constM (.bl false))) nextM)
    (retM (orV (binM isG (varM 0) (constM .non)) (binM gtG (varM 0) (varM 1)))))
def m__law_most : Fn := fnM 3 0 []
    (retM (binM orG (binM orG (binM andG (varM 0) (varM 1)) (binM andG (varM 0) (varM 2))) (binM andG (varM 1) (varM 2))))
def m__law_breach_one : Fn := fnM 3 2 []
    (seqM (setM 3 (binM subG (biM lenG (consA (varM 1) nilA)) (constM (.int 1))))
    (seqM (forM (nameI 2) (nameG 4) (ifS (truM (callM m__law_above [] (consA (binM atD (varM 1) (ifM (boolM (binM eqG (varM 0) (constM (.str "zero")))) (constM (.int 0)) (varM 3))) (consA (binM atD (varM 1) (varM 4)) nilA)))) (retM (constM (.bl true))) nextM))
    (retM (constM (.bl false)))))
def m__law_breach_two : Fn := fnM 3 4 []
    (seqM (forM (nameI 2) (nameG 3) (forM (nameI 2) (nameG 4) (seqM (setM 5 (callM m__law_times [] (consA (binM atD (varM 1) (binM andG (varM 3) (varM 4))) (consA (constM (.int 2)) nilA))))
    (seqM (setM 6 (callM m__law_times [] (consA (binM atD (varM 1) (binM orG (varM 3) (varM 4))) (consA (constM (.int 2)) nilA))))
    (seqM (ifS (boolM (binM eqG (varM 0) (constM (.str "greatest")))) (setM 5 (varM 6)) nextM)
    (seqM (ifS (boolM (binM eqG (varM 0) (constM (.str "cut")))) (setM 5 (callM m__law_sum [] (consA (lstM (consD (binM atD (varM 1) (binM andG (varM 3) (varM 4))) (consD (binM atD (varM 1) (binM orG (varM 3) (varM 4))) nilD))) nilA))) nextM)
    (ifS (truM (callM m__law_above [] (consA (varM 5) (consA (binM addG (binM atD (varM 1) (varM 3)) (binM atD (varM 1) (varM 4))) nilA)))) (retM (constM (.bl true))) nextM)))))))
    (retM (constM (.bl false))))
def m__law_breach_three : Fn := fnM 3 6 []
    (seqM (forM (rng1 (consD (biM lenG (consA (varM 2) nilA)) nilD)) (nameG 3) (forM (rng2 (consD (varM 3) (consD (biM lenG (consA (varM 2) nilA)) nilD))) (nameG 4) (forM (rng2 (consD (varM 4) (consD (biM lenG (consA (varM 2) nilA)) nilD))) (nameG 5) (seqM (setM 6 (binM atD (varM 1) (callM m__law_most [] (consA (binM atD (varM 2) (varM 3)) (consA (binM atD (varM 2) (varM 4)) (consA (binM atD (varM 2) (varM 5)) nilA))))))
    (seqM (setM 7 (binM atD (varM 1) (binM xorG (binM xorG (binM atD (varM 2) (varM 3)) (binM atD (varM 2) (varM 4))) (binM atD (varM 2) (varM 5)))))
    (seqM (setM 8 (callM m__law_sum [] (consA (lstM (consD (varM 6) (consD (varM 6) (consD (varM 7) nilD)))) nilA)))
    (seqM (ifS (boolM (binM eqG (varM 0) (constM (.str "twos")))) (setM 8 (callM m__law_times [] (consA (varM 6) (consA (constM (.int 3)) nilA)))) nextM)
    (seqM (ifS (boolM (binM eqG (varM 0) (constM (.str "sums")))) (setM 8 (callM m__law_times [] (consA (varM 7) (consA (constM (.int 3)) nilA)))) nextM)
    (ifS (truM (callM m__law_above [] (consA (varM 8) (consA (binM addG (binM addG (binM atD (varM 1) (binM atD (varM 2) (varM 3))) (binM atD (varM 1) (binM atD (varM 2) (varM 4)))) (binM atD (varM 1) (binM atD (varM 2) (varM 5)))) nilA)))) (retM (constM (.bl true))) nextM)))))))))
    (retM (constM (.bl false))))
def m__law_keeps : Fn := fnM 2 2 []
    (seqM (setM 2 (compM [3] (rng1 (consD (biM lenG (consA (varM 1) nilA)) nilD)) (nameG 3) (boolM (binM isnG (binM atD (varM 1) (varM 3)) (constM .non))) (esc (varM 3))))
    (seqM (ifS (boolM (binM (inG false) (varM 0) (tupM (consD (constM (.str "zero")) (consD (constM (.str "one")) nilD))))) (retM (notV (callM m__law_breach_one [] (consA (varM 0) (consA (varM 1) (consA (varM 2) nilA)))))) nextM)
    (seqM (ifS (boolM (binM (inG false) (varM 0) (tupM (consD (constM (.str "least")) (consD (constM (.str "greatest")) (consD (constM (.str "cut")) nilD)))))) (retM (notV (callM m__law_breach_two [] (consA (varM 0) (consA (varM 1) (consA (varM 2) nilA)))))) nextM)
    (retM (notV (callM m__law_breach_three [] (consA (varM 0) (consA (varM 1) (consA (varM 2) nilA)))))))))
def m__law_cost : Fn := fnM 1 0 [0]
    (seqM (ifS (truM (callM m__law_rare [0] (consA (varM 0) (consA (constM (.int 11)) nilA)))) (retM (callM m__law_draw [0] (consA (varM 0) (consA (constM (.int 1001)) nilA)))) nextM)
    (retM (callM m__law_draw [0] (consA (varM 0) (consA (constM (.int 6)) nilA)))))
def m__law_opened : Fn := fnM 2 0 [0, 1]
    (seqM (ifS (boolM (binM isG (callM m__law_low [] (consA (varM 1) nilA)) (constM .non))) (putM 1 (callM m__law_draw [0] (consA (varM 0) (consA (biM lenG (consA (varM 1) nilA)) nilA))) (callM m__law_cost [0] (consA (varM 0) nilA))) nextM)
    (retM (varM 1)))
def m__law_loose : Fn := fnM 3 3 [0]
    (seqM (setM 3 (lstM nilD))
    (seqM (forM (rng1 (consD (binM shlG (constM (.int 1)) (varM 1)) nilD)) (nameG 4) (seqM (setM 5 (binM ltG (callM m__law_draw [0] (consA (varM 0) (consA (constM (.int 8)) nilA))) (varM 2)))
    (exprM (methM 3 (consD (ifM (truM (varM 5)) (constM .non) (callM m__law_cost [0] (consA (varM 0) nilA))) nilD) appendG))))
    (retM (tupM (consD (varM 1) (consD (biM tupleG (consA (callM m__law_opened [0, 1] (consA (varM 0) (consA (varM 3) nilA))) nilA)) nilD))))))
def m__law_add_bends : Fn := fnM 3 9 [0, 2]
    (seqM (setM 3 (biM lenG (consA (varM 2) nilA)))
    (seqM (forM (rng1 (consD (callM m__law_draw [0] (consA (varM 0) (consA (constM (.int 4)) nilA))) nilD)) (nameG 4) (seqM (setM 5 (callM m__law_draw [0] (consA (varM 0) (consA (varM 3) nilA))))
    (seqM (setM 6 (callM m__law_draw [0] (consA (varM 0) (consA (constM (.int 6)) nilA))))
    (seqM (setM 7 (callM m__law_draw [0] (consA (varM 0) (consA (constM (.int 2)) nilA))))
    (forM (rng1 (consD (varM 3) nilD)) (nameG 8) (seqM (setM 11 (binM andG (varM 8) (varM 5)))
    (ifS (orM (andM (boolM (binM eqG (varM 7) (constM (.int 0)))) (boolM (binM neG (varM 11) (varM 5)))) (andM (boolM (binM eqG (varM 7) (constM (.int 1)))) (boolM (binM neG (varM 11) (constM (.int 0)))))) (augAtM 2 (varM 8) iaddG (varM 6)) nextM)))))))
    (seqM (forM (rng1 (consD (callM m__law_draw [0] (consA (varM 0) (consA (constM (.int 5)) nilA))) nilD)) (nameG 4) (seqM (setM 9 (binM shlG (constM (.int 1)) (callM m__law_draw [0] (consA (varM 0) (consA (varM 1) nilA)))))
    (seqM (setM 10 (binM shlG (constM (.int 1)) (callM m__law_draw [0] (consA (varM 0) (consA (varM 1) nilA)))))
    (seqM (setM 6 (callM m__law_draw [0] (consA (varM 0) (consA (constM (.int 6)) nilA))))
    (forM (rng1 (consD (varM 3) nilD)) (nameG 8) (ifS (andM (boolM (binM gtG (binM andG (varM 8) (varM 9)) (constM (.int 0)))) (boolM (binM eqG (binM andG (varM 8) (varM 10)) (constM (.int 0))))) (augAtM 2 (varM 8) iaddG (varM 6)) nextM))))))
    (retM (varM 2)))))
def m__law_cut : Fn := fnM 2 11 [0]
    (seqM (setM 2 (binM shlG (constM (.int 1)) (varM 1)))
    (seqM (setM 3 (binM mulG (lstM (consD (callM m__law_draw [0] (consA (varM 0) (consA (constM (.int 4)) nilA))) nilD)) (varM 2)))
    (seqM (forM (rng1 (consD (varM 1) nilD)) (nameG 4) (seqM (setM 7 (lstM (consD (callM m__law_draw [0] (consA (varM 0) (consA (constM (.int 6)) nilA))) (consD (callM m__law_draw [0] (consA (varM 0) (consA (constM (.int 6)) nilA))) nilD))))
    (setM 3 (compM [12] (rng1 (consD (varM 2) nilD)) (nameG 12) yesM (esc (binM addG (binM atD (varM 3) (varM 12)) (binM atD (varM 7) (binM andG (binM shrG (varM 12) (varM 4)) (constM (.int 1))))))))))
    (seqM (setM 3 (callM m__law_add_bends [0, 2] (consA (varM 0) (consA (varM 1) (consA (varM 3) nilA)))))
    (seqM (setM 5 (callM m__law_draw [0] (consA (varM 0) (consA (varM 2) nilA))))
    (seqM (forM (rng1 (consD (binM mulG (binM divG (callM m__law_draw [0] (consA (varM 0) (consA (constM (.int 4)) nilA))) (constM (.int 2))) (callM m__law_draw [0] (consA (varM 0) (consA (constM (.int 3)) nilA)))) nilD)) (nameG 6) (seqM (setM 8 (binM shlG (constM (.int 1)) (callM m__law_draw [0] (consA (varM 0) (consA (varM 1) nilA)))))
    (seqM (setM 9 (binM shlG (constM (.int 1)) (callM m__law_draw [0] (consA (varM 0) (consA (varM 1) nilA)))))
    (ifS (orM (boolM (binM eqG (binM andG (varM 5) (varM 8)) (constM (.int 0)))) (boolM (binM gtG (binM andG (varM 5) (varM 9)) (constM (.int 0))))) (seqM (setM 11 (compM [12] (rng1 (consD (varM 2) nilD)) (nameG 12) yesM (esc (andV (binM gtG (binM andG (varM 12) (varM 8)) (constM (.int 0))) (binM eqG (binM andG (varM 12) (varM 9)) (constM (.int 0)))))))
    (setM 3 (compM [12] (rng1 (consD (varM 2) nilD)) (nameG 12) yesM (esc (ifM (truM (binM atD (varM 11) (varM 12))) (constM .non) (binM atD (varM 3) (varM 12))))))) nextM))))
    (seqM (ifS (boolM (binM eqG (callM m__law_draw [0] (consA (varM 0) (consA (constM (.int 5)) nilA))) (constM (.int 2)))) (seqM (setM 10 (binM shlG (constM (.int 1)) (callM m__law_draw [0] (consA (varM 0) (consA (varM 1) nilA)))))
    (setM 3 (compM [12] (rng1 (consD (varM 2) nilD)) (nameG 12) yesM (esc (ifM (boolM (binM eqG (binM andG (varM 12) (varM 10)) (binM andG (varM 5) (varM 10)))) (binM atD (varM 3) (varM 12)) (constM .non)))))) nextM)
    (retM (tupM (consD (varM 1) (consD (biM tupleG (consA (varM 3) nilA)) nilD)))))))))))
def m__law_some_table : Fn := fnM 1 4 [0]
    (seqM (setM 1 (binM addG (binM addG (constM (.int 1)) (callM m__law_draw [0] (consA (varM 0) (consA (constM (.int 3)) nilA)))) (biM intFG (consA (callM m__law_rare [0] (consA (varM 0) (consA (constM (.int 9)) nilA))) nilA))))
    (seqM (setM 2 (callM m__law_draw [0] (consA (varM 0) (consA (constM (.int 4)) nilA))))
    (seqM (ifS (boolM (binM eqG (varM 2) (constM (.int 0)))) (retM (callM m__law_loose [0] (consA (varM 0) (consA (varM 1) (consA (callM m__law_draw [0] (consA (varM 0) (consA (constM (.int 6)) nilA))) nilA))))) nextM)
    (seqM (setM 3 (biM listG (consA (binM atD (callM m__law_cut [0] (consA (varM 0) (consA (varM 1) nilA))) (constM (.int 1))) nilA)))
    (seqM (ifS (boolM (binM ltG (varM 2) (constM (.int 3)))) (seqM (setM 4 (callM m__law_draw [0] (consA (varM 0) (consA (biM lenG (consA (varM 3) nilA)) nilA))))
    (putM 3 (varM 4) (ifM (boolM (binM eqG (callM m__law_draw [0] (consA (varM 0) (consA (constM (.int 4)) nilA))) (constM (.int 1)))) (constM .non) (callM m__law_cost [0] (consA (varM 0) nilA))))) nextM)
    (retM (tupM (consD (varM 1) (consD (biM tupleG (consA (callM m__law_opened [0, 1] (consA (varM 0) (consA (varM 3) nilA))) nilA)) nilD)))))))))
def m__law_some_big : Fn := fnM 2 1 [0]
    (seqM (setM 2 (callM m__law_draw [0] (consA (varM 0) (consA (constM (.int 6)) nilA))))
    (seqM (ifS (boolM (binM eqG (varM 2) (constM (.int 0)))) (retM (callM m__law_draw [0] (consA (varM 0) (consA (constM (.int 10)) nilA)))) nextM)
    (seqM (ifS (boolM (binM eqG (varM 2) (constM (.int 1)))) (retM (binM mulG (callM m__law_draw [0] (consA (varM 0) (consA (constM (.int 1000)) nilA))) (binM powG (constM (.int 10)) (constM (.int 40))))) nextM)
    (seqM (ifS (boolM (binM eqG (varM 2) (constM (.int 2)))) (retM (binM addG (varM 1) (callM m__law_draw [0] (consA (varM 0) (consA (constM (.int 2)) nilA))))) nextM)
    (retM (binM addG (binM mulG (constM (.int 2)) (varM 1)) (constM (.int 1))))))))
def m__law_heights : Fn := fnM 2 4 []
    (seqM (setM 2 (compM [4] (rng1 (consD (biM lenG (consA (varM 0) nilA)) nilD)) (nameG 4) (boolM (binM isnG (binM atD (varM 0) (varM 4)) (constM .non))) (esc (varM 4))))
    (seqM (setM 3 (lstM nilD))
    (seqM (forM (rng1 (consD (biM lenG (consA (varM 0) nilA)) nilD)) (nameG 4) (exprM (methM 3 (consD (biM minG (consA (compM [5] (nameI 2) (nameG 5) yesM (esc (binM addG (binM atD (varM 0) (varM 5)) (binM mulG (varM 1) (callM m__law_ones [] (consA (binM xorG (varM 5) (varM 4)) nilA)))))) nilA)) nilD) appendG)))
    (retM (varM 3)))))
def m__law_orders : Fn := fnM 1 5 []
    (seqM (setM 1 (lstM (consD (lstM nilD) nilD)))
    (seqM (forM (rng1 (consD (varM 0) nilD)) (nameG 2) (seqM (setM 3 (lstM nilD))
    (seqM (forM (nameI 1) (nameG 4) (forM (rng1 (consD (binM addG (biM lenG (consA (varM 4) nilA)) (constM (.int 1))) nilD)) (nameG 5) (exprM (methM 3 (consD (binM addG (binM addG (cutM (varM 4) noP (someP (varM 5))) (lstM (consD (varM 2) nilD))) (cutM (varM 4) (someP (varM 5)) noP)) nilD) appendG))))
    (setM 1 (varM 3)))))
    (retM (varM 1))))
def m__law_growth : Fn := fnM 2 5 []
    (seqM (setM 2 (biM lenG (consA (varM 1) nilA)))
    (seqM (setM 3 (binM mulG (lstM (consD (constM (.int 0)) nilD)) (varM 2)))
    (seqM (setM 4 (constM (.int 0)))
    (seqM (forM (nameI 1) (nameG 5) (seqM (setM 6 (binM orG (varM 4) (binM shlG (constM (.int 1)) (binM subG (binM subG (varM 2) (constM (.int 1))) (varM 5)))))
    (seqM (putM 3 (varM 5) (binM subG (binM atD (varM 0) (varM 6)) (binM atD (varM 0) (varM 4))))
    (setM 4 (varM 6)))))
    (retM (biM tupleG (consA (varM 3) nilA)))))))
def m__law_gain : Fn := fnM 2 2 []
    (retM (biM sumG (consA (compM [2, 3] (zipI (consD (varM 0) (consD (callM m__law_row [] (consA (varM 1) (consA (biM lenG (consA (varM 0) nilA)) nilA))) nilD))) (tupG 2 (consG (nameG 2) (consG (nameG 3) nilG))) yesM (esc (binM mulG (varM 2) (varM 3)))) nilA)))
def m__law_changed : Fn := fnM 2 4 [0]
    (seqM (setM 2 (biM listG (consA (varM 1) nilA)))
    (seqM (setM 3 (binM mulG (binM addG (constM (.int 1)) (callM m__law_draw [0] (consA (varM 0) (consA (constM (.int 3)) nilA)))) (binM subG (constM (.int 1)) (binM mulG (constM (.int 2)) (callM m__law_draw [0] (consA (varM 0) (consA (constM (.int 2)) nilA)))))))
    (seqM (setM 4 (callM m__law_draw [0] (consA (varM 0) (consA (biM lenG (consA (varM 2) nilA)) nilA))))
    (seqM (setM 5 (callM m__law_draw [0] (consA (varM 0) (consA (binM addG (biM lenG (consA (varM 2) nilA)) (constM (.int 1))) nilA))))
    (seqM (augAtM 2 (varM 4) iaddG (varM 3))
    (seqM (ifS (boolM (binM ltG (varM 5) (biM lenG (consA (varM 2) nilA)))) (augAtM 2 (varM 5) subG (varM 3)) nextM)
    (retM (biM tupleG (consA (varM 2) nilA)))))))))
def m__law_gains_ok : Fn := fnM 2 4 []
    (seqM (setM 2 (callM m_slack_of [] (consA (varM 0) (consA (varM 1) nilA))))
    (seqM (ifS (orM (notM (truM (isiM ["list", "tuple"] (varM 2)))) (notM (truM (callM m__law_is_ints [] (consA (biM tupleG (consA (varM 2) nilA)) nilA))))) (retM (constM (.bl false))) nextM)
    (seqM (setM 3 (lstM nilD))
    (seqM (forM (rng1 (consD (biM lenG (consA (varM 0) nilA)) nilD)) (nameG 4) (seqM (setM 5 (callM m_gain_of [] (consA (varM 1) (consA (varM 4) nilA))))
    (seqM (ifS (orM (notM (truM (callM m__law_is_int [] (consA (varM 5) nilA)))) (boolM (binM neG (varM 5) (callM m__law_gain [] (consA (varM 1) (consA (varM 4) nilA)))))) (retM (constM (.bl false))) nextM)
    (exprM (methM 3 (consD (binM subG (binM subG (binM atD (varM 0) (varM 4)) (binM atD (varM 0) (constM (.int 0)))) (callM m__law_gain [] (consA (varM 1) (consA (varM 4) nilA)))) nilD) appendG)))))
    (seqM (ifS (boolM (binM neG (biM listG (consA (varM 2) nilA)) (varM 3))) (retM (constM (.bl false))) nextM)
    (seqM (ifS (andM (boolM (binM geG (biM minG (consA (varM 3) nilA)) (constM (.int 0)))) (boolM (binM eqG (binM atD (varM 3) (binM subG (biM lenG (consA (varM 3) nilA)) (constM (.int 1)))) (constM (.int 0))))) (retM (binM (isBG false) (callM m_is_below_heights [] (consA (varM 0) (consA (varM 1) nilA))) (constM (.bl true)))) nextM)
    (retM (binM (isBG false) (callM m_is_below_heights [] (consA (varM 0) (consA (varM 1) nilA))) (constM (.bl false))))))))))
def m__law_order_ok : Fn := fnM 3 2 [0]
    (seqM (setM 3 (callM m__law_growth [] (consA (varM 1) (consA (varM 2) nilA))))
    (seqM (setM 4 (callM m_greedy [] (consA (varM 1) (consA (biM tupleG (consA (varM 2) nilA)) nilA))))
    (seqM (ifS (orM (notM (truM (isiM ["list", "tuple"] (varM 4)))) (orM (notM (truM (callM m__law_is_ints [] (consA (biM tupleG (consA (varM 4) nilA)) nilA)))) (boolM (binM neG (biM tupleG (consA (varM 4) nilA)) (varM 3))))) (retM (constM (.bl false))) nextM)
    (retM (andV (callM m__law_gains_ok [] (consA (varM 1) (consA (varM 3) nilA))) (callM m__law_gains_ok [] (consA (varM 1) (consA (callM m__law_changed [0] (consA (varM 0) (consA (varM 3) nilA))) nilA))))))))
def m_law : Fn := fnM 1 11 []
    (seqM (setM 1 (callM m__law_begin [] (consA (varM 0) nilA)))
    (seqM (setM 2 (callM m__law_some_table [0] (consA (varM 1) nilA)))
    (seqM (setM 3 (compM [11] (seqI0 (binM atD (varM 2) (constM (.int 1)))) (nameG 11) (boolM (binM isnG (varM 11) (constM .non))) (esc (varM 11))))
    (seqM (setM 4 (binM subG (biM maxG (consA (varM 3) nilA)) (biM minG (consA (varM 3) nilA))))
    (seqM (setM 5 (callM m__law_some_big [0] (consA (varM 1) (consA (varM 4) nilA))))
    (seqM (setM 6 (callM m_extended [] (consA (binM atD (varM 2) (constM (.int 1))) (consA (varM 5) nilA))))
    (seqM (ifS (orM (notM (truM (isiM ["list", "tuple"] (varM 6)))) (notM (truM (callM m__law_is_ints [] (consA (biM tupleG (consA (varM 6) nilA)) nilA))))) (retM (constM (.bl false))) nextM)
    (seqM (setM 7 (biM tupleG (consA (varM 6) nilA)))
    (seqM (ifS (boolM (binM neG (biM listG (consA (varM 7) nilA)) (callM m__law_heights [] (consA (binM atD (varM 2) (constM (.int 1))) (consA (varM 5) nilA))))) (retM (constM (.bl false))) nextM)
    (seqM (setM 8 (callM m__law_orders [] (consA (binM atD (varM 2) (constM (.int 0))) nilA)))
    (seqM (forM (nameI 8) (nameG 9) (ifS (notM (truM (callM m__law_order_ok [0] (consA (varM 1) (consA (varM 7) (consA (varM 9) nilA)))))) (retM (constM (.bl false))) nextM))
    (seqM (setM 10 (biM allG (consA (compM [9] (nameI 8) (nameG 9) yesM (esc (callM m_is_below_heights [] (consA (varM 7) (consA (biM tupleG (consA (callM m_greedy [] (consA (varM 7) (consA (biM tupleG (consA (varM 9) nilA)) nilA))) nilA)) nilA))))) nilA)))
    (seqM (ifS (boolM (binM neG (varM 10) (callM m__law_keeps [] (consA (constM (.str "cut")) (consA (varM 7) nilA))))) (retM (constM (.bl false))) nextM)
    (seqM (ifS (truM (callM m__law_keeps [] (consA (constM (.str "cut")) (consA (binM atD (varM 2) (constM (.int 1))) nilA)))) (retM (varM 10)) nextM)
    (retM (orV (binM leG (varM 5) (binM mulG (constM (.int 2)) (varM 4))) (notV (varM 10))))))))))))))))))
end Ev.W

set_option Elab.async false
set_option linter.all false
set_option maxRecDepth 100000
set_option autoImplicit false
namespace Ev.W
open PySem PySem.Spec PyProof.Rows L2 Ev
def topS (i : Nat) : Stmt := PySem.Challenge.pw_pricedrules_k38_below_exactly_if_cut.main.body.getD i (.Pass ⟨0, 0, 0, 0⟩)
/-- the built-ins' names are free -/
structure Bl (mg : Str → Option Value) : Prop where
  abs_ : mg "abs" = none
  all_ : mg "all" = none
  bool_ : mg "bool" = none
  int_ : mg "int" = none
  isinstance_ : mg "isinstance" = none
  len_ : mg "len" = none
  list_ : mg "list" = none
  max_ : mg "max" = none
  min_ : mg "min" = none
  range_ : mg "range" = none
  sum_ : mg "sum" = none
  tuple_ : mg "tuple" = none
  zip_ : mg "zip" = none
/-! bit_count -/
abbrev s_bit_count : Stmt := topS 1
theorem sc_bit_count : FnScope ["mask", "many"] ["mask"] (defScope s_bit_count) := ⟨rfl, rfl, rfl, by decide +kernel, rfl, by decide +kernel, by decide +kernel⟩
theorem ok_bit_count {P : Program} {w : World} {K : PySem.W.Frag} {mg : Str → Option Value} {base : Heap} {f : Addr} {fd : FuncData} (Fu : Fun K "bit_count" "bit_count" s_bit_count f fd) (b : Bl mg)  :
    FnOk P w K mg base CX0 1 f fd ["mask"] (spF K m_bit_count 1) := by
  refine fn_ok (k := 0) (io := []) Fu sc_bit_count rfl rfl (fun cdv A outer s H E hr => ?_)
  have hu := room64 hr
  exact ⟨_, by decide, (sse_cons (se_set 1 sc_bit_count.nd oe_int)
    (sse_cons (se_while PassesOwn.never (te_tru (oe_var 0)) (sse_cons (se_set 0 sc_bit_count.nd (oe_band (oe_var 0) (oe_sub (oe_var 0) oe_int)))
    (sse_one (se_set 1 sc_bit_count.nd (oe_add (oe_var 1) oe_int)))))
    (sse_one (se_ret (oe_var 1)))))⟩
/-! bit_at -/
abbrev s_bit_at : Stmt := topS 3
theorem sc_bit_at : FnScope ["number", "places", "place"] ["number", "places", "place"] (defScope s_bit_at) := ⟨rfl, rfl, rfl, by decide +kernel, rfl, by decide +kernel, by decide +kernel⟩
theorem ok_bit_at {P : Program} {w : World} {K : PySem.W.Frag} {mg : Str → Option Value} {base : Heap} {f : Addr} {fd : FuncData} (Fu : Fun K "bit_at" "bit_at" s_bit_at f fd) (b : Bl mg)  :
    FnOk P w K mg base CX0 1 f fd ["number", "places", "place"] (spF K m_bit_at 3) := by
  refine fn_ok (k := 0) (io := []) Fu sc_bit_at rfl rfl (fun cdv A outer s H E hr => ?_)
  have hu := room64 hr
  exact ⟨_, by decide, (sse_one (se_ret (oe_band (oe_shr (oe_var 0) (oe_sub (oe_sub (oe_var 1) oe_int) (oe_var 2))) oe_int)))⟩
/-! extended -/
abbrev s_extended : Stmt := topS 5
theorem sc_extended : FnScope ["prices", "big", "numbers", "number", "other"] ["prices", "big"] (defScope s_extended) := ⟨rfl, rfl, rfl, by decide +kernel, rfl, by decide +kernel, by decide +kernel⟩
theorem ok_extended {P : Program} {w : World} {K : PySem.W.Frag} {mg : Str → Option Value} {base : Heap} {f : Addr} {fd : FuncData} (Fu : Fun K "extended" "extended" s_extended f fd) (b : Bl mg) (c_bit_count : Callee P w K mg base 1 "bit_count" 1 m_bit_count) :
    FnOk P w K mg base CX0 2 f fd ["prices", "big"] (spF K m_extended 2) := by
  refine fn_ok (k := 1) (io := []) Fu sc_extended rfl rfl (fun cdv A outer s H E hr => ?_)
  have hu := room64 hr
  exact ⟨_, by decide, (sse_cons (se_set 2 sc_extended.nd (oe_comp rfl sc_extended.nd (ie_range1 (by rfl) b.range_ (de_cons (oe_len (ae_cons (oe_var 0) ae_nil) b.len_) de_nil)) (blkOk_by (own := [("number", 3)]) (by exact rfl)) (fun _ _ _ _ _ => (ge_name (i := 3) sc_extended.nd)) (fun _ _ _ _ _ => (if_one (te_isn (oe_at (oe_var 0) (oe_var 3)) oe_non))) (fun _ _ _ _ _ => (oe_var 3))))
    (sse_one (se_ret (oe_comp rfl sc_extended.nd (ie_range1 (by rfl) b.range_ (de_cons (oe_len (ae_cons (oe_var 0) ae_nil) b.len_) de_nil)) (blkOk_by (own := [("number", 3)]) (by exact rfl)) (fun _ _ _ _ _ => (ge_name (i := 3) sc_extended.nd)) (fun _ _ _ _ _ => if_nil) (fun _ _ _ _ _ => (oe_min rfl (ae_cons (oe_comp rfl sc_extended.nd (ie_name 2) (blkOk_by (own := [("other", 4)]) (by exact rfl)) (fun _ _ _ _ _ => (ge_name (i := 4) sc_extended.nd)) (fun _ _ _ _ _ => if_nil) (fun _ _ _ _ _ => (oe_add (oe_at (oe_var 0) (oe_var 4)) (oe_mul (oe_var 1) (oe_callC c_bit_count (hr.mono (by decide)) (ae_cons (oe_bxor (oe_var 4) (oe_var 3)) ae_nil) (consA_len (fun _ _ _ h => nilA_len h))))))) ae_nil) b.min_))))))⟩
/-! gain_of -/
abbrev s_gain_of : Stmt := topS 6
theorem sc_gain_of : FnScope ["gains", "number", "size", "place"] ["gains", "number"] (defScope s_gain_of) := ⟨rfl, rfl, rfl, by decide +kernel, rfl, by decide +kernel, by decide +kernel⟩
theorem ok_gain_of {P : Program} {w : World} {K : PySem.W.Frag} {mg : Str → Option Value} {base : Heap} {f : Addr} {fd : FuncData} (Fu : Fun K "gain_of" "gain_of" s_gain_of f fd) (b : Bl mg) (c_bit_at : Callee P w K mg base 1 "bit_at" 3 m_bit_at) :
    FnOk P w K mg base CX0 2 f fd ["gains", "number"] (spF K m_gain_of 2) := by
  refine fn_ok (k := 1) (io := []) Fu sc_gain_of rfl rfl (fun cdv A outer s H E hr => ?_)
  have hu := room64 hr
  exact ⟨_, by decide, (sse_cons (se_set 2 sc_gain_of.nd (oe_len (ae_cons (oe_var 0) ae_nil) b.len_))
    (sse_one (se_ret (oe_sum rfl (ae_cons (oe_comp rfl sc_gain_of.nd (ie_range1 (by rfl) b.range_ (de_cons (oe_var 2) de_nil)) (blkOk_by (own := [("place", 3)]) (by exact rfl)) (fun _ _ _ _ _ => (ge_name (i := 3) sc_gain_of.nd)) (fun _ _ _ _ _ => (if_one (te_tru (oe_callC c_bit_at (hr.mono (by decide)) (ae_cons (oe_var 1) (ae_cons (oe_var 2) (ae_cons (oe_var 3) ae_nil))) (consA_len (consA_len (consA_len (fun _ _ _ h => nilA_len h)))))))) (fun _ _ _ _ _ => (oe_at (oe_var 0) (oe_var 3)))) ae_nil) b.sum_))))⟩
/-! greedy -/
abbrev s_greedy : Stmt := topS 7
theorem sc_greedy : FnScope ["heights", "order", "gains", "number", "place", "higher"] ["heights", "order"] (defScope s_greedy) := ⟨rfl, rfl, rfl, by decide +kernel, rfl, by decide +kernel, by decide +kernel⟩
theorem ok_greedy {P : Program} {w : World} {K : PySem.W.Frag} {mg : Str → Option Value} {base : Heap} {f : Addr} {fd : FuncData} (Fu : Fun K "greedy" "greedy" s_greedy f fd) (b : Bl mg)  :
    FnOk P w K mg base CX0 1 f fd ["heights", "order"] (spF K m_greedy 2) := by
  refine fn_ok (k := 0) (io := []) Fu sc_greedy rfl rfl (fun cdv A outer s H E hr => ?_)
  have hu := room64 hr
  exact ⟨_, by decide, (sse_cons (se_set 2 sc_greedy.nd (oe_mul (oe_lst (de_cons oe_int de_nil)) (oe_len (ae_cons (oe_var 1) ae_nil) b.len_)))
    (sse_cons (se_set 3 sc_greedy.nd oe_int)
    (sse_cons (se_for PassesOwn.never rfl (ie_name 1) (ge_name (i := 4) sc_greedy.nd) (sse_cons (se_set 5 sc_greedy.nd (oe_bor (oe_var 3) (oe_shl oe_int (oe_sub (oe_sub (oe_len (ae_cons (oe_var 1) ae_nil) b.len_) oe_int) (oe_var 4)))))
    (sse_cons (se_put 2 (oe_sub (oe_at (oe_var 0) (oe_var 5)) (oe_at (oe_var 0) (oe_var 3))) (oe_var 4))
    (sse_one (se_set 3 sc_greedy.nd (oe_var 5))))))
    (sse_one (se_ret (oe_var 2))))))⟩
/-! slack_of -/
abbrev s_slack_of : Stmt := topS 8
theorem sc_slack_of : FnScope ["heights", "gains", "number"] ["heights", "gains"] (defScope s_slack_of) := ⟨rfl, rfl, rfl, by decide +kernel, rfl, by decide +kernel, by decide +kernel⟩
theorem ok_slack_of {P : Program} {w : World} {K : PySem.W.Frag} {mg : Str → Option Value} {base : Heap} {f : Addr} {fd : FuncData} (Fu : Fun K "slack_of" "slack_of" s_slack_of f fd) (b : Bl mg) (c_gain_of : Callee P w K mg base 2 "gain_of" 2 m_gain_of) :
    FnOk P w K mg base CX0 3 f fd ["heights", "gains"] (spF K m_slack_of 2) := by
  refine fn_ok (k := 2) (io := []) Fu sc_slack_of rfl rfl (fun cdv A outer s H E hr => ?_)
  have hu := room64 hr
  exact ⟨_, by decide, (sse_one (se_ret (oe_comp rfl sc_slack_of.nd (ie_range1 (by rfl) b.range_ (de_cons (oe_len (ae_cons (oe_var 0) ae_nil) b.len_) de_nil)) (blkOk_by (own := [("number", 2)]) (by exact rfl)) (fun _ _ _ _ _ => (ge_name (i := 2) sc_slack_of.nd)) (fun _ _ _ _ _ => if_nil) (fun _ _ _ _ _ => (oe_sub (oe_sub (oe_at (oe_var 0) (oe_var 2)) (oe_at (oe_var 0) oe_int)) (oe_callC c_gain_of (hr.mono (by decide)) (ae_cons (oe_var 1) (ae_cons (oe_var 2) ae_nil)) (consA_len (consA_len (fun _ _ _ h => nilA_len h)))))))))⟩
/-! is_below_heights -/
abbrev s_is_below_heights : Stmt := topS 9
theorem sc_is_below_heights : FnScope ["heights", "gains", "slack"] ["heights", "gains"] (defScope s_is_below_heights) := ⟨rfl, rfl, rfl, by decide +kernel, rfl, by decide +kernel, by decide +kernel⟩
theorem ok_is_below_heights {P : Program} {w : World} {K : PySem.W.Frag} {mg : Str → Option Value} {base : Heap} {f : Addr} {fd : FuncData} (Fu : Fun K "is_below_heights" "is_below_heights" s_is_below_heights f fd) (b : Bl mg) (c_slack_of : Callee P w K mg base 3 "slack_of" 2 m_slack_of) :
    FnOk P w K mg base CX0 4 f fd ["heights", "gains"] (spF K m_is_below_heights 2) := by
  refine fn_ok (k := 3) (io := []) Fu sc_is_below_heights rfl rfl (fun cdv A outer s H E hr => ?_)
  have hu := room64 hr
  exact ⟨_, by decide, (sse_cons (se_set 2 sc_is_below_heights.nd (oe_callC c_slack_of (hr.mono (by decide)) (ae_cons (oe_var 0) (ae_cons (oe_var 1) ae_nil)) (consA_len (consA_len (fun _ _ _ h => nilA_len h)))))
    (sse_one (se_ret (oe_and (oe_ge (oe_min rfl (ae_cons (oe_var 2) ae_nil) b.min_) oe_int) (oe_one (oe_eq hu (oe_at (oe_var 2) (oe_sub (oe_len (ae_cons (oe_var 2) ae_nil) b.len_) oe_int)) oe_int))))))⟩
/-! _law_begin -/
abbrev s__law_begin : Stmt := topS 11
theorem sc__law_begin : FnScope ["script", "cell"] ["script"] (defScope s__law_begin) := ⟨rfl, rfl, rfl, by decide +kernel, rfl, by decide +kernel, by decide +kernel⟩
theorem ok__law_begin {P : Program} {w : World} {K : PySem.W.Frag} {mg : Str → Option Value} {base : Heap} {f : Addr} {fd : FuncData} (Fu : Fun K "_law_begin" "_law_begin" s__law_begin f fd) (b : Bl mg)  :
    FnOk P w K mg base CX0 1 f fd ["script"] (spF K m__law_begin 1) := by
  refine fn_ok (k := 0) (io := []) Fu sc__law_begin rfl rfl (fun cdv A outer s H E hr => ?_)
  have hu := room64 hr
  exact ⟨_, by decide, (sse_one (se_ret (oe_lst (de_cons (oe_comp rfl sc__law_begin.nd (ie_name 0) (blkOk_by (own := [("cell", 1)]) (by exact rfl)) (fun _ _ _ _ _ => (ge_name (i := 1) sc__law_begin.nd)) (fun _ _ _ _ _ => if_nil) (fun _ _ _ _ _ => (oe_int_ (ae_cons (oe_var 1) ae_nil) b.int_))) (de_cons oe_int (de_cons oe_int (de_cons oe_int de_nil)))))))⟩
/-! _law_draw -/
abbrev s__law_draw : Stmt := topS 12
theorem sc__law_draw : FnScope ["d", "many", "size", "found", "cell"] ["d", "many"] (defScope s__law_draw) := ⟨rfl, rfl, rfl, by decide +kernel, rfl, by decide +kernel, by decide +kernel⟩
theorem ok__law_draw {P : Program} {w : World} {K : PySem.W.Frag} {mg : Str → Option Value} {base : Heap} {f : Addr} {fd : FuncData} (Fu : Fun K "_law_draw" "_law_draw" s__law_draw f fd) (b : Bl mg)  :
    FnOk P w K mg base CX0 1 f fd ["d", "many"] (spF K m__law_draw 2) := by
  refine fn_ok (k := 0) (io := [0]) Fu sc__law_draw rfl rfl (fun cdv A outer s H E hr => ?_)
  have hu := room64 hr
  exact ⟨_, by decide, (sse_cons (se_if (te_gt (oe_at (oe_var 0) oe_int) oe_int) (sse_cons (se_set 3 sc__law_draw.nd (oe_at (oe_var 0) oe_int))
    (sse_cons (se_put 0 (oe_div (oe_var 3) (oe_var 1)) oe_int)
    (sse_one (se_ret (oe_mod (oe_int_ (ae_cons (oe_var 3) ae_nil) b.int_) (oe_var 1)))))) sse_nil)
    (sse_cons (se_set 2 sc__law_draw.nd oe_int)
    (sse_cons (se_if (te_lt (oe_at (oe_var 0) oe_int) (oe_len (ae_cons (oe_at (oe_var 0) oe_int) ae_nil) b.len_)) (sse_cons (se_set 4 sc__law_draw.nd (oe_at (oe_at (oe_var 0) oe_int) (oe_at (oe_var 0) oe_int)))
    (sse_one (se_set 2 sc__law_draw.nd (oe_add (oe_mul oe_int (oe_abs (ae_cons (oe_var 4) ae_nil) b.abs_)) (oe_int_ (ae_cons (oe_lt (oe_var 4) oe_int) ae_nil) b.int_))))) sse_nil)
    (sse_cons (se_iaddAt 0 oe_int oe_int)
    (sse_cons (se_if (te_ge (oe_var 2) (oe_mul oe_int (oe_pow oe_int oe_int))) (sse_cons (se_set 3 sc__law_draw.nd (oe_mod (oe_int_ (ae_cons (oe_div (oe_var 2) oe_int) ae_nil) b.int_) (oe_shl oe_int oe_int)))
    (sse_cons (se_put 0 (oe_div (oe_var 3) (oe_var 1)) oe_int)
    (sse_one (se_ret (oe_mod (oe_int_ (ae_cons (oe_var 3) ae_nil) b.int_) (oe_var 1)))))) sse_nil)
    (sse_cons (se_put 0 (oe_mod (oe_int_ (ae_cons (oe_add (oe_add (oe_add (oe_mul (oe_at (oe_var 0) oe_int) oe_int) (oe_mul (oe_mod (oe_int_ (ae_cons (oe_var 2) ae_nil) b.int_) oe_int) oe_int)) (oe_mul (oe_at (oe_var 0) oe_int) oe_int)) oe_int) ae_nil) b.int_) oe_int) oe_int)
    (sse_one (se_ret (oe_mod (oe_int_ (ae_cons (oe_div (oe_at (oe_var 0) oe_int) oe_int) ae_nil) b.int_) (oe_var 1))))))))))⟩
/-! _law_rare -/
abbrev s__law_rare : Stmt := topS 13
theorem sc__law_rare : FnScope ["d", "many"] ["d", "many"] (defScope s__law_rare) := ⟨rfl, rfl, rfl, by decide +kernel, rfl, by decide +kernel, by decide +kernel⟩
theorem ok__law_rare {P : Program} {w : World} {K : PySem.W.Frag} {mg : Str → Option Value} {base : Heap} {f : Addr} {fd : FuncData} (Fu : Fun K "_law_rare" "_law_rare" s__law_rare f fd) (b : Bl mg) (c__law_draw : Callee P w K mg base 1 "_law_draw" 2 m__law_draw) :
    FnOk P w K mg base CX0 2 f fd ["d", "many"] (spF K m__law_rare 2) := by
  refine fn_ok (k := 1) (io := [0]) Fu sc__law_rare rfl rfl (fun cdv A outer s H E hr => ?_)
  have hu := room64 hr
  exact ⟨_, by decide, (sse_one (se_ret (oe_eq hu (oe_callC c__law_draw (hr.mono (by decide)) (ae_cons (oe_var 0) (ae_cons (oe_var 1) ae_nil)) (consA_len (consA_len (fun _ _ _ h => nilA_len h)))) (oe_div (oe_var 1) oe_int))))⟩
/-! _law_is_int -/
abbrev s__law_is_int : Stmt := topS 14
theorem sc__law_is_int : FnScope ["thing"] ["thing"] (defScope s__law_is_int) := ⟨rfl, rfl, rfl, by decide +kernel, rfl, by decide +kernel, by decide +kernel⟩
theorem ok__law_is_int {P : Program} {w : World} {K : PySem.W.Frag} {mg : Str → Option Value} {base : Heap} {f : Addr} {fd : FuncData} (Fu : Fun K "_law_is_int" "_law_is_int" s__law_is_int f fd) (b : Bl mg)  :
    FnOk P w K mg base CX0 1 f fd ["thing"] (spF K m__law_is_int 1) := by
  refine fn_ok (k := 0) (io := []) Fu sc__law_is_int rfl rfl (fun cdv A outer s H E hr => ?_)
  have hu := room64 hr
  exact ⟨_, by decide, (sse_one (se_ret (oe_and (oe_isi1 (oe_var 0) b.isinstance_ b.int_ (by decide +kernel)) (oe_one (oe_not (oe_isi1 (oe_var 0) b.isinstance_ b.bool_ (by decide +kernel)))))))⟩
/-! _law_is_ints -/
abbrev s__law_is_ints : Stmt := topS 15
theorem sc__law_is_ints : FnScope ["row", "part"] ["row"] (defScope s__law_is_ints) := ⟨rfl, rfl, rfl, by decide +kernel, rfl, by decide +kernel, by decide +kernel⟩
theorem ok__law_is_ints {P : Program} {w : World} {K : PySem.W.Frag} {mg : Str → Option Value} {base : Heap} {f : Addr} {fd : FuncData} (Fu : Fun K "_law_is_ints" "_law_is_ints" s__law_is_ints f fd) (b : Bl mg) (c__law_is_int : Callee P w K mg base 1 "_law_is_int" 1 m__law_is_int) :
    FnOk P w K mg base CX0 2 f fd ["row"] (spF K m__law_is_ints 1) := by
  refine fn_ok (k := 1) (io := []) Fu sc__law_is_ints rfl rfl (fun cdv A outer s H E hr => ?_)
  have hu := room64 hr
  exact ⟨_, by decide, (sse_one (se_ret (oe_and (oe_isi1 (oe_var 0) b.isinstance_ b.tuple_ (by decide +kernel)) (oe_one (oe_all rfl (ae_cons (oe_comp rfl sc__law_is_ints.nd (ie_name 0) (blkOk_by (own := [("part", 1)]) (by exact rfl)) (fun _ _ _ _ _ => (ge_name (i := 1) sc__law_is_ints.nd)) (fun _ _ _ _ _ => if_nil) (fun _ _ _ _ _ => (oe_callC c__law_is_int (hr.mono (by decide)) (ae_cons (oe_var 1) ae_nil) (consA_len (fun _ _ _ h => nilA_len h))))) ae_nil) b.all_)))))⟩
/-! _law_row -/
abbrev s__law_row : Stmt := topS 16
theorem sc__law_row : FnScope ["number", "places", "place"] ["number", "places"] (defScope s__law_row) := ⟨rfl, rfl, rfl, by decide +kernel, rfl, by decide +kernel, by decide +kernel⟩
theorem ok__law_row {P : Program} {w : World} {K : PySem.W.Frag} {mg : Str → Option Value} {base : Heap} {f : Addr} {fd : FuncData} (Fu : Fun K "_law_row" "_law_row" s__law_row f fd) (b : Bl mg)  :
    FnOk P w K mg base CX0 1 f fd ["number", "places"] (spF K m__law_row 2) := by
  refine fn_ok (k := 0) (io := []) Fu sc__law_row rfl rfl (fun cdv A outer s H E hr => ?_)
  have hu := room64 hr
  exact ⟨_, by decide, (sse_one (se_ret (oe_tuple (ae_cons (oe_comp rfl sc__law_row.nd (ie_range1 (by rfl) b.range_ (de_cons (oe_var 1) de_nil)) (blkOk_by (own := [("place", 2)]) (by exact rfl)) (fun _ _ _ _ _ => (ge_name (i := 2) sc__law_row.nd)) (fun _ _ _ _ _ => if_nil) (fun _ _ _ _ _ => (oe_band (oe_shr (oe_var 0) (oe_sub (oe_sub (oe_var 1) oe_int) (oe_var 2))) oe_int))) ae_nil) b.tuple_)))⟩
/-! _law_ones -/
abbrev s__law_ones : Stmt := topS 17
theorem sc__law_ones : FnScope ["mask", "many"] ["mask"] (defScope s__law_ones) := ⟨rfl, rfl, rfl, by decide +kernel, rfl, by decide +kernel, by decide +kernel⟩
theorem ok__law_ones {P : Program} {w : World} {K : PySem.W.Frag} {mg : Str → Option Value} {base : Heap} {f : Addr} {fd : FuncData} (Fu : Fun K "_law_ones" "_law_ones" s__law_ones f fd) (b : Bl mg)  :
    FnOk P w K mg base CX0 1 f fd ["mask"] (spF K m__law_ones 1) := by
  refine fn_ok (k := 0) (io := []) Fu sc__law_ones rfl rfl (fun cdv A outer s H E hr => ?_)
  have hu := room64 hr
  exact ⟨_, by decide, (sse_cons (se_set 1 sc__law_ones.nd oe_int)
    (sse_cons (se_while PassesOwn.never (te_gt (oe_var 0) oe_int) (sse_cons (se_set 0 sc__law_ones.nd (oe_band (oe_var 0) (oe_sub (oe_var 0) oe_int)))
    (sse_one (se_iadd 1 sc__law_ones.nd oe_int))))
    (sse_one (se_ret (oe_var 1)))))⟩
/-! _law_sum -/
abbrev s__law_sum : Stmt := topS 18
theorem sc__law_sum : FnScope ["prices", "whole", "price"] ["prices"] (defScope s__law_sum) := ⟨rfl, rfl, rfl, by decide +kernel, rfl, by decide +kernel, by decide +kernel⟩
theorem ok__law_sum {P : Program} {w : World} {K : PySem.W.Frag} {mg : Str → Option Value} {base : Heap} {f : Addr} {fd : FuncData} (Fu : Fun K "_law_sum" "_law_sum" s__law_sum f fd) (b : Bl mg)  :
    FnOk P w K mg base CX0 1 f fd ["prices"] (spF K m__law_sum 1) := by
  refine fn_ok (k := 0) (io := []) Fu sc__law_sum rfl rfl (fun cdv A outer s H E hr => ?_)
  have hu := room64 hr
  exact ⟨_, by decide, (sse_cons (se_set 1 sc__law_sum.nd oe_int)
    (sse_cons (se_for PassesOwn.never rfl (ie_name 0) (ge_name (i := 2) sc__law_sum.nd) (sse_cons (se_if (te_is (oe_var 2) oe_non) (sse_one (se_ret oe_non)) sse_nil)
    (sse_one (se_iadd 1 sc__law_sum.nd (oe_var 2)))))
    (sse_one (se_ret (oe_var 1)))))⟩
/-! _law_low -/
abbrev s__law_low : Stmt := topS 19
theorem sc__law_low : FnScope ["prices", "best", "price"] ["prices"] (defScope s__law_low) := ⟨rfl, rfl, rfl, by decide +kernel, rfl, by decide +kernel, by decide +kernel⟩
theorem ok__law_low {P : Program} {w : World} {K : PySem.W.Frag} {mg : Str → Option Value} {base : Heap} {f : Addr} {fd : FuncData} (Fu : Fun K "_law_low" "_law_low" s__law_low f fd) (b : Bl mg)  :
    FnOk P w K mg base CX0 1 f fd ["prices"] (spF K m__law_low 1) := by
  refine fn_ok (k := 0) (io := []) Fu sc__law_low rfl rfl (fun cdv A outer s H E hr => ?_)
  have hu := room64 hr
  exact ⟨_, by decide, (sse_cons (se_set 1 sc__law_low.nd oe_non)
    (sse_cons (se_for PassesOwn.never rfl (ie_name 0) (ge_name (i := 2) sc__law_low.nd) (sse_one (se_if ((tw_and (te_isn (oe_var 2) oe_non) (tw_and1 ((tw_or (te_is (oe_var 1) oe_non) (tw_or1 (te_lt (oe_var 2) (oe_var 1))))).te))).te (sse_one (se_set 1 sc__law_low.nd (oe_var 2))) sse_nil)))
    (sse_one (se_ret (oe_var 1)))))⟩
/-! _law_times -/
abbrev s__law_times : Stmt := topS 20
theorem sc__law_times : FnScope ["price", "times"] ["price", "times"] (defScope s__law_times) := ⟨rfl, rfl, rfl, by decide +kernel, rfl, by decide +kernel, by decide +kernel⟩
theorem ok__law_times {P : Program} {w : World} {K : PySem.W.Frag} {mg : Str → Option Value} {base : Heap} {f : Addr} {fd : FuncData} (Fu : Fun K "_law_times" "_law_times" s__law_times f fd) (b : Bl mg)  :
    FnOk P w K mg base CX0 1 f fd ["price", "times"] (spF K m__law_times 2) := by
  refine fn_ok (k := 0) (io := []) Fu sc__law_times rfl rfl (fun cdv A outer s H E hr => ?_)
  have hu := room64 hr
  exact ⟨_, by decide, (sse_cons (se_if (te_is (oe_var 0) oe_non) (sse_one (se_ret oe_non)) sse_nil)
    (sse_one (se_ret (oe_mul (oe_var 0) (oe_var 1)))))⟩
/-! _law_above -/
abbrev s__law_above : Stmt := topS 21
theorem sc__law_above : FnScope ["first", "second"] ["first", "second"] (defScope s__law_above) := ⟨rfl, rfl, rfl, by decide +kernel, rfl, by decide +kernel, by decide +kernel⟩
theorem ok__law_above {P : Program} {w : World} {K : PySem.W.Frag} {mg : Str → Option Value} {base : Heap} {f : Addr} {fd : FuncData} (Fu : Fun K "_law_above" "_law_above" s__law_above f fd) (b : Bl mg)  :
    FnOk P w K mg base CX0 1 f fd ["first", "second"] (spF K m__law_above 2) := by
  refine fn_ok (k := 0) (io := []) Fu sc__law_above rfl rfl (fun cdv A outer s H E hr => ?_)
  have hu := room64 hr
  exact ⟨_, by decide, (sse_cons (se_if (te_is (oe_var 1) oe_non) (sse_one (se_ret oe_bl)) sse_nil)
    (sse_one (se_ret (oe_or (oe_is (oe_var 0) oe_non) (oe_one (oe_gt (oe_var 0) (oe_var 1)))))))⟩
/-! _law_most -/
abbrev s__law_most : Stmt := topS 22
theorem sc__law_most : FnScope ["first", "second", "third"] ["first", "second", "third"] (defScope s__law_most) := ⟨rfl, rfl, rfl, by decide +kernel, rfl, by decide +kernel, by decide +kernel⟩
theorem ok__law_most {P : Program} {w : World} {K : PySem.W.Frag} {mg : Str → Option Value} {base : Heap} {f : Addr} {fd : FuncData} (Fu : Fun K "_law_most" "_law_most" s__law_most f fd) (b : Bl mg)  :
    FnOk P w K mg base CX0 1 f fd ["first", "second", "third"] (spF K m__law_most 3) := by
  refine fn_ok (k := 0) (io := []) Fu sc__law_most rfl rfl (fun cdv A outer s H E hr => ?_)
  have hu := room64 hr
  exact ⟨_, by decide, (sse_one (se_ret (oe_bor (oe_bor (oe_band (oe_var 0) (oe_var 1)) (oe_band (oe_var 0) (oe_var 2))) (oe_band (oe_var 1) (oe_var 2)))))⟩
/-! _law_breach_one -/
abbrev s__law_breach_one : Stmt := topS 23
theorem sc__law_breach_one : FnScope ["kind", "prices", "rows", "last", "t"] ["kind", "prices", "rows"] (defScope s__law_breach_one) := ⟨rfl, rfl, rfl, by decide +kernel, rfl, by decide +kernel, by decide +kernel⟩
theorem ok__law_breach_one {P : Program} {w : World} {K : PySem.W.Frag} {mg : Str → Option Value} {base : Heap} {f : Addr} {fd : FuncData} (Fu : Fun K "_law_breach_one" "_law_breach_one" s__law_breach_one f fd) (b : Bl mg) (c__law_above : Callee P w K mg base 1 "_law_above" 2 m__law_above) :
    FnOk P w K mg base CX0 2 f fd ["kind", "prices", "rows"] (spF K m__law_breach_one 3) := by
  refine fn_ok (k := 1) (io := []) Fu sc__law_breach_one rfl rfl (fun cdv A outer s H E hr => ?_)
  have hu := room64 hr
  exact ⟨_, by decide, (sse_cons (se_set 3 sc__law_breach_one.nd (oe_sub (oe_len (ae_cons (oe_var 1) ae_nil) b.len_) oe_int))
    (sse_cons (se_for PassesOwn.never rfl (ie_name 2) (ge_name (i := 4) sc__law_breach_one.nd) (sse_one (se_if (te_tru (oe_callC c__law_above (hr.mono (by decide)) (ae_cons (oe_at (oe_var 1) (oe_if (te_eq hu (oe_var 0) oe_str) oe_int (oe_var 3))) (ae_cons (oe_at (oe_var 1) (oe_var 4)) ae_nil)) (consA_len (consA_len (fun _ _ _ h => nilA_len h))))) (sse_one (se_ret oe_bl)) sse_nil)))
    (sse_one (se_ret oe_bl))))⟩
/-! _law_breach_two -/
abbrev s__law_breach_two : Stmt := topS 24
theorem sc__law_breach_two : FnScope ["kind", "prices", "rows", "s", "t", "low", "high"] ["kind", "prices", "rows"] (defScope s__law_breach_two) := ⟨rfl, rfl, rfl, by decide +kernel, rfl, by decide +kernel, by decide +kernel⟩
theorem ok__law_breach_two {P : Program} {w : World} {K : PySem.W.Frag} {mg : Str → Option Value} {base : Heap} {f : Addr} {fd : FuncData} (Fu : Fun K "_law_breach_two" "_law_breach_two" s__law_breach_two f fd) (b : Bl mg) (c__law_above : Callee P w K mg base 1 "_law_above" 2 m__law_above) (c__law_sum : Callee P w K mg base 1 "_law_sum" 1 m__law_sum) (c__law_times : Callee P w K mg base 1 "_law_times" 2 m__law_times) :
    FnOk P w K mg base CX0 2 f fd ["kind", "prices", "rows"] (spF K m__law_breach_two 3) := by
  refine fn_ok (k := 1) (io := []) Fu sc__law_breach_two rfl rfl (fun cdv A outer s H E hr => ?_)
  have hu := room64 hr
  exact ⟨_, by decide, (sse_cons (se_for PassesOwn.never rfl (ie_name 2) (ge_name (i := 3) sc__law_breach_two.nd) (sse_one (se_for PassesOwn.never rfl (ie_name 2) (ge_name (i := 4) sc__law_breach_two.nd) (sse_cons (se_set 5 sc__law_breach_two.nd (oe_callC c__law_times (hr.mono (by decide)) (ae_cons (oe_at (oe_var 1) (oe_band (oe_var 3) (oe_var 4))) (ae_cons oe_int ae_nil)) (consA_len (consA_len (fun _ _ _ h => nilA_len h)))))
    (sse_cons (se_set 6 sc__law_breach_two.nd (oe_callC c__law_times (hr.mono (by decide)) (ae_cons (oe_at (oe_var 1) (oe_bor (oe_var 3) (oe_var 4))) (ae_cons oe_int ae_nil)) (consA_len (consA_len (fun _ _ _ h => nilA_len h)))))
    (sse_cons (se_if (te_eq hu (oe_var 0) oe_str) (sse_one (se_set 5 sc__law_breach_two.nd (oe_var 6))) sse_nil)
    (sse_cons (se_if (te_eq hu (oe_var 0) oe_str) (sse_one (se_set 5 sc__law_breach_two.nd (oe_callC c__law_sum (hr.mono (by decide)) (ae_cons (oe_lst (de_cons (oe_at (oe_var 1) (oe_band (oe_var 3) (oe_var 4))) (de_cons (oe_at (oe_var 1) (oe_bor (oe_var 3) (oe_var 4))) de_nil))) ae_nil) (consA_len (fun _ _ _ h => nilA_len h))))) sse_nil)
    (sse_one (se_if (te_tru (oe_callC c__law_above (hr.mono (by decide)) (ae_cons (oe_var 5) (ae_cons (oe_add (oe_at (oe_var 1) (oe_var 3)) (oe_at (oe_var 1) (oe_var 4))) ae_nil)) (consA_len (consA_len (fun _ _ _ h => nilA_len h))))) (sse_one (se_ret oe_bl)) sse_nil)))))))))
    (sse_one (se_ret oe_bl)))⟩
/-! _law_breach_three -/
abbrev s__law_breach_three : Stmt := topS 25
theorem sc__law_breach_three : FnScope ["kind", "prices", "rows", "i", "j", "k", "most", "odd", "made"] ["kind", "prices", "rows"] (defScope s__law_breach_three) := ⟨rfl, rfl, rfl, by decide +kernel, rfl, by decide +kernel, by decide +kernel⟩
theorem ok__law_breach_three {P : Program} {w : World} {K : PySem.W.Frag} {mg : Str → Option Value} {base : Heap} {f : Addr} {fd : FuncData} (Fu : Fun K "_law_breach_three" "_law_breach_three" s__law_breach_three f fd) (b : Bl mg) (c__law_above : Callee P w K mg base 1 "_law_above" 2 m__law_above) (c__law_most : Callee P w K mg base 1 "_law_most" 3 m__law_most) (c__law_sum : Callee P w K mg base 1 "_law_sum" 1 m__law_sum) (c__law_times : Callee P w K mg base 1 "_law_times" 2 m__law_times) :
    FnOk P w K mg base CX0 2 f fd ["kind", "prices", "rows"] (spF K m__law_breach_three 3) := by
  refine fn_ok (k := 1) (io := []) Fu sc__law_breach_three rfl rfl (fun cdv A outer s H E hr => ?_)
  have hu := room64 hr
  exact ⟨_, by decide, (sse_cons (se_for PassesOwn.never rfl (ie_range1 (by rfl) b.range_ (de_cons (oe_len (ae_cons (oe_var 2) ae_nil) b.len_) de_nil)) (ge_name (i := 3) sc__law_breach_three.nd) (sse_one (se_for PassesOwn.never rfl (ie_range2 (by rfl) b.range_ (de_cons (oe_var 3) (de_cons (oe_len (ae_cons (oe_var 2) ae_nil) b.len_) de_nil))) (ge_name (i := 4) sc__law_breach_three.nd) (sse_one (se_for PassesOwn.never rfl (ie_range2 (by rfl) b.range_ (de_cons (oe_var 4) (de_cons (oe_len (ae_cons (oe_var 2) ae_nil) b.len_) de_nil))) (ge_name (i := 5) sc__law_breach_three.nd) (sse_cons (se_set 6 sc__law_breach_three.nd (oe_at (oe_var 1) (oe_callC c__law_most (hr.mono (by decide)) (ae_cons (oe_at (oe_var 2) (oe_var 3)) (ae_cons (oe_at (oe_var 2) (oe_var 4)) (ae_cons (oe_at (oe_var 2) (oe_var 5)) ae_nil))) (consA_len (consA_len (consA_len (fun _ _ _ h => nilA_len h)))))))
    (sse_cons (se_set 7 sc__law_breach_three.nd (oe_at (oe_var 1) (oe_bxor (oe_bxor (oe_at (oe_var 2) (oe_var 3)) (oe_at (oe_var 2) (oe_var 4))) (oe_at (oe_var 2) (oe_var 5)))))
    (sse_cons (se_set 8 sc__law_breach_three.nd (oe_callC c__law_sum (hr.mono (by decide)) (ae_cons (oe_lst (de_cons (oe_var 6) (de_cons (oe_var 6) (de_cons (oe_var 7) de_nil)))) ae_nil) (consA_len (fun _ _ _ h => nilA_len h))))
    (sse_cons (se_if (te_eq hu (oe_var 0) oe_str) (sse_one (se_set 8 sc__law_breach_three.nd (oe_callC c__law_times (hr.mono (by decide)) (ae_cons (oe_var 6) (ae_cons oe_int ae_nil)) (consA_len (consA_len (fun _ _ _ h => nilA_len h)))))) sse_nil)
    (sse_cons (se_if (te_eq hu (oe_var 0) oe_str) (sse_one (se_set 8 sc__law_breach_three.nd (oe_callC c__law_times (hr.mono (by decide)) (ae_cons (oe_var 7) (ae_cons oe_int ae_nil)) (consA_len (consA_len (fun _ _ _ h => nilA_len h)))))) sse_nil)
    (sse_one (se_if (te_tru (oe_callC c__law_above (hr.mono (by decide)) (ae_cons (oe_var 8) (ae_cons (oe_add (oe_add (oe_at (oe_var 1) (oe_at (oe_var 2) (oe_var 3))) (oe_at (oe_var 1) (oe_at (oe_var 2) (oe_var 4)))) (oe_at (oe_var 1) (oe_at (oe_var 2) (oe_var 5)))) ae_nil)) (consA_len (consA_len (fun _ _ _ h => nilA_len h))))) (sse_one (se_ret oe_bl)) sse_nil))))))))))))
    (sse_one (se_ret oe_bl)))⟩
/-! _law_keeps -/
abbrev s__law_keeps : Stmt := topS 26
theorem sc__law_keeps : FnScope ["kind", "prices", "rows", "number"] ["kind", "prices"] (defScope s__law_keeps) := ⟨rfl, rfl, rfl, by decide +kernel, rfl, by decide +kernel, by decide +kernel⟩
theorem ok__law_keeps {P : Program} {w : World} {K : PySem.W.Frag} {mg : Str → Option Value} {base : Heap} {f : Addr} {fd : FuncData} (Fu : Fun K "_law_keeps" "_law_keeps" s__law_keeps f fd) (b : Bl mg) (c__law_breach_one : Callee P w K mg base 2 "_law_breach_one" 3 m__law_breach_one) (c__law_breach_three : Callee P w K mg base 2 "_law_breach_three" 3 m__law_breach_three) (c__law_breach_two : Callee P w K mg base 2 "_law_breach_two" 3 m__law_breach_two) :
    FnOk P w K mg base CX0 3 f fd ["kind", "prices"] (spF K m__law_keeps 2) := by
  refine fn_ok (k := 2) (io := []) Fu sc__law_keeps rfl rfl (fun cdv A outer s H E hr => ?_)
  have hu := room64 hr
  exact ⟨_, by decide, (sse_cons (se_setComp 2 rfl sc__law_keeps.nd (ie_range1 (by rfl) b.range_ (de_cons (oe_len (ae_cons (oe_var 1) ae_nil) b.len_) de_nil)) (blkOk_by (own := [("number", 3)]) (by exact rfl)) (fun _ _ _ _ _ => (ge_name (i := 3) sc__law_keeps.nd)) (fun _ _ _ _ _ => (if_one (te_isn (oe_at (oe_var 1) (oe_var 3)) oe_non))) (fun _ _ _ _ _ => (oe_var 3)) (sw_true rfl rfl rfl (by decide +kernel)))
    (sse_cons (se_if (te_in (oe_var 0) (oe_tup (de_cons oe_str (de_cons oe_str de_nil)))) (sse_one (se_ret (oe_not (oe_callC c__law_breach_one (hr.mono (by decide)) (ae_cons (oe_var 0) (ae_cons (oe_var 1) (ae_cons (oe_var 2) ae_nil))) (consA_len (consA_len (consA_len (fun _ _ _ h => nilA_len h)))))))) sse_nil)
    (sse_cons (se_if (te_in (oe_var 0) (oe_tup (de_cons oe_str (de_cons oe_str (de_cons oe_str de_nil))))) (sse_one (se_ret (oe_not (oe_callC c__law_breach_two (hr.mono (by decide)) (ae_cons (oe_var 0) (ae_cons (oe_var 1) (ae_cons (oe_var 2) ae_nil))) (consA_len (consA_len (consA_len (fun _ _ _ h => nilA_len h)))))))) sse_nil)
    (sse_one (se_ret (oe_not (oe_callC c__law_breach_three (hr.mono (by decide)) (ae_cons (oe_var 0) (ae_cons (oe_var 1) (ae_cons (oe_var 2) ae_nil))) (consA_len (consA_len (consA_len (fun _ _ _ h => nilA_len h)))))))))))⟩
/-! _law_cost -/
abbrev s__law_cost : Stmt := topS 27
theorem sc__law_cost : FnScope ["d"] ["d"] (defScope s__law_cost) := ⟨rfl, rfl, rfl, by decide +kernel, rfl, by decide +kernel, by decide +kernel⟩
theorem ok__law_cost {P : Program} {w : World} {K : PySem.W.Frag} {mg : Str → Option Value} {base : Heap} {f : Addr} {fd : FuncData} (Fu : Fun K "_law_cost" "_law_cost" s__law_cost f fd) (b : Bl mg) (c__law_draw : Callee P w K mg base 1 "_law_draw" 2 m__law_draw) (c__law_rare : Callee P w K mg base 2 "_law_rare" 2 m__law_rare) :
    FnOk P w K mg base CX0 3 f fd ["d"] (spF K m__law_cost 1) := by
  refine fn_ok (k := 2) (io := [0]) Fu sc__law_cost rfl rfl (fun cdv A outer s H E hr => ?_)
  have hu := room64 hr
  exact ⟨_, by decide, (sse_cons (se_if (te_tru (oe_callC c__law_rare (hr.mono (by decide)) (ae_cons (oe_var 0) (ae_cons oe_int ae_nil)) (consA_len (consA_len (fun _ _ _ h => nilA_len h))))) (sse_one (se_ret (oe_callC c__law_draw (hr.mono (by decide)) (ae_cons (oe_var 0) (ae_cons oe_int ae_nil)) (consA_len (consA_len (fun _ _ _ h => nilA_len h)))))) sse_nil)
    (sse_one (se_ret (oe_callC c__law_draw (hr.mono (by decide)) (ae_cons (oe_var 0) (ae_cons oe_int ae_nil)) (consA_len (consA_len (fun _ _ _ h => nilA_len h)))))))⟩
/-! _law_opened -/
abbrev s__law_opened : Stmt := topS 28
theorem sc__law_opened : FnScope ["d", "prices"] ["d", "prices"] (defScope s__law_opened) := ⟨rfl, rfl, rfl, by decide +kernel, rfl, by decide +kernel, by decide +kernel⟩
theorem ok__law_opened {P : Program} {w : World} {K : PySem.W.Frag} {mg : Str → Option Value} {base : Heap} {f : Addr} {fd : FuncData} (Fu : Fun K "_law_opened" "_law_opened" s__law_opened f fd) (b : Bl mg) (c__law_cost : Callee P w K mg base 3 "_law_cost" 1 m__law_cost) (c__law_draw : Callee P w K mg base 1 "_law_draw" 2 m__law_draw) (c__law_low : Callee P w K mg base 1 "_law_low" 1 m__law_low) :
    FnOk P w K mg base CX0 4 f fd ["d", "prices"] (spF K m__law_opened 2) := by
  refine fn_ok (k := 3) (io := [0, 1]) Fu sc__law_opened rfl rfl (fun cdv A outer s H E hr => ?_)
  have hu := room64 hr
  exact ⟨_, by decide, (sse_cons (se_if (te_is (oe_callC c__law_low (hr.mono (by decide)) (ae_cons (oe_var 1) ae_nil) (consA_len (fun _ _ _ h => nilA_len h))) oe_non) (sse_one (se_put 1 (oe_callC c__law_cost (hr.mono (by decide)) (ae_cons (oe_var 0) ae_nil) (consA_len (fun _ _ _ h => nilA_len h))) (oe_callC c__law_draw (hr.mono (by decide)) (ae_cons (oe_var 0) (ae_cons (oe_len (ae_cons (oe_var 1) ae_nil) b.len_) ae_nil)) (consA_len (consA_len (fun _ _ _ h => nilA_len h)))))) sse_nil)
    (sse_one (se_ret (oe_var 1))))⟩
/-! _law_loose -/
abbrev s__law_loose : Stmt := topS 29
theorem sc__law_loose : FnScope ["d", "places", "barred", "prices", "number", "bar"] ["d", "places", "barred"] (defScope s__law_loose) := ⟨rfl, rfl, rfl, by decide +kernel, rfl, by decide +kernel, by decide +kernel⟩
theorem ok__law_loose {P : Program} {w : World} {K : PySem.W.Frag} {mg : Str → Option Value} {base : Heap} {f : Addr} {fd : FuncData} (Fu : Fun K "_law_loose" "_law_loose" s__law_loose f fd) (b : Bl mg) (c__law_cost : Callee P w K mg base 3 "_law_cost" 1 m__law_cost) (c__law_draw : Callee P w K mg base 1 "_law_draw" 2 m__law_draw) (c__law_opened : Callee P w K mg base 4 "_law_opened" 2 m__law_opened) :
    FnOk P w K mg base CX0 5 f fd ["d", "places", "barred"] (spF K m__law_loose 3) := by
  refine fn_ok (k := 4) (io := [0]) Fu sc__law_loose rfl rfl (fun cdv A outer s H E hr => ?_)
  have hu := room64 hr
  exact ⟨_, by decide, (sse_cons (se_set 3 sc__law_loose.nd (oe_lst de_nil))
    (sse_cons (se_for PassesOwn.never rfl (ie_range1 (by rfl) b.range_ (de_cons (oe_shl oe_int (oe_var 1)) de_nil)) (ge_name (i := 4) sc__law_loose.nd) (sse_cons (se_set 5 sc__law_loose.nd (oe_lt (oe_callC c__law_draw (hr.mono (by decide)) (ae_cons (oe_var 0) (ae_cons oe_int ae_nil)) (consA_len (consA_len (fun _ _ _ h => nilA_len h)))) (oe_var 2)))
    (sse_one (se_expr (oe_append 3 (de_cons (oe_if (te_tru (oe_var 5)) oe_non (oe_callC c__law_cost (hr.mono (by decide)) (ae_cons (oe_var 0) ae_nil) (consA_len (fun _ _ _ h => nilA_len h)))) de_nil))))))
    (sse_one (se_ret (oe_tup (de_cons (oe_var 1) (de_cons (oe_tuple (ae_cons (oe_callC c__law_opened (hr.mono (by decide)) (ae_cons (oe_var 0) (ae_cons (oe_var 3) ae_nil)) (consA_len (consA_len (fun _ _ _ h => nilA_len h)))) ae_nil) b.tuple_) de_nil)))))))⟩
/-! _law_add_bends -/
abbrev s__law_add_bends : Stmt := topS 30
theorem sc__law_add_bends : FnScope ["d", "places", "prices", "size", "k", "mask", "cost", "way", "number", "low", "high", "inside"] ["d", "places", "prices"] (defScope s__law_add_bends) := ⟨rfl, rfl, rfl, by decide +kernel, rfl, by decide +kernel, by decide +kernel⟩
theorem ok__law_add_bends {P : Program} {w : World} {K : PySem.W.Frag} {mg : Str → Option Value} {base : Heap} {f : Addr} {fd : FuncData} (Fu : Fun K "_law_add_bends" "_law_add_bends" s__law_add_bends f fd) (b : Bl mg) (c__law_draw : Callee P w K mg base 1 "_law_draw" 2 m__law_draw) :
    FnOk P w K mg base CX0 2 f fd ["d", "places", "prices"] (spF K m__law_add_bends 3) := by
  refine fn_ok (k := 1) (io := [0, 2]) Fu sc__law_add_bends rfl rfl (fun cdv A outer s H E hr => ?_)
  have hu := room64 hr
  exact ⟨_, by decide, (sse_cons (se_set 3 sc__law_add_bends.nd (oe_len (ae_cons (oe_var 2) ae_nil) b.len_))
    (sse_cons (se_for PassesOwn.never rfl (ie_range1 (by rfl) b.range_ (de_cons (oe_callC c__law_draw (hr.mono (by decide)) (ae_cons (oe_var 0) (ae_cons oe_int ae_nil)) (consA_len (consA_len (fun _ _ _ h => nilA_len h)))) de_nil)) (ge_name (i := 4) sc__law_add_bends.nd) (sse_cons (se_set 5 sc__law_add_bends.nd (oe_callC c__law_draw (hr.mono (by decide)) (ae_cons (oe_var 0) (ae_cons (oe_var 3) ae_nil)) (consA_len (consA_len (fun _ _ _ h => nilA_len h)))))
    (sse_cons (se_set 6 sc__law_add_bends.nd (oe_callC c__law_draw (hr.mono (by decide)) (ae_cons (oe_var 0) (ae_cons oe_int ae_nil)) (consA_len (consA_len (fun _ _ _ h => nilA_len h)))))
    (sse_cons (se_set 7 sc__law_add_bends.nd (oe_callC c__law_draw (hr.mono (by decide)) (ae_cons (oe_var 0) (ae_cons oe_int ae_nil)) (consA_len (consA_len (fun _ _ _ h => nilA_len h)))))
    (sse_one (se_for PassesOwn.never rfl (ie_range1 (by rfl) b.range_ (de_cons (oe_var 3) de_nil)) (ge_name (i := 8) sc__law_add_bends.nd) (sse_cons (se_set 11 sc__law_add_bends.nd (oe_band (oe_var 8) (oe_var 5)))
    (sse_one (se_if ((tw_or ((tw_and (te_eq hu (oe_var 7) oe_int) (tw_and1 (te_ne hu (oe_var 11) (oe_var 5))))).te (tw_or1 ((tw_and (te_eq hu (oe_var 7) oe_int) (tw_and1 (te_ne hu (oe_var 11) oe_int)))).te))).te (sse_one (se_iaddAt 2 (oe_var 6) (oe_var 8))) sse_nil)))))))))
    (sse_cons (se_for PassesOwn.never rfl (ie_range1 (by rfl) b.range_ (de_cons (oe_callC c__law_draw (hr.mono (by decide)) (ae_cons (oe_var 0) (ae_cons oe_int ae_nil)) (consA_len (consA_len (fun _ _ _ h => nilA_len h)))) de_nil)) (ge_name (i := 4) sc__law_add_bends.nd) (sse_cons (se_set 9 sc__law_add_bends.nd (oe_shl oe_int (oe_callC c__law_draw (hr.mono (by decide)) (ae_cons (oe_var 0) (ae_cons (oe_var 1) ae_nil)) (consA_len (consA_len (fun _ _ _ h => nilA_len h))))))
    (sse_cons (se_set 10 sc__law_add_bends.nd (oe_shl oe_int (oe_callC c__law_draw (hr.mono (by decide)) (ae_cons (oe_var 0) (ae_cons (oe_var 1) ae_nil)) (consA_len (consA_len (fun _ _ _ h => nilA_len h))))))
    (sse_cons (se_set 6 sc__law_add_bends.nd (oe_callC c__law_draw (hr.mono (by decide)) (ae_cons (oe_var 0) (ae_cons oe_int ae_nil)) (consA_len (consA_len (fun _ _ _ h => nilA_len h)))))
    (sse_one (se_for PassesOwn.never rfl (ie_range1 (by rfl) b.range_ (de_cons (oe_var 3) de_nil)) (ge_name (i := 8) sc__law_add_bends.nd) (sse_one (se_if ((tw_and (te_gt (oe_band (oe_var 8) (oe_var 9)) oe_int) (tw_and1 (te_eq hu (oe_band (oe_var 8) (oe_var 10)) oe_int)))).te (sse_one (se_iaddAt 2 (oe_var 6) (oe_var 8))) sse_nil))))))))
    (sse_one (se_ret (oe_var 2))))))⟩
/-! _law_cut -/
abbrev s__law_cut : Stmt := topS 31
theorem sc__law_cut : FnScope ["d", "places", "size", "prices", "place", "saved", "k", "spent", "low", "high", "spot", "bars", "number"] ["d", "places"] (defScope s__law_cut) := ⟨rfl, rfl, rfl, by decide +kernel, rfl, by decide +kernel, by decide +kernel⟩
theorem ok__law_cut {P : Program} {w : World} {K : PySem.W.Frag} {mg : Str → Option Value} {base : Heap} {f : Addr} {fd : FuncData} (Fu : Fun K "_law_cut" "_law_cut" s__law_cut f fd) (b : Bl mg) (c__law_add_bends : Callee P w K mg base 2 "_law_add_bends" 3 m__law_add_bends) (c__law_draw : Callee P w K mg base 1 "_law_draw" 2 m__law_draw) :
    FnOk P w K mg base CX0 3 f fd ["d", "places"] (spF K m__law_cut 2) := by
  refine fn_ok (k := 2) (io := [0]) Fu sc__law_cut rfl rfl (fun cdv A outer s H E hr => ?_)
  have hu := room64 hr
  exact ⟨_, by decide, (sse_cons (se_set 2 sc__law_cut.nd (oe_shl oe_int (oe_var 1)))
    (sse_cons (se_set 3 sc__law_cut.nd (oe_mul (oe_lst (de_cons (oe_callC c__law_draw (hr.mono (by decide)) (ae_cons (oe_var 0) (ae_cons oe_int ae_nil)) (consA_len (consA_len (fun _ _ _ h => nilA_len h)))) de_nil)) (oe_var 2)))
    (sse_cons (se_for PassesOwn.never rfl (ie_range1 (by rfl) b.range_ (de_cons (oe_var 1) de_nil)) (ge_name (i := 4) sc__law_cut.nd) (sse_cons (se_set 7 sc__law_cut.nd (oe_lst (de_cons (oe_callC c__law_draw (hr.mono (by decide)) (ae_cons (oe_var 0) (ae_cons oe_int ae_nil)) (consA_len (consA_len (fun _ _ _ h => nilA_len h)))) (de_cons (oe_callC c__law_draw (hr.mono (by decide)) (ae_cons (oe_var 0) (ae_cons oe_int ae_nil)) (consA_len (consA_len (fun _ _ _ h => nilA_len h)))) de_nil))))
    (sse_one (se_set 3 sc__law_cut.nd (oe_comp rfl sc__law_cut.nd (ie_range1 (by rfl) b.range_ (de_cons (oe_var 2) de_nil)) (blkOk_by (own := [("number", 12)]) (by exact rfl)) (fun _ _ _ _ _ => (ge_name (i := 12) sc__law_cut.nd)) (fun _ _ _ _ _ => if_nil) (fun _ _ _ _ _ => (oe_add (oe_at (oe_var 3) (oe_var 12)) (oe_at (oe_var 7) (oe_band (oe_shr (oe_var 12) (oe_var 4)) oe_int)))))))))
    (sse_cons (se_set 3 sc__law_cut.nd (oe_callC c__law_add_bends (hr.mono (by decide)) (ae_cons (oe_var 0) (ae_cons (oe_var 1) (ae_cons (oe_var 3) ae_nil))) (consA_len (consA_len (consA_len (fun _ _ _ h => nilA_len h))))))
    (sse_cons (se_set 5 sc__law_cut.nd (oe_callC c__law_draw (hr.mono (by decide)) (ae_cons (oe_var 0) (ae_cons (oe_var 2) ae_nil)) (consA_len (consA_len (fun _ _ _ h => nilA_len h)))))
    (sse_cons (se_for PassesOwn.never rfl (ie_range1 (by rfl) b.range_ (de_cons (oe_mul (oe_div (oe_callC c__law_draw (hr.mono (by decide)) (ae_cons (oe_var 0) (ae_cons oe_int ae_nil)) (consA_len (consA_len (fun _ _ _ h => nilA_len h)))) oe_int) (oe_callC c__law_draw (hr.mono (by decide)) (ae_cons (oe_var 0) (ae_cons oe_int ae_nil)) (consA_len (consA_len (fun _ _ _ h => nilA_len h))))) de_nil)) (ge_name (i := 6) sc__law_cut.nd) (sse_cons (se_set 8 sc__law_cut.nd (oe_shl oe_int (oe_callC c__law_draw (hr.mono (by decide)) (ae_cons (oe_var 0) (ae_cons (oe_var 1) ae_nil)) (consA_len (consA_len (fun _ _ _ h => nilA_len h))))))
    (sse_cons (se_set 9 sc__law_cut.nd (oe_shl oe_int (oe_callC c__law_draw (hr.mono (by decide)) (ae_cons (oe_var 0) (ae_cons (oe_var 1) ae_nil)) (consA_len (consA_len (fun _ _ _ h => nilA_len h))))))
    (sse_one (se_if ((tw_or (te_eq hu (oe_band (oe_var 5) (oe_var 8)) oe_int) (tw_or1 (te_gt (oe_band (oe_var 5) (oe_var 9)) oe_int)))).te (sse_cons (se_set 11 sc__law_cut.nd (oe_comp rfl sc__law_cut.nd (ie_range1 (by rfl) b.range_ (de_cons (oe_var 2) de_nil)) (blkOk_by (own := [("number", 12)]) (by exact rfl)) (fun _ _ _ _ _ => (ge_name (i := 12) sc__law_cut.nd)) (fun _ _ _ _ _ => if_nil) (fun _ _ _ _ _ => (oe_and (oe_gt (oe_band (oe_var 12) (oe_var 8)) oe_int) (oe_one (oe_eq hu (oe_band (oe_var 12) (oe_var 9)) oe_int))))))
    (sse_one (se_set 3 sc__law_cut.nd (oe_comp rfl sc__law_cut.nd (ie_range1 (by rfl) b.range_ (de_cons (oe_var 2) de_nil)) (blkOk_by (own := [("number", 12)]) (by exact rfl)) (fun _ _ _ _ _ => (ge_name (i := 12) sc__law_cut.nd)) (fun _ _ _ _ _ => if_nil) (fun _ _ _ _ _ => (oe_if (te_tru (oe_at (oe_var 11) (oe_var 12))) oe_non (oe_at (oe_var 3) (oe_var 12)))))))) sse_nil)))))
    (sse_cons (se_if (te_eq hu (oe_callC c__law_draw (hr.mono (by decide)) (ae_cons (oe_var 0) (ae_cons oe_int ae_nil)) (consA_len (consA_len (fun _ _ _ h => nilA_len h)))) oe_int) (sse_cons (se_set 10 sc__law_cut.nd (oe_shl oe_int (oe_callC c__law_draw (hr.mono (by decide)) (ae_cons (oe_var 0) (ae_cons (oe_var 1) ae_nil)) (consA_len (consA_len (fun _ _ _ h => nilA_len h))))))
    (sse_one (se_set 3 sc__law_cut.nd (oe_comp rfl sc__law_cut.nd (ie_range1 (by rfl) b.range_ (de_cons (oe_var 2) de_nil)) (blkOk_by (own := [("number", 12)]) (by exact rfl)) (fun _ _ _ _ _ => (ge_name (i := 12) sc__law_cut.nd)) (fun _ _ _ _ _ => if_nil) (fun _ _ _ _ _ => (oe_if (te_eq hu (oe_band (oe_var 12) (oe_var 10)) (oe_band (oe_var 5) (oe_var 10))) (oe_at (oe_var 3) (oe_var 12)) oe_non)))))) sse_nil)
    (sse_one (se_ret (oe_tup (de_cons (oe_var 1) (de_cons (oe_tuple (ae_cons (oe_var 3) ae_nil) b.tuple_) de_nil))))))))))))⟩
/-! _law_some_table -/
abbrev s__law_some_table : Stmt := topS 32
theorem sc__law_some_table : FnScope ["d", "places", "way", "prices", "at"] ["d"] (defScope s__law_some_table) := ⟨rfl, rfl, rfl, by decide +kernel, rfl, by decide +kernel, by decide +kernel⟩
theorem ok__law_some_table {P : Program} {w : World} {K : PySem.W.Frag} {mg : Str → Option Value} {base : Heap} {f : Addr} {fd : FuncData} (Fu : Fun K "_law_some_table" "_law_some_table" s__law_some_table f fd) (b : Bl mg) (c__law_cost : Callee P w K mg base 3 "_law_cost" 1 m__law_cost) (c__law_cut : Callee P w K mg base 3 "_law_cut" 2 m__law_cut) (c__law_draw : Callee P w K mg base 1 "_law_draw" 2 m__law_draw) (c__law_loose : Callee P w K mg base 5 "_law_loose" 3 m__law_loose) (c__law_opened : Callee P w K mg base 4 "_law_opened" 2 m__law_opened) (c__law_rare : Callee P w K mg base 2 "_law_rare" 2 m__law_rare) :
    FnOk P w K mg base CX0 6 f fd ["d"] (spF K m__law_some_table 1) := by
  refine fn_ok (k := 5) (io := [0]) Fu sc__law_some_table rfl rfl (fun cdv A outer s H E hr => ?_)
  have hu := room64 hr
  exact ⟨_, by decide, (sse_cons (se_set 1 sc__law_some_table.nd (oe_add (oe_add oe_int (oe_callC c__law_draw (hr.mono (by decide)) (ae_cons (oe_var 0) (ae_cons oe_int ae_nil)) (consA_len (consA_len (fun _ _ _ h => nilA_len h))))) (oe_int_ (ae_cons (oe_callC c__law_rare (hr.mono (by decide)) (ae_cons (oe_var 0) (ae_cons oe_int ae_nil)) (consA_len (consA_len (fun _ _ _ h => nilA_len h)))) ae_nil) b.int_)))
    (sse_cons (se_set 2 sc__law_some_table.nd (oe_callC c__law_draw (hr.mono (by decide)) (ae_cons (oe_var 0) (ae_cons oe_int ae_nil)) (consA_len (consA_len (fun _ _ _ h => nilA_len h)))))
    (sse_cons (se_if (te_eq hu (oe_var 2) oe_int) (sse_one (se_ret (oe_callC c__law_loose (hr.mono (by decide)) (ae_cons (oe_var 0) (ae_cons (oe_var 1) (ae_cons (oe_callC c__law_draw (hr.mono (by decide)) (ae_cons (oe_var 0) (ae_cons oe_int ae_nil)) (consA_len (consA_len (fun _ _ _ h => nilA_len h)))) ae_nil))) (consA_len (consA_len (consA_len (fun _ _ _ h => nilA_len h))))))) sse_nil)
    (sse_cons (se_set 3 sc__law_some_table.nd (oe_list (ae_cons (oe_at (oe_callC c__law_cut (hr.mono (by decide)) (ae_cons (oe_var 0) (ae_cons (oe_var 1) ae_nil)) (consA_len (consA_len (fun _ _ _ h => nilA_len h)))) oe_int) ae_nil) b.list_))
    (sse_cons (se_if (te_lt (oe_var 2) oe_int) (sse_cons (se_set 4 sc__law_some_table.nd (oe_callC c__law_draw (hr.mono (by decide)) (ae_cons (oe_var 0) (ae_cons (oe_len (ae_cons (oe_var 3) ae_nil) b.len_) ae_nil)) (consA_len (consA_len (fun _ _ _ h => nilA_len h)))))
    (sse_one (se_put 3 (oe_if (te_eq hu (oe_callC c__law_draw (hr.mono (by decide)) (ae_cons (oe_var 0) (ae_cons oe_int ae_nil)) (consA_len (consA_len (fun _ _ _ h => nilA_len h)))) oe_int) oe_non (oe_callC c__law_cost (hr.mono (by decide)) (ae_cons (oe_var 0) ae_nil) (consA_len (fun _ _ _ h => nilA_len h)))) (oe_var 4)))) sse_nil)
    (sse_one (se_ret (oe_tup (de_cons (oe_var 1) (de_cons (oe_tuple (ae_cons (oe_callC c__law_opened (hr.mono (by decide)) (ae_cons (oe_var 0) (ae_cons (oe_var 3) ae_nil)) (consA_len (consA_len (fun _ _ _ h => nilA_len h)))) ae_nil) b.tuple_) de_nil))))))))))⟩
/-! _law_some_big -/
abbrev s__law_some_big : Stmt := topS 33
theorem sc__law_some_big : FnScope ["d", "span", "way"] ["d", "span"] (defScope s__law_some_big) := ⟨rfl, rfl, rfl, by decide +kernel, rfl, by decide +kernel, by decide +kernel⟩
theorem ok__law_some_big {P : Program} {w : World} {K : PySem.W.Frag} {mg : Str → Option Value} {base : Heap} {f : Addr} {fd : FuncData} (Fu : Fun K "_law_some_big" "_law_some_big" s__law_some_big f fd) (b : Bl mg) (c__law_draw : Callee P w K mg base 1 "_law_draw" 2 m__law_draw) :
    FnOk P w K mg base CX0 2 f fd ["d", "span"] (spF K m__law_some_big 2) := by
  refine fn_ok (k := 1) (io := [0]) Fu sc__law_some_big rfl rfl (fun cdv A outer s H E hr => ?_)
  have hu := room64 hr
  exact ⟨_, by decide, (sse_cons (se_set 2 sc__law_some_big.nd (oe_callC c__law_draw (hr.mono (by decide)) (ae_cons (oe_var 0) (ae_cons oe_int ae_nil)) (consA_len (consA_len (fun _ _ _ h => nilA_len h)))))
    (sse_cons (se_if (te_eq hu (oe_var 2) oe_int) (sse_one (se_ret (oe_callC c__law_draw (hr.mono (by decide)) (ae_cons (oe_var 0) (ae_cons oe_int ae_nil)) (consA_len (consA_len (fun _ _ _ h => nilA_len h)))))) sse_nil)
    (sse_cons (se_if (te_eq hu (oe_var 2) oe_int) (sse_one (se_ret (oe_mul (oe_callC c__law_draw (hr.mono (by decide)) (ae_cons (oe_var 0) (ae_cons oe_int ae_nil)) (consA_len (consA_len (fun _ _ _ h => nilA_len h)))) (oe_pow oe_int oe_int)))) sse_nil)
    (sse_cons (se_if (te_eq hu (oe_var 2) oe_int) (sse_one (se_ret (oe_add (oe_var 1) (oe_callC c__law_draw (hr.mono (by decide)) (ae_cons (oe_var 0) (ae_cons oe_int ae_nil)) (consA_len (consA_len (fun _ _ _ h => nilA_len h))))))) sse_nil)
    (sse_one (se_ret (oe_add (oe_mul oe_int (oe_var 1)) oe_int)))))))⟩
/-! _law_heights -/
abbrev s__law_heights : Stmt := topS 34
theorem sc__law_heights : FnScope ["prices", "big", "numbers", "found", "number", "other"] ["prices", "big"] (defScope s__law_heights) := ⟨rfl, rfl, rfl, by decide +kernel, rfl, by decide +kernel, by decide +kernel⟩
theorem ok__law_heights {P : Program} {w : World} {K : PySem.W.Frag} {mg : Str → Option Value} {base : Heap} {f : Addr} {fd : FuncData} (Fu : Fun K "_law_heights" "_law_heights" s__law_heights f fd) (b : Bl mg) (c__law_ones : Callee P w K mg base 1 "_law_ones" 1 m__law_ones) :
    FnOk P w K mg base CX0 2 f fd ["prices", "big"] (spF K m__law_heights 2) := by
  refine fn_ok (k := 1) (io := []) Fu sc__law_heights rfl rfl (fun cdv A outer s H E hr => ?_)
  have hu := room64 hr
  exact ⟨_, by decide, (sse_cons (se_setComp 2 rfl sc__law_heights.nd (ie_range1 (by rfl) b.range_ (de_cons (oe_len (ae_cons (oe_var 0) ae_nil) b.len_) de_nil)) (blkOk_by (own := [("number", 4)]) (by exact rfl)) (fun _ _ _ _ _ => (ge_name (i := 4) sc__law_heights.nd)) (fun _ _ _ _ _ => (if_one (te_isn (oe_at (oe_var 0) (oe_var 4)) oe_non))) (fun _ _ _ _ _ => (oe_var 4)) (sw_true rfl rfl rfl (by decide +kernel)))
    (sse_cons (se_set 3 sc__law_heights.nd (oe_lst de_nil))
    (sse_cons (se_for PassesOwn.never rfl (ie_range1 (by rfl) b.range_ (de_cons (oe_len (ae_cons (oe_var 0) ae_nil) b.len_) de_nil)) (ge_name (i := 4) sc__law_heights.nd) (sse_one (se_expr (oe_append 3 (de_cons (oe_min rfl (ae_cons (oe_comp rfl sc__law_heights.nd (ie_name 2) (blkOk_by (own := [("other", 5)]) (by exact rfl)) (fun _ _ _ _ _ => (ge_name (i := 5) sc__law_heights.nd)) (fun _ _ _ _ _ => if_nil) (fun _ _ _ _ _ => (oe_add (oe_at (oe_var 0) (oe_var 5)) (oe_mul (oe_var 1) (oe_callC c__law_ones (hr.mono (by decide)) (ae_cons (oe_bxor (oe_var 5) (oe_var 4)) ae_nil) (consA_len (fun _ _ _ h => nilA_len h))))))) ae_nil) b.min_) de_nil)))))
    (sse_one (se_ret (oe_var 3))))))⟩
/-! _law_orders -/
abbrev s__law_orders : Stmt := topS 35
theorem sc__law_orders : FnScope ["size", "found", "place", "longer", "row", "spot"] ["size"] (defScope s__law_orders) := ⟨rfl, rfl, rfl, by decide +kernel, rfl, by decide +kernel, by decide +kernel⟩
theorem ok__law_orders {P : Program} {w : World} {K : PySem.W.Frag} {mg : Str → Option Value} {base : Heap} {f : Addr} {fd : FuncData} (Fu : Fun K "_law_orders" "_law_orders" s__law_orders f fd) (b : Bl mg)  :
    FnOk P w K mg base CX0 1 f fd ["size"] (spF K m__law_orders 1) := by
  refine fn_ok (k := 0) (io := []) Fu sc__law_orders rfl rfl (fun cdv A outer s H E hr => ?_)
  have hu := room64 hr
  exact ⟨_, by decide, (sse_cons (se_set 1 sc__law_orders.nd (oe_lst (de_cons (oe_lst de_nil) de_nil)))
    (sse_cons (se_for PassesOwn.never rfl (ie_range1 (by rfl) b.range_ (de_cons (oe_var 0) de_nil)) (ge_name (i := 2) sc__law_orders.nd) (sse_cons (se_set 3 sc__law_orders.nd (oe_lst de_nil))
    (sse_cons (se_for PassesOwn.never rfl (ie_name 1) (ge_name (i := 4) sc__law_orders.nd) (sse_one (se_for PassesOwn.never rfl (ie_range1 (by rfl) b.range_ (de_cons (oe_add (oe_len (ae_cons (oe_var 4) ae_nil) b.len_) oe_int) de_nil)) (ge_name (i := 5) sc__law_orders.nd) (sse_one (se_expr (oe_append 3 (de_cons (oe_add (oe_add (oe_cut (oe_var 4) pa_no (pa_some (oe_var 5))) (oe_lst (de_cons (oe_var 2) de_nil))) (oe_cut (oe_var 4) (pa_some (oe_var 5)) pa_no)) de_nil)))))))
    (sse_one (se_set 1 sc__law_orders.nd (oe_var 3))))))
    (sse_one (se_ret (oe_var 1)))))⟩
/-! _law_growth -/
abbrev s__law_growth : Stmt := topS 36
theorem sc__law_growth : FnScope ["heights", "order", "size", "gains", "number", "place", "higher"] ["heights", "order"] (defScope s__law_growth) := ⟨rfl, rfl, rfl, by decide +kernel, rfl, by decide +kernel, by decide +kernel⟩
theorem ok__law_growth {P : Program} {w : World} {K : PySem.W.Frag} {mg : Str → Option Value} {base : Heap} {f : Addr} {fd : FuncData} (Fu : Fun K "_law_growth" "_law_growth" s__law_growth f fd) (b : Bl mg)  :
    FnOk P w K mg base CX0 1 f fd ["heights", "order"] (spF K m__law_growth 2) := by
  refine fn_ok (k := 0) (io := []) Fu sc__law_growth rfl rfl (fun cdv A outer s H E hr => ?_)
  have hu := room64 hr
  exact ⟨_, by decide, (sse_cons (se_set 2 sc__law_growth.nd (oe_len (ae_cons (oe_var 1) ae_nil) b.len_))
    (sse_cons (se_set 3 sc__law_growth.nd (oe_mul (oe_lst (de_cons oe_int de_nil)) (oe_var 2)))
    (sse_cons (se_set 4 sc__law_growth.nd oe_int)
    (sse_cons (se_for PassesOwn.never rfl (ie_name 1) (ge_name (i := 5) sc__law_growth.nd) (sse_cons (se_set 6 sc__law_growth.nd (oe_bor (oe_var 4) (oe_shl oe_int (oe_sub (oe_sub (oe_var 2) oe_int) (oe_var 5)))))
    (sse_cons (se_put 3 (oe_sub (oe_at (oe_var 0) (oe_var 6)) (oe_at (oe_var 0) (oe_var 4))) (oe_var 5))
    (sse_one (se_set 4 sc__law_growth.nd (oe_var 6))))))
    (sse_one (se_ret (oe_tuple (ae_cons (oe_var 3) ae_nil) b.tuple_)))))))⟩
/-! _law_gain -/
abbrev s__law_gain : Stmt := topS 37
theorem sc__law_gain : FnScope ["gains", "number", "gain", "value"] ["gains", "number"] (defScope s__law_gain) := ⟨rfl, rfl, rfl, by decide +kernel, rfl, by decide +kernel, by decide +kernel⟩
theorem ok__law_gain {P : Program} {w : World} {K : PySem.W.Frag} {mg : Str → Option Value} {base : Heap} {f : Addr} {fd : FuncData} (Fu : Fun K "_law_gain" "_law_gain" s__law_gain f fd) (b : Bl mg) (c__law_row : Callee P w K mg base 1 "_law_row" 2 m__law_row) :
    FnOk P w K mg base CX0 2 f fd ["gains", "number"] (spF K m__law_gain 2) := by
  refine fn_ok (k := 1) (io := []) Fu sc__law_gain rfl rfl (fun cdv A outer s H E hr => ?_)
  have hu := room64 hr
  exact ⟨_, by decide, (sse_one (se_ret (oe_sum rfl (ae_cons (oe_comp rfl sc__law_gain.nd (ie_zip b.zip_ (de_cons (oe_var 0) (de_cons (oe_callC c__law_row (hr.mono (by decide)) (ae_cons (oe_var 1) (ae_cons (oe_len (ae_cons (oe_var 0) ae_nil) b.len_) ae_nil)) (consA_len (consA_len (fun _ _ _ h => nilA_len h)))) de_nil))) (blkOk_by (own := [("gain", 2), ("value", 3)]) (by exact rfl)) (fun _ _ _ _ _ => (ge_tup rfl (gse_cons (ge_name (i := 2) sc__law_gain.nd) (gse_cons (ge_name (i := 3) sc__law_gain.nd) gse_nil)))) (fun _ _ _ _ _ => if_nil) (fun _ _ _ _ _ => (oe_mul (oe_var 2) (oe_var 3)))) ae_nil) b.sum_)))⟩
/-! _law_changed -/
abbrev s__law_changed : Stmt := topS 38
theorem sc__law_changed : FnScope ["d", "gains", "found", "change", "up", "down"] ["d", "gains"] (defScope s__law_changed) := ⟨rfl, rfl, rfl, by decide +kernel, rfl, by decide +kernel, by decide +kernel⟩
theorem ok__law_changed {P : Program} {w : World} {K : PySem.W.Frag} {mg : Str → Option Value} {base : Heap} {f : Addr} {fd : FuncData} (Fu : Fun K "_law_changed" "_law_changed" s__law_changed f fd) (b : Bl mg) (c__law_draw : Callee P w K mg base 1 "_law_draw" 2 m__law_draw) :
    FnOk P w K mg base CX0 2 f fd ["d", "gains"] (spF K m__law_changed 2) := by
  refine fn_ok (k := 1) (io := [0]) Fu sc__law_changed rfl rfl (fun cdv A outer s H E hr => ?_)
  have hu := room64 hr
  exact ⟨_, by decide, (sse_cons (se_set 2 sc__law_changed.nd (oe_list (ae_cons (oe_var 1) ae_nil) b.list_))
    (sse_cons (se_set 3 sc__law_changed.nd (oe_mul (oe_add oe_int (oe_callC c__law_draw (hr.mono (by decide)) (ae_cons (oe_var 0) (ae_cons oe_int ae_nil)) (consA_len (consA_len (fun _ _ _ h => nilA_len h))))) (oe_sub oe_int (oe_mul oe_int (oe_callC c__law_draw (hr.mono (by decide)) (ae_cons (oe_var 0) (ae_cons oe_int ae_nil)) (consA_len (consA_len (fun _ _ _ h => nilA_len h))))))))
    (sse_cons (se_set 4 sc__law_changed.nd (oe_callC c__law_draw (hr.mono (by decide)) (ae_cons (oe_var 0) (ae_cons (oe_len (ae_cons (oe_var 2) ae_nil) b.len_) ae_nil)) (consA_len (consA_len (fun _ _ _ h => nilA_len h)))))
    (sse_cons (se_set 5 sc__law_changed.nd (oe_callC c__law_draw (hr.mono (by decide)) (ae_cons (oe_var 0) (ae_cons (oe_add (oe_len (ae_cons (oe_var 2) ae_nil) b.len_) oe_int) ae_nil)) (consA_len (consA_len (fun _ _ _ h => nilA_len h)))))
    (sse_cons (se_iaddAt 2 (oe_var 3) (oe_var 4))
    (sse_cons (se_if (te_lt (oe_var 5) (oe_len (ae_cons (oe_var 2) ae_nil) b.len_)) (sse_one (se_isubAt 2 (oe_var 3) (oe_var 5))) sse_nil)
    (sse_one (se_ret (oe_tuple (ae_cons (oe_var 2) ae_nil) b.tuple_)))))))))⟩
/-! _law_gains_ok -/
abbrev s__law_gains_ok : Stmt := topS 39
theorem sc__law_gains_ok : FnScope ["heights", "gains", "told", "due", "number", "whole"] ["heights", "gains"] (defScope s__law_gains_ok) := ⟨rfl, rfl, rfl, by decide +kernel, rfl, by decide +kernel, by decide +kernel⟩
theorem ok__law_gains_ok {P : Program} {w : World} {K : PySem.W.Frag} {mg : Str → Option Value} {base : Heap} {f : Addr} {fd : FuncData} (Fu : Fun K "_law_gains_ok" "_law_gains_ok" s__law_gains_ok f fd) (b : Bl mg) (c__law_gain : Callee P w K mg base 2 "_law_gain" 2 m__law_gain) (c__law_is_int : Callee P w K mg base 1 "_law_is_int" 1 m__law_is_int) (c__law_is_ints : Callee P w K mg base 2 "_law_is_ints" 1 m__law_is_ints) (c_gain_of : Callee P w K mg base 2 "gain_of" 2 m_gain_of) (c_is_below_heights : Callee P w K mg base 4 "is_below_heights" 2 m_is_below_heights) (c_slack_of : Callee P w K mg base 3 "slack_of" 2 m_slack_of) :
    FnOk P w K mg base CX0 5 f fd ["heights", "gains"] (spF K m__law_gains_ok 2) := by
  refine fn_ok (k := 4) (io := []) Fu sc__law_gains_ok rfl rfl (fun cdv A outer s H E hr => ?_)
  have hu := room64 hr
  exact ⟨_, by decide, (sse_cons (se_set 2 sc__law_gains_ok.nd (oe_callC c_slack_of (hr.mono (by decide)) (ae_cons (oe_var 0) (ae_cons (oe_var 1) ae_nil)) (consA_len (consA_len (fun _ _ _ h => nilA_len h)))))
    (sse_cons (se_if ((tw_or (te_not (te_tru (oe_isi2 (oe_var 2) b.isinstance_ b.list_ (by decide +kernel) b.tuple_ (by decide +kernel)))) (tw_or1 (te_not (te_tru (oe_callC c__law_is_ints (hr.mono (by decide)) (ae_cons (oe_tuple (ae_cons (oe_var 2) ae_nil) b.tuple_) ae_nil) (consA_len (fun _ _ _ h => nilA_len h)))))))).te (sse_one (se_ret oe_bl)) sse_nil)
    (sse_cons (se_set 3 sc__law_gains_ok.nd (oe_lst de_nil))
    (sse_cons (se_for PassesOwn.never rfl (ie_range1 (by rfl) b.range_ (de_cons (oe_len (ae_cons (oe_var 0) ae_nil) b.len_) de_nil)) (ge_name (i := 4) sc__law_gains_ok.nd) (sse_cons (se_set 5 sc__law_gains_ok.nd (oe_callC c_gain_of (hr.mono (by decide)) (ae_cons (oe_var 1) (ae_cons (oe_var 4) ae_nil)) (consA_len (consA_len (fun _ _ _ h => nilA_len h)))))
    (sse_cons (se_if ((tw_or (te_not (te_tru (oe_callC c__law_is_int (hr.mono (by decide)) (ae_cons (oe_var 5) ae_nil) (consA_len (fun _ _ _ h => nilA_len h))))) (tw_or1 (te_ne hu (oe_var 5) (oe_callC c__law_gain (hr.mono (by decide)) (ae_cons (oe_var 1) (ae_cons (oe_var 4) ae_nil)) (consA_len (consA_len (fun _ _ _ h => nilA_len h)))))))).te (sse_one (se_ret oe_bl)) sse_nil)
    (sse_one (se_expr (oe_append 3 (de_cons (oe_sub (oe_sub (oe_at (oe_var 0) (oe_var 4)) (oe_at (oe_var 0) oe_int)) (oe_callC c__law_gain (hr.mono (by decide)) (ae_cons (oe_var 1) (ae_cons (oe_var 4) ae_nil)) (consA_len (consA_len (fun _ _ _ h => nilA_len h))))) de_nil)))))))
    (sse_cons (se_if (te_ne hu (oe_list (ae_cons (oe_var 2) ae_nil) b.list_) (oe_var 3)) (sse_one (se_ret oe_bl)) sse_nil)
    (sse_cons (se_if ((tw_and (te_ge (oe_min rfl (ae_cons (oe_var 3) ae_nil) b.min_) oe_int) (tw_and1 (te_eq hu (oe_at (oe_var 3) (oe_sub (oe_len (ae_cons (oe_var 3) ae_nil) b.len_) oe_int)) oe_int)))).te (sse_one (se_ret (oe_isB (oe_callC c_is_below_heights (hr.mono (by decide)) (ae_cons (oe_var 0) (ae_cons (oe_var 1) ae_nil)) (consA_len (consA_len (fun _ _ _ h => nilA_len h)))) oe_bl))) sse_nil)
    (sse_one (se_ret (oe_isB (oe_callC c_is_below_heights (hr.mono (by decide)) (ae_cons (oe_var 0) (ae_cons (oe_var 1) ae_nil)) (consA_len (consA_len (fun _ _ _ h => nilA_len h)))) oe_bl)))))))))⟩
/-! _law_order_ok -/
abbrev s__law_order_ok : Stmt := topS 40
theorem sc__law_order_ok : FnScope ["d", "heights", "order", "due", "told"] ["d", "heights", "order"] (defScope s__law_order_ok) := ⟨rfl, rfl, rfl, by decide +kernel, rfl, by decide +kernel, by decide +kernel⟩
theorem ok__law_order_ok {P : Program} {w : World} {K : PySem.W.Frag} {mg : Str → Option Value} {base : Heap} {f : Addr} {fd : FuncData} (Fu : Fun K "_law_order_ok" "_law_order_ok" s__law_order_ok f fd) (b : Bl mg) (c__law_changed : Callee P w K mg base 2 "_law_changed" 2 m__law_changed) (c__law_gains_ok : Callee P w K mg base 5 "_law_gains_ok" 2 m__law_gains_ok) (c__law_growth : Callee P w K mg base 1 "_law_growth" 2 m__law_growth) (c__law_is_ints : Callee P w K mg base 2 "_law_is_ints" 1 m__law_is_ints) (c_greedy : Callee P w K mg base 1 "greedy" 2 m_greedy) :
    FnOk P w K mg base CX0 6 f fd ["d", "heights", "order"] (spF K m__law_order_ok 3) := by
  refine fn_ok (k := 5) (io := [0]) Fu sc__law_order_ok rfl rfl (fun cdv A outer s H E hr => ?_)
  have hu := room64 hr
  exact ⟨_, by decide, (sse_cons (se_set 3 sc__law_order_ok.nd (oe_callC c__law_growth (hr.mono (by decide)) (ae_cons (oe_var 1) (ae_cons (oe_var 2) ae_nil)) (consA_len (consA_len (fun _ _ _ h => nilA_len h)))))
    (sse_cons (se_set 4 sc__law_order_ok.nd (oe_callC c_greedy (hr.mono (by decide)) (ae_cons (oe_var 1) (ae_cons (oe_tuple (ae_cons (oe_var 2) ae_nil) b.tuple_) ae_nil)) (consA_len (consA_len (fun _ _ _ h => nilA_len h)))))
    (sse_cons (se_if ((tw_or (te_not (te_tru (oe_isi2 (oe_var 4) b.isinstance_ b.list_ (by decide +kernel) b.tuple_ (by decide +kernel)))) (tw_or (te_not (te_tru (oe_callC c__law_is_ints (hr.mono (by decide)) (ae_cons (oe_tuple (ae_cons (oe_var 4) ae_nil) b.tuple_) ae_nil) (consA_len (fun _ _ _ h => nilA_len h))))) (tw_or1 (te_ne hu (oe_tuple (ae_cons (oe_var 4) ae_nil) b.tuple_) (oe_var 3)))))).te (sse_one (se_ret oe_bl)) sse_nil)
    (sse_one (se_ret (oe_and (oe_callC c__law_gains_ok (hr.mono (by decide)) (ae_cons (oe_var 1) (ae_cons (oe_var 3) ae_nil)) (consA_len (consA_len (fun _ _ _ h => nilA_len h)))) (oe_one (oe_callC c__law_gains_ok (hr.mono (by decide)) (ae_cons (oe_var 1) (ae_cons (oe_callC c__law_changed (hr.mono (by decide)) (ae_cons (oe_var 0) (ae_cons (oe_var 3) ae_nil)) (consA_len (consA_len (fun _ _ _ h => nilA_len h)))) ae_nil)) (consA_len (consA_len (fun _ _ _ h => nilA_len h)))))))))))⟩
/-! law -/
abbrev s_law : Stmt := topS 41
theorem sc_law : FnScope ["script", "d", "table", "prices", "span", "big", "told", "heights", "orders", "order", "below", "price"] ["script"] (defScope s_law) := ⟨rfl, rfl, rfl, by decide +kernel, rfl, by decide +kernel, by decide +kernel⟩
theorem ok_law {P : Program} {w : World} {K : PySem.W.Frag} {mg : Str → Option Value} {base : Heap} {f : Addr} {fd : FuncData} (Fu : Fun K "law" "law" s_law f fd) (b : Bl mg) (c__law_begin : Callee P w K mg base 1 "_law_begin" 1 m__law_begin) (c__law_heights : Callee P w K mg base 2 "_law_heights" 2 m__law_heights) (c__law_is_ints : Callee P w K mg base 2 "_law_is_ints" 1 m__law_is_ints) (c__law_keeps : Callee P w K mg base 3 "_law_keeps" 2 m__law_keeps) (c__law_order_ok : Callee P w K mg base 6 "_law_order_ok" 3 m__law_order_ok) (c__law_orders : Callee P w K mg base 1 "_law_orders" 1 m__law_orders) (c__law_some_big : Callee P w K mg base 2 "_law_some_big" 2 m__law_some_big) (c__law_some_table : Callee P w K mg base 6 "_law_some_table" 1 m__law_some_table) (c_extended : Callee P w K mg base 2 "extended" 2 m_extended) (c_greedy : Callee P w K mg base 1 "greedy" 2 m_greedy) (c_is_below_heights : Callee P w K mg base 4 "is_below_heights" 2 m_is_below_heights) :
    FnOk P w K mg base CX0 7 f fd ["script"] (spF K m_law 1) := by
  refine fn_ok (k := 6) (io := []) Fu sc_law rfl rfl (fun cdv A outer s H E hr => ?_)
  have hu := room64 hr
  exact ⟨_, by decide, (sse_cons (se_set 1 sc_law.nd (oe_callC c__law_begin (hr.mono (by decide)) (ae_cons (oe_var 0) ae_nil) (consA_len (fun _ _ _ h => nilA_len h))))
    (sse_cons (se_set 2 sc_law.nd (oe_callC c__law_some_table (hr.mono (by decide)) (ae_cons (oe_var 1) ae_nil) (consA_len (fun _ _ _ h => nilA_len h))))
    (sse_cons (se_setComp 3 rfl sc_law.nd (ie_seq (oe_at (oe_var 2) oe_int)) (blkOk_by (own := [("price", 11)]) (by exact rfl)) (fun _ _ _ _ _ => (ge_name (i := 11) sc_law.nd)) (fun _ _ _ _ _ => (if_one (te_isn (oe_var 11) oe_non))) (fun _ _ _ _ _ => (oe_var 11)) (sw_true rfl rfl rfl (by decide +kernel)))
    (sse_cons (se_set 4 sc_law.nd (oe_sub (oe_max rfl (ae_cons (oe_var 3) ae_nil) b.max_) (oe_min rfl (ae_cons (oe_var 3) ae_nil) b.min_)))
    (sse_cons (se_set 5 sc_law.nd (oe_callC c__law_some_big (hr.mono (by decide)) (ae_cons (oe_var 1) (ae_cons (oe_var 4) ae_nil)) (consA_len (consA_len (fun _ _ _ h => nilA_len h)))))
    (sse_cons (se_set 6 sc_law.nd (oe_callC c_extended (hr.mono (by decide)) (ae_cons (oe_at (oe_var 2) oe_int) (ae_cons (oe_var 5) ae_nil)) (consA_len (consA_len (fun _ _ _ h => nilA_len h)))))
    (sse_cons (se_if ((tw_or (te_not (te_tru (oe_isi2 (oe_var 6) b.isinstance_ b.list_ (by decide +kernel) b.tuple_ (by decide +kernel)))) (tw_or1 (te_not (te_tru (oe_callC c__law_is_ints (hr.mono (by decide)) (ae_cons (oe_tuple (ae_cons (oe_var 6) ae_nil) b.tuple_) ae_nil) (consA_len (fun _ _ _ h => nilA_len h)))))))).te (sse_one (se_ret oe_bl)) sse_nil)
    (sse_cons (se_set 7 sc_law.nd (oe_tuple (ae_cons (oe_var 6) ae_nil) b.tuple_))
    (sse_cons (se_if (te_ne hu (oe_list (ae_cons (oe_var 7) ae_nil) b.list_) (oe_callC c__law_heights (hr.mono (by decide)) (ae_cons (oe_at (oe_var 2) oe_int) (ae_cons (oe_var 5) ae_nil)) (consA_len (consA_len (fun _ _ _ h => nilA_len h))))) (sse_one (se_ret oe_bl)) sse_nil)
    (sse_cons (se_set 8 sc_law.nd (oe_callC c__law_orders (hr.mono (by decide)) (ae_cons (oe_at (oe_var 2) oe_int) ae_nil) (consA_len (fun _ _ _ h => nilA_len h))))
    (sse_cons (se_for PassesOwn.never rfl (ie_name 8) (ge_name (i := 9) sc_law.nd) (sse_one (se_if (te_not (te_tru (oe_callC c__law_order_ok (hr.mono (by decide)) (ae_cons (oe_var 1) (ae_cons (oe_var 7) (ae_cons (oe_var 9) ae_nil))) (consA_len (consA_len (consA_len (fun _ _ _ h => nilA_len h))))))) (sse_one (se_ret oe_bl)) sse_nil)))
    (sse_cons (se_set 10 sc_law.nd (oe_all rfl (ae_cons (oe_comp rfl sc_law.nd (ie_name 8) (blkOk_by (own := [("order", 9)]) (by exact rfl)) (fun _ _ _ _ _ => (ge_name (i := 9) sc_law.nd)) (fun _ _ _ _ _ => if_nil) (fun _ _ _ _ _ => (oe_callC c_is_below_heights (hr.mono (by decide)) (ae_cons (oe_var 7) (ae_cons (oe_tuple (ae_cons (oe_callC c_greedy (hr.mono (by decide)) (ae_cons (oe_var 7) (ae_cons (oe_tuple (ae_cons (oe_var 9) ae_nil) b.tuple_) ae_nil)) (consA_len (consA_len (fun _ _ _ h => nilA_len h)))) ae_nil) b.tuple_) ae_nil)) (consA_len (consA_len (fun _ _ _ h => nilA_len h)))))) ae_nil) b.all_))
    (sse_cons (se_if (te_ne hu (oe_var 10) (oe_callC c__law_keeps (hr.mono (by decide)) (ae_cons oe_str (ae_cons (oe_var 7) ae_nil)) (consA_len (consA_len (fun _ _ _ h => nilA_len h))))) (sse_one (se_ret oe_bl)) sse_nil)
    (sse_cons (se_if (te_tru (oe_callC c__law_keeps (hr.mono (by decide)) (ae_cons oe_str (ae_cons (oe_at (oe_var 2) oe_int) ae_nil)) (consA_len (consA_len (fun _ _ _ h => nilA_len h))))) (sse_one (se_ret (oe_var 10))) sse_nil)
    (sse_one (se_ret (oe_or (oe_le (oe_var 5) (oe_mul oe_int (oe_var 4))) (oe_one (oe_not (oe_var 10))))))))))))))))))))⟩
end Ev.W

set_option Elab.async false
set_option linter.all false
set_option maxRecDepth 100000
/-! Ev. M: mirrors are run. -/
set_option autoImplicit false
namespace Ev
open PySem PySem.Spec PyProof.Rows L2

/-- what is asked of a value: as an instance, so that the simplifier leaves it alone -/
class Con (α : Type) where
  p : α → Prop
def OkI {α : Type} (x : Option α) [c : Con α] : Prop := ∃ a, x = some a ∧ c.p a
/-- it gives something, and what it gives is as P says -/
def Ok {α : Type} (x : Option α) (P : α → Prop) : Prop := @OkI α x ⟨P⟩
@[simp ↓] theorem ok_def {α : Type} {x : Option α} {P : α → Prop} : Ok x P = @OkI α x ⟨P⟩ := rfl
@[simp] theorem ok_some {α : Type} {a : α} {P : α → Prop} : @OkI α (some a) ⟨P⟩ = P a := by simp [OkI]
@[simp] theorem ok_none {α : Type} {P : α → Prop} : @OkI α none ⟨P⟩ = False := by simp [OkI]
@[simp] theorem ok_guard {α : Type} {c : Prop} [Decidable c] {x : Option α} {P : α → Prop} : @OkI α (if c then x else none) ⟨P⟩ = (c ∧ Ok x P) := by by_cases h : c <;> simp [OkI, Ok, h]
theorem ok_some' {α : Type} {a : α} {P : α → Prop} : Ok (some a) P = P a := by simp
theorem ok_none' {α : Type} {P : α → Prop} : Ok none P = False := by simp
theorem Ok.imp {α : Type} {x : Option α} {P Q : α → Prop} (h : Ok x P) (w : ∀ a, P a → Q a) : Ok x Q := by obtain ⟨a, e, p⟩ := h; exact ⟨a, e, w a p⟩
theorem Ok.of {α : Type} {x : Option α} {a : α} {P : α → Prop} (h : x = some a) (p : P a) : Ok x P := ⟨a, h, p⟩
theorem Ok.eq {α : Type} {x : Option α} {a : α} (h : Ok x (· = a)) : x = some a := by obtain ⟨b, e, rfl⟩ := h; exact e

@[simp] theorem intsOf_mapf {α : Type} (f : α → Int) : ∀ l : List α, intsOf (l.map fun a => D.int (f a)) = some (l.map f)
  | [] => rfl
  | a :: l => by rw [List.map_cons, intsOf, intsOf_mapf f l]; rfl
@[simp] theorem intsOf_int (l : List Int) : intsOf (l.map D.int) = some l := by have h := intsOf_mapf (fun x => x) l; simpa using h
@[simp] theorem intsOf_nil : intsOf [] = some [] := rfl
@[simp] theorem bolsOf_mapf {α : Type} (f : α → Bool) : ∀ l : List α, bolsOf (l.map fun a => D.bl (f a)) = some (l.map f)
  | [] => rfl
  | a :: l => by rw [List.map_cons, bolsOf, bolsOf_mapf f l]; rfl
theorem toPys_int : ∀ l : List Int, toPys (l.map D.int) = some (l.map PyData.int)
  | [] => by rw [List.map_nil, toPys]; rfl
  | a :: l => by rw [List.map_cons, toPys, toPys_int l]; simp [toPy]
theorem lay_int : ∀ l : List Int, PyData.canLayAll0 (l.map PyData.int) = true
  | [] => by rw [List.map_nil, PyData.canLayAll0]
  | a :: l => by rw [List.map_cons, PyData.canLayAll0, lay_int l]; simp [PyData.canLay0]
theorem dep_int : ∀ l : List Int, PyData.depthAll (l.map PyData.int) = 0
  | [] => by rw [List.map_nil, PyData.depthAll]
  | a :: l => by rw [List.map_cons, PyData.depthAll, dep_int l]; simp [PyData.depth]
theorem eqv_int : ∀ l r : List Int, PyData.eqvAll (l.map PyData.int) (r.map PyData.int) = decide (l = r)
  | [], [] => by simp [PyData.eqvAll]
  | [], _ :: _ => by simp [PyData.eqvAll]
  | _ :: _, [] => by simp [PyData.eqvAll]
  | a :: l, b :: r => by rw [List.map_cons, List.map_cons, PyData.eqvAll, eqv_int l r]; by_cases h : a = b <;> simp [PyData.eqv, h]
theorem eqD_int {a b : Int} : eqD (.int a) (.int b) = some (decide (a = b)) := by
  unfold eqD
  simp only [toPy]
  rw [if_pos ⟨by simp [SeqAt.shaped, PyData.canLay0, PyData.depth], by simp [SeqAt.shaped, PyData.canLay0, PyData.depth]⟩, PyData.eqv]
  by_cases h : a = b <;> simp [h]
theorem eqD_str {a b : Str} (ha : PyData.strOk a = true) (hb : PyData.strOk b = true) : eqD (.str a) (.str b) = some (a == b) := by
  unfold eqD
  simp only [toPy]
  rw [if_pos ⟨by simp [SeqAt.shaped, PyData.canLay0, PyData.depth, ha], by simp [SeqAt.shaped, PyData.canLay0, PyData.depth, hb]⟩, PyData.eqv]
theorem eqD_lst {ds es : List D} {xs ys : List Int} (h : intsOf ds = some xs) (k : intsOf es = some ys) : eqD (.lst ds) (.lst es) = some (decide (xs = ys)) := by
  rw [intsOf_eq h, intsOf_eq k]
  unfold eqD
  simp only [toPy, toPys_int]
  rw [if_pos ⟨by simp [SeqAt.shaped, PyData.canLay0, PyData.depth, lay_int, dep_int], by simp [SeqAt.shaped, PyData.canLay0, PyData.depth, lay_int, dep_int]⟩, PyData.eqv, eqv_int]
theorem eqD_tup {ds es : List D} {xs ys : List Int} (h : intsOf ds = some xs) (k : intsOf es = some ys) : eqD (.tup ds) (.tup es) = some (decide (xs = ys)) := by
  rw [intsOf_eq h, intsOf_eq k]
  unfold eqD
  simp only [toPy, toPys_int]
  rw [if_pos ⟨by simp [SeqAt.shaped, PyData.canLay0, PyData.depth, lay_int, dep_int], by simp [SeqAt.shaped, PyData.canLay0, PyData.depth, lay_int, dep_int]⟩, PyData.eqv, eqv_int]
theorem eqD_bl {a b : Bool} : eqD (.bl a) (.bl b) = some (a == b) := by
  unfold eqD
  simp only [toPy]
  rw [if_pos ⟨by simp [SeqAt.shaped, PyData.canLay0, PyData.depth], by simp [SeqAt.shaped, PyData.canLay0, PyData.depth]⟩, PyData.eqv]
@[simp] theorem eqG_int {a b : Int} : eqG (.int a) (.int b) = some (.val (.bl (decide (a = b)))) := by unfold eqG; rw [eqD_int]
@[simp] theorem neG_int {a b : Int} : neG (.int a) (.int b) = some (.val (.bl (!decide (a = b)))) := by unfold neG; rw [eqD_int]
@[simp] theorem eqG_bl {a b : Bool} : eqG (.bl a) (.bl b) = some (.val (.bl (a == b))) := by unfold eqG; rw [eqD_bl]
@[simp] theorem neG_bl {a b : Bool} : neG (.bl a) (.bl b) = some (.val (.bl (!(a == b)))) := by unfold neG; rw [eqD_bl]
theorem eqG_str {a b : Str} (ha : PyData.strOk a = true) (hb : PyData.strOk b = true) : eqG (.str a) (.str b) = some (.val (.bl (a == b))) := by unfold eqG; rw [eqD_str ha hb]
theorem neG_lst {ds es : List D} {xs ys : List Int} (h : intsOf ds = some xs) (k : intsOf es = some ys) : neG (.lst ds) (.lst es) = some (.val (.bl (!decide (xs = ys)))) := by unfold neG; rw [eqD_lst h k]
theorem neG_tup {ds es : List D} {xs ys : List Int} (h : intsOf ds = some xs) (k : intsOf es = some ys) : neG (.tup ds) (.tup es) = some (.val (.bl (!decide (xs = ys)))) := by unfold neG; rw [eqD_tup h k]
theorem sumG_lst {ds : List D} {xs : List Int} (h : intsOf ds = some xs) : sumG [.lst ds] = some (.val (.int xs.sum)) := by simp [sumG, h, listD]
theorem allG_lst {ds : List D} {xs : List Bool} (h : bolsOf ds = some xs) : allG [.lst ds] = some (.val (.bl (xs.all id))) := by simp [boolsG, h, listD]
theorem minG_lst {ds : List D} {xs : List Int} {k : Int} (h : intsOf ds = some xs) (h2 : minI xs = some k) : minG [.lst ds] = some (.val (.int k)) := by simp [extG, h, h2, listD]
theorem maxG_lst {ds : List D} {xs : List Int} {k : Int} (h : intsOf ds = some xs) (h2 : maxI xs = some k) : maxG [.lst ds] = some (.val (.int k)) := by simp [extG, h, h2, listD]

section
variable {P : Opd × Rho → Prop} {PV : D × Rho → Prop} {PT : Bool × Rho → Prop} {PA : List Opd × Rho → Prop} {PD : List D × Rho → Prop} {PS : Out × Rho → Prop} {PI : List D × Option (Nat × D) × Rho → Prop} {PP : Option Int × Rho → Prop}
variable {ρ : Rho} {m ma mb : EM} {am : AM} {dm : DM} {t u : TM} {s1 s2 : SM} {i j np nl : Nat} {io : List Nat} {g : D → D → Option Opd}

def frzO : Opd → Opd
  | .tmp d => .val d
  | o => o
@[simp] theorem frzO_val (d : D) : frzO (.val d) = .val d := rfl
@[simp] theorem frzO_var : frzO (.var i) = .var i := rfl
@[simp] theorem frzO_tmp (d : D) : frzO (.tmp d) = .val d := rfl
@[simp ↓] theorem ok_frz : @OkI _ (frz m ρ) ⟨P⟩ = Ok (m ρ) fun p => P (frzO p.1, p.2) := by
  unfold frz
  rcases h : m ρ with _ | ⟨o, ρ'⟩
  · simp
  · cases o <;> simp
@[simp ↓] theorem ok_esc : @OkI _ (esc m ρ) ⟨PV⟩ = Ok (m ρ) fun p => Ok (escO p.1 p.2) PV := by
  unfold esc
  rcases h : m ρ with _ | ⟨o, ρ'⟩ <;> simp
@[simp ↓] theorem ok_const {d : D} : @OkI _ (constM d ρ) ⟨P⟩ = P (.val d, ρ) := by simp [constM]
@[simp ↓] theorem ok_bin : @OkI _ (binM g ma mb ρ) ⟨P⟩ = Ok (frz ma ρ) fun p => Ok (frz mb p.2) fun q => Ok (look p.1 q.2) fun d => Ok (look q.1 q.2) fun e => Ok (g d e) fun o => P (o, q.2) := by
  unfold binM
  rcases frz ma ρ with _ | ⟨oa, ρ1⟩
  · simp
  simp only [ok_some']
  rcases frz mb ρ1 with _ | ⟨ob, ρ2⟩
  · simp
  simp only [ok_some']
  rcases look oa ρ2 with _ | d
  · simp
  rcases look ob ρ2 with _ | e
  · simp
  simp only [ok_some']
  rcases g d e with _ | o <;> simp
def bolO : Opd → Option Bool
  | .val (.bl b) => some b
  | _ => none
@[simp] theorem bolO_bl (b : Bool) : bolO (.val (.bl b)) = some b := rfl
@[simp ↓] theorem ok_boolM : @OkI _ (boolM m ρ) ⟨PT⟩ = Ok (m ρ) fun p => Ok (bolO p.1) fun b => PT (b, p.2) := by
  unfold boolM
  rcases m ρ with _ | ⟨o, ρ'⟩
  · simp
  rcases o with d | _ | _
  · cases d <;> simp [bolO]
  · simp [bolO]
  · simp [bolO]
@[simp ↓] theorem ok_truM : @OkI _ (truM m ρ) ⟨PT⟩ = Ok (frz m ρ) fun p => Ok (look p.1 p.2) fun d => Ok (truD d) fun b => PT (b, p.2) := by
  unfold truM
  rcases frz m ρ with _ | ⟨o, ρ'⟩
  · simp
  simp only [ok_some']
  rcases look o ρ' with _ | d
  · simp
  simp only [ok_some']
  rcases truD d with _ | b <;> simp
/-- go on by a truth value -/
def Br (b : Bool) (p q : Prop) : Prop := (b = true → p) ∧ (b = false → q)
@[simp] theorem br_t {p q : Prop} : Br true p q = p := by simp [Br]
@[simp] theorem br_f {p q : Prop} : Br false p q = q := by simp [Br]
theorem br_dec {c : Prop} [Decidable c] {p q : Prop} : Br (decide c) p q = ((c → p) ∧ (¬c → q)) := by simp [Br]
theorem Br.mk {b : Bool} {p q : Prop} (h : b = true → p) (k : b = false → q) : Br b p q := ⟨h, k⟩
@[simp ↓] theorem ok_andM : @OkI _ (andM t u ρ) ⟨PT⟩ = Ok (t ρ) fun p => Br p.1 (Ok (u p.2) PT) (PT (false, p.2)) := by
  unfold andM
  rcases t ρ with _ | ⟨_ | _, ρ'⟩ <;> simp
@[simp ↓] theorem ok_orM : @OkI _ (orM t u ρ) ⟨PT⟩ = Ok (t ρ) fun p => Br p.1 (PT (true, p.2)) (Ok (u p.2) PT) := by
  unfold orM
  rcases t ρ with _ | ⟨_ | _, ρ'⟩ <;> simp
@[simp ↓] theorem ok_notM : @OkI _ (notM t ρ) ⟨PT⟩ = Ok (t ρ) fun p => PT (!p.1, p.2) := by
  unfold notM
  rcases t ρ with _ | ⟨b, ρ'⟩ <;> simp
@[simp ↓] theorem ok_yesM : @OkI _ (yesM ρ) ⟨PT⟩ = PT (true, ρ) := by simp [yesM]
@[simp ↓] theorem ok_ifM : @OkI _ (ifM t ma mb ρ) ⟨P⟩ = Ok (t ρ) fun p => Br p.1 (Ok (ma p.2) P) (Ok (mb p.2) P) := by
  unfold ifM
  rcases t ρ with _ | ⟨_ | _, ρ'⟩ <;> simp
@[simp ↓] theorem ok_andV : @OkI _ (andV ma mb ρ) ⟨P⟩ = Ok (ma ρ) fun p => Ok (bolO p.1) fun b => Br b (Ok (mb p.2) P) (P (.val (.bl false), p.2)) := by
  unfold andV
  rcases ma ρ with _ | ⟨o, ρ'⟩
  · simp
  rcases o with d | _ | _
  · cases d with
    | bl b => cases b <;> simp [bolO]
    | _ => simp [bolO]
  · simp [bolO]
  · simp [bolO]
@[simp ↓] theorem ok_orV : @OkI _ (orV ma mb ρ) ⟨P⟩ = Ok (ma ρ) fun p => Ok (bolO p.1) fun b => Br b (P (.val (.bl true), p.2)) (Ok (mb p.2) P) := by
  unfold orV
  rcases ma ρ with _ | ⟨o, ρ'⟩
  · simp
  rcases o with d | _ | _
  · cases d with
    | bl b => cases b <;> simp [bolO]
    | _ => simp [bolO]
  · simp [bolO]
  · simp [bolO]
@[simp ↓] theorem ok_notV : @OkI _ (notV ma ρ) ⟨P⟩ = Ok (ma ρ) fun p => Ok (bolO p.1) fun b => P (.val (.bl (!b)), p.2) := by
  unfold notV
  rcases ma ρ with _ | ⟨o, ρ'⟩
  · simp
  rcases o with d | _ | _
  · cases d <;> simp [bolO]
  · simp [bolO]
  · simp [bolO]
@[simp ↓] theorem ok_nilA : @OkI _ (nilA ρ) ⟨PA⟩ = PA ([], ρ) := by simp [nilA]
@[simp ↓] theorem ok_consA : @OkI _ (consA m am ρ) ⟨PA⟩ = Ok (frz m ρ) fun p => Ok (am p.2) fun q => PA (p.1 :: q.1, q.2) := by
  unfold consA
  rcases frz m ρ with _ | ⟨o, ρ'⟩
  · simp
  simp only [ok_some']
  rcases am ρ' with _ | ⟨os, ρ2⟩ <;> simp
@[simp ↓] theorem ok_nilD : @OkI _ (nilD ρ) ⟨PD⟩ = PD ([], ρ) := by simp [nilD]
@[simp ↓] theorem ok_consD : @OkI _ (consD m dm ρ) ⟨PD⟩ = Ok (esc m ρ) fun p => Ok (dm p.2) fun q => PD (p.1 :: q.1, q.2) := by
  unfold consD
  rcases esc m ρ with _ | ⟨o, ρ'⟩
  · simp
  simp only [ok_some']
  rcases dm ρ' with _ | ⟨os, ρ2⟩ <;> simp
@[simp ↓] theorem ok_tupM : @OkI _ (tupM dm ρ) ⟨P⟩ = Ok (dm ρ) fun p => p.1.length ≤ sizeLine ∧ P (.val (.tup p.1), p.2) := by
  unfold tupM
  rcases dm ρ with _ | ⟨ds, ρ'⟩
  · simp
  by_cases h : ds.length ≤ sizeLine <;> simp [h]
@[simp ↓] theorem ok_lstM : @OkI _ (lstM dm ρ) ⟨P⟩ = Ok (dm ρ) fun p => p.1.length ≤ sizeLine ∧ P (.tmp (.lst p.1), p.2) := by
  unfold lstM
  rcases dm ρ with _ | ⟨ds, ρ'⟩
  · simp
  by_cases h : ds.length ≤ sizeLine <;> simp [h]
@[simp ↓] theorem ok_biM {f : List D → Option Opd} : @OkI _ (biM f am ρ) ⟨P⟩ = Ok (am ρ) fun p => Ok (looks p.1 p.2) fun ds => Ok (f ds) fun o => P (o, p.2) := by
  unfold biM
  rcases am ρ with _ | ⟨os, ρ'⟩
  · simp
  simp only [ok_some']
  rcases looks os ρ' with _ | ds
  · simp
  simp only [ok_some']
  rcases f ds with _ | o <;> simp
@[simp ↓] theorem ok_isiM {Ts : List String} : @OkI _ (isiM Ts m ρ) ⟨P⟩ = Ok (frz m ρ) fun p => Ok (look p.1 p.2) fun d => Ok (isiAny (tyD d) Ts) fun b => P (.val (.bl b), p.2) := by
  unfold isiM
  rcases frz m ρ with _ | ⟨o, ρ'⟩
  · simp
  simp only [ok_some']
  rcases look o ρ' with _ | d
  · simp
  simp only [ok_some']
  rcases isiAny (tyD d) Ts with _ | b <;> simp
def ownL (i : Nat) (ρ : Rho) : Option (List D) := match ρ[i]? with
  | some (some (.own (.lst ds))) => some ds
  | _ => none
@[simp ↓] theorem ok_methM {f : List D → List D → Option (List D × D)} : @OkI _ (methM i dm f ρ) ⟨P⟩ = Ok (ownL i ρ) fun _ => Ok (dm ρ) fun p => Ok (ownL i p.2) fun ds => Ok (f ds p.1) fun r => P (.val r.2, p.2.set i (some (.own (.lst r.1)))) := by
  unfold methM ownL
  rcases ρ[i]? with _ | _ | sv
  · simp
  · simp
  rcases sv with d | d | d | d
  · simp
  · cases d with
    | lst ds =>
      simp only [ok_some']
      rcases dm ρ with _ | ⟨as, ρ'⟩
      · simp
      simp only [ok_some']
      rcases ρ'[i]? with _ | _ | sv
      · simp
      · simp
      rcases sv with d | d | d | d
      · simp
      · cases d with
        | lst ds2 =>
          simp only [ok_some']
          rcases f ds2 as with _ | r <;> simp
        | _ => simp
      · simp
      · simp
    | _ => simp
  · simp
  · simp
@[simp ↓] theorem ok_noP : @OkI _ (noP ρ) ⟨PP⟩ = PP (none, ρ) := by simp [noP]
def intO : Opd → Option Int
  | .val (.int i) => some i
  | _ => none
@[simp] theorem intO_int (k : Int) : intO (.val (.int k)) = some k := rfl
@[simp ↓] theorem ok_someP : @OkI _ (someP m ρ) ⟨PP⟩ = Ok (m ρ) fun p => Ok (intO p.1) fun k => PP (some k, p.2) := by
  unfold someP
  rcases m ρ with _ | ⟨o, ρ'⟩
  · simp
  rcases o with d | _ | _
  · cases d <;> simp [intO]
  · simp [intO]
  · simp [intO]
@[simp ↓] theorem ok_cutM {lo hi : PM} : @OkI _ (cutM m lo hi ρ) ⟨P⟩ = Ok (frz m ρ) fun p => Ok (lo p.2) fun q => Ok (hi q.2) fun r => Ok (look p.1 r.2) fun d => Ok (cutD d q.1 r.1) fun o => P (o, r.2) := by
  unfold cutM
  rcases frz m ρ with _ | ⟨o, ρ1⟩
  · simp
  simp only [ok_some']
  rcases lo ρ1 with _ | ⟨a, ρ2⟩
  · simp
  simp only [ok_some']
  rcases hi ρ2 with _ | ⟨b, ρ3⟩
  · simp
  simp only [ok_some']
  rcases look o ρ3 with _ | d
  · simp
  simp only [ok_some']
  rcases cutD d a b with _ | r <;> simp
/-! how slots are read -/
def rdO (i : Nat) : SV → Opd
  | .val d => .val d
  | _ => .var i
@[simp] theorem rdO_val {d : D} : rdO i (.val d) = .val d := rfl
@[simp] theorem rdO_own {d : D} : rdO i (.own d) = .var i := rfl
@[simp] theorem rdO_bor {d : D} : rdO i (.bor d) = .var i := rfl
@[simp] theorem rdO_lck {d : D} : rdO i (.lck d) = .var i := rfl
@[simp ↓] theorem ok_varM : @OkI _ (varM i ρ) ⟨P⟩ = Ok ρ[i]? fun s => Ok s fun sv => P (rdO i sv, ρ) := by
  unfold varM
  rcases ρ[i]? with _ | _ | sv
  · simp
  · simp
  cases sv <;> simp
def slotD : Option (Option SV) → Option D
  | some (some sv) => some sv.d
  | _ => none
@[simp] theorem slotD_some {sv : SV} : slotD (some (some sv)) = some sv.d := rfl
@[simp] theorem svd_val {d : D} : (SV.val d).d = d := rfl
@[simp] theorem svd_own {d : D} : (SV.own d).d = d := rfl
@[simp] theorem svd_bor {d : D} : (SV.bor d).d = d := rfl
@[simp] theorem svd_lck {d : D} : (SV.lck d).d = d := rfl
@[simp] theorem svo_val {d : D} : (SV.val d).ob = false := rfl
@[simp] theorem svo_own {d : D} : (SV.own d).ob = true := rfl
@[simp] theorem svo_bor {d : D} : (SV.bor d).ob = true := rfl
@[simp] theorem svo_lck {d : D} : (SV.lck d).ob = true := rfl
@[simp] theorem look_val {d : D} : look (.val d) ρ = some d := rfl
@[simp] theorem look_var : look (.var i) ρ = slotD ρ[i]? := by unfold look slotD; rcases h : ρ[i]? with _ | _ | sv <;> simp [h]
@[simp] theorem looks_nil : looks [] ρ = some [] := rfl
@[simp ↓] theorem looks_cons {o : Opd} {os : List Opd} {PL : List D → Prop} : @OkI _ (looks (o :: os) ρ) ⟨PL⟩ = Ok (look o ρ) fun d => Ok (looks os ρ) fun ds => PL (d :: ds) := by
  rw [looks]
  rcases look o ρ with _ | d
  · simp
  simp only [ok_some']
  rcases looks os ρ with _ | ds <;> simp
def escV (i : Nat) (ρ : Rho) : SV → Option (D × Rho)
  | .own d => some (d, ρ.set i (some (.val d)))
  | .val d => some (d, ρ)
  | _ => none
@[simp] theorem escV_own {d : D} : escV i ρ (.own d) = some (d, ρ.set i (some (.val d))) := rfl
@[simp] theorem escV_val {d : D} : escV i ρ (.val d) = some (d, ρ) := rfl
@[simp] theorem escO_val {d : D} : escO (.val d) ρ = some (d, ρ) := rfl
@[simp] theorem escO_tmp {d : D} : escO (.tmp d) ρ = some (d, ρ) := rfl
@[simp ↓] theorem escO_var : @OkI _ (escO (.var i) ρ) ⟨PV⟩ = Ok ρ[i]? fun s => Ok s fun sv => Ok (escV i ρ sv) PV := by
  unfold escO escV
  rcases h : ρ[i]? with _ | _ | sv
  · simp [h]
  · simp [h]
  cases sv <;> simp [h]
@[simp] theorem truD_non : truD .non = some false := rfl
@[simp] theorem truD_bl {b : Bool} : truD (.bl b) = some b := rfl
@[simp] theorem truD_int {k : Int} : truD (.int k) = some (k != 0) := rfl
@[simp] theorem truD_tup {xs : List D} : truD (.tup xs) = some (!xs.isEmpty) := rfl
@[simp] theorem truD_lst {xs : List D} : truD (.lst xs) = some (!xs.isEmpty) := rfl
@[simp] theorem intG_int {c : Int → Int → Bool} {f : Int → Int → Int} {k l : Int} : intG c f (.int k) (.int l) = if c k l then some (.val (.int (f k l))) else none := rfl
@[simp] theorem intB_int {f : Int → Int → Bool} {k l : Int} : intB f (.int k) (.int l) = some (.val (.bl (f k l))) := rfl
@[simp] theorem yes_eq {k l : Int} : yes k l = true := rfl
@[simp] theorem addG_int {k l : Int} : addG (.int k) (.int l) = some (.val (.int (k + l))) := rfl
@[simp] theorem iaddG_int {k l : Int} : iaddG (.int k) (.int l) = some (.val (.int (k + l))) := rfl
@[simp] theorem addG_lst {k l : List D} : addG (.lst k) (.lst l) = if k.length + l.length ≤ sizeLine then some (.tmp (.lst (k ++ l))) else none := rfl
@[simp] theorem mulG_int {k l : Int} : mulG (.int k) (.int l) = if mulOk k l then some (.val (.int (k * l))) else none := rfl
def RepOk (n : Nat) (k : Int) : Prop := -(2 ^ 63) ≤ k ∧ k < 2 ^ 63 ∧ n * k.toNat ≤ sizeLine
@[simp ↓] theorem mulG_lst {xs : List D} {k : Int} {PO : Opd → Prop} : @OkI _ (mulG (.lst xs) (.int k)) ⟨PO⟩ = (RepOk xs.length k ∧ PO (.tmp (.lst (List.replicate k.toNat xs).flatten))) := by
  unfold mulG RepOk
  by_cases h : -(2 ^ 63) ≤ k ∧ k < 2 ^ 63 ∧ xs.length * k.toNat ≤ sizeLine
  · dsimp only; rw [if_pos h, ok_some]; exact propext ⟨fun p => ⟨h, p⟩, fun p => p.2⟩
  · dsimp only; rw [if_neg h, ok_none]; exact propext ⟨fun p => p.elim, fun p => h p.1⟩
theorem repOk_small {n : Nat} {k : Int} (h0 : 0 ≤ k) (h1 : k < 1000) (h2 : n < 1000) : RepOk n k := ⟨by omega, by omega, by
  have : n * k.toNat ≤ 1000 * 1000 := Nat.mul_le_mul (by omega) (by omega)
  unfold sizeLine; omega⟩
@[simp] theorem isG_non {d : D} : isG d .non = some (.val (.bl (isNonD d))) := rfl
@[simp] theorem isnG_non {d : D} : isnG d .non = some (.val (.bl (!isNonD d))) := rfl
@[simp] theorem isNonD_non : isNonD .non = true := rfl
@[simp] theorem isNonD_int {k : Int} : isNonD (.int k) = false := rfl
@[simp ↓] theorem atD_tup {xs : List D} {k : Int} {PO : Opd → Prop} : @OkI _ (atD (.tup xs) (.int k)) ⟨PO⟩ = Ok (ixN xs.length k) fun j => Ok xs[j]? fun d => PO (.val d) := by
  unfold atD atI
  rcases h0 : ixN xs.length k with _ | j
  · simp [h0]
  rcases h : xs[j]? with _ | d <;> simp [h, h0]
@[simp ↓] theorem atD_lst {xs : List D} {k : Int} {PO : Opd → Prop} : @OkI _ (atD (.lst xs) (.int k)) ⟨PO⟩ = Ok (ixN xs.length k) fun j => Ok xs[j]? fun d => PO (.val d) := by
  unfold atD atI
  rcases h0 : ixN xs.length k with _ | j
  · simp [h0]
  rcases h : xs[j]? with _ | d <;> simp [h, h0]
@[simp] theorem ixN_zero {n : Nat} : ixN n 0 = if 0 < n then some 0 else none := by
  unfold ixN; rw [if_pos (by omega)]; by_cases h : 0 < n
  · rw [if_pos h, if_pos (by omega)]; rfl
  · rw [if_neg h, if_neg (by omega)]
@[simp] theorem ixN_one {n : Nat} : ixN n 1 = if 1 < n then some 1 else none := by
  unfold ixN; rw [if_pos (by omega)]; by_cases h : 1 < n
  · rw [if_pos h, if_pos (by omega)]; rfl
  · rw [if_neg h, if_neg (by omega)]
@[simp] theorem ixN_nat {n k : Nat} : ixN n (k : Int) = if k < n then some k else none := by
  unfold ixN; rw [if_pos (by omega)]; by_cases h : k < n
  · rw [if_pos h, if_pos (by omega), Int.toNat_natCast]
  · rw [if_neg h, if_neg (by omega)]
@[simp] theorem ixN_two {n : Nat} : ixN n 2 = if 2 < n then some 2 else none := ixN_nat (k := 2)
@[simp] theorem ixN_three {n : Nat} : ixN n 3 = if 3 < n then some 3 else none := ixN_nat (k := 3)
theorem ixN_pos {n : Nat} {k : Int} (h0 : 0 ≤ k) (h1 : k < n) : ixN n k = some k.toNat := by unfold ixN; rw [if_pos h0, if_pos h1]
@[simp] theorem seqD_lst {xs : List D} : seqD (.lst xs) = some xs := rfl
@[simp] theorem seqD_tup {xs : List D} : seqD (.tup xs) = some xs := rfl
@[simp] theorem seqD_rol {xs : List D} : seqD (.rol xs) = some xs := rfl
@[simp] theorem listD_lst {xs : List D} : listD (.lst xs) = some xs := rfl
@[simp] theorem itemsD_lst {xs : List D} : itemsD (.lst xs) = some xs := rfl
@[simp] theorem itemsD_tup {xs : List D} : itemsD (.tup xs) = some xs := rfl
@[simp] theorem itemsD_rol {xs : List D} : itemsD (.rol xs) = some xs := rfl
@[simp] theorem lenG_lst {xs : List D} : lenG [.lst xs] = some (.val (.int xs.length)) := rfl
@[simp] theorem lenG_tup {xs : List D} : lenG [.tup xs] = some (.val (.int xs.length)) := rfl
@[simp] theorem intFG_int {k : Int} : intFG [.int k] = some (.val (.int k)) := rfl
@[simp] theorem intFG_bl {b : Bool} : intFG [.bl b] = some (.val (.int (if b then 1 else 0))) := rfl
@[simp] theorem absG_int {k : Int} : absG [.int k] = some (.val (.int (if k < 0 then -k else k))) := rfl
@[simp] theorem listG_lst {xs : List D} : listG [.lst xs] = some (.tmp (.lst xs)) := rfl
@[simp] theorem listG_tup {xs : List D} : listG [.tup xs] = some (.tmp (.lst xs)) := rfl
@[simp] theorem tupleG_lst {xs : List D} : tupleG [.lst xs] = some (.val (.tup xs)) := rfl
@[simp] theorem tupleG_tup {xs : List D} : tupleG [.tup xs] = some (.val (.tup xs)) := rfl
@[simp] theorem appendG_one {ds : List D} {d : D} : appendG ds [d] = if ds.length < sizeLine then some (ds ++ [d], .non) else none := rfl
def itI (j : Nat) (ρ : Rho) : SV → Option (List D × Option (Nat × D) × Rho)
  | .val d => match itemsD d with
    | some ds => some (ds, none, ρ)
    | none => none
  | .own d => match seqD d with
    | some ds => some (ds, some (j, d), ρ.set j (some (.lck d)))
    | none => none
  | .bor d => match seqD d with
    | some ds => some (ds, none, ρ)
    | none => none
  | .lck d => match seqD d with
    | some ds => some (ds, none, ρ)
    | none => none
@[simp] theorem itI_lck {xs : List D} : itI j ρ (.lck (.lst xs)) = some (xs, none, ρ) := rfl
@[simp] theorem itI_tup {xs : List D} : itI j ρ (.val (.tup xs)) = some (xs, none, ρ) := rfl
@[simp] theorem itI_lstv {xs : List D} : itI j ρ (.val (.lst xs)) = some (xs, none, ρ) := rfl
@[simp] theorem itI_rol {xs : List D} : itI j ρ (.val (.rol xs)) = some (xs, none, ρ) := rfl
@[simp] theorem itI_own {xs : List D} : itI j ρ (.own (.lst xs)) = some (xs, some (j, .lst xs), ρ.set j (some (.lck (.lst xs)))) := rfl
@[simp] theorem itI_bor {xs : List D} : itI j ρ (.bor (.lst xs)) = some (xs, none, ρ) := rfl
@[simp] theorem unlock_none : unlock none ρ = some ρ := rfl
def unlV (j : Nat) (d : D) (ρ : Rho) : SV → Option Rho
  | .lck _ => some (ρ.set j (some (.own d)))
  | _ => none
@[simp] theorem unlV_lck {d e : D} : unlV j d ρ (.lck e) = some (ρ.set j (some (.own d))) := rfl
@[simp ↓] theorem unlock_some {d : D} {PR : Rho → Prop} : @OkI _ (unlock (some (j, d)) ρ) ⟨PR⟩ = Ok ρ[j]? fun s => Ok s fun sv => Ok (unlV j d ρ sv) PR := by
  unfold unlock unlV
  rcases h : ρ[j]? with _ | _ | sv
  · simp [h]
  · simp [h]
  cases sv <;> simp [h]
def retV (np : Nat) (io : List Nat) (i : Nat) (ρ : Rho) : SV → Option (Opd × Rho)
  | .own d => if np ≤ i then some (.tmp d, keepIO io ρ np) else some (.val d, keepIO io (ρ.set i (some (.val d))) np)
  | .val d => some (.val d, keepIO io ρ np)
  | _ => none
@[simp] theorem retV_own {d : D} : retV np io i ρ (.own d) = if np ≤ i then some (.tmp d, keepIO io ρ np) else some (.val d, keepIO io (ρ.set i (some (.val d))) np) := rfl
@[simp] theorem retV_val {d : D} : retV np io i ρ (.val d) = some (.val d, keepIO io ρ np) := rfl
@[simp] theorem retF_val {d : D} : retF np io (.val d) ρ = some (.val d, keepIO io ρ np) := rfl
@[simp] theorem retF_tmp {d : D} : retF np io (.tmp d) ρ = some (.tmp d, keepIO io ρ np) := rfl
@[simp ↓] theorem retF_var : @OkI _ (retF np io (.var i) ρ) ⟨P⟩ = Ok ρ[i]? fun s => Ok s fun sv => Ok (retV np io i ρ sv) P := by
  unfold retF retV
  rcases h : ρ[i]? with _ | _ | sv
  · simp [h]
  · simp [h]
  cases sv <;> simp [h]
@[simp] theorem argsAll_nil {k : Nat} : argsAll io ρ k [] = some [] := rfl
@[simp ↓] theorem argsAll_cons {k : Nat} {o : Opd} {os : List Opd} {PL : List SV → Prop} : @OkI _ (argsAll io ρ k (o :: os)) ⟨PL⟩ = Ok (argOne (decide (k ∈ io)) o ρ) fun s => Ok (argsAll io ρ (k + 1) os) fun ss => PL (s :: ss) := by
  rw [argsAll]
  rcases argOne (decide (k ∈ io)) o ρ with _ | s
  · simp
  simp only [ok_some']
  rcases argsAll io ρ (k + 1) os with _ | ss <;> simp
@[simp] theorem argOne_val {b : Bool} {d : D} : argOne b (.val d) ρ = if b then none else some (.val d) := rfl
def argV (b : Bool) : SV → Option SV
  | .val d => if b then none else some (.val d)
  | .own d => if b then some (.own d) else some (.bor d)
  | .bor d => if b then none else some (.bor d)
  | .lck d => if b then none else some (.bor d)
@[simp] theorem argV_own {b : Bool} {d : D} : argV b (.own d) = if b then some (.own d) else some (.bor d) := rfl
@[simp] theorem argV_bor {b : Bool} {d : D} : argV b (.bor d) = if b then none else some (.bor d) := rfl
@[simp] theorem argV_lck {b : Bool} {d : D} : argV b (.lck d) = if b then none else some (.bor d) := rfl
@[simp] theorem argV_val {b : Bool} {d : D} : argV b (.val d) = if b then none else some (.val d) := rfl
@[simp ↓] theorem argOne_var {b : Bool} {PV : SV → Prop} : @OkI _ (argOne b (.var i) ρ) ⟨PV⟩ = Ok ρ[i]? fun s => Ok s fun sv => Ok (argV b sv) PV := by
  unfold argOne argV
  rcases h : ρ[i]? with _ | _ | sv
  · simp [h]
  · simp [h]
  cases sv <;> simp [h]
@[simp] theorem putBack_nil {post : Rho} {k : Nat} : putBack io post k [] ρ = some ρ := rfl
def putO (o : Opd) (s : Option (Option SV)) (ρ : Rho) : Option Rho := match o, s with
  | .var i, some (some (.own d)) => some (ρ.set i (some (.own d)))
  | .var i, some (some (.val d)) => some (ρ.set i (some (.val d)))
  | _, _ => none
@[simp] theorem putO_own {d : D} : putO (.var i) (some (some (.own d))) ρ = some (ρ.set i (some (.own d))) := rfl
@[simp] theorem putO_val {d : D} : putO (.var i) (some (some (.val d))) ρ = some (ρ.set i (some (.val d))) := rfl
@[simp ↓] theorem putBack_cons {post : Rho} {k : Nat} {o : Opd} {os : List Opd} {PR : Rho → Prop} : @OkI _ (putBack io post k (o :: os) ρ) ⟨PR⟩ = Br (decide (k ∈ io)) (Ok (putO o post[k]? ρ) fun ρ' => Ok (putBack io post (k + 1) os ρ') PR) (Ok (putBack io post (k + 1) os ρ) PR) := by
  conv => lhs; unfold putBack
  by_cases h : k ∈ io
  · simp only [h, if_true, decide_true, br_t]
    unfold putO
    cases o with
    | var i =>
      rcases h2 : post[k]? with _ | _ | sv
      · simp [h2]
      · simp [h2]
      cases sv <;> simp [h2]
    | _ => simp
  · simp [h]
def anyL (i : Nat) (ρ : Rho) : Option Unit := match ρ[i]? with
  | some (some _) => some ()
  | _ => none
def valL (i : Nat) (ρ : Rho) : Option D := match ρ[i]? with
  | some (some (.val d)) => some d
  | _ => none
def ownV : SV → Option (List D)
  | .own (.lst ds) => some ds
  | _ => none
@[simp] theorem ownV_own {ds : List D} : ownV (.own (.lst ds)) = some ds := rfl
@[simp ↓] theorem ok_ownL {PO : List D → Prop} : @OkI _ (ownL i ρ) ⟨PO⟩ = Ok ρ[i]? fun s => Ok s fun sv => Ok (ownV sv) PO := by
  unfold ownL ownV
  rcases h : ρ[i]? with _ | _ | sv
  · simp [h]
  · simp [h]
  cases sv with
  | own d => simp only [h, ok_some']; cases d <;> rfl
  | _ => simp [h]
def anyV (_ : SV) : Option Unit := some ()
@[simp] theorem anyV_eq {sv : SV} : anyV sv = some () := rfl
@[simp ↓] theorem ok_anyL {PO : Unit → Prop} : @OkI _ (anyL i ρ) ⟨PO⟩ = Ok ρ[i]? fun s => Ok s fun sv => PO () := by
  unfold anyL
  rcases h : ρ[i]? with _ | _ | sv <;> simp [h]
def valV : SV → Option D
  | .val d => some d
  | _ => none
@[simp] theorem valV_val {d : D} : valV (.val d) = some d := rfl
@[simp ↓] theorem ok_valL {PO : D → Prop} : @OkI _ (valL i ρ) ⟨PO⟩ = Ok ρ[i]? fun s => Ok s fun sv => Ok (valV sv) PO := by
  unfold valL valV
  rcases h : ρ[i]? with _ | _ | sv
  · simp [h]
  · simp [h]
  cases sv <;> simp [h]
/-! statements -/
@[simp ↓] theorem ok_nextM : @OkI _ (nextM ρ) ⟨PS⟩ = PS (.nx, ρ) := by simp [nextM]
@[simp ↓] theorem ok_breakM : @OkI _ (breakM ρ) ⟨PS⟩ = PS (.bk, ρ) := by simp [breakM]
@[simp ↓] theorem ok_contM : @OkI _ (contM ρ) ⟨PS⟩ = PS (.ct, ρ) := by simp [contM]
def seqK (s2 : SM) (PS : Out × Rho → Prop) : Out × Rho → Prop
  | (.nx, ρ) => Ok (s2 ρ) PS
  | p => PS p
@[simp ↓] theorem seqK_nx : seqK s2 PS (.nx, ρ) = Ok (s2 ρ) PS := rfl
@[simp ↓] theorem seqK_rt {o : Opd} : seqK s2 PS (.rt o, ρ) = PS (.rt o, ρ) := rfl
@[simp ↓] theorem seqK_bk : seqK s2 PS (.bk, ρ) = PS (.bk, ρ) := rfl
@[simp ↓] theorem seqK_ct : seqK s2 PS (.ct, ρ) = PS (.ct, ρ) := rfl
@[simp ↓] theorem ok_seqM : @OkI _ (seqM s1 s2 ρ) ⟨PS⟩ = Ok (s1 ρ) (seqK s2 PS) := by
  unfold seqM
  rcases s1 ρ with _ | ⟨o, ρ'⟩
  · simp
  cases o <;> simp [seqK]
@[simp ↓] theorem ok_exprM : @OkI _ (exprM m ρ) ⟨PS⟩ = Ok (m ρ) fun p => PS (.nx, p.2) := by
  unfold exprM
  rcases m ρ with _ | ⟨o, ρ'⟩ <;> simp
@[simp ↓] theorem ok_retM : @OkI _ (retM m ρ) ⟨PS⟩ = Ok (m ρ) fun p => PS (.rt p.1, p.2) := by
  unfold retM
  rcases m ρ with _ | ⟨o, ρ'⟩ <;> simp
@[simp ↓] theorem ok_ifS : @OkI _ (ifS t s1 s2 ρ) ⟨PS⟩ = Ok (t ρ) fun p => Br p.1 (Ok (s1 p.2) PS) (Ok (s2 p.2) PS) := by
  unfold ifS
  rcases t ρ with _ | ⟨_ | _, ρ'⟩ <;> simp
def setO (i : Nat) (o : Opd) (ρ : Rho) : Option Rho := match o with
  | .tmp d => some (ρ.set i (some (.own d)))
  | .val d => some (ρ.set i (some (.val d)))
  | .var j => match escO (.var j) ρ with
    | some (d, ρ2) => some (ρ2.set i (some (.val d)))
    | none => none
@[simp] theorem setO_tmp {d : D} : setO i (.tmp d) ρ = some (ρ.set i (some (.own d))) := rfl
@[simp] theorem setO_val {d : D} : setO i (.val d) ρ = some (ρ.set i (some (.val d))) := rfl
@[simp ↓] theorem ok_setM : @OkI _ (setM i m ρ) ⟨PS⟩ = Ok (m ρ) fun p => Ok (setO i p.1 p.2) fun ρ2 => PS (.nx, ρ2) := by
  unfold setM
  rcases m ρ with _ | ⟨o, ρ'⟩
  · simp
  cases o with
  | tmp d => simp [setO]
  | val d => simp [setO, escO]
  | var j =>
    simp only [ok_some', setO]
    rcases escO (.var j) ρ' with _ | ⟨d, ρ2⟩ <;> simp
@[simp ↓] theorem ok_asgM {gg : D → Rho → Option Rho} : @OkI _ (asgM gg m ρ) ⟨PS⟩ = Ok (esc m ρ) fun p => Ok (gg p.1 p.2) fun ρ2 => PS (.nx, ρ2) := by
  unfold asgM
  rcases esc m ρ with _ | ⟨d, ρ'⟩
  · simp
  simp only [ok_some']
  rcases gg d ρ' with _ | ρ2 <;> simp
def valO : Opd → Option D
  | .val d => some d
  | _ => none
@[simp] theorem valO_val (d : D) : valO (.val d) = some d := rfl
@[simp ↓] theorem ok_augM : @OkI _ (augM i g m ρ) ⟨PS⟩ = Ok (valL i ρ) fun d => Ok (frz m ρ) fun p => Ok (look p.1 p.2) fun e => Ok (g d e) fun o => Ok (valO o) fun r => PS (.nx, p.2.set i (some (.val r))) := by
  unfold augM valL
  rcases ρ[i]? with _ | _ | sv
  · simp
  · simp
  rcases sv with d | d | d | d
  · simp only [ok_some']
    rcases frz m ρ with _ | ⟨o, ρ1⟩
    · simp
    simp only [ok_some']
    rcases look o ρ1 with _ | e
    · simp
    simp only [ok_some']
    rcases g d e with _ | o
    · simp
    cases o <;> simp [valO]
  · simp
  · simp
  · simp
@[simp ↓] theorem ok_putM {mi : EM} : @OkI _ (putM i mi m ρ) ⟨PS⟩ = Ok (esc m ρ) fun p => Ok (anyL i p.2) fun _ => Ok (frz mi p.2) fun q => Ok (intO q.1) fun k => Ok (ownL i q.2) fun ds => Ok (ixN ds.length k) fun j => PS (.nx, q.2.set i (some (.own (.lst (ds.set j p.1))))) := by
  unfold putM anyL
  rcases esc m ρ with _ | ⟨d, ρ1⟩
  · simp
  simp only [ok_some']
  rcases ρ1[i]? with _ | _ | sv
  · simp
  · simp
  simp only [ok_some']
  rcases frz mi ρ1 with _ | ⟨o, ρ2⟩
  · simp
  rcases o with e | e | e
  · cases e with
    | int k =>
      simp only [ok_some', intO]
      unfold ownL
      rcases ρ2[i]? with _ | _ | sv
      · simp
      · simp
      rcases sv with d' | d' | d' | d'
      · simp
      · cases d' with
        | lst ds =>
          simp only [ok_some']
          rcases ixN ds.length k with _ | j <;> simp
        | _ => simp
      · simp
      · simp
    | _ => simp [intO]
  · simp [intO]
  · simp [intO]
@[simp ↓] theorem ok_augAtM {mi : EM} : @OkI _ (augAtM i mi g m ρ) ⟨PS⟩ = Ok (anyL i ρ) fun _ => Ok (frz mi ρ) fun p => Ok (intO p.1) fun k => Ok (ownL i p.2) fun ds => 0 ≤ k ∧ Ok ds[k.toNat]? fun old => Ok (frz m p.2) fun q => Ok (look q.1 q.2) fun e => Ok (g old e) fun o => Ok (valO o) fun r =>
    Ok (ownL i q.2) fun ds2 => k.toNat < ds2.length ∧ PS (.nx, q.2.set i (some (.own (.lst (ds2.set k.toNat r))))) := by
  unfold augAtM anyL
  rcases ρ[i]? with _ | _ | sv
  · simp
  · simp
  simp only [ok_some']
  rcases frz mi ρ with _ | ⟨o, ρ2⟩
  · simp
  rcases o with e | e | e
  · cases e with
    | int k =>
      simp only [ok_some', intO]
      unfold ownL
      rcases ρ2[i]? with _ | _ | sv
      · simp
      · simp
      rcases sv with d' | d' | d' | d'
      · simp
      · cases d' with
        | lst ds =>
          simp only [ok_some']
          by_cases hk : 0 ≤ k
          · simp only [hk, if_true, true_and]
            rcases ds[k.toNat]? with _ | old
            · simp
            simp only [ok_some']
            rcases frz m ρ2 with _ | ⟨o, ρ3⟩
            · simp
            simp only [ok_some']
            rcases look o ρ3 with _ | e
            · simp
            simp only [ok_some']
            rcases g old e with _ | o
            · simp
            cases o with
            | val r =>
              simp only [ok_some', valO]
              rcases ρ3[i]? with _ | _ | sv
              · simp
              · simp
              rcases sv with d' | d' | d' | d'
              · simp
              · cases d' with
                | lst ds2 =>
                  simp only [ok_some']
                  by_cases hl : k.toNat < ds2.length <;> simp [hl]
                | _ => simp
              · simp
              · simp
            | _ => simp [valO]
          · simp [hk]
        | _ => simp
      · simp
      · simp
    | _ => simp [intO]
  · simp [intO]
  · simp [intO]
def forE (lk : Option (Nat × D)) (PS : Out × Rho → Prop) : Out × Rho → Prop := fun q => Ok (unlock lk q.2) fun ρ3 => PS (q.1, ρ3)
@[simp ↓] theorem forE_app {lk : Option (Nat × D)} {q : Out × Rho} : forE lk PS q = Ok (unlock lk q.2) fun ρ3 => PS (q.1, ρ3) := rfl
@[simp ↓] theorem ok_forM {it : IM} {gg : D → Rho → Option Rho} : @OkI _ (forM it gg s1 ρ) ⟨PS⟩ = Ok (it ρ) fun p => Ok (forL gg s1 p.1 p.2.2) (forE p.2.1 PS) := by
  unfold forM
  rcases it ρ with _ | ⟨ds, lk, ρ1⟩
  · simp
  simp only [ok_some']
  rcases forL gg s1 ds ρ1 with _ | ⟨out, ρ2⟩
  · simp
  simp only [ok_some']
  rw [forE]
  rcases unlock lk ρ2 with _ | ρ3 <;> simp
@[simp ↓] theorem ok_compM {vs : List Nat} {it : IM} {gg : D → Rho → Option Rho} {el : VM} : @OkI _ (compM vs it gg t el ρ) ⟨P⟩ = Ok (it ρ) fun p => bare p.2.2 vs = true ∧ Ok (compL vs gg t el p.1 [] (wipeR p.2.2 vs)) fun q => Ok (unlock p.2.1 (backR p.2.2 q.2 vs)) fun ρ3 => P (.tmp (.lst q.1), ρ3) := by
  unfold compM
  rcases it ρ with _ | ⟨ds, lk, ρ1⟩
  · simp
  simp only [ok_some']
  by_cases hb : bare ρ1 vs = true
  · simp only [hb, if_true, true_and]
    rcases compL vs gg t el ds [] (wipeR ρ1 vs) with _ | ⟨acc, ρ2⟩
    · simp
    simp only [ok_some']
    rcases unlock lk (backR ρ1 ρ2 vs) with _ | ρ3 <;> simp
  · simp only [hb]; rw [if_neg (by decide), ok_none]; exact propext ⟨False.elim, fun h => nomatch h.1⟩
def int1 : List D → Option Int
  | [.int k] => some k
  | _ => none
def int2 : List D → Option (Int × Int)
  | [.int k, .int l] => some (k, l)
  | _ => none
@[simp] theorem int1_int (k : Int) : int1 [.int k] = some k := rfl
@[simp] theorem int2_int (k l : Int) : int2 [.int k, .int l] = some (k, l) := rfl
@[simp ↓] theorem ok_rng1 : @OkI _ (rng1 dm ρ) ⟨PI⟩ = Ok (dm ρ) fun p => Ok (int1 p.1) fun k => inR k = true ∧ PI (rangeD 0 k.toNat, none, p.2) := by
  unfold rng1
  rcases dm ρ with _ | ⟨ds, ρ'⟩
  · simp
  rcases ds with _ | ⟨d, _ | ⟨e, r⟩⟩
  · simp [int1]
  · cases d with
    | int k => by_cases h : inR k = true <;> simp [h]
    | _ => simp [int1]
  · cases d <;> simp [int1]
@[simp ↓] theorem ok_nameI : @OkI _ (nameI j ρ) ⟨PI⟩ = Ok ρ[j]? fun s => Ok s fun sv => Ok (itI j ρ sv) PI := by
  unfold nameI itI
  rcases h : ρ[j]? with _ | _ | sv
  · simp [h]
  · simp [h]
  cases sv with
  | val d => simp only [h, ok_some']; cases itemsD d <;> rfl
  | own d => simp only [h, ok_some']; cases seqD d <;> rfl
  | bor d => simp only [h, ok_some']; cases seqD d <;> rfl
  | lck d => simp only [h, ok_some']; cases seqD d <;> rfl
@[simp ↓] theorem ok_rng2 : @OkI _ (rng2 dm ρ) ⟨PI⟩ = Ok (dm ρ) fun p => Ok (int2 p.1) fun k => (inR k.1 && inR k.2) = true ∧ PI (rangeD k.1 (k.2 - k.1).toNat, none, p.2) := by
  unfold rng2
  rcases dm ρ with _ | ⟨ds, ρ'⟩
  · simp
  rcases ds with _ | ⟨d, _ | ⟨e, _ | ⟨f, r⟩⟩⟩
  · simp [int2]
  · cases d <;> simp [int2]
  · cases d with
    | int k => cases e with
      | int l => by_cases h1 : inR k = true <;> by_cases h2 : inR l = true <;> simp [h1, h2]
      | _ => simp [int2]
    | _ => cases e <;> simp [int2]
  · cases d <;> cases e <;> simp [int2]
@[simp ↓] theorem ok_seqI0 : @OkI _ (seqI0 m ρ) ⟨PI⟩ = Ok (frz m ρ) fun p => Ok (valO p.1) fun d => Ok (itemsD d) fun ds => PI (ds, none, p.2) := by
  unfold seqI0
  rcases frz m ρ with _ | ⟨o, ρ'⟩
  · simp
  cases o with
  | val d =>
    simp only [ok_some', valO]
    rcases itemsD d with _ | ds <;> simp
  | _ => simp [valO]
def endF (np : Nat) (io : List Nat) : Out × Rho → Option (Opd × Rho)
  | (.rt o, ρ) => retF np io o ρ
  | (.nx, ρ) => some (.val .non, keepIO io ρ np)
  | _ => none
@[simp] theorem endF_rt {o : Opd} : endF np io (.rt o, ρ) = retF np io o ρ := rfl
@[simp] theorem endF_nx : endF np io (.nx, ρ) = some (.val .non, keepIO io ρ np) := rfl
def endK (np : Nat) (io : List Nat) (P : Opd × Rho → Prop) : Out × Rho → Prop := fun p => Ok (endF np io p) P
@[simp ↓] theorem endK_rt {o : Opd} : endK np io P (.rt o, ρ) = Ok (retF np io o ρ) P := rfl
@[simp ↓] theorem endK_nx : endK np io P (.nx, ρ) = P (.val .non, keepIO io ρ np) := by simp [endK]
theorem ok_fnM {args : List SV} : Ok (fnM np nl io s1 args) P = Ok (s1 (args.map some ++ List.replicate nl none)) (endK np io P) := by
  unfold fnM endK
  rcases s1 (args.map some ++ List.replicate nl none) with _ | ⟨o, ρ'⟩
  · simp
  cases o <;> simp [endF]
@[simp ↓] theorem ok_callM {fn : Fn} : @OkI _ (callM fn io am ρ) ⟨P⟩ = Ok (am ρ) fun p => exclOk io p.1 = true ∧ Ok (argsAll io p.2 0 p.1) fun svs => Ok (fn svs) fun q => Ok (putBack io q.2 0 p.1 p.2) fun ρ2 => (∀ i, q.1 ≠ .var i) ∧ P (q.1, ρ2) := by
  unfold callM
  rcases am ρ with _ | ⟨os, ρ1⟩
  · simp
  simp only [ok_some']
  by_cases hx : exclOk io os = true
  · simp only [hx, if_true, true_and]
    rcases argsAll io ρ1 0 os with _ | svs
    · simp
    simp only [ok_some']
    rcases fn svs with _ | ⟨o, post⟩
    · simp
    cases o with
    | val d =>
      simp only [ok_some']
      rcases putBack io post 0 os ρ1 with _ | ρ2 <;> simp
    | tmp d =>
      simp only [ok_some']
      rcases putBack io post 0 os ρ1 with _ | ρ2 <;> simp
    | var i =>
      simp only [ok_some']
      rcases putBack io post 0 os ρ1 with _ | ρ2 <;> simp
  · simp only [hx]; rw [if_neg (by decide), ok_none]; exact propext ⟨False.elim, fun h => nomatch h.1⟩
/-! loops -/
theorem forL_nil {gg : D → Rho → Option Rho} : Ok (forL gg s1 [] ρ) PS = PS (.nx, ρ) := by simp [forL]
def forK (gg : D → Rho → Option Rho) (s : SM) (ds : List D) (PS : Out × Rho → Prop) : Out × Rho → Prop
  | (.nx, ρ) => Ok (forL gg s ds ρ) PS
  | (.ct, ρ) => Ok (forL gg s ds ρ) PS
  | (.bk, ρ) => PS (.nx, ρ)
  | (.rt o, ρ) => PS (.rt o, ρ)
@[simp ↓] theorem forK_nx {gg : D → Rho → Option Rho} {ds : List D} : forK gg s1 ds PS (.nx, ρ) = Ok (forL gg s1 ds ρ) PS := rfl
@[simp ↓] theorem forK_ct {gg : D → Rho → Option Rho} {ds : List D} : forK gg s1 ds PS (.ct, ρ) = Ok (forL gg s1 ds ρ) PS := rfl
@[simp ↓] theorem forK_bk {gg : D → Rho → Option Rho} {ds : List D} : forK gg s1 ds PS (.bk, ρ) = PS (.nx, ρ) := rfl
@[simp ↓] theorem forK_rt {gg : D → Rho → Option Rho} {ds : List D} {o : Opd} : forK gg s1 ds PS (.rt o, ρ) = PS (.rt o, ρ) := rfl
theorem forL_cons {gg : D → Rho → Option Rho} {d : D} {ds : List D} : Ok (forL gg s1 (d :: ds) ρ) PS = Ok (gg d ρ) fun ρ1 => Ok (s1 ρ1) (forK gg s1 ds PS) := by
  rw [forL]
  rcases gg d ρ with _ | ρ1
  · simp
  simp only [ok_some']
  rcases s1 ρ1 with _ | ⟨o, ρ2⟩
  · simp
  cases o <;> simp [forK]
@[simp] theorem ex2 {α β : Sort _} {x : α} {y : β} {p : α → β → Prop} : (∃ a b, (x = a ∧ y = b) ∧ p a b) ↔ p x y := ⟨fun ⟨_, _, ⟨rfl, rfl⟩, h⟩ => h, fun h => ⟨_, _, ⟨rfl, rfl⟩, h⟩⟩
@[simp] theorem ex3 {α β γ : Sort _} {x : α} {y : β} {z : γ} {p : α → β → γ → Prop} : (∃ a b c, (x = a ∧ y = b ∧ z = c) ∧ p a b c) ↔ p x y z := ⟨fun ⟨_, _, _, ⟨rfl, rfl, rfl⟩, h⟩ => h, fun h => ⟨_, _, _, ⟨rfl, rfl, rfl⟩, h⟩⟩
@[simp] theorem ex4 {α β γ δ : Sort _} {x : α} {y : β} {z : γ} {u : δ} {p : α → β → γ → δ → Prop} : (∃ a b c d, (x = a ∧ y = b ∧ z = c ∧ u = d) ∧ p a b c d) ↔ p x y z u := ⟨fun ⟨_, _, _, _, ⟨rfl, rfl, rfl, rfl⟩, h⟩ => h, fun h => ⟨_, _, _, _, ⟨rfl, rfl, rfl, rfl⟩, h⟩⟩
theorem forL_nilI {gg : D → Rho → Option Rho} : @OkI _ (forL gg s1 [] ρ) ⟨PS⟩ = PS (.nx, ρ) := forL_nil
theorem forL_consI {gg : D → Rho → Option Rho} {d : D} {ds : List D} : @OkI _ (forL gg s1 (d :: ds) ρ) ⟨PS⟩ = Ok (gg d ρ) fun ρ1 => Ok (s1 ρ1) (forK gg s1 ds PS) := forL_cons
/-- over a list: I k ρ holds ahead of turn k -/
theorem forL_inv {gg : D → Rho → Option Rho} (I : Nat → Rho → Prop) : ∀ (ds : List D) (k : Nat) (ρ : Rho), I k ρ →
    (∀ k' d ρ, ds[k' - k]? = some d → k ≤ k' → I k' ρ → Ok (gg d ρ) fun ρ1 => Ok (s1 ρ1) fun p => (p.1 = .nx ∨ p.1 = .ct) ∧ I (k' + 1) p.2 ∨ (p.1 = .bk ∧ PS (.nx, p.2)) ∨ ((∃ o, p.1 = .rt o) ∧ PS p)) →
    (∀ ρ, I (k + ds.length) ρ → PS (.nx, ρ)) → Ok (forL gg s1 ds ρ) PS
  | [], k, ρ, h, _, w => by rw [forL_nil]; exact w _ h
  | d :: ds, k, ρ, h, st, w => by
    rw [forL_cons]
    refine (st k d ρ (by simp) (Nat.le_refl k) h).imp fun ρ1 h1 => h1.imp fun p hp => ?_
    obtain ⟨out, ρ2⟩ := p
    have more : I (k + 1) ρ2 → Ok (forL gg s1 ds ρ2) PS := fun h2 => forL_inv I ds (k + 1) ρ2 h2
      (fun k' d' ρ' e le => st k' d' ρ' (by rw [show k' - k = (k' - (k + 1)) + 1 by omega, List.getElem?_cons_succ]; exact e) (by omega))
      (fun ρ' hi => w ρ' (by rw [List.length_cons]; rw [show k + (ds.length + 1) = k + 1 + ds.length by omega]; exact hi))
    rcases hp with ⟨h2, h3⟩ | ⟨h2, h3⟩ | ⟨⟨o, h2⟩, h3⟩
    · rcases h2 with h2 | h2 <;> (dsimp at h2; subst h2; exact more h3)
    · dsimp at h2; subst h2; exact h3
    · dsimp at h2; subst h2; exact h3
theorem for_inv {gg : D → Rho → Option Rho} (I : Nat → Rho → Prop) {ds : List D} {ρ : Rho} (h : I 0 ρ)
    (st : ∀ k d ρ, ds[k]? = some d → k < ds.length → I k ρ → Ok (gg d ρ) fun ρ1 => Ok (s1 ρ1) fun p => (p.1 = .nx ∨ p.1 = .ct) ∧ I (k + 1) p.2 ∨ (p.1 = .bk ∧ PS (.nx, p.2)) ∨ ((∃ o, p.1 = .rt o) ∧ PS p))
    (w : ∀ ρ, I ds.length ρ → PS (.nx, ρ)) : Ok (forL gg s1 ds ρ) PS :=
  forL_inv I ds 0 ρ h (fun k d ρ e _ hi => st k d ρ e (by have := (List.getElem?_eq_some_iff.1 e).1; omega) hi) (fun ρ hi => w ρ (by rwa [Nat.zero_add] at hi))
/-- .. no break, no return -/
theorem for_nx {gg : D → Rho → Option Rho} (I : Nat → Rho → Prop) {ds : List D} {ρ : Rho} (h : I 0 ρ)
    (st : ∀ k d ρ, ds[k]? = some d → k < ds.length → I k ρ → Ok (gg d ρ) fun ρ1 => Ok (s1 ρ1) fun p => p.1 = .nx ∧ I (k + 1) p.2)
    (w : ∀ ρ, I ds.length ρ → PS (.nx, ρ)) : Ok (forL gg s1 ds ρ) PS :=
  for_inv I h (fun k d ρ e hk hi => (st k d ρ e hk hi).imp fun ρ1 h1 => h1.imp fun p hp => .inl ⟨.inl hp.1, hp.2⟩) w
theorem whileL_inv (I : Rho → Prop) (f : Rho → Nat) : ∀ (n : Nat) (ρ : Rho), f ρ < n → I ρ →
    (∀ ρ, I ρ → Ok (t ρ) fun p => Br p.1 (Ok (s1 p.2) fun q => ((q.1 = .nx ∨ q.1 = .ct) ∧ I q.2 ∧ f q.2 < f ρ) ∨ (q.1 = .bk ∧ PS (.nx, q.2)) ∨ ((∃ o, q.1 = .rt o) ∧ PS q)) (PS (.nx, p.2))) → Ok (whileL t s1 n ρ) PS
  | 0, ρ, hf, _, _ => by omega
  | n + 1, ρ, hf, h, st => by
    have hs := st ρ h
    rw [whileL]
    rcases e : t ρ with _ | ⟨_ | _, ρ1⟩
    · rw [e] at hs; simp at hs
    · rw [e] at hs; simpa using hs
    · rw [e] at hs
      simp only [ok_some', br_t] at hs
      obtain ⟨⟨out, ρ2⟩, e2, hq⟩ := hs
      simp only [e2]
      rcases hq with ⟨h2, h3, h4⟩ | ⟨h2, h3⟩ | ⟨⟨o, h2⟩, h3⟩
      · rcases h2 with h2 | h2 <;> (dsimp at h2 h4; subst h2; exact whileL_inv I f n ρ2 (by omega) h3 st)
      · dsimp at h2; subst h2; simpa using h3
      · dsimp at h2; subst h2; simpa using h3
/-- a comprehension whose parts change nothing -/
theorem compL_pure {α : Type} {vs : List Nat} {gg : D → Rho → Option Rho} {el : VM} (φ : α → D) (c : α → Bool) (f : α → D) : ∀ (l : List α) (acc : List D) (ρ : Rho),
    (∀ a ∈ l, Ok (gg (φ a) ρ) fun ρ1 => Ok (t ρ1) fun p => p.1 = c a ∧ Br (c a) (Ok (el p.2) fun q => q.1 = f a ∧ wipeR q.2 vs = ρ) (wipeR p.2 vs = ρ)) →
    acc.length + l.length ≤ sizeLine → compL vs gg t el (l.map φ) acc ρ = some (acc ++ (l.filter c).map f, ρ)
  | [], acc, ρ, _, _ => by simp [compL]
  | a :: l, acc, ρ, h, hl => by
    obtain ⟨ρ1, e1, ⟨b, ρ2⟩, e2, rfl, h3⟩ := h a (by simp)
    rw [List.length_cons] at hl
    have ih := fun acc' hl' => compL_pure φ c f l acc' ρ (fun a ha => h a (List.mem_cons_of_mem _ ha)) hl'
    rw [List.map_cons, compL]
    simp only [e1, e2]
    cases hc : c a with
    | false =>
      rw [hc, br_f] at h3
      simp only [h3, hc, List.filter_cons]
      rw [ih acc (by omega)]
      simp
    | true =>
      rw [hc, br_t] at h3
      obtain ⟨⟨y, ρ3⟩, e3, e4, e5⟩ := h3
      dsimp at e4 e5; subst e4
      simp only [e3, e5, List.filter_cons, hc]
      rw [if_pos (by omega), ih _ (by rw [List.length_append, List.length_singleton]; omega)]
      simp
/-- .. each value as Q says -/
theorem compL_all {vs : List Nat} {gg : D → Rho → Option Rho} {el : VM} (Q : D → Prop) {PC : List D × Rho → Prop} : ∀ (ds acc : List D) (ρ : Rho),
    (∀ d ∈ ds, Ok (gg d ρ) fun ρ1 => Ok (el ρ1) fun q => Q q.1 ∧ wipeR q.2 vs = ρ) → acc.length + ds.length ≤ sizeLine →
    (∀ acc', acc'.length = acc.length + ds.length → (∀ d ∈ acc', d ∈ acc ∨ Q d) → PC (acc', ρ)) → Ok (compL vs gg yesM el ds acc ρ) PC
  | [], acc, ρ, _, _, w => by rw [compL, ok_some']; exact w acc (by simp) fun d h => .inl h
  | d :: ds, acc, ρ, h, hl, w => by
    obtain ⟨ρ1, e1, ⟨y, ρ3⟩, e3, h4, h5⟩ := h d (by simp)
    dsimp at h4 h5
    rw [List.length_cons] at hl
    rw [compL]
    simp only [e1, yesM, e3, h5]
    rw [if_pos (by omega)]
    refine compL_all Q ds (acc ++ [y]) ρ (fun a ha => h a (List.mem_cons_of_mem _ ha)) (by rw [List.length_append, List.length_singleton]; omega) fun acc' a1 a2 => w acc' (by rw [a1, List.length_append, List.length_singleton, List.length_cons]; omega) fun d hd => ?_
    rcases a2 d hd with h | h
    · rcases List.mem_append.1 h with h | h
      · exact .inl h
      · rw [List.mem_singleton.1 h]; exact .inr h4
    · exact .inr h
theorem rangeD_get {n k : Nat} {d : D} (e : (rangeD 0 n)[k]? = some d) : d = .int k ∧ k < n := by
  unfold rangeD at e
  rw [List.getElem?_map] at e
  have h := List.getElem?_eq_some_iff.1 (show (List.range n)[k]? = some k from by
    rcases hk : (List.range n)[k]? with _ | j
    · rw [hk] at e; cases e
    · have := List.getElem?_eq_some_iff.1 hk
      obtain ⟨h1, h2⟩ := this
      rw [List.getElem_range] at h2
      rw [h2])
  rw [show (List.range n)[k]? = some k from List.getElem?_eq_some_iff.2 h] at e
  simp at e
  exact ⟨e.symm, by simpa using h.1⟩
@[simp] theorem rangeD_len {n : Nat} {lo : Int} : (rangeD lo n).length = n := by simp [rangeD]
theorem rangeD_mem {n : Nat} {d : D} (h : d ∈ rangeD 0 n) : ∃ k : Nat, d = .int k ∧ k < n := by
  obtain ⟨k, hk⟩ := List.mem_iff_getElem?.1 h
  exact ⟨k, rangeD_get hk⟩
theorem ok_comp {α : Type} {vs : List Nat} {gg : D → Rho → Option Rho} {el : VM} {φ : α → D} {l : List α} {acc : List D} (c : α → Bool) (f : α → D) {PC : List D × Rho → Prop}
    (h : ∀ a ∈ l, Ok (gg (φ a) ρ) fun ρ1 => Ok (t ρ1) fun p => p.1 = c a ∧ Br (c a) (Ok (el p.2) fun q => q.1 = f a ∧ wipeR q.2 vs = ρ) (wipeR p.2 vs = ρ)) (hl : acc.length + l.length ≤ sizeLine)
    (w : PC (acc ++ (l.filter c).map f, ρ)) : Ok (compL vs gg t el (l.map φ) acc ρ) PC := by
  rw [compL_pure φ c f l acc ρ h hl, ok_some']; exact w
theorem ok_comps {α : Type} {vs : List Nat} {gg : D → Rho → Option Rho} {el : VM} {φ : α → D} {l : List α} {acc : List D} (f : α → D) {PC : List D × Rho → Prop}
    (h : ∀ a ∈ l, Ok (gg (φ a) ρ) fun ρ1 => Ok (el ρ1) fun q => q.1 = f a ∧ wipeR q.2 vs = ρ) (hl : acc.length + l.length ≤ sizeLine)
    (w : PC (acc ++ l.map f, ρ)) : Ok (compL vs gg yesM el (l.map φ) acc ρ) PC := by
  refine ok_comp (fun _ => true) f (fun a ha => ?_) hl ?_
  · refine (h a ha).imp fun ρ1 h1 => ?_
    simpa using h1
  · rw [List.filter_eq_self.2 (fun _ _ => rfl)]; exact w
def zip2 : List D → Option (List D)
  | [a, b] => match listD a, listD b with
    | some xs, some ys => some (zipD xs ys)
    | _, _ => match a, b with
      | .tup xs, .tup ys => some (zipD xs ys)
      | _, _ => none
  | _ => none
@[simp] theorem zip2_tup {xs ys : List D} : zip2 [.tup xs, .tup ys] = some (zipD xs ys) := rfl
@[simp] theorem zip2_lst {xs ys : List D} : zip2 [.lst xs, .lst ys] = some (zipD xs ys) := rfl
@[simp ↓] theorem ok_zipI : @OkI _ (zipI dm ρ) ⟨PI⟩ = Ok (dm ρ) fun p => Ok (zip2 p.1) fun ds => PI (ds, none, p.2) := by
  unfold zipI zip2
  rcases dm ρ with _ | ⟨ds, ρ'⟩
  · simp
  rcases ds with _ | ⟨a, _ | ⟨b, _ | ⟨c, r⟩⟩⟩
  · simp
  · simp
  · simp only [ok_some']
    rcases listD a with _ | xs
    · rcases listD b with _ | ys
      · cases a <;> cases b <;> simp
      · cases a <;> cases b <;> simp
    · rcases listD b with _ | ys
      · cases a <;> cases b <;> simp
      · simp
  · simp
@[simp] theorem tupG_tup {n : Nat} {gs : List D → Rho → Option Rho} {ds : List D} : tupG n gs (.tup ds) ρ = if ds.length = n then gs ds ρ else none := rfl
@[simp ↓] theorem consG_cons {gg : D → Rho → Option Rho} {gs : List D → Rho → Option Rho} {d : D} {ds : List D} {PR : Rho → Prop} : @OkI _ (consG gg gs (d :: ds) ρ) ⟨PR⟩ = Ok (gg d ρ) fun ρ' => Ok (gs ds ρ') PR := by
  unfold consG
  rcases h : gg d ρ with _ | ρ' <;> simp [h]
@[simp] theorem nilG_nil : nilG [] ρ = some ρ := rfl
@[simp] theorem isBG_bl {a b : Bool} : isBG false (.bl a) (.bl b) = some (.val (.bl (decide (a = b)))) := rfl
def slN (i : Nat) (ρ : Rho) : Nat := match ρ[i]? with
  | some (some (.val (.int y))) => y.toNat
  | _ => 0
end
@[simp] theorem sz_le {n : Nat} (h : n ≤ 1000) : n ≤ sizeLine := Nat.le_trans h (by decide)
@[simp] theorem sz_lt {n : Nat} (h : n ≤ 1000) : n < sizeLine := Nat.lt_of_le_of_lt h (by decide)
@[simp] theorem mulOk_r {k l : Int} (h0 : 0 ≤ l) (h1 : l < 1152921504606846976) : mulOk k l = true := by unfold mulOk; rw [Bool.or_eq_true, Bool.or_eq_true]; exact .inl (.inr (decide_eq_true (by omega)))
@[simp] theorem mulOk_l {k l : Int} (h0 : 0 ≤ k) (h1 : k < 1152921504606846976) : mulOk k l = true := by unfold mulOk; rw [Bool.or_eq_true, Bool.or_eq_true]; exact .inl (.inl (decide_eq_true (by omega)))
end Ev

set_option Elab.async false
set_option linter.all false
set_option maxRecDepth 100000
set_option autoImplicit false
namespace Ev.W
open PySem PySem.Spec PyProof.Rows L2 Ev

structure GD (s : D) : Prop where
  ex : ∃ (cells : List Int) (pos : Nat) (carry seed : Int), s = .lst [.lst (cells.map D.int), .int pos, .int carry, .int seed] ∧ cells.length ≤ 63 ∧ 0 ≤ carry ∧ 0 ≤ seed

theorem log_small {k : Int} (h1 : 1 ≤ k) (h2 : k < 1152921504606846976) : k.natAbs.log2 < 9000 := by
  have h : k.natAbs < 2 ^ 9000 := by
    have : k.natAbs < 2 ^ 60 := by omega
    exact Nat.lt_of_lt_of_le this (Nat.pow_le_pow_right (by decide) (by decide))
  exact (Nat.log2_lt (by omega)).2 h
theorem draw_ok {s : D} {k : Int} {P : Opd × Rho → Prop} (h : GD s) (h1 : 1 ≤ k) (h2 : k < 1152921504606846976) (w : ∀ r s', 0 ≤ r → r < k → GD s' → P (.val (.int r), [some (.own s'), none])) : Ok (m__law_draw [.own s, .val (.int k)]) P := by
  obtain ⟨cells, pos, carry, seed, rfl, hl, hc, hs⟩ := h
  have hk := log_small h1 h2
  have h0 : 0 < k := by omega
  have hm : ∀ x : Int, 0 ≤ x % k ∧ x % k < k := fun x => ⟨Int.emod_nonneg _ (by omega), Int.emod_lt_of_pos _ h0⟩
  have hd : ∀ x : Int, 0 ≤ x → 0 ≤ x / k := fun x h => Int.ediv_nonneg h (by omega)
  have hp6 : (0 : Int) < 2 ^ 6000 := Int.pow_pos (by decide)
  have hpos : ((pos : Int) + 1) = ((pos + 1 : Nat) : Int) := by omega
  rw [m__law_draw, ok_fnM]
  by_cases hlt : pos < cells.length
  · have hc1 : cells[pos]? = some cells[pos] := List.getElem?_eq_getElem hlt
    simp [ixN, hlt, hk, h0]
    generalize cells[pos] = c
    refine ⟨fun _ => w _ _ (hm _).1 (hm _).2 ⟨cells, pos, _, _, rfl, hl, hd _ hc, hs⟩, fun _ => ⟨fun hb => ⟨by decide, hp6, ?_⟩, fun _ => ⟨by decide, ?_⟩⟩⟩
    · exact w _ _ (hm _).1 (hm _).2 ⟨cells, pos + 1, _, _, by rw [hpos], hl, hd _ (Int.emod_nonneg _ (by omega)), hs⟩
    · exact w _ _ (hm _).1 (hm _).2 ⟨cells, pos + 1, _, _, by rw [hpos], hl, hc, Int.emod_nonneg _ (by decide)⟩
  · simp [ixN, hlt, hk, h0]
    refine ⟨fun _ => w _ _ (hm _).1 (hm _).2 ⟨cells, pos, _, _, rfl, hl, hd _ hc, hs⟩, fun _ => ⟨by decide, ?_⟩⟩
    exact w _ _ (hm _).1 (hm _).2 ⟨cells, pos + 1, _, _, by rw [hpos], hl, hc, Int.emod_nonneg _ (by decide)⟩

def dR (s : D) (k : Int) : Int := match m__law_draw [.own s, .val (.int k)] with
  | some (.val (.int r), _) => r
  | _ => 0
def dS (s : D) (k : Int) : D := match m__law_draw [.own s, .val (.int k)] with
  | some (_, [some (.own s'), none]) => s'
  | _ => s
theorem draw_all {s : D} {k : Int} (h : GD s) (h1 : 1 ≤ k) (h2 : k < 1152921504606846976) : m__law_draw [.own s, .val (.int k)] = some (.val (.int (dR s k)), [some (.own (dS s k)), none]) ∧ 0 ≤ dR s k ∧ dR s k < k ∧ GD (dS s k) := by
  obtain ⟨a, e, r, s', h3, h4, h5, h6⟩ := draw_ok (P := fun a => ∃ r s', 0 ≤ r ∧ r < k ∧ GD s' ∧ a = (.val (.int r), [some (.own s'), none])) h h1 h2 fun r s' h3 h4 h5 => ⟨r, s', h3, h4, h5, rfl⟩
  subst h6
  have e1 : dR s k = r := by unfold dR; rw [e]
  have e2 : dS s k = s' := by unfold dS; rw [e]
  rw [e1, e2]
  exact ⟨e, h3, h4, h5⟩
@[simp] theorem draw_eq {s : D} {k : Int} (h : GD s) (h1 : 1 ≤ k) (h2 : k < 1152921504606846976) : m__law_draw [.own s, .val (.int k)] = some (.val (.int (dR s k)), [some (.own (dS s k)), none]) := (draw_all h h1 h2).1
@[simp] theorem dR_lo {s : D} {k : Int} (h : GD s) (h1 : 1 ≤ k) (h2 : k < 1152921504606846976) : 0 ≤ dR s k := (draw_all h h1 h2).2.1
theorem dR_hi {s : D} {k : Int} (h : GD s) (h1 : 1 ≤ k) (h2 : k < 1152921504606846976) : dR s k < k := (draw_all h h1 h2).2.2.1
@[simp] theorem dS_gd {s : D} {k : Int} (h : GD s) (h1 : 1 ≤ k) (h2 : k < 1152921504606846976) : GD (dS s k) := (draw_all h h1 h2).2.2.2

theorem rare_ok {s : D} {k : Int} {P : Opd × Rho → Prop} (h : GD s) (h1 : 1 ≤ k) (h2 : k < 1152921504606846976) (w : ∀ b s', GD s' → P (.val (.bl b), [some (.own s'), none])) : Ok (m__law_rare [.own s, .val (.int k)]) P := by
  rw [m__law_rare, ok_fnM]
  simp [h, h1, h2]
  exact ⟨by decide, w _ _ (by simp only [dS_gd h h1 h2])⟩
def rR (s : D) (k : Int) : Bool := match m__law_rare [.own s, .val (.int k)] with
  | some (.val (.bl r), _) => r
  | _ => false
def rS (s : D) (k : Int) : D := match m__law_rare [.own s, .val (.int k)] with
  | some (_, [some (.own s'), none]) => s'
  | _ => s
theorem rare_all {s : D} {k : Int} (h : GD s) (h1 : 1 ≤ k) (h2 : k < 1152921504606846976) : m__law_rare [.own s, .val (.int k)] = some (.val (.bl (rR s k)), [some (.own (rS s k)), none]) ∧ GD (rS s k) := by
  obtain ⟨a, e, r, s', h5, h6⟩ := rare_ok (P := fun a => ∃ r s', GD s' ∧ a = (.val (.bl r), [some (.own s'), none])) h h1 h2 fun r s' h5 => ⟨r, s', h5, rfl⟩
  subst h6
  have e1 : rR s k = r := by unfold rR; rw [e]
  have e2 : rS s k = s' := by unfold rS; rw [e]
  rw [e1, e2]
  exact ⟨e, h5⟩
@[simp] theorem rare_eq {s : D} {k : Int} (h : GD s) (h1 : 1 ≤ k) (h2 : k < 1152921504606846976) : m__law_rare [.own s, .val (.int k)] = some (.val (.bl (rR s k)), [some (.own (rS s k)), none]) := (rare_all h h1 h2).1
@[simp] theorem rS_gd {s : D} {k : Int} (h : GD s) (h1 : 1 ≤ k) (h2 : k < 1152921504606846976) : GD (rS s k) := (rare_all h h1 h2).2
theorem cost_ok {s : D} {P : Opd × Rho → Prop} (h : GD s) (w : ∀ r s', GD s' → P (.val (.int r), [some (.own s')])) : Ok (m__law_cost [.own s]) P := by
  rw [m__law_cost, ok_fnM]
  simp [h]
  exact ⟨fun _ => w _ _ (by simp [h]), fun _ => w _ _ (by simp [h])⟩
def cR (s : D) : Int := match m__law_cost [.own s] with
  | some (.val (.int r), _) => r
  | _ => 0
def cS (s : D) : D := match m__law_cost [.own s] with
  | some (_, [some (.own s')]) => s'
  | _ => s
theorem cost_all {s : D} (h : GD s) : m__law_cost [.own s] = some (.val (.int (cR s)), [some (.own (cS s))]) ∧ GD (cS s) := by
  obtain ⟨a, e, r, s', h5, h6⟩ := cost_ok (P := fun a => ∃ r s', GD s' ∧ a = (.val (.int r), [some (.own s')])) h fun r s' h5 => ⟨r, s', h5, rfl⟩
  subst h6
  have e1 : cR s = r := by unfold cR; rw [e]
  have e2 : cS s = s' := by unfold cS; rw [e]
  rw [e1, e2]
  exact ⟨e, h5⟩
@[simp] theorem cost_eq {s : D} (h : GD s) : m__law_cost [.own s] = some (.val (.int (cR s)), [some (.own (cS s))]) := (cost_all h).1
@[simp] theorem cS_gd {s : D} (h : GD s) : GD (cS s) := (cost_all h).2

def OI (d : D) : Prop := d = .non ∨ ∃ k, d = .int k
@[simp] theorem OI_non : OI .non := .inl rfl
@[simp] theorem OI_int {k : Int} : OI (.int k) := .inr ⟨k, rfl⟩
theorem take_mem {α : Type} {ps : List α} {k : Nat} {d : α} (e : ps[k]? = some d) (x : α) : x ∈ ps.take (k + 1) ↔ x ∈ ps.take k ∨ x = d := by
  rw [List.take_add_one, e]; simp
theorem low_ok {ps : List D} {P : Opd × Rho → Prop} (h : ∀ d ∈ ps, OI d) (w : ∀ v, OI v → (v = .non ↔ ∀ d ∈ ps, d = .non) → P (.val v, [none])) : Ok (m__law_low [.bor (.lst ps)]) P := by
  rw [m__law_low, ok_fnM]
  simp
  refine for_inv (fun k ρ => ∃ b x, ρ = [some (.bor (.lst ps)), some (.val b), x] ∧ OI b ∧ (b = .non ↔ ∀ d ∈ ps.take k, d = .non)) ⟨.non, none, rfl, .inl rfl, by simp⟩ ?_ ?_
  · rintro k d ρ e hk ⟨b, x, rfl, hb, hn⟩
    have hd := h d (List.mem_of_getElem? e)
    have ht := take_mem e
    rcases hd with rfl | ⟨i, rfl⟩ <;> rcases hb with rfl | ⟨j, rfl⟩ <;> simp [ht, Br] at hn ⊢
    · rintro d (h | h)
      · exact hn d h
      · exact h
    · exact hn
  · rintro ρ ⟨b, x, rfl, hb, hn⟩
    simp
    exact w b hb (by simpa using hn)
theorem opened_ok {s : D} {ps : List D} {P : Opd × Rho → Prop} (g : GD s) (h : ∀ d ∈ ps, OI d) (h1 : 1 ≤ ps.length) (h2 : (ps.length : Int) < 1152921504606846976)
    (w : ∀ ps' s', ps'.length = ps.length → (∀ d ∈ ps', OI d) → (∃ k, D.int k ∈ ps') → GD s' → P (.val (.lst ps'), [some (.own s'), some (.val (.lst ps'))])) : Ok (m__law_opened [.own s, .own (.lst ps)]) P := by
  have h3 : (1 : Int) ≤ ps.length := by omega
  rw [m__law_opened, ok_fnM]
  simp
  refine low_ok h fun v hv hn => ?_
  simp [g, h2, h3]
  have a1 := dR_lo (k := ps.length) (cS_gd g) h3 h2
  have a2 := dR_hi (k := ps.length) (cS_gd g) h3 h2
  rw [ixN_pos a1 a2]
  simp
  rcases hv with rfl | ⟨j, rfl⟩
  · simp
    refine w _ _ (by simp) (fun d hd => ?_) ?_ (by simp [g, h2, h3])
    · rcases List.mem_or_eq_of_mem_set hd with hd | rfl
      · exact h d hd
      · simp
    · exact ⟨_, List.mem_set (by omega) ..⟩
  · simp at hn
    obtain ⟨x, hx, hx2⟩ := hn
    simp
    refine w _ _ rfl h ?_ g
    rcases h x hx with rfl | ⟨i, rfl⟩
    · exact absurd rfl hx2
    · exact ⟨i, hx⟩
theorem loose_ok {s : D} {n : Nat} {b : Int} {P : Opd × Rho → Prop} (g : GD s) (hn : n ≤ 4)
    (w : ∀ ps s', ps.length = 2 ^ n → (∀ d ∈ ps, OI d) → (∃ k, D.int k ∈ ps) → GD s' → P (.val (.tup [.int n, .tup ps]), [some (.own s'), none, none])) : Ok (m__law_loose [.own s, .val (.int n), .val (.int b)]) P := by
  rw [m__law_loose, ok_fnM]
  simp
  have hin : inR (2 ^ n) = true := by
    have : n = 0 ∨ n = 1 ∨ n = 2 ∨ n = 3 ∨ n = 4 := by omega
    rcases this with rfl | rfl | rfl | rfl | rfl <;> decide
  have hN : 1 ≤ 2 ^ n ∧ 2 ^ n ≤ 16 := by
    have : n = 0 ∨ n = 1 ∨ n = 2 ∨ n = 3 ∨ n = 4 := by omega
    rcases this with rfl | rfl | rfl | rfl | rfl <;> decide
  have hT : ((2 : Int) ^ n).toNat = 2 ^ n := by
    rw [show (2 : Int) ^ n = ((2 ^ n : Nat) : Int) by simp, Int.toNat_natCast]
  refine ⟨by omega, hin, ?_⟩
  refine for_inv (fun k ρ => ∃ s ps x y, ρ = [some (.own s), some (.val (.int n)), some (.val (.int b)), some (.own (.lst ps)), x, y] ∧ ps.length = k ∧ (∀ d ∈ ps, OI d) ∧ GD s) ⟨s, [], none, none, rfl, rfl, by simp, g⟩ ?_ ?_
  · rintro k d ρ e hk ⟨s, ps, x, y, rfl, hl, ho, g⟩
    simp [hT, rangeD] at hk
    have : ps.length ≤ 1000 := by omega
    simp [g, this]
    refine ⟨fun _ => ⟨by simp [hl], fun d hd => ?_⟩, fun _ => ⟨by simp [hl], fun d hd => ?_⟩⟩
    · rcases hd with hd | rfl
      · exact ho d hd
      · simp
    · rcases hd with hd | rfl
      · exact ho d hd
      · simp
  · rintro ρ ⟨s, ps, x, y, rfl, hl, ho, g⟩
    simp [hT, rangeD] at hl
    simp
    refine opened_ok g ho (by omega) (by omega) fun ps' s' h1 h2 h3 h4 => ?_
    simp
    exact w _ _ (by omega) h2 h3 h4
@[simp] theorem dR_le {s : D} {k : Int} (h : GD s) (h1 : 1 ≤ k) (h2 : k ≤ 1000000) : dR s k ≤ 1000000 := by have := dR_hi h h1 (by omega); omega
theorem inR_small {k : Int} (h0 : 0 ≤ k) (h1 : k < 1152921504606846976) : inR k = true := by
  unfold inR; rw [Bool.and_eq_true, decide_eq_true_iff, decide_eq_true_iff]; omega
@[simp] theorem inR_dR {s : D} {k : Int} (h : GD s) (h1 : 1 ≤ k) (h2 : k < 1152921504606846976) : inR (dR s k) = true := inR_small (dR_lo h h1 h2) (by have := dR_hi h h1 h2; omega)
def AI (ps : List D) : Prop := ∀ d ∈ ps, ∃ k, d = .int k
theorem AI.get {ps : List D} {k : Nat} (h : AI ps) (hk : k < ps.length) : ∃ i, ps[k] = .int i := by
  obtain ⟨i, hi⟩ := h ps[k] (List.getElem_mem hk)
  exact ⟨i, hi⟩
theorem AI.set {ps : List D} {k : Nat} {i : Int} (h : AI ps) : AI (ps.set k (.int i)) := fun d hd => by
  rcases List.mem_or_eq_of_mem_set hd with hd | rfl
  · exact h d hd
  · exact ⟨i, rfl⟩
theorem AI.oi {ps : List D} (h : AI ps) : ∀ d ∈ ps, OI d := fun d hd => .inr (h d hd)
@[simp] theorem dR_lt {s : D} {k : Int} (h : GD s) (h1 : 1 ≤ k) (h2 : k < 1152921504606846976) : dR s k < 1152921504606846976 := by have := dR_hi h h1 (by omega); omega
theorem band_nat (a b : Nat) : Builtin.bitAnd (a : Int) (b : Int) = ((a &&& b : Nat) : Int) := by unfold Builtin.bitAnd; simp
theorem shr_nat (a b : Nat) : (a : Int) / 2 ^ b = ((a / 2 ^ b : Nat) : Int) := by simp
theorem bit_cases (a b : Nat) : Builtin.bitAnd ((a : Int) / 2 ^ b) 1 = 0 ∨ Builtin.bitAnd ((a : Int) / 2 ^ b) 1 = 1 := by
  rw [shr_nat, show (1 : Int) = ((1 : Nat) : Int) from rfl, band_nat, Nat.and_one_is_mod]
  omega
theorem bends_ok {s : D} {ps : List D} {n : Int} {P : Opd × Rho → Prop} (g : GD s) (hn1 : 1 ≤ n) (hn2 : n ≤ 4) (h1 : 1 ≤ ps.length) (h2 : ps.length ≤ 16) (h : AI ps)
    (w : ∀ ps' s', ps'.length = ps.length → AI ps' → GD s' → P (.val (.lst ps'), [some (.own s'), none, some (.val (.lst ps'))])) : Ok (m__law_add_bends [.own s, .val (.int n), .own (.lst ps)]) P := by
  rw [m__law_add_bends, ok_fnM]
  have hi : inR ps.length = true := inR_small (by omega) (by omega)
  have hn3 : n ≤ 1000000 := by omega
  have hn4 : n < 1152921504606846976 := by omega
  have q1 : (1 : Int) ≤ ps.length := by omega
  have q2 : (ps.length : Int) < 1152921504606846976 := by omega
  simp (maxDischargeDepth := 20) [g]
  refine for_nx (fun k ρ => ∃ s ps' x4 x5 x6 x7 x8 x9 x10 x11, ρ = [some (.own s), some (.val (.int n)), some (.own (.lst ps')), some (.val (.int ps.length)), x4, x5, x6, x7, x8, x9, x10, x11] ∧ ps'.length = ps.length ∧ AI ps' ∧ GD s) ⟨_, ps, none, none, none, none, none, none, none, none, rfl, rfl, h, by simp [g]⟩ ?_ ?_
  · rintro k d ρ e hk ⟨s, ps', x4, x5, x6, x7, x8, x9, x10, x11, rfl, hl, ho, g⟩
    simp (maxDischargeDepth := 20) [g, q1, q2, hi]
    refine for_nx (fun k ρ => ∃ s ps' x8 x11 a b c, ρ = [some (.own s), some (.val (.int n)), some (.own (.lst ps')), some (.val (.int ps.length)), some (.val d), some (.val (.int a)), some (.val (.int b)), some (.val (.int c)), x8, x9, x10, x11] ∧ ps'.length = ps.length ∧ AI ps' ∧ GD s) ⟨_, ps', _, _, _, _, _, rfl, hl, ho, by simp (maxDischargeDepth := 20) [g, q1, q2, hi]⟩ ?_ ?_
    · rintro k d' ρ e hk ⟨s, ps', x8, x11, a, b, c, rfl, hl, ho, g⟩
      obtain ⟨rfl, hk⟩ := rangeD_get e
      obtain ⟨i, hi⟩ := ho.get (k := k) (by omega)
      have hk' : k < ps'.length := by omega
      simp [hi, hk', Br]
      simp [hl, ho, ho.set, g]
    · rintro ρ ⟨s, ps', x8, x11, a, b, c, rfl, hl, ho, g⟩
      simp (maxDischargeDepth := 20) [hl, ho, g, q1, q2]
  · rintro ρ ⟨s, ps', x4, x5, x6, x7, x8, x9, x10, x11, rfl, hl, ho, g⟩
    simp (maxDischargeDepth := 20) [g]
    refine for_nx (fun k ρ => ∃ s ps' x4 x5 x6 x7 x8 x9 x10 x11, ρ = [some (.own s), some (.val (.int n)), some (.own (.lst ps')), some (.val (.int ps.length)), x4, x5, x6, x7, x8, x9, x10, x11] ∧ ps'.length = ps.length ∧ AI ps' ∧ GD s) ⟨_, ps', _, _, _, _, _, _, _, _, rfl, hl, ho, by simp [g]⟩ ?_ ?_
    · rintro k d ρ e hk ⟨s, ps', x4, x5, x6, x7, x8, x9, x10, x11, rfl, hl, ho, g⟩
      simp (maxDischargeDepth := 20) [g, q1, q2, hi, hn1, hn3, hn4]
      refine for_nx (fun k ρ => ∃ s ps' x8 a b c, ρ = [some (.own s), some (.val (.int n)), some (.own (.lst ps')), some (.val (.int ps.length)), some (.val d), x5, some (.val (.int a)), x7, x8, some (.val (.int b)), some (.val (.int c)), x11] ∧ ps'.length = ps.length ∧ AI ps' ∧ GD s) ⟨_, ps', _, _, _, _, rfl, hl, ho, by simp (maxDischargeDepth := 20) [g, q1, q2, hi, hn1, hn4]⟩ ?_ ?_
      · rintro k d' ρ e hk ⟨s, ps', x8, a, b, c, rfl, hl, ho, g⟩
        obtain ⟨rfl, hk⟩ := rangeD_get e
        obtain ⟨i, hi⟩ := ho.get (k := k) (by omega)
        have hk' : k < ps'.length := by omega
        simp [hi, hk', Br]
        simp [hl, ho, ho.set, g]
      · rintro ρ ⟨s, ps', x8, a, b, c, rfl, hl, ho, g⟩
        simp (maxDischargeDepth := 20) [hl, ho, g, q1, q2]
    · rintro ρ ⟨s, ps', x4, x5, x6, x7, x8, x9, x10, x11, rfl, hl, ho, g⟩
      simp
      exact w _ _ hl ho g
end Ev.W

set_option Elab.async false
set_option linter.all false
set_option maxRecDepth 100000
set_option autoImplicit false
namespace Ev.W
open PySem PySem.Spec PyProof.Rows L2 Ev
theorem pow_facts {n : Nat} (h2 : n ≤ 4) : ∃ N : Nat, 2 ^ n = N ∧ (2 : Int) ^ n = (N : Int) ∧ 1 ≤ N ∧ N ≤ 16 := by
  have : n = 0 ∨ n = 1 ∨ n = 2 ∨ n = 3 ∨ n = 4 := by omega
  rcases this with rfl | rfl | rfl | rfl | rfl <;> exact ⟨_, rfl, by decide, by decide, by decide⟩
def barB : SM := seqM (setM 11 (compM [12] (rng1 (consD (varM 2) nilD)) (nameG 12) yesM (esc (andV (binM gtG (binM andG (varM 12) (varM 8)) (constM (.int 0))) (binM eqG (binM andG (varM 12) (varM 9)) (constM (.int 0)))))))
    (setM 3 (compM [12] (rng1 (consD (varM 2) nilD)) (nameG 12) yesM (esc (ifM (truM (binM atD (varM 11) (varM 12))) (constM .non) (binM atD (varM 3) (varM 12))))))
def spotB : SM := setM 3 (compM [12] (rng1 (consD (varM 2) nilD)) (nameG 12) yesM (esc (ifM (boolM (binM eqG (binM andG (varM 12) (varM 10)) (binM andG (varM 5) (varM 10)))) (binM atD (varM 3) (varM 12)) (constM .non))))
theorem OI_get {ps : List D} {k : Nat} (h : ∀ d ∈ ps, OI d) (hk : k < ps.length) : OI ps[k] := h _ (List.getElem_mem hk)
theorem bar_ok {s : D} {n : Int} {N : Nat} {sv : SV} {ps : List D} {c a b : Int} {x4 x6 x7 x10 x11 : Option SV} {PS : Out × Rho → Prop} (h2 : N ≤ 1000) (hsv : sv = .val (.lst ps) ∨ sv = .own (.lst ps)) (hl : ps.length = N) (ho : ∀ d ∈ ps, OI d)
    (w : ∀ ps' x11', ps'.length = N → (∀ d ∈ ps', OI d) → PS (.nx, [some (.own s), some (.val (.int n)), some (.val (.int N)), some (.own (.lst ps')), x4, some (.val (.int c)), x6, x7, some (.val (.int a)), some (.val (.int b)), x10, x11', none])) :
    Ok (barB [some (.own s), some (.val (.int n)), some (.val (.int N)), some sv, x4, some (.val (.int c)), x6, x7, some (.val (.int a)), some (.val (.int b)), x10, x11, none]) PS := by
  have z0 : inR N = true := inR_small (by omega) (by omega)
  unfold barB
  simp [z0]
  refine compL_all (fun d => ∃ b, d = .bl b) _ _ _ ?_ (by simp [h2]) ?_
  · intro d hd
    obtain ⟨j, rfl, hj⟩ := rangeD_mem hd
    simp [Br]
  · intro acc h1 h3
    replace h3 : ∀ d ∈ acc, ∃ b, d = D.bl b := fun d hd => by
      rcases h3 d hd with h | h
      · cases h
      · exact h
    simp at h1
    simp [z0]
    refine compL_all OI _ _ _ ?_ (by simp [h2]) ?_
    · intro d hd
      obtain ⟨j, rfl, hj⟩ := rangeD_mem hd
      have j1 : j < acc.length := by omega
      have j2 : j < ps.length := by omega
      obtain ⟨bb, hb⟩ := h3 acc[j] (List.getElem_mem j1)
      have := OI_get ho j2
      rcases hsv with rfl | rfl <;> simp [j1, j2, hb, this, Br]
    · intro acc' h4 h5
      simp at h4
      simp
      exact w _ _ h4 (fun d hd => by
        rcases h5 d hd with h | h
        · cases h
        · exact h)
theorem spot_ok {s : D} {n : Int} {N : Nat} {sv : SV} {ps : List D} {c a : Int} {x4 x6 x7 x8 x9 x11 : Option SV} {PS : Out × Rho → Prop} (h2 : N ≤ 1000) (hsv : sv = .val (.lst ps) ∨ sv = .own (.lst ps)) (hl : ps.length = N) (ho : ∀ d ∈ ps, OI d)
    (w : ∀ ps', ps'.length = N → (∀ d ∈ ps', OI d) → PS (.nx, [some (.own s), some (.val (.int n)), some (.val (.int N)), some (.own (.lst ps')), x4, some (.val (.int c)), x6, x7, x8, x9, some (.val (.int a)), x11, none])) :
    Ok (spotB [some (.own s), some (.val (.int n)), some (.val (.int N)), some sv, x4, some (.val (.int c)), x6, x7, x8, x9, some (.val (.int a)), x11, none]) PS := by
  have z0 : inR N = true := inR_small (by omega) (by omega)
  unfold spotB
  simp [z0]
  refine compL_all OI _ _ _ ?_ (by simp [h2]) ?_
  · intro d hd
    obtain ⟨j, rfl, hj⟩ := rangeD_mem hd
    have j2 : j < ps.length := by omega
    have := OI_get ho j2
    rcases hsv with rfl | rfl <;> simp [j2, this, Br]
  · intro acc' h4 h5
    simp at h4
    simp
    exact w _ h4 (fun d hd => by
      rcases h5 d hd with h | h
      · cases h
      · exact h)
theorem cut_ok {s : D} {n : Nat} {P : Opd × Rho → Prop} (g : GD s) (hn1 : 1 ≤ n) (hn2 : n ≤ 4)
    (w : ∀ ps s', ps.length = 2 ^ n → (∀ d ∈ ps, OI d) → GD s' → P (.val (.tup [.int n, .tup ps]), [some (.own s'), none])) : Ok (m__law_cut [.own s, .val (.int n)]) P := by
  rw [m__law_cut, show (seqM (setM 11 (compM [12] (rng1 (consD (varM 2) nilD)) (nameG 12) yesM (esc (andV (binM gtG (binM andG (varM 12) (varM 8)) (constM (.int 0))) (binM eqG (binM andG (varM 12) (varM 9)) (constM (.int 0)))))))
    (setM 3 (compM [12] (rng1 (consD (varM 2) nilD)) (nameG 12) yesM (esc (ifM (truM (binM atD (varM 11) (varM 12))) (constM .non) (binM atD (varM 3) (varM 12))))))) = barB from rfl,
    show (setM 3 (compM [12] (rng1 (consD (varM 2) nilD)) (nameG 12) yesM (esc (ifM (boolM (binM eqG (binM andG (varM 12) (varM 10)) (binM andG (varM 5) (varM 10)))) (binM atD (varM 3) (varM 12)) (constM .non))))) = spotB from rfl, ok_fnM]
  obtain ⟨N, hN, hZ, a1, a2⟩ := pow_facts hn2
  rw [hN] at w
  have z0 : inR N = true := inR_small (by omega) (by omega)
  have z1 : (1 : Int) ≤ N := by omega
  have z2 : (N : Int) < 1152921504606846976 := by omega
  have z3 : RepOk 1 N := repOk_small (by omega) (by omega) (by decide)
  have z5 : N ≤ 1000 := by omega
  have n1 : (1 : Int) ≤ n := by omega
  have n2 : (n : Int) < 1152921504606846976 := by omega
  have n3 : (n : Int) ≤ 1000000 := by omega
  have n4 : inR n = true := inR_small (by omega) n2
  simp (maxDischargeDepth := 20) [g, hZ, n3, z3, z5, z0, z1, z2, n4]
  refine for_nx (fun k ρ => ∃ s ps x4 x7, ρ = [some (.own s), some (.val (.int n)), some (.val (.int N)), some (.own (.lst ps)), x4, none, none, x7, none, none, none, none, none] ∧ ps.length = N ∧ AI ps ∧ GD s) ⟨_, _, none, none, rfl, by simp, fun d hd => ⟨_, List.eq_of_mem_replicate hd⟩, by simp [g]⟩ ?_ ?_
  · rintro k d ρ e hk ⟨s, ps, x4, x7, rfl, hl, ho, g⟩
    obtain ⟨rfl, hk⟩ := rangeD_get e
    simp (maxDischargeDepth := 20) [g, z0]
    refine compL_all (fun d => ∃ i, d = .int i) _ _ _ ?_ (by simp [z5]) ?_
    · intro d hd
      obtain ⟨j, rfl, hj⟩ := rangeD_mem hd
      obtain ⟨i, hi⟩ := ho.get (k := j) (by omega)
      have hj' : j < ps.length := by omega
      rcases bit_cases j k with hb | hb <;> simp [hj', hi, hb]
    · intro acc h1 h2
      simp at h1 h2
      simp (maxDischargeDepth := 20) [h1, g]
      exact fun d hd => h2 d hd
  · rintro ρ ⟨s, ps, x4, x7, rfl, hl, ho, g⟩
    simp
    refine bends_ok g n1 (by omega) (by omega) (by omega) ho fun ps s' h1 h2 g => ?_
    simp (maxDischargeDepth := 20) [g, z1, z2]
    have b1 := dR_lo (k := 4) (dS_gd g z1 z2) (by omega) (by omega)
    have b2 := dR_hi (k := 4) (dS_gd g z1 z2) (by omega) (by omega)
    have b3 := dR_lo (k := 3) (dS_gd (dS_gd g z1 z2) (k := 4) (by omega) (by omega)) (by omega) (by omega)
    have b4 := dR_hi (k := 3) (dS_gd (dS_gd g z1 z2) (k := 4) (by omega) (by omega)) (by omega) (by omega)
    have hr : ∀ a b : Int, 0 ≤ a → a < 4 → 0 ≤ b → b < 3 → inR (a / 2 * b) = true := fun a b h1 h2 h3 h4 => by
      have h5 : a / 2 = 0 ∨ a / 2 = 1 := by omega
      rcases h5 with h5 | h5 <;> rw [h5] <;> exact inR_small (by omega) (by omega)
    refine ⟨by decide, hr _ _ b1 b2 b3 b4, ?_⟩
    refine for_nx (fun k ρ => ∃ s sv ps c x6 x8 x9 x11, ρ = [some (.own s), some (.val (.int n)), some (.val (.int N)), some sv, x4, some (.val (.int c)), x6, x7, x8, x9, none, x11, none] ∧ (sv = .val (.lst ps) ∨ sv = .own (.lst ps)) ∧ ps.length = N ∧ (∀ d ∈ ps, OI d) ∧ GD s) ⟨_, _, ps, _, none, none, none, none, rfl, .inl rfl, by omega, h2.oi, by simp (maxDischargeDepth := 20) [g, z1, z2]⟩ ?_ ?_
    · rintro k d ρ e hk ⟨s, sv, ps, c, x6, x8, x9, x11, rfl, hsv, hl, ho, g⟩
      have g2 : GD (dS (dS s n) n) := by simp (maxDischargeDepth := 20) [g, n1, n2]
      rw [show nameG 6 d [some (.own s), some (.val (.int n)), some (.val (.int N)), some sv, x4, some (.val (.int c)), x6, x7, x8, x9, none, x11, none] = some [some (.own s), some (.val (.int n)), some (.val (.int N)), some sv, x4, some (.val (.int c)), some (.val d), x7, x8, x9, none, x11, none] from rfl, ok_some']
      simp (maxDischargeDepth := 20) [g, n1, n2, n3]
      refine ⟨fun _ => ?_, fun _ => ⟨fun _ => ?_, fun _ => ?_⟩⟩
      · refine bar_ok z5 hsv hl ho fun ps' x11' h1 h2 => ?_
        exact ⟨rfl, _, _, ps', _, _, _, _, _, rfl, .inr rfl, h1, h2, g2⟩
      · refine bar_ok z5 hsv hl ho fun ps' x11' h1 h2 => ?_
        exact ⟨rfl, _, _, ps', _, _, _, _, _, rfl, .inr rfl, h1, h2, g2⟩
      · first | exact ⟨ps, hsv, hl, ho, g2⟩ | exact ⟨ps, hsv, hl, ho⟩
    · rintro ρ ⟨s, sv, ps, c, x6, x8, x9, x11, rfl, hsv, hl, ho, g⟩
      simp (maxDischargeDepth := 20) [g, z0, n1, n2, n3]
      have g5 : GD (dS (dS s 5) n) := by simp (maxDischargeDepth := 20) [g, n1, n2]
      have g6 : GD (dS s 5) := by simp (maxDischargeDepth := 20) [g]
      refine ⟨fun _ => ?_, fun _ => ?_⟩
      · refine spot_ok z5 hsv hl ho fun ps' h1 h2 => ?_
        simp
        exact w _ _ h1 h2 g5
      · rcases hsv with rfl | rfl
        · simp
          exact w _ _ hl ho g6
        · simp
          exact w _ _ hl ho g6
end Ev.W

set_option Elab.async false
set_option linter.all false
set_option maxRecDepth 100000
set_option autoImplicit false
namespace Ev.W
open PySem PySem.Spec PyProof.Rows L2 Ev
theorem table_ok {s : D} {P : Opd × Rho → Prop} (g : GD s)
    (w : ∀ (n : Nat) ps s', 1 ≤ n → n ≤ 4 → ps.length = 2 ^ n → (∀ d ∈ ps, OI d) → (∃ k, D.int k ∈ ps) → GD s' → P (.val (.tup [.int n, .tup ps]), [some (.own s')])) : Ok (m__law_some_table [.own s]) P := by
  rw [m__law_some_table, ok_fnM]
  simp (maxDischargeDepth := 20) [g]
  obtain ⟨n, hn, hn1, hn2⟩ : ∃ n : Nat, (1 + dR s 3 + if rR (dS s 3) 9 = true then 1 else 0) = (n : Int) ∧ 1 ≤ n ∧ n ≤ 4 := by
    have h1 := dR_lo (k := 3) g (by omega) (by omega)
    have h2 := dR_hi (k := 3) g (by omega) (by omega)
    generalize dR s 3 = a at h1 h2 ⊢
    refine ⟨(1 + a + if rR (dS s 3) 9 = true then 1 else 0).toNat, ?_, ?_, ?_⟩ <;> split <;> omega
  have g1 : GD (dS (dS (rS (dS s 3) 9) 4) 6) := by simp (maxDischargeDepth := 20) [g]
  have g2 : GD (dS (rS (dS s 3) 9) 4) := by simp (maxDischargeDepth := 20) [g]
  obtain ⟨N, hN, hZ, a1, a2⟩ := pow_facts hn2
  rw [hn]
  refine ⟨fun _ => ?_, fun _ => ?_⟩
  · refine loose_ok g1 hn2 fun ps s' h1 h2 h3 h4 => ?_
    simp
    exact w n ps s' hn1 hn2 h1 h2 h3 h4
  · refine cut_ok g2 hn1 hn2 fun ps s' h1 h2 h4 => ?_
    rw [hN] at h1
    have l1 : (1 : Int) ≤ N := by omega
    have l2 : (N : Int) < 1152921504606846976 := by omega
    simp (maxDischargeDepth := 20) [h1, h4, l1, l2]
    refine ⟨fun _ => ?_, fun _ => ?_⟩
    · have b1 := dR_lo h4 l1 l2
      have b2 := dR_hi h4 l1 l2
      have g5 : GD (dS (dS s' N) 4) := by simp (maxDischargeDepth := 20) [h4, l1, l2]
      rw [ixN_pos b1 (by omega)]
      refine ⟨fun _ => ?_, fun _ => ?_⟩
      · simp
        refine opened_ok g5 (fun d hd => ?_) (by simp; omega) (by simp; omega) fun ps' s'' h5 h6 h7 h8 => ?_
        · rcases List.mem_or_eq_of_mem_set hd with hd | rfl
          · exact h2 d hd
          · simp
        · simp
          simp at h5
          exact w n ps' s'' hn1 hn2 (by omega) h6 h7 h8
      · simp
        refine opened_ok (cS_gd g5) (fun d hd => ?_) (by simp; omega) (by simp; omega) fun ps' s'' h5 h6 h7 h8 => ?_
        · rcases List.mem_or_eq_of_mem_set hd with hd | rfl
          · exact h2 d hd
          · simp
        · simp
          simp at h5
          exact w n ps' s'' hn1 hn2 (by omega) h6 h7 h8
    · refine opened_ok h4 h2 (by omega) (by omega) fun ps' s'' h5 h6 h7 h8 => ?_
      simp
      exact w n ps' s'' hn1 hn2 (by omega) h6 h7 h8
theorem big_ok {s : D} {span : Int} {P : Opd × Rho → Prop} (g : GD s) (h : 0 ≤ span)
    (w : ∀ (b : Int) s', 0 ≤ b → GD s' → P (.val (.int b), [some (.own s'), none])) : Ok (m__law_some_big [.own s, .val (.int span)]) P := by
  rw [m__law_some_big, ok_fnM]
  simp (maxDischargeDepth := 20) [g]
  have g0 : GD (dS s 6) := by simp [g]
  have h1 := dR_lo (k := 10) g0 (by omega) (by omega)
  have h2 := dR_lo (k := 1000) g0 (by omega) (by omega)
  have h3 := dR_lo (k := 2) g0 (by omega) (by omega)
  exact ⟨fun _ => w _ _ h1 (by simp [g0]), fun _ => ⟨fun _ => w _ _ (by omega) (by simp [g0]), fun _ => ⟨fun _ => w _ _ (by omega) (by simp [g0]), fun _ => w _ _ (by omega) g0⟩⟩⟩
theorem begin_ok {ns : List Int} (h : ns.length ≤ 63) {P : Opd × Rho → Prop} (w : ∀ s, GD s → P (.tmp s, [none])) : Ok (m__law_begin [.val (.rol (ns.map D.int))]) P := by
  rw [m__law_begin, ok_fnM]
  simp
  have e := compL_pure (t := yesM) (vs := [1]) (gg := nameG 1) (el := esc (biM intFG (consA (varM 1) nilA))) D.int (fun _ => true) D.int ns [] [some (.val (.rol (ns.map D.int))), none] ?_ (by simp; exact sz_le (by omega))
  · rw [e]
    simp
    exact w _ ⟨⟨ns, 0, 0, 7, by rw [List.filter_eq_self.2 (fun _ _ => rfl)]; rfl, h, by omega, by omega⟩⟩
  · intro a ha
    simp
end Ev.W

set_option Elab.async false
set_option linter.all false
set_option maxRecDepth 100000
set_option autoImplicit false
namespace Ev.W
open PySem PySem.Spec PyProof.Rows L2 Ev
theorem nband (a b : Nat) : Builtin.bitAnd (a : Int) (b : Int) = ((a &&& b : Nat) : Int) := by unfold Builtin.bitAnd; simp
theorem nbor (a b : Nat) : Builtin.bitOr (a : Int) (b : Int) = ((a ||| b : Nat) : Int) := by
  unfold Builtin.bitOr Builtin.bitNot Builtin.bitAnd Builtin.bitNot
  have h1 : decide (0 ≤ -(a : Int) - 1) = false := decide_eq_false (by omega)
  have h2 : decide (0 ≤ -(b : Int) - 1) = false := decide_eq_false (by omega)
  simp only [h1, h2]
  have e : ∀ x : Nat, (-(-(x : Int) - 1) - 1).toNat = x := fun x => by omega
  simp only [e]
  omega
theorem or_xor : ∀ a < 16, ∀ b < 16, (a ||| b) = (a ^^^ b) + (a &&& b) := by decide
theorem nbxor {a b : Nat} (ha : a < 16) (hb : b < 16) : Builtin.bitXor (a : Int) (b : Int) = ((a ^^^ b : Nat) : Int) := by
  unfold Builtin.bitXor
  rw [nbor, nband, or_xor a ha b hb]
  omega
def pop (x : Nat) : Nat := x % 2 + x / 2 % 2 + x / 4 % 2 + x / 8 % 2
theorem pop_step : ∀ x < 16, 0 < x → pop (x &&& (x - 1)) + 1 = pop x ∧ (x &&& (x - 1)) < x := by decide
theorem xor_lt : ∀ a < 16, ∀ b < 16, a ^^^ b < 16 := by decide
theorem pop_le (x : Nat) : pop x ≤ 4 := by unfold pop; omega
theorem ones_eq {x : Nat} (h : x < 16) : m__law_ones [.val (.int x)] = some (.val (.int (pop x)), [none]) := by
  apply Ok.eq
  rw [m__law_ones, ok_fnM]
  simp [whileM]
  refine whileL_inv (fun ρ => ∃ y m : Nat, ρ = [some (.val (.int y)), some (.val (.int m))] ∧ y < 16 ∧ m + pop y = pop x) (slN 0) lots _ (by simp [lots, slN]; omega) ⟨x, 0, by simp, h, by simp⟩ ?_
  rintro ρ ⟨y, m, rfl, h1, h2⟩
  simp [Br, slN]
  refine ⟨fun h3 => ?_, fun h3 => ?_⟩
  · have h4 := pop_step y h1 h3
    have e : (y : Int) - 1 = ((y - 1 : Nat) : Int) := by omega
    rw [e, nband]
    simp
    exact ⟨⟨y &&& (y - 1), m + 1, ⟨rfl, by omega⟩, by omega, by omega⟩, h4.2⟩
  · subst h3
    simp [pop] at h2
    simp [h2, pop]
theorem count_eq {x : Nat} (h : x < 16) : m_bit_count [.val (.int x)] = some (.val (.int (pop x)), [none]) := by
  apply Ok.eq
  rw [m_bit_count, ok_fnM]
  simp [whileM]
  refine whileL_inv (fun ρ => ∃ y m : Nat, ρ = [some (.val (.int y)), some (.val (.int m))] ∧ y < 16 ∧ m + pop y = pop x) (slN 0) lots _ (by simp [lots, slN]; omega) ⟨x, 0, by simp, h, by simp⟩ ?_
  rintro ρ ⟨y, m, rfl, h1, h2⟩
  by_cases h0 : y = 0
  · subst h0
    simp [pop] at h2
    simp [h2, pop]
  · have h4 := pop_step y h1 (by omega)
    have e : (y : Int) - 1 = ((y - 1 : Nat) : Int) := by omega
    simp [h0, slN, Br]
    rw [e, nband]
    simp
    exact ⟨⟨y &&& (y - 1), m + 1, ⟨rfl, by omega⟩, by omega, by omega⟩, h4.2⟩

/-! prices, heights -/
def toD : Option Int → D
  | none => .non
  | some k => .int k
@[simp] theorem isNonD_toD (o : Option Int) : isNonD (toD o) = o.isNone := by cases o <;> rfl
abbrev rl (N : Nat) (f : Nat → D) : List D := (List.range N).map f
@[simp] theorem rl_get {N k : Nat} {f : Nat → D} (h : k < N) : (rl N f)[k]? = some (f k) := by simp [h]
theorem rangeD_rl (N : Nat) : rangeD 0 N = rl N fun i => .int i := by simp [rangeD, rl]
def opens (P : Nat → Option Int) (N : Nat) : List Nat := (List.range N).filter fun i => (P i).isSome
def pv (P : Nat → Option Int) (i : Nat) : Int := (P i).getD 0
theorem opens_mem {P : Nat → Option Int} {N i : Nat} : i ∈ opens P N ↔ i < N ∧ (P i).isSome = true := by simp [opens]
theorem opens_toD {P : Nat → Option Int} {N i : Nat} (h : i ∈ opens P N) : toD (P i) = .int (pv P i) := by
  have := (opens_mem.1 h).2
  unfold pv
  cases e : P i with
  | none => rw [e] at this; cases this
  | some k => rfl
def hts (P : Nat → Option Int) (N : Nat) (big : Int) (i : Nat) : Int := (minI ((opens P N).map fun j => pv P j + big * pop (j ^^^ i))).getD 0
theorem minI_some {l : List Int} (h : l ≠ []) : minI l = some ((minI l).getD 0) := by
  cases l with
  | nil => exact absurd rfl h
  | cons a l => rfl
theorem hts_some {P : Nat → Option Int} {N : Nat} {big : Int} {i : Nat} (h : opens P N ≠ []) : minI ((opens P N).map fun j => pv P j + big * pop (j ^^^ i)) = some (hts P N big i) :=
  minI_some (by simpa using h)
theorem opens_len {P : Nat → Option Int} {N : Nat} : (opens P N).length ≤ N := by
  have := List.length_filter_le (fun i => (P i).isSome) (List.range N)
  simpa [opens] using this
theorem extended_eq {P : Nat → Option Int} {N : Nat} {big : Int} (hN : N ≤ 16) (ho : opens P N ≠ []) :
    m_extended [.val (.tup (rl N fun i => toD (P i))), .val (.int big)] = some (.tmp (.lst (rl N fun i => .int (hts P N big i))), [none, none]) := by
  have z0 : inR N = true := by unfold inR; rw [Bool.and_eq_true, decide_eq_true_iff, decide_eq_true_iff]; omega
  apply Ok.eq
  rw [m_extended, ok_fnM]
  simp [z0, rangeD_rl]
  refine ok_comp (φ := fun i : Nat => D.int i) (fun i => (P i).isSome) (fun i : Nat => D.int i) (fun i hi => ?_) (by simp; exact sz_le (by omega)) ?_
  · simp at hi
    simp [hi]
    cases P i <;> simp
  · simp [rangeD_rl]
    refine ⟨z0, ?_⟩
    refine ok_comps (φ := fun i : Nat => D.int i) (fun i : Nat => .int (hts P N big i)) (fun i hi => ?_) (by simp; exact sz_le (by omega)) ?_
    · simp at hi
      simp
      refine ok_comps (φ := fun i : Nat => D.int i) (fun j : Nat => .int (pv P j + big * pop (j ^^^ i))) (fun j hj => ?_) (show 0 + (opens P N).length ≤ sizeLine from by rw [Nat.zero_add]; exact sz_le (Nat.le_trans opens_len (by omega))) ?_
      · have hj' := opens_mem.1 hj
        have q1 := opens_toD hj
        have q2 : Builtin.bitXor (j : Int) (i : Int) = ((j ^^^ i : Nat) : Int) := nbxor (by omega) (by omega)
        have q3 := count_eq (xor_lt j (by omega) i (by omega))
        have q4 := pop_le (j ^^^ i)
        have q5 : mulOk big (pop (j ^^^ i)) = true := mulOk_r (by omega) (by omega)
        simp [hj'.1, q1, q2, q3, q5]
      · simp
        rw [show (List.filter (fun i => (P i).isSome) (List.range N)) = opens P N from rfl, minG_lst (intsOf_mapf _ _) (hts_some ho)]
        simp
    · simp
theorem rl_succ (k : Nat) (f : Nat → D) : rl k f ++ [f k] = rl (k + 1) f := by simp [rl, List.range_succ]
theorem heights_eq {P : Nat → Option Int} {N : Nat} {big : Int} (hN : N ≤ 16) (ho : opens P N ≠ []) :
    m__law_heights [.val (.tup (rl N fun i => toD (P i))), .val (.int big)] = some (.tmp (.lst (rl N fun i => .int (hts P N big i))), [none, none]) := by
  have z0 : inR N = true := by unfold inR; rw [Bool.and_eq_true, decide_eq_true_iff, decide_eq_true_iff]; omega
  apply Ok.eq
  rw [m__law_heights, ok_fnM]
  simp [z0, rangeD_rl]
  refine ok_comp (φ := fun i : Nat => D.int i) (fun i => (P i).isSome) (fun i : Nat => D.int i) (fun i hi => ?_) (by simp; exact sz_le (by omega)) ?_
  · simp at hi
    simp [hi]
    cases P i <;> simp
  · simp
    refine ⟨z0, ?_⟩
    refine for_nx (fun k ρ => ∃ x4, ρ = [some (.val (.tup (rl N fun i => toD (P i)))), some (.val (.int big)), some (.own (.lst ((opens P N).map fun i : Nat => D.int i))), some (.own (.lst (rl k fun i => .int (hts P N big i)))), x4, none]) ⟨none, by simp [opens]⟩ ?_ ?_
    · rintro i d ρ e hk ⟨x4, rfl⟩
      obtain ⟨rfl, hi⟩ := rangeD_get e
      have hk1 : i ≤ 1000 := by omega
      simp
      refine ok_comps (φ := fun i : Nat => D.int i) (fun j : Nat => .int (pv P j + big * pop (j ^^^ i))) (fun j hj => ?_) (show 0 + (opens P N).length ≤ sizeLine from by rw [Nat.zero_add]; exact sz_le (Nat.le_trans opens_len (by omega))) ?_
      · have hj' := opens_mem.1 hj
        have q1 := opens_toD hj
        have q2 : Builtin.bitXor (j : Int) (i : Int) = ((j ^^^ i : Nat) : Int) := nbxor (by omega) (by omega)
        have q3 := ones_eq (xor_lt j (by omega) i (by omega))
        have q4 := pop_le (j ^^^ i)
        have q5 : mulOk big (pop (j ^^^ i)) = true := mulOk_r (by omega) (by omega)
        simp [hj'.1, q1, q2, q3, q5]
      · simp
        rw [minG_lst (intsOf_mapf _ _) (hts_some ho)]
        simp [hk1]
        exact (rl_succ i fun i => D.int (hts P N big i))
    · rintro ρ ⟨x4, rfl⟩
      simp

/-! bits, gains -/
def bv (n i p : Nat) : Nat := i / 2 ^ (n - 1 - p) % 2
theorem bv_le (n i p : Nat) : bv n i p ≤ 1 := by unfold bv; omega
theorem bit_eq {n i p : Nat} (h : p < n) : Builtin.bitAnd ((i : Int) / 2 ^ ((n : Int) - 1 - p).toNat) 1 = (bv n i p : Int) := by
  rw [show ((n : Int) - 1 - p).toNat = n - 1 - p by omega, show (i : Int) / 2 ^ (n - 1 - p) = ((i / 2 ^ (n - 1 - p) : Nat) : Int) by simp, show (1 : Int) = ((1 : Nat) : Int) from rfl, nband, Nat.and_one_is_mod]
  rfl
theorem bit_eq' {n i p : Nat} (h : p < n) : Builtin.bitAnd ((i : Int) / 2 ^ (n - 1 - p)) 1 = (bv n i p : Int) := by
  have := bit_eq (i := i) h
  rwa [show ((n : Int) - 1 - p).toNat = n - 1 - p by omega] at this
theorem at_eq {n i p : Nat} (h : p < n) : m_bit_at [.val (.int i), .val (.int n), .val (.int p)] = some (.val (.int (bv n i p)), [none, none, none]) := by
  apply Ok.eq
  rw [m_bit_at, ok_fnM]
  have h0 : (p : Int) ≤ (n : Int) - 1 := by omega
  simp [h0, bit_eq' h]
theorem row_eq {n i : Nat} (hn : n ≤ 4) : m__law_row [.val (.int i), .val (.int n)] = some (.val (.tup (rl n fun p => .int (bv n i p))), [none, none]) := by
  have z0 : inR n = true := by unfold inR; rw [Bool.and_eq_true, decide_eq_true_iff, decide_eq_true_iff]; omega
  apply Ok.eq
  rw [m__law_row, ok_fnM]
  simp [z0, rangeD_rl]
  refine ok_comps (φ := fun i : Nat => D.int i) (fun p : Nat => .int (bv n i p)) (fun p hp => ?_) (by simp; exact sz_le (by omega)) ?_
  · simp at hp
    have h0 : (p : Int) ≤ (n : Int) - 1 := by omega
    simp [h0, bit_eq' hp]
  · simp
def Gs (n : Nat) (g : Nat → Int) (i : Nat) : Int := ((List.range n).map fun p => g p * (bv n i p : Int)).sum
theorem sum_filter (b : Nat → Nat) (g : Nat → Int) (hb : ∀ p, b p ≤ 1) : ∀ l : List Nat, ((l.filter fun p => b p != 0).map g).sum = (l.map fun p => g p * (b p : Int)).sum
  | [] => rfl
  | p :: l => by
    have h := hb p
    rw [List.filter_cons, List.map_cons, List.sum_cons, ← sum_filter b g hb l]
    have : b p = 0 ∨ b p = 1 := by omega
    rcases this with h | h <;> simp [h]
theorem gain_of_eq {n i : Nat} {g : Nat → Int} (hn : n ≤ 4) : m_gain_of [.val (.tup (rl n fun p => .int (g p))), .val (.int i)] = some (.val (.int (Gs n g i)), [none, none]) := by
  have z0 : inR n = true := by unfold inR; rw [Bool.and_eq_true, decide_eq_true_iff, decide_eq_true_iff]; omega
  apply Ok.eq
  rw [m_gain_of, ok_fnM]
  simp [z0, rangeD_rl]
  refine ok_comp (φ := fun i : Nat => D.int i) (fun p => bv n i p != 0) (fun p : Nat => D.int (g p)) (fun p hp => ?_) (by simp; exact sz_le (by omega)) ?_
  · simp at hp
    simp [at_eq hp, hp]
    have := bv_le n i p
    rcases (by omega : bv n i p = 0 ∨ bv n i p = 1) with h | h <;> simp [h, Br]
  · simp
    rw [sumG_lst (intsOf_mapf _ _), sum_filter _ _ (bv_le n i)]
    simp [Gs]
theorem zip_rl (n : Nat) (f g : Nat → D) : zipD (rl n f) (rl n g) = rl n fun p => .tup [f p, g p] := by
  unfold zipD
  apply List.ext_getElem?
  intro k
  by_cases h : k < n <;> simp [h, List.getElem?_zipWith, rl]
theorem law_gain_eq {n i : Nat} {g : Nat → Int} (hn : n ≤ 4) : m__law_gain [.val (.tup (rl n fun p => .int (g p))), .val (.int i)] = some (.val (.int (Gs n g i)), [none, none]) := by
  apply Ok.eq
  rw [m__law_gain, ok_fnM]
  simp [row_eq hn, zip_rl]
  refine ok_comps (φ := fun p : Nat => D.tup [.int (g p), .int (bv n i p)]) (fun p : Nat => .int (g p * bv n i p)) (fun p hp => ?_) (by simp; exact sz_le (by omega)) ?_
  · have h := bv_le n i p
    have q5 : mulOk (g p) (bv n i p) = true := mulOk_r (by omega) (by omega)
    simp [q5]
  · simp
    rw [sumG_lst (intsOf_mapf _ _)]
    simp [Gs]
def sl (n : Nat) (h g : Nat → Int) (i : Nat) : Int := h i - h 0 - Gs n g i
theorem slack_eq {n N : Nat} {h g : Nat → Int} (hn : n ≤ 4) (hN : N ≤ 16) (h1 : 1 ≤ N) : m_slack_of [.val (.tup (rl N fun i => .int (h i))), .val (.tup (rl n fun p => .int (g p)))] = some (.tmp (.lst (rl N fun i => .int (sl n h g i))), [none, none]) := by
  have z0 : inR N = true := by unfold inR; rw [Bool.and_eq_true, decide_eq_true_iff, decide_eq_true_iff]; omega
  apply Ok.eq
  rw [m_slack_of, ok_fnM]
  simp [z0, rangeD_rl]
  refine ok_comps (φ := fun i : Nat => D.int i) (fun i : Nat => .int (sl n h g i)) (fun i hi => ?_) (by simp; exact sz_le (by omega)) ?_
  · simp at hi
    have h0 : 0 < N := by omega
    simp [gain_of_eq hn, hi, h0]
    rfl
  · simp
def bel (n N : Nat) (h g : Nat → Int) : Bool := decide (0 ≤ (minI ((List.range N).map (sl n h g))).getD 0) && decide (sl n h g (N - 1) = 0)
theorem min_sl {n N : Nat} {h g : Nat → Int} (h1 : 1 ≤ N) : minI ((List.range N).map (sl n h g)) = some ((minI ((List.range N).map (sl n h g))).getD 0) := minI_some (by
  intro e
  have := congrArg List.length e
  simp at this
  omega)
theorem last_ix {N : Nat} (h1 : 1 ≤ N) : ixN N ((N : Int) - 1) = some (N - 1) := by rw [ixN_pos (by omega) (by omega)]; congr 1; omega
theorem below_eq {n N : Nat} {h g : Nat → Int} (hn : n ≤ 4) (hN : N ≤ 16) (h1 : 1 ≤ N) : m_is_below_heights [.val (.tup (rl N fun i => .int (h i))), .val (.tup (rl n fun p => .int (g p)))] = some (.val (.bl (bel n N h g)), [none, none]) := by
  apply Ok.eq
  rw [m_is_below_heights, ok_fnM]
  have h2 : N - 1 < N := by omega
  simp [slack_eq hn hN h1, minG_lst (intsOf_mapf _ _) (min_sl h1), last_ix h1, h2]
  unfold bel
  cases h5 : decide (0 ≤ (minI ((List.range N).map (sl n h g))).getD 0) <;> simp [Br, h5]
end Ev.W

set_option Elab.async false
set_option linter.all false
set_option maxRecDepth 100000
set_option autoImplicit false
namespace Ev.W
open PySem PySem.Spec PyProof.Rows L2 Ev
theorem isi_ii : isiAny "int" ["int"] = some true := by decide
theorem isi_ib : isiAny "int" ["bool"] = some false := by decide
theorem isi_tt : isiAny "tuple" ["tuple"] = some true := by decide
theorem isi_llt : isiAny "list" ["list", "tuple"] = some true := by decide
theorem isi_tlt : isiAny "tuple" ["list", "tuple"] = some true := by decide
@[simp] theorem tyD_int {k : Int} : tyD (.int k) = "int" := rfl
@[simp] theorem tyD_tup {xs : List D} : tyD (.tup xs) = "tuple" := rfl
@[simp] theorem tyD_lst {xs : List D} : tyD (.lst xs) = "list" := rfl
theorem is_int_eq {k : Int} : m__law_is_int [.val (.int k)] = some (.val (.bl true), [none]) := by
  apply Ok.eq
  rw [m__law_is_int, ok_fnM]
  simp [isi_ii, isi_ib]
theorem is_ints_eq {N : Nat} {f : Nat → Int} (hN : N ≤ 16) : m__law_is_ints [.val (.tup (rl N fun i => .int (f i)))] = some (.val (.bl true), [none]) := by
  apply Ok.eq
  rw [m__law_is_ints, ok_fnM]
  simp [isi_tt]
  refine ok_comps (φ := fun i : Nat => D.int (f i)) (fun i : Nat => .bl true) (fun i hi => ?_) (by simp; exact sz_le (by omega)) ?_
  · simp [is_int_eq]
  · simp
    rw [allG_lst (bolsOf_mapf (fun _ => true) (List.range N))]
    simp
theorem gains_ok_eq {n N : Nat} {h g : Nat → Int} (hn : n ≤ 4) (hN : N ≤ 16) (h1 : 1 ≤ N) : m__law_gains_ok [.val (.tup (rl N fun i => .int (h i))), .val (.tup (rl n fun p => .int (g p)))] = some (.val (.bl true), [none, none]) := by
  have z0 : inR N = true := by unfold inR; rw [Bool.and_eq_true, decide_eq_true_iff, decide_eq_true_iff]; omega
  apply Ok.eq
  rw [m__law_gains_ok, ok_fnM]
  simp [slack_eq hn hN h1, isi_llt, is_ints_eq hN, z0]
  refine for_nx (fun k ρ => ∃ x4 x5, ρ = [some (.val (.tup (rl N fun i => .int (h i)))), some (.val (.tup (rl n fun p => .int (g p)))), some (.own (.lst (rl N fun i => .int (sl n h g i)))), some (.own (.lst (rl k fun i => .int (sl n h g i)))), x4, x5]) ⟨none, none, by simp⟩ ?_ ?_
  · rintro i d ρ e hk ⟨x4, x5, rfl⟩
    obtain ⟨rfl, hi⟩ := rangeD_get e
    have hk1 : i ≤ 1000 := by omega
    have h0 : 0 < N := by omega
    simp [gain_of_eq hn, law_gain_eq hn, is_int_eq, hi, h0, hk1]
    exact (rl_succ i fun i => D.int (sl n h g i))
  · rintro ρ ⟨x4, x5, rfl⟩
    simp [neG_lst (intsOf_mapf _ _) (intsOf_mapf _ _), minG_lst (intsOf_mapf _ _) (min_sl h1), last_ix h1, show N - 1 < N by omega, below_eq hn hN h1]
    have e : bel n N h g = (decide (0 ≤ (minI ((List.range N).map (sl n h g))).getD 0) && decide (sl n h g (N - 1) = 0)) := rfl
    rw [e]
    cases decide (0 ≤ (minI ((List.range N).map (sl n h g))).getD 0) <;> cases decide (sl n h g (N - 1) = 0) <;> simp [Br]
def stp (n : Nat) (h : Nat → Int) (cf : Nat × (Nat → Int)) (p : Nat) : Nat × (Nat → Int) := (cf.1 ||| 2 ^ (n - 1 - p), fun q => if q = p then h (cf.1 ||| 2 ^ (n - 1 - p)) - h cf.1 else cf.2 q)
def gS (n : Nat) (h : Nat → Int) (l : List Nat) : Nat × (Nat → Int) := l.foldl (stp n h) (0, fun _ => 0)
theorem rl_set {n p : Nat} {f : Nat → D} {v : D} : (rl n f).set p v = rl n fun q => if q = p then v else f q := by
  apply List.ext_getElem?
  intro k
  rw [List.getElem?_set]
  by_cases h : k < n
  · by_cases e : p = k
    · subst e; simp [h]
    · simp [h, e, show ¬ k = p from fun h => e h.symm]
  · by_cases e : p = k
    · subst e; simp [h]
    · simp [h, e]
theorem rep_rl (n : Nat) (d : D) : List.replicate n d = rl n fun _ => d := by
  apply List.ext_getElem?
  intro k
  by_cases h : k < n <;> simp [h]
theorem gS_succ {n : Nat} {h : Nat → Int} {l : List Nat} {k p : Nat} (e : l[k]? = some p) : gS n h (l.take (k + 1)) = stp n h (gS n h (l.take k)) p := by
  unfold gS
  rw [List.take_add_one, e]
  simp
theorem or_bit_lt {n c p : Nat} (h : c < 2 ^ n) (hp : p < n) : c ||| 2 ^ (n - 1 - p) < 2 ^ n := Nat.or_lt_two_pow h (Nat.pow_lt_pow_right (by decide) (by omega))
theorem gS_lt {n : Nat} {h : Nat → Int} : ∀ (l : List Nat) (cf : Nat × (Nat → Int)), (∀ p ∈ l, p < n) → cf.1 < 2 ^ n → (l.foldl (stp n h) cf).1 < 2 ^ n
  | [], cf, _, hc => hc
  | p :: l, cf, hl, hc => by
    rw [List.foldl_cons]
    exact gS_lt l _ (fun q hq => hl q (List.mem_cons_of_mem _ hq)) (or_bit_lt hc (hl p (List.mem_cons_self ..)))
theorem loop_ok {n N : Nat} {h : Nat → Int} {l : List Nat} {a : SV} {PS : Out × Rho → Prop} (hn : n ≤ 4) (hN : N = 2 ^ n) (hl : l.length = n) (hp : ∀ p ∈ l, p < n) (ha : a.d = .lst (l.map fun p : Nat => D.int p))
    (w : ∀ x5 x6 c, PS (.nx, [some (.val (.tup (rl N fun i => .int (h i)))), some a, some (.val (.int n)), some (.own (.lst (rl n fun q => .int ((gS n h l).2 q)))), some (.val (.int c)), x5, x6])) :
    Ok (forL (nameG 5) (seqM (setM 6 (binM orG (varM 4) (binM shlG (constM (.int 1)) (binM subG (binM subG (varM 2) (constM (.int 1))) (varM 5)))))
      (seqM (putM 3 (varM 5) (binM subG (binM atD (varM 0) (varM 6)) (binM atD (varM 0) (varM 4)))) (setM 4 (varM 6)))) (l.map fun p : Nat => D.int p)
      [some (.val (.tup (rl N fun i => .int (h i)))), some a, some (.val (.int n)), some (.own (.lst (rl n fun _ => .int 0))), some (.val (.int 0)), none, none]) PS := by
  refine for_nx (fun k ρ => ∃ x5 x6, ρ = [some (.val (.tup (rl N fun i => .int (h i)))), some a, some (.val (.int n)), some (.own (.lst (rl n fun q => .int ((gS n h (l.take k)).2 q)))), some (.val (.int (gS n h (l.take k)).1)), x5, x6]) ⟨none, none, rfl⟩ ?_ ?_
  · rintro k d ρ e hk ⟨x5, x6, rfl⟩
    rw [List.getElem?_map] at e
    rcases e2 : l[k]? with _ | p
    · rw [e2] at e; cases e
    · rw [e2] at e; cases e
      have hp1 : p < n := hp p (List.mem_of_getElem? e2)
      have hc : (gS n h (l.take k)).1 < 2 ^ n := gS_lt _ _ (fun q hq => hp q (List.mem_of_mem_take hq)) (Nat.two_pow_pos n)
      have hc2 := or_bit_lt hc hp1
      rw [gS_succ e2]
      generalize gS n h (l.take k) = cf at hc hc2 ⊢
      have h0 : (p : Int) ≤ (n : Int) - 1 := by omega
      have h0' : (n : Int) - 1 - p ≤ 1000000 := by omega
      have e4 : Builtin.bitOr (cf.1 : Int) (2 ^ (n - 1 - p)) = ((cf.1 ||| 2 ^ (n - 1 - p) : Nat) : Int) := by
        rw [show (2 : Int) ^ (n - 1 - p) = ((2 ^ (n - 1 - p) : Nat) : Int) by simp, nbor]
      rw [← hN] at hc hc2
      simp [h0, h0', e4, hc, hc2, hp1, rl_set]
      simp [stp]
      intro a _
      split <;> rfl
  · rintro ρ ⟨x5, x6, rfl⟩
    rw [List.length_map, List.take_length]
    exact w _ _ _
theorem loop_ok2 {n N : Nat} {h : Nat → Int} {l : List Nat} {PS : Out × Rho → Prop} (hn : n ≤ 4) (hN : N = 2 ^ n) (hl : l.length = n) (hp : ∀ p ∈ l, p < n)
    (w : ∀ x5 x6 c, PS (.nx, [some (.val (.tup (rl N fun i => .int (h i)))), some (.val (.tup (l.map fun p : Nat => D.int p))), some (.own (.lst (rl n fun q => .int ((gS n h l).2 q)))), some (.val (.int c)), x5, x6])) :
    Ok (forL (nameG 4) (seqM (setM 5 (binM orG (varM 3) (binM shlG (constM (.int 1)) (binM subG (binM subG (biM lenG (consA (varM 1) nilA)) (constM (.int 1))) (varM 4)))))
      (seqM (putM 2 (varM 4) (binM subG (binM atD (varM 0) (varM 5)) (binM atD (varM 0) (varM 3)))) (setM 3 (varM 5)))) (l.map fun p : Nat => D.int p)
      [some (.val (.tup (rl N fun i => .int (h i)))), some (.val (.tup (l.map fun p : Nat => D.int p))), some (.own (.lst (rl n fun _ => .int 0))), some (.val (.int 0)), none, none]) PS := by
  refine for_nx (fun k ρ => ∃ x5 x6, ρ = [some (.val (.tup (rl N fun i => .int (h i)))), some (.val (.tup (l.map fun p : Nat => D.int p))), some (.own (.lst (rl n fun q => .int ((gS n h (l.take k)).2 q)))), some (.val (.int (gS n h (l.take k)).1)), x5, x6]) ⟨none, none, rfl⟩ ?_ ?_
  · rintro k d ρ e hk ⟨x5, x6, rfl⟩
    rw [List.getElem?_map] at e
    rcases e2 : l[k]? with _ | p
    · rw [e2] at e; cases e
    · rw [e2] at e; cases e
      have hp1 : p < n := hp p (List.mem_of_getElem? e2)
      have hc : (gS n h (l.take k)).1 < 2 ^ n := gS_lt _ _ (fun q hq => hp q (List.mem_of_mem_take hq)) (Nat.two_pow_pos n)
      have hc2 := or_bit_lt hc hp1
      rw [gS_succ e2]
      generalize gS n h (l.take k) = cf at hc hc2 ⊢
      have h0 : (p : Int) ≤ (n : Int) - 1 := by omega
      have h0' : (n : Int) - 1 - p ≤ 1000000 := by omega
      have e4 : Builtin.bitOr (cf.1 : Int) (2 ^ (n - 1 - p)) = ((cf.1 ||| 2 ^ (n - 1 - p) : Nat) : Int) := by
        rw [show (2 : Int) ^ (n - 1 - p) = ((2 ^ (n - 1 - p) : Nat) : Int) by simp, nbor]
      rw [← hN] at hc hc2
      simp [hl, h0, h0', e4, hc, hc2, hp1, rl_set]
      simp [stp]
      intro a _
      split <;> rfl
  · rintro ρ ⟨x5, x6, rfl⟩
    rw [List.length_map, List.take_length]
    exact w _ _ _
theorem growth_eq {n N : Nat} {h : Nat → Int} {l : List Nat} (hn : n ≤ 4) (hN : N = 2 ^ n) (hl : l.length = n) (hp : ∀ p ∈ l, p < n) :
    m__law_growth [.val (.tup (rl N fun i => .int (h i))), .val (.lst (l.map fun p : Nat => D.int p))] = some (.val (.tup (rl n fun q => .int ((gS n h l).2 q))), [none, none]) := by
  have hr : RepOk 1 n := repOk_small (by omega) (by omega) (by decide)
  apply Ok.eq
  rw [m__law_growth, ok_fnM]
  simp [hl, hr, rep_rl]
  refine loop_ok hn hN hl hp rfl fun x5 x6 c => ?_
  simp
theorem greedy_eq {n N : Nat} {h : Nat → Int} {l : List Nat} (hn : n ≤ 4) (hN : N = 2 ^ n) (hl : l.length = n) (hp : ∀ p ∈ l, p < n) :
    m_greedy [.val (.tup (rl N fun i => .int (h i))), .val (.tup (l.map fun p : Nat => D.int p))] = some (.tmp (.lst (rl n fun q => .int ((gS n h l).2 q))), [none, none]) := by
  have hr : RepOk 1 n := repOk_small (by omega) (by omega) (by decide)
  apply Ok.eq
  rw [m_greedy, ok_fnM]
  simp [hl, hr, rep_rl]
  refine loop_ok2 hn hN hl hp fun x5 x6 c => ?_
  simp

/-! the kind cut -/
def br (P : Nat → Option Int) (s t : Nat) : Bool := match P (s &&& t), P (s ||| t) with
  | some a, some b => decide (pv P s + pv P t < a + b)
  | _, _ => true
@[simp] theorem cut_zero : inF (.str "cut") [.str "zero", .str "one"] = false := by decide
@[simp] theorem cut_lgc : inF (.str "cut") [.str "least", .str "greatest", .str "cut"] = true := by decide
@[simp] theorem inG_tup {d : D} {ds : List D} : inG false d (.tup ds) = if flatD d && ds.all flatD then some (.val (.bl (inF d ds))) else none := rfl
@[simp] theorem flat_str {s : Str} : flatD (.str s) = true := rfl
@[simp] theorem eq_cg : eqG (.str "cut") (.str "greatest") = some (.val (.bl false)) := by rw [eqG_str (by decide +kernel) (by decide +kernel), show ((Str.ofString "cut") == (Str.ofString "greatest")) = false from by decide +kernel]
@[simp] theorem eq_cc : eqG (.str "cut") (.str "cut") = some (.val (.bl true)) := by rw [eqG_str (by decide +kernel) (by decide +kernel), show ((Str.ofString "cut") == (Str.ofString "cut")) = true from by decide +kernel]
theorem times_eq {o : Option Int} : m__law_times [.val (toD o), .val (.int 2)] = some (.val (toD (o.map (· * 2))), [none, none]) := by
  apply Ok.eq
  rw [m__law_times, ok_fnM]
  cases o <;> simp [toD]
def sumO : Option Int → Option Int → Option Int
  | some x, some y => some (x + y)
  | _, _ => none
theorem sum_eq {a b : Option Int} : m__law_sum [.val (.lst [toD a, toD b])] = some (.val (toD (sumO a b)), [none]) := by
  apply Ok.eq
  rw [m__law_sum, ok_fnM]
  cases a <;> cases b <;> simp [toD, sumO, forL_consI, forL_nilI]
end Ev.W

set_option Elab.async false
set_option linter.all false
set_option maxRecDepth 100000
set_option autoImplicit false
namespace Ev.W
open PySem PySem.Spec PyProof.Rows L2 Ev
theorem take_mem2 {α : Type} {ps : List α} {k : Nat} {d : α} (e : ps[k]? = some d) (x : α) : x ∈ ps.take (k + 1) ↔ x ∈ ps.take k ∨ x = d := by
  rw [List.take_add_one, e]; simp
def abvO (o : Option Int) (k : Int) : Bool := match o with
  | none => true
  | some x => decide (k < x)
theorem above_eq {o : Option Int} {k : Int} : m__law_above [.val (toD o), .val (.int k)] = some (.val (.bl (abvO o k)), [none, none]) := by
  apply Ok.eq
  rw [m__law_above, ok_fnM]
  cases o <;> simp [toD, abvO]
theorem br_eq {P : Nat → Option Int} {s t : Nat} : br P s t = abvO (sumO (P (s &&& t)) (P (s ||| t))) (pv P s + pv P t) := by
  unfold br
  cases P (s &&& t) <;> cases P (s ||| t) <;> rfl
theorem and_lt {n s t : Nat} (h : s < 2 ^ n) : s &&& t < 2 ^ n := Nat.lt_of_le_of_lt Nat.and_le_left h
theorem two_ok {P : Nat → Option Int} {n N : Nat} {Q : Opd × Rho → Prop} (hN : N = 2 ^ n) (w : ∀ b : Bool, (b = true ↔ ∃ s ∈ opens P N, ∃ t ∈ opens P N, br P s t = true) → Q (.val (.bl b), [none, none, none])) :
    Ok (m__law_breach_two [.val (.str "cut"), .val (.tup (rl N fun i => toD (P i))), .bor (.lst ((opens P N).map fun i : Nat => D.int i))]) Q := by
  rw [m__law_breach_two, ok_fnM]
  simp
  refine for_inv (fun k ρ => ∃ x3 x4 x5 x6, ρ = [some (.val (.str "cut")), some (.val (.tup (rl N fun i => toD (P i)))), some (.bor (.lst ((opens P N).map fun i : Nat => D.int i))), x3, x4, x5, x6] ∧ ∀ s ∈ (opens P N).take k, ∀ t ∈ opens P N, br P s t = false) ⟨none, none, none, none, rfl, by simp⟩ ?_ ?_
  · rintro k d ρ e hk ⟨x3, x4, x5, x6, rfl, hk1⟩
    rw [List.getElem?_map] at e
    rcases e2 : (opens P N)[k]? with _ | s
    · rw [e2] at e; cases e
    rw [e2] at e; cases e
    have hs : s ∈ opens P N := List.mem_of_getElem? e2
    have hs1 := opens_mem.1 hs
    have ht := take_mem2 e2
    simp
    refine for_inv (fun k ρ => ∃ x4 x5 x6, ρ = [some (.val (.str "cut")), some (.val (.tup (rl N fun i => toD (P i)))), some (.bor (.lst ((opens P N).map fun i : Nat => D.int i))), some (.val (.int s)), x4, x5, x6] ∧ ∀ t ∈ (opens P N).take k, br P s t = false) ⟨_, _, _, rfl, by simp⟩ ?_ ?_
    · rintro j d ρ e hj ⟨x4, x5, x6, rfl, hj1⟩
      rw [List.getElem?_map] at e
      rcases e3 : (opens P N)[j]? with _ | t
      · rw [e3] at e; cases e
      rw [e3] at e; cases e
      have ht2 : t ∈ opens P N := List.mem_of_getElem? e3
      have ht1 := opens_mem.1 ht2
      have ht3 := take_mem2 e3
      have l1 : s &&& t < N := by have := hs1.1; subst hN; exact and_lt this
      have l2 : s ||| t < N := by have := hs1.1; have := ht1.1; subst hN; exact Nat.or_lt_two_pow ‹_› ‹_›
      simp [hs1.1, ht1.1, nband, nbor, l1, l2, times_eq, sum_eq, opens_toD hs, opens_toD ht2, above_eq, ← br_eq]
      refine Br.mk (fun hb => w true ⟨fun _ => ⟨s, hs, t, ht2, hb⟩, fun _ => rfl⟩) fun hb x hx => ?_
      rcases (ht3 x).1 hx with h | rfl
      · exact hj1 x h
      · exact hb
    · rintro ρ ⟨x4, x5, x6, rfl, hj1⟩
      simp
      intro x hx t ht2
      rcases (ht x).1 hx with h | rfl
      · exact hk1 x h t ht2
      · exact hj1 t (by rw [List.length_map, List.take_length]; exact ht2)
  · rintro ρ ⟨x3, x4, x5, x6, rfl, hk1⟩
    simp
    refine w false ⟨fun h => (by cases h), fun hx => ?_⟩
    obtain ⟨s, hs, t, ht, h⟩ := hx
    rw [hk1 s (by rw [List.length_map, List.take_length]; exact hs) t ht] at h
    cases h
def cutOk (P : Nat → Option Int) (N : Nat) : Bool := (opens P N).all fun s => (opens P N).all fun t => !br P s t
theorem keeps_eq {P : Nat → Option Int} {n N : Nat} (hN : N = 2 ^ n) (hn : n ≤ 4) : m__law_keeps [.val (.str "cut"), .val (.tup (rl N fun i => toD (P i)))] = some (.val (.bl (cutOk P N)), [none, none]) := by
  have hN2 : N ≤ 16 := by subst hN; exact Nat.pow_le_pow_right (by decide) hn
  have z0 : inR N = true := by unfold inR; rw [Bool.and_eq_true, decide_eq_true_iff, decide_eq_true_iff]; omega
  apply Ok.eq
  rw [m__law_keeps, ok_fnM]
  simp [z0, rangeD_rl]
  refine ok_comp (φ := fun i : Nat => D.int i) (fun i => (P i).isSome) (fun i : Nat => D.int i) (fun i hi => ?_) (by simp; exact sz_le (by omega)) ?_
  · simp at hi
    simp [hi]
    cases P i <;> simp
  · simp
    refine two_ok hN fun b hb => ?_
    simp
    unfold cutOk
    cases b with
    | true =>
      obtain ⟨s, hs, t, ht, h⟩ := hb.1 rfl
      simp
      exact ⟨s, hs, t, ht, h⟩
    | false =>
      simp
      intro s hs t ht
      cases h : br P s t with
      | false => rfl
      | true => exact absurd (hb.2 ⟨s, hs, t, ht, h⟩) (by simp)
def ords : Nat → List (List Nat)
  | 0 => [[]]
  | n + 1 => (ords n).flatMap fun row => (List.range (row.length + 1)).map fun spot => row.take spot ++ [n] ++ row.drop spot
theorem ords_ok : ∀ n : Nat, n < 5 → ∀ l ∈ ords n, l.length = n ∧ (∀ p ∈ l, p < n) ∧ l.Nodup := by
  intro n hn
  have : n = 0 ∨ n = 1 ∨ n = 2 ∨ n = 3 ∨ n = 4 := by omega
  rcases this with rfl | rfl | rfl | rfl | rfl <;> decide +kernel
def ordD (l : List Nat) : D := .lst (l.map fun p : Nat => D.int p)
theorem orders_eq {n : Nat} (h1 : 1 ≤ n) (h2 : n ≤ 4) : m__law_orders [.val (.int n)] = some (.val (.lst ((ords n).map ordD)), [none]) := by
  have : n = 1 ∨ n = 2 ∨ n = 3 ∨ n = 4 := by omega
  rcases this with rfl | rfl | rfl | rfl <;> kernel_rfl
end Ev.W

set_option Elab.async false
set_option linter.all false
set_option maxRecDepth 100000
set_option autoImplicit false
namespace Ev.W
open PySem PySem.Spec PyProof.Rows L2 Ev
theorem maxI_all {l : List Int} (h : l ≠ []) : ∃ m, maxI l = some m ∧ (∀ x ∈ l, x ≤ m) ∧ m ∈ l := by
  cases l with
  | nil => exact absurd rfl h
  | cons a l =>
    obtain ⟨h1, h2, h3⟩ := foldl_max l a
    refine ⟨_, rfl, fun x hx => ?_, ?_⟩
    · rcases List.mem_cons.1 hx with rfl | hx
      · exact h1
      · exact h2 x hx
    · rcases h3 with h3 | h3
      · rw [h3]; exact List.mem_cons_self ..
      · exact List.mem_cons_of_mem _ h3
theorem minI_all {l : List Int} (h : l ≠ []) : ∃ m, minI l = some m ∧ (∀ x ∈ l, m ≤ x) ∧ m ∈ l := by
  cases l with
  | nil => exact absurd rfl h
  | cons a l =>
    obtain ⟨h1, h2, h3⟩ := foldl_min l a
    refine ⟨_, rfl, fun x hx => ?_, ?_⟩
    · rcases List.mem_cons.1 hx with rfl | hx
      · exact h1
      · exact h2 x hx
    · rcases h3 with h3 | h3
      · rw [h3]; exact List.mem_cons_self ..
      · exact List.mem_cons_of_mem _ h3

/-! the plain law -/
theorem cutOk_iff {P : Nat → Option Int} {N : Nat} : cutOk P N = true ↔ ∀ s ∈ opens P N, ∀ t ∈ opens P N, br P s t = false := by
  unfold cutOk
  simp
def SM (h : Nat → Int) (N : Nat) : Prop := ∀ s < N, ∀ t < N, h (s &&& t) + h (s ||| t) ≤ h s + h t
theorem cut_sm {h : Nat → Int} {N : Nat} : cutOk (fun i => some (h i)) N = true ↔ SM h N := by
  rw [cutOk_iff]
  have hm : ∀ s, s ∈ opens (fun i => some (h i)) N ↔ s < N := fun s => by rw [opens_mem]; simp
  have hb : ∀ s t, br (fun i => some (h i)) s t = false ↔ h (s &&& t) + h (s ||| t) ≤ h s + h t := fun s t => by
    unfold br pv
    simp
  constructor
  · intro H s hs t ht
    exact (hb s t).1 (H s ((hm s).2 hs) t ((hm t).2 ht))
  · intro H s hs t ht
    exact (hb s t).2 (H s ((hm s).1 hs) t ((hm t).1 ht))
theorem bel_iff {n N : Nat} {h g : Nat → Int} (h1 : 1 ≤ N) : bel n N h g = true ↔ (∀ i < N, 0 ≤ sl n h g i) ∧ sl n h g (N - 1) = 0 := by
  obtain ⟨m, e, a1, a2⟩ := minI_all (l := (List.range N).map (sl n h g)) (by intro e; have := congrArg List.length e; simp at this; omega)
  unfold bel
  rw [e, Bool.and_eq_true, decide_eq_true_iff, decide_eq_true_iff]
  constructor
  · rintro ⟨h1, h2⟩
    exact ⟨fun i hi => Int.le_trans h1 (a1 _ (List.mem_map_of_mem (List.mem_range.2 hi))), h2⟩
  · rintro ⟨h1, h2⟩
    obtain ⟨i, hi, rfl⟩ := List.mem_map.1 a2
    exact ⟨h1 i (List.mem_range.1 hi), h2⟩
def bits (n : Nat) : List Nat → Nat
  | [] => 0
  | p :: l => 2 ^ (n - 1 - p) ||| bits n l
def tot (n : Nat) (h : Nat → Int) (i : Nat) : List Nat → Nat → Int
  | [], _ => 0
  | p :: l, c => (h (c ||| 2 ^ (n - 1 - p)) - h c) * (bv n i p : Int) + tot n h i l (c ||| 2 ^ (n - 1 - p))
theorem fold_out {n : Nat} {h : Nat → Int} {p : Nat} : ∀ (l : List Nat) (cf : Nat × (Nat → Int)), p ∉ l → (l.foldl (stp n h) cf).2 p = cf.2 p
  | [], cf, _ => rfl
  | q :: l, cf, hp => by
    rw [List.foldl_cons, fold_out l _ (fun h => hp (List.mem_cons_of_mem _ h))]
    have : p ≠ q := fun e => hp (by rw [e]; exact List.mem_cons_self ..)
    simp [stp, this]
theorem tot_eq {n : Nat} {h : Nat → Int} {i : Nat} : ∀ (l : List Nat) (cf : Nat × (Nat → Int)), l.Nodup → (l.map fun p => (l.foldl (stp n h) cf).2 p * (bv n i p : Int)).sum = tot n h i l cf.1
  | [], cf, _ => rfl
  | p :: l, cf, hd => by
    obtain ⟨h1, h2⟩ := List.nodup_cons.1 hd
    rw [List.map_cons, List.sum_cons, List.foldl_cons, tot_eq l _ h2, fold_out l _ h1]
    simp [stp, tot]
theorem sum_perm {f : Nat → Int} {l m : List Nat} (h : l.Perm m) : (l.map f).sum = (m.map f).sum := by
  induction h with
  | nil => rfl
  | cons x _ ih => simp [ih]
  | swap x y l => simp; omega
  | trans _ _ ih1 ih2 => exact ih1.trans ih2
theorem ords_all : ∀ n : Nat, n < 5 → ∀ l ∈ ords n, l.Nodup ∧ l.Perm (List.range n) ∧ bits n l = 2 ^ n - 1 ∧ (∀ p ∈ l, bv n (2 ^ n - 1) p = 1) ∧ (∀ a ≤ n, (∀ p ∈ l.take a, bv n (bits n (l.take a)) p = 1) ∧ ∀ p ∈ l.drop a, bv n (bits n (l.take a)) p = 0) := by
  intro n hn
  have : n = 0 ∨ n = 1 ∨ n = 2 ∨ n = 3 ∨ n = 4 := by omega
  rcases this with rfl | rfl | rfl | rfl | rfl <;> decide +kernel
theorem ords_chain : ∀ n : Nat, n < 5 → ∀ s < 2 ^ n, ∀ t < 2 ^ n, ∃ l ∈ ords n, bits n (l.take (pop (s &&& t))) = s &&& t ∧ bits n (l.take (pop s)) = s ∧ bits n (l.take (pop (s ||| t))) = s ||| t := by
  intro n hn
  have : n = 0 ∨ n = 1 ∨ n = 2 ∨ n = 3 ∨ n = 4 := by omega
  rcases this with rfl | rfl | rfl | rfl | rfl <;> decide +kernel
theorem pop_bound : ∀ n : Nat, n < 5 → ∀ s < 2 ^ n, pop s ≤ n := by
  intro n hn
  have : n = 0 ∨ n = 1 ∨ n = 2 ∨ n = 3 ∨ n = 4 := by omega
  rcases this with rfl | rfl | rfl | rfl | rfl <;> decide +kernel
theorem Gs_tot {n : Nat} {h : Nat → Int} {i : Nat} {l : List Nat} (hd : l.Nodup) (hp : l.Perm (List.range n)) : Gs n (gS n h l).2 i = tot n h i l 0 := by
  have := tot_eq (n := n) (h := h) (i := i) l (0, fun _ => 0) hd
  rw [← this]
  exact (sum_perm hp).symm
theorem tele {n : Nat} {h : Nat → Int} {i : Nat} : ∀ (l : List Nat) (c : Nat), (∀ p ∈ l, bv n i p = 1) → h c + tot n h i l c = h (c ||| bits n l)
  | [], c, _ => by simp [tot, bits]
  | p :: l, c, hb => by
    have ih := tele (n := n) (h := h) (i := i) l (c ||| 2 ^ (n - 1 - p)) (fun q hq => hb q (List.mem_cons_of_mem _ hq))
    rw [tot, hb p (List.mem_cons_self ..), bits, ← Nat.or_assoc]
    simp
    omega
theorem tot_zero {n : Nat} {h : Nat → Int} {i : Nat} : ∀ (l : List Nat) (c : Nat), (∀ p ∈ l, bv n i p = 0) → tot n h i l c = 0
  | [], c, _ => rfl
  | p :: l, c, hb => by
    rw [tot, hb p (List.mem_cons_self ..), tot_zero l _ (fun q hq => hb q (List.mem_cons_of_mem _ hq))]
    simp
theorem tot_app {n : Nat} {h : Nat → Int} {i : Nat} : ∀ (l m : List Nat) (c : Nat), tot n h i (l ++ m) c = tot n h i l c + tot n h i m (c ||| bits n l)
  | [], m, c => by simp [tot, bits]
  | p :: l, m, c => by
    rw [List.cons_append, tot, tot, tot_app l m, bits, ← Nat.or_assoc]
    omega
theorem chain {n : Nat} {h : Nat → Int} {l : List Nat} {a : Nat} (hn : n < 5) (hl : l ∈ ords n) (ha : a ≤ n) : h 0 + Gs n (gS n h l).2 (bits n (l.take a)) = h (bits n (l.take a)) := by
  obtain ⟨h1, h2, h3, h4, h5⟩ := ords_all n hn l hl
  obtain ⟨h6, h7⟩ := h5 a ha
  rw [Gs_tot h1 h2]
  have e : l = l.take a ++ l.drop a := (List.take_append_drop a l).symm
  have e2 := tot_app (n := n) (h := h) (i := bits n (l.take a)) (l.take a) (l.drop a) 0
  rw [← e, tot_zero (l.drop a) _ h7] at e2
  have e3 := tele (n := n) (h := h) (i := bits n (l.take a)) (l.take a) 0 h6
  rw [Nat.zero_or] at e3
  omega
theorem bv_bit (n i p : Nat) : bv n i p = (i.testBit (n - 1 - p)).toNat := by rw [Nat.toNat_testBit]; rfl
theorem up {n N : Nat} {h : Nat → Int} (hN : N = 2 ^ n) (sm : SM h N) {i : Nat} (hi : i < N) : ∀ (l : List Nat) (c : Nat), (∀ p ∈ l, p < n) → c < N → h (i &&& c) + tot n h i l c ≤ h (i &&& (c ||| bits n l))
  | [], c, _, _ => by simp [tot, bits]
  | p :: l, c, hp, hc => by
    have hc' : c ||| 2 ^ (n - 1 - p) < N := by subst hN; exact or_bit_lt hc (hp p (List.mem_cons_self ..))
    have ih := up hN sm hi l (c ||| 2 ^ (n - 1 - p)) (fun q hq => hp q (List.mem_cons_of_mem _ hq)) hc'
    rw [tot, bits, ← Nat.or_assoc]
    generalize hk : n - 1 - p = k at ih hc' ⊢
    have key : h (i &&& c) + (h (c ||| 2 ^ k) - h c) * (bv n i p : Int) ≤ h (i &&& (c ||| 2 ^ k)) := by
      rw [bv_bit, hk]
      cases hb : i.testBit k with
      | false =>
        have e : i &&& (c ||| 2 ^ k) = i &&& c := by
          apply Nat.eq_of_testBit_eq
          intro j
          rw [Nat.testBit_and, Nat.testBit_and, Nat.testBit_or, Nat.testBit_two_pow]
          by_cases hj : k = j
          · subst hj; rw [hb]; simp
          · simp [hj]
        rw [e]
        simp
      | true =>
        have hs : i &&& (c ||| 2 ^ k) < N := Nat.lt_of_le_of_lt Nat.and_le_left hi
        have := sm (i &&& (c ||| 2 ^ k)) hs c hc
        have e1 : (i &&& (c ||| 2 ^ k)) &&& c = i &&& c := by
          apply Nat.eq_of_testBit_eq
          intro j
          simp only [Nat.testBit_and, Nat.testBit_or, Nat.testBit_two_pow]
          cases i.testBit j <;> cases c.testBit j <;> simp
        have e2 : (i &&& (c ||| 2 ^ k)) ||| c = c ||| 2 ^ k := by
          apply Nat.eq_of_testBit_eq
          intro j
          simp only [Nat.testBit_and, Nat.testBit_or, Nat.testBit_two_pow]
          by_cases hj : k = j
          · subst hj; rw [hb]; cases c.testBit k <;> simp
          · cases i.testBit j <;> cases c.testBit j <;> simp [hj]
        rw [e1, e2] at this
        simp
        omega
    omega
theorem bv_sum : ∀ (n s t p : Nat), bv n t p + bv n s p = bv n (s &&& t) p + bv n (s ||| t) p := by
  intro n s t p
  simp only [bv_bit, Nat.testBit_and, Nat.testBit_or]
  cases s.testBit (n - 1 - p) <;> cases t.testBit (n - 1 - p) <;> rfl
theorem Gs_add {n : Nat} {g : Nat → Int} {s t : Nat} : Gs n g t + Gs n g s = Gs n g (s &&& t) + Gs n g (s ||| t) := by
  unfold Gs
  generalize List.range n = l
  induction l with
  | nil => rfl
  | cons p l ih =>
    simp only [List.map_cons, List.sum_cons]
    have e : g p * (bv n t p : Int) + g p * (bv n s p : Int) = g p * (bv n (s &&& t) p : Int) + g p * (bv n (s ||| t) p : Int) := by
      rw [← Int.mul_add, ← Int.mul_add]
      congr 1
      have := bv_sum n s t p
      omega
    omega
theorem math_a {n N : Nat} (h1 : 1 ≤ n) (h2 : n ≤ 4) (hN : N = 2 ^ n) (h : Nat → Int) : ((ords n).all fun l => bel n N h (gS n h l).2) = cutOk (fun i => some (h i)) N := by
  have hN1 : 1 ≤ N := by subst hN; exact Nat.one_le_two_pow
  rw [Bool.eq_iff_iff, cut_sm, List.all_eq_true]
  constructor
  · intro H s hs t ht
    subst hN
    obtain ⟨l, hl, e1, e2, e3⟩ := ords_chain n (by omega) s hs t ht
    have b := ((bel_iff hN1).1 (H l hl)).1 t ht
    have l1 : s &&& t < 2 ^ n := and_lt hs
    have l2 : s ||| t < 2 ^ n := Nat.or_lt_two_pow hs ht
    have c1 := chain (h := h) (a := pop (s &&& t)) (by omega) hl (pop_bound n (by omega) _ l1)
    have c2 := chain (h := h) (a := pop s) (by omega) hl (pop_bound n (by omega) _ hs)
    have c3 := chain (h := h) (a := pop (s ||| t)) (by omega) hl (pop_bound n (by omega) _ l2)
    rw [e1] at c1
    rw [e2] at c2
    rw [e3] at c3
    have := Gs_add (n := n) (g := (gS n h l).2) (s := s) (t := t)
    unfold sl at b
    omega
  · intro sm l hl
    obtain ⟨a1, a2, a3, a4, a5⟩ := ords_all n (by omega) l hl
    obtain ⟨b1, b2, b3⟩ := ords_ok n (by omega) l hl
    rw [bel_iff hN1]
    constructor
    · intro i hi
      have := up hN sm hi l 0 b2 (by omega)
      rw [Nat.and_zero, Nat.zero_or, a3, Nat.and_two_pow_sub_one_eq_mod, Nat.mod_eq_of_lt (by omega)] at this
      unfold sl
      rw [Gs_tot a1 a2]
      omega
    · have := tele (h := h) l 0 a4
      rw [Nat.zero_or, a3] at this
      unfold sl
      rw [Gs_tot a1 a2, hN]
      omega
theorem pop_bit (x : Nat) : pop x = (x.testBit 0).toNat + (x.testBit 1).toNat + (x.testBit 2).toNat + (x.testBit 3).toNat := by
  simp only [Nat.toNat_testBit]
  unfold pop
  simp
theorem bit_ineq (a b s t : Bool) : (((a && b) ^^ (s && t)).toNat) + (((a || b) ^^ (s || t)).toNat) ≤ (a ^^ s).toNat + (b ^^ t).toNat := by
  cases a <;> cases b <;> cases s <;> cases t <;> decide
theorem pop_ineq (a b s t : Nat) : pop ((a &&& b) ^^^ (s &&& t)) + pop ((a ||| b) ^^^ (s ||| t)) ≤ pop (a ^^^ s) + pop (b ^^^ t) := by
  simp only [pop_bit, Nat.testBit_xor, Nat.testBit_and, Nat.testBit_or]
  have h0 := bit_ineq (a.testBit 0) (b.testBit 0) (s.testBit 0) (t.testBit 0)
  have h1 := bit_ineq (a.testBit 1) (b.testBit 1) (s.testBit 1) (t.testBit 1)
  have h2 := bit_ineq (a.testBit 2) (b.testBit 2) (s.testBit 2) (t.testBit 2)
  have h3 := bit_ineq (a.testBit 3) (b.testBit 3) (s.testBit 3) (t.testBit 3)
  omega
theorem hts_all {P : Nat → Option Int} {N : Nat} {big : Int} (ho : opens P N ≠ []) (i : Nat) : (∀ j ∈ opens P N, hts P N big i ≤ pv P j + big * pop (j ^^^ i)) ∧ ∃ j ∈ opens P N, hts P N big i = pv P j + big * pop (j ^^^ i) := by
  obtain ⟨m, e, h1, h2⟩ := minI_all (l := (opens P N).map fun j => pv P j + big * pop (j ^^^ i)) (by simpa using ho)
  have e2 := hts_some (big := big) (i := i) ho
  rw [e] at e2
  cases e2
  obtain ⟨j, hj, e3⟩ := List.mem_map.1 h2
  exact ⟨fun j hj => h1 _ (List.mem_map_of_mem (f := fun j => pv P j + big * pop (j ^^^ i)) hj), j, hj, e3.symm⟩
theorem br_false {P : Nat → Option Int} {s t : Nat} : br P s t = false ↔ (P (s &&& t)).isSome = true ∧ (P (s ||| t)).isSome = true ∧ pv P (s &&& t) + pv P (s ||| t) ≤ pv P s + pv P t := by
  unfold br
  cases e1 : P (s &&& t) with
  | none => simp
  | some a =>
    cases e2 : P (s ||| t) with
    | none => simp
    | some b =>
      have p1 : pv P (s &&& t) = a := by unfold pv; rw [e1]; rfl
      have p2 : pv P (s ||| t) = b := by unfold pv; rw [e2]; rfl
      rw [p1, p2]
      simp
theorem math_b {n N : Nat} (h2 : n ≤ 4) (hN : N = 2 ^ n) {P : Nat → Option Int} (ho : opens P N ≠ []) {big : Int} (hb : 0 ≤ big) (h : cutOk P N = true) : cutOk (fun i => some (hts P N big i)) N = true := by
  rw [cut_sm]
  rw [cutOk_iff] at h
  intro s hs t ht
  obtain ⟨a1, a, ha, ea⟩ := hts_all (big := big) ho s
  obtain ⟨b1, b, hb', eb⟩ := hts_all (big := big) ho t
  obtain ⟨c1, _⟩ := hts_all (big := big) ho (s &&& t)
  obtain ⟨d1, _⟩ := hts_all (big := big) ho (s ||| t)
  obtain ⟨q1, q2, q3⟩ := br_false.1 (h a ha b hb')
  have ha2 := (opens_mem.1 ha).1
  have hb2 := (opens_mem.1 hb').1
  have l1 : a &&& b < N := by subst hN; exact and_lt ha2
  have l2 : a ||| b < N := by subst hN; exact Nat.or_lt_two_pow ha2 hb2
  have c2 := c1 _ (opens_mem.2 ⟨l1, q1⟩)
  have d2 := d1 _ (opens_mem.2 ⟨l2, q2⟩)
  have k := pop_ineq a b s t
  have k2 : big * (pop ((a &&& b) ^^^ (s &&& t)) : Int) + big * (pop ((a ||| b) ^^^ (s ||| t)) : Int) ≤ big * (pop (a ^^^ s) : Int) + big * (pop (b ^^^ t) : Int) := by
    rw [← Int.mul_add, ← Int.mul_add]
    exact Int.mul_le_mul_of_nonneg_left (by omega) hb
  omega
theorem xor_pop : ∀ i < 16, ∀ j < 16, i ≠ j → 1 ≤ pop (j ^^^ i) := by decide
theorem math_c {n N : Nat} (h2 : n ≤ 4) (hN : N = 2 ^ n) {P : Nat → Option Int} (ho : opens P N ≠ []) {big lo hi : Int} (hlo : ∀ i ∈ opens P N, lo ≤ pv P i) (hhi : ∀ i ∈ opens P N, pv P i ≤ hi) (hb : 2 * (hi - lo) < big) (h : cutOk (fun i => some (hts P N big i)) N = true) : cutOk P N = true := by
  have hN2 : N ≤ 16 := by subst hN; exact Nat.pow_le_pow_right (by decide) h2
  have hle : lo ≤ hi := by
    obtain ⟨a1, a, ha, ea⟩ := hts_all (big := big) ho 0
    have := hlo a ha; have := hhi a ha; omega
  have far : ∀ i < N, ∀ j ∈ opens P N, i ≠ j → lo + big ≤ pv P j + big * pop (j ^^^ i) := fun i hi j hj e => by
    have h1 := xor_pop i (by omega) j (by have := (opens_mem.1 hj).1; omega) e
    have h3 := hlo j hj
    have h4 : big * 1 ≤ big * (pop (j ^^^ i) : Int) := Int.mul_le_mul_of_nonneg_left (by omega) (by omega)
    omega
  have near : ∀ i ∈ opens P N, hts P N big i = pv P i := fun i hi => by
    obtain ⟨a1, a, ha, ea⟩ := hts_all (big := big) ho i
    have h1 := a1 i hi
    rw [Nat.xor_self] at h1
    simp [pop] at h1
    by_cases e : i = a
    · subst e
      rw [Nat.xor_self] at ea
      simpa [pop] using ea
    · have := far i (opens_mem.1 hi).1 a ha e
      have := hlo i hi
      have := hhi i hi
      omega
  have shut : ∀ i < N, (P i).isSome = false → lo + big ≤ hts P N big i := fun i hi hp => by
    obtain ⟨a1, a, ha, ea⟩ := hts_all (big := big) ho i
    rw [ea]
    refine far i hi a ha fun e => ?_
    subst e
    rw [(opens_mem.1 ha).2] at hp
    cases hp
  have low : ∀ i < N, lo ≤ hts P N big i := fun i hi => by
    cases hp : (P i).isSome with
    | true =>
      have m := opens_mem.2 ⟨hi, hp⟩
      rw [near i m]
      exact hlo i m
    | false => have := shut i hi hp; omega
  rw [cut_sm] at h
  rw [cutOk_iff]
  intro s hs t ht
  have hs1 := (opens_mem.1 hs).1
  have ht1 := (opens_mem.1 ht).1
  have l1 : s &&& t < N := by subst hN; exact and_lt hs1
  have l2 : s ||| t < N := by subst hN; exact Nat.or_lt_two_pow hs1 ht1
  have k := h s hs1 t ht1
  rw [near s hs, near t ht] at k
  have u1 := hhi s hs
  have u2 := hhi t ht
  have v1 := low _ l1
  have v2 := low _ l2
  rw [br_false]
  cases hp : (P (s &&& t)).isSome with
  | false => have := shut _ l1 hp; omega
  | true =>
    cases hq : (P (s ||| t)).isSome with
    | false => have := shut _ l2 hq; omega
    | true =>
      rw [near _ (opens_mem.2 ⟨l1, hp⟩), near _ (opens_mem.2 ⟨l2, hq⟩)] at k
      exact ⟨rfl, rfl, k⟩
end Ev.W

set_option Elab.async false
set_option linter.all false
set_option maxRecDepth 100000
set_option autoImplicit false
namespace Ev.W
open PySem PySem.Spec PyProof.Rows L2 Ev
theorem ite_int {c : Prop} [Decidable c] {a b : Int} : (if c then D.int a else D.int b) = D.int (if c then a else b) := by split <;> rfl
theorem changed_ok {s : D} {n : Nat} {g : Nat → Int} {Q : Opd × Rho → Prop} (gd : GD s) (h1 : 1 ≤ n) (h2 : n ≤ 4) (w : ∀ (g' : Nat → Int) s', GD s' → Q (.val (.tup (rl n fun p => .int (g' p))), [some (.own s'), none])) :
    Ok (m__law_changed [.own s, .val (.tup (rl n fun p => .int (g p)))]) Q := by
  rw [m__law_changed, ok_fnM]
  have n1 : (1 : Int) ≤ n := by omega
  have n2 : (n : Int) < 1152921504606846976 := by omega
  have n3 : (1 : Int) ≤ n + 1 := by omega
  have n4 : (n : Int) + 1 < 1152921504606846976 := by omega
  have g1 : GD (dS s 3) := by simp [gd]
  have g2 : GD (dS (dS s 3) 2) := by simp (maxDischargeDepth := 20) [gd]
  have g3 : GD (dS (dS (dS s 3) 2) n) := by simp (maxDischargeDepth := 20) [gd, n1, n2]
  have g4 : GD (dS (dS (dS (dS s 3) 2) n) (n + 1)) := by simp (maxDischargeDepth := 20) [gd, n1, n2, n3, n4]
  have a1 := dR_lo (k := 3) gd (by omega) (by omega)
  have a2 := dR_hi (k := 3) gd (by omega) (by omega)
  have hm : ∀ l, mulOk (1 + dR s 3) l = true := fun l => mulOk_l (by omega) (by omega)
  obtain ⟨u, hu, hu2⟩ : ∃ u : Nat, dR (dS (dS s 3) 2) n = u ∧ u < n := by
    have b1 := dR_lo g2 n1 n2
    have b2 := dR_hi g2 n1 n2
    exact ⟨(dR (dS (dS s 3) 2) n).toNat, by omega, by omega⟩
  obtain ⟨v, hv⟩ : ∃ v : Nat, dR (dS (dS (dS s 3) 2) n) (n + 1) = v := by
    have b1 := dR_lo g3 n3 n4
    exact ⟨(dR (dS (dS (dS s 3) 2) n) (n + 1)).toNat, by omega⟩
  by_cases hv2 : v < n
  · simp (maxDischargeDepth := 20) [gd, hm, n1, n2, n3, n4, hu, hv, hu2, rl_set, hv2, ite_int]
    exact w _ _ g4
  · simp (maxDischargeDepth := 20) [gd, hm, n1, n2, n3, n4, hu, hv, hu2, rl_set, hv2, ite_int]
    exact w _ _ g4
theorem order_ok {s : D} {n N : Nat} {h : Nat → Int} {l : List Nat} {Q : Opd × Rho → Prop} (gd : GD s) (h1 : 1 ≤ n) (h2 : n ≤ 4) (hN : N = 2 ^ n) (hl : l.length = n) (hp : ∀ p ∈ l, p < n)
    (w : ∀ s', GD s' → Q (.val (.bl true), [some (.own s'), none, none])) :
    Ok (m__law_order_ok [.own s, .val (.tup (rl N fun i => .int (h i))), .val (ordD l)]) Q := by
  have hN1 : 1 ≤ N := by subst hN; exact Nat.one_le_two_pow
  have hN2 : N ≤ 16 := by subst hN; exact Nat.pow_le_pow_right (by decide) h2
  rw [m__law_order_ok, ok_fnM]
  simp [ordD, growth_eq h2 hN hl hp, greedy_eq h2 hN hl hp, isi_llt, is_ints_eq (show n ≤ 16 by omega), neG_tup (intsOf_mapf _ _) (intsOf_mapf _ _), gains_ok_eq h2 hN2 hN1]
  refine changed_ok gd h1 h2 fun g' s' hs => ?_
  simp [gains_ok_eq h2 hN2 hN1]
  exact w s' hs
theorem oi_fun {N : Nat} {ps : List D} (hl : ps.length = N) (h : ∀ d ∈ ps, OI d) : ∃ P : Nat → Option Int, ps = rl N fun i => toD (P i) := by
  refine ⟨fun i => match ps[i]? with | some (.int k) => some k | _ => none, ?_⟩
  apply List.ext_getElem?
  intro k
  by_cases hk : k < N
  · rw [rl_get hk]
    have hk2 : k < ps.length := by omega
    rw [List.getElem?_eq_getElem hk2]
    rcases h _ (List.getElem_mem hk2) with e | ⟨i, e⟩ <;> simp [hk2, e, toD]
  · rw [List.getElem?_eq_none (by omega), List.getElem?_eq_none (by simp; omega)]
theorem toD_mem {P : Nat → Option Int} {N : Nat} (h : ∃ k, D.int k ∈ rl N fun i => toD (P i)) : opens P N ≠ [] := by
  obtain ⟨k, hk⟩ := h
  obtain ⟨i, hi, e⟩ := List.mem_map.1 hk
  intro e2
  have : i ∈ opens P N := opens_mem.2 ⟨by simpa using hi, by cases h : P i with | none => rw [h] at e; cases e | some x => rfl⟩
  rw [e2] at this
  cases this
theorem ords_len : ∀ n : Nat, n < 5 → (ords n).length ≤ 1000 := by
  intro n hn
  have : n = 0 ∨ n = 1 ∨ n = 2 ∨ n = 3 ∨ n = 4 := by omega
  rcases this with rfl | rfl | rfl | rfl | rfl <;> decide +kernel
theorem law_ok (ns : List Int) (hns : ns.length ≤ 63) : Ok (m_law [.val (.rol (ns.map D.int))]) fun p => p.1 = .val (.bl true) := by
  rw [m_law, ok_fnM]
  simp
  refine begin_ok hns fun s gd => ?_
  simp
  refine table_ok gd fun n ps s n1 n2 hl ho hx gd => ?_
  obtain ⟨N, hN⟩ : ∃ N, N = 2 ^ n := ⟨_, rfl⟩
  rw [← hN] at hl
  obtain ⟨P, rfl⟩ := oi_fun hl ho
  have hop := toD_mem hx
  have hN1 : 1 ≤ N := by subst hN; exact Nat.one_le_two_pow
  have hN2 : N ≤ 16 := by subst hN; exact Nat.pow_le_pow_right (by decide) n2
  clear hl ho hx
  simp
  refine ok_comp (φ := fun i => toD (P i)) (fun i => (P i).isSome) (fun i : Nat => D.int (pv P i)) (fun i hi => ?_) (by simp; exact sz_le (by omega)) ?_
  · simp at hi
    simp [hi]
    cases h : P i <;> simp [h, toD, pv]
  · rw [show (List.filter (fun i => (P i).isSome) (List.range N)) = opens P N from rfl]
    have hne : (opens P N).map (pv P) ≠ [] := by simpa using hop
    obtain ⟨mx, e1, mx1, mx2⟩ := maxI_all hne
    obtain ⟨mn, e2, mn1, mn2⟩ := minI_all hne
    have hspan : 0 ≤ mx - mn := by have := mx1 mn mn2; omega
    simp [maxG_lst (intsOf_mapf _ _) e1, minG_lst (intsOf_mapf _ _) e2]
    refine big_ok gd hspan fun b s hb gd => ?_
    simp [extended_eq hN2 hop, isi_llt, is_ints_eq hN2, heights_eq hN2 hop, neG_lst (intsOf_mapf _ _) (intsOf_mapf _ _), orders_eq n1 n2]
    have hA := math_a n1 n2 hN (hts P N b)
    have hB := math_b n2 hN hop hb
    have hC := math_c n2 hN (big := b) hop (lo := mn) (hi := mx) (fun i hi => mn1 _ (List.mem_map_of_mem hi)) (fun i hi => mx1 _ (List.mem_map_of_mem hi))
    generalize hts P N b = h at hA hB hC ⊢
    refine for_inv (fun k ρ => ∃ s x9, ρ = [some (.val (.rol (ns.map D.int))), some (.own s), some (.val (.tup [.int n, .tup (rl N fun i => toD (P i))])), some (.own (.lst ((opens P N).map fun i : Nat => D.int (pv P i)))), some (.val (.int (mx - mn))), some (.val (.int b)), some (.own (.lst (rl N fun i => .int (h i)))), some (.val (.tup (rl N fun i => .int (h i)))), some (.val (.lst ((ords n).map ordD))), x9, none, none] ∧ (x9 = none ∨ ∃ d, x9 = some (.val d)) ∧ GD s) ⟨_, _, rfl, .inl rfl, gd⟩ ?_ ?_
    · rintro k d ρ e hk ⟨s, x9, rfl, hx9, gd⟩
      rw [List.getElem?_map] at e
      rcases e2 : (ords n)[k]? with _ | l
      · rw [e2] at e; cases e
      rw [e2] at e; cases e
      obtain ⟨l1, l2, l3⟩ := ords_ok n (by omega) l (List.mem_of_getElem? e2)
      simp
      refine order_ok gd n1 n2 hN l1 l2 fun s gd => ?_
      simp [gd]
    · rintro ρ ⟨s, x9, rfl, hx9, gd⟩
      have hk1 : m__law_keeps [.val (.str "cut"), .val (.tup (rl N fun i => .int (h i)))] = some (.val (.bl (cutOk (fun i => some (h i)) N)), [none, none]) := keeps_eq (P := fun i => some (h i)) hN n2
      rcases hx9 with rfl | ⟨d9, rfl⟩
      · simp
        refine ok_comps (φ := ordD) (fun l : List Nat => .bl (bel n N h (gS n h l).2)) (fun l hl => ?_) ?_ ?_
        · obtain ⟨l1, l2, l3⟩ := ords_ok n (by omega) l hl
          simp [ordD, greedy_eq n2 hN l1 l2, below_eq n2 hN2 hN1]
        · rw [List.length_nil, Nat.zero_add]; exact sz_le (ords_len n (by omega))
        · have hAl : ((ords n).map fun l => bel n N h (gS n h l).2).all id = cutOk (fun i => some (h i)) N := by rw [← hA, List.all_map]; rfl
          have hall := allG_lst (bolsOf_mapf (fun l => bel n N h (gS n h l).2) (ords n))
          rw [hAl] at hall
          simp [hall, hk1, keeps_eq hN n2]
          refine Br.mk hB fun hk => Br.mk (fun _ => trivial) fun hb2 => ?_
          cases hc : cutOk (fun i => some (h i)) N with
          | false => rfl
          | true => exact absurd (hC (by simp at hb2; omega) hc) (by rw [hk]; simp)
      · simp
        refine ok_comps (φ := ordD) (fun l : List Nat => .bl (bel n N h (gS n h l).2)) (fun l hl => ?_) ?_ ?_
        · obtain ⟨l1, l2, l3⟩ := ords_ok n (by omega) l hl
          simp [ordD, greedy_eq n2 hN l1 l2, below_eq n2 hN2 hN1]
        · rw [List.length_nil, Nat.zero_add]; exact sz_le (ords_len n (by omega))
        · have hAl : ((ords n).map fun l => bel n N h (gS n h l).2).all id = cutOk (fun i => some (h i)) N := by rw [← hA, List.all_map]; rfl
          have hall := allG_lst (bolsOf_mapf (fun l => bel n N h (gS n h l).2) (ords n))
          rw [hAl] at hall
          simp [hall, hk1, keeps_eq hN n2]
          refine Br.mk hB fun hk => Br.mk (fun _ => trivial) fun hb2 => ?_
          cases hc : cutOk (fun i => some (h i)) N with
          | false => rfl
          | true => exact absurd (hC (by simp at hb2; omega) hc) (by rw [hk]; simp)
theorem law_true (ns : List Int) (h : ns.length ≤ 63) : ∃ post, m_law [.val (.rol (ns.map D.int))] = some (.val (.bl true), post) := by
  obtain ⟨⟨o, post⟩, e, h⟩ := law_ok ns h
  dsimp at h
  subst h
  exact ⟨post, e⟩
end Ev.W

set_option Elab.async false
set_option linter.all false
set_option maxRecDepth 100000
set_option autoImplicit false
namespace Ev.W
open PySem PySem.Spec PyProof.Rows L2 Ev
set_option maxHeartbeats 0 in
/-- all defs, one upon the other -/
theorem all_ok {l : PySem.W.OpenLaw} {w : World} {K : PySem.W.Frag} {mg : Str → Option Value} {fa : Addr} (hfa : mg "law" = some (.ref fa)) (b : Bl mg)
    (d_bit_count : DefAt K mg "bit_count" s_bit_count)
    (d_bit_at : DefAt K mg "bit_at" s_bit_at)
    (d_extended : DefAt K mg "extended" s_extended)
    (d_gain_of : DefAt K mg "gain_of" s_gain_of)
    (d_greedy : DefAt K mg "greedy" s_greedy)
    (d_slack_of : DefAt K mg "slack_of" s_slack_of)
    (d_is_below_heights : DefAt K mg "is_below_heights" s_is_below_heights)
    (d__law_begin : DefAt K mg "_law_begin" s__law_begin)
    (d__law_draw : DefAt K mg "_law_draw" s__law_draw)
    (d__law_rare : DefAt K mg "_law_rare" s__law_rare)
    (d__law_is_int : DefAt K mg "_law_is_int" s__law_is_int)
    (d__law_is_ints : DefAt K mg "_law_is_ints" s__law_is_ints)
    (d__law_row : DefAt K mg "_law_row" s__law_row)
    (d__law_ones : DefAt K mg "_law_ones" s__law_ones)
    (d__law_sum : DefAt K mg "_law_sum" s__law_sum)
    (d__law_low : DefAt K mg "_law_low" s__law_low)
    (d__law_times : DefAt K mg "_law_times" s__law_times)
    (d__law_above : DefAt K mg "_law_above" s__law_above)
    (d__law_most : DefAt K mg "_law_most" s__law_most)
    (d__law_breach_one : DefAt K mg "_law_breach_one" s__law_breach_one)
    (d__law_breach_two : DefAt K mg "_law_breach_two" s__law_breach_two)
    (d__law_breach_three : DefAt K mg "_law_breach_three" s__law_breach_three)
    (d__law_keeps : DefAt K mg "_law_keeps" s__law_keeps)
    (d__law_cost : DefAt K mg "_law_cost" s__law_cost)
    (d__law_opened : DefAt K mg "_law_opened" s__law_opened)
    (d__law_loose : DefAt K mg "_law_loose" s__law_loose)
    (d__law_add_bends : DefAt K mg "_law_add_bends" s__law_add_bends)
    (d__law_cut : DefAt K mg "_law_cut" s__law_cut)
    (d__law_some_table : DefAt K mg "_law_some_table" s__law_some_table)
    (d__law_some_big : DefAt K mg "_law_some_big" s__law_some_big)
    (d__law_heights : DefAt K mg "_law_heights" s__law_heights)
    (d__law_orders : DefAt K mg "_law_orders" s__law_orders)
    (d__law_growth : DefAt K mg "_law_growth" s__law_growth)
    (d__law_gain : DefAt K mg "_law_gain" s__law_gain)
    (d__law_changed : DefAt K mg "_law_changed" s__law_changed)
    (d__law_gains_ok : DefAt K mg "_law_gains_ok" s__law_gains_ok)
    (d__law_order_ok : DefAt K mg "_law_order_ok" s__law_order_ok)
    (d_law : DefAt K mg "law" s_law)
    : ∃ fd : FuncData, (∀ (s : Shared) (u : Value), BindsTo s fd ⟨[u], []⟩ [("script", u)]) ∧ ∀ base : Heap, K.In base → base.Ns mainGlobals mg → FnOk l.prog w K mg base CX0 7 fa fd ["script"] (spF K m_law 1) := by
  obtain ⟨f, fd, F, hm⟩ := d_law.ex
  have e := hfa.symm.trans hm
  cases e
  refine ⟨fd, fun s u => ?_, fun base _ _ => ?_⟩
  · obtain ⟨_, _, _, _, _, _, _, _, _, rfl, _, _⟩ := F.ex
    exact .of_eq rfl
  · have c_bit_count : Callee l.prog w K mg base 1 "bit_count" 1 m_bit_count := callee_of (ps := ["mask"]) d_bit_count (fun F => ok_bit_count F b ) fun _ _ _ _ _ _ us hl => match us, hl with | [_], _ => rfl
    have c_bit_at : Callee l.prog w K mg base 1 "bit_at" 3 m_bit_at := callee_of (ps := ["number", "places", "place"]) d_bit_at (fun F => ok_bit_at F b ) fun _ _ _ _ _ _ us hl => match us, hl with | [_, _, _], _ => rfl
    have c_extended : Callee l.prog w K mg base 2 "extended" 2 m_extended := callee_of (ps := ["prices", "big"]) d_extended (fun F => ok_extended F b c_bit_count) fun _ _ _ _ _ _ us hl => match us, hl with | [_, _], _ => rfl
    have c_gain_of : Callee l.prog w K mg base 2 "gain_of" 2 m_gain_of := callee_of (ps := ["gains", "number"]) d_gain_of (fun F => ok_gain_of F b c_bit_at) fun _ _ _ _ _ _ us hl => match us, hl with | [_, _], _ => rfl
    have c_greedy : Callee l.prog w K mg base 1 "greedy" 2 m_greedy := callee_of (ps := ["heights", "order"]) d_greedy (fun F => ok_greedy F b ) fun _ _ _ _ _ _ us hl => match us, hl with | [_, _], _ => rfl
    have c_slack_of : Callee l.prog w K mg base 3 "slack_of" 2 m_slack_of := callee_of (ps := ["heights", "gains"]) d_slack_of (fun F => ok_slack_of F b c_gain_of) fun _ _ _ _ _ _ us hl => match us, hl with | [_, _], _ => rfl
    have c_is_below_heights : Callee l.prog w K mg base 4 "is_below_heights" 2 m_is_below_heights := callee_of (ps := ["heights", "gains"]) d_is_below_heights (fun F => ok_is_below_heights F b c_slack_of) fun _ _ _ _ _ _ us hl => match us, hl with | [_, _], _ => rfl
    have c__law_begin : Callee l.prog w K mg base 1 "_law_begin" 1 m__law_begin := callee_of (ps := ["script"]) d__law_begin (fun F => ok__law_begin F b ) fun _ _ _ _ _ _ us hl => match us, hl with | [_], _ => rfl
    have c__law_draw : Callee l.prog w K mg base 1 "_law_draw" 2 m__law_draw := callee_of (ps := ["d", "many"]) d__law_draw (fun F => ok__law_draw F b ) fun _ _ _ _ _ _ us hl => match us, hl with | [_, _], _ => rfl
    have c__law_rare : Callee l.prog w K mg base 2 "_law_rare" 2 m__law_rare := callee_of (ps := ["d", "many"]) d__law_rare (fun F => ok__law_rare F b c__law_draw) fun _ _ _ _ _ _ us hl => match us, hl with | [_, _], _ => rfl
    have c__law_is_int : Callee l.prog w K mg base 1 "_law_is_int" 1 m__law_is_int := callee_of (ps := ["thing"]) d__law_is_int (fun F => ok__law_is_int F b ) fun _ _ _ _ _ _ us hl => match us, hl with | [_], _ => rfl
    have c__law_is_ints : Callee l.prog w K mg base 2 "_law_is_ints" 1 m__law_is_ints := callee_of (ps := ["row"]) d__law_is_ints (fun F => ok__law_is_ints F b c__law_is_int) fun _ _ _ _ _ _ us hl => match us, hl with | [_], _ => rfl
    have c__law_row : Callee l.prog w K mg base 1 "_law_row" 2 m__law_row := callee_of (ps := ["number", "places"]) d__law_row (fun F => ok__law_row F b ) fun _ _ _ _ _ _ us hl => match us, hl with | [_, _], _ => rfl
    have c__law_ones : Callee l.prog w K mg base 1 "_law_ones" 1 m__law_ones := callee_of (ps := ["mask"]) d__law_ones (fun F => ok__law_ones F b ) fun _ _ _ _ _ _ us hl => match us, hl with | [_], _ => rfl
    have c__law_sum : Callee l.prog w K mg base 1 "_law_sum" 1 m__law_sum := callee_of (ps := ["prices"]) d__law_sum (fun F => ok__law_sum F b ) fun _ _ _ _ _ _ us hl => match us, hl with | [_], _ => rfl
    have c__law_low : Callee l.prog w K mg base 1 "_law_low" 1 m__law_low := callee_of (ps := ["prices"]) d__law_low (fun F => ok__law_low F b ) fun _ _ _ _ _ _ us hl => match us, hl with | [_], _ => rfl
    have c__law_times : Callee l.prog w K mg base 1 "_law_times" 2 m__law_times := callee_of (ps := ["price", "times"]) d__law_times (fun F => ok__law_times F b ) fun _ _ _ _ _ _ us hl => match us, hl with | [_, _], _ => rfl
    have c__law_above : Callee l.prog w K mg base 1 "_law_above" 2 m__law_above := callee_of (ps := ["first", "second"]) d__law_above (fun F => ok__law_above F b ) fun _ _ _ _ _ _ us hl => match us, hl with | [_, _], _ => rfl
    have c__law_most : Callee l.prog w K mg base 1 "_law_most" 3 m__law_most := callee_of (ps := ["first", "second", "third"]) d__law_most (fun F => ok__law_most F b ) fun _ _ _ _ _ _ us hl => match us, hl with | [_, _, _], _ => rfl
    have c__law_breach_one : Callee l.prog w K mg base 2 "_law_breach_one" 3 m__law_breach_one := callee_of (ps := ["kind", "prices", "rows"]) d__law_breach_one (fun F => ok__law_breach_one F b c__law_above) fun _ _ _ _ _ _ us hl => match us, hl with | [_, _, _], _ => rfl
    have c__law_breach_two : Callee l.prog w K mg base 2 "_law_breach_two" 3 m__law_breach_two := callee_of (ps := ["kind", "prices", "rows"]) d__law_breach_two (fun F => ok__law_breach_two F b c__law_above c__law_sum c__law_times) fun _ _ _ _ _ _ us hl => match us, hl with | [_, _, _], _ => rfl
    have c__law_breach_three : Callee l.prog w K mg base 2 "_law_breach_three" 3 m__law_breach_three := callee_of (ps := ["kind", "prices", "rows"]) d__law_breach_three (fun F => ok__law_breach_three F b c__law_above c__law_most c__law_sum c__law_times) fun _ _ _ _ _ _ us hl => match us, hl with | [_, _, _], _ => rfl
    have c__law_keeps : Callee l.prog w K mg base 3 "_law_keeps" 2 m__law_keeps := callee_of (ps := ["kind", "prices"]) d__law_keeps (fun F => ok__law_keeps F b c__law_breach_one c__law_breach_three c__law_breach_two) fun _ _ _ _ _ _ us hl => match us, hl with | [_, _], _ => rfl
    have c__law_cost : Callee l.prog w K mg base 3 "_law_cost" 1 m__law_cost := callee_of (ps := ["d"]) d__law_cost (fun F => ok__law_cost F b c__law_draw c__law_rare) fun _ _ _ _ _ _ us hl => match us, hl with | [_], _ => rfl
    have c__law_opened : Callee l.prog w K mg base 4 "_law_opened" 2 m__law_opened := callee_of (ps := ["d", "prices"]) d__law_opened (fun F => ok__law_opened F b c__law_cost c__law_draw c__law_low) fun _ _ _ _ _ _ us hl => match us, hl with | [_, _], _ => rfl
    have c__law_loose : Callee l.prog w K mg base 5 "_law_loose" 3 m__law_loose := callee_of (ps := ["d", "places", "barred"]) d__law_loose (fun F => ok__law_loose F b c__law_cost c__law_draw c__law_opened) fun _ _ _ _ _ _ us hl => match us, hl with | [_, _, _], _ => rfl
    have c__law_add_bends : Callee l.prog w K mg base 2 "_law_add_bends" 3 m__law_add_bends := callee_of (ps := ["d", "places", "prices"]) d__law_add_bends (fun F => ok__law_add_bends F b c__law_draw) fun _ _ _ _ _ _ us hl => match us, hl with | [_, _, _], _ => rfl
    have c__law_cut : Callee l.prog w K mg base 3 "_law_cut" 2 m__law_cut := callee_of (ps := ["d", "places"]) d__law_cut (fun F => ok__law_cut F b c__law_add_bends c__law_draw) fun _ _ _ _ _ _ us hl => match us, hl with | [_, _], _ => rfl
    have c__law_some_table : Callee l.prog w K mg base 6 "_law_some_table" 1 m__law_some_table := callee_of (ps := ["d"]) d__law_some_table (fun F => ok__law_some_table F b c__law_cost c__law_cut c__law_draw c__law_loose c__law_opened c__law_rare) fun _ _ _ _ _ _ us hl => match us, hl with | [_], _ => rfl
    have c__law_some_big : Callee l.prog w K mg base 2 "_law_some_big" 2 m__law_some_big := callee_of (ps := ["d", "span"]) d__law_some_big (fun F => ok__law_some_big F b c__law_draw) fun _ _ _ _ _ _ us hl => match us, hl with | [_, _], _ => rfl
    have c__law_heights : Callee l.prog w K mg base 2 "_law_heights" 2 m__law_heights := callee_of (ps := ["prices", "big"]) d__law_heights (fun F => ok__law_heights F b c__law_ones) fun _ _ _ _ _ _ us hl => match us, hl with | [_, _], _ => rfl
    have c__law_orders : Callee l.prog w K mg base 1 "_law_orders" 1 m__law_orders := callee_of (ps := ["size"]) d__law_orders (fun F => ok__law_orders F b ) fun _ _ _ _ _ _ us hl => match us, hl with | [_], _ => rfl
    have c__law_growth : Callee l.prog w K mg base 1 "_law_growth" 2 m__law_growth := callee_of (ps := ["heights", "order"]) d__law_growth (fun F => ok__law_growth F b ) fun _ _ _ _ _ _ us hl => match us, hl with | [_, _], _ => rfl
    have c__law_gain : Callee l.prog w K mg base 2 "_law_gain" 2 m__law_gain := callee_of (ps := ["gains", "number"]) d__law_gain (fun F => ok__law_gain F b c__law_row) fun _ _ _ _ _ _ us hl => match us, hl with | [_, _], _ => rfl
    have c__law_changed : Callee l.prog w K mg base 2 "_law_changed" 2 m__law_changed := callee_of (ps := ["d", "gains"]) d__law_changed (fun F => ok__law_changed F b c__law_draw) fun _ _ _ _ _ _ us hl => match us, hl with | [_, _], _ => rfl
    have c__law_gains_ok : Callee l.prog w K mg base 5 "_law_gains_ok" 2 m__law_gains_ok := callee_of (ps := ["heights", "gains"]) d__law_gains_ok (fun F => ok__law_gains_ok F b c__law_gain c__law_is_int c__law_is_ints c_gain_of c_is_below_heights c_slack_of) fun _ _ _ _ _ _ us hl => match us, hl with | [_, _], _ => rfl
    have c__law_order_ok : Callee l.prog w K mg base 6 "_law_order_ok" 3 m__law_order_ok := callee_of (ps := ["d", "heights", "order"]) d__law_order_ok (fun F => ok__law_order_ok F b c__law_changed c__law_gains_ok c__law_growth c__law_is_ints c_greedy) fun _ _ _ _ _ _ us hl => match us, hl with | [_, _, _], _ => rfl
    exact ok_law F b c__law_begin c__law_heights c__law_is_ints c__law_keeps c__law_order_ok c__law_orders c__law_some_big c__law_some_table c_extended c_greedy c_is_below_heights
end Ev.W
open PySem PySem.W PyProof.Rows
set_option maxHeartbeats 0 in
theorem PySem.Challenge.cw_pricedrules_k38_below_exactly_if_cut_holds : PySem.Challenge.rw_pricedrules_k38_below_exactly_if_cut.Holds := by
  w_on; o_law; k_head; (case hw => w_witness2)
  k_fill
  refine L2.walk_of (l := PySem.Challenge.rw_pricedrules_k38_below_exactly_if_cut) (n := 63) (k := 7) (x := "script") (CX := fun _ => L2.CX0) (sp := fun w => Ev.spF _ Ev.W.m_law 1) rfl (by decide) rfl ⟨rfl, by decide, by decide⟩ (fun w h Y => PySem.W.kIn_of Y) ?F (fun _ _ a ns hl _ hS => Ev.law_sp hS (Ev.W.law_true ns hl)) (fun _ _ _ _ _ h => h)
  case F =>
    intro w mg fa h KX G hmg
    refine Ev.W.all_ok hmg ⟨?z_abs, ?z_all, ?z_bool, ?z_int, ?z_isinstance, ?z_len, ?z_list, ?z_max, ?z_min, ?z_range, ?z_sum, ?z_tuple, ?z_zip⟩ ?d_bit_count ?d_bit_at ?d_extended ?d_gain_of ?d_greedy ?d_slack_of ?d_is_below_heights ?d__law_begin ?d__law_draw ?d__law_rare ?d__law_is_int ?d__law_is_ints ?d__law_row ?d__law_ones ?d__law_sum ?d__law_low ?d__law_times ?d__law_above ?d__law_most ?d__law_breach_one ?d__law_breach_two ?d__law_breach_three ?d__law_keeps ?d__law_cost ?d__law_opened ?d__law_loose ?d__law_add_bends ?d__law_cut ?d__law_some_table ?d__law_some_big ?d__law_heights ?d__law_orders ?d__law_growth ?d__law_gain ?d__law_changed ?d__law_gains_ok ?d__law_order_ok ?d_law
    case z_abs => refine PySem.W.mg_none_of KX G ?z; (case z => k_is)
    case z_all => refine PySem.W.mg_none_of KX G ?z; (case z => k_is)
    case z_bool => refine PySem.W.mg_none_of KX G ?z; (case z => k_is)
    case z_int => refine PySem.W.mg_none_of KX G ?z; (case z => k_is)
    case z_isinstance => refine PySem.W.mg_none_of KX G ?z; (case z => k_is)
    case z_len => refine PySem.W.mg_none_of KX G ?z; (case z => k_is)
    case z_list => refine PySem.W.mg_none_of KX G ?z; (case z => k_is)
    case z_max => refine PySem.W.mg_none_of KX G ?z; (case z => k_is)
    case z_min => refine PySem.W.mg_none_of KX G ?z; (case z => k_is)
    case z_range => refine PySem.W.mg_none_of KX G ?z; (case z => k_is)
    case z_sum => refine PySem.W.mg_none_of KX G ?z; (case z => k_is)
    case z_tuple => refine PySem.W.mg_none_of KX G ?z; (case z => k_is)
    case z_zip => refine PySem.W.mg_none_of KX G ?z; (case z => k_is)
    case d_bit_count => refine' Ev.def_mk KX G ?a ?l ?c ?k; (case a => k_is); (case l => k_is); (case c => k_is); (case k => k_is)
    case d_bit_at => refine' Ev.def_mk KX G ?a ?l ?c ?k; (case a => k_is); (case l => k_is); (case c => k_is); (case k => k_is)
    case d_extended => refine' Ev.def_mk KX G ?a ?l ?c ?k; (case a => k_is); (case l => k_is); (case c => k_is); (case k => k_is)
    case d_gain_of => refine' Ev.def_mk KX G ?a ?l ?c ?k; (case a => k_is); (case l => k_is); (case c => k_is); (case k => k_is)
    case d_greedy => refine' Ev.def_mk KX G ?a ?l ?c ?k; (case a => k_is); (case l => k_is); (case c => k_is); (case k => k_is)
    case d_slack_of => refine' Ev.def_mk KX G ?a ?l ?c ?k; (case a => k_is); (case l => k_is); (case c => k_is); (case k => k_is)
    case d_is_below_heights => refine' Ev.def_mk KX G ?a ?l ?c ?k; (case a => k_is); (case l => k_is); (case c => k_is); (case k => k_is)
    case d__law_begin => refine' Ev.def_mk KX G ?a ?l ?c ?k; (case a => k_is); (case l => k_is); (case c => k_is); (case k => k_is)
    case d__law_draw => refine' Ev.def_mk KX G ?a ?l ?c ?k; (case a => k_is); (case l => k_is); (case c => k_is); (case k => k_is)
    case d__law_rare => refine' Ev.def_mk KX G ?a ?l ?c ?k; (case a => k_is); (case l => k_is); (case c => k_is); (case k => k_is)
    case d__law_is_int => refine' Ev.def_mk KX G ?a ?l ?c ?k; (case a => k_is); (case l => k_is); (case c => k_is); (case k => k_is)
    case d__law_is_ints => refine' Ev.def_mk KX G ?a ?l ?c ?k; (case a => k_is); (case l => k_is); (case c => k_is); (case k => k_is)
    case d__law_row => refine' Ev.def_mk KX G ?a ?l ?c ?k; (case a => k_is); (case l => k_is); (case c => k_is); (case k => k_is)
    case d__law_ones => refine' Ev.def_mk KX G ?a ?l ?c ?k; (case a => k_is); (case l => k_is); (case c => k_is); (case k => k_is)
    case d__law_sum => refine' Ev.def_mk KX G ?a ?l ?c ?k; (case a => k_is); (case l => k_is); (case c => k_is); (case k => k_is)
    case d__law_low => refine' Ev.def_mk KX G ?a ?l ?c ?k; (case a => k_is); (case l => k_is); (case c => k_is); (case k => k_is)
    case d__law_times => refine' Ev.def_mk KX G ?a ?l ?c ?k; (case a => k_is); (case l => k_is); (case c => k_is); (case k => k_is)
    case d__law_above => refine' Ev.def_mk KX G ?a ?l ?c ?k; (case a => k_is); (case l => k_is); (case c => k_is); (case k => k_is)
    case d__law_most => refine' Ev.def_mk KX G ?a ?l ?c ?k; (case a => k_is); (case l => k_is); (case c => k_is); (case k => k_is)
    case d__law_breach_one => refine' Ev.def_mk KX G ?a ?l ?c ?k; (case a => k_is); (case l => k_is); (case c => k_is); (case k => k_is)
    case d__law_breach_two => refine' Ev.def_mk KX G ?a ?l ?c ?k; (case a => k_is); (case l => k_is); (case c => k_is); (case k => k_is)
    case d__law_breach_three => refine' Ev.def_mk KX G ?a ?l ?c ?k; (case a => k_is); (case l => k_is); (case c => k_is); (case k => k_is)
    case d__law_keeps => refine' Ev.def_mk KX G ?a ?l ?c ?k; (case a => k_is); (case l => k_is); (case c => k_is); (case k => k_is)
    case d__law_cost => refine' Ev.def_mk KX G ?a ?l ?c ?k; (case a => k_is); (case l => k_is); (case c => k_is); (case k => k_is)
    case d__law_opened => refine' Ev.def_mk KX G ?a ?l ?c ?k; (case a => k_is); (case l => k_is); (case c => k_is); (case k => k_is)
    case d__law_loose => refine' Ev.def_mk KX G ?a ?l ?c ?k; (case a => k_is); (case l => k_is); (case c => k_is); (case k => k_is)
    case d__law_add_bends => refine' Ev.def_mk KX G ?a ?l ?c ?k; (case a => k_is); (case l => k_is); (case c => k_is); (case k => k_is)
    case d__law_cut => refine' Ev.def_mk KX G ?a ?l ?c ?k; (case a => k_is); (case l => k_is); (case c => k_is); (case k => k_is)
    case d__law_some_table => refine' Ev.def_mk KX G ?a ?l ?c ?k; (case a => k_is); (case l => k_is); (case c => k_is); (case k => k_is)
    case d__law_some_big => refine' Ev.def_mk KX G ?a ?l ?c ?k; (case a => k_is); (case l => k_is); (case c => k_is); (case k => k_is)
    case d__law_heights => refine' Ev.def_mk KX G ?a ?l ?c ?k; (case a => k_is); (case l => k_is); (case c => k_is); (case k => k_is)
    case d__law_orders => refine' Ev.def_mk KX G ?a ?l ?c ?k; (case a => k_is); (case l => k_is); (case c => k_is); (case k => k_is)
    case d__law_growth => refine' Ev.def_mk KX G ?a ?l ?c ?k; (case a => k_is); (case l => k_is); (case c => k_is); (case k => k_is)
    case d__law_gain => refine' Ev.def_mk KX G ?a ?l ?c ?k; (case a => k_is); (case l => k_is); (case c => k_is); (case k => k_is)
    case d__law_changed => refine' Ev.def_mk KX G ?a ?l ?c ?k; (case a => k_is); (case l => k_is); (case c => k_is); (case k => k_is)
    case d__law_gains_ok => refine' Ev.def_mk KX G ?a ?l ?c ?k; (case a => k_is); (case l => k_is); (case c => k_is); (case k => k_is)
    case d__law_order_ok => refine' Ev.def_mk KX G ?a ?l ?c ?k; (case a => k_is); (case l => k_is); (case c => k_is); (case k => k_is)
    case d_law => refine' Ev.def_mk KX G ?a ?l ?c ?k; (case a => k_is); (case l => k_is); (case c => k_is); (case k => k_is)
