import PyProof.Rows.All
import Wide.All
import OpenK.AllK
import Wide.FinOn
import HandS.ForMost
import HandS.IsInst
import HandS.Wide
import HandS.WideBits
import HandS.Flow
import HandS.Style
import HandS.SortInts
import HandS.Defaults
import HandS.NoneIn
import HandS.Conv
import PySem.Challenge.RW_farwrap_k35_whole_loops_by_formulas
set_option Elab.async false
set_option linter.all false
set_option maxRecDepth 100000
set_option maxHeartbeats 4000000
/-! A layer of data over the hand layer: values are data, what never changes stands in a frozen part, what changes in a map of its own. -/
namespace DL
open PySem PySem.Spec PyProof.Rows L2
/-! ### data -/
/-- the built-in classes that the texts name -/
inductive BT where
  | int | bool | str | tup | lst | dic
  deriving DecidableEq
def BT.nm : BT → String
  | .int => "int" | .bool => "bool" | .str => "str" | .tup => "tuple" | .lst => "list" | .dic => "dict"
inductive Dat where
  | non | bl (b : Bool) | int (i : Int) | str (x : Str) | ty (n : BT) | cls (C : Addr)
  | tup (ds : List Dat) | lst (ds : List Dat) | frl (ds : List Dat) | dic (kvs : List (Key × Dat)) | ins (C : Addr) (fs : List (Str × Dat)) | ref (a : Addr)
mutual
inductive Rep (K : PySem.W.Frag) (F : Hp) : V → Dat → Prop
  | non : Rep K F .non .non
  | bl (b : Bool) : Rep K F (.bl b) (.bl b)
  | int (i : Int) : Rep K F (.int i) (.int i)
  | str (x : Str) : Rep K F (.str x) (.str x)
  | ty (n : BT) : Rep K F (.ty n.nm) (.ty n)
  | cls (C : Addr) : Rep K F (.ref C) (.cls C)
  | tup {a : Addr} {xs : List V} {ds : List Dat} : SqT K F a xs → Reps K F xs ds → Rep K F (.ref a) (.tup ds)
  | lst {a : Addr} {xs : List V} {ds : List Dat} : F a = some (.lst xs) → Reps K F xs ds → Rep K F (.ref a) (.lst ds)
  | frl {a : Addr} {xs : List V} {ds : List Dat} : SqL K F a xs → Reps K F xs ds → Rep K F (.ref a) (.frl ds)
  | dic {a : Addr} {kvs : List (Key × V)} {gs : List (Key × Dat)} : F a = some (.dK kvs) → RepK K F kvs gs → Rep K F (.ref a) (.dic gs)
  | ins {a C dx : Addr} {fs : List (Str × V)} {gs : List (Str × Dat)} : F a = some (.ins C dx fs) → RepF K F fs gs → (fs.map (·.1)).Nodup → Rep K F (.ref a) (.ins C gs)
  | ref (a : Addr) : Rep K F (.ref a) (.ref a)
inductive Reps (K : PySem.W.Frag) (F : Hp) : List V → List Dat → Prop
  | nil : Reps K F [] []
  | cons {v : V} {vs : List V} {d : Dat} {ds : List Dat} : Rep K F v d → Reps K F vs ds → Reps K F (v :: vs) (d :: ds)
inductive RepK (K : PySem.W.Frag) (F : Hp) : List (Key × V) → List (Key × Dat) → Prop
  | nil : RepK K F [] []
  | cons {k : Key} {v : V} {vs : List (Key × V)} {d : Dat} {ds : List (Key × Dat)} : Rep K F v d → RepK K F vs ds → RepK K F ((k, v) :: vs) ((k, d) :: ds)
inductive RepF (K : PySem.W.Frag) (F : Hp) : List (Str × V) → List (Str × Dat) → Prop
  | nil : RepF K F [] []
  | cons {f : Str} {v : V} {vs : List (Str × V)} {d : Dat} {ds : List (Str × Dat)} : Rep K F v d → RepF K F vs ds → RepF K F ((f, v) :: vs) ((f, d) :: ds)
end
def Ext (F F' : Hp) : Prop := ∀ a o, F a = some o → F' a = some o
theorem Ext.refl (F : Hp) : Ext F F := fun _ _ h => h
theorem Ext.trans {F G J : Hp} (a : Ext F G) (b : Ext G J) : Ext F J := fun x o h => b x o (a x o h)
theorem Ext.new {F : Hp} {p : Addr} {o : HO} (h : F p = none) : Ext F (upd F p o) := fun a u e => by
  rw [upd_ne (ne_of_none e h)]
  exact e
theorem ext_rd {H H' : Hp} {a : Addr} {u : HO} (e : Ext H H') (h : Rd H a u) : Rd H' a u := by
  rcases h with h | ⟨o, h⟩
  · exact Or.inl (e a _ h)
  · exact Or.inr ⟨o, e a _ h⟩
theorem ext_l {K : PySem.W.Frag} {H H' : Hp} {a : Addr} {xs : List V} (e : Ext H H') (h : SqL K H a xs) : SqL K H' a xs := by
  rcases h with h | h
  · exact Or.inl (ext_rd e h)
  · exact Or.inr h
theorem ext_t {K : PySem.W.Frag} {H H' : Hp} {a : Addr} {xs : List V} (e : Ext H H') (h : SqT K H a xs) : SqT K H' a xs := by
  rcases h with h | h
  · exact Or.inl (ext_rd e h)
  · exact Or.inr h
section
variable {K : PySem.W.Frag} {F F' : Hp}
mutual
theorem Rep.mono (e : Ext F F') : ∀ {v : V} {d : Dat}, Rep K F v d → Rep K F' v d
  | _, _, .non => .non
  | _, _, .bl b => .bl b
  | _, _, .int i => .int i
  | _, _, .str x => .str x
  | _, _, .ty n => .ty n
  | _, _, .cls C => .cls C
  | _, _, .tup h r => .tup (ext_t e h) (Reps.mono e r)
  | _, _, .lst h r => .lst (e _ _ h) (Reps.mono e r)
  | _, _, .frl h r => .frl (ext_l e h) (Reps.mono e r)
  | _, _, .dic h r => .dic (e _ _ h) (RepK.mono e r)
  | _, _, .ins h r n => .ins (e _ _ h) (RepF.mono e r) n
  | _, _, .ref a => .ref a
theorem Reps.mono (e : Ext F F') : ∀ {vs : List V} {ds : List Dat}, Reps K F vs ds → Reps K F' vs ds
  | _, _, .nil => .nil
  | _, _, .cons h r => .cons (Rep.mono e h) (Reps.mono e r)
theorem RepK.mono (e : Ext F F') : ∀ {vs : List (Key × V)} {ds : List (Key × Dat)}, RepK K F vs ds → RepK K F' vs ds
  | _, _, .nil => .nil
  | _, _, .cons h r => .cons (Rep.mono e h) (RepK.mono e r)
theorem RepF.mono (e : Ext F F') : ∀ {vs : List (Str × V)} {ds : List (Str × Dat)}, RepF K F vs ds → RepF K F' vs ds
  | _, _, .nil => .nil
  | _, _, .cons h r => .cons (Rep.mono e h) (RepF.mono e r)
end
theorem Reps.length {vs : List V} {ds : List Dat} (r : Reps K F vs ds) : vs.length = ds.length := by
  induction vs generalizing ds with
  | nil =>
    cases r
    rfl
  | cons v vs ih =>
    cases r with
    | cons h r => exact congrArg Nat.succ (ih r)
theorem Reps.get {vs : List V} {ds : List Dat} (r : Reps K F vs ds) : ∀ {i : Nat} {d : Dat}, ds[i]? = some d → ∃ v, vs[i]? = some v ∧ Rep K F v d := by
  induction vs generalizing ds with
  | nil =>
    cases r
    intro i d h
    simp at h
  | cons v vs ih =>
    cases r with
    | cons h r =>
      intro i d e
      cases i with
      | zero =>
        have e' := Option.some.inj e
        subst e'
        exact ⟨v, rfl, h⟩
      | succ i => exact ih r e
theorem Reps.app {vs ws : List V} {ds es : List Dat} (r : Reps K F vs ds) (q : Reps K F ws es) : Reps K F (vs ++ ws) (ds ++ es) := by
  induction vs generalizing ds with
  | nil =>
    cases r
    exact q
  | cons v vs ih =>
    cases r with
    | cons h r => exact .cons h (ih r)
theorem Reps.set {v : V} {d : Dat} (h : Rep K F v d) {vs : List V} {ds : List Dat} (r : Reps K F vs ds) : ∀ (i : Nat), Reps K F (vs.set i v) (ds.set i d) := by
  induction vs generalizing ds with
  | nil =>
    cases r
    intro i
    exact .nil
  | cons w vs ih =>
    cases r with
    | cons g r =>
      intro i
      cases i with
      | zero => exact .cons h r
      | succ i => exact .cons g (ih r i)
theorem Reps.take {vs : List V} {ds : List Dat} (r : Reps K F vs ds) : ∀ (n : Nat), Reps K F (vs.take n) (ds.take n) := by
  induction vs generalizing ds with
  | nil =>
    cases r
    intro n
    cases n <;> exact .nil
  | cons w vs ih =>
    cases r with
    | cons g r =>
      intro n
      cases n with
      | zero => exact .nil
      | succ n => exact .cons g (ih r n)
theorem Reps.drop {vs : List V} {ds : List Dat} (r : Reps K F vs ds) : ∀ (n : Nat), Reps K F (vs.drop n) (ds.drop n) := by
  induction vs generalizing ds with
  | nil =>
    cases r
    intro n
    cases n <;> exact .nil
  | cons w vs ih =>
    cases r with
    | cons g r =>
      intro n
      cases n with
      | zero => exact .cons g r
      | succ n => exact ih r n
theorem Reps.rev {vs : List V} {ds : List Dat} (r : Reps K F vs ds) : Reps K F vs.reverse ds.reverse := by
  induction vs generalizing ds with
  | nil =>
    cases r
    exact .nil
  | cons w vs ih =>
    cases r with
    | cons g r =>
      rw [List.reverse_cons, List.reverse_cons]
      exact (ih r).app (.cons g .nil)
theorem Reps.dropLast {vs : List V} {ds : List Dat} (r : Reps K F vs ds) : Reps K F vs.dropLast ds.dropLast := by
  have e1 : vs.dropLast = vs.take (vs.length - 1) := List.dropLast_eq_take
  have e2 : ds.dropLast = ds.take (ds.length - 1) := List.dropLast_eq_take
  rw [e1, e2, r.length]
  exact r.take _
theorem Reps.one {v : V} {d : Dat} (h : Rep K F v d) : Reps K F [v] [d] := .cons h .nil
theorem Reps.two {v w : V} {d e : Dat} (h : Rep K F v d) (g : Rep K F w e) : Reps K F [v, w] [d, e] := .cons h (.cons g .nil)
theorem Reps.uncons {vs : List V} {d : Dat} {ds : List Dat} (r : Reps K F vs (d :: ds)) : ∃ v ws, vs = v :: ws ∧ Rep K F v d ∧ Reps K F ws ds := by
  cases r with
  | cons h r => exact ⟨_, _, rfl, h, r⟩
theorem Reps.unnil {vs : List V} (r : Reps K F vs []) : vs = [] := by
  cases r
  rfl
theorem Rep.toInt {v : V} {i : Int} (r : Rep K F v (.int i)) : v = .int i := by
  cases r
  rfl
theorem Rep.toBl {v : V} {b : Bool} (r : Rep K F v (.bl b)) : v = .bl b := by
  cases r
  rfl
theorem Rep.toStr {v : V} {x : Str} (r : Rep K F v (.str x)) : v = .str x := by
  cases r
  rfl
theorem Rep.toNon {v : V} (r : Rep K F v .non) : v = .non := by
  cases r
  rfl
theorem Reps.ints {vs : List V} {ns : List Int} (r : Reps K F vs (ns.map Dat.int)) : vs = ns.map V.int := by
  induction ns generalizing vs with
  | nil =>
    cases r
    rfl
  | cons n ns ih =>
    cases r with
    | cons h r =>
      rw [h.toInt, ih r]
      rfl
theorem Reps.bls {vs : List V} {ns : List Bool} (r : Reps K F vs (ns.map Dat.bl)) : vs = ns.map V.bl := by
  induction ns generalizing vs with
  | nil =>
    cases r
    rfl
  | cons n ns ih =>
    cases r with
    | cons h r =>
      rw [h.toBl, ih r]
      rfl
theorem reps_ints (ns : List Int) : Reps K F (ns.map V.int) (ns.map Dat.int) := by
  induction ns with
  | nil => exact .nil
  | cons n ns ih => exact .cons (.int n) ih
end
/-! ### what changes -/
inductive MO where
  | lst (ds : List Dat) | dic (kvs : List (Key × Dat)) | ins (C : Addr) (fs : List (Str × Dat))
abbrev MH := Addr → Option MO
def updM (M : MH) (a : Addr) (o : MO) : MH := fun b => if b = a then some o else M b
def delM (M : MH) (a : Addr) : MH := fun b => if b = a then none else M b
theorem updM_same {M : MH} {a : Addr} {o : MO} : updM M a o a = some o := if_pos rfl
theorem updM_ne {M : MH} {a b : Addr} {o : MO} (h : b ≠ a) : updM M a o b = M b := if_neg h
theorem delM_same {M : MH} {a : Addr} : delM M a a = none := if_pos rfl
theorem delM_ne {M : MH} {a b : Addr} (h : b ≠ a) : delM M a b = M b := if_neg h
theorem updM_updM {M : MH} {a : Addr} {o u : MO} : updM (updM M a o) a u = updM M a u := by
  funext b
  unfold updM
  split <;> rfl
theorem delM_updM {M : MH} {a : Addr} {o : MO} (h : M a = none) : delM (updM M a o) a = M := by
  funext b
  unfold delM updM
  split
  · rename_i e
    rw [e, h]
  · rfl
theorem ne_dom {M : MH} {a b : Addr} {o : MO} (h : M a = some o) (n : M b = none) : a ≠ b := fun e => by
  subst e
  rw [h] at n
  cases n
def LeM (M0 M : MH) : Prop := ∀ a o, M0 a = some o → M a = some o
theorem LeM.refl (M : MH) : LeM M M := fun _ _ h => h
theorem LeM.trans {A B C : MH} (x : LeM A B) (y : LeM B C) : LeM A C := fun a o h => y a o (x a o h)
theorem LeM.new {M : MH} {a : Addr} {o : MO} (n : M a = none) : LeM M (updM M a o) := fun b u h => by
  rw [updM_ne (ne_dom h n)]
  exact h
theorem LeM.upd {M0 M : MH} {a : Addr} {o : MO} (l : LeM M0 M) : LeM (updM M0 a o) (updM M a o) := fun b u h => by
  unfold updM at *
  split
  · rename_i e
    rw [if_pos e] at h
    exact h
  · rename_i e
    rw [if_neg e] at h
    exact l b u h
/-- a garbage object may change or go -/
theorem LeM.skip {M0 M : MH} {a : Addr} {o : MO} (l : LeM M0 M) (n : M0 a = none) : LeM M0 (updM M a o) := fun b u h => by
  rw [updM_ne (ne_dom h n)]
  exact l b u h
theorem LeM.del {M0 M : MH} {a : Addr} (l : LeM M0 M) (n : M0 a = none) : LeM M0 (delM M a) := fun b u h => by
  rw [delM_ne (ne_dom h n)]
  exact l b u h
def MRel (K : PySem.W.Frag) (F H : Hp) (a : Addr) : MO → Prop
  | .lst ds => ∃ xs, H a = some (.lst xs) ∧ Reps K F xs ds
  | .dic gs => ∃ kvs, H a = some (.dK kvs) ∧ RepK K F kvs gs
  | .ins C gs => ∃ dx fs, H a = some (.ins C dx fs) ∧ RepF K F fs gs ∧ (fs.map (·.1)).Nodup
theorem MRel.mono {K : PySem.W.Frag} {F F' H H' : Hp} {a : Addr} (e : Ext F F') (h : H' a = H a) : ∀ {m : MO}, MRel K F H a m → MRel K F' H' a m
  | .lst _, ⟨xs, q, r⟩ => ⟨xs, by rw [h]; exact q, r.mono e⟩
  | .dic _, ⟨xs, q, r⟩ => ⟨xs, by rw [h]; exact q, r.mono e⟩
  | .ins _ _, ⟨dx, fs, q, r, n⟩ => ⟨dx, fs, by rw [h]; exact q, r.mono e, n⟩
theorem MRel.some {K : PySem.W.Frag} {F H : Hp} {a : Addr} : ∀ {m : MO}, MRel K F H a m → ∃ o, H a = some o
  | .lst _, ⟨_, q, _⟩ => ⟨_, q⟩
  | .dic _, ⟨_, q, _⟩ => ⟨_, q⟩
  | .ins _ _, ⟨_, _, q, _⟩ => ⟨_, q⟩
structure RelM (K : PySem.W.Frag) (Z F H : Hp) (M : MH) : Prop where
  sub : Ext F H
  hid : ∀ a o, Z a = some o → H a = some o ∧ F a = none ∧ M a = none
  chg : ∀ a m, M a = some m → F a = none ∧ MRel K F H a m
abbrev EnvD := List (Option Dat)
structure RelE (K : PySem.W.Frag) (F : Hp) (σ : L2.St) (ρ : EnvD) : Prop where
  len : σ.length = ρ.length
  at_ : ∀ (i : Nat) (d : Dat), ρ[i]? = some (some d) → ∃ v, σ[i]? = some (some v) ∧ Rep K F v d
structure Rel (K : PySem.W.Frag) (Z F H : Hp) (M : MH) (σ : L2.St) (ρ : EnvD) : Prop where
  m : RelM K Z F H M
  e : RelE K F σ ρ
section
variable {K : PySem.W.Frag} {Z F F' H H' : Hp} {M M' : MH} {σ : L2.St} {ρ : EnvD} {p a : Addr} {o : HO}
theorem RelE.mono (e : Ext F F') (r : RelE K F σ ρ) : RelE K F' σ ρ := ⟨r.len, fun i d h => by
  obtain ⟨v, q, g⟩ := r.at_ i d h
  exact ⟨v, q, g.mono e⟩⟩
theorem RelE.set {v : V} {d : Dat} (r : RelE K F σ ρ) (h : Rep K F v d) (i : Nat) : RelE K F (σ.set i (some v)) (ρ.set i (some d)) := ⟨by rw [List.length_set, List.length_set]; exact r.len, fun j x q => by
  by_cases e : i = j
  · subst e
    by_cases hi : i < ρ.length
    · rw [List.getElem?_set_self hi] at q
      cases q
      refine ⟨v, ?_, h⟩
      rw [List.getElem?_set_self (by rw [r.len]; exact hi)]
    · rw [List.getElem?_eq_none (by rw [List.length_set]; omega)] at q
      cases q
  · rw [List.getElem?_set_ne e] at q
    obtain ⟨w, q1, g⟩ := r.at_ j x q
    exact ⟨w, by rw [List.getElem?_set_ne e]; exact q1, g⟩⟩
/-- a slot is forgotten on both sides -/
theorem RelE.unset (r : RelE K F σ ρ) (i : Nat) : RelE K F (σ.set i none) (ρ.set i none) := ⟨by rw [List.length_set, List.length_set]; exact r.len, fun j x q => by
  by_cases e : i = j
  · subst e
    by_cases hi : i < ρ.length
    · rw [List.getElem?_set_self hi] at q
      cases q
    · rw [List.getElem?_eq_none (by rw [List.length_set]; omega)] at q
      cases q
  · rw [List.getElem?_set_ne e] at q
    obtain ⟨w, q1, g⟩ := r.at_ j x q
    exact ⟨w, by rw [List.getElem?_set_ne e]; exact q1, g⟩⟩
theorem RelM.fresh (r : RelM K Z F H M) (h : H p = none) : F p = none ∧ M p = none := by
  refine ⟨?_, ?_⟩
  · cases q : F p with
    | none => rfl
    | some u =>
      rw [r.sub p u q] at h
      cases h
  · cases q : M p with
    | none => rfl
    | some m =>
      obtain ⟨u, e⟩ := (r.chg p m q).2.some
      rw [h] at e
      cases e
theorem RelM.ne (r : RelM K Z F H M) (h : H p = none) {m : MO} (q : M a = some m) : a ≠ p := ne_dom q (r.fresh h).2
/-- a new object that never changes -/
theorem RelM.newF (r : RelM K Z F H M) (h : H p = none) : RelM K Z (upd F p o) (upd H p o) M ∧ Ext F (upd F p o) := by
  have e := Ext.new (o := o) (r.fresh h).1
  refine ⟨⟨fun b u q => ?_, fun b u q => ?_, fun b m q => ?_⟩, e⟩
  · by_cases hb : b = p
    · subst hb
      rw [upd_same] at q ⊢
      exact q
    · rw [upd_ne hb] at q ⊢
      exact r.sub b u q
  · obtain ⟨q1, q2, q3⟩ := r.hid b u q
    have hb : b ≠ p := ne_of_none q1 h
    exact ⟨by rw [upd_ne hb]; exact q1, by rw [upd_ne hb]; exact q2, q3⟩
  · obtain ⟨q1, q2⟩ := r.chg b m q
    have hb := r.ne h q
    exact ⟨by rw [upd_ne hb]; exact q1, q2.mono e (upd_ne hb)⟩
/-- a new object that is to change -/
theorem RelM.newM {m : MO} (r : RelM K Z F H M) (h : H p = none) (hm : MRel K F (upd H p o) p m) : RelM K Z F (upd H p o) (updM M p m) := by
  refine ⟨fun b u q => ?_, fun b u q => ?_, fun b n q => ?_⟩
  · have hb : b ≠ p := ne_of_none (r.sub b u q) h
    rw [upd_ne hb]
    exact r.sub b u q
  · obtain ⟨q1, q2, q3⟩ := r.hid b u q
    have hb : b ≠ p := ne_of_none q1 h
    exact ⟨by rw [upd_ne hb]; exact q1, q2, by rw [updM_ne hb]; exact q3⟩
  · by_cases hb : b = p
    · subst hb
      rw [updM_same] at q
      cases q
      exact ⟨(r.fresh h).1, hm⟩
    · rw [updM_ne hb] at q
      obtain ⟨q1, q2⟩ := r.chg b n q
      exact ⟨q1, q2.mono (Ext.refl _) (upd_ne hb)⟩
/-- an object that changes -/
theorem RelM.write {m m0 : MO} (r : RelM K Z F H M) (h : M p = some m0) (hm : MRel K F (upd H p o) p m) : RelM K Z F (upd H p o) (updM M p m) := by
  have hf := (r.chg p m0 h).1
  refine ⟨fun b u q => ?_, fun b u q => ?_, fun b n q => ?_⟩
  · have hb : b ≠ p := ne_of_none q hf
    rw [upd_ne hb]
    exact r.sub b u q
  · obtain ⟨q1, q2, q3⟩ := r.hid b u q
    have hb : b ≠ p := (ne_dom h q3).symm
    exact ⟨by rw [upd_ne hb]; exact q1, q2, by rw [updM_ne hb]; exact q3⟩
  · by_cases hb : b = p
    · subst hb
      rw [updM_same] at q
      cases q
      exact ⟨hf, hm⟩
    · rw [updM_ne hb] at q
      obtain ⟨q1, q2⟩ := r.chg b n q
      exact ⟨q1, q2.mono (Ext.refl _) (upd_ne hb)⟩
theorem LeM.none {M0 : MH} (l : LeM M0 M) (h : M a = none) : M0 a = none := by
  cases q : M0 a with
  | none => rfl
  | some m =>
    rw [l a m q] at h
    cases h
theorem RelM.le {M0 : MH} (r : RelM K Z F H M) (l : LeM M0 M) : RelM K Z F H M0 := ⟨r.sub, fun a o q => ⟨(r.hid a o q).1, (r.hid a o q).2.1, l.none (r.hid a o q).2.2⟩, fun a m q => r.chg a m (l a m q)⟩
/-- from now on it never changes -/
theorem RelM.frz {m : MO} (r : RelM K Z F H M) (h : M p = some m) (ho : H p = some o) : RelM K Z (upd F p o) H (delM M p) ∧ Ext F (upd F p o) := by
  have e := Ext.new (o := o) (r.chg p m h).1
  refine ⟨⟨fun b u q => ?_, fun b u q => ?_, fun b n q => ?_⟩, e⟩
  · by_cases hb : b = p
    · subst hb
      rw [upd_same] at q
      cases q
      exact ho
    · rw [upd_ne hb] at q
      exact r.sub b u q
  · obtain ⟨q1, q2, q3⟩ := r.hid b u q
    have hb : b ≠ p := (ne_dom h q3).symm
    exact ⟨q1, by rw [upd_ne hb]; exact q2, by rw [delM_ne hb]; exact q3⟩
  · by_cases hb : b = p
    · subst hb
      rw [delM_same] at q
      cases q
    · rw [delM_ne hb] at q
      obtain ⟨q1, q2⟩ := r.chg b n q
      exact ⟨by rw [upd_ne hb]; exact q1, q2.mono e rfl⟩
theorem Rel.ext (r : Rel K Z F H M σ ρ) (e : Ext F F') (m : RelM K Z F' H' M') : Rel K Z F' H' M' σ ρ := ⟨m, r.e.mono e⟩
end
/-! ### readings over data -/
abbrev VKD := Dat → MH → Prop
abbrev TED := EnvD → MH → VKD → Prop
abbrev TTD := EnvD → MH → (Bool → MH → Prop) → Prop
abbrev TAD := EnvD → MH → (List Dat → MH → Prop) → Prop
structure EndsD where
  nx : EnvD → MH → Prop
  rt : VKD
  bk : EnvD → MH → Prop := fun _ _ => False
  ct : EnvD → MH → Prop := fun _ _ => False
abbrev TSD := EndsD → EnvD → MH → Prop
abbrev TGD := Dat → EnvD → MH → (EnvD → MH → Prop) → Prop
section
variable (K : PySem.W.Frag)
/-- what is wanted by data, what is wanted by values -/
def OkV (Z F : Hp) (Q : VK) (QD : VKD) : Prop := ∀ v d F' H' M', Ext F F' → RelM K Z F' H' M' → Rep K F' v d → QD d M' → Q v H'
def OkB (Z F : Hp) (Q : Bool → Hp → Prop) (QD : Bool → MH → Prop) : Prop := ∀ b F' H' M', Ext F F' → RelM K Z F' H' M' → QD b M' → Q b H'
def OkA (Z F : Hp) (Q : List V → Hp → Prop) (QD : List Dat → MH → Prop) : Prop := ∀ vs ds F' H' M', Ext F F' → RelM K Z F' H' M' → Reps K F' vs ds → QD ds M' → Q vs H'
def OkN (Z F : Hp) (Q : L2.St → Hp → Prop) (QD : EnvD → MH → Prop) : Prop := ∀ σ' ρ' F' H' M', Ext F F' → Rel K Z F' H' M' σ' ρ' → QD ρ' M' → Q σ' H'
structure OkS (Z F : Hp) (D : Ends) (DD : EndsD) : Prop where
  nx : OkN K Z F D.nx DD.nx
  rt : OkV K Z F D.rt DD.rt
  bk : OkN K Z F D.bk DD.bk
  ct : OkN K Z F D.ct DD.ct
def up (d : TED) : TE := fun σ H Q => ∃ Z F M ρ QD, Rel K Z F H M σ ρ ∧ d ρ M QD ∧ OkV K Z F Q QD
def upT (d : TTD) : TT := fun σ H Q => ∃ Z F M ρ QD, Rel K Z F H M σ ρ ∧ d ρ M QD ∧ OkB K Z F Q QD
def upA (d : TAD) : TA := fun σ H Q => ∃ Z F M ρ QD, Rel K Z F H M σ ρ ∧ d ρ M QD ∧ OkA K Z F Q QD
def upS (d : TSD) : TS := fun D σ H => ∃ Z F M ρ DD, Rel K Z F H M σ ρ ∧ d DD ρ M ∧ OkS K Z F D DD
def upG (d : TGD) : TG := fun v σ H Q => ∃ Z F M ρ x QD, Rel K Z F H M σ ρ ∧ Rep K F v x ∧ d x ρ M QD ∧ OkN K Z F Q QD
end
section
variable {K : PySem.W.Frag} {Z F F' : Hp}
theorem OkV.mono {Q : VK} {QD : VKD} (o : OkV K Z F Q QD) (e : Ext F F') : OkV K Z F' Q QD := fun v d G H M x => o v d G H M (e.trans x)
theorem OkB.mono {Q : Bool → Hp → Prop} {QD : Bool → MH → Prop} (o : OkB K Z F Q QD) (e : Ext F F') : OkB K Z F' Q QD := fun b G H M x => o b G H M (e.trans x)
theorem OkA.mono {Q : List V → Hp → Prop} {QD : List Dat → MH → Prop} (o : OkA K Z F Q QD) (e : Ext F F') : OkA K Z F' Q QD := fun vs ds G H M x => o vs ds G H M (e.trans x)
theorem OkN.mono {Q : L2.St → Hp → Prop} {QD : EnvD → MH → Prop} (o : OkN K Z F Q QD) (e : Ext F F') : OkN K Z F' Q QD := fun s r G H M x => o s r G H M (e.trans x)
theorem OkS.mono {D : Ends} {DD : EndsD} (o : OkS K Z F D DD) (e : Ext F F') : OkS K Z F' D DD := ⟨o.nx.mono e, o.rt.mono e, o.bk.mono e, o.ct.mono e⟩
end
/-! ### judgements over data -/
abbrev DE (X : Cx) (e : Expr) (d : TED) : Prop := PE X e (up X.K d)
abbrev DT (X : Cx) (e : Expr) (d : TTD) : Prop := PT X e (upT X.K d)
abbrev DW (X : Cx) (e : Expr) (d : TTD) : Prop := PW X e (upT X.K d)
abbrev DA (X : Cx) (es : List Expr) (d : TAD) : Prop := PA X es (upA X.K d)
abbrev DS (X : Cx) (st : Stmt) (d : TSD) : Prop := PS X st (upS X.K d)
abbrev DSs (X : Cx) (st : List Stmt) (d : TSD) : Prop := PSs X st (upS X.K d)
abbrev DG (X : Cx) (tg : Expr) (d : TGD) : Prop := PG X tg (upG X.K d)
theorem pe_w {X : Cx} {e : Expr} {t u : TE} (h : PE X e t) (w : ∀ σ H Q, u σ H Q → t σ H Q) : PE X e u := ⟨fun pins s σ H Q I q => h.run pins s σ H Q I (w σ H Q q)⟩
theorem pt_w {X : Cx} {e : Expr} {t u : TT} (h : PT X e t) (w : ∀ σ H Q, u σ H Q → t σ H Q) : PT X e u := ⟨fun pins s σ H Q I q => h.run pins s σ H Q I (w σ H Q q)⟩
theorem pw_w {X : Cx} {e : Expr} {t u : TT} (h : PW X e t) (w : ∀ σ H Q, u σ H Q → t σ H Q) : PW X e u := ⟨fun wh pins s σ H Q I q => h.run wh pins s σ H Q I (w σ H Q q)⟩
theorem pa_w {X : Cx} {e : List Expr} {t u : TA} (h : PA X e t) (w : ∀ σ H Q, u σ H Q → t σ H Q) : PA X e u := ⟨fun pos pins s σ H Q I q => h.run pos pins s σ H Q I (w σ H Q q)⟩
theorem ps_w {X : Cx} {e : Stmt} {t u : TS} (h : PS X e t) (w : ∀ D σ H, u D σ H → t D σ H) : PS X e u := ⟨fun pins s σ H D I q => h.run pins s σ H D I (w D σ H q)⟩
theorem pss_w {X : Cx} {e : List Stmt} {t u : TS} (h : PSs X e t) (w : ∀ D σ H, u D σ H → t D σ H) : PSs X e u := ⟨fun pins s σ H D I q => h.run pins s σ H D I (w D σ H q)⟩
theorem pg_w {X : Cx} {e : Expr} {t u : TG} (h : PG X e t) (w : ∀ v σ H Q, u v σ H Q → t v σ H Q) : PG X e u := ⟨fun pins s σ H v x Q I r q => h.run pins s σ H v x Q I r (w v σ H Q q)⟩
/-! ### expressions -/
/-- the datum of a slot -/
def atD : EnvD → Nat → Option Dat
  | [], _ => none
  | x :: _, 0 => x
  | _ :: r, n + 1 => atD r n
theorem atD_get : ∀ {ρ : EnvD} {i : Nat} {d : Dat}, atD ρ i = some d → ρ[i]? = some (some d)
  | [], _, _, h => by cases h
  | x :: _, 0, _, h => by
    have e : x = some _ := h
    rw [e]
    rfl
  | _ :: r, n + 1, d, h => atD_get (ρ := r) (i := n) h
def setD : EnvD → Nat → Option Dat → EnvD
  | [], _, _ => []
  | _ :: r, 0, d => d :: r
  | x :: r, n + 1, d => x :: setD r n d
theorem setD_set : ∀ (ρ : EnvD) (i : Nat) (d : Option Dat), setD ρ i d = ρ.set i d
  | [], _, _ => rfl
  | _ :: _, 0, _ => rfl
  | x :: r, n + 1, d => congrArg (List.cons x) (setD_set r n d)
def dVar (i : Nat) : TED := fun ρ M Q => match atD ρ i with
  | some d => Q d M
  | none => False
def dC (d : Dat) : TED := fun _ M Q => Q d M
section
variable {X : Cx} {e a b c : Expr} {es : List Expr} {pos : Pos} {da db dc de : TED} {dA : TAD} {ta tb tc : TTD}
theorem dv (i : Nat) {x : Str} (hN : X.N[i]? = some x := by rfl) (hv : Vis X.env.scope x := by first | exact Or.inl rfl | exact Or.inr (Or.inl rfl) | exact Or.inr (Or.inr rfl)) (hd : (x == ("__debug__" : Str)) = false := by decide)
    (hcd : (x == ("__classdict__" : Str)) = false := by decide) : DE X (.Name x pos) (dVar i) := pe_w (pe_var hN hv hd hcd) fun σ H Q ⟨Z, F, M, ρ, QD, R, h, o⟩ => by
  unfold dVar at h
  split at h
  · rename_i d e
    obtain ⟨v, q, r⟩ := R.e.at_ i d (atD_get e)
    exact ⟨v, q, o v d F H M (Ext.refl F) R.m r h⟩
  · exact h.elim
/-- a constant, a class, a def: a value that is known -/
theorem de_c {v : V} {d : Dat} (h : PE X e (tC v)) (r : ∀ F, Rep X.K F v d) : DE X e (dC d) := pe_w h fun σ H Q ⟨Z, F, M, ρ, QD, R, h, o⟩ => o v d F H M (Ext.refl F) R.m (r F) h
theorem de_int {i j} : DE X (.Constant (.int i) j pos) (dC (.int i)) := de_c pe_int fun _ => .int i
theorem de_bl {b j} : DE X (.Constant (.bool b) j pos) (dC (.bl b)) := de_c pe_bl fun _ => .bl b
theorem de_non {j} : DE X (.Constant .none j pos) (dC .non) := de_c pe_non fun _ => .non
theorem de_str {x j} : DE X (.Constant (.str x) j pos) (dC (.str x)) := de_c pe_str fun _ => .str x
/-! ### operators by values -/
abbrev R2D := Dat → Dat → MH → VKD → Prop
def SimO (K : PySem.W.Frag) (r : R2) (d : R2D) : Prop := ∀ Z F H M x y a b Q QD, RelM K Z F H M → Rep K F x a → Rep K F y b → d a b M QD → OkV K Z F Q QD → r x y H Q
def OpD (X : Cx) (f : Value → Value → Sem Value) (d : R2D) : Prop := ∃ r, OpR X f r ∧ SimO X.K r d
def dOp (r : R2D) (da db : TED) : TED := fun ρ M Q => da ρ M fun x M1 => db ρ M1 fun y M2 => r x y M2 Q
theorem up_bin {K : PySem.W.Frag} {r : R2} {d : R2D} (hs : SimO K r d) {σ : L2.St} {H : Hp} {Q : VK} (h : up K (dOp d da db) σ H Q) : tOp r (up K da) (up K db) σ H Q := by
  obtain ⟨Z, F, M, ρ, QD, R, h, o⟩ := h
  refine ⟨Z, F, M, ρ, _, R, h, fun x a F1 H1 M1 e1 R1 r1 h1 => ?_⟩
  refine ⟨Z, F1, M1, ρ, _, R.ext e1 R1, h1, fun y b F2 H2 M2 e2 R2 r2 h2 => ?_⟩
  exact hs Z F2 H2 M2 x y a b Q QD R2 (r1.mono e2) r2 h2 (o.mono (e1.trans e2))
theorem de_op {op : Operator} {d : R2D} (ho : OpD X (binaryOp op) d) (ha : DE X a da) (hb : DE X b db) : DE X (.BinOp a op b pos) (dOp d da db) := by
  obtain ⟨r, hr, hs⟩ := ho
  exact pe_w (pe_op hr ha hb) fun σ H Q h => up_bin hs h
/-- a comparison -/
theorem de_cmp {op : CmpOp} {d : R2D} (ho : OpD X (compareOp op) d) (ha : DE X a da) (hb : DE X b db) (hm : behindInMarks op b = false := by first | exact nomark _ | with_unfolding_all rfl) : DE X (.Compare a [op] [b] pos) (dOp d da db) := by
  obtain ⟨r, hr, hs⟩ := ho
  exact pe_w (pe_cmpR hr ha hb hm) fun σ H Q h => up_bin hs h
/-- a value as a test -/
def dTest (d : TED) : TTD := fun ρ M Q => d ρ M fun x M1 => match x with
  | .bl b => Q b M1
  | _ => False
theorem up_test {K : PySem.W.Frag} {d : TED} {σ : L2.St} {H : Hp} {Q : Bool → Hp → Prop} (h : upT K (dTest d) σ H Q) : up K d σ H (fun x H1 => ∃ k, x = .bl k ∧ Q k H1) := by
  obtain ⟨Z, F, M, ρ, QD, R, h, o⟩ := h
  refine ⟨Z, F, M, ρ, _, R, h, fun x a F1 H1 M1 e1 R1 r1 h1 => ?_⟩
  split at h1
  · rename_i b
    exact ⟨b, r1.toBl, o b F1 H1 M1 e1 R1 h1⟩
  · exact h1.elim
theorem dt_cmp {op : CmpOp} {d : R2D} (ho : OpD X (compareOp op) d) (ha : DE X a da) (hb : DE X b db) (hm : behindInMarks op b = false := by first | exact nomark _ | with_unfolding_all rfl) : DT X (.Compare a [op] [b] pos) (dTest (dOp d da db)) := by
  obtain ⟨r, hr, hs⟩ := ho
  refine pt_w (pt_cmpR hr ha hb hm) fun σ H Q h => ?_
  obtain ⟨Z, F, M, ρ, QD, R, h1, h2⟩ := up_test h
  exact up_bin hs ⟨Z, F, M, ρ, QD, R, h1, h2⟩
theorem dt_val (h : DE X e de) (he : ∀ whole, isTrue e X.env whole = (do let v ← whole; standAt e.pos; holding [v] (truthy v)) := by intro _; rfl) : DT X e (dTest de) :=
  pt_w (pt_val h he) fun σ H Q h => up_test h
/-- a op1 b op2 c -/
def dChain (r r' : R2D) (da db dc : TED) : TED := fun ρ M Q => da ρ M fun x M1 => db ρ M1 fun y M2 => r x y M2 fun z M3 => match z with
  | .bl k => if k = true then dc ρ M3 fun w M4 => r' y w M4 Q else Q (.bl false) M3
  | _ => False
theorem up_chain {K : PySem.W.Frag} {r r' : R2} {d d' : R2D} (hs : SimO K r d) (hs' : SimO K r' d') {σ : L2.St} {H : Hp} {Q : VK} (h : up K (dChain d d' da db dc) σ H Q) : tChain r r' (up K da) (up K db) (up K dc) σ H Q := by
  obtain ⟨Z, F, M, ρ, QD, R, h, o⟩ := h
  refine ⟨Z, F, M, ρ, _, R, h, fun x a F1 H1 M1 e1 R1 r1 h1 => ?_⟩
  refine ⟨Z, F1, M1, ρ, _, R.ext e1 R1, h1, fun y b F2 H2 M2 e2 R2 r2 h2 => ?_⟩
  refine hs Z F2 H2 M2 x y a b _ _ R2 (r1.mono e2) r2 h2 fun z k F3 H3 M3 e3 R3 r3 h3 => ?_
  split at h3
  · rename_i k
    refine ⟨k, r3.toBl, ?_⟩
    cases k with
    | true =>
      rw [if_pos rfl] at h3 ⊢
      have R3' := R.ext ((e1.trans e2).trans e3) R3
      refine ⟨Z, F3, M3, ρ, _, R3', h3, fun w c F4 H4 M4 e4 R4 r4 h4 => ?_⟩
      exact hs' Z F4 H4 M4 y w b c Q QD R4 (r2.mono (e3.trans e4)) r4 h4 (o.mono (((e1.trans e2).trans e3).trans e4))
    | false =>
      rw [if_neg Bool.false_ne_true] at h3 ⊢
      exact o _ _ F3 H3 M3 ((e1.trans e2).trans e3) R3 (.bl false) h3
  · exact h3.elim
theorem de_chain {op op' : CmpOp} {d d' : R2D} (ho : OpD X (compareOp op) d) (ho' : OpD X (compareOp op') d') (ha : DE X a da) (hb : DE X b db) (hc : DE X c dc)
    (hm : lastMarks [op, op'] [b, c] = false := by with_unfolding_all rfl) : DE X (.Compare a [op, op'] [b, c] pos) (dChain d d' da db dc) := by
  obtain ⟨r, hr, hs⟩ := ho
  obtain ⟨r', hr', hs'⟩ := ho'
  exact pe_w (pe_chain hr hr' ha hb hc hm) fun σ H Q h => up_chain hs hs' h
theorem dt_chain {op op' : CmpOp} {d d' : R2D} (ho : OpD X (compareOp op) d) (ho' : OpD X (compareOp op') d') (ha : DE X a da) (hb : DE X b db) (hc : DE X c dc)
    (hm : lastMarks [op, op'] [b, c] = false := by with_unfolding_all rfl) : DT X (.Compare a [op, op'] [b, c] pos) (dTest (dChain d d' da db dc)) := by
  obtain ⟨r, hr, hs⟩ := ho
  obtain ⟨r', hr', hs'⟩ := ho'
  refine pt_w (pt_chain hr hr' ha hb hc hm) fun σ H Q h => ?_
  obtain ⟨Z, F, M, ρ, QD, R, h1, h2⟩ := up_test h
  exact up_chain hs hs' ⟨Z, F, M, ρ, QD, R, h1, h2⟩
/-- and, or, not of tests -/
def dAnd (t u : TTD) : TTD := fun ρ M Q => t ρ M fun b M1 => if b = true then u ρ M1 Q else Q false M1
def dOr (t u : TTD) : TTD := fun ρ M Q => t ρ M fun b M1 => if b = true then Q true M1 else u ρ M1 Q
def dNot (t : TTD) : TTD := fun ρ M Q => t ρ M fun b M1 => Q (!b) M1
variable {rest : List Expr}
theorem dw_and1 (ha : DT X a ta) : DW X (.BoolOp .And [a] pos) ta := pw_and1 ha
theorem dw_or1 (ha : DT X a ta) : DW X (.BoolOp .Or [a] pos) ta := pw_or1 ha
theorem dw_and (ha : DT X a ta) (hb : DW X (.BoolOp .And (b :: rest) pos) tb) : DW X (.BoolOp .And (a :: b :: rest) pos) (dAnd ta tb) := pw_w (pw_and ha hb) fun σ H Q ⟨Z, F, M, ρ, QD, R, h, o⟩ => by
  refine ⟨Z, F, M, ρ, _, R, h, fun k F1 H1 M1 e1 R1 h1 => ?_⟩
  cases k with
  | true =>
    rw [if_pos rfl] at h1 ⊢
    exact ⟨Z, F1, M1, ρ, QD, R.ext e1 R1, h1, o.mono e1⟩
  | false =>
    rw [if_neg Bool.false_ne_true] at h1 ⊢
    exact o false F1 H1 M1 e1 R1 h1
theorem dw_or (ha : DT X a ta) (hb : DW X (.BoolOp .Or (b :: rest) pos) tb) : DW X (.BoolOp .Or (a :: b :: rest) pos) (dOr ta tb) := pw_w (pw_or ha hb) fun σ H Q ⟨Z, F, M, ρ, QD, R, h, o⟩ => by
  refine ⟨Z, F, M, ρ, _, R, h, fun k F1 H1 M1 e1 R1 h1 => ?_⟩
  cases k with
  | true =>
    rw [if_pos rfl] at h1 ⊢
    exact o true F1 H1 M1 e1 R1 h1
  | false =>
    rw [if_neg Bool.false_ne_true] at h1 ⊢
    exact ⟨Z, F1, M1, ρ, QD, R.ext e1 R1, h1, o.mono e1⟩
theorem dt_w (h : DW X e ta) : DT X e ta := PW.pt h
theorem dt_not (ha : DT X a ta) : DT X (.UnaryOp .Not a pos) (dNot ta) := pt_w (pt_not ha) fun σ H Q ⟨Z, F, M, ρ, QD, R, h, o⟩ =>
  ⟨Z, F, M, ρ, _, R, h, fun k F1 H1 M1 e1 R1 h1 => o _ F1 H1 M1 e1 R1 h1⟩
/-- .. as values (bools) -/
def dAndV (da db : TED) : TED := fun ρ M Q => da ρ M fun x M1 => match x with
  | .bl k => if k = true then db ρ M1 Q else Q (.bl false) M1
  | _ => False
def dOrV (da db : TED) : TED := fun ρ M Q => da ρ M fun x M1 => match x with
  | .bl k => if k = true then Q (.bl true) M1 else db ρ M1 Q
  | _ => False
def dNotV (da : TED) : TED := fun ρ M Q => da ρ M fun x M1 => match x with
  | .bl k => Q (.bl (!k)) M1
  | _ => False
theorem de_one {op} (h : DE X a da) : DE X (.BoolOp op [a] pos) da := pe_one h
theorem de_and (ha : DE X a da) (hb : DE X (.BoolOp .And (b :: rest) pos) db) : DE X (.BoolOp .And (a :: b :: rest) pos) (dAndV da db) := pe_w (pe_and ha hb) fun σ H Q ⟨Z, F, M, ρ, QD, R, h, o⟩ => by
  refine ⟨Z, F, M, ρ, _, R, h, fun x a F1 H1 M1 e1 R1 r1 h1 => ?_⟩
  split at h1
  · rename_i k
    refine ⟨k, r1.toBl, ?_⟩
    cases k with
    | true =>
      rw [if_pos rfl] at h1 ⊢
      exact ⟨Z, F1, M1, ρ, QD, R.ext e1 R1, h1, o.mono e1⟩
    | false =>
      rw [if_neg Bool.false_ne_true] at h1 ⊢
      exact o _ _ F1 H1 M1 e1 R1 (.bl false) h1
  · exact h1.elim
theorem de_or (ha : DE X a da) (hb : DE X (.BoolOp .Or (b :: rest) pos) db) : DE X (.BoolOp .Or (a :: b :: rest) pos) (dOrV da db) := pe_w (pe_or ha hb) fun σ H Q ⟨Z, F, M, ρ, QD, R, h, o⟩ => by
  refine ⟨Z, F, M, ρ, _, R, h, fun x a F1 H1 M1 e1 R1 r1 h1 => ?_⟩
  split at h1
  · rename_i k
    refine ⟨k, r1.toBl, ?_⟩
    cases k with
    | true =>
      rw [if_pos rfl] at h1 ⊢
      exact o _ _ F1 H1 M1 e1 R1 (.bl true) h1
    | false =>
      rw [if_neg Bool.false_ne_true] at h1 ⊢
      exact ⟨Z, F1, M1, ρ, QD, R.ext e1 R1, h1, o.mono e1⟩
  · exact h1.elim
theorem de_not (ha : DE X a da) : DE X (.UnaryOp .Not a pos) (dNotV da) := pe_w (pe_not ha) fun σ H Q ⟨Z, F, M, ρ, QD, R, h, o⟩ => by
  refine ⟨Z, F, M, ρ, _, R, h, fun x a F1 H1 M1 e1 R1 r1 h1 => ?_⟩
  split at h1
  · rename_i k
    exact ⟨k, r1.toBl, o _ _ F1 H1 M1 e1 R1 (.bl _) h1⟩
  · exact h1.elim
/-- a if t else b -/
def dIf (t : TTD) (da db : TED) : TED := fun ρ M Q => t ρ M fun k M1 => if k = true then da ρ M1 Q else db ρ M1 Q
theorem de_if (hc : DT X c tc) (ha : DE X a da) (hb : DE X b db) : DE X (.IfExp c a b pos) (dIf tc da db) := pe_w (pe_ifExp hc ha hb) fun σ H Q ⟨Z, F, M, ρ, QD, R, h, o⟩ => by
  refine ⟨Z, F, M, ρ, _, R, h, fun k F1 H1 M1 e1 R1 h1 => ?_⟩
  cases k with
  | true =>
    rw [if_pos rfl] at h1 ⊢
    exact ⟨Z, F1, M1, ρ, QD, R.ext e1 R1, h1, o.mono e1⟩
  | false =>
    rw [if_neg Bool.false_ne_true] at h1 ⊢
    exact ⟨Z, F1, M1, ρ, QD, R.ext e1 R1, h1, o.mono e1⟩
/-- one value -/
def SimU (K : PySem.W.Frag) (r : V → Hp → VK → Prop) (d : Dat → MH → VKD → Prop) : Prop := ∀ Z F H M x a Q QD, RelM K Z F H M → Rep K F x a → d a M QD → OkV K Z F Q QD → r x H Q
def dUn (r : Dat → MH → VKD → Prop) (da : TED) : TED := fun ρ M Q => da ρ M fun x M1 => r x M1 Q
theorem up_un {K : PySem.W.Frag} {r : V → Hp → VK → Prop} {d : Dat → MH → VKD → Prop} (hs : SimU K r d) {σ : L2.St} {H : Hp} {Q : VK} (h : up K (dUn d da) σ H Q) : tUn r (up K da) σ H Q := by
  obtain ⟨Z, F, M, ρ, QD, R, h, o⟩ := h
  refine ⟨Z, F, M, ρ, _, R, h, fun x a F1 H1 M1 e1 R1 r1 h1 => ?_⟩
  exact hs Z F1 H1 M1 x a Q QD R1 r1 h1 (o.mono e1)
def dNeg : Dat → MH → VKD → Prop := fun x M Q => match x with
  | .int i => Q (.int (-i)) M
  | _ => False
theorem de_neg (ha : DE X a da) : DE X (.UnaryOp .USub a pos) (dUn dNeg da) := pe_w (pe_un un_neg ha) fun σ H Q h => up_un (fun Z F H M x a Q QD R r h o => by
  unfold dNeg at h
  split at h
  · exact ⟨_, r.toInt, o _ _ F H M (Ext.refl F) R (.int _) h⟩
  · exact h.elim) h
/-! ### arguments, displays -/
def dNil : TAD := fun _ M Q => Q [] M
def dCons (da : TED) (dr : TAD) : TAD := fun ρ M Q => da ρ M fun x M1 => dr ρ M1 fun xs M2 => Q (x :: xs) M2
theorem da_nil : DA X [] dNil := pa_w pa_nil fun σ H Q ⟨Z, F, M, ρ, QD, R, h, o⟩ => o [] [] F H M (Ext.refl F) R.m .nil h
theorem da_cons {dr : TAD} (ha : DE X e de) (hr : DA X es dr) (hs : starEach (e :: es) X.env = (false, eval e X.env) :: starEach es X.env := by rfl) : DA X (e :: es) (dCons de dr) := pa_w (pa_cons ha hr hs) fun σ H Q ⟨Z, F, M, ρ, QD, R, h, o⟩ => by
  refine ⟨Z, F, M, ρ, _, R, h, fun x a F1 H1 M1 e1 R1 r1 h1 => ?_⟩
  refine ⟨Z, F1, M1, ρ, _, R.ext e1 R1, h1, fun xs as F2 H2 M2 e2 R2 r2 h2 => ?_⟩
  exact o _ _ F2 H2 M2 (e1.trans e2) R2 (.cons (r1.mono e2) r2) h2
/-- a new list: one that never changes, or one that is to change -/
def newL (mk : Bool) (ds : List Dat) (M : MH) (Q : VKD) : Prop := match mk with
  | false => Q (.lst ds) M
  | true => ∀ a, M a = none → Q (.ref a) (updM M a (.lst ds))
theorem sim_new {K : PySem.W.Frag} {Z F H : Hp} {M : MH} {xs : List V} {ds : List Dat} {Q : VK} {QD : VKD} {mk : Bool} (R : RelM K Z F H M) (r : Reps K F xs ds) (h : newL mk ds M QD) (o : OkV K Z F Q QD) {p : Addr} (hp : H p = none) : Q (.ref p) (upd H p (.lst xs)) := by
  cases mk with
  | false =>
    obtain ⟨R2, e2⟩ := R.newF (o := .lst xs) hp
    exact o _ _ _ _ M e2 R2 (.lst upd_same (r.mono e2)) h
  | true =>
    have R2 := R.newM (o := .lst xs) (m := .lst ds) hp ⟨xs, upd_same, r⟩
    exact o _ _ F _ _ (Ext.refl F) R2 (.ref p) (h p (R.fresh hp).2)
def dTup (dA : TAD) : TED := fun ρ M Q => dA ρ M fun xs M1 => xs.length ≤ sizeLine ∧ Q (.tup xs) M1
def dLst (mk : Bool) (dA : TAD) : TED := fun ρ M Q => dA ρ M fun xs M1 => xs.length ≤ sizeLine ∧ newL mk xs M1 Q
theorem de_tup {x1} (h : DA X es dA) : DE X (.Tuple es x1 pos) (dTup dA) := pe_w (pe_tup h) fun σ H Q ⟨Z, F, M, ρ, QD, R, h, o⟩ => by
  refine ⟨Z, F, M, ρ, _, R, h, fun xs as F1 H1 M1 e1 R1 r1 h1 => ?_⟩
  refine ⟨by rw [r1.length]; exact h1.1, fun p hp => ?_⟩
  obtain ⟨R2, e2⟩ := R1.newF (o := .tup xs) hp
  exact o _ _ _ _ M1 (e1.trans e2) R2 (.tup (SqT.of upd_same) (r1.mono e2)) h1.2
theorem de_lst (mk : Bool) (h : DA X es dA) : DE X (.List es pos) (dLst mk dA) := pe_w (pe_lst h) fun σ H Q ⟨Z, F, M, ρ, QD, R, h, o⟩ => by
  refine ⟨Z, F, M, ρ, _, R, h, fun xs as F1 H1 M1 e1 R1 r1 h1 => ?_⟩
  exact ⟨by rw [r1.length]; exact h1.1, fun p hp => sim_new R1 r1 h1.2 (o.mono e1) hp⟩
end
end DL
namespace DL
open PySem PySem.Spec PyProof.Rows L2
/-! ### lists as they stand -/
/-- a list that may be read and joined -/
def lsT (M : MH) : Dat → Option (List Dat)
  | .lst ds => some ds
  | .ref a => match M a with
    | some (.lst ds) => some ds
    | _ => none
  | _ => none
/-- a list that may be read -/
def lsR (M : MH) : Dat → Option (List Dat)
  | .lst ds => some ds
  | .frl ds => some ds
  | .ref a => match M a with
    | some (.lst ds) => some ds
    | _ => none
  | _ => none
section
variable {K : PySem.W.Frag} {Z F H : Hp} {M : MH} {x : V} {a : Dat} {ds : List Dat}
theorem lsT_rep (R : RelM K Z F H M) (r : Rep K F x a) (h : lsT M a = some ds) : ∃ p xs, x = .ref p ∧ H p = some (.lst xs) ∧ Reps K F xs ds := by
  unfold lsT at h
  split at h
  · cases h
    cases r with
    | lst q r => exact ⟨_, _, rfl, R.sub _ _ q, r⟩
  · rename_i p
    split at h
    · rename_i e
      cases h
      cases r
      obtain ⟨xs, q, r⟩ := (R.chg p _ e).2
      exact ⟨_, xs, rfl, q, r⟩
    · cases h
  · cases h
theorem lsR_rep (R : RelM K Z F H M) (r : Rep K F x a) (h : lsR M a = some ds) : ∃ p xs, x = .ref p ∧ SqL K H p xs ∧ Reps K F xs ds := by
  unfold lsR at h
  split at h
  · cases h
    cases r with
    | lst q r => exact ⟨_, _, rfl, SqL.of (R.sub _ _ q), r⟩
  · cases h
    cases r with
    | frl q r => exact ⟨_, _, rfl, ext_l R.sub q, r⟩
  · rename_i p
    split at h
    · rename_i e
      cases h
      cases r
      obtain ⟨xs, q, r⟩ := (R.chg p _ e).2
      exact ⟨_, xs, rfl, SqL.of q, r⟩
    · cases h
  · cases h
theorem lsR_lst : lsR M (.lst ds) = some ds := rfl
theorem lsR_frl : lsR M (.frl ds) = some ds := rfl
theorem lsT_lst : lsT M (.lst ds) = some ds := rfl
theorem lsR_ref {p : Addr} (h : M p = some (.lst ds)) : lsR M (.ref p) = some ds := by
  simp only [lsR, h]
theorem lsT_ref {p : Addr} (h : M p = some (.lst ds)) : lsT M (.ref p) = some ds := by
  simp only [lsT, h]
end
/-! ### arithmetic -/
section
variable {X : Cx}
/-- ints alone, by an operator's rule -/
theorem opd_int {f : Value → Value → Sem Value} {C : Int → Int → Prop} {g : Int → Int → V} {gD : Int → Int → Dat} (h : OpR X f (rI C g)) (hg : ∀ F i j, Rep X.K F (g i j) (gD i j)) :
    OpD X f (fun x y M Q => match x with
      | .int i => (match y with
        | .int j => C i j ∧ Q (gD i j) M
        | _ => False)
      | _ => False) := ⟨_, h, fun Z F H M x y a b Q QD R ra rb hd o => by
  dsimp only at hd
  split at hd
  · split at hd
    · exact ⟨_, _, ra.toInt, rb.toInt, hd.1, o _ _ F H M (Ext.refl F) R (hg F _ _) hd.2⟩
    · exact hd.elim
  · exact hd.elim⟩
theorem opd_int0 {f : Value → Value → Sem Value} {g : Int → Int → V} {gD : Int → Int → Dat} (h : OpR X f (rI0 g)) (hg : ∀ F i j, Rep X.K F (g i j) (gD i j)) :
    OpD X f (fun x y M Q => match x with
      | .int i => (match y with
        | .int j => Q (gD i j) M
        | _ => False)
      | _ => False) := ⟨_, h, fun Z F H M x y a b Q QD R ra rb hd o => by
  dsimp only at hd
  split at hd
  · split at hd
    · exact ⟨_, _, ra.toInt, rb.toInt, o _ _ F H M (Ext.refl F) R (hg F _ _) hd⟩
    · exact hd.elim
  · exact hd.elim⟩
def rSub : R2D := fun x y M Q => match x with
  | .int i => (match y with
    | .int j => Q (.int (i - j)) M
    | _ => False)
  | _ => False
theorem od_sub : OpD X (binaryOp .Sub) rSub := opd_int0 op_sub fun F i j => .int _
/-- floor division: the divisor is not 0, and C divides by itself -/
def DivOk (i j : Int) : Prop := j ≠ 0 ∧ Builtin.divisionGoesByPylong i j = false
theorem op_fdivG : OpR X (binaryOp .FloorDiv) (rI DivOk fun i j => .int (i.fdiv j)) := opI fun _ _ _ _ _ _ _ hc q => floordiv_int hc.1 q (.inl hc.2)
def rDiv : R2D := fun x y M Q => match x with
  | .int i => (match y with
    | .int j => DivOk i j ∧ Q (.int (i.fdiv j)) M
    | _ => False)
  | _ => False
theorem od_div : OpD X (binaryOp .FloorDiv) rDiv := opd_int op_fdivG fun F i j => .int _
def rMod : R2D := fun x y M Q => match x with
  | .int i => (match y with
    | .int j => j ≠ 0 ∧ Q (.int (i.fmod j)) M
    | _ => False)
  | _ => False
theorem od_mod : OpD X (binaryOp .Mod) rMod := opd_int op_modN fun F i j => .int _
def PowOk (i j : Int) : Prop := 0 ≤ j ∧ (Builtin.Int.intBits i : Int) * j ≤ 2 ^ 27
theorem op_powG : OpR X (binaryOp .Pow) (rI PowOk fun i j => .int (i ^ j.toNat)) := opI fun _ _ _ _ _ _ _ hc q => pow_int hc.1 hc.2 q
def rPow : R2D := fun x y M Q => match x with
  | .int i => (match y with
    | .int j => PowOk i j ∧ Q (.int (i ^ j.toNat)) M
    | _ => False)
  | _ => False
theorem od_pow : OpD X (binaryOp .Pow) rPow := opd_int op_powG fun F i j => .int _
def rShl : R2D := fun x y M Q => match x with
  | .int i => (match y with
    | .int j => CShl i j ∧ Q (.int (i * 2 ^ j.toNat)) M
    | _ => False)
  | _ => False
theorem od_shl : OpD X (binaryOp .LShift) rShl := opd_int op_shlW fun F i j => .int _
def rShr : R2D := fun x y M Q => match x with
  | .int i => (match y with
    | .int j => 0 ≤ j ∧ Q (.int (i / 2 ^ j.toNat)) M
    | _ => False)
  | _ => False
theorem od_shr : OpD X (binaryOp .RShift) rShr := opd_int op_shr fun F i j => .int _
def rAnd : R2D := fun x y M Q => match x with
  | .int i => (match y with
    | .int j => Q (.int (Builtin.bitAnd i j)) M
    | _ => False)
  | _ => False
theorem od_and : OpD X (binaryOp .BitAnd) rAnd := opd_int0 op_and fun F i j => .int _
def rOr : R2D := fun x y M Q => match x with
  | .int i => (match y with
    | .int j => Q (.int (Builtin.bitOr i j)) M
    | _ => False)
  | _ => False
theorem od_or : OpD X (binaryOp .BitOr) rOr := opd_int0 op_or fun F i j => .int _
def rXor : R2D := fun x y M Q => match x with
  | .int i => (match y with
    | .int j => Q (.int (Builtin.bitXor i j)) M
    | _ => False)
  | _ => False
theorem od_xor : OpD X (binaryOp .BitXor) rXor := opd_int0 op_xor fun F i j => .int _
def rLt : R2D := fun x y M Q => match x with
  | .int i => (match y with
    | .int j => Q (.bl (decide (i < j))) M
    | _ => False)
  | _ => False
theorem od_lt : OpD X (compareOp .Lt) rLt := opd_int0 op_lt fun F i j => .bl _
def rLe : R2D := fun x y M Q => match x with
  | .int i => (match y with
    | .int j => Q (.bl (decide (i ≤ j))) M
    | _ => False)
  | _ => False
theorem od_le : OpD X (compareOp .LtE) rLe := opd_int0 op_le fun F i j => .bl _
def rGt : R2D := fun x y M Q => match x with
  | .int i => (match y with
    | .int j => Q (.bl (decide (j < i))) M
    | _ => False)
  | _ => False
theorem od_gt : OpD X (compareOp .Gt) rGt := opd_int0 op_gt fun F i j => .bl _
def rGe : R2D := fun x y M Q => match x with
  | .int i => (match y with
    | .int j => Q (.bl (decide (j ≤ i))) M
    | _ => False)
  | _ => False
theorem od_ge : OpD X (compareOp .GtE) rGe := opd_int0 op_ge fun F i j => .bl _
/-- +: ints, texts, tuples, lists -/
def rAdd (mk : Bool) : R2D := fun x y M Q => match x with
  | .int i => (match y with
    | .int j => Q (.int (i + j)) M
    | _ => False)
  | .str i => (match y with
    | .str j => i.length + j.length ≤ sizeLine ∧ Q (.str (i ++ j)) M
    | _ => False)
  | .tup i => (match y with
    | .tup j => i ≠ [] ∧ j ≠ [] ∧ i.length + j.length ≤ sizeLine ∧ Q (.tup (i ++ j)) M
    | _ => False)
  | x => ∃ i j, lsT M x = some i ∧ lsT M y = some j ∧ i.length + j.length ≤ sizeLine ∧ newL mk (i ++ j) M Q
theorem reps_ne {K : PySem.W.Frag} {F : Hp} {vs : List V} {ds : List Dat} (r : Reps K F vs ds) (h : ds ≠ []) : vs ≠ [] := fun e => by
  subst e
  cases r
  exact h rfl
theorem od_add (mk : Bool) : OpD X (binaryOp .Add) (rAdd mk) := ⟨_, OpR.or op_add (OpR.or op_add_str (OpR.or op_catT op_cat)), fun Z F H M x y a b Q QD R ra rb hd o => by
  unfold rAdd at hd
  split at hd
  · split at hd
    · exact .inl ⟨_, _, ra.toInt, rb.toInt, o _ _ F H M (Ext.refl F) R (.int _) hd⟩
    · exact hd.elim
  · split at hd
    · exact .inr (.inl ⟨_, _, ra.toStr, rb.toStr, hd.1, o _ _ F H M (Ext.refl F) R (.str _) hd.2⟩)
    · exact hd.elim
  · split at hd
    · obtain ⟨h1, h2, h3, h4⟩ := hd
      cases ra with
      | tup q1 r1 =>
        cases rb with
        | tup q2 r2 =>
          have hne := reps_ne r1 h1
          have hne2 := reps_ne r2 h2
          refine .inr (.inr (.inl ⟨_, _, _, _, rfl, rfl, ext_t R.sub q1, ext_t R.sub q2, hne, by rw [r1.length, r2.length]; exact h3, ?_⟩))
          refine ⟨fun e => absurd e hne2, fun _ p hp => ?_⟩
          obtain ⟨R2, e2⟩ := R.newF (o := .tup _) hp
          exact o _ _ _ _ M e2 R2 (.tup (SqT.of upd_same) ((r1.app r2).mono e2)) h4
    · exact hd.elim
  · obtain ⟨i, j, h1, h2, h3, h4⟩ := hd
    obtain ⟨p, xs, rfl, q1, r1⟩ := lsT_rep R ra h1
    obtain ⟨p2, ys, rfl, q2, r2⟩ := lsT_rep R rb h2
    exact .inr (.inr (.inr ⟨_, _, _, _, rfl, rfl, q1, q2, by rw [r1.length, r2.length]; exact h3, fun p hp => sim_new R (r1.app r2) h4 o hp⟩))⟩
theorem Reps.rep {K : PySem.W.Frag} {F : Hp} {vs : List V} {ds : List Dat} (r : Reps K F vs ds) : ∀ n : Nat, Reps K F (List.replicate n vs).flatten (List.replicate n ds).flatten
  | 0 => .nil
  | n + 1 => by
    rw [List.replicate_succ, List.replicate_succ, List.flatten_cons, List.flatten_cons]
    exact r.app (Reps.rep r n)
/-- *: ints, a list times an int -/
def rMul (mk : Bool) : R2D := fun x y M Q => match x with
  | .int i => (match y with
    | .int j => IntMulOk i j ∧ Q (.int (i * j)) M
    | _ => False)
  | x => ∃ ds k, lsT M x = some ds ∧ y = .int k ∧ -(2 ^ 63) ≤ k ∧ k < 2 ^ 63 ∧ ds.length * k.toNat ≤ sizeLine ∧ newL mk (List.replicate k.toNat ds).flatten M Q
theorem op_mulG : OpR X (binaryOp .Mult) (rI IntMulOk fun i j => .int (i * j)) := opI fun _ _ _ _ _ _ _ hc q => mul_int q hc
theorem od_mul (mk : Bool) : OpD X (binaryOp .Mult) (rMul mk) := ⟨_, OpR.or op_mulG op_rep, fun Z F H M x y a b Q QD R ra rb hd o => by
  unfold rMul at hd
  split at hd
  · split at hd
    · exact .inl ⟨_, _, ra.toInt, rb.toInt, hd.1, o _ _ F H M (Ext.refl F) R (.int _) hd.2⟩
    · exact hd.elim
  · obtain ⟨ds, k, h1, h2, h3, h4, h5, h6⟩ := hd
    obtain ⟨p, xs, rfl, q1, r1⟩ := lsT_rep R ra h1
    subst h2
    exact .inr ⟨_, _, _, rfl, rb.toInt, q1, h3, h4, by rw [r1.length]; exact h5, fun p hp => sim_new R (r1.rep _) h6 o hp⟩⟩
/-! ### == and != of data -/
mutual
def toPy : Dat → PyData
  | .bl b => .bool b
  | .int i => .int i
  | .str x => .str x
  | .tup ds => .tuple (toPys ds)
  | .lst ds => .list (toPys ds)
  | .frl ds => .list (toPys ds)
  | _ => .none
def toPys : List Dat → List PyData
  | [] => []
  | d :: ds => toPy d :: toPys ds
end
mutual
/-- data alone, nested at most so deep -/
def shp : Nat → Dat → Bool
  | _, .non => true
  | _, .bl _ => true
  | _, .int _ => true
  | _, .str x => PyData.canLay0 (.str x)
  | n + 1, .tup ds => shps n ds
  | n + 1, .lst ds => shps n ds
  | n + 1, .frl ds => shps n ds
  | _, _ => false
def shps : Nat → List Dat → Bool
  | _, [] => true
  | n, d :: ds => shp n d && shps n ds
end
section
variable {K : PySem.W.Frag} {F : Hp}
mutual
theorem shp_dp : ∀ (n : Nat) (d : Dat) (v : V), shp n d = true → Rep K F v d → Dp K F v (toPy d)
  | _, .non, _, _, r => by cases r; exact .non
  | _, .bl _, _, _, r => by cases r; exact .bl _
  | _, .int _, _, _, r => by cases r; exact .int _
  | _, .str _, _, _, r => by cases r; exact .str _
  | n + 1, .tup ds, _, h, r => by
    cases r with
    | tup q r =>
      unfold toPy
      exact .tup q (shps_dp n ds _ (by unfold shp at h; exact h) r)
  | n + 1, .lst ds, _, h, r => by
    cases r with
    | lst q r =>
      unfold toPy
      exact .lst (SqL.of q) (shps_dp n ds _ (by unfold shp at h; exact h) r)
  | n + 1, .frl ds, _, h, r => by
    cases r with
    | frl q r =>
      unfold toPy
      exact .lst q (shps_dp n ds _ (by unfold shp at h; exact h) r)
  | 0, .tup _, _, h, _ => by unfold shp at h; cases h
  | 0, .lst _, _, h, _ => by unfold shp at h; cases h
  | 0, .frl _, _, h, _ => by unfold shp at h; cases h
  | _, .ty _, _, h, _ => by unfold shp at h; cases h
  | _, .cls _, _, h, _ => by unfold shp at h; cases h
  | _, .dic _, _, h, _ => by unfold shp at h; cases h
  | _, .ins _ _, _, h, _ => by unfold shp at h; cases h
  | _, .ref _, _, h, _ => by unfold shp at h; cases h
theorem shps_dp : ∀ (n : Nat) (ds : List Dat) (vs : List V), shps n ds = true → Reps K F vs ds → DpAll K F vs (toPys ds)
  | _, [], _, _, r => by
    cases r
    unfold toPys
    exact .nil
  | n, d :: ds, _, h, r => by
    cases r with
    | cons r1 r2 =>
      unfold shps at h
      rw [Bool.and_eq_true] at h
      unfold toPys
      exact .cons (shp_dp n d _ h.1 r1) (shps_dp n ds _ h.2 r2)
end
mutual
theorem shp_depth : ∀ (n : Nat) (d : Dat), shp n d = true → (toPy d).depth ≤ n ∧ PyData.canLay0 (toPy d) = true
  | _, .non, _ => by simp [toPy, PyData.depth, PyData.canLay0]
  | _, .bl _, _ => by simp [toPy, PyData.depth, PyData.canLay0]
  | _, .int _, _ => by simp [toPy, PyData.depth, PyData.canLay0]
  | _, .str x, h => by
    unfold shp at h
    simp only [toPy, PyData.depth]
    exact ⟨Nat.zero_le _, h⟩
  | n + 1, .tup ds, h => by
    unfold shp at h
    have := shps_depth n ds h
    simp only [toPy, PyData.depth, PyData.canLay0]
    exact ⟨by omega, this.2⟩
  | n + 1, .lst ds, h => by
    unfold shp at h
    have := shps_depth n ds h
    simp only [toPy, PyData.depth, PyData.canLay0]
    exact ⟨by omega, this.2⟩
  | n + 1, .frl ds, h => by
    unfold shp at h
    have := shps_depth n ds h
    simp only [toPy, PyData.depth, PyData.canLay0]
    exact ⟨by omega, this.2⟩
  | 0, .tup _, h => by unfold shp at h; cases h
  | 0, .lst _, h => by unfold shp at h; cases h
  | 0, .frl _, h => by unfold shp at h; cases h
  | _, .ty _, h => by unfold shp at h; cases h
  | _, .cls _, h => by unfold shp at h; cases h
  | _, .dic _, h => by unfold shp at h; cases h
  | _, .ins _ _, h => by unfold shp at h; cases h
  | _, .ref _, h => by unfold shp at h; cases h
theorem shps_depth : ∀ (n : Nat) (ds : List Dat), shps n ds = true → PyData.depthAll (toPys ds) ≤ n ∧ PyData.canLayAll0 (toPys ds) = true
  | _, [], _ => by simp [toPys, PyData.depthAll, PyData.canLayAll0]
  | n, d :: ds, h => by
    unfold shps at h
    rw [Bool.and_eq_true] at h
    have h1 := shp_depth n d h.1
    have h2 := shps_depth n ds h.2
    simp only [toPys, PyData.depthAll, PyData.canLayAll0, Bool.and_eq_true]
    exact ⟨by omega, h1.2, h2.2⟩
end
theorem shaped_of {d : Dat} (h : shp 64 d = true) : SeqAt.shaped (toPy d) = true := by
  have := shp_depth 64 d h
  unfold SeqAt.shaped
  rw [Bool.and_eq_true]
  exact ⟨this.2, decide_eq_true this.1⟩
mutual
theorem Dp.mono {H H' : Hp} (e : Ext H H') : ∀ {v : V} {d : PyData}, Dp K H v d → Dp K H' v d
  | _, _, .non => .non
  | _, _, .bl b => .bl b
  | _, _, .int i => .int i
  | _, _, .str x => .str x
  | _, _, .lst h r => .lst (ext_l e h) (DpAll.mono e r)
  | _, _, .tup h r => .tup (ext_t e h) (DpAll.mono e r)
theorem DpAll.mono {H H' : Hp} (e : Ext H H') : ∀ {vs : List V} {ds : List PyData}, DpAll K H vs ds → DpAll K H' vs ds
  | _, _, .nil => .nil
  | _, _, .cons h r => .cons (Dp.mono e h) (DpAll.mono e r)
end
end
/-- a list that is to change, as the list that it is -/
def deref (M : MH) : Dat → Dat
  | .ref a => match M a with
    | some (.lst ds) => .lst ds
    | _ => .ref a
  | d => d
theorem deref_dp {K : PySem.W.Frag} {Z F H : Hp} {M : MH} {x : V} {a : Dat} (R : RelM K Z F H M) (r : Rep K F x a) (h : shp 64 (deref M a) = true) : Dp K H x (toPy (deref M a)) := by
  unfold deref at h ⊢
  split at h
  · rename_i p
    split at h
    · rename_i ds e
      cases r
      obtain ⟨xs, q, r⟩ := (R.chg p _ e).2
      simp only [toPy]
      exact .lst (SqL.of q) (DpAll.mono R.sub (shps_dp 63 ds xs (by unfold shp at h; exact h) r))
    · unfold shp at h
      cases h
  · exact Dp.mono R.sub (shp_dp 64 _ x h r)
/-- equal data -/
def eqD (a b : Dat) : Bool := PyData.eqv (toPy a) (toPy b)
def rEqD : R2D := fun x y M Q => match x with
  | .int i => (match y with
    | .int j => Q (.bl (decide (i = j))) M
    | y => shp 64 (deref M y) = true ∧ Q (.bl (eqD (.int i) (deref M y))) M)
  | x => shp 64 (deref M x) = true ∧ shp 64 (deref M y) = true ∧ Q (.bl (eqD (deref M x) (deref M y))) M
def rNeD : R2D := fun x y M Q => match x with
  | .int i => (match y with
    | .int j => Q (.bl (!decide (i = j))) M
    | y => shp 64 (deref M y) = true ∧ Q (.bl (!eqD (.int i) (deref M y))) M)
  | x => shp 64 (deref M x) = true ∧ shp 64 (deref M y) = true ∧ Q (.bl (!eqD (deref M x) (deref M y))) M
theorem od_eq (hu : X.A.units + 64 < cLine) : OpD X (compareOp .Eq) rEqD := ⟨_, OpR.or op_eq (op_eqD hu), fun Z F H M x y a b Q QD R ra rb hd o => by
  unfold rEqD at hd
  split at hd
  · rename_i i
    have ex := ra.toInt
    split at hd
    · rename_i j
      have ey := rb.toInt
      subst ex ey
      refine .inl ⟨rfl, o _ _ F H M (Ext.refl F) R ?_ hd⟩
      have e : decide (V.int i = V.int j) = decide (i = j) := by simp
      rw [e]
      exact .bl _
    · refine .inr ⟨_, _, Dp.mono R.sub (shp_dp 0 (.int i) x rfl ra), deref_dp R rb hd.1, rfl, shaped_of hd.1, o _ _ F H M (Ext.refl F) R (.bl _) hd.2⟩
  · exact .inr ⟨_, _, deref_dp R ra hd.1, deref_dp R rb hd.2.1, shaped_of hd.1, shaped_of hd.2.1, o _ _ F H M (Ext.refl F) R (.bl _) hd.2.2⟩⟩
theorem od_ne (hu : X.A.units + 64 < cLine) : OpD X (compareOp .NotEq) rNeD := ⟨_, OpR.or op_ne (op_neD hu), fun Z F H M x y a b Q QD R ra rb hd o => by
  unfold rNeD at hd
  split at hd
  · rename_i i
    have ex := ra.toInt
    split at hd
    · rename_i j
      have ey := rb.toInt
      subst ex ey
      refine .inl ⟨rfl, o _ _ F H M (Ext.refl F) R ?_ hd⟩
      have e : decide (V.int i = V.int j) = decide (i = j) := by simp
      rw [e]
      exact .bl _
    · refine .inr ⟨_, _, Dp.mono R.sub (shp_dp 0 (.int i) x rfl ra), deref_dp R rb hd.1, rfl, shaped_of hd.1, o _ _ F H M (Ext.refl F) R (.bl _) hd.2⟩
  · exact .inr ⟨_, _, deref_dp R ra hd.1, deref_dp R rb hd.2.1, shaped_of hd.1, shaped_of hd.2.1, o _ _ F H M (Ext.refl F) R (.bl _) hd.2.2⟩⟩
/-- is None, is not None; of bools -/
def isN : Dat → Bool
  | .non => true
  | _ => false
theorem isN_rep {K : PySem.W.Frag} {F : Hp} {x : V} {a : Dat} (r : Rep K F x a) : decide (x = .non) = isN a := by
  cases r <;> simp [isN]
def rIs : R2D := fun x y M Q => match y with
  | .non => Q (.bl (isN x)) M
  | .bl b => (match x with
    | .bl a => Q (.bl (decide (a = b))) M
    | _ => False)
  | _ => False
def rIsNot : R2D := fun x y M Q => match y with
  | .non => Q (.bl (!isN x)) M
  | .bl b => (match x with
    | .bl a => Q (.bl (!decide (a = b))) M
    | _ => False)
  | _ => False
theorem od_is : OpD X (compareOp .Is) rIs := ⟨_, OpR.or op_isN op_isBl, fun Z F H M x y a b Q QD R ra rb hd o => by
  unfold rIs at hd
  split at hd
  · refine .inl ⟨rb.toNon, o _ _ F H M (Ext.refl F) R ?_ hd⟩
    rw [isN_rep ra]
    exact .bl _
  · split at hd
    · exact .inr ⟨_, _, ra.toBl, rb.toBl, o _ _ F H M (Ext.refl F) R (.bl _) hd⟩
    · exact hd.elim
  · exact hd.elim⟩
theorem od_isnot : OpD X (compareOp .IsNot) rIsNot := ⟨_, OpR.or op_notN op_notBl, fun Z F H M x y a b Q QD R ra rb hd o => by
  unfold rIsNot at hd
  split at hd
  · refine .inl ⟨rb.toNon, o _ _ F H M (Ext.refl F) R ?_ hd⟩
    rw [isN_rep ra]
    exact .bl _
  · split at hd
    · exact .inr ⟨_, _, ra.toBl, rb.toBl, o _ _ F H M (Ext.refl F) R (.bl _) hd⟩
    · exact hd.elim
  · exact hd.elim⟩
/-- x in s, x not in s: s a tuple or a list of flat data, x flat -/
def flatD : Dat → Bool
  | .non => true
  | .bl _ => true
  | .int _ => true
  | .str _ => true
  | _ => false
def eqF : Dat → Dat → Bool
  | .non, .non => true
  | .bl a, .bl b => a == b
  | .int a, .int b => a == b
  | .str a, .str b => a == b
  | .bl a, .int b => (if a then 1 else 0) == b
  | .int a, .bl b => a == (if b then 1 else 0)
  | _, _ => false
end
end DL
namespace DL
open PySem PySem.Spec PyProof.Rows L2
section
variable {K : PySem.W.Frag} {Z F H : Hp} {M : MH}
theorem flat_rep {x : V} {a : Dat} (r : Rep K F x a) (h : flatD a = true) : flatV x = true := by
  cases r <;> first | rfl | (unfold flatD at h; cases h)
theorem eqF_rep {x y : V} {a b : Dat} (ra : Rep K F x a) (rb : Rep K F y b) (ha : flatD a = true) (hb : flatD b = true) : eqV x y = eqF a b := by
  cases ra <;> first | (unfold flatD at ha; cases ha; done) | skip
  all_goals (cases rb <;> first | (unfold flatD at hb; cases hb; done) | rfl)
theorem flats_rep {xs : List V} {ds : List Dat} (r : Reps K F xs ds) (h : ds.all flatD = true) : xs.all flatV = true := by
  induction xs generalizing ds with
  | nil => rfl
  | cons x xs ih =>
    cases r with
    | cons r1 r2 =>
      rw [List.all_cons, Bool.and_eq_true] at h ⊢
      exact ⟨flat_rep r1 h.1, ih r2 h.2⟩
def inD (a : Dat) (ds : List Dat) : Bool := ds.any fun b => eqF b a
theorem inD_rep {x : V} {a : Dat} {xs : List V} {ds : List Dat} (ra : Rep K F x a) (r : Reps K F xs ds) (ha : flatD a = true) (h : ds.all flatD = true) : inV x xs = inD a ds := by
  unfold inV inD
  induction xs generalizing ds with
  | nil =>
    cases r
    rfl
  | cons y xs ih =>
    cases r with
    | cons r1 r2 =>
      rw [List.all_cons, Bool.and_eq_true] at h
      rw [List.any_cons, List.any_cons, eqF_rep r1 ra h.1 ha, ih r2 h.2]
/-- the items of a list or a tuple -/
def itemsR (M : MH) : Dat → Option (List Dat)
  | .tup ds => some ds
  | x => lsR M x
theorem itemsR_rep {x : V} {a : Dat} {ds : List Dat} (R : RelM K Z F H M) (r : Rep K F x a) (h : itemsR M a = some ds) : ∃ p xs, x = .ref p ∧ (SqL K H p xs ∨ SqT K H p xs) ∧ Reps K F xs ds := by
  unfold itemsR at h
  split at h
  · cases h
    cases r with
    | tup q r => exact ⟨_, _, rfl, .inr (ext_t R.sub q), r⟩
  · obtain ⟨p, xs, e, q, r⟩ := lsR_rep R r h
    exact ⟨p, xs, e, .inl q, r⟩
end
section
variable {X : Cx}
def rInD : R2D := fun x y M Q => ∃ ds, itemsR M y = some ds ∧ flatD x = true ∧ ds.all flatD = true ∧ Q (.bl (inD x ds)) M
def rNotInD : R2D := fun x y M Q => ∃ ds, itemsR M y = some ds ∧ flatD x = true ∧ ds.all flatD = true ∧ Q (.bl (!inD x ds)) M
theorem od_in : OpD X (compareOp .In) rInD := ⟨_, op_in_seq, fun Z F H M x y a b Q QD R ra rb hd o => by
  obtain ⟨ds, h1, h2, h3, h4⟩ := hd
  obtain ⟨p, xs, rfl, q, r⟩ := itemsR_rep R rb h1
  refine ⟨p, xs, rfl, q, flat_rep ra h2, flats_rep r h3, ?_⟩
  rw [inD_rep ra r h2 h3]
  exact o _ _ F H M (Ext.refl F) R (.bl _) h4⟩
theorem od_notin : OpD X (compareOp .NotIn) rNotInD := ⟨_, op_notIn_seq, fun Z F H M x y a b Q QD R ra rb hd o => by
  obtain ⟨ds, h1, h2, h3, h4⟩ := hd
  obtain ⟨p, xs, rfl, q, r⟩ := itemsR_rep R rb h1
  refine ⟨p, xs, rfl, q, flat_rep ra h2, flats_rep r h3, ?_⟩
  rw [inD_rep ra r h2 h3]
  exact o _ _ F H M (Ext.refl F) R (.bl _) h4⟩
/-! ### subscripts, slices -/
theorem atI_rep {K : PySem.W.Frag} {F : Hp} {xs : List V} {ds : List Dat} {i : Int} {d : Dat} (r : Reps K F xs ds) (h : atI ds i = some d) : ∃ v, atI xs i = some v ∧ Rep K F v d := by
  unfold atI at h ⊢
  rw [r.length]
  cases e : ixN ds.length i with
  | none =>
    rw [e] at h
    cases h
  | some j =>
    rw [e] at h
    exact r.get h
def rIxD : R2D := fun x y M Q => match y with
  | .int i => ∃ ds d, itemsR M x = some ds ∧ atI ds i = some d ∧ Q d M
  | _ => False
variable {a b : Expr} {pos : Pos} {da db : TED}
theorem de_ix (ha : DE X a da) (hb : DE X b db) (hs : PlainIx b := by exact fun _ _ => rfl) : DE X (.Subscript a b pos) (dOp rIxD da db) := pe_w (pe_ix (IxR.or ix_list ix_tup) ha hb hs) fun σ H Q h => up_bin (fun Z F H M x y a b Q QD R ra rb hd o => by
  unfold rIxD at hd
  split at hd
  · obtain ⟨ds, d, h1, h2, h3⟩ := hd
    obtain ⟨p, xs, rfl, q, r⟩ := itemsR_rep R ra h1
    obtain ⟨v, h4, r4⟩ := atI_rep r h2
    rcases q with q | q
    · exact .inl ⟨p, xs, _, v, rfl, rb.toInt, q, h4, o _ _ F H M (Ext.refl F) R r4 h3⟩
    · exact .inr ⟨p, xs, _, v, rfl, rb.toInt, q, h4, o _ _ F H M (Ext.refl F) R r4 h3⟩
  · exact hd.elim) h
/-- the part of a slice -/
abbrev TOD := EnvD → MH → (Option Int → MH → Prop) → Prop
def OkO (K : PySem.W.Frag) (Z F : Hp) (Q : Option Int → Hp → Prop) (QD : Option Int → MH → Prop) : Prop := ∀ i F' H' M', Ext F F' → RelM K Z F' H' M' → QD i M' → Q i H'
def upO (K : PySem.W.Frag) (d : TOD) : TO := fun σ H Q => ∃ Z F M ρ QD, Rel K Z F H M σ ρ ∧ d ρ M QD ∧ OkO K Z F Q QD
theorem po_w {e : Option Expr} {t u : TO} (h : PO X e t) (w : ∀ σ H Q, u σ H Q → t σ H Q) : PO X e u := ⟨fun pins s σ H Q I q => h.run pins s σ H Q I (w σ H Q q)⟩
abbrev DO (X : Cx) (e : Option Expr) (d : TOD) : Prop := PO X e (upO X.K d)
def dNoPart : TOD := fun _ M Q => Q none M
def dPart (d : TED) : TOD := fun ρ M Q => d ρ M fun x M1 => match x with
  | .int i => Q (some i) M1
  | _ => False
theorem do_none : DO X none dNoPart := po_w po_none fun σ H Q ⟨Z, F, M, ρ, QD, R, h, o⟩ => o none F H M (Ext.refl F) R.m h
theorem do_some (h : DE X a da) : DO X (some a) (dPart da) := po_w (po_some h) fun σ H Q ⟨Z, F, M, ρ, QD, R, h, o⟩ => by
  refine ⟨Z, F, M, ρ, _, R, h, fun x a F1 H1 M1 e1 R1 r1 h1 => ?_⟩
  split at h1
  · exact ⟨_, r1.toInt, o _ F1 H1 M1 e1 R1 h1⟩
  · exact h1.elim
def cutD (xs : List Dat) (lo hi : Option Int) : List Dat := (xs.drop (HT.sIx xs.length 0 lo)).take (HT.sIx xs.length xs.length hi - HT.sIx xs.length 0 lo)
theorem cut_rep {K : PySem.W.Frag} {F : Hp} {xs : List V} {ds : List Dat} (r : Reps K F xs ds) (lo hi : Option Int) : Reps K F (cutV xs lo hi) (cutD ds lo hi) := by
  unfold cutV cutD
  rw [r.length]
  exact (r.drop _).take _
/-- xs[lo:hi] -/
def dSl (mk : Bool) (da : TED) (dl dh : TOD) : TED := fun ρ M Q => da ρ M fun x M1 => dl ρ M1 fun lo M2 => dh ρ M2 fun hi M3 => match x with
  | .tup ds => ¬ (HT.sIx ds.length 0 lo = 0 ∧ HT.sIx ds.length ds.length hi = ds.length) ∧ Q (.tup (cutD ds lo hi)) M3
  | x => ∃ ds, lsR M3 x = some ds ∧ newL mk (cutD ds lo hi) M3 Q
variable {lo hi : Option Expr} {dl dh : TOD} {p2 : Pos}
theorem de_sl (mk : Bool) (ha : DE X a da) (hl : DO X lo dl) (hh : DO X hi dh) : DE X (.Subscript a (.Slice lo hi none p2) pos) (dSl mk da dl dh) := pe_w (pe_slice (SlR.or sl_list sl_tup) ha hl hh) fun σ H Q ⟨Z, F, M, ρ, QD, R, h, o⟩ => by
  refine ⟨Z, F, M, ρ, _, R, h, fun x a F1 H1 M1 e1 R1 r1 h1 => ?_⟩
  refine ⟨Z, F1, M1, ρ, _, R.ext e1 R1, h1, fun l F2 H2 M2 e2 R2 h2 => ?_⟩
  refine ⟨Z, F2, M2, ρ, _, R.ext (e1.trans e2) R2, h2, fun u F3 H3 M3 e3 R3 h3 => ?_⟩
  have r3 := r1.mono (e2.trans e3)
  have o3 := o.mono ((e1.trans e2).trans e3)
  split at h3
  · cases r3 with
    | tup q r =>
      refine .inr ⟨_, _, rfl, ext_t R3.sub q, by rw [r.length]; exact h3.1, fun p hp => ?_⟩
      obtain ⟨R4, e4⟩ := R3.newF (o := .tup _) hp
      exact o3 _ _ _ _ M3 e4 R4 (.tup (SqT.of upd_same) ((cut_rep r l u).mono e4)) h3.2
  · obtain ⟨ds, h4, h5⟩ := h3
    obtain ⟨p, xs, rfl, q, r⟩ := lsR_rep R3 r3 h4
    exact .inl ⟨p, xs, rfl, q, fun p hp => sim_new R3 (cut_rep r l u) h5 o3 hp⟩
/-- xs[::-1] -/
def dRev (mk : Bool) (da : TED) : TED := fun ρ M Q => da ρ M fun x M1 => ∃ ds, lsR M1 x = some ds ∧ newL mk ds.reverse M1 Q
theorem de_rev (mk : Bool) {k : Nat} {p1 p3 : Pos} (ha : DE X a da) : DE X (.Subscript a (.Slice none none (some (.UnaryOp .USub (.Constant (.int 1) k p1) p2)) p3) pos) (dRev mk da) := pe_w (pe_revL ha) fun σ H Q ⟨Z, F, M, ρ, QD, R, h, o⟩ => by
  refine ⟨Z, F, M, ρ, _, R, h, fun x a F1 H1 M1 e1 R1 r1 h1 => ?_⟩
  obtain ⟨ds, h4, h5⟩ := h1
  obtain ⟨p, xs, rfl, q, r⟩ := lsR_rep R1 r1 h4
  exact ⟨p, xs, rfl, q, fun p hp => sim_new R1 r.rev h5 (o.mono e1) hp⟩
/-! ### fields -/
theorem repF_at {K : PySem.W.Frag} {F : Hp} {f : Str} {d : Dat} : ∀ {fs : List (Str × V)} {gs : List (Str × Dat)} {i : Nat}, RepF K F fs gs → (fs.map (·.1)).Nodup → gs[i]? = some (f, d) → ∃ v, fs.lookup f = some v ∧ Rep K F v d := by
  intro fs
  induction fs with
  | nil =>
    intro gs i r _ h
    cases r
    simp at h
  | cons p fs ih =>
    intro gs i r n h
    cases r with
    | @cons g v vs d' ds r1 r2 =>
      rw [List.map_cons, List.nodup_cons] at n
      cases i with
      | zero =>
        have e := Option.some.inj h
        cases e
        exact ⟨v, by simp [List.lookup], r1⟩
      | succ i =>
        have h' : ds[i]? = some (f, d) := h
        obtain ⟨w, e1, e2⟩ := ih r2 n.2 h'
        have hne : f ≠ g := fun e => by
          subst e
          refine n.1 ?_
          have hm : ∀ {l : List (Str × V)}, l.lookup f = some w → f ∈ l.map (·.1) := by
            intro l
            induction l with
            | nil => intro h; cases h
            | cons q l ihl =>
              intro h
              obtain ⟨g2, v2⟩ := q
              by_cases eq : f = g2
              · subst eq
                exact List.mem_cons_self ..
              · have e3 : (f == g2) = false := by simpa using eq
                simp only [List.lookup, e3] at h
                exact List.mem_cons_of_mem _ (ihl h)
          exact hm e1
        refine ⟨w, ?_, e2⟩
        have e3 : (f == g) = false := by simpa using hne
        simp only [List.lookup, e3]
        exact e1
/-- what the text's class asks: cl, and that its instances have no class attribute called so -/
def fieldsOf (M : MH) : Dat → Option (Addr × List (Str × Dat))
  | .ins C gs => some (C, gs)
  | .ref a => match M a with
    | some (.ins C gs) => some (C, gs)
    | _ => none
  | _ => none
theorem fieldsOf_rep {K : PySem.W.Frag} {Z F H : Hp} {M : MH} {x : V} {a : Dat} {C : Addr} {gs : List (Str × Dat)} (R : RelM K Z F H M) (r : Rep K F x a) (h : fieldsOf M a = some (C, gs)) : ∃ p dx fs, x = .ref p ∧ H p = some (.ins C dx fs) ∧ RepF K F fs gs ∧ (fs.map (·.1)).Nodup := by
  unfold fieldsOf at h
  split at h
  · cases h
    cases r with
    | ins q r n => exact ⟨_, _, _, rfl, R.sub _ _ q, r, n⟩
  · rename_i p
    split at h
    · rename_i e
      cases h
      cases r
      obtain ⟨dx, fs, q, r, n⟩ := (R.chg p _ e).2
      exact ⟨_, dx, fs, rfl, q, r, n⟩
    · cases h
  · cases h
/-- o.f: number i of its fields; the class is C -/
def dFld (C : Addr) (i : Nat) (f : Str) (da : TED) : TED := fun ρ M Q => da ρ M fun x M1 => ∃ gs d, fieldsOf M1 x = some (C, gs) ∧ gs[i]? = some (f, d) ∧ Q d M1
theorem de_fld (C : Addr) (i : Nat) {f : Str} (cl : Cls X.K C) (nf : NoAttr X.K C f) (ha : DE X a da) (hb : attributeBase a f X.env (eval a X.env) = eval a X.env := by rfl) : DE X (.Attribute a f pos) (dFld C i f da) := pe_w (pe_fld ha hb) fun σ H Q ⟨Z, F, M, ρ, QD, R, h, o⟩ => by
  refine ⟨Z, F, M, ρ, _, R, h, fun x a F1 H1 M1 e1 R1 r1 h1 => ?_⟩
  obtain ⟨gs, d, h2, h3, h4⟩ := h1
  obtain ⟨p, dx, fs, rfl, q, r, n⟩ := fieldsOf_rep R1 r1 h2
  obtain ⟨v, e2, r2⟩ := repF_at r n h3
  exact ⟨p, C, dx, fs, v, rfl, q, cl, nf, e2, o _ _ F1 H1 M1 e1 R1 r2 h4⟩
/-! ### isinstance -/
/-- what the text's class asks of isinstance -/
structure InsK (K : PySem.W.Frag) (C : Addr) : Prop where
  cl : Cls K C
  ha : PySem.W.findIn K (.ref C) "__class__" = some (some (.builtin "object.__class__"))
  hn : PySem.W.specialIn K (.builtin "object.__class__") "__get__" = some (some (.builtin "getset_descriptor.__get__"))
  htk : PySem.W.takesIn K (.builtin "object.__class__") = some true
  hm : PySem.W.mroIn K C (.type "object") = some true
/-- the type of a datum that is no instance -/
def tyD : Dat → Option BT
  | .bl _ => some .bool
  | .int _ => some .int
  | .str _ => some .str
  | .tup _ => some .tup
  | .lst _ => some .lst
  | .frl _ => some .lst
  | .dic _ => some .dic
  | _ => none
def subB : BT → BT → Bool
  | .bool, .int => true
  | a, b => decide (a = b)
theorem kit_sub {K : PySem.W.Frag} (a b : BT) : PySem.W.kitOne K (.type a.nm) (.type b.nm) = some (subB a b) := by
  refine kit_ty ?_
  cases a <;> cases b <;> decide +kernel
theorem kit_none {K : PySem.W.Frag} (b : BT) : PySem.W.kitOne K (.type "NoneType") (.type b.nm) = some false := by
  refine kit_ty ?_
  cases b <;> decide +kernel
/-- the answer; that it is known -/
def isiR (x c : Dat) : Bool := match c with
  | .ty n => (match tyD x with
    | some t => subB t n
    | none => false)
  | .cls C => (match x with
    | .ins D _ => decide (D = C)
    | _ => false)
  | _ => false
/-- the type as the written part takes it -/
def tyV' (x : Dat) : Option Value := match x with
  | .ins D _ => some (.ref D)
  | .non => some (.type "NoneType")
  | x => (tyD x).map fun t => .type t.nm
def clsV' (c : Dat) : Option Value := match c with
  | .ty n => some (.type n.nm)
  | .cls C => some (.ref C)
  | _ => none
def IsiOk (K : PySem.W.Frag) (x c : Dat) : Prop := (∀ D gs, x = .ins D gs → InsK K D) ∧ ∃ t u, tyV' x = some t ∧ clsV' c = some u ∧ PySem.W.kitOne K t u = some (isiR x c)
/-- what is known of a class -/
structure ClsK (K : PySem.W.Frag) (C : Addr) : Prop where
  ik : InsK K C
  kn : PySem.W.kitOne K (.type "NoneType") (.ref C) = some false
  kt : ∀ t : BT, PySem.W.kitOne K (.type t.nm) (.ref C) = some false
  ks : ∀ t : BT, PySem.W.kitOne K (.ref C) (.type t.nm) = some false
  kk : PySem.W.kitOne K (.ref C) (.ref C) = some true
/-- data of no class but C -/
def OneC (C : Addr) : Dat → Prop
  | .ins D _ => D = C
  | .ty _ => False
  | .cls _ => False
  | .ref _ => False
  | _ => True
theorem tyD_or {C : Addr} {x : Dat} (h : OneC C x) : (∃ gs, x = .ins C gs) ∨ x = .non ∨ ∃ t, tyD x = some t := by
  cases x <;> first | (exact h.elim) | (exact .inr (.inl rfl)) | (exact .inr (.inr ⟨_, rfl⟩)) | skip
  rename_i D gs
  have e : D = C := h
  subst e
  exact .inl ⟨gs, rfl⟩
theorem tyV_of {x : Dat} {t : BT} (h : tyD x = some t) : tyV' x = some (.type t.nm) ∧ (∀ D gs, x ≠ .ins D gs) ∧ x ≠ .non := by
  cases x <;> first | (unfold tyD at h; cases h; done) | skip
  all_goals
    refine ⟨?_, fun D gs e => (by cases e), fun e => (by cases e)⟩
    cases h
    rfl
theorem isi_ty {K : PySem.W.Frag} {C : Addr} (k : ClsK K C) {x : Dat} (h : OneC C x) (n : BT) : IsiOk K x (.ty n) := by
  rcases tyD_or h with ⟨gs, rfl⟩ | rfl | ⟨t, e⟩
  · exact ⟨fun D g q => by cases q; exact k.ik, _, _, rfl, rfl, k.ks n⟩
  · exact ⟨(fun D g q => by cases q), _, _, rfl, rfl, kit_none n⟩
  · obtain ⟨e1, e2, e3⟩ := tyV_of e
    refine ⟨fun D g q => absurd q (e2 D g), _, _, e1, rfl, ?_⟩
    have : isiR x (.ty n) = subB t n := by
      unfold isiR
      rw [e]
    rw [this]
    exact kit_sub t n
theorem isi_cls {K : PySem.W.Frag} {C : Addr} (k : ClsK K C) {x : Dat} (h : OneC C x) : IsiOk K x (.cls C) := by
  rcases tyD_or h with ⟨gs, rfl⟩ | rfl | ⟨t, e⟩
  · refine ⟨fun D g q => by cases q; exact k.ik, _, _, rfl, rfl, ?_⟩
    have : isiR (.ins C gs) (.cls C) = true := by simp [isiR]
    rw [this]
    exact k.kk
  · exact ⟨(fun D g q => by cases q), _, _, rfl, rfl, k.kn⟩
  · obtain ⟨e1, e2, e3⟩ := tyV_of e
    refine ⟨fun D g q => absurd q (e2 D g), _, _, e1, rfl, ?_⟩
    have : isiR x (.cls C) = false := by
      cases x <;> first | rfl | (exact absurd rfl (e2 _ _))
    rw [this]
    exact k.kt t
end
section
variable {K : PySem.W.Frag} {Z F H : Hp} {M : MH}
theorem sqt_ty {H : Hp} {p : Addr} {xs : List V} (h : SqT K H p xs) : TyX K H (.ref p) (.type "tuple") := by
  rcases h with (h | ⟨o, h⟩) | ⟨o, its, n, hk, hc, _⟩
  · exact .base (.tup h)
  · exact .fTuple h
  · exact .kTuple hk hc
theorem sql_ty {H : Hp} {p : Addr} {xs : List V} (h : SqL K H p xs) : TyX K H (.ref p) (.type "list") := by
  rcases h with (h | ⟨o, h⟩) | ⟨o, its, n, hk, hc, _⟩
  · exact .base (.lst h)
  · exact .base (.frz h)
  · exact .kList hk hc
theorem tyD_rep {x : V} {a : Dat} {t : BT} (R : RelM K Z F H M) (r : Rep K F x a) (h : tyD a = some t) : TyX K H x (.type t.nm) := by
  cases r with
  | bl b => cases h; exact .base (.bl b)
  | int b => cases h; exact .base (.int b)
  | str b => cases h; exact .base (.str b)
  | tup q r => cases h; exact sqt_ty (ext_t R.sub q)
  | lst q r => cases h; exact .base (.lst (R.sub _ _ q))
  | frl q r => cases h; exact sql_ty (ext_l R.sub q)
  | dic q r => cases h; exact .base (.dK (R.sub _ _ q))
  | non => cases h
  | ty n => cases h
  | cls C => cases h
  | ins q r n => cases h
  | ref a => cases h
end
section
variable {X : Cx}
/-- isinstance(x, c): c a built-in class or one of the text's -/
def rIsiD (K : PySem.W.Frag) : List Dat → MH → VKD → Prop := fun ds M Q => match ds with
  | [x, c] => IsiOk K x c ∧ Q (.bl (isiR x c)) M
  | _ => False
/-- a builtin's call by data -/
def CallD (X : Cx) (f : Value) (d : List Dat → MH → VKD → Prop) : Prop := ∃ r, CallR X f r ∧ ∀ Z F H M vs ds Q QD, RelM X.K Z F H M → Reps X.K F vs ds → d ds M QD → OkV X.K Z F Q QD → r vs H Q
theorem cd_isi : CallD X (.builtin "isinstance") (rIsiD X.K) := ⟨_, call_isi, fun Z F H M vs ds Q QD R rs hd o => by
  unfold rIsiD at hd
  split at hd
  · rename_i x c
    obtain ⟨⟨hk, t, u, h1, h2, h3⟩, q⟩ := hd
    obtain ⟨v, ws, rfl, r1, rs⟩ := rs.uncons
    obtain ⟨y, ws, rfl, r2, rs⟩ := rs.uncons
    cases rs.unnil
    have hc : ClsV y u := by
      unfold clsV' at h2
      split at h2
      · cases h2
        cases r2
        exact .ty _
      · cases h2
        cases r2
        exact .own _
      · cases h2
    have ht : TyX X.K H v t := by
      unfold tyV' at h1
      split at h1
      · cases h1
        have k := hk _ _ rfl
        cases r1 with
        | ins q1 r n => exact .base (.ins (R.sub _ _ q1) k.cl k.ha k.hn k.htk k.hm)
      · cases h1
        cases r1
        exact .base .non
      · cases e : tyD x with
        | none =>
          rw [e] at h1
          cases h1
        | some bt =>
          rw [e] at h1
          cases h1
          exact tyD_rep R r1 e
    exact ⟨v, y, t, u, _, rfl, hc, ht, h3, o _ _ F H M (Ext.refl F) R (.bl _) q⟩
  · exact hd.elim⟩
/-! ### built-ins by their names -/
def dCB (r : List Dat → MH → VKD → Prop) (dA : TAD) : TED := fun ρ M Q => dA ρ M fun ds M1 => r ds M1 Q
variable {e : Expr} {es : List Expr} {pos p : Pos} {dA : TAD} {x : Str} {id T : String} {r : List Dat → MH → VKD → Prop}
theorem up_cb {r : List V → Hp → VK → Prop} {d : List Dat → MH → VKD → Prop} (hs : ∀ Z F H M vs ds Q QD, RelM X.K Z F H M → Reps X.K F vs ds → d ds M QD → OkV X.K Z F Q QD → r vs H Q) {σ : L2.St} {H : Hp} {Q : VK} (h : up X.K (dCB d dA) σ H Q) : tCB r (upA X.K dA) σ H Q := by
  obtain ⟨Z, F, M, ρ, QD, R, h, o⟩ := h
  refine ⟨Z, F, M, ρ, _, R, h, fun xs as F1 H1 M1 e1 R1 r1 h1 => ?_⟩
  exact hs Z F1 H1 M1 xs as Q QD R1 r1 h1 (o.mono e1)
theorem de_cb (hc : CallD X (.builtin id) r) (hg : Gl X x) (hm : X.mg x = none) (hv : bootBuiltins x = some (.builtin id)) (ha : DA X (e :: es) dA) (hn : x ≠ "__name__" := by decide) (hdb : (x == ("__debug__" : Str)) = false := by decide)
    (he : starEach (e :: es) X.env = (false, eval e X.env) :: starEach es X.env := by rfl) (hpl : (backTo pos (starEach es X.env)).any (·.1) = false := by rfl) : DE X (.Call (.Name x p) (e :: es) [] pos) (dCB r dA) := by
  obtain ⟨t, ht, hs⟩ := hc
  exact pe_w (pe_callB ht hg hm hv ha hn hdb he hpl) fun σ H Q h => up_cb hs h
theorem de_ct (hc : CallD X (.type T) r) (hg : Gl X x) (hm : X.mg x = none) (hv : bootBuiltins x = some (.type T)) (ha : DA X (e :: es) dA) (hn : x ≠ "__name__" := by decide) (hdb : (x == ("__debug__" : Str)) = false := by decide)
    (he : starEach (e :: es) X.env = (false, eval e X.env) :: starEach es X.env := by rfl) (hpl : (backTo pos (starEach es X.env)).any (·.1) = false := by rfl) : DE X (.Call (.Name x p) (e :: es) [] pos) (dCB r dA) := by
  obtain ⟨t, ht, hs⟩ := hc
  exact pe_w (pe_callTy ht hg hm hv ha hn hdb he hpl) fun σ H Q h => up_cb hs h
/-- a built-in class as a value -/
theorem de_ty (n : BT) (hg : Gl X x) (hm : X.mg x = none) (hv : bootBuiltins x = some (.type n.nm)) (hn : x ≠ "__name__" := by decide) (hd : (x == ("__debug__" : Str)) = false := by decide) : DE X (.Name x pos) (dC (.ty n)) :=
  de_c (pe_bltn hg hm hv (v := .ty n.nm) rfl hn hd) fun _ => .ty n
/-- a class of the text, a def of the text, as a value -/
theorem de_cls {C : Addr} (hg : Gl X x) (hm : X.mg x = some (.ref C)) (hd : (x == ("__debug__" : Str)) = false := by decide) : DE X (.Name x pos) (dC (.cls C)) :=
  de_c (pe_glob hg hm (v := .ref C) rfl hd) fun _ => .cls C
/-- an int of the module -/
theorem de_gint {i : Int} (hg : Gl X x) (hm : ∃ t, X.mg x = some (.int i t)) (hd : (x == ("__debug__" : Str)) = false := by decide) : DE X (.Name x pos) (dC (.int i)) := by
  obtain ⟨t, hm⟩ := hm
  exact de_c (pe_glob hg hm (v := .int i) ⟨t, rfl⟩ hd) fun _ => .int i
/-- a tuple of texts of the module -/
structure GTup (K : PySem.W.Frag) (mg : Str → Option Value) (x : Str) (xs : List Str) : Prop where
  ex : ∃ a, mg x = some (.ref a) ∧ SqT K (fun _ => none) a (xs.map V.str)
theorem reps_strs {K : PySem.W.Frag} {F : Hp} (xs : List Str) : Reps K F (xs.map V.str) (xs.map Dat.str) := by
  induction xs with
  | nil => exact .nil
  | cons n ns ih => exact .cons (.str n) ih
theorem de_gtup {xs : List Str} (hg : Gl X x) (hm : GTup X.K X.mg x xs) (hd : (x == ("__debug__" : Str)) = false := by decide) : DE X (.Name x pos) (dC (.tup (xs.map Dat.str))) := by
  obtain ⟨a, h1, h2⟩ := hm
  exact de_c (pe_glob hg h1 (v := .ref a) rfl hd) fun F => .tup (ext_t (fun _ _ h => by cases h) h2) (reps_strs xs)
/-- abs, max, min, sum, len, int, bool, divmod, all, any, sorted, list -/
def rAbs : List Dat → MH → VKD → Prop := fun ds M Q => match ds with
  | [.int i] => Q (.int (if i < 0 then -i else i)) M
  | _ => False
theorem cd_abs : CallD X (.builtin "abs") rAbs := ⟨_, call_abs, fun Z F H M vs ds Q QD R rs hd o => by
  unfold rAbs at hd
  split at hd
  · obtain ⟨x, ws, rfl, r1, rs⟩ := rs.uncons
    cases rs.unnil
    cases r1
    exact ⟨_, rfl, o _ _ F H M (Ext.refl F) R (.int _) hd⟩
  · exact hd.elim⟩
theorem sqInts {K : PySem.W.Frag} {Z F H : Hp} {M : MH} {x : V} {a : Dat} {ns : List Int} (R : RelM K Z F H M) (r : Rep K F x a) (h : lsR M a = some (ns.map Dat.int)) : ∃ p, x = .ref p ∧ SqL K H p (ns.map V.int) := by
  obtain ⟨p, xs, e, q, r⟩ := lsR_rep R r h
  rw [r.ints] at q
  exact ⟨p, e, q⟩
/-- the greatest of two ints, of a list of ints -/
def rMaxD : List Dat → MH → VKD → Prop := fun ds M Q => match ds with
  | [.int i, .int j] => Q (.int (if j > i then j else i)) M
  | [x] => ∃ ns : List Int, lsR M x = some (ns.map Dat.int) ∧ 0 < ns.length ∧ ∀ m, m ∈ ns → (∀ y, y ∈ ns → y ≤ m) → Q (.int m) M
  | _ => False
theorem cd_max (hc : X.calm = true) : CallD X (.builtin "max") rMaxD := ⟨_, CallR.or (call_max2 hc) (cr_max hc), fun Z F H M vs ds Q QD R rs hd o => by
  unfold rMaxD at hd
  split at hd
  · obtain ⟨x, ws, rfl, r1, rs⟩ := rs.uncons
    obtain ⟨y, ws, rfl, r2, rs⟩ := rs.uncons
    cases rs.unnil
    cases r1
    cases r2
    exact .inl ⟨_, _, rfl, o _ _ F H M (Ext.refl F) R (.int _) hd⟩
  · obtain ⟨ns, h1, h2, h3⟩ := hd
    obtain ⟨x, ws, rfl, r1, rs⟩ := rs.uncons
    cases rs.unnil
    obtain ⟨p, rfl, q⟩ := sqInts R r1 h1
    exact .inr ⟨p, ns, rfl, q, h2, fun m hm hle => o _ _ F H M (Ext.refl F) R (.int _) (h3 m hm hle)⟩
  · exact hd.elim⟩
def rMinD : List Dat → MH → VKD → Prop := fun ds M Q => match ds with
  | [.int i, .int j] => Q (.int (if j < i then j else i)) M
  | [x] => ∃ ns : List Int, lsR M x = some (ns.map Dat.int) ∧ 0 < ns.length ∧ ∀ m, m ∈ ns → (∀ y, y ∈ ns → m ≤ y) → Q (.int m) M
  | _ => False
theorem cd_min (hc : X.calm = true) : CallD X (.builtin "min") rMinD := ⟨_, CallR.or (call_min2 hc) (cr_min hc), fun Z F H M vs ds Q QD R rs hd o => by
  unfold rMinD at hd
  split at hd
  · obtain ⟨x, ws, rfl, r1, rs⟩ := rs.uncons
    obtain ⟨y, ws, rfl, r2, rs⟩ := rs.uncons
    cases rs.unnil
    cases r1
    cases r2
    exact .inl ⟨_, _, rfl, o _ _ F H M (Ext.refl F) R (.int _) hd⟩
  · obtain ⟨ns, h1, h2, h3⟩ := hd
    obtain ⟨x, ws, rfl, r1, rs⟩ := rs.uncons
    cases rs.unnil
    obtain ⟨p, rfl, q⟩ := sqInts R r1 h1
    exact .inr ⟨p, ns, rfl, q, h2, fun m hm hle => o _ _ F H M (Ext.refl F) R (.int _) (h3 m hm hle)⟩
  · exact hd.elim⟩
def rSumD : List Dat → MH → VKD → Prop := fun ds M Q => match ds with
  | [x] => ∃ ns : List Int, lsR M x = some (ns.map Dat.int) ∧ Q (.int ns.sum) M
  | _ => False
theorem cd_sum (hc : X.calm = true) : CallD X (.builtin "sum") rSumD := ⟨_, cr_sum hc, fun Z F H M vs ds Q QD R rs hd o => by
  unfold rSumD at hd
  split at hd
  · obtain ⟨ns, h1, h3⟩ := hd
    obtain ⟨x, ws, rfl, r1, rs⟩ := rs.uncons
    cases rs.unnil
    obtain ⟨p, rfl, q⟩ := sqInts R r1 h1
    exact ⟨p, ns, rfl, q, o _ _ F H M (Ext.refl F) R (.int _) h3⟩
  · exact hd.elim⟩
def rAllD : List Dat → MH → VKD → Prop := fun ds M Q => match ds with
  | [x] => ∃ bs : List Bool, lsR M x = some (bs.map Dat.bl) ∧ Q (.bl (bs.all _root_.id)) M
  | _ => False
def rAnyD : List Dat → MH → VKD → Prop := fun ds M Q => match ds with
  | [x] => ∃ bs : List Bool, lsR M x = some (bs.map Dat.bl) ∧ Q (.bl (bs.any _root_.id)) M
  | _ => False
theorem cd_all (hc : X.calm = true) : CallD X (.builtin "all") rAllD := ⟨_, cr_all hc, fun Z F H M vs ds Q QD R rs hd o => by
  unfold rAllD at hd
  split at hd
  · obtain ⟨ns, h1, h3⟩ := hd
    obtain ⟨x, ws, rfl, r1, rs⟩ := rs.uncons
    cases rs.unnil
    obtain ⟨p, xs, rfl, q, r⟩ := lsR_rep R r1 h1
    rw [r.bls] at q
    exact ⟨p, ns, rfl, q, o _ _ F H M (Ext.refl F) R (.bl _) h3⟩
  · exact hd.elim⟩
theorem cd_any (hc : X.calm = true) : CallD X (.builtin "any") rAnyD := ⟨_, cr_any hc, fun Z F H M vs ds Q QD R rs hd o => by
  unfold rAnyD at hd
  split at hd
  · obtain ⟨ns, h1, h3⟩ := hd
    obtain ⟨x, ws, rfl, r1, rs⟩ := rs.uncons
    cases rs.unnil
    obtain ⟨p, xs, rfl, q, r⟩ := lsR_rep R r1 h1
    rw [r.bls] at q
    exact ⟨p, ns, rfl, q, o _ _ F H M (Ext.refl F) R (.bl _) h3⟩
  · exact hd.elim⟩
def rLenD : List Dat → MH → VKD → Prop := fun ds M Q => match ds with
  | [x] => ∃ ys, itemsR M x = some ys ∧ Q (.int (ys.length : Int)) M
  | _ => False
theorem cd_len : CallD X (.builtin "len") rLenD := ⟨_, call_len_seq, fun Z F H M vs ds Q QD R rs hd o => by
  unfold rLenD at hd
  split at hd
  · obtain ⟨ys, h1, h3⟩ := hd
    obtain ⟨x, ws, rfl, r1, rs⟩ := rs.uncons
    cases rs.unnil
    obtain ⟨p, xs, rfl, q, r⟩ := itemsR_rep R r1 h1
    refine ⟨p, xs, rfl, q, ?_⟩
    rw [r.length]
    exact o _ _ F H M (Ext.refl F) R (.int _) h3
  · exact hd.elim⟩
def rIntD : List Dat → MH → VKD → Prop := fun ds M Q => match ds with
  | [.int i] => Q (.int i) M
  | [.bl b] => Q (.int (if b then 1 else 0)) M
  | _ => False
theorem cd_int : CallD X (.type "int") rIntD := ⟨_, call_int1, fun Z F H M vs ds Q QD R rs hd o => by
  unfold rIntD at hd
  split at hd
  · obtain ⟨x, ws, rfl, r1, rs⟩ := rs.uncons
    cases rs.unnil
    cases r1
    exact .inl ⟨_, rfl, o _ _ F H M (Ext.refl F) R (.int _) hd⟩
  · obtain ⟨x, ws, rfl, r1, rs⟩ := rs.uncons
    cases rs.unnil
    cases r1
    exact .inr ⟨_, rfl, o _ _ F H M (Ext.refl F) R (.int _) hd⟩
  · exact hd.elim⟩
def rDivmodD : List Dat → MH → VKD → Prop := fun ds M Q => match ds with
  | [.int i, .int j] => CDivP i j ∧ Q (.tup [.int (i / j), .int (i % j)]) M
  | _ => False
theorem cd_divmod : CallD X (.builtin "divmod") rDivmodD := ⟨_, call_divmodW, fun Z F H M vs ds Q QD R rs hd o => by
  unfold rDivmodD at hd
  split at hd
  · obtain ⟨x, ws, rfl, r1, rs⟩ := rs.uncons
    obtain ⟨y, ws, rfl, r2, rs⟩ := rs.uncons
    cases rs.unnil
    cases r1
    cases r2
    refine ⟨_, _, rfl, hd.1, fun p hp => ?_⟩
    obtain ⟨R4, e4⟩ := R.newF (o := .tup _) hp
    exact o _ _ _ _ M e4 R4 (.tup (SqT.of upd_same) (.two (.int _) (.int _))) hd.2
  · exact hd.elim⟩
/-- sorted of ints -/
def rSortedD (mk : Bool) : List Dat → MH → VKD → Prop := fun ds M Q => match ds with
  | [x] => ∃ ns : List Int, lsR M x = some (ns.map Dat.int) ∧ ∀ ns' : List Int, ns'.Perm ns → ns'.Pairwise (· ≤ ·) → newL mk (ns'.map Dat.int) M Q
  | _ => False
theorem cd_sorted (mk : Bool) : CallD X (.builtin "sorted") (rSortedD mk) := ⟨_, cr_sortedI, fun Z F H M vs ds Q QD R rs hd o => by
  unfold rSortedD at hd
  split at hd
  · obtain ⟨ns, h1, h3⟩ := hd
    obtain ⟨x, ws, rfl, r1, rs⟩ := rs.uncons
    cases rs.unnil
    obtain ⟨p, rfl, q⟩ := sqInts R r1 h1
    exact ⟨p, ns, rfl, q, fun ns' p2 h4 h5 hp => sim_new R (reps_ints ns') (h3 ns' h4 h5) o hp⟩
  · exact hd.elim⟩
/-- list(xs) -/
def rListD (mk : Bool) : List Dat → MH → VKD → Prop := fun ds M Q => match ds with
  | [x] => ∃ ys, itemsR M x = some ys ∧ newL mk ys M Q
  | _ => False
theorem cd_list (mk : Bool) : CallD X (.type "list") (rListD mk) := ⟨_, call_list_of, fun Z F H M vs ds Q QD R rs hd o => by
  unfold rListD at hd
  split at hd
  · obtain ⟨ys, h1, h3⟩ := hd
    obtain ⟨x, ws, rfl, r1, rs⟩ := rs.uncons
    cases rs.unnil
    obtain ⟨p, xs, rfl, q, r⟩ := itemsR_rep R r1 h1
    exact ⟨p, xs, rfl, q, fun l hl => sim_new R r h3 o hl⟩
  · exact hd.elim⟩
/-- n.bit_length() -/
def dBits (da : TED) : TED := fun ρ M Q => da ρ M fun x M1 => match x with
  | .int i => Q (.int (Builtin.Int.intBits i : Nat)) M1
  | _ => False
theorem de_bits {o : Expr} {apos : Pos} {da : TED} (ho : DE X o da) (hbase : attributeBase o "bit_length" X.env (eval o X.env) = eval o X.env := by rfl) (hline : (apos.endLine == pos.line) = true := by rfl) : DE X (.Call (.Attribute o "bit_length" apos) [] [] pos) (dBits da) :=
  pe_w (pe_bits ho hbase hline) fun σ H Q ⟨Z, F, M, ρ, QD, R, h, o⟩ => by
    refine ⟨Z, F, M, ρ, _, R, h, fun x a F1 H1 M1 e1 R1 r1 h1 => ?_⟩
    split at h1
    · exact ⟨_, r1.toInt, o _ _ F1 H1 M1 e1 R1 (.int _) h1⟩
    · exact h1.elim
end
end DL
namespace DL
open PySem PySem.Spec PyProof.Rows L2
/-! ### blocks and small statements -/
section
variable {X : Cx} {st : Stmt} {rest : List Stmt} {t u : TSD} {e c a b : Expr} {es : List Expr} {de da db : TED} {dA : TAD} {tc : TTD} {pos : Pos}
def dNext : TSD := fun D ρ M => D.nx ρ M
def dSeq (t u : TSD) : TSD := fun D ρ M => t { D with nx := u D } ρ M
theorem dss_nil : DSs X [] dNext := pss_w pss_nil fun D σ H ⟨Z, F, M, ρ, DD, R, h, o⟩ => o.nx _ _ _ _ _ (Ext.refl F) R h
theorem dss_cons (h1 : DS X st t) (h2 : DSs X rest u) : DSs X (st :: rest) (dSeq t u) := pss_w (pss_cons h1 h2) fun D σ H ⟨Z, F, M, ρ, DD, R, h, o⟩ =>
  ⟨Z, F, M, ρ, _, R, h, ⟨fun σ' ρ' F' H' M' e R' q => ⟨Z, F', M', ρ', DD, R', q, o.mono e⟩, o.rt, o.bk, o.ct⟩⟩
theorem dss_one (h1 : DS X st t) : DSs X [st] t := pss_one h1
/-- a word between a statement and what follows: what follows is shown once -/
def dCut (t u : TSD) : TSD := fun D ρ M => ∃ Mid : EnvD → MH → Prop, t { D with nx := Mid } ρ M ∧ ∀ ρ' M', Mid ρ' M' → u D ρ' M'
theorem dss_cut (h1 : DS X st t) (h2 : DSs X rest u) : DSs X (st :: rest) (dCut t u) := pss_w (pss_cons h1 h2) fun D σ H ⟨Z, F, M, ρ, DD, R, ⟨Mid, h, k⟩, o⟩ =>
  ⟨Z, F, M, ρ, { DD with nx := Mid }, R, h, ⟨fun σ' ρ' F' H' M' e R' q => ⟨Z, F', M', ρ', DD, R', k _ _ q, o.mono e⟩, o.rt, o.bk, o.ct⟩⟩
/-- a slot's list never changes from here on -/
def dFrz (i : Nat) (t : TSD) : TSD := fun D ρ M => match atD ρ i with
  | some (.ref a) => ∃ ds, M a = some (.lst ds) ∧ t D (setD ρ i (some (.lst ds))) (delM M a)
  | _ => False
theorem RelE.reset {K : PySem.W.Frag} {F : Hp} {σ : L2.St} {ρ : EnvD} {v : V} {d d0 : Dat} {i : Nat} (r : RelE K F σ ρ) (h0 : atD ρ i = some d0) (hv : ∀ w, Rep K F w d0 → Rep K F w d) : RelE K F σ (setD ρ i (some d)) := by
  rw [setD_set]
  refine ⟨by rw [List.length_set]; exact r.len, fun j x q => ?_⟩
  by_cases e : i = j
  · subst e
    have hi : i < ρ.length := (List.getElem?_eq_some_iff.mp (atD_get h0)).1
    rw [List.getElem?_set_self hi] at q
    cases q
    obtain ⟨w, q1, g⟩ := r.at_ i d0 (atD_get h0)
    exact ⟨w, q1, hv w g⟩
  · rw [List.getElem?_set_ne e] at q
    exact r.at_ j x q
theorem dss_frz (i : Nat) {sts : List Stmt} (h : DSs X sts t) : DSs X sts (dFrz i t) := pss_w h fun D σ H ⟨Z, F, M, ρ, DD, R, h, o⟩ => by
  unfold dFrz at h
  split at h
  · rename_i a e
    obtain ⟨ds, h1, h2⟩ := h
    obtain ⟨xs, q, r⟩ := (R.m.chg a _ h1).2
    obtain ⟨R2, e2⟩ := R.m.frz h1 q
    refine ⟨Z, _, _, _, DD, ⟨R2, RelE.reset (v := .ref a) (R.e.mono e2) e fun w g => ?_⟩, h2, o.mono e2⟩
    cases g
    exact .lst upd_same (r.mono e2)
  · exact h.elim
def dBreak : TSD := fun D ρ M => D.bk ρ M
def dCont : TSD := fun D ρ M => D.ct ρ M
theorem ds_pass : DS X (.Pass pos) dNext := ps_w ps_pass fun D σ H ⟨Z, F, M, ρ, DD, R, h, o⟩ => o.nx _ _ _ _ _ (Ext.refl F) R h
theorem ds_break : DS X (.Break pos) dBreak := ps_w ps_break fun D σ H ⟨Z, F, M, ρ, DD, R, h, o⟩ => o.bk _ _ _ _ _ (Ext.refl F) R h
theorem ds_cont : DS X (.Continue pos) dCont := ps_w ps_continue fun D σ H ⟨Z, F, M, ρ, DD, R, h, o⟩ => o.ct _ _ _ _ _ (Ext.refl F) R h
def dDrop (de : TED) : TSD := fun D ρ M => de ρ M fun _ M1 => D.nx ρ M1
theorem ds_expr (he : DE X e de) (hs : swapsWith e none pos.line X.env = pure false := by rfl) : DS X (.Expr e pos) (dDrop de) := ps_w (ps_expr he hs) fun D σ H ⟨Z, F, M, ρ, DD, R, h, o⟩ =>
  ⟨Z, F, M, ρ, _, R, h, fun v d F1 H1 M1 e1 R1 r1 h1 => o.nx _ _ _ _ _ e1 (R.ext e1 R1) h1⟩
def dRet (de : TED) : TSD := fun D ρ M => de ρ M D.rt
theorem ds_ret (he : DE X e de) : DS X (.Return (some e) pos) (dRet de) := ps_w (ps_ret he) fun D σ H ⟨Z, F, M, ρ, DD, R, h, o⟩ => ⟨Z, F, M, ρ, _, R, h, o.rt⟩
def dRetN : TSD := fun D _ M => D.rt .non M
theorem ds_retN : DS X (.Return none pos) dRetN := ps_w ps_retN fun D σ H ⟨Z, F, M, ρ, DD, R, h, o⟩ => o.rt _ _ _ _ _ (Ext.refl F) R.m .non h
def dIfS (c : TTD) (t u : TSD) : TSD := fun D ρ M => c ρ M fun b M1 => if b = true then t D ρ M1 else u D ρ M1
theorem ds_if {p q : List Stmt} (hc : DT X c tc) (ha : DSs X p t) (hb : DSs X q u) : DS X (.If c p q pos) (dIfS tc t u) := ps_w (ps_if hc ha hb) fun D σ H ⟨Z, F, M, ρ, DD, R, h, o⟩ => by
  refine ⟨Z, F, M, ρ, _, R, h, fun k F1 H1 M1 e1 R1 h1 => ?_⟩
  cases k with
  | true =>
    rw [if_pos rfl] at h1 ⊢
    exact ⟨Z, F1, M1, ρ, DD, R.ext e1 R1, h1, o.mono e1⟩
  | false =>
    rw [if_neg Bool.false_ne_true] at h1 ⊢
    exact ⟨Z, F1, M1, ρ, DD, R.ext e1 R1, h1, o.mono e1⟩
def dNever : TSD := fun _ _ _ => False
theorem ds_never : DS X st dNever := ps_w ps_never fun D σ H ⟨Z, F, M, ρ, DD, R, h, o⟩ => h.elim
theorem dss_never {sts : List Stmt} : DSs X sts dNever := pss_w pss_never fun D σ H ⟨Z, F, M, ρ, DD, R, h, o⟩ => h.elim
/-! ### targets -/
/-- a target that stores slots among vs alone -/
def upGo (K : PySem.W.Frag) (vs : List Nat) (d : TGD) : TG := fun v σ H Q => ∃ Z F M ρ x QD, Rel K Z F H M σ ρ ∧ Rep K F v x ∧ d x ρ M QD ∧ (∀ σ' ρ' F' H' M', Ext F F' → Rel K Z F' H' M' σ' ρ' → wipe σ' vs = wipe σ vs → QD ρ' M' → Q σ' H')
abbrev DGo (X : Cx) (tg : Expr) (vs : List Nat) (d : TGD) : Prop := PG X tg (upGo X.K vs d)
theorem DGo.dg {tg : Expr} {vs : List Nat} {d : TGD} (h : DGo X tg vs d) : DG X tg d := pg_w h fun v σ H Q ⟨Z, F, M, ρ, x, QD, R, r, h, o⟩ => ⟨Z, F, M, ρ, x, QD, R, r, h, fun σ' ρ' F' H' M' e R' _ q => o σ' ρ' F' H' M' e R' q⟩
theorem wipe_get (σ : L2.St) : ∀ (vs : List Nat) (j : Nat), (wipe σ vs)[j]? = if j ∈ vs ∧ j < σ.length then some none else σ[j]?
  | [], j => by simp [wipe]
  | v :: vs, j => by
    unfold wipe
    by_cases e : v = j
    · subst e
      by_cases hl : v < σ.length
      · rw [List.getElem?_set_self (by rw [wipe_length]; exact hl), if_pos ⟨List.mem_cons_self .., hl⟩]
      · rw [List.getElem?_eq_none (by rw [List.length_set, wipe_length]; omega), if_neg (fun h => hl h.2), List.getElem?_eq_none (by omega)]
    · rw [List.getElem?_set_ne e, wipe_get σ vs j]
      have : (j ∈ v :: vs) ↔ j ∈ vs := by simp [Ne.symm e]
      simp only [this]
theorem wipe_ext {σ τ : L2.St} {vs : List Nat} (hl : σ.length = τ.length) (h : ∀ j, j ∉ vs → σ[j]? = τ[j]?) : wipe σ vs = wipe τ vs := by
  apply List.ext_getElem?
  intro j
  rw [wipe_get, wipe_get, hl]
  by_cases hj : j ∈ vs ∧ j < τ.length
  · rw [if_pos hj, if_pos hj]
  · rw [if_neg hj, if_neg hj]
    by_cases hv : j ∈ vs
    · have : ¬ j < τ.length := fun z => hj ⟨hv, z⟩
      rw [List.getElem?_eq_none (by omega), List.getElem?_eq_none (by omega)]
    · exact h j hv
theorem wipe_set {σ : L2.St} {vs : List Nat} {i : Nat} {v : Option V} (hi : i ∈ vs) : wipe (σ.set i v) vs = wipe σ vs :=
  wipe_ext (List.length_set ..) fun j hj => List.getElem?_set_ne (fun e : i = j => hj (by rw [← e]; exact hi))
theorem wipe_wipe {σ : L2.St} {vs : List Nat} : wipe (wipe σ vs) vs = wipe σ vs := wipe_ext (wipe_length ..) fun j hj => by
  rw [wipe_get, if_neg fun h => hj h.1]
def dgN (i : Nat) : TGD := fun x ρ M Q => Q (setD ρ i (some x)) M
theorem dgo_name {i : Nat} {x : Str} {vs : List Nat} (hm : i ∈ vs) (hN : X.N.Nodup) (hi : X.N[i]? = some x) (hx : Loc X.env.scope x := by first | exact Or.inl rfl | exact Or.inr rfl) (hf : X.fn x = true ∨ X.env.scope.names.lookup x = some .local := by first | exact .inl rfl | exact .inr rfl | assumption) : DGo X (.Name x pos) vs (dgN i) :=
  pg_w (pg_name hN hi hx hf) fun v σ H Q ⟨Z, F, M, ρ, x, QD, R, r, h, o⟩ => by
    refine o _ _ F H M (Ext.refl F) ⟨R.m, ?_⟩ (wipe_set hm) h
    rw [setD_set]
    exact R.e.set r i
theorem dg_name {i : Nat} {x : Str} (hN : X.N.Nodup) (hi : X.N[i]? = some x := by rfl) (hx : Loc X.env.scope x := by first | exact Or.inl rfl | exact Or.inr rfl) (hf : X.fn x = true ∨ X.env.scope.names.lookup x = some .local := by first | exact .inl rfl | exact .inr rfl | assumption) : DG X (.Name x pos) (dgN i) :=
  (dgo_name (vs := [i]) (List.mem_singleton.mpr rfl) hN hi hx hf).dg
/-- several targets -/
abbrev TGsD := List Dat → EnvD → MH → (EnvD → MH → Prop) → Prop
def upGs (K : PySem.W.Frag) (vs : List Nat) (d : TGsD) : TGs := fun v σ H Q => ∃ Z F M ρ x QD, Rel K Z F H M σ ρ ∧ Reps K F v x ∧ d x ρ M QD ∧ (∀ σ' ρ' F' H' M', Ext F F' → Rel K Z F' H' M' σ' ρ' → wipe σ' vs = wipe σ vs → QD ρ' M' → Q σ' H')
abbrev DGs (X : Cx) (ts : List Expr) (vs : List Nat) (d : TGsD) : Prop := PGs X ts (upGs X.K vs d)
theorem pgs_w {ts : List Expr} {t u : TGs} (h : PGs X ts t) (w : ∀ v σ H Q, u v σ H Q → t v σ H Q) : PGs X ts u := ⟨fun pins s σ H vs us Q I r q => h.run pins s σ H vs us Q I r (w vs σ H Q q)⟩
def dgNil : TGsD := fun xs ρ M Q => match xs with
  | [] => Q ρ M
  | _ => False
def dgCons (t : TGD) (u : TGsD) : TGsD := fun xs ρ M Q => match xs with
  | x :: r => t x ρ M fun ρ' M' => u r ρ' M' Q
  | _ => False
theorem dgs_nil {vs : List Nat} : DGs X [] vs dgNil := pgs_w pgs_nil fun v σ H Q ⟨Z, F, M, ρ, x, QD, R, r, h, o⟩ => by
  unfold dgNil at h
  split at h
  · exact ⟨r.unnil, o _ _ F H M (Ext.refl F) R rfl h⟩
  · exact h.elim
theorem dgs_cons {vs : List Nat} {t : TGD} {u : TGsD} (h1 : DGo X e vs t) (h2 : DGs X es vs u) (hs : (assignEach (e :: es) X.env).map (·.2) = assign e X.env :: (assignEach es X.env).map (·.2) := by rfl) : DGs X (e :: es) vs (dgCons t u) :=
  pgs_w (pgs_cons h1 h2 hs) fun v σ H Q ⟨Z, F, M, ρ, x, QD, R, r, h, o⟩ => by
    unfold dgCons at h
    split at h
    · obtain ⟨w, ws, rfl, r1, r2⟩ := r.uncons
      refine ⟨w, ws, rfl, Z, F, M, ρ, _, _, R, r1, h, fun σ' ρ' F' H' M' e1 R1 w1 h1 => ?_⟩
      exact ⟨Z, F', M', ρ', _, QD, R1, r2.mono e1, h1, fun σ2 ρ2 F2 H2 M2 e2 R2 w2 h2 => o σ2 ρ2 F2 H2 M2 (e1.trans e2) R2 (w2.trans w1) h2⟩
    · exact h.elim
def dgT (n : Nat) (t : TGsD) : TGD := fun x ρ M Q => match x with
  | .tup ds => ds.length = n ∧ t ds ρ M Q
  | _ => False
theorem dgo_tup {k n : Nat} {vs : List Nat} {t : TGsD} (h : DGs X es vs t) (hc : X.calm = true := by rfl)
    (hn : (assignEach es X.env).length = n := by rfl) (hst : (assignEach es X.env).findIdx? (·.1) = none := by rfl) : DGo X (.Tuple es k pos) vs (dgT n t) :=
  pg_w (pg_tup hc h hn hst) fun v σ H Q ⟨Z, F, M, ρ, x, QD, R, r, h, o⟩ => by
    unfold dgT at h
    split at h
    · cases r with
      | tup q r => exact ⟨_, _, rfl, ext_t R.m.sub q, by rw [r.length]; exact h.1, Z, F, M, ρ, _, QD, R, r, h.2, o⟩
    · exact h.elim
/-- o[i] = .. of a list that changes -/
def dgSub (do_ di : TED) : TGD := fun x ρ M Q => do_ ρ M fun o M1 => di ρ M1 fun i M2 => match o with
  | .ref a => (match i with
    | .int k => ∃ ds j, M2 a = some (.lst ds) ∧ ixN ds.length k = some j ∧ Q ρ (updM M2 a (.lst (ds.set j x)))
    | _ => False)
  | _ => False
theorem dg_sub {o i : Expr} {do_ di : TED} (ho : DE X o do_) (hi : DE X i di)
    (ha : ∀ v, assign (.Subscript o i pos) X.env v = (do
      let ov ← holding [v] (eval o X.env)
      let iv ← holding [v, ov] (eval i X.env)
      standAt pos
      holding [v, ov, iv] (setItem ov iv v)
      release [v, ov, iv] []) := by intro _; rfl) : DG X (.Subscript o i pos) (dgSub do_ di) :=
  pg_w (pg_sub ho hi set_list ha) fun v σ H Q ⟨Z, F, M, ρ, x, QD, R, r, h, o⟩ => by
    refine ⟨Z, F, M, ρ, _, R, h, fun w a F1 H1 M1 e1 R1 r1 h1 => ?_⟩
    refine ⟨Z, F1, M1, ρ, _, R.ext e1 R1, h1, fun w2 b F2 H2 M2 e2 R2 r2 h2 => ?_⟩
    split at h2
    · rename_i p
      split at h2
      · rename_i k
        obtain ⟨ds, j, q1, q2, q3⟩ := h2
        cases r1
        obtain ⟨xs, q4, r4⟩ := (R2.chg p _ q1).2
        refine ⟨p, xs, k, j, rfl, r2.toInt, q4, by rw [r4.length]; exact q2, ?_⟩
        have R3 := R2.write (o := .lst (xs.set j v)) (m := .lst (ds.set j x)) q1 ⟨_, upd_same, r4.set (r.mono (e1.trans e2)) j⟩
        exact o _ _ _ _ _ (e1.trans e2) (R.ext (e1.trans e2) R3) q3
      · exact h2.elim
    · exact h2.elim
def dAsg (de : TED) (g : TGD) : TSD := fun D ρ M => de ρ M fun x M1 => g x ρ M1 D.nx
theorem up_asg {K : PySem.W.Frag} {g : TGD} {D : Ends} {σ : L2.St} {H : Hp} (h : upS K (dAsg de g) D σ H) : tAsg (up K de) (upG K g) D σ H := by
  obtain ⟨Z, F, M, ρ, DD, R, h, o⟩ := h
  refine ⟨Z, F, M, ρ, _, R, h, fun v d F1 H1 M1 e1 R1 r1 h1 => ?_⟩
  exact ⟨Z, F1, M1, ρ, d, _, R.ext e1 R1, r1, h1, o.nx.mono e1⟩
theorem ds_asg {tg : Expr} {g : TGD} (he : DE X e de) (hg : DG X tg g) (hs : swapsWithSole [tg] e pos.line X.env = pure false := by rfl) (hw : swappedStores [tg] e X.env = pure none := by rfl)
    (h1 : (assignEach [tg] X.env).map (·.2) = [assign tg X.env] := by rfl) : DS X (.Assign [tg] e pos) (dAsg de g) := ps_w (ps_asg he hg hs hw h1) fun D σ H h => up_asg h
theorem ds_set {i : Nat} {x : Str} {pos' : Pos} (hN : X.N.Nodup) (he : DE X e de) (hi : X.N[i]? = some x := by rfl) (hx : Loc X.env.scope x := by first | exact Or.inl rfl | exact Or.inr rfl) (hs : swapsWith e (some (.Name x pos')) pos.line X.env = pure false := by rfl) (hf : X.fn x = true ∨ X.env.scope.names.lookup x = some .local := by first | exact .inl rfl | exact .inr rfl | assumption) :
    DS X (.Assign [.Name x pos'] e pos) (dAsg de (dgN i)) := ps_w (ps_set hN hi hx he hs hf) fun D σ H ⟨Z, F, M, ρ, DD, R, h, o⟩ => by
  refine ⟨Z, F, M, ρ, _, R, h, fun v d F1 H1 M1 e1 R1 r1 h1 => ?_⟩
  refine o.nx _ _ _ _ _ e1 ⟨R1, ?_⟩ h1
  rw [setD_set]
  exact (R.e.mono e1).set r1 i
/-- a, b = x, y and a, b, c = x, y, z of plain local names -/
def dPar (i j : Nat) (dA : TAD) : TSD := fun D ρ M => dA ρ M fun xs M1 => match xs with
  | [x, y] => D.nx (setD (setD ρ i (some x)) j (some y)) M1
  | _ => False
theorem ds_par {i j : Nat} {x y : Str} {px py pt : Pos} {kt k2 pt2} (hN : X.N.Nodup) (ha : DA X [a, b] dA) (hi : X.N[i]? = some x := by rfl) (hj : X.N[j]? = some y := by rfl) (hij : i ≠ j := by decide)
    (hx : X.env.scope.names.lookup x = some .local := by rfl) (hy : X.env.scope.names.lookup y = some .local := by rfl)
    (hw : swappedStores [.Tuple [.Name x px, .Name y py] kt pt] (.Tuple [a, b] k2 pt2) X.env = pure (some [x, y]) := by rfl) (hc : X.calm = true := by rfl)
    (hs : swapsWithSole [.Tuple [.Name x px, .Name y py] kt pt] (.Tuple [a, b] k2 pt2) pos.line X.env = pure false := by rfl) :
    DS X (.Assign [.Tuple [.Name x px, .Name y py] kt pt] (.Tuple [a, b] k2 pt2) pos) (dPar i j dA) := ps_w (ps_par hc hN hi hj hij hx hy ha hw hs) fun D σ H ⟨Z, F, M, ρ, DD, R, h, o⟩ => by
  refine ⟨Z, F, M, ρ, _, R, h, fun vs ds F1 H1 M1 e1 R1 r1 h1 => ?_⟩
  split at h1
  · obtain ⟨v, ws, rfl, q1, r1⟩ := r1.uncons
    obtain ⟨w, ws, rfl, q2, r1⟩ := r1.uncons
    cases r1.unnil
    refine ⟨v, w, rfl, o.nx _ _ _ _ _ e1 ⟨R1, ?_⟩ h1⟩
    rw [setD_set, setD_set]
    exact ((R.e.mono e1).set q1 i).set q2 j
  · exact h1.elim
def dPar3 (i j l : Nat) (dA : TAD) : TSD := fun D ρ M => dA ρ M fun xs M1 => match xs with
  | [x, y, z] => D.nx (setD (setD (setD ρ i (some x)) j (some y)) l (some z)) M1
  | _ => False
theorem ds_par3 {i j l : Nat} {x y z : Str} {px py pz pt : Pos} {kt k2 pt2} (hN : X.N.Nodup) (ha : DA X [a, b, c] dA) (hi : X.N[i]? = some x := by rfl) (hj : X.N[j]? = some y := by rfl) (hl : X.N[l]? = some z := by rfl) (hij : i ≠ j := by decide) (hil : i ≠ l := by decide) (hjl : j ≠ l := by decide)
    (hx : X.env.scope.names.lookup x = some .local := by rfl) (hy : X.env.scope.names.lookup y = some .local := by rfl) (hz : X.env.scope.names.lookup z = some .local := by rfl)
    (hw : swappedStores [.Tuple [.Name x px, .Name y py, .Name z pz] kt pt] (.Tuple [a, b, c] k2 pt2) X.env = pure (some [x, y, z]) := by rfl) (hc : X.calm = true := by rfl)
    (hs : swapsWithSole [.Tuple [.Name x px, .Name y py, .Name z pz] kt pt] (.Tuple [a, b, c] k2 pt2) pos.line X.env = pure false := by rfl) :
    DS X (.Assign [.Tuple [.Name x px, .Name y py, .Name z pz] kt pt] (.Tuple [a, b, c] k2 pt2) pos) (dPar3 i j l dA) := ps_w (ps_par3 hc hN hi hj hl hij hil hjl hx hy hz ha hw hs) fun D σ H ⟨Z, F, M, ρ, DD, R, h, o⟩ => by
  refine ⟨Z, F, M, ρ, _, R, h, fun vs ds F1 H1 M1 e1 R1 r1 h1 => ?_⟩
  split at h1
  · obtain ⟨v, ws, rfl, q1, r1⟩ := r1.uncons
    obtain ⟨w, ws, rfl, q2, r1⟩ := r1.uncons
    obtain ⟨w3, ws, rfl, q3, r1⟩ := r1.uncons
    cases r1.unnil
    refine ⟨v, w, w3, rfl, o.nx _ _ _ _ _ e1 ⟨R1, ?_⟩ h1⟩
    rw [setD_set, setD_set, setD_set]
    exact (((R.e.mono e1).set q1 i).set q2 j).set q3 l
  · exact h1.elim
/-! ### a field stored -/
def putD (f : Str) (d : Dat) : List (Str × Dat) → List (Str × Dat)
  | [] => [(f, d)]
  | (g, x) :: r => if g = f then (g, d) :: r else (g, x) :: putD f d r
theorem put_rep {K : PySem.W.Frag} {F : Hp} {f : Str} {v : V} {d : Dat} (r : Rep K F v d) {fs : List (Str × V)} {gs : List (Str × Dat)} (q : RepF K F fs gs) : RepF K F (putF f v fs) (putD f d gs) := by
  induction fs generalizing gs with
  | nil =>
    cases q
    exact .cons r .nil
  | cons p fs ih =>
    cases q with
    | @cons g w vs d' ds r1 r2 =>
      unfold putF putD
      by_cases e : g = f
      · rw [if_pos e, if_pos e]
        exact .cons r r2
      · rw [if_neg e, if_neg e]
        exact .cons r1 (ih r2)
theorem put_nodup {f : Str} {v : V} : ∀ {fs : List (Str × V)}, (fs.map (·.1)).Nodup → ((putF f v fs).map (·.1)).Nodup := by
  have mem : ∀ {fs : List (Str × V)} {g : Str}, g ∈ (putF f v fs).map (·.1) → g = f ∨ g ∈ fs.map (·.1) := by
    intro fs g
    induction fs with
    | nil =>
      intro h
      unfold putF at h
      simp at h
      exact .inl h
    | cons p fs ih =>
      obtain ⟨k, w⟩ := p
      intro h
      unfold putF at h
      by_cases e : k = f
      · rw [if_pos e] at h
        exact .inr h
      · rw [if_neg e] at h
        rw [List.map_cons] at h ⊢
        rcases List.mem_cons.mp h with h | h
        · exact .inr (by rw [h]; exact List.mem_cons_self ..)
        · rcases ih h with h | h
          · exact .inl h
          · exact .inr (List.mem_cons_of_mem _ h)
  intro fs
  induction fs with
  | nil =>
    intro _
    unfold putF
    simp
  | cons p fs ih =>
    obtain ⟨k, w⟩ := p
    intro h
    unfold putF
    by_cases e : k = f
    · rw [if_pos e]
      exact h
    · rw [if_neg e]
      rw [List.map_cons, List.nodup_cons] at h ⊢
      exact ⟨fun z => (mem z).elim e h.1, ih h.2⟩
def dSetF (C : Addr) (f : Str) (da dv : TED) : TSD := fun D ρ M => dv ρ M fun y M1 => da ρ M1 fun x M2 => match x with
  | .ref a => ∃ gs, M2 a = some (.ins C gs) ∧ gs.length < 1000 ∧ D.nx ρ (updM M2 a (.ins C (putD f y gs)))
  | _ => False
theorem repF_len {K : PySem.W.Frag} {F : Hp} {fs : List (Str × V)} {gs : List (Str × Dat)} (q : RepF K F fs gs) : fs.length = gs.length := by
  induction fs generalizing gs with
  | nil =>
    cases q
    rfl
  | cons p fs ih =>
    cases q with
    | cons r1 r2 => exact congrArg Nat.succ (ih r2)
theorem ds_setF {C : Addr} {f : Str} {o value : Expr} {da dv : TED} {pos' : Pos} (cl : Cls X.K C) (nf : NoAttr X.K C f) (ha : DE X o da) (hv : DE X value dv) (hs : swapsWith value (some (.Attribute o f pos')) pos.line X.env = pure false := by rfl) :
    DS X (.Assign [.Attribute o f pos'] value pos) (dSetF C f da dv) := ps_w (ps_fld ha hv hs) fun D σ H ⟨Z, F, M, ρ, DD, R, h, o⟩ => by
  refine ⟨Z, F, M, ρ, _, R, h, fun y d F1 H1 M1 e1 R1 r1 h1 => ?_⟩
  refine ⟨Z, F1, M1, ρ, _, R.ext e1 R1, h1, fun x b F2 H2 M2 e2 R2 r2 h2 => ?_⟩
  split at h2
  · rename_i p
    obtain ⟨gs, q1, q2, q3⟩ := h2
    cases r2
    obtain ⟨dx, fs, q4, q5, q6⟩ := (R2.chg p _ q1).2
    refine ⟨p, C, dx, fs, rfl, q4, cl, nf, by rw [repF_len q5]; exact q2, ?_⟩
    have R3 := R2.write (o := .ins C dx (putF f y fs)) (m := .ins C (putD f d gs)) q1 ⟨_, _, upd_same, put_rep (r1.mono e2) q5, put_nodup q6⟩
    exact o.nx _ _ _ _ _ (e1.trans e2) (R.ext (e1.trans e2) R3) q3
  · exact h2.elim
/-! ### methods of a list that changes -/
/-- o.m(..), a built-in's: a reading of the object and the arguments -/
def dMt (r : Dat → List Dat → MH → VKD → Prop) (do_ : TED) (dA : TAD) : TED := fun ρ M Q => do_ ρ M fun x M1 => (∃ ds, lsR M1 x = some ds) ∧ dA ρ M1 fun xs M2 => r x xs M2 Q
def MtD (X : Cx) (id : String) (d : Dat → List Dat → MH → VKD → Prop) : Prop := ∃ r, MtM X id r ∧ ∀ Z F H M x xs a as Q QD, RelM X.K Z F H M → Rep X.K F x a → Reps X.K F xs as → d a as M QD → OkV X.K Z F Q QD → r x xs H Q
variable {o : Expr} {do_ : TED} {name : Str} {apos : Pos} {id : String} {r : Dat → List Dat → MH → VKD → Prop}
theorem de_mt (slot : Slot "list" name id) (hty : typeOf (.builtin id) = pure (.type "method_descriptor")) (hm : MtD X id r) (ho : DE X o do_) (ha : DA X (e :: es) dA)
    (hbase : attributeBase o name X.env (eval o X.env) = eval o X.env := by rfl)
    (hfew : ((backTo pos (starEach (e :: es) X.env)).all (fun x => !x.1) && (backToKw pos (keywordEach [] X.env)).all (fun x => x.1.isSome)
      && decide ((e :: es).length + ([] : List Keyword).length + (if ([] : List Keyword).isEmpty then 0 else 1) < 30)) = true := by rfl)
    (hline : (apos.endLine == pos.line) = true := by rfl) (hs : starEach (e :: es) X.env = (false, eval e X.env) :: starEach es X.env := by rfl) (hplain : (backTo pos (starEach es X.env)).any (·.1) = false := by rfl) :
    DE X (.Call (.Attribute o name apos) (e :: es) [] pos) (dMt r do_ dA) := by
  obtain ⟨t, ht, hsim⟩ := hm
  refine pe_w (pe_bm PySem.F.plainAttrs_list slot hty ht ho ha hbase hfew hline hs hplain) fun σ H Q ⟨Z, F, M, ρ, QD, R, h, o⟩ => ?_
  refine ⟨Z, F, M, ρ, _, R, h, fun x a F1 H1 M1 e1 R1 r1 h1 => ?_⟩
  obtain ⟨⟨ds, q1⟩, h1⟩ := h1
  obtain ⟨p, xs, rfl, q, rr⟩ := lsR_rep R1 r1 q1
  refine ⟨.inl ⟨rfl, xs, q⟩, Z, F1, M1, ρ, _, R.ext e1 R1, h1, fun ys bs F2 H2 M2 e2 R2 r2 h2 => ?_⟩
  exact hsim Z F2 H2 M2 _ _ _ _ Q QD R2 (r1.mono e2) r2 h2 (o.mono (e1.trans e2))
theorem de_mt0 (slot : Slot "list" name id) (hty : typeOf (.builtin id) = pure (.type "method_descriptor")) (hm : MtD X id r) (ho : DE X o do_)
    (hbase : attributeBase o name X.env (eval o X.env) = eval o X.env := by rfl) (hline : (apos.endLine == pos.line) = true := by rfl) :
    DE X (.Call (.Attribute o name apos) [] [] pos) (dMt r do_ dNil) := by
  obtain ⟨t, ht, hsim⟩ := hm
  refine pe_w (pe_bm0 PySem.F.plainAttrs_list slot hty ht ho hbase hline) fun σ H Q ⟨Z, F, M, ρ, QD, R, h, o⟩ => ?_
  refine ⟨Z, F, M, ρ, _, R, h, fun x a F1 H1 M1 e1 R1 r1 h1 => ?_⟩
  obtain ⟨⟨ds, q1⟩, h1⟩ := h1
  obtain ⟨p, xs, rfl, q, rr⟩ := lsR_rep R1 r1 q1
  exact ⟨.inl ⟨rfl, xs, q⟩, hsim Z F1 H1 M1 _ _ _ _ Q QD R1 r1 .nil h1 (o.mono e1)⟩
def rAppendD : Dat → List Dat → MH → VKD → Prop := fun x as M Q => match x with
  | .ref a => (match as with
    | [d] => ∃ ds, M a = some (.lst ds) ∧ ds.length < sizeLine ∧ Q .non (updM M a (.lst (ds ++ [d])))
    | _ => False)
  | _ => False
theorem md_append : MtD X "list.append" rAppendD := ⟨_, mt_append, fun Z F H M x xs a as Q QD R ra rs hd o => by
  unfold rAppendD at hd
  split at hd
  · rename_i p
    split at hd
    · rename_i d
      obtain ⟨ds, q1, q2, q3⟩ := hd
      cases ra
      obtain ⟨v, ws, rfl, r1, rs⟩ := rs.uncons
      cases rs.unnil
      obtain ⟨ys, q4, r4⟩ := (R.chg p _ q1).2
      refine ⟨p, ys, v, rfl, rfl, q4, by rw [r4.length]; exact q2, ?_⟩
      have R3 := R.write (o := .lst (ys ++ [v])) (m := .lst (ds ++ [d])) q1 ⟨_, upd_same, r4.app (.one r1)⟩
      exact o _ _ F _ _ (Ext.refl F) R3 .non q3
    · exact hd.elim
  · exact hd.elim⟩
def rPopD : Dat → List Dat → MH → VKD → Prop := fun x as M Q => match x with
  | .ref a => (match as with
    | [] => ∃ ds d, M a = some (.lst ds) ∧ ds[ds.length - 1]? = some d ∧ Q d (updM M a (.lst ds.dropLast))
    | _ => False)
  | _ => False
theorem md_pop : MtD X "list.pop" rPopD := ⟨_, mt_pop, fun Z F H M x xs a as Q QD R ra rs hd o => by
  unfold rPopD at hd
  split at hd
  · rename_i p
    split at hd
    · obtain ⟨ds, d, q1, q2, q3⟩ := hd
      cases ra
      cases rs.unnil
      obtain ⟨ys, q4, r4⟩ := (R.chg p _ q1).2
      obtain ⟨v, q5, r5⟩ := r4.get q2
      refine ⟨p, ys, v, rfl, rfl, q4, by rw [r4.length]; exact q5, ?_⟩
      have R3 := R.write (o := .lst ys.dropLast) (m := .lst ds.dropLast) q1 ⟨_, upd_same, r4.dropLast⟩
      exact o _ _ F _ _ (Ext.refl F) R3 r5 q3
    · exact hd.elim
  · exact hd.elim⟩
/-- xs.extend(ys) -/
def rExtendD : Dat → List Dat → MH → VKD → Prop := fun x as M Q => match x with
  | .ref a => (match as with
    | [d] => ∃ ds es, M a = some (.lst ds) ∧ lsT M d = some es ∧ ds.length + es.length ≤ sizeLine ∧ Q .non (updM M a (.lst (ds ++ es)))
    | _ => False)
  | _ => False
theorem md_extend : MtD X "list.extend" rExtendD := ⟨_, mt_extend, fun Z F H M x xs a as Q QD R ra rs hd o => by
  unfold rExtendD at hd
  split at hd
  · rename_i p
    split at hd
    · rename_i d
      obtain ⟨ds, es, q1, q2, q3, q4⟩ := hd
      cases ra
      obtain ⟨v, ws, rfl, r1, rs⟩ := rs.uncons
      cases rs.unnil
      obtain ⟨ys, q5, r5⟩ := (R.chg p _ q1).2
      obtain ⟨p2, zs, rfl, q6, r6⟩ := lsT_rep R r1 q2
      refine ⟨p, p2, ys, zs, rfl, rfl, q5, q6, by rw [r5.length, r6.length]; exact q3, ?_⟩
      have R3 := R.write (o := .lst (ys ++ zs)) (m := .lst (ds ++ es)) q1 ⟨_, upd_same, r5.app r6⟩
      exact o _ _ F _ _ (Ext.refl F) R3 .non q4
    · exact hd.elim
  · exact hd.elim⟩
end
end DL
namespace DL
open PySem PySem.Spec PyProof.Rows L2
/-! ### what a def promises, over data -/
abbrev SpD := List Dat → MH → VKD → Prop
def toSp (K : PySem.W.Frag) (sp : SpD) : Sp := fun vs H Q _ => ∃ Z F M ds QD, RelM K Z F H M ∧ Reps K F vs ds ∧ sp ds M QD ∧ OkV K Z F Q QD
/-- a def stands in the text -/
structure HasFn (K : PySem.W.Frag) (mg : Str → Option Value) (x qual : Str) (st : Stmt) (ps : List Str) : Prop where
  ex : ∃ f fd, Fun K x qual st f fd ∧ mg x = some (.ref f) ∧ Binds K fd ps []
/-- .. and keeps a promise -/
structure FnD (P : Program) (w : World) (K : PySem.W.Frag) (mg : Str → Option Value) (base : Heap) (k : Nat) (x : Str) (st : Stmt) (ps : List Str) (sp : SpD) : Prop where
  ex : ∃ f fd, Fun K x x st f fd ∧ mg x = some (.ref f) ∧ Binds K fd ps [] ∧ FnOk P w K mg base CX0 k f fd ps (toSp K sp)
/-- a method of the class at C -/
structure HasMt (K : PySem.W.Frag) (C : Addr) (m qual : Str) (st : Stmt) (ps : List Str) : Prop where
  ex : ∃ f fd, Fun K m qual st f fd ∧ Meth K C m f ∧ Binds K fd ps []
structure MtdD (P : Program) (w : World) (K : PySem.W.Frag) (mg : Str → Option Value) (base : Heap) (k : Nat) (C : Addr) (m : Str) (st : Stmt) (ps : List Str) (sp : SpD) : Prop where
  ex : ∃ qual f fd, Fun K m qual st f fd ∧ Meth K C m f ∧ Binds K fd ps [] ∧ FnOk P w K mg base CX0 k f fd ps (toSp K sp)
/-- the class at C and its __init__ -/
structure HasCl (K : PySem.W.Frag) (mg : Str → Option Value) (x : Str) (C : Addr) (qual : Str) (st : Stmt) (ps : List Str) : Prop where
  ex : ∃ f fd, Fun K "__init__" qual st f fd ∧ mg x = some (.ref C) ∧ Mk K C f ∧ Binds K fd ps []
structure ClD (P : Program) (w : World) (K : PySem.W.Frag) (mg : Str → Option Value) (base : Heap) (k : Nat) (x : Str) (C : Addr) (st : Stmt) (ps : List Str) (sp : SpD) : Prop where
  ex : ∃ qual f fd, Fun K "__init__" qual st f fd ∧ mg x = some (.ref C) ∧ Mk K C f ∧ Binds K fd ps [] ∧ FnOk P w K mg base CX0 k f fd ps (toSp K sp)
def endD (Q : VKD) : VKD := fun d M' => ∃ M0, LeM M0 M' ∧ Q d M0
def startD : Nat → List Dat → EnvD
  | 0, _ => []
  | n + 1, [] => none :: startD n []
  | n + 1, d :: ds => some d :: startD n ds
theorem startD_rep {K : PySem.W.Frag} {F : Hp} : ∀ (n : Nat) {vs : List V} {ds : List Dat}, Reps K F vs ds → ds.length ≤ n → RelE K F (vs.map some ++ List.replicate (n - vs.length) none) (startD n ds)
  | 0, vs, ds, r, h => by
    have e : ds = [] := List.length_eq_zero_iff.mp (by omega)
    subst e
    cases r
    exact ⟨rfl, fun i d q => by cases q⟩
  | n + 1, vs, [], r, h => by
    cases r
    have ih := startD_rep (K := K) (F := F) n (vs := []) (ds := []) .nil (Nat.zero_le _)
    refine ⟨congrArg Nat.succ ih.len, fun i d q => ?_⟩
    cases i with
    | zero => cases q
    | succ i => exact ih.at_ i d q
  | n + 1, vs, d :: ds, r, h => by
    obtain ⟨v, ws, rfl, r1, r2⟩ := r.uncons
    have ih := startD_rep (K := K) (F := F) n r2 (by rw [List.length_cons] at h; omega)
    have el : n + 1 - (v :: ws).length = n - ws.length := by rw [List.length_cons]; omega
    rw [el]
    refine ⟨congrArg Nat.succ ih.len, fun i x q => ?_⟩
    cases i with
    | zero =>
      have e := Option.some.inj q
      cases e
      exact ⟨v, rfl, r1⟩
    | succ i => exact ih.at_ i x q
section
variable {P : Program} {w : World} {K : PySem.W.Frag} {mg : Str → Option Value} {base : Heap}
/-- a def's promise by its body -/
theorem fnok_of {x qual : Str} {st : Stmt} {f : Addr} {fd : FuncData} {N ps : List Str} {k : Nat} {sp : SpD} (F : Fun K x qual st f fd) (S : FnScope N ps (defScope st)) (n : Nat) (hn : N.length = n) (len : ∀ ds M Q, sp ds M Q → ds.length = ps.length)
    (body : ∀ (cdv : Value) (A : Around) (outer : List Env) (s : Shared) (H : Hp) (E : XK), Room k (A.deeper (envOfC qual (defScope st) s.heap.objs.size f cdv)) →
      ∃ d, DSs (cxOf CX0 P w K mg base N qual (defScope st) f cdv A outer s H E).nox (defBody st) d ∧ ∀ ds M Q, sp ds M Q → d { nx := fun _ M' => endD Q .non M', rt := endD Q } (startD n ds) M) : FnOk P w K mg base CX0 (k + 1) f fd ps (toSp K sp) := by
  refine F.ok S (fun vs H Q E h => ?_) (fun cdv A outer s H vs Q E hr h => ?_)
  · obtain ⟨Z, F, M, ds, QD, R, r, h, o⟩ := h
    rw [r.length]
    exact len ds M QD h
  · obtain ⟨d, hd, hb⟩ := body cdv A outer s H E hr
    obtain ⟨Z, F, M, ds, QD, R, r, h, o⟩ := h
    refine ⟨_, hd, Z, F, M, startD n ds, { nx := fun _ M' => endD QD .non M', rt := endD QD }, ⟨R, ?_⟩, hb ds M QD h, ⟨?_, ?_, ?_, ?_⟩⟩
    · have hl := len ds M QD h
      have hp : ps.length ≤ N.length := by
        have := congrArg List.length S.pre
        rw [List.length_take] at this
        omega
      unfold L2.start
      rw [← hn]
      exact startD_rep N.length r (by omega)
    · intro σ' ρ' F' H' M' e R' q
      obtain ⟨M0, l, q⟩ := q
      exact o _ _ F' H' M0 e (R'.m.le l) .non q
    · intro v d F' H' M' e R' rr q
      obtain ⟨M0, l, q⟩ := q
      exact o _ _ F' H' M0 e (R'.le l) rr q
    · intro σ' ρ' F' H' M' e R' q
      exact q.elim
    · intro σ' ρ' F' H' M' e R' q
      exact q.elim
theorem fn_mk {x : Str} {st : Stmt} {N ps : List Str} {k : Nat} {sp : SpD} (h : HasFn K mg x x st ps) (S : FnScope N ps (defScope st)) (n : Nat) (hn : N.length = n) (len : ∀ ds M Q, sp ds M Q → ds.length = ps.length)
    (body : ∀ (f : Addr) (cdv : Value) (A : Around) (outer : List Env) (s : Shared) (H : Hp) (E : XK), Room k (A.deeper (envOfC x (defScope st) s.heap.objs.size f cdv)) →
      ∃ d, DSs (cxOf CX0 P w K mg base N x (defScope st) f cdv A outer s H E).nox (defBody st) d ∧ ∀ ds M Q, sp ds M Q → d { nx := fun _ M' => endD Q .non M', rt := endD Q } (startD n ds) M) : FnD P w K mg base (k + 1) x st ps sp := by
  obtain ⟨f, fd, F, hm, hb⟩ := h.ex
  exact ⟨f, fd, F, hm, hb, fnok_of F S n hn len (body f)⟩
theorem mt_mk {C : Addr} {m qual : Str} {st : Stmt} {N ps : List Str} {k : Nat} {sp : SpD} (h : HasMt K C m qual st ps) (S : FnScope N ps (defScope st)) (n : Nat) (hn : N.length = n) (len : ∀ ds M Q, sp ds M Q → ds.length = ps.length)
    (body : ∀ (f : Addr) (cdv : Value) (A : Around) (outer : List Env) (s : Shared) (H : Hp) (E : XK), Room k (A.deeper (envOfC qual (defScope st) s.heap.objs.size f cdv)) →
      ∃ d, DSs (cxOf CX0 P w K mg base N qual (defScope st) f cdv A outer s H E).nox (defBody st) d ∧ ∀ ds M Q, sp ds M Q → d { nx := fun _ M' => endD Q .non M', rt := endD Q } (startD n ds) M) : MtdD P w K mg base (k + 1) C m st ps sp := by
  obtain ⟨f, fd, F, hm, hb⟩ := h.ex
  exact ⟨qual, f, fd, F, hm, hb, fnok_of F S n hn len (body f)⟩
theorem cl_mk {C : Addr} {x qual : Str} {st : Stmt} {N ps : List Str} {k : Nat} {sp : SpD} (h : HasCl K mg x C qual st ps) (S : FnScope N ps (defScope st)) (n : Nat) (hn : N.length = n) (len : ∀ ds M Q, sp ds M Q → ds.length = ps.length)
    (body : ∀ (f : Addr) (cdv : Value) (A : Around) (outer : List Env) (s : Shared) (H : Hp) (E : XK), Room k (A.deeper (envOfC qual (defScope st) s.heap.objs.size f cdv)) →
      ∃ d, DSs (cxOf CX0 P w K mg base N qual (defScope st) f cdv A outer s H E).nox (defBody st) d ∧ ∀ ds M Q, sp ds M Q → d { nx := fun _ M' => endD Q .non M', rt := endD Q } (startD n ds) M) : ClD P w K mg base (k + 1) x C st ps sp := by
  obtain ⟨f, fd, F, hm, mk, hb⟩ := h.ex
  exact ⟨qual, f, fd, F, hm, mk, hb, fnok_of F S n hn len (body f)⟩
end
/-! ### calls -/
section
variable {X : Cx} {k k2 : Nat} {x m : Str} {st : Stmt} {ps : List Str} {sp : SpD} {e o : Expr} {es : List Expr} {p pos apos : Pos} {dA dK : TAD} {do_ : TED} {C : Addr}
def dCall (sp : SpD) (dA : TAD) : TED := fun ρ M Q => dA ρ M fun ds M1 => sp ds M1 Q
theorem up_call {K : PySem.W.Frag} {σ : L2.St} {H : Hp} {Q : VK} (h : up K (dCall sp dA) σ H Q) : tCall (toSp K sp) [] E0 (upA K dA) σ H Q := by
  obtain ⟨Z, F, M, ρ, QD, R, h, o⟩ := h
  refine ⟨Z, F, M, ρ, _, R, h, fun vs ds F1 H1 M1 e1 R1 r1 h1 => ?_⟩
  show toSp K sp (vs ++ []) H1 Q E0
  rw [List.append_nil]
  exact ⟨Z, F1, M1, ds, QD, R1, r1, h1, o.mono e1⟩
theorem de_call (F : FnD X.prog X.w X.K X.mg X.base k x st ps sp) (hr : Room k2 X.A) (ha : DA X (e :: es) dA) (hk : k ≤ k2 := by decide) (hg : Gl X x := by rfl) (hdb : (x == ("__debug__" : Str)) = false := by decide)
    (he : starEach (e :: es) X.env = (false, eval e X.env) :: starEach es X.env := by rfl) (hpl : (backTo pos (starEach es X.env)).any (·.1) = false := by rfl) : DE X (.Call (.Name x p) (e :: es) [] pos) (dCall sp dA) := by
  obtain ⟨f, fd, F, hm, hb, ok⟩ := F.ex
  exact pe_w (pe_call ok (hr.mono hk) hg hm F.kp hb .nil pass0 ha hdb he hpl) fun σ H Q h => up_call h
theorem de_call0 (F : FnD X.prog X.w X.K X.mg X.base k x st ps sp) (hr : Room k2 X.A) (hk : k ≤ k2 := by decide) (hg : Gl X x := by rfl) (hdb : (x == ("__debug__" : Str)) = false := by decide) : DE X (.Call (.Name x p) [] [] pos) (dCall sp dNil) := by
  obtain ⟨f, fd, F, hm, hb, ok⟩ := F.ex
  refine pe_w (pe_call0 ok (hr.mono hk) hg hm F.kp hb .nil pass0 hdb) fun σ H Q h => ?_
  obtain ⟨Z, F, M, ρ, QD, R, h, o⟩ := h
  exact ⟨Z, F, M, [], QD, R.m, .nil, h, o⟩
/-- keywords, from the left -/
abbrev DK (X : Cx) (kws : List Keyword) (d : TAD) : Prop := PK X kws (upA X.K d)
theorem pk_w {kws : List Keyword} {t u : TA} (h : PK X kws t) (w : ∀ σ H Q, u σ H Q → t σ H Q) : PK X kws u := ⟨fun pos pins s σ H Q I q => h.run pos pins s σ H Q I (w σ H Q q)⟩
theorem dk_nil : DK X [] dNil := pk_w pk_nil fun σ H Q ⟨Z, F, M, ρ, QD, R, h, o⟩ => o [] [] F H M (Ext.refl F) R.m .nil h
theorem dk_cons {de : TED} {nm : Option Str} {kpos : Pos} {kws : List Keyword} (ha : DE X e de) (hr : DK X kws dK) : DK X (⟨nm, e, kpos⟩ :: kws) (dCons de dK) := pk_w (pk_cons ha hr) fun σ H Q ⟨Z, F, M, ρ, QD, R, h, o⟩ => by
  refine ⟨Z, F, M, ρ, _, R, h, fun x a F1 H1 M1 e1 R1 r1 h1 => ?_⟩
  refine ⟨Z, F1, M1, ρ, _, R.ext e1 R1, h1, fun xs as F2 H2 M2 e2 R2 r2 h2 => ?_⟩
  exact o _ _ F2 H2 M2 (e1.trans e2) R2 (.cons (r1.mono e2) r2) h2
/-- f(.., k = v, ..): g puts all in the parameters' order -/
def dCallK (n m : Nat) (g : List Dat → List Dat → List Dat) (sp : SpD) (dA dK : TAD) : TED := fun ρ M Q => dA ρ M fun ds M1 => dK ρ M1 fun es M2 => ds.length = n ∧ es.length = m ∧ sp (g ds es) M2 Q
/-- how such a call binds -/
structure KwB (x : Str) (st : Stmt) (ps : List Str) (n : Nat) (ks : List Str) (g : {α : Type} → List α → List α → List α) : Prop where
  to : ∀ (kV doc pm : Value) (an : Option Addr) (cdv ct : Value) (us ws : List Value), us.length = n → ws.length = ks.length →
    bindArgs (PySem.W.fnOf x x (defArgs st) (defBody st) (defScope st) .none kV doc pm an cdv ct) ⟨us, ks.zip ws⟩ = pure (ps.zip (g us ws))
  vals : ∀ {vs : List V} {us : List Value} {zs : List V} {ws : List Value}, Vals vs us → Vals zs ws → Vals (g vs zs) (g us ws)
  reps : ∀ {K : PySem.W.Frag} {F : Hp} {vs zs : List V} {ds es : List Dat}, vs.length = n → zs.length = ks.length → Reps K F vs ds → Reps K F zs es → Reps K F (g vs zs) (g ds es)
theorem pe_callN0 {CX : CXT} {f : Addr} {fd : FuncData} {ks : List Str} {sp : Sp} {E : XK} {kws : List Keyword} {tk : TA} {g : List Value → List Value → List Value} {gV : List V → List V → List V} (F : FnOk X.prog X.w X.K X.mg X.base CX k f fd ps sp) (hr : Room k X.A) (hg : Gl X x) (hm : X.mg x = some (.ref f)) (hk : PySem.W.keepIn X.K (.ref f) = true) (hb : KBn X.K fd ps 0 ks g gV) (hx : Passes CX X E)
    (hkw : PK X kws tk) (hall : (backToKw pos (keywordEach kws X.env)).all (·.1.isSome) = true) (hks : (backToKw pos (keywordEach kws X.env)).filterMap (·.1) = ks) (hdb : (x == ("__debug__" : Str)) = false)
    (hpl : ((backTo pos (starEach [] X.env)).any (·.1) || (backToKw pos (keywordEach kws X.env)).any (·.1.isNone)) = false) :
    PE X (.Call (.Name x p) [] kws pos) (tCallN 0 ks.length sp gV E tNil tk) := by
  refine ⟨fun pins s σ H Q I h => ?_⟩
  refine wpAny_Call_Name_kw (ld_glob I hg hm ?_ hdb)
  refine PySem.W.callWith_KW0 (h₀ := X.base) I.ok.mod.kin hk hall (thn (hkw.run pos pins s σ H _ I h) fun ws s2 ⟨zs, H2, I2, rz, l1, l2, q2⟩ => ⟨I2.kIn, ?_⟩) hpl
  rw [hks]
  exact run_fnN F hr hb hx I2 (us := []) .nil rz l1 l2 q2
theorem up_callK {K : PySem.W.Frag} {n m : Nat} {g : List Dat → List Dat → List Dat} {gV : List V → List V → List V} (hg : ∀ {F : Hp} {vs zs : List V} {ds es : List Dat}, vs.length = n → zs.length = m → Reps K F vs ds → Reps K F zs es → Reps K F (gV vs zs) (g ds es)) {σ : L2.St} {H : Hp} {Q : VK} (h : up K (dCallK n m g sp dA dK) σ H Q) :
    tCallN n m (toSp K sp) gV E0 (upA K dA) (upA K dK) σ H Q := by
  obtain ⟨Z, F, M, ρ, QD, R, h, o⟩ := h
  refine ⟨Z, F, M, ρ, _, R, h, fun vs ds F1 H1 M1 e1 R1 r1 h1 => ?_⟩
  refine ⟨Z, F1, M1, ρ, _, R.ext e1 R1, h1, fun zs es F2 H2 M2 e2 R2 r2 h2 => ?_⟩
  obtain ⟨l1, l2, h2⟩ := h2
  have k1 : vs.length = n := r1.length.trans l1
  have k2 : zs.length = m := r2.length.trans l2
  exact ⟨k1, k2, Z, F2, M2, _, QD, R2, hg k1 k2 (r1.mono e2) r2, h2, o.mono (e1.trans e2)⟩
theorem kbn_of {f : Addr} {fd : FuncData} {n : Nat} {ks : List Str} {g : {α : Type} → List α → List α → List α} (F : Fun X.K x x st f fd) (B : KwB x st ps n ks g) : KBn X.K fd ps n ks g g := by
  obtain ⟨oc, od, kV, doc, pm, an, cdv, ct, osl, rfl, lk, hcd⟩ := F.ex
  exact ⟨fun s us ws _ l1 l2 => .of_eq (B.to kV doc pm an cdv ct us ws l1 l2), fun r q => B.vals r q⟩
theorem de_callK0 {ks : List Str} {kws : List Keyword} (g : {α : Type} → List α → List α → List α) (F : FnD X.prog X.w X.K X.mg X.base k x st ps sp) (B : KwB x st ps 0 ks g) (hr : Room k2 X.A) (hkw : DK X kws dK) (hk : k ≤ k2 := by decide) (hg : Gl X x := by rfl)
    (hall : (backToKw pos (keywordEach kws X.env)).all (·.1.isSome) = true := by rfl) (hks : (backToKw pos (keywordEach kws X.env)).filterMap (·.1) = ks := by rfl) (hdb : (x == ("__debug__" : Str)) = false := by decide)
    (hpl : ((backTo pos (starEach [] X.env)).any (·.1) || (backToKw pos (keywordEach kws X.env)).any (·.1.isNone)) = false := by rfl) : DE X (.Call (.Name x p) [] kws pos) (dCallK 0 ks.length g sp dNil dK) := by
  obtain ⟨f, fd, F, hm, hb, ok⟩ := F.ex
  refine pe_w (pe_callN0 ok (hr.mono hk) hg hm F.kp (kbn_of F B) pass0 hkw hall hks hdb hpl) fun σ H Q h => ?_
  obtain ⟨Z, F, M, ρ, QD, R, h, o⟩ := h
  have h' : dK ρ M (fun es M2 => ([] : List Dat).length = 0 ∧ es.length = ks.length ∧ sp (g [] es) M2 QD) := h
  refine ⟨Z, F, M, ρ, _, R, h', fun zs es F2 H2 M2 e2 R2 r2 h2 => ?_⟩
  obtain ⟨l1, l2, h2⟩ := h2
  have k2 : zs.length = ks.length := r2.length.trans l2
  exact ⟨rfl, k2, Z, F2, M2, _, QD, R2, B.reps rfl k2 .nil r2, h2, o.mono e2⟩
theorem de_callK {n : Nat} {ks : List Str} {kws : List Keyword} (g : {α : Type} → List α → List α → List α) (F : FnD X.prog X.w X.K X.mg X.base k x st ps sp) (B : KwB x st ps n ks g) (hr : Room k2 X.A) (ha : DA X (e :: es) dA) (hkw : DK X kws dK) (hk : k ≤ k2 := by decide) (hg : Gl X x := by rfl)
    (hall : (backToKw pos (keywordEach kws X.env)).all (·.1.isSome) = true := by rfl) (hks : (backToKw pos (keywordEach kws X.env)).filterMap (·.1) = ks := by rfl) (hdb : (x == ("__debug__" : Str)) = false := by decide)
    (he : starEach (e :: es) X.env = (false, eval e X.env) :: starEach es X.env := by rfl)
    (hpl : ((backTo pos (starEach (e :: es) X.env)).any (·.1) || (backToKw pos (keywordEach kws X.env)).any (·.1.isNone)) = false := by rfl) : DE X (.Call (.Name x p) (e :: es) kws pos) (dCallK n ks.length g sp dA dK) := by
  obtain ⟨f, fd, F, hm, hb, ok⟩ := F.ex
  exact pe_w (pe_callN ok (hr.mono hk) hg hm F.kp (kbn_of F B) pass0 ha hkw hall hks hdb he hpl) fun σ H Q h => up_callK (fun l1 l2 r q => B.reps l1 l2 r q) h
/-- o.m(..) of an instance -/
def dMeth (C : Addr) (m : Str) (sp : SpD) (do_ : TED) (dA : TAD) : TED := fun ρ M Q => do_ ρ M fun x M1 => (∃ gs, fieldsOf M1 x = some (C, gs) ∧ (gs.map (·.1)).contains m = false) ∧ dA ρ M1 fun ds M2 => sp (x :: ds) M2 Q
theorem repF_none {K : PySem.W.Frag} {F : Hp} {m : Str} {fs : List (Str × V)} {gs : List (Str × Dat)} (r : RepF K F fs gs) (h : (gs.map (·.1)).contains m = false) : fs.lookup m = none := by
  induction fs generalizing gs with
  | nil => rfl
  | cons q fs ih =>
    cases r with
    | @cons g v vs d ds r1 r2 =>
      rw [List.map_cons, List.contains_cons, Bool.or_eq_false_iff] at h
      simp only [List.lookup, h.1]
      exact ih r2 h.2
theorem de_meth {pl : Sem Bool} (F : MtdD X.prog X.w X.K X.mg X.base k C m st ps sp) (cl : Cls X.K C) (hr : Room k2 X.A) (ho : DE X o do_) (ha : DA X (e :: es) dA) (hk : k ≤ k2 := by decide)
    (hst : starEach (e :: es) X.env = (false, eval e X.env) :: starEach es X.env := by rfl) (hpl : (backTo pos (starEach es X.env)).any (·.1) = false := by rfl)
    (ht : eval (.Call (.Attribute o m apos) (e :: es) [] pos) X.env = (do
      let ov ← eval o X.env
      standAt apos.atName
      let (f, first) ← holding [ov] (getMethod ov m pl)
      callWith pos f first (backTo pos (starEach (e :: es) X.env)) (backToKw pos (keywordEach [] X.env))) := by rfl) : DE X (.Call (.Attribute o m apos) (e :: es) [] pos) (dMeth C m sp do_ dA) := by
  obtain ⟨qual, f, fd, F, hm, hb, ok⟩ := F.ex
  refine pe_w (pe_meth ho cl hm ok (hr.mono hk) hb .nil pass0 ha hst hpl ht) fun σ H Q ⟨Z, F, M, ρ, QD, R, h, o⟩ => ?_
  refine ⟨Z, F, M, ρ, _, R, h, fun x a F1 H1 M1 e1 R1 r1 h1 => ?_⟩
  obtain ⟨⟨gs, q1, q2⟩, h1⟩ := h1
  obtain ⟨pp, dx, fs, rfl, q3, q4, q5⟩ := fieldsOf_rep R1 r1 q1
  refine ⟨pp, dx, fs, rfl, q3, repF_none q4 q2, Z, F1, M1, ρ, _, R.ext e1 R1, h1, fun vs ds F2 H2 M2 e2 R2 r2 h2 => ?_⟩
  show toSp X.K sp (V.ref pp :: (vs ++ [])) H2 Q E0
  rw [List.append_nil]
  exact ⟨Z, F2, M2, _, QD, R2, .cons (r1.mono e2) r2, h2, o.mono (e1.trans e2)⟩
theorem de_meth0 {pl : Sem Bool} (F : MtdD X.prog X.w X.K X.mg X.base k C m st ps sp) (cl : Cls X.K C) (hr : Room k2 X.A) (ho : DE X o do_) (hk : k ≤ k2 := by decide)
    (ht : eval (.Call (.Attribute o m apos) [] [] pos) X.env = (do
      let ov ← eval o X.env
      standAt apos.atName
      let (f, first) ← holding [ov] (getMethod ov m pl)
      callWith pos f first (backTo pos (starEach [] X.env)) (backToKw pos (keywordEach [] X.env))) := by rfl) : DE X (.Call (.Attribute o m apos) [] [] pos) (dMeth C m sp do_ dNil) := by
  obtain ⟨qual, f, fd, F, hm, hb, ok⟩ := F.ex
  refine pe_w (pe_meth0 ho cl hm ok (hr.mono hk) hb .nil pass0 ht) fun σ H Q ⟨Z, F, M, ρ, QD, R, h, o⟩ => ?_
  refine ⟨Z, F, M, ρ, _, R, h, fun x a F1 H1 M1 e1 R1 r1 h1 => ?_⟩
  obtain ⟨⟨gs, q1, q2⟩, h1⟩ := h1
  obtain ⟨pp, dx, fs, rfl, q3, q4, q5⟩ := fieldsOf_rep R1 r1 q1
  refine ⟨pp, dx, fs, rfl, q3, repF_none q4 q2, ?_⟩
  exact ⟨Z, F1, M1, _, QD, R1, .one r1, h1, o.mono e1⟩
/-- C(..): an instance that never changes behind its __init__; one that may -/
def dMake (mk : Bool) (C : Addr) (sp : SpD) (dA : TAD) : TED := fun ρ M Q => dA ρ M fun ds M1 => ∀ a, M1 a = none → sp (.ref a :: ds) (updM M1 a (.ins C [])) fun r M2 => r = .non ∧ (match mk with
  | true => Q (.ref a) M2
  | false => ∃ gs, M2 a = some (.ins C gs) ∧ Q (.ins C gs) (delM M2 a))
theorem upd2_sub {F H : Hp} {a dx C : Addr} {x : Addr} (s : Ext F H) (h1 : H a = none) (h2 : H dx = none) : Ext F (upd (upd H dx (.own x)) a (.ins C dx [])) := fun b u q => by
  rw [upd_ne (ne_of_none (s b u q) h1), upd_ne (ne_of_none (s b u q) h2)]
  exact s b u q
theorem relM_made {K : PySem.W.Frag} {Z F H : Hp} {M : MH} {a dx C : Addr} (R : RelM K Z F H M) (h1 : H a = none) (h2 : H dx = none) (hne : dx ≠ a) : RelM K Z F (upd (upd H dx (.own a)) a (.ins C dx [])) (updM M a (.ins C [])) := by
  have keep : ∀ b u, H b = some u → (upd (upd H dx (.own a)) a (.ins C dx [])) b = some u := fun b u q => by
    rw [upd_ne (ne_of_none q h1), upd_ne (ne_of_none q h2)]
    exact q
  refine ⟨upd2_sub R.sub h1 h2, fun b u q => ?_, fun b m q => ?_⟩
  · obtain ⟨q1, q2, q3⟩ := R.hid b u q
    exact ⟨keep b u q1, q2, by rw [updM_ne (ne_of_none q1 h1)]; exact q3⟩
  · by_cases hb : b = a
    · subst hb
      rw [updM_same] at q
      cases q
      exact ⟨(R.fresh h1).1, dx, [], upd_same, .nil, List.nodup_nil⟩
    · rw [updM_ne hb] at q
      obtain ⟨q1, q2⟩ := R.chg b m q
      obtain ⟨u, hu⟩ := q2.some
      exact ⟨q1, q2.mono (Ext.refl _) (by rw [keep b u hu, hu])⟩
theorem up_make {K : PySem.W.Frag} {mk : Bool} {σ : L2.St} {H : Hp} {Q : VK} (h : up K (dMake mk C sp dA) σ H Q) : tMake C (toSp K sp) [] E0 (upA K dA) σ H Q := by
  obtain ⟨Z, F, M, ρ, QD, R, h, o⟩ := h
  refine ⟨Z, F, M, ρ, _, R, h, fun vs ds F1 H1 M1 e1 R1 r1 h1 => ?_⟩
  intro a dx ha hdx hne
  rw [List.append_nil]
  refine ⟨Z, F1, _, _, _, relM_made R1 ha hdx hne, .cons (.ref a) r1, h1 a (R1.fresh ha).2, fun v d F2 H2 M2 e2 R2 r2 h2 => ?_⟩
  obtain ⟨q1, q2⟩ := h2
  subst q1
  refine ⟨r2.toNon, ?_⟩
  cases mk with
  | true => exact o _ _ F2 H2 M2 (e1.trans e2) R2 (.ref a) q2
  | false =>
    obtain ⟨gs, q3, q4⟩ := q2
    obtain ⟨dx2, fs, q5, q6, q7⟩ := (R2.chg a _ q3).2
    obtain ⟨R3, e3⟩ := R2.frz q3 q5
    exact o _ _ _ H2 _ ((e1.trans e2).trans e3) R3 (.ins upd_same (q6.mono e3) q7) q4
theorem de_make (mk : Bool) (F : ClD X.prog X.w X.K X.mg X.base k x C st ps sp) (hr : Room k2 X.A) (ha : DA X (e :: es) dA) (hk : k + 1 ≤ k2 := by decide) (hg : Gl X x := by rfl) (hdb : (x == ("__debug__" : Str)) = false := by decide)
    (he : starEach (e :: es) X.env = (false, eval e X.env) :: starEach es X.env := by rfl) (hpl : (backTo pos (starEach es X.env)).any (·.1) = false := by rfl) : DE X (.Call (.Name x p) (e :: es) [] pos) (dMake mk C sp dA) := by
  obtain ⟨qual, f, fd, F, hm, M, hb, ok⟩ := F.ex
  exact pe_w (pe_make M ok (hr.mono hk) hg hm hb .nil pass0 ha hdb he hpl) fun σ H Q h => up_make h
end
/-! ### loops -/
section
variable {X : Cx} {c e : Expr} {tc : TTD} {tb : TSD} {body : List Stmt} {pos : Pos} {g : TGD} {tg iter : Expr}
/-- the word W with its measure -/
def dWhile (c : TTD) (tb : TSD) : TSD := fun D ρ M => ∃ W : Nat → EnvD → MH → Prop, (∃ m, W m ρ M) ∧ ∀ m ρ M, W m ρ M →
  c ρ M fun b M1 => if b = true then tb { D with nx := fun ρ' M' => ∃ m', m' < m ∧ W m' ρ' M', ct := fun ρ' M' => ∃ m', m' < m ∧ W m' ρ' M', bk := D.nx } ρ M1 else D.nx ρ M1
theorem ds_while (hc : DT X c tc) (hb : DSs X body tb) (hp : PassesOwn (model X.prog X.w) X.A X.env X.xe := by exact PassesOwn.never) : DS X (.While c body [] pos) (dWhile tc tb) := ps_w (ps_while hp hc hb) fun D σ H ⟨Z, F, M, ρ, DD, R, ⟨W, ⟨m0, w0⟩, turn⟩, o⟩ => by
  refine ⟨fun m σ H => ∃ F' M ρ, Ext F F' ∧ Rel X.K Z F' H M σ ρ ∧ W m ρ M, ⟨m0, F, M, ρ, Ext.refl F, R, w0⟩, ?_⟩
  rintro m σ1 H1 ⟨F1, M1, ρ1, e1, R1, w1⟩
  refine ⟨Z, F1, M1, ρ1, _, R1, turn m ρ1 M1 w1, fun b F2 H2 M2 e2 R2 h2 => ?_⟩
  cases b with
  | true =>
    rw [if_pos rfl] at h2 ⊢
    refine ⟨_, fun _ _ n => n, Z, F2, M2, ρ1, _, R1.ext e2 R2, h2, ⟨?_, o.rt.mono (e1.trans e2), o.nx.mono (e1.trans e2), ?_⟩⟩
    · rintro σ3 ρ3 F3 H3 M3 e3 R3 ⟨m', l, w3⟩
      exact ⟨m', l, F3, M3, ρ3, (e1.trans e2).trans e3, R3, w3⟩
    · rintro σ3 ρ3 F3 H3 M3 e3 R3 ⟨m', l, w3⟩
      exact ⟨m', l, F3, M3, ρ3, (e1.trans e2).trans e3, R3, w3⟩
  | false =>
    rw [if_neg Bool.false_ne_true] at h2 ⊢
    exact o.nx _ _ F2 H2 M2 (e1.trans e2) (R1.ext e2 R2) h2
/-- what an iterator gives -/
structure WalkD (K : PySem.W.Frag) (F : Hp) (J : It) (ds : List Dat) : Prop where
  go : ∀ Z i F' H M, Ext F F' → RelM K Z F' H M → i < ds.length → J.go i H
  stop : ∀ Z F' H M, Ext F F' → RelM K Z F' H M → J.stop ds.length H
  yld : ∀ Z i F' H M x H' d, Ext F F' → RelM K Z F' H M → J.yld i H x H' → ds[i]? = some d → ∃ F'', Ext F' F'' ∧ RelM K Z F'' H' M ∧ Rep K F'' x d
abbrev TID := EnvD → MH → (List Dat → MH → Prop) → Prop
def upI (K : PySem.W.Frag) (d : TID) : TI := fun σ H R => ∃ Z F M ρ RD, Rel K Z F H M σ ρ ∧ d ρ M RD ∧ (∀ ds J F' H' M', Ext F F' → RelM K Z F' H' M' → WalkD K F' J ds → RD ds M' → R J H')
abbrev DI (X : Cx) (tg e : Expr) (d : TID) : Prop := PI X tg e (upI X.K d)
theorem pi_w {wi wu : TI} (h : PI X tg e wi) (w : ∀ σ H R, wu σ H R → wi σ H R) : PI X tg e wu := ⟨fun pins s σ H R I q => h.run pins s σ H R I (w σ H R q)⟩
def dLoop (g : TGD) (tb : TSD) : List Dat → TSD
  | [] => fun D ρ M => D.nx ρ M
  | x :: r => fun D ρ M => g x ρ M fun ρ' M' => tb { D with nx := dLoop g tb r D, ct := dLoop g tb r D, bk := D.nx } ρ' M'
def dFor (di : TID) (g : TGD) (tb : TSD) : TSD := fun D ρ M => di ρ M fun ds M1 => dLoop g tb ds D ρ M1
theorem ds_for {di : TID} (hi : DI X tg iter di) (hg : DG X tg g) (hb : DSs X body tb) (hc : X.calm = true := by rfl) (hp : PassesOwn (model X.prog X.w) X.A X.env X.xe := by exact PassesOwn.never)
    (hs : ∀ x, foldedSetIterable iter X.env x = pure x := by intro _; rfl) : DS X (.For tg iter body [] pos) (dFor di g tb) := ps_w (ps_for hp hc hi hg hb hs) fun D σ H ⟨Z, F, M, ρ, DD, R, h, o⟩ => by
  refine ⟨Z, F, M, ρ, _, R, h, fun ds J F1 H1 M1 e1 R1 w1 h1 => ?_⟩
  refine ⟨fun i m σ H => m = ds.length - i ∧ i ≤ ds.length ∧ ∃ F' M ρ, Ext F1 F' ∧ Rel X.K Z F' H M σ ρ ∧ dLoop g tb (ds.drop i) DD ρ M, ⟨ds.length, by simp, Nat.zero_le _, F1, M1, ρ, Ext.refl _, R.ext e1 R1, h1⟩, ?_⟩
  rintro i m σ2 H2 ⟨rfl, hi, F2, M2, ρ2, e2, R2, h2⟩
  by_cases hlt : i < ds.length
  · obtain ⟨d, hd⟩ : ∃ d, ds[i]? = some d := ⟨ds[i], List.getElem?_eq_getElem hlt⟩
    have hdr : ds.drop i = d :: ds.drop (i + 1) := by
      obtain ⟨h5, h6⟩ := List.getElem?_eq_some_iff.mp hd
      rw [List.drop_eq_getElem_cons h5, h6]
    rw [hdr] at h2
    unfold dLoop at h2
    refine .inr ⟨w1.go Z i F2 H2 M2 e2 R2.m hlt, fun σ' H' => ∃ F' M ρ, Ext F1 F' ∧ Rel X.K Z F' H' M σ' ρ ∧ dLoop g tb (ds.drop (i + 1)) DD ρ M, fun σ' H' n => ⟨ds.length - (i + 1), by omega, rfl, hlt, n⟩, fun x H' y => ?_⟩
    obtain ⟨F3, e3, R3, r3⟩ := w1.yld Z i F2 H2 M2 x H' d e2 R2.m y hd
    refine ⟨Z, F3, M2, ρ2, d, _, R2.ext e3 R3, r3, h2, fun σ4 ρ4 F4 H4 M4 e4 R4 h4 => ?_⟩
    have e14 := (e2.trans e3).trans e4
    refine ⟨Z, F4, M4, ρ4, _, R4, h4, ⟨?_, o.rt.mono (e1.trans e14), o.nx.mono (e1.trans e14), ?_⟩⟩
    · intro σ5 ρ5 F5 H5 M5 e5 R5 h5
      exact ⟨F5, M5, ρ5, e14.trans e5, R5, h5⟩
    · intro σ5 ρ5 F5 H5 M5 e5 R5 h5
      exact ⟨F5, M5, ρ5, e14.trans e5, R5, h5⟩
  · have e : i = ds.length := by omega
    subst e
    rw [List.drop_length] at h2
    exact .inl ⟨w1.stop Z F2 H2 M2 e2 R2.m, o.nx _ _ F2 H2 M2 (e1.trans e2) R2 h2⟩
/-- a list that never changes -/
def lsF : Dat → Option (List Dat)
  | .lst ds => some ds
  | .frl ds => some ds
  | _ => none
theorem lsF_rep {K : PySem.W.Frag} {F : Hp} {x : V} {a : Dat} {ds : List Dat} (r : Rep K F x a) (h : lsF a = some ds) : ∃ p xs, x = .ref p ∧ SqL K F p xs ∧ Reps K F xs ds := by
  unfold lsF at h
  split at h
  · cases h
    cases r with
    | lst q r => exact ⟨_, _, rfl, SqL.of q, r⟩
  · cases h
    cases r with
    | frl q r => exact ⟨_, _, rfl, q, r⟩
  · cases h
theorem walk_lst {K : PySem.W.Frag} {F : Hp} {p : Addr} {xs : List V} {ds : List Dat} (q : SqL K F p xs) (r : Reps K F xs ds) : WalkD K F (Itl K p) ds := by
  refine ⟨fun Z i F' H M e R h => ?_, fun Z F' H M e R => ⟨xs, ext_l (e.trans R.sub) q, by rw [r.length]; exact Nat.le_refl _⟩, fun Z i F' H M x H' d e R y hd => ?_⟩
  · obtain ⟨v, hv, _⟩ := r.get (List.getElem?_eq_getElem h)
    exact ⟨xs, v, ext_l (e.trans R.sub) q, hv⟩
  · obtain ⟨rfl, y⟩ := y
    obtain ⟨v, hv, rv⟩ := r.get hd
    have e2 := (y xs (ext_l (e.trans R.sub) q)).symm.trans hv
    cases e2
    exact ⟨F', Ext.refl _, R, rv.mono e⟩
def dIL (de : TED) : TID := fun ρ M R => de ρ M fun x M1 => ∃ ds, lsF x = some ds ∧ R ds M1
theorem di_lst {de : TED} (he : DE X e de) : DI X tg e (dIL de) := pi_w (pi_list he) fun σ H R ⟨Z, F, M, ρ, RD, R0, h, o⟩ => by
  refine ⟨Z, F, M, ρ, _, R0, h, fun x a F1 H1 M1 e1 R1 r1 h1 => ?_⟩
  obtain ⟨ds, h2, h3⟩ := h1
  obtain ⟨p, xs, rfl, q, r⟩ := lsF_rep r1 h2
  exact ⟨p, rfl, ⟨xs, ext_l R1.sub q⟩, o ds _ F1 H1 M1 e1 R1 (walk_lst q r) h3⟩
def dIT (de : TED) : TID := fun ρ M R => de ρ M fun x M1 => match x with
  | .tup ds => R ds M1
  | _ => False
theorem walk_tupD {K : PySem.W.Frag} {F : Hp} {p : Addr} {xs : List V} {ds : List Dat} (q : SqT K F p xs) (r : Reps K F xs ds) : WalkD K F (Itt K p) ds := by
  refine ⟨fun Z i F' H M e R h => ?_, fun Z F' H M e R => ⟨xs, ext_t (e.trans R.sub) q, by rw [r.length]; exact Nat.le_refl _⟩, fun Z i F' H M x H' d e R y hd => ?_⟩
  · obtain ⟨v, hv, _⟩ := r.get (List.getElem?_eq_getElem h)
    exact ⟨xs, v, ext_t (e.trans R.sub) q, hv⟩
  · obtain ⟨rfl, y⟩ := y
    obtain ⟨v, hv, rv⟩ := r.get hd
    have e2 := (y xs (ext_t (e.trans R.sub) q)).symm.trans hv
    cases e2
    exact ⟨F', Ext.refl _, R, rv.mono e⟩
theorem di_tup {de : TED} (he : DE X e de) : DI X tg e (dIT de) := pi_w (pi_tup he) fun σ H R ⟨Z, F, M, ρ, RD, R0, h, o⟩ => by
  refine ⟨Z, F, M, ρ, _, R0, h, fun x a F1 H1 M1 e1 R1 r1 h1 => ?_⟩
  split at h1
  · cases r1 with
    | tup q r => exact ⟨_, rfl, ⟨_, ext_t R1.sub q⟩, o _ _ F1 H1 M1 e1 R1 (walk_tupD q r) h1⟩
  · exact h1.elim
/-- lo, lo + 1, .. -/
def rngD (lo : Int) (n : Nat) : List Dat := (List.range n).map fun k => Dat.int (lo + (k : Nat))
theorem rngD_at {lo : Int} {n i : Nat} {d : Dat} (h : (rngD lo n)[i]? = some d) : i < n ∧ d = .int (lo + (i : Nat)) := by
  unfold rngD at h
  rw [List.getElem?_map] at h
  cases q : (List.range n)[i]? with
  | none =>
    rw [q] at h
    cases h
  | some k =>
    rw [q] at h
    have h1 := List.getElem?_eq_some_iff.mp q
    obtain ⟨h2, h3⟩ := h1
    rw [List.length_range] at h2
    rw [List.getElem_range] at h3
    subst h3
    exact ⟨h2, (Option.some.inj h).symm⟩
theorem walk_rng {K : PySem.W.Frag} {F : Hp} {lo : Int} {n : Nat} : WalkD K F (Itr lo n) (rngD lo n) := by
  have hl : (rngD lo n).length = n := by
    unfold rngD
    rw [List.length_map, List.length_range]
  refine ⟨fun Z i F' H M e R h => by rw [hl] at h; exact h, fun Z F' H M e R => by rw [hl]; exact Nat.le_refl _, fun Z i F' H M x H' d e R y hd => ?_⟩
  obtain ⟨rfl, rfl⟩ := y
  obtain ⟨_, rfl⟩ := rngD_at hd
  exact ⟨F', Ext.refl _, R, .int _⟩
def dIR1 (dA : TAD) : TID := fun ρ M R => dA ρ M fun xs M1 => match xs with
  | [.int j] => -(2 ^ 62) ≤ j ∧ j < 2 ^ 62 ∧ R (rngD 0 j.toNat) M1
  | _ => False
def dIR2 (dA : TAD) : TID := fun ρ M R => dA ρ M fun xs M1 => match xs with
  | [.int i, .int j] => (-(2 ^ 62) ≤ i ∧ i < 2 ^ 62 ∧ -(2 ^ 62) ≤ j ∧ j < 2 ^ 62) ∧ R (rngD i (j - i).toNat) M1
  | _ => False
variable {a b : Expr} {dA : TAD} {p : Pos}
theorem di_rng1 (hm : X.mg "range" = none) (ha : DA X [a] dA) (hg : Gl X "range" := by rfl) (hs : starEach [a] X.env = [(false, eval a X.env)] := by rfl) : DI X tg (.Call (.Name "range" p) [a] [] pos) (dIR1 dA) := pi_w (pi_range1 hg hm ha hs) fun σ H R ⟨Z, F, M, ρ, RD, R0, h, o⟩ => by
  refine ⟨Z, F, M, ρ, _, R0, h, fun xs as F1 H1 M1 e1 R1 r1 h1 => ?_⟩
  split at h1
  · obtain ⟨v, ws, rfl, q1, r1⟩ := r1.uncons
    cases r1.unnil
    cases q1
    exact ⟨_, rfl, h1.1, h1.2.1, o _ _ F1 H1 M1 e1 R1 walk_rng h1.2.2⟩
  · exact h1.elim
theorem di_rng2 (hm : X.mg "range" = none) (ha : DA X [a, b] dA) (hg : Gl X "range" := by rfl) (hs : starEach [a, b] X.env = [(false, eval a X.env), (false, eval b X.env)] := by rfl) (hs2 : starEach [b] X.env = [(false, eval b X.env)] := by rfl) : DI X tg (.Call (.Name "range" p) [a, b] [] pos) (dIR2 dA) := pi_w (pi_range2 hg hm ha hs hs2) fun σ H R ⟨Z, F, M, ρ, RD, R0, h, o⟩ => by
  refine ⟨Z, F, M, ρ, _, R0, h, fun xs as F1 H1 M1 e1 R1 r1 h1 => ?_⟩
  split at h1
  · obtain ⟨v, ws, rfl, q1, r1⟩ := r1.uncons
    obtain ⟨v2, ws, rfl, q2, r1⟩ := r1.uncons
    cases r1.unnil
    cases q1
    cases q2
    exact ⟨_, _, rfl, h1.1, o _ _ F1 H1 M1 e1 R1 walk_rng h1.2⟩
  · exact h1.elim
/-- enumerate(xs), zip(xs, ys) -/
def enumD (ds : List Dat) : List Dat := (List.range ds.length).map fun k => .tup [.int (k : Nat), ds.getD k .non]
def zipD (ds es : List Dat) : List Dat := (ds.zip es).map fun q => .tup [q.1, q.2]
theorem enumD_at {ds : List Dat} {i : Nat} {d : Dat} (h : (enumD ds)[i]? = some d) : ∃ x, ds[i]? = some x ∧ d = .tup [.int (i : Nat), x] := by
  unfold enumD at h
  rw [List.getElem?_map] at h
  cases q : (List.range ds.length)[i]? with
  | none =>
    rw [q] at h
    cases h
  | some k =>
    rw [q] at h
    obtain ⟨h2, h3⟩ := List.getElem?_eq_some_iff.mp q
    rw [List.length_range] at h2
    rw [List.getElem_range] at h3
    subst h3
    refine ⟨ds[i], List.getElem?_eq_getElem h2, ?_⟩
    have e := (Option.some.inj h).symm
    rw [e]
    show Dat.tup [.int (i : Nat), ds.getD i .non] = _
    rw [List.getD_eq_getElem?_getD, List.getElem?_eq_getElem h2]
    rfl
theorem walk_enumD {K : PySem.W.Frag} {F : Hp} {p : Addr} {xs : List V} {ds : List Dat} (q : SqL K F p xs) (r : Reps K F xs ds) : WalkD K F (Ite K p) (enumD ds) := by
  have hl : (enumD ds).length = ds.length := by
    unfold enumD
    rw [List.length_map, List.length_range]
  refine ⟨fun Z i F' H M e R h => ?_, fun Z F' H M e R => ⟨xs, ext_l (e.trans R.sub) q, by rw [r.length, hl]; exact Nat.le_refl _⟩, fun Z i F' H M x H' d e R y hd => ?_⟩
  · rw [hl] at h
    obtain ⟨v, hv, _⟩ := r.get (List.getElem?_eq_getElem h)
    exact ⟨xs, v, ext_l (e.trans R.sub) q, hv⟩
  · obtain ⟨T, z, rfl, nT, rfl, y⟩ := y
    obtain ⟨d2, hd2, rfl⟩ := enumD_at hd
    obtain ⟨v, hv, rv⟩ := r.get hd2
    have e2 := (y xs (ext_l (e.trans R.sub) q)).symm.trans hv
    cases e2
    obtain ⟨R4, e4⟩ := R.newF (o := .tup _) nT
    exact ⟨_, e4, R4, .tup (SqT.of upd_same) (.two (.int _) (rv.mono (e.trans e4)))⟩
theorem zipD_at {ds es : List Dat} {i : Nat} {d : Dat} (h : (zipD ds es)[i]? = some d) : ∃ x y, ds[i]? = some x ∧ es[i]? = some y ∧ d = .tup [x, y] := by
  unfold zipD at h
  rw [List.getElem?_map] at h
  cases q : (ds.zip es)[i]? with
  | none =>
    rw [q] at h
    cases h
  | some k =>
    rw [q] at h
    obtain ⟨h1, h2⟩ := List.getElem?_zip_eq_some.mp q
    exact ⟨k.1, k.2, h1, h2, (Option.some.inj h).symm⟩
theorem walk_zipD {K : PySem.W.Frag} {F : Hp} {p p2 : Addr} {xs ys : List V} {ds es : List Dat} (q : SqL K F p xs) (r : Reps K F xs ds) (q2 : SqL K F p2 ys) (r2 : Reps K F ys es) : WalkD K F (Itz K p p2) (zipD ds es) := by
  have hl : (zipD ds es).length = min ds.length es.length := by
    unfold zipD
    rw [List.length_map, List.length_zip]
  refine ⟨fun Z i F' H M e R h => ?_, fun Z F' H M e R => ⟨xs, ys, ext_l (e.trans R.sub) q, ext_l (e.trans R.sub) q2, ?_⟩, fun Z i F' H M x H' d e R y hd => ?_⟩
  · rw [hl] at h
    obtain ⟨v, hv, _⟩ := r.get (List.getElem?_eq_getElem (show i < ds.length by omega))
    obtain ⟨v2, hv2, _⟩ := r2.get (List.getElem?_eq_getElem (show i < es.length by omega))
    exact ⟨xs, ys, v, v2, ext_l (e.trans R.sub) q, ext_l (e.trans R.sub) q2, hv, hv2⟩
  · rw [r.length, r2.length, hl]
    omega
  · obtain ⟨T, z, z2, rfl, nT, rfl, y, y2⟩ := y
    obtain ⟨d1, d2, hd1, hd2, rfl⟩ := zipD_at hd
    obtain ⟨v, hv, rv⟩ := r.get hd1
    obtain ⟨v2, hv2, rv2⟩ := r2.get hd2
    have e2 := (y xs (ext_l (e.trans R.sub) q)).symm.trans hv
    cases e2
    have e3 := (y2 ys (ext_l (e.trans R.sub) q2)).symm.trans hv2
    cases e3
    obtain ⟨R4, e4⟩ := R.newF (o := .tup _) nT
    exact ⟨_, e4, R4, .tup (SqT.of upd_same) (.two (rv.mono (e.trans e4)) (rv2.mono (e.trans e4)))⟩
def dIE (dA : TAD) : TID := fun ρ M R => dA ρ M fun xs M1 => match xs with
  | [x] => ∃ ds, lsF x = some ds ∧ R (enumD ds) M1
  | _ => False
def dIZ (dA : TAD) : TID := fun ρ M R => dA ρ M fun xs M1 => match xs with
  | [x, y] => ∃ ds es, lsF x = some ds ∧ lsF y = some es ∧ R (zipD ds es) M1
  | _ => False
variable {elts : List Expr} {kk : Nat} {tpos : Pos}
theorem di_enum (hm : X.mg "enumerate" = none) (ha : DA X [a] dA) (hg : Gl X "enumerate" := by rfl) (hs : starEach [a] X.env = [(false, eval a X.env)] := by rfl) : DI X (.Tuple elts kk tpos) (.Call (.Name "enumerate" p) [a] [] pos) (dIE dA) := pi_w (pi_enum hg hm ha hs) fun σ H R ⟨Z, F, M, ρ, RD, R0, h, o⟩ => by
  refine ⟨Z, F, M, ρ, _, R0, h, fun xs as F1 H1 M1 e1 R1 r1 h1 => ?_⟩
  split at h1
  · obtain ⟨v, ws, rfl, q1, r1⟩ := r1.uncons
    cases r1.unnil
    obtain ⟨ds, h2, h3⟩ := h1
    obtain ⟨p, xs, rfl, q, r⟩ := lsF_rep q1 h2
    exact ⟨p, xs, rfl, ext_l R1.sub q, o _ _ F1 H1 M1 e1 R1 (walk_enumD q r) h3⟩
  · exact h1.elim
theorem di_zip (hm : X.mg "zip" = none) (ha : DA X [a, b] dA) (hg : Gl X "zip" := by rfl) (hs : starEach [a, b] X.env = (false, eval a X.env) :: starEach [b] X.env := by rfl) (hpl : (backTo pos (starEach [b] X.env)).any (·.1) = false := by rfl) : DI X (.Tuple elts kk tpos) (.Call (.Name "zip" p) [a, b] [] pos) (dIZ dA) := pi_w (pi_zip hg hm ha hs hpl) fun σ H R ⟨Z, F, M, ρ, RD, R0, h, o⟩ => by
  refine ⟨Z, F, M, ρ, _, R0, h, fun xs as F1 H1 M1 e1 R1 r1 h1 => ?_⟩
  split at h1
  · obtain ⟨v, ws, rfl, q1, r1⟩ := r1.uncons
    obtain ⟨v2, ws, rfl, q2, r1⟩ := r1.uncons
    cases r1.unnil
    obtain ⟨ds, es, h2, h4, h3⟩ := h1
    obtain ⟨p, xs, rfl, q, r⟩ := lsF_rep q1 h2
    obtain ⟨p2, ys, rfl, q3, r3⟩ := lsF_rep q2 h4
    exact ⟨p, p2, xs, ys, rfl, ext_l R1.sub q, ext_l R1.sub q3, o _ _ F1 H1 M1 e1 R1 (walk_zipD q r q3 r3) h3⟩
  · exact h1.elim
end
/-! ### comprehensions -/
section
variable {X : Cx}
def wipeD (ρ : EnvD) : List Nat → EnvD
  | [] => ρ
  | v :: vs => setD (wipeD ρ vs) v none
theorem wipeD_rep {K : PySem.W.Frag} {F : Hp} {σ : L2.St} {ρ : EnvD} (r : RelE K F σ ρ) : ∀ vs, RelE K F (wipe σ vs) (wipeD ρ vs)
  | [] => r
  | v :: vs => by
    unfold wipe wipeD
    rw [setD_set]
    exact (wipeD_rep r vs).unset v
abbrev DTs (X : Cx) (ifs : List Expr) (d : TTD) : Prop := PTs X ifs (upT X.K d)
theorem pts_w {ifs : List Expr} {t u : TT} (h : PTs X ifs t) (w : ∀ σ H Q, u σ H Q → t σ H Q) : PTs X ifs u := ⟨fun pins s σ H Q I q => h.run pins s σ H Q I (w σ H Q q)⟩
def dYes : TTD := fun _ M Q => Q true M
theorem dts_nil : DTs X [] dYes := pts_w pts_nil fun σ H Q ⟨Z, F, M, ρ, QD, R, h, o⟩ => o true F H M (Ext.refl F) R.m h
theorem dts_one {c : Expr} {t : TTD} (h : DT X c t) : DTs X [c] t := pts_one h
def lcGo (g : TGD) (tt : TTD) (te : TED) (ρ : EnvD) (mk : Bool) (Q : VKD) : List Dat → List Dat → MH → Prop
  | [], acc, M => newL mk acc M Q
  | x :: r, acc, M => g x ρ M fun ρ2 M2 => tt ρ2 M2 fun b M3 => if b = true then te ρ2 M3 fun y M4 => lcGo g tt te ρ mk Q r (acc ++ [y]) M4 else lcGo g tt te ρ mk Q r acc M3
def dLc (mk : Bool) (vs : List Nat) (di : TID) (g : TGD) (tt : TTD) (te : TED) : TED := fun ρ M Q => di ρ M fun ds M1 => ds.length ≤ sizeLine ∧ lcGo g tt te (wipeD ρ vs) mk Q ds [] M1
theorem up_lc {K : PySem.W.Frag} {mk : Bool} {vs : List Nat} {di : TID} {g : TGD} {tt : TTD} {te : TED} {σ : L2.St} {H : Hp} {Q : VK} (h : up K (dLc mk vs di g tt te) σ H Q) : tLc (upI K di) (upGo K vs g) (upT K tt) (up K te) vs σ H Q := by
  obtain ⟨Z, F, M, ρ, QD, R, h, o⟩ := h
  refine ⟨Z, F, M, ρ, _, R, h, fun ds J F1 H1 M1 e1 R1 w1 h1 => ?_⟩
  obtain ⟨hz, h1⟩ := h1
  intro D hD
  have hidD : ∀ {F : Hp} {H : Hp} {M : MH} {accv : List V}, RelM K (upd Z D (.lst accv)) F H M → H D = some (.lst accv) ∧ F D = none ∧ M D = none := fun R => R.hid D _ upd_same
  -- the hidden list, put away and taken up
  have hide : ∀ {F H : Hp} {M : MH} {accv : List V}, RelM K Z F H M → H D = some (.lst accv) → F D = none → M D = none → RelM K (upd Z D (.lst accv)) F H M := fun {F H M accv} R hH hF hM =>
    ⟨R.sub, fun b u q => by
      by_cases hb : b = D
      · subst hb
        rw [upd_same] at q
        cases q
        exact ⟨hH, hF, hM⟩
      · rw [upd_ne hb] at q
        exact R.hid b u q, R.chg⟩
  have hZD : Z D = none := by
    cases q : Z D with
    | none => rfl
    | some u =>
      rw [(R1.hid D u q).1] at hD
      cases hD
  have bare : ∀ {F H : Hp} {M : MH} {accv : List V}, RelM K (upd Z D (.lst accv)) F H M → RelM K Z F H M := fun {F H M accv} R =>
    ⟨R.sub, fun b u q => R.hid b u (by rw [upd_ne (ne_of_none q hZD)]; exact q), R.chg⟩
  refine ⟨fun i m H => m = ds.length - i ∧ i ≤ ds.length ∧ ∃ F' M accv acc, Ext F1 F' ∧ RelM K Z F' H M ∧ H D = some (.lst accv) ∧ F' D = none ∧ M D = none ∧ Reps K F' accv acc ∧ acc.length ≤ i ∧ lcGo g tt te (wipeD ρ vs) mk QD (ds.drop i) acc M,
    ⟨ds.length, by simp, Nat.zero_le _, F1, M1, [], [], Ext.refl _, ⟨fun b u q => ?_, fun b u q => ?_, fun b m q => ?_⟩, upd_same, (R1.fresh hD).1, (R1.fresh hD).2, .nil, Nat.le_refl _, h1⟩, ?_⟩
  · rw [upd_ne (ne_of_none (R1.sub b u q) hD)]
    exact R1.sub b u q
  · obtain ⟨q1, q2, q3⟩ := R1.hid b u q
    exact ⟨by rw [upd_ne (ne_of_none q1 hD)]; exact q1, q2, q3⟩
  · obtain ⟨q1, q2⟩ := R1.chg b m q
    exact ⟨q1, q2.mono (Ext.refl _) (upd_ne (R1.ne hD q))⟩
  rintro i m H2 ⟨rfl, hi, F2, M2, accv, acc, e2, R2, a1, a2, a3, a4, a5, h2⟩
  by_cases hlt : i < ds.length
  · obtain ⟨d, hd⟩ : ∃ d, ds[i]? = some d := ⟨ds[i], List.getElem?_eq_getElem hlt⟩
    have hdr : ds.drop i = d :: ds.drop (i + 1) := by
      obtain ⟨h5, h6⟩ := List.getElem?_eq_some_iff.mp hd
      rw [List.drop_eq_getElem_cons h5, h6]
    rw [hdr] at h2
    unfold lcGo at h2
    refine .inr ⟨w1.go Z i F2 H2 M2 e2 R2 hlt, fun H' => ∃ F' M accv acc, Ext F1 F' ∧ RelM K Z F' H' M ∧ H' D = some (.lst accv) ∧ F' D = none ∧ M D = none ∧ Reps K F' accv acc ∧ acc.length ≤ i + 1 ∧ lcGo g tt te (wipeD ρ vs) mk QD (ds.drop (i + 1)) acc M,
      fun H' n => ⟨ds.length - (i + 1), by omega, rfl, hlt, n⟩, fun x H' y => ?_⟩
    have R2h := hide R2 a1 a2 a3
    · obtain ⟨F3, e3, R3, r3⟩ := w1.yld (upd Z D (.lst accv)) i F2 H2 M2 x H' d e2 R2h y hd
      have R0 : Rel K (upd Z D (.lst accv)) F3 H' M2 (wipe σ vs) (wipeD ρ vs) := ⟨R3, (wipeD_rep R.e vs).mono ((e1.trans e2).trans e3)⟩
      refine ⟨upd Z D (.lst accv), F3, M2, wipeD ρ vs, d, _, R0, r3, h2, fun σ4 ρ4 F4 H4 M4 e4 R4 wp h4 => ⟨wp.trans wipe_wipe, ?_⟩⟩
      refine ⟨upd Z D (.lst accv), F4, M4, ρ4, _, R4, h4, fun b F5 H5 M5 e5 R5 h5 => ?_⟩
      have e15 := ((e2.trans e3).trans e4).trans e5
      cases b with
      | true =>
        dsimp only at h5 ⊢
        rw [if_pos rfl] at h5 ⊢
        refine ⟨upd Z D (.lst accv), F5, M5, ρ4, _, R4.ext e5 R5, h5, fun yv yd F6 H6 M6 e6 R6 r6 h6 => ?_⟩
        obtain ⟨b1, b2, b3⟩ := hidD R6
        refine ⟨accv, b1, by have := a4.length; omega, F6, M6, accv ++ [yv], acc ++ [yd], e15.trans e6, ⟨fun b u q => ?_, fun b u q => ?_, fun b m q => ?_⟩, upd_same, b2, b3, (a4.mono (((e3.trans e4).trans e5).trans e6)).app (.one r6), by rw [List.length_append, List.length_singleton]; omega, h6⟩
        · rw [upd_ne (ne_of_none q b2)]
          exact R6.sub b u q
        · obtain ⟨q1, q2, q3⟩ := (bare R6).hid b u q
          exact ⟨by rw [upd_ne (ne_of_none q hZD)]; exact q1, q2, q3⟩
        · obtain ⟨q1, q2⟩ := R6.chg b m q
          exact ⟨q1, q2.mono (Ext.refl _) (upd_ne (ne_dom q b3))⟩
      | false =>
        dsimp only at h5 ⊢
        rw [if_neg Bool.false_ne_true] at h5 ⊢
        obtain ⟨b1, b2, b3⟩ := hidD R5
        exact ⟨F5, M5, accv, acc, e15, bare R5, b1, b2, b3, a4.mono ((e3.trans e4).trans e5), by omega, h5⟩
  · have e : i = ds.length := by omega
    subst e
    rw [List.drop_length] at h2
    unfold lcGo at h2
    refine .inl ⟨w1.stop Z F2 H2 M2 e2 R2, ?_⟩
    cases mk with
    | false =>
      have h2' : QD (.lst acc) M2 := h2
      have ee := Ext.new (o := .lst accv) a2
      refine o _ _ (upd F2 D (.lst accv)) H2 M2 ((e1.trans e2).trans ee) ⟨fun b u q => ?_, fun b u q => ?_, fun b m q => ?_⟩ (.lst upd_same (a4.mono ee)) h2'
      · by_cases hb : b = D
        · subst hb
          rw [upd_same] at q
          cases q
          exact a1
        · rw [upd_ne hb] at q
          exact R2.sub b u q
      · obtain ⟨q1, q2, q3⟩ := R2.hid b u q
        exact ⟨q1, by rw [upd_ne (ne_of_none q hZD)]; exact q2, q3⟩
      · obtain ⟨q1, q2⟩ := R2.chg b m q
        exact ⟨by rw [upd_ne (ne_dom q a3)]; exact q1, q2.mono ee rfl⟩
    | true =>
      have h2' := (show ∀ a, M2 a = none → QD (.ref a) (updM M2 a (.lst acc)) from h2) D a3
      refine o _ _ F2 H2 (updM M2 D (.lst acc)) (e1.trans e2) ⟨R2.sub, fun b u q => ?_, fun b m q => ?_⟩ (.ref D) h2'
      · obtain ⟨q1, q2, q3⟩ := R2.hid b u q
        exact ⟨q1, q2, by rw [updM_ne (ne_of_none q hZD)]; exact q3⟩
      · by_cases hb : b = D
        · subst hb
          rw [updM_same] at q
          cases q
          exact ⟨a2, accv, a1, a4⟩
        · rw [updM_ne hb] at q
          exact R2.chg b m q
end
end DL
namespace DL
open PySem PySem.Spec PyProof.Rows L2
section
variable {X : Cx}
/-- [elt for target in iter if ..] -/
theorem de_lc (mk : Bool) {elt tg iter : Expr} {ifs : List Expr} {scope : Scope} {own : List (Str × Nat)} {pos : Pos} {di : TID} {g : TGD} {tt : TTD} {te : TED} (hN : X.N.Nodup) (hi : DI X tg iter di) (ok : BlkOk X.N X.env.scope scope own)
    (hg : ∀ (s : Shared) (H : Hp) (C : Addr) (cl : List (Str × Addr)) (fp : List Addr), DGo (X.blk s H scope (compEnvC scope cl C X.env) fp) tg (own.map (·.2)) g) (ht : ∀ (s : Shared) (H : Hp) (C : Addr) (cl : List (Str × Addr)) (fp : List Addr), DTs (X.blk s H scope (compEnvC scope cl C X.env) fp) ifs tt)
    (he : ∀ (s : Shared) (H : Hp) (C : Addr) (cl : List (Str × Addr)) (fp : List Addr), DE (X.blk s H scope (compEnvC scope cl C X.env) fp) elt te) (hc : X.calm = true := by rfl) (hs : ∀ x, foldedSetIterable iter X.env x = pure x := by intro _; rfl) :
    DE X (.ListComp elt [⟨tg, iter, ifs, 0⟩] scope pos) (dLc mk (own.map (·.2)) di g tt te) := pe_w (pe_lc hc hN hi ok hg ht he hs) fun σ H Q h => up_lc h
theorem ds_setLc {i : Nat} (mk : Bool) {y : Str} {py : Pos} {elt tg iter : Expr} {ifs : List Expr} {scope : Scope} {own : List (Str × Nat)} {pos spos : Pos} {di : TID} {g : TGD} {tt : TTD} {te : TED} (hN : X.N.Nodup) (hi : DI X tg iter di) (ok : BlkOk X.N X.env.scope scope own)
    (hg : ∀ (s : Shared) (H : Hp) (C : Addr) (cl : List (Str × Addr)) (fp : List Addr), DGo (X.blk s H scope (compEnvC scope cl C X.env) fp) tg (own.map (·.2)) g) (ht : ∀ (s : Shared) (H : Hp) (C : Addr) (cl : List (Str × Addr)) (fp : List Addr), DTs (X.blk s H scope (compEnvC scope cl C X.env) fp) ifs tt)
    (he : ∀ (s : Shared) (H : Hp) (C : Addr) (cl : List (Str × Addr)) (fp : List Addr), DE (X.blk s H scope (compEnvC scope cl C X.env) fp) elt te) (hy : X.N[i]? = some y := by rfl) (hyl : X.env.scope.names.lookup y = some .local := by rfl)
    (hsw : swapsWith (.ListComp elt [⟨tg, iter, ifs, 0⟩] scope pos) (some (.Name y py)) spos.line X.env = pure true := by exact sw_true rfl rfl rfl (by decide +kernel)) (hc : X.calm = true := by rfl) (hs : ∀ x, foldedSetIterable iter X.env x = pure x := by intro _; rfl) :
    DS X (.Assign [.Name y py] (.ListComp elt [⟨tg, iter, ifs, 0⟩] scope pos) spos) (dAsg (dLc mk (own.map (·.2)) di g tt te) (dgN i)) := ps_w (ps_setLc hc hN hy hyl hsw hi ok hg ht he hs) fun D σ H ⟨Z, F, M, ρ, DD, R, h, o⟩ => by
  refine up_lc (Q := fun x H1 => gName i x σ H1 D.nx) ⟨Z, F, M, ρ, _, R, h, fun v d F1 H1 M1 e1 R1 r1 h1 => ?_⟩
  refine o.nx _ _ _ _ _ e1 ⟨R1, ?_⟩ h1
  rw [setD_set]
  exact (R.e.mono e1).set r1 i
def dDic0 : TED := fun _ M Q => Q (.dic []) M
theorem de_dic0 {pos : Pos} : DE X (.Dict [] [] pos) dDic0 := pe_w pe_dnewK fun σ H Q ⟨Z, F, M, ρ, QD, R, h, o⟩ => by
  intro p hp
  obtain ⟨R2, e2⟩ := R.m.newF (o := .dK []) hp
  exact o _ _ _ _ M e2 R2 (.dic upd_same .nil) h
end
theorem same_fun {K : PySem.W.Frag} {x x2 q q2 : Str} {st st2 : Stmt} {f : Addr} {fd fd2 : FuncData} (F : Fun K x q st f fd) (G : Fun K x2 q2 st2 f fd2) : fd = fd2 := by
  obtain ⟨oc, od, kV, doc, pm, an, cdv, ct, osl, e, lk, hcd⟩ := F.ex
  obtain ⟨oc2, od2, kV2, doc2, pm2, an2, cdv2, ct2, osl2, e2, lk2, hcd2⟩ := G.ex
  rw [lk] at lk2
  have h := Option.some.inj lk2
  injection h with _ _ h3 _
  injection h3
/-- the law's def: a list of ints, True -/
def spLaw : SpD := fun ds M Q => ∃ ns : List Int, ds = [.frl (ns.map Dat.int)] ∧ ns.length ≤ 63 ∧ ∀ M', Q (.bl true) M'
theorem law_in {K : PySem.W.Frag} {H : Hp} {a : Addr} {ns : List Int} (hl : ns.length ≤ 63) (hS : SqL K H a (ns.map V.int)) : toSp K spLaw [.ref a] H (fun v _ => v = .bl true) (fun _ _ _ => False) := by
  refine ⟨fun _ => none, H, fun _ => none, [.frl (ns.map Dat.int)], fun d _ => d = .bl true, ⟨Ext.refl H, fun _ _ h => (by cases h), fun _ _ h => (by cases h)⟩, .one (.frl hS (reps_ints ns)), ⟨ns, rfl, hl, fun _ => rfl⟩, ?_⟩
  intro v d F' H' M' _ _ r h
  subst h
  exact r.toBl
end DL
namespace DL
open PySem PySem.Spec PyProof.Rows L2
theorem endD_of {Q : VKD} {d : Dat} {M : MH} (h : Q d M) : endD Q d M := ⟨M, LeM.refl M, h⟩
theorem endD_le {Q : VKD} {d : Dat} {M M0 : MH} (l : LeM M0 M) (h : Q d M0) : endD Q d M := ⟨M0, l, h⟩
/-! ### loops by what holds before each round -/
theorem loop_by {g : TGD} {tb : TSD} {D : EndsD} (I : List Dat → EnvD → MH → Prop) (hend : ∀ ρ M, I [] ρ M → D.nx ρ M)
    (step : ∀ d r ρ M (k : EnvD → MH → Prop), I (d :: r) ρ M → (∀ ρ M, I r ρ M → k ρ M) → g d ρ M fun ρ' M' => tb { D with nx := k, ct := k, bk := D.nx } ρ' M') : ∀ ds ρ M, I ds ρ M → dLoop g tb ds D ρ M
  | [], ρ, M, h => hend ρ M h
  | d :: r, ρ, M, h => step d r ρ M _ h fun ρ M h => loop_by I hend step r ρ M h
theorem lc_by {g : TGD} {tt : TTD} {te : TED} {ρ : EnvD} {mk : Bool} {Q : VKD} (I : List Dat → List Dat → MH → Prop) (hend : ∀ acc M, I [] acc M → newL mk acc M Q)
    (step : ∀ x r acc M (k : List Dat → MH → Prop), I (x :: r) acc M → (∀ acc M, I r acc M → k acc M) → g x ρ M fun ρ2 M2 => tt ρ2 M2 fun b M3 => if b = true then te ρ2 M3 fun y M4 => k (acc ++ [y]) M4 else k acc M3) : ∀ ds acc M, I ds acc M → lcGo g tt te ρ mk Q ds acc M
  | [], acc, M, h => hend acc M h
  | x :: r, acc, M, h => step x r acc M (fun acc M => lcGo g tt te ρ mk Q r acc M) h fun acc M h => lc_by I hend step r acc M h
/-- .. where only the round's number counts -/
theorem loop_n {g : TGD} {tb : TSD} {D : EndsD} {lo : Int} {n : Nat} {ρ : EnvD} {M : MH} (I : Nat → EnvD → MH → Prop) (h0 : I 0 ρ M) (hend : ∀ ρ M, I n ρ M → D.nx ρ M)
    (step : ∀ i ρ M (k : EnvD → MH → Prop), i < n → I i ρ M → (∀ ρ M, I (i + 1) ρ M → k ρ M) → g (.int (lo + (i : Nat))) ρ M fun ρ' M' => tb { D with nx := k, ct := k, bk := D.nx } ρ' M') : dLoop g tb (rngD lo n) D ρ M := by
  refine loop_by (fun r ρ M => ∃ i, r = (rngD lo n).drop i ∧ i ≤ n ∧ I i ρ M) ?_ ?_ _ _ _ ⟨0, rfl, Nat.zero_le _, h0⟩
  · rintro ρ M ⟨i, hr, hi, h⟩
    have : i = n := by
      have := congrArg List.length hr
      rw [List.length_drop] at this
      unfold rngD at this
      rw [List.length_map, List.length_range, List.length_nil] at this
      omega
    subst this
    exact hend ρ M h
  · rintro d r ρ M k ⟨i, hr, hi, h⟩ hk
    have hl : (rngD lo n).length = n := by unfold rngD; rw [List.length_map, List.length_range]
    have hlt : i < n := by
      rcases Nat.lt_or_ge i n with h | h
      · exact h
      · rw [List.drop_eq_nil_of_le (by omega)] at hr
        cases hr
    have hd : (rngD lo n).drop i = .int (lo + (i : Nat)) :: (rngD lo n).drop (i + 1) := by
      rw [List.drop_eq_getElem_cons (by omega)]
      congr 1
      unfold rngD
      rw [List.getElem_map, List.getElem_range]
    rw [hd] at hr
    injection hr with h1 h2
    subst h1
    exact step i ρ M k hlt h fun ρ M q => hk ρ M ⟨i + 1, h2, by omega, q⟩
theorem lc_n {g : TGD} {tt : TTD} {te : TED} {ρ : EnvD} {mk : Bool} {Q : VKD} {lo : Int} {n : Nat} {M : MH} (I : Nat → List Dat → MH → Prop) (h0 : I 0 [] M) (hend : ∀ acc M, I n acc M → newL mk acc M Q)
    (step : ∀ i acc M (k : List Dat → MH → Prop), i < n → I i acc M → (∀ acc M, I (i + 1) acc M → k acc M) → g (.int (lo + (i : Nat))) ρ M fun ρ2 M2 => tt ρ2 M2 fun b M3 => if b = true then te ρ2 M3 fun y M4 => k (acc ++ [y]) M4 else k acc M3) : lcGo g tt te ρ mk Q (rngD lo n) [] M := by
  refine lc_by (fun r acc M => ∃ i, r = (rngD lo n).drop i ∧ i ≤ n ∧ I i acc M) ?_ ?_ _ _ _ ⟨0, rfl, Nat.zero_le _, h0⟩
  · rintro acc M ⟨i, hr, hi, h⟩
    have : i = n := by
      have := congrArg List.length hr
      rw [List.length_drop] at this
      unfold rngD at this
      rw [List.length_map, List.length_range, List.length_nil] at this
      omega
    subst this
    exact hend acc M h
  · rintro d r acc M k ⟨i, hr, hi, h⟩ hk
    have hl : (rngD lo n).length = n := by unfold rngD; rw [List.length_map, List.length_range]
    have hlt : i < n := by
      rcases Nat.lt_or_ge i n with h | h
      · exact h
      · rw [List.drop_eq_nil_of_le (by omega)] at hr
        cases hr
    have hd : (rngD lo n).drop i = .int (lo + (i : Nat)) :: (rngD lo n).drop (i + 1) := by
      rw [List.drop_eq_getElem_cons (by omega)]
      congr 1
      unfold rngD
      rw [List.getElem_map, List.getElem_range]
    rw [hd] at hr
    injection hr with h1 h2
    subst h1
    exact step i acc M k hlt h fun acc M q => hk acc M ⟨i + 1, h2, by omega, q⟩
/-! ### the numbers -/
theorem fdivP {i j : Int} (h : 0 < j) : i.fdiv j = i / j := Int.fdiv_eq_ediv_of_nonneg i (by omega)
theorem fmodP {i j : Int} (h : 0 < j) : i.fmod j = i % j := Int.fmod_eq_emod_of_nonneg i (by omega)
theorem mulOk_l {a b : Int} (h : a.natAbs < 2 ^ 64) : IntMulOk a b := IntMulOk.of_left (PyProof.Rows.intBits_le h)
theorem mulOk_r {a b : Int} (h : b.natAbs < 2 ^ 64) : IntMulOk a b := IntMulOk.of_right (PyProof.Rows.intBits_le h)
theorem mulOk_b {a b : Int} {m n : Nat} (ha : a.natAbs < 2 ^ m) (hb : b.natAbs < 2 ^ n) (hm : m ≤ 2 ^ 20) (hn : n ≤ 2 ^ 20) : IntMulOk a b :=
  IntMulOk.of_bits (Nat.le_trans (PyProof.Rows.intBits_le ha) hm) (Nat.le_trans (PyProof.Rows.intBits_le hb) hn)
theorem divOk_b {i j : Int} (h0 : 0 < j) (h : j < 2 ^ 9000) : DivOk i j := by
  refine ⟨by omega, PyProof.noPylong_of_log2 ?_⟩
  rw [Nat.log2_lt (by omega)]
  omega
theorem shlOk {i : Int} {j : Nat} (h : i.natAbs < 2 ^ 64) (hn : j ≤ 100000000) : CShl i (j : Int) := shl_ok (n := 64) h (by omega)
theorem shl1 {j : Int} (h0 : 0 ≤ j) (h : j ≤ 100000000) : CShl 1 j := by
  obtain ⟨n, rfl⟩ := Int.eq_ofNat_of_zero_le h0
  exact shlOk (by decide) (by omega)
theorem bits_lt {i : Int} {n : Nat} (h : i.natAbs < 2 ^ n) : Builtin.Int.intBits i ≤ n := PyProof.Rows.intBits_le h
/-! ### isinstance -/
def isIntD : Dat → Bool
  | .int _ => true
  | _ => false
theorem isI_int {x : Dat} : (if isiR x (.ty .int) = true then !isiR x (.ty .bool) else false) = isIntD x := by
  cases x <;> rfl
theorem cd_isiK {X : Cx} (K : PySem.W.Frag) (h : X.K = K) : CallD X (.builtin "isinstance") (rIsiD K) := by
  subst h
  exact cd_isi
/-! ### a condition, a value, by what it is -/
section
variable {X : Cx} {e : Expr}
def dtCut (t : TTD) : TTD := fun ρ M Q => ∃ B : Bool → MH → Prop, t ρ M B ∧ ∀ b M', B b M' → Q b M'
def deCut (t : TED) : TED := fun ρ M Q => ∃ B : VKD, t ρ M B ∧ ∀ d M', B d M' → Q d M'
theorem dt_cut {t : TTD} (h : DT X e t) : DT X e (dtCut t) := pt_w h fun σ H Q ⟨Z, F, M, ρ, QD, R, ⟨B, h, k⟩, o⟩ =>
  ⟨Z, F, M, ρ, B, R, h, fun b F1 H1 M1 e1 R1 h1 => o b F1 H1 M1 e1 R1 (k b M1 h1)⟩
theorem de_cut {t : TED} (h : DE X e t) : DE X e (deCut t) := pe_w h fun σ H Q ⟨Z, F, M, ρ, QD, R, ⟨B, h, k⟩, o⟩ =>
  ⟨Z, F, M, ρ, B, R, h, fun v d F1 H1 M1 e1 R1 r h1 => o v d F1 H1 M1 e1 R1 r (k d M1 h1)⟩
theorem cut_is {t : TTD} {ρ : EnvD} {M : MH} {Q : Bool → MH → Prop} (v : Bool) (h : t ρ M fun b M1 => b = v ∧ M1 = M) (q : Q v M) : dtCut t ρ M Q := ⟨_, h, by
  rintro _ _ ⟨rfl, rfl⟩
  exact q⟩
theorem cutE_is {t : TED} {ρ : EnvD} {M : MH} {Q : VKD} (v : Dat) (h : t ρ M fun b M1 => b = v ∧ M1 = M) (q : Q v M) : deCut t ρ M Q := ⟨_, h, by
  rintro _ _ ⟨rfl, rfl⟩
  exact q⟩
end
/-! ### the readings, each as a row to rewrite by -/
section
variable {ρ : EnvD} {M : MH} {Q : VKD} {i j : Int} {x y : Dat} {s t : Str} {a b : Bool} {mk : Bool} {xs ys : List Dat}
def asBl (x : Dat) (k : Bool → Prop) : Prop := match x with
  | .bl b => k b
  | _ => False
theorem asBl_bl {k : Bool → Prop} : asBl (.bl b) k = k b := rfl
def asInt (x : Dat) (k : Int → Prop) : Prop := match x with
  | .int b => k b
  | _ => False
theorem asInt_int {k : Int → Prop} : asInt (.int i) k = k i := rfl
def asTup (x : Dat) (k : List Dat → Prop) : Prop := match x with
  | .tup b => k b
  | _ => False
theorem asTup_tup {k : List Dat → Prop} : asTup (.tup xs) k = k xs := rfl
theorem w_test {d : TED} {Q : Bool → MH → Prop} : dTest d ρ M Q = d ρ M fun x M1 => asBl x fun b => Q b M1 := rfl
theorem w_chain {r r' : R2D} {da db dc : TED} : dChain r r' da db dc ρ M Q = da ρ M fun x M1 => db ρ M1 fun y M2 => r x y M2 fun z M3 => asBl z fun k => if k = true then dc ρ M3 fun w M4 => r' y w M4 Q else Q (.bl false) M3 := rfl
theorem w_andV {da db : TED} : dAndV da db ρ M Q = da ρ M fun x M1 => asBl x fun k => if k = true then db ρ M1 Q else Q (.bl false) M1 := rfl
theorem w_orV {da db : TED} : dOrV da db ρ M Q = da ρ M fun x M1 => asBl x fun k => if k = true then Q (.bl true) M1 else db ρ M1 Q := rfl
theorem w_notV {da : TED} : dNotV da ρ M Q = da ρ M fun x M1 => asBl x fun k => Q (.bl (!k)) M1 := rfl
theorem w_neg : dNeg x M Q = asInt x fun i => Q (.int (-i)) M := rfl
theorem w_sub : rSub (.int i) (.int j) M Q = Q (.int (i - j)) M := rfl
theorem w_div : rDiv (.int i) (.int j) M Q = (DivOk i j ∧ Q (.int (i.fdiv j)) M) := rfl
theorem w_mod : rMod (.int i) (.int j) M Q = (j ≠ 0 ∧ Q (.int (i.fmod j)) M) := rfl
theorem w_pow : rPow (.int i) (.int j) M Q = (PowOk i j ∧ Q (.int (i ^ j.toNat)) M) := rfl
theorem w_shl : rShl (.int i) (.int j) M Q = (CShl i j ∧ Q (.int (i * 2 ^ j.toNat)) M) := rfl
theorem w_shr : rShr (.int i) (.int j) M Q = (0 ≤ j ∧ Q (.int (i / 2 ^ j.toNat)) M) := rfl
theorem w_and : rAnd (.int i) (.int j) M Q = Q (.int (Builtin.bitAnd i j)) M := rfl
theorem w_or : rOr (.int i) (.int j) M Q = Q (.int (Builtin.bitOr i j)) M := rfl
theorem w_xor : rXor (.int i) (.int j) M Q = Q (.int (Builtin.bitXor i j)) M := rfl
theorem w_lt : rLt (.int i) (.int j) M Q = Q (.bl (decide (i < j))) M := rfl
theorem w_le : rLe (.int i) (.int j) M Q = Q (.bl (decide (i ≤ j))) M := rfl
theorem w_gt : rGt (.int i) (.int j) M Q = Q (.bl (decide (j < i))) M := rfl
theorem w_ge : rGe (.int i) (.int j) M Q = Q (.bl (decide (j ≤ i))) M := rfl
theorem w_add : rAdd mk (.int i) (.int j) M Q = Q (.int (i + j)) M := rfl
theorem w_addS : rAdd mk (.str s) (.str t) M Q = (s.length + t.length ≤ sizeLine ∧ Q (.str (s ++ t)) M) := rfl
theorem w_addT : rAdd mk (.tup xs) (.tup ys) M Q = (xs ≠ [] ∧ ys ≠ [] ∧ xs.length + ys.length ≤ sizeLine ∧ Q (.tup (xs ++ ys)) M) := rfl
theorem w_addL : rAdd mk (.lst xs) y M Q = ∃ i j, lsT M (.lst xs) = some i ∧ lsT M y = some j ∧ i.length + j.length ≤ sizeLine ∧ newL mk (i ++ j) M Q := rfl
theorem w_addF : rAdd mk (.frl xs) y M Q = ∃ i j, lsT M (.frl xs) = some i ∧ lsT M y = some j ∧ i.length + j.length ≤ sizeLine ∧ newL mk (i ++ j) M Q := rfl
theorem w_addR {a : Addr} : rAdd mk (.ref a) y M Q = ∃ i j, lsT M (.ref a) = some i ∧ lsT M y = some j ∧ i.length + j.length ≤ sizeLine ∧ newL mk (i ++ j) M Q := rfl
theorem w_mul : rMul mk (.int i) (.int j) M Q = (IntMulOk i j ∧ Q (.int (i * j)) M) := rfl
theorem w_mulL : rMul mk (.lst xs) y M Q = ∃ ds k, lsT M (.lst xs) = some ds ∧ y = .int k ∧ -(2 ^ 63) ≤ k ∧ k < 2 ^ 63 ∧ ds.length * k.toNat ≤ sizeLine ∧ newL mk (List.replicate k.toNat ds).flatten M Q := rfl
theorem w_eq : rEqD (.int i) (.int j) M Q = Q (.bl (decide (i = j))) M := rfl
theorem w_ne : rNeD (.int i) (.int j) M Q = Q (.bl (!decide (i = j))) M := rfl
/-- .. of two other data -/
theorem eqv_comm1 {i : Int} (h : shp 64 y = true) (hy : ∀ j, y ≠ .int j) (q : Q (.bl (eqD (.int i) y)) M) (hd : deref M y = y) : rEqD (.int i) y M Q := by
  cases y with
  | int j => exact absurd rfl (hy j)
  | _ => exact ⟨by rw [hd]; exact h, by rw [hd]; exact q⟩
theorem w_isN : rIs x .non M Q = Q (.bl (isN x)) M := rfl
theorem w_isB : rIs (.bl a) (.bl b) M Q = Q (.bl (decide (a = b))) M := rfl
theorem w_isntN : rIsNot x .non M Q = Q (.bl (!isN x)) M := rfl
theorem w_isntB : rIsNot (.bl a) (.bl b) M Q = Q (.bl (!decide (a = b))) M := rfl
theorem w_ix : rIxD x (.int i) M Q = ∃ ds d, itemsR M x = some ds ∧ atI ds i = some d ∧ Q d M := rfl
theorem w_isi {K : PySem.W.Frag} : rIsiD K [x, y] M Q = (IsiOk K x y ∧ Q (.bl (isiR x y)) M) := rfl
theorem w_abs : rAbs [.int i] M Q = Q (.int (if i < 0 then -i else i)) M := rfl
theorem w_max2 : rMaxD [.int i, .int j] M Q = Q (.int (if j > i then j else i)) M := rfl
theorem w_min2 : rMinD [.int i, .int j] M Q = Q (.int (if j < i then j else i)) M := rfl
theorem w_max1L : rMaxD [.lst xs] M Q = ∃ ns : List Int, lsR M (.lst xs) = some (ns.map Dat.int) ∧ 0 < ns.length ∧ ∀ m, m ∈ ns → (∀ y, y ∈ ns → y ≤ m) → Q (.int m) M := rfl
theorem w_min1L : rMinD [.lst xs] M Q = ∃ ns : List Int, lsR M (.lst xs) = some (ns.map Dat.int) ∧ 0 < ns.length ∧ ∀ m, m ∈ ns → (∀ y, y ∈ ns → m ≤ y) → Q (.int m) M := rfl
theorem w_sum : rSumD [x] M Q = ∃ ns : List Int, lsR M x = some (ns.map Dat.int) ∧ Q (.int ns.sum) M := rfl
theorem w_all : rAllD [x] M Q = ∃ bs : List Bool, lsR M x = some (bs.map Dat.bl) ∧ Q (.bl (bs.all _root_.id)) M := rfl
theorem w_any : rAnyD [x] M Q = ∃ bs : List Bool, lsR M x = some (bs.map Dat.bl) ∧ Q (.bl (bs.any _root_.id)) M := rfl
theorem w_len : rLenD [x] M Q = ∃ ys, itemsR M x = some ys ∧ Q (.int (ys.length : Int)) M := rfl
theorem w_int : rIntD [.int i] M Q = Q (.int i) M := rfl
theorem w_intB : rIntD [.bl b] M Q = Q (.int (if b then 1 else 0)) M := rfl
theorem w_divmod : rDivmodD [.int i, .int j] M Q = (CDivP i j ∧ Q (.tup [.int (i / j), .int (i % j)]) M) := rfl
theorem w_sorted : rSortedD mk [x] M Q = ∃ ns : List Int, lsR M x = some (ns.map Dat.int) ∧ ∀ ns' : List Int, ns'.Perm ns → ns'.Pairwise (· ≤ ·) → newL mk (ns'.map Dat.int) M Q := rfl
theorem w_list : rListD mk [x] M Q = ∃ ys, itemsR M x = some ys ∧ newL mk ys M Q := rfl
theorem w_bits {da : TED} : dBits da ρ M Q = da ρ M fun x M1 => asInt x fun i => Q (.int (Builtin.Int.intBits i : Nat)) M1 := rfl
def slK (mk : Bool) (lo hi : Option Int) (x : Dat) (M3 : MH) (Q : VKD) : Prop := match x with
  | .tup ds => ¬ (HT.sIx ds.length 0 lo = 0 ∧ HT.sIx ds.length ds.length hi = ds.length) ∧ Q (.tup (cutD ds lo hi)) M3
  | x => ∃ ds, lsR M3 x = some ds ∧ newL mk (cutD ds lo hi) M3 Q
theorem w_sl {da : TED} {dl dh : TOD} : dSl mk da dl dh ρ M Q = da ρ M fun x M1 => dl ρ M1 fun lo M2 => dh ρ M2 fun hi M3 => slK mk lo hi x M3 Q := rfl
theorem w_slL {lo hi : Option Int} : slK mk lo hi (.lst xs) M Q = ∃ ds, lsR M (.lst xs) = some ds ∧ newL mk (cutD ds lo hi) M Q := rfl
theorem w_slF {lo hi : Option Int} : slK mk lo hi (.frl xs) M Q = ∃ ds, lsR M (.frl xs) = some ds ∧ newL mk (cutD ds lo hi) M Q := rfl
theorem w_slR {lo hi : Option Int} {a : Addr} : slK mk lo hi (.ref a) M Q = ∃ ds, lsR M (.ref a) = some ds ∧ newL mk (cutD ds lo hi) M Q := rfl
theorem w_slT {lo hi : Option Int} : slK mk lo hi (.tup xs) M Q = (¬ (HT.sIx xs.length 0 lo = 0 ∧ HT.sIx xs.length xs.length hi = xs.length) ∧ Q (.tup (cutD xs lo hi)) M) := rfl
theorem w_newF : newL false xs M Q = Q (.lst xs) M := rfl
theorem w_newT : newL true xs M Q = ∀ a, M a = none → Q (.ref a) (updM M a (.lst xs)) := rfl
theorem w_eqL : rEqD (.lst xs) y M Q = (shp 64 (.lst xs) = true ∧ shp 64 (deref M y) = true ∧ Q (.bl (eqD (.lst xs) (deref M y))) M) := rfl
theorem w_eqT : rEqD (.tup xs) y M Q = (shp 64 (.tup xs) = true ∧ shp 64 (deref M y) = true ∧ Q (.bl (eqD (.tup xs) (deref M y))) M) := rfl
theorem v_eqB : rEqD (.bl a) y M Q = (shp 64 (.bl a) = true ∧ shp 64 (deref M y) = true ∧ Q (.bl (eqD (.bl a) (deref M y))) M) := rfl
theorem v_eqS : rEqD (.str s) y M Q = (shp 64 (.str s) = true ∧ shp 64 (deref M y) = true ∧ Q (.bl (eqD (.str s) (deref M y))) M) := rfl
theorem w_eqR {c : Addr} : rEqD (.ref c) y M Q = (shp 64 (deref M (.ref c)) = true ∧ shp 64 (deref M y) = true ∧ Q (.bl (eqD (deref M (.ref c)) (deref M y))) M) := rfl
theorem v_eqN : rEqD .non y M Q = (shp 64 .non = true ∧ shp 64 (deref M y) = true ∧ Q (.bl (eqD .non (deref M y))) M) := rfl
theorem w_neL : rNeD (.lst xs) y M Q = (shp 64 (.lst xs) = true ∧ shp 64 (deref M y) = true ∧ Q (.bl (!eqD (.lst xs) (deref M y))) M) := rfl
theorem w_neT : rNeD (.tup xs) y M Q = (shp 64 (.tup xs) = true ∧ shp 64 (deref M y) = true ∧ Q (.bl (!eqD (.tup xs) (deref M y))) M) := rfl
theorem v_neB : rNeD (.bl a) y M Q = (shp 64 (.bl a) = true ∧ shp 64 (deref M y) = true ∧ Q (.bl (!eqD (.bl a) (deref M y))) M) := rfl
theorem v_neS : rNeD (.str s) y M Q = (shp 64 (.str s) = true ∧ shp 64 (deref M y) = true ∧ Q (.bl (!eqD (.str s) (deref M y))) M) := rfl
theorem w_neR {c : Addr} : rNeD (.ref c) y M Q = (shp 64 (deref M (.ref c)) = true ∧ shp 64 (deref M y) = true ∧ Q (.bl (!eqD (deref M (.ref c)) (deref M y))) M) := rfl
theorem v_neN : rNeD .non y M Q = (shp 64 .non = true ∧ shp 64 (deref M y) = true ∧ Q (.bl (!eqD .non (deref M y))) M) := rfl
theorem w_eqSS (h1 : shp 64 (.str s) = true) (h2 : shp 64 (.str t) = true) : rEqD (.str s) (.str t) M Q = Q (.bl (eqD (.str s) (.str t))) M := propext ⟨fun h => h.2.2, fun h => ⟨h1, h2, h⟩⟩
theorem w_eqBB : rEqD (.bl a) (.bl b) M Q = Q (.bl (eqD (.bl a) (.bl b))) M := propext ⟨fun h => h.2.2, fun h => ⟨rfl, rfl, h⟩⟩
theorem w_neSS (h1 : shp 64 (.str s) = true) (h2 : shp 64 (.str t) = true) : rNeD (.str s) (.str t) M Q = Q (.bl (!eqD (.str s) (.str t))) M := propext ⟨fun h => h.2.2, fun h => ⟨h1, h2, h⟩⟩
theorem w_neBB : rNeD (.bl a) (.bl b) M Q = Q (.bl (!eqD (.bl a) (.bl b))) M := propext ⟨fun h => h.2.2, fun h => ⟨rfl, rfl, h⟩⟩
theorem w_eqBI : rEqD (.bl a) (.int i) M Q = Q (.bl (eqD (.bl a) (.int i))) M := propext ⟨fun h => h.2.2, fun h => ⟨rfl, rfl, h⟩⟩
theorem w_eqIN : rEqD (.int i) .non M Q = Q (.bl (eqD (.int i) .non)) M := propext ⟨fun h => h.2, fun h => ⟨rfl, h⟩⟩
theorem w_neIN : rNeD (.int i) .non M Q = Q (.bl (!eqD (.int i) .non)) M := propext ⟨fun h => h.2, fun h => ⟨rfl, h⟩⟩
theorem w_eqNI : rEqD .non (.int i) M Q = Q (.bl (eqD .non (.int i))) M := propext ⟨fun h => h.2.2, fun h => ⟨rfl, rfl, h⟩⟩
theorem w_neNI : rNeD .non (.int i) M Q = Q (.bl (!eqD .non (.int i))) M := propext ⟨fun h => h.2.2, fun h => ⟨rfl, rfl, h⟩⟩
theorem w_eqNN : rEqD .non .non M Q = Q (.bl (eqD .non .non)) M := propext ⟨fun h => h.2.2, fun h => ⟨rfl, rfl, h⟩⟩
theorem w_neNN : rNeD .non .non M Q = Q (.bl (!eqD .non .non)) M := propext ⟨fun h => h.2.2, fun h => ⟨rfl, rfl, h⟩⟩
theorem w_NN : eqD .non .non = true := rfl
theorem w_NI : eqD .non (.int i) = false := rfl
theorem w_IN : eqD (.int i) .non = false := rfl
theorem w_dgT {n : Nat} {t : TGsD} {R : EnvD → MH → Prop} : dgT n t (.tup xs) ρ M R = (xs.length = n ∧ t xs ρ M R) := rfl
theorem w_derL : deref M (.lst xs) = .lst xs := rfl
theorem w_derT : deref M (.tup xs) = .tup xs := rfl
theorem w_derB : deref M (.bl a) = .bl a := rfl
theorem w_derI : deref M (.int i) = .int i := rfl
theorem w_derN : deref M .non = .non := rfl
theorem w_derS : deref M (.str s) = .str s := rfl
theorem eqD_bl : eqD (.bl a) (.bl b) = decide (a = b) := by cases a <;> cases b <;> rfl
theorem eqD_int : eqD (.int i) (.int j) = decide (i = j) := by
  show (i == j) = _
  by_cases h : i = j <;> simp [h]
def eqDs (xs ys : List Dat) : Bool := PyData.eqvAll (toPys xs) (toPys ys)
theorem eqD_tup : eqD (.tup xs) (.tup ys) = eqDs xs ys := by
  unfold eqD eqDs
  simp only [toPy, PyData.eqv]
theorem eqD_lst : eqD (.lst xs) (.lst ys) = eqDs xs ys := by
  unfold eqD eqDs
  simp only [toPy, PyData.eqv]
theorem eqDs_nil : eqDs [] [] = true := rfl
theorem eqDs_nc : eqDs [] (y :: ys) = false := rfl
theorem eqDs_cn : eqDs (x :: xs) [] = false := rfl
theorem eqDs_cons : eqDs (x :: xs) (y :: ys) = (eqD x y && eqDs xs ys) := by
  unfold eqD eqDs
  simp only [toPys, PyData.eqvAll]
theorem eqDs_ints (ns ms : List Int) : eqDs (ns.map Dat.int) (ms.map Dat.int) = decide (ns = ms) := by
  induction ns generalizing ms with
  | nil => cases ms <;> simp [eqDs_nil, eqDs_nc]
  | cons n ns ih =>
    cases ms with
    | nil => simp [eqDs_cn]
    | cons m ms =>
      rw [List.map_cons, List.map_cons, eqDs_cons, eqD_int, ih]
      by_cases h : n = m <;> simp [h]
theorem eqD_str : eqD (.str s) (.str t) = decide (s = t) := by
  unfold eqD
  simp only [toPy, PyData.eqv]
  by_cases h : s = t <;> simp [h]
end
theorem ne_no {α : Type} [DecidableEq α] {a x : α} {A B : Prop} (h : a = x) (q : B) : (if (!decide (a = x)) = true then A else B) := by
  rw [decide_eq_true h]
  exact q
theorem eq_yes {α : Type} [DecidableEq α] {a x : α} {A B : Prop} (h : a = x) (q : A) : (if decide (a = x) = true then A else B) := by
  rw [decide_eq_true h]
  exact q
theorem if_yes {v : Bool} {A B : Prop} (h : v = true) (q : A) : (if v = true then A else B) := by
  rw [h]
  exact q
theorem if_no {v : Bool} {A B : Prop} (h : v = false) (q : B) : (if v = true then A else B) := by
  rw [h]
  exact q
theorem not_no {v : Bool} {A B : Prop} (h : v = true) (q : B) : (if (!v) = true then A else B) := by
  rw [h]
  exact q
theorem not_yes {v : Bool} {A B : Prop} (h : v = false) (q : A) : (if (!v) = true then A else B) := by
  rw [h]
  exact q
theorem strT {a : Str} : decide (a = a) = true := decide_eq_true rfl
theorem strF {a b : Str} (h : a ≠ b) : decide (a = b) = false := decide_eq_false h
theorem inDT {a : Dat} {ds : List Dat} (h : inD a ds = true) : inD a ds = true := h
theorem inDF {a : Dat} {ds : List Dat} (h : inD a ds = false) : inD a ds = false := h
theorem dec_self {i : Int} : decide (i = i) = true := decide_eq_true rfl
theorem or_self2 {Q : VKD} {M : MH} {b : Bool} {d : Dat} (h : b = false) (q : Q d M) : (if b = true then False else Q d M) := by
  rw [h]
  exact q
/-! ### items, slices -/
section
variable {xs : List Dat} {ns : List Int}
theorem atI_ex {α : Type} {xs : List α} {r : Int} (h0 : 0 ≤ r) (h1 : r < xs.length) : ∃ d, atI xs r = some d ∧ d ∈ xs := by
  obtain ⟨n, rfl⟩ := Int.eq_ofNat_of_zero_le h0
  have hn : n < xs.length := by omega
  exact ⟨xs[n], atI_nat (List.getElem?_eq_getElem hn), List.getElem_mem hn⟩
theorem cutD_sub {lo hi : Option Int} {d : Dat} (h : d ∈ cutD xs lo hi) : d ∈ xs := List.mem_of_mem_drop (List.mem_of_mem_take h)
theorem cutD_len {lo hi : Option Int} : (cutD xs lo hi).length ≤ xs.length := by
  unfold cutD
  rw [List.length_take, List.length_drop]
  omega
theorem cutD_take {n : Nat} : cutD xs none (some (n : Int)) = xs.take n := by
  unfold cutD
  rw [HT.sIx_nat, HT.sIx_none, List.drop_zero, Nat.sub_zero]
  rw [Nat.min_def]
  split
  · rfl
  · rw [List.take_of_length_le (Nat.le_refl _), List.take_of_length_le (by omega)]
theorem cutD_drop {n : Nat} : cutD xs (some (n : Int)) none = xs.drop n := by
  unfold cutD
  rw [HT.sIx_nat, HT.sIx_none]
  rw [List.take_of_length_le (by rw [List.length_drop]; exact Nat.le_refl _), Nat.min_def]
  split
  · rfl
  · rw [List.drop_eq_nil_of_le (Nat.le_refl _), List.drop_eq_nil_of_le (by omega)]
theorem cutD_ints (lo hi : Option Int) : ∃ ms : List Int, cutD (ns.map Dat.int) lo hi = ms.map Dat.int ∧ ms.length ≤ ns.length := by
  refine ⟨(ns.drop (HT.sIx ns.length 0 lo)).take (HT.sIx ns.length ns.length hi - HT.sIx ns.length 0 lo), ?_, ?_⟩
  · unfold cutD
    rw [List.length_map, List.map_take, List.map_drop]
  · rw [List.length_take, List.length_drop]
    omega
theorem rngD_len {lo : Int} {n : Nat} : (rngD lo n).length = n := by
  unfold rngD
  rw [List.length_map, List.length_range]
theorem lit_len {n : Nat} (h : n ≤ 1000) : n ≤ sizeLine := by
  rw [sizeLine_eq]
  omega
end
end DL
namespace DL
open PySem PySem.Spec PyProof.Rows L2
/-! ### dicts with keys ints and texts -/
def valD (kvs : List (Key × Dat)) (k : Key) : Option Dat := (kvs.find? fun kv => decide (kv.1 = k)).map (·.2)
def putKD (kvs : List (Key × Dat)) (k : Key) (v : Dat) : List (Key × Dat) :=
  if (kvs.any fun kv => decide (kv.1 = k)) = true then kvs.map (fun kv => if kv.1 = k then (kv.1, v) else kv) else kvs ++ [(k, v)]
def mergeD (kvs more : List (Key × Dat)) : List (Key × Dat) := more.foldl (fun acc kv => putKD acc kv.1 kv.2) kvs
def keyD : Dat → Option Key
  | .int i => some (.inl i)
  | .str s => some (.inr s)
  | _ => none
def kD : Key → Dat
  | .inl i => .int i
  | .inr s => .str s
theorem keyD_rep {K : PySem.W.Frag} {F : Hp} {y : V} {d : Dat} {k : Key} (r : Rep K F y d) (h : keyD d = some k) : y = kV k := by
  cases d <;> first | (cases h; done) | skip
  · cases h
    exact r.toInt
  · cases h
    exact r.toStr
theorem kD_rep {K : PySem.W.Frag} {F : Hp} {y : V} {k : Key} (r : Rep K F y (kD k)) : y = kV k := by
  cases k with
  | inl i => exact r.toInt
  | inr s => exact r.toStr
section
variable {K : PySem.W.Frag} {F : Hp}
theorem RepK.len {vs : List (Key × V)} {ds : List (Key × Dat)} (r : RepK K F vs ds) : vs.length = ds.length := by
  induction ds generalizing vs with
  | nil => cases r; rfl
  | cons d ds ih =>
    cases r with
    | cons r1 r2 => rw [List.length_cons, List.length_cons, ih r2]
theorem RepK.val {vs : List (Key × V)} {ds : List (Key × Dat)} (r : RepK K F vs ds) (k : Key) : match valD ds k with
    | some d => ∃ v, valV vs k = some v ∧ Rep K F v d
    | none => valV vs k = none := by
  induction ds generalizing vs with
  | nil =>
    cases r
    exact valV_nil
  | cons d ds ih =>
    cases r with
    | @cons k2 v vs d ds r1 r2 =>
      by_cases h : k2 = k
      · have e : valD ((k2, d) :: ds) k = some d := by simp [valD, List.find?_cons, h]
        rw [e]
        exact ⟨v, valV_pos h, r1⟩
      · have e : valD ((k2, d) :: ds) k = valD ds k := by simp [valD, List.find?_cons, h]
        rw [e, valV_neg h]
        exact ih r2
theorem RepK.any {vs : List (Key × V)} {ds : List (Key × Dat)} (r : RepK K F vs ds) (k : Key) : (vs.any fun kv => decide (kv.1 = k)) = (ds.any fun kv => decide (kv.1 = k)) := by
  induction ds generalizing vs with
  | nil => cases r; rfl
  | cons d ds ih =>
    cases r with
    | cons r1 r2 => rw [List.any_cons, List.any_cons, ih r2]
theorem RepK.app {vs ws : List (Key × V)} {ds es : List (Key × Dat)} (r : RepK K F vs ds) (q : RepK K F ws es) : RepK K F (vs ++ ws) (ds ++ es) := by
  induction ds generalizing vs with
  | nil => cases r; exact q
  | cons d ds ih =>
    cases r with
    | cons r1 r2 => exact .cons r1 (ih r2)
theorem RepK.over {v : V} {d : Dat} (h : Rep K F v d) (k : Key) : ∀ {vs : List (Key × V)} {ds : List (Key × Dat)}, RepK K F vs ds → RepK K F (vs.map fun kv => if kv.1 = k then (kv.1, v) else kv) (ds.map fun kv => if kv.1 = k then (kv.1, d) else kv) := by
  intro vs ds r
  induction ds generalizing vs with
  | nil => cases r; exact .nil
  | cons e ds ih =>
    cases r with
    | @cons k2 u vs e ds r1 r2 =>
      rw [List.map_cons, List.map_cons]
      by_cases q : k2 = k
      · simp only [q, if_true]
        exact .cons h (ih r2)
      · simp only [q, if_false]
        exact .cons r1 (ih r2)
theorem RepK.put {v : V} {d : Dat} (h : Rep K F v d) {vs : List (Key × V)} {ds : List (Key × Dat)} (r : RepK K F vs ds) (k : Key) : RepK K F (putK vs k v) (putKD ds k d) := by
  unfold putK putKD
  rw [r.any k]
  split
  · exact r.over h k
  · exact r.app (.cons h .nil)
theorem RepK.merge {more : List (Key × V)} {dm : List (Key × Dat)} (q : RepK K F more dm) {vs : List (Key × V)} {ds : List (Key × Dat)} (r : RepK K F vs ds) : RepK K F (mergeK vs more) (mergeD ds dm) := by
  induction dm generalizing more vs ds with
  | nil => cases q; exact r
  | cons e dm ih =>
    cases q with
    | cons r1 r2 => exact ih r2 (r.put r1 _)
end
def dicR (M : MH) : Dat → Option (List (Key × Dat))
  | .dic kvs => some kvs
  | .ref a => match M a with
    | some (.dic kvs) => some kvs
    | _ => none
  | _ => none
theorem dicR_rep {K : PySem.W.Frag} {Z F H : Hp} {M : MH} {x : V} {d : Dat} {kvs : List (Key × Dat)} (R : RelM K Z F H M) (r : Rep K F x d) (h : dicR M d = some kvs) : ∃ p vs, x = .ref p ∧ H p = some (.dK vs) ∧ RepK K F vs kvs := by
  unfold dicR at h
  split at h
  · cases h
    cases r with
    | dic q r => exact ⟨_, _, rfl, R.sub _ _ q, r⟩
  · rename_i a
    split at h
    · rename_i ks e
      cases h
      cases r
      obtain ⟨_, vs, q1, q2⟩ := R.chg _ _ e
      exact ⟨_, _, rfl, q1, q2⟩
    · cases h
  · cases h
section
variable {X : Cx} {o i e f value : Expr} {pos pos' apos cpos : Pos} {dd dy dv dx : TED}
/-- d[y] -/
def dDGet (dd dy : TED) : TED := fun ρ M Q => dd ρ M fun x M1 => dy ρ M1 fun y M2 => ∃ kvs k d, dicR M2 x = some kvs ∧ keyD y = some k ∧ valD kvs k = some d ∧ Q d M2
theorem de_dget (hu : X.A.units + 64 < cLine) (ho : DE X o dd) (hi : DE X i dy) (hs : NoSl i := by exact fun _ _ => rfl) : DE X (.Subscript o i pos) (dDGet dd dy) := pe_w (pe_dget (by omega) ho hi hs) fun σ H Q ⟨Z, F, M, ρ, QD, R, h, o⟩ => by
  refine ⟨Z, F, M, ρ, _, R, h, fun x a F1 H1 M1 e1 R1 r1 h1 => ?_⟩
  refine ⟨Z, F1, M1, ρ, _, R.ext e1 R1, h1, fun y b F2 H2 M2 e2 R2 r2 h2 => ?_⟩
  obtain ⟨kvs, k, d, q1, q2, q3, q4⟩ := h2
  obtain ⟨p, vs, rfl, q5, q6⟩ := dicR_rep R2 (r1.mono e2) q1
  have := q6.val k
  rw [q3] at this
  obtain ⟨v, q7, q8⟩ := this
  refine ⟨p, v, rfl, ?_, o v d F2 H2 M2 (e1.trans e2) R2 q8 q4⟩
  rw [keyD_rep r2 q2, ← q7]
  exact .k q5
/-- d.get(y), d.get(y, x) -/
def dDGet1 (dd dy : TED) : TED := fun ρ M Q => dd ρ M fun x M1 => (∃ kvs, dicR M1 x = some kvs) ∧ dy ρ M1 fun y M2 => ∃ kvs k, dicR M2 x = some kvs ∧ keyD y = some k ∧ Q ((valD kvs k).getD .non) M2
def dDGet2 (dd dy dx : TED) : TED := fun ρ M Q => dd ρ M fun x M1 => (∃ kvs, dicR M1 x = some kvs) ∧ dy ρ M1 fun y M2 => dx ρ M2 fun z M3 => ∃ kvs k, dicR M3 x = some kvs ∧ keyD y = some k ∧ Q ((valD kvs k).getD z) M3
theorem de_dget1 (hu : X.A.units + 64 < cLine) (ho : DE X o dd) (he : DE X e dy) (m : M1 X o "get" apos e cpos := by exact ⟨rfl, rfl, rfl, rfl⟩) : DE X (.Call (.Attribute o "get" apos) [e] [] cpos) (dDGet1 dd dy) := pe_w (pe_dget1 (by omega) ho he m) fun σ H Q ⟨Z, F, M, ρ, QD, R, h, o⟩ => by
  refine ⟨Z, F, M, ρ, _, R, h, fun x a F1 H1 M1 e1 R1 r1 h1 => ?_⟩
  obtain ⟨⟨ks, q0⟩, h1⟩ := h1
  obtain ⟨p, vs, rfl, q5, q6⟩ := dicR_rep R1 r1 q0
  refine ⟨p, rfl, .inl ⟨vs, .inl q5⟩, Z, F1, M1, ρ, _, R.ext e1 R1, h1, fun y b F2 H2 M2 e2 R2 r2 h2 => ?_⟩
  obtain ⟨kvs, k, q1, q2, q4⟩ := h2
  obtain ⟨p, vs, e, q5, q6⟩ := dicR_rep R2 (r1.mono e2) q1
  cases e
  have := q6.val k
  refine ⟨valV vs k, ?_, ?_⟩
  · rw [keyD_rep r2 q2]
    exact .k q5
  · cases q : valD kvs k with
    | none =>
      rw [q] at this q4
      rw [this]
      exact o _ _ F2 H2 M2 (e1.trans e2) R2 .non q4
    | some d =>
      rw [q] at this q4
      obtain ⟨v, q7, q8⟩ := this
      rw [q7]
      exact o v d F2 H2 M2 (e1.trans e2) R2 q8 q4
theorem de_dget2 (hu : X.A.units + 64 < cLine) (ho : DE X o dd) (he : DE X e dy) (hf : DE X f dx) (m : M2 X o "get" apos e f cpos := by exact ⟨rfl, rfl, rfl, rfl⟩) : DE X (.Call (.Attribute o "get" apos) [e, f] [] cpos) (dDGet2 dd dy dx) := pe_w (pe_dget2 (by omega) ho he hf m) fun σ H Q ⟨Z, F, M, ρ, QD, R, h, o⟩ => by
  refine ⟨Z, F, M, ρ, _, R, h, fun x a F1 H1 M1 e1 R1 r1 h1 => ?_⟩
  obtain ⟨⟨ks, q0⟩, h1⟩ := h1
  obtain ⟨p, vs, rfl, q5, q6⟩ := dicR_rep R1 r1 q0
  refine ⟨p, rfl, .inl ⟨vs, .inl q5⟩, Z, F1, M1, ρ, _, R.ext e1 R1, h1, fun y b F2 H2 M2 e2 R2 r2 h2 => ?_⟩
  refine ⟨Z, F2, M2, ρ, _, R.ext (e1.trans e2) R2, h2, fun z c F3 H3 M3 e3 R3 r3 h3 => ?_⟩
  obtain ⟨kvs, k, q1, q2, q4⟩ := h3
  obtain ⟨p, vs, e, q5, q6⟩ := dicR_rep R3 (r1.mono (e2.trans e3)) q1
  cases e
  have := q6.val k
  refine ⟨valV vs k, ?_, ?_⟩
  · rw [keyD_rep r2 q2]
    exact .k q5
  · cases q : valD kvs k with
    | none =>
      rw [q] at this q4
      rw [this]
      exact o _ _ F3 H3 M3 ((e1.trans e2).trans e3) R3 r3 q4
    | some d =>
      rw [q] at this q4
      obtain ⟨v, q7, q8⟩ := this
      rw [q7]
      exact o v d F3 H3 M3 ((e1.trans e2).trans e3) R3 q8 q4
/-- d[y] = v -/
def dDPut (dd dy dv : TED) : TSD := fun D ρ M => dv ρ M fun v M1 => dd ρ M1 fun x M2 => dy ρ M2 fun y M3 => ∃ a kvs k, x = .ref a ∧ M3 a = some (.dic kvs) ∧ keyD y = some k ∧ kvs.length < sizeLine ∧ D.nx ρ (updM M3 a (.dic (putKD kvs k v)))
theorem ds_dput (hu : X.A.units + 64 < cLine) (ho : DE X o dd) (hi : DE X i dy) (hv : DE X value dv) (hs : swapsWith value (some (.Subscript o i pos')) pos.line X.env = pure false := by rfl) : DS X (.Assign [.Subscript o i pos'] value pos) (dDPut dd dy dv) := ps_w (ps_dput (by omega) ho hi hv hs) fun D σ H ⟨Z, F, M, ρ, DD, R, h, o⟩ => by
  refine ⟨Z, F, M, ρ, _, R, h, fun v d F1 H1 M1 e1 R1 r1 h1 => ?_⟩
  refine ⟨Z, F1, M1, ρ, _, R.ext e1 R1, h1, fun x a F2 H2 M2 e2 R2 r2 h2 => ?_⟩
  refine ⟨Z, F2, M2, ρ, _, R.ext (e1.trans e2) R2, h2, fun y b F3 H3 M3 e3 R3 r3 h3 => ?_⟩
  obtain ⟨a, kvs, k, rfl, q1, q2, q3, q4⟩ := h3
  cases r2
  obtain ⟨q5, vs, q6, q7⟩ := R3.chg _ _ q1
  refine ⟨a, upd H3 a (.dK (putK vs k v)), rfl, ?_, ?_⟩
  · rw [keyD_rep r3 q2]
    exact .k (v := v) q6 (by rw [q7.len]; exact q3)
  · refine o.nx _ _ _ _ _ ((e1.trans e2).trans e3) ⟨R3.write (m := .dic (putKD kvs k d)) q1 ⟨_, upd_same, q7.put (r1.mono (e2.trans e3)) k⟩, (R.e.mono ((e1.trans e2).trans e3))⟩ q4
/-! ### displays -/
def dPairs : List (TED × TED) → EnvD → MH → (List (Dat × Dat) → MH → Prop) → Prop
  | [], _, M, Q => Q [] M
  | (dk, dv) :: r, ρ, M, Q => dk ρ M fun x M1 => dv ρ M1 fun y M2 => dPairs r ρ M2 fun ps M3 => Q ((x, y) :: ps) M3
def newD (mk : Bool) (kvs : List (Key × Dat)) (M : MH) (Q : VKD) : Prop := match mk with
  | false => Q (.dic kvs) M
  | true => ∀ a, M a = none → Q (.ref a) (updM M a (.dic kvs))
def dDisp (mk : Bool) (trs : List (TED × TED)) : TED := fun ρ M Q => dPairs trs ρ M fun ps M1 => ∃ kvs : List (Key × Dat), ps = kvs.map (fun kv => (kD kv.1, kv.2)) ∧ kvs.length ≤ 15 ∧ newD mk (mergeD [] kvs) M1 Q
def upP (K : PySem.W.Frag) (trs : List (TED × TED)) : List (TE × TE) := trs.map fun q => (up K q.1, up K q.2)
abbrev DPs (X : Cx) (pos : Pos) (keys : List (Option Expr)) (values : List Expr) (trs : List (TED × TED)) : Prop := PPs X pos keys values (upP X.K trs)
theorem dps_nil : DPs X pos [] [] [] := pps_nil
theorem dps_cons {k v : Expr} {ks : List (Option Expr)} {vs : List Expr} {dk dv : TED} {trs : List (TED × TED)} (hk : DE X k dk) (hv : DE X v dv) (hr : DPs X pos ks vs trs) : DPs X pos (some k :: ks) (v :: vs) ((dk, dv) :: trs) := pps_cons hk hv hr
theorem up_pairs {K : PySem.W.Frag} {Z : Hp} {σ : L2.St} : ∀ {trs : List (TED × TED)} {F H : Hp} {M : MH} {ρ : EnvD} {Q : List (V × V) → Hp → Prop} {QD : List (Dat × Dat) → MH → Prop}, Rel K Z F H M σ ρ → dPairs trs ρ M QD →
    (∀ ps ds F' H' M', Ext F F' → RelM K Z F' H' M' → Reps K F' (ps.map (·.1)) (ds.map (·.1)) → Reps K F' (ps.map (·.2)) (ds.map (·.2)) → QD ds M' → Q ps H') → tPairs (upP K trs) σ H Q
  | [], F, H, M, ρ, Q, QD, R, h, o => o [] [] F H M (Ext.refl F) R.m .nil .nil h
  | (dk, dv) :: r, F, H, M, ρ, Q, QD, R, h, o => by
    refine ⟨Z, F, M, ρ, _, R, h, fun x a F1 H1 M1 e1 R1 r1 h1 => ?_⟩
    refine ⟨Z, F1, M1, ρ, _, R.ext e1 R1, h1, fun y b F2 H2 M2 e2 R2 r2 h2 => ?_⟩
    refine up_pairs (R.ext (e1.trans e2) R2) h2 fun ps ds F3 H3 M3 e3 R3 p1 p2 h3 => ?_
    exact o ((x, y) :: ps) ((a, b) :: ds) F3 H3 M3 ((e1.trans e2).trans e3) R3 (.cons (r1.mono (e2.trans e3)) p1) (.cons (r2.mono e3) p2) h3
theorem keyed {K : PySem.W.Frag} {F : Hp} : ∀ {kvs : List (Key × Dat)} {ps : List (V × V)}, Reps K F (ps.map (·.1)) (kvs.map fun kv => kD kv.1) → Reps K F (ps.map (·.2)) (kvs.map (·.2)) → ∃ vs, ps = vs.map (fun kv => (kV kv.1, kv.2)) ∧ RepK K F vs kvs
  | [], [], _, _ => ⟨[], rfl, .nil⟩
  | [], p :: ps, r, _ => by cases r
  | kv :: kvs, [], r, _ => by cases r
  | kv :: kvs, p :: ps, r, q => by
    obtain ⟨v, ws, e1, r1, r2⟩ := r.uncons
    obtain ⟨u, us, e2, q1, q2⟩ := q.uncons
    injection e1 with e3 e4
    injection e2 with e5 e6
    subst e3 e4 e5 e6
    obtain ⟨vs, rfl, g⟩ := keyed r2 q2
    refine ⟨(kv.1, p.2) :: vs, ?_, .cons q1 g⟩
    have := kD_rep r1
    rw [List.map_cons, ← this]
theorem de_disp (mk : Bool) {keys : List (Option Expr)} {values : List Expr} {trs : List (TED × TED)} (h : DPs X pos keys values trs) (hall : keys.all (·.isSome) = true := by rfl) (hl : keys.length = values.length := by rfl) (h0 : keys ≠ [] := by exact List.cons_ne_nil _ _)
    (h15 : keys.length ≤ 15 := by exact Nat.le_of_ble_eq_true rfl) : DE X (.Dict keys values pos) (dDisp mk trs) := pe_w (pe_disp h hall hl h0 h15) fun σ H Q ⟨Z, F, M, ρ, QD, R, h, o⟩ => by
  intro p hp
  have hZ : Z p = none := by
    cases q : Z p with
    | none => rfl
    | some u =>
      have := (R.m.hid p u q).1
      rw [hp] at this
      cases this
  obtain ⟨hF, hM⟩ := R.m.fresh hp
  have R0 : Rel X.K (upd Z p (.dK [])) F (upd H p (.dK [])) M σ ρ := ⟨⟨fun b u q => by
      rw [upd_ne (ne_of_none (R.m.sub b u q) hp)]
      exact R.m.sub b u q, fun b u q => by
      by_cases hb : b = p
      · subst hb
        rw [upd_same] at q
        cases q
        exact ⟨upd_same, hF, hM⟩
      · rw [upd_ne hb] at q ⊢
        exact R.m.hid b u q, fun b m q => by
      obtain ⟨q1, q2⟩ := R.m.chg b m q
      exact ⟨q1, q2.mono (Ext.refl _) (upd_ne (R.m.ne hp q))⟩⟩, R.e⟩
  refine up_pairs R0 h fun ps ds F2 H2 M2 e2 R2 p1 p2 h2 => ?_
  obtain ⟨kvs, rfl, hk, h2⟩ := h2
  obtain ⟨b1, b2, b3⟩ := R2.hid p _ upd_same
  rw [List.map_map] at p1 p2
  obtain ⟨vs, rfl, rk⟩ := keyed p1 p2
  refine ⟨b1, vs, rfl, by rw [rk.len]; exact hk, ?_⟩
  have rm := rk.merge (.nil : RepK X.K F2 [] [])
  cases mk with
  | false =>
    have h2' : QD (.dic (mergeD [] kvs)) M2 := h2
    have ee := Ext.new (o := .dK (mergeK [] vs)) b2
    refine o _ _ (upd F2 p (.dK (mergeK [] vs))) (upd H2 p (.dK (mergeK [] vs))) M2 (e2.trans ee) ⟨fun b u q => ?_, fun b u q => ?_, fun b m q => ?_⟩ (.dic upd_same (rm.mono ee)) h2'
    · by_cases hb : b = p
      · subst hb
        rw [upd_same] at q ⊢
        exact q
      · rw [upd_ne hb] at q ⊢
        exact R2.sub b u q
    · have hb := ne_of_none q hZ
      obtain ⟨q1, q2, q3⟩ := R2.hid b u (by rw [upd_ne hb]; exact q)
      exact ⟨by rw [upd_ne hb]; exact q1, by rw [upd_ne hb]; exact q2, q3⟩
    · have hb := ne_dom q b3
      obtain ⟨q1, q2⟩ := R2.chg b m q
      exact ⟨by rw [upd_ne hb]; exact q1, q2.mono ee (upd_ne hb)⟩
  | true =>
    have h2' := (show ∀ a, M2 a = none → QD (.ref a) (updM M2 a (.dic (mergeD [] kvs))) from h2) p b3
    refine o _ _ F2 (upd H2 p (.dK (mergeK [] vs))) (updM M2 p (.dic (mergeD [] kvs))) e2 ⟨fun b u q => ?_, fun b u q => ?_, fun b m q => ?_⟩ (.ref p) h2'
    · rw [upd_ne (ne_of_none q b2)]
      exact R2.sub b u q
    · have hb := ne_of_none q hZ
      obtain ⟨q1, q2, q3⟩ := R2.hid b u (by rw [upd_ne hb]; exact q)
      exact ⟨by rw [upd_ne hb]; exact q1, q2, by rw [updM_ne hb]; exact q3⟩
    · by_cases hb : b = p
      · subst hb
        rw [updM_same] at q
        cases q
        exact ⟨b2, _, upd_same, rm⟩
      · rw [updM_ne hb] at q
        obtain ⟨q1, q2⟩ := R2.chg b m q
        exact ⟨q1, q2.mono (Ext.refl _) (upd_ne hb)⟩
end
section
variable {M : MH} {Q : VKD} {kvs : List (Key × Dat)}
def toKvs : List (Dat × Dat) → Option (List (Key × Dat))
  | [] => some []
  | (k, v) :: r => match keyD k, toKvs r with
    | some k, some r => some ((k, v) :: r)
    | _, _ => none
theorem kD_of {d : Dat} {k : Key} (h : keyD d = some k) : d = kD k := by
  cases d <;> first | (cases h; done) | skip
  · cases h; rfl
  · cases h; rfl
theorem keyD_kD (k : Key) : keyD (kD k) = some k := by cases k <;> rfl
theorem toKvs_iff : ∀ {ps : List (Dat × Dat)} {kvs : List (Key × Dat)}, (ps = kvs.map fun kv => (kD kv.1, kv.2)) = (toKvs ps = some kvs)
  | [], [] => by simp [toKvs]
  | [], kv :: kvs => by simp [toKvs]
  | p :: ps, [] => by
    obtain ⟨k, v⟩ := p
    refine propext ⟨fun h => (by cases h), fun h => ?_⟩
    unfold toKvs at h
    split at h <;> cases h
  | p :: ps, kv :: kvs => by
    obtain ⟨k, v⟩ := p
    refine propext ⟨fun h => ?_, fun h => ?_⟩
    · injection h with h1 h2
      injection h1 with h3 h4
      subst h3 h4
      unfold toKvs
      rw [toKvs_iff] at h2
      rw [keyD_kD, h2]
    · unfold toKvs at h
      split at h
      · rename_i k2 r e1 e2
        cases h
        have e3 := (toKvs_iff (ps := ps) (kvs := kvs)).mpr e2
        rw [List.map_cons, ← kD_of e1, ← e3]
      · cases h
theorem w_disp {mk : Bool} {trs : List (TED × TED)} {ρ : EnvD} : dDisp mk trs ρ M Q = dPairs trs ρ M fun ps M1 => ∃ kvs : List (Key × Dat), toKvs ps = some kvs ∧ kvs.length ≤ 15 ∧ newD mk (mergeD [] kvs) M1 Q := by
  unfold dDisp
  simp only [toKvs_iff]
theorem w_newDF : newD false kvs M Q = Q (.dic kvs) M := rfl
theorem w_newDT : newD true kvs M Q = ∀ a, M a = none → Q (.ref a) (updM M a (.dic kvs)) := rfl
end
end DL
namespace DL
open PySem PySem.Spec PyProof.Rows L2
section
variable {X : Cx} {es : List Expr} {pos : Pos}
/-- a, b, .. = a list -/
def dgU (n : Nat) (t : TGsD) : TGD := fun x ρ M Q => ∃ ds, lsR M x = some ds ∧ ds.length = n ∧ t ds ρ M Q
theorem dgo_unl {k n : Nat} {vs : List Nat} {t : TGsD} (h : DGs X es vs t) (hc : X.calm = true := by rfl)
    (hn : (assignEach es X.env).length = n := by rfl) (hst : (assignEach es X.env).findIdx? (·.1) = none := by rfl) : DGo X (.Tuple es k pos) vs (dgU n t) :=
  pg_w (pg_unl hc h hn hst) fun v σ H Q ⟨Z, F, M, ρ, x, QD, R, r, h, o⟩ => by
    obtain ⟨ds, h1, h2, h3⟩ := h
    obtain ⟨p, xs, rfl, q, r2⟩ := lsR_rep R.m r h1
    exact ⟨p, xs, rfl, q, by rw [r2.length]; exact h2, Z, F, M, ρ, _, QD, R, r2, h3, o⟩
end
end DL
namespace DL
open PySem PySem.Spec PyProof.Rows L2
section
variable {X : Cx} {a : Expr} {da : TED} {p q pos ps : Pos}
theorem reps_rg {K : PySem.W.Frag} {F : Hp} (f : Nat → Int) : ∀ l : List Nat, Reps K F (l.map fun i => V.int (f i)) (l.map fun i => Dat.int (f i))
  | [] => .nil
  | i :: l => .cons (.int (f i)) (reps_rg f l)
/-- list(range(n)) -/
def rLRg (mk : Bool) : Dat → MH → VKD → Prop := fun x M Q => match x with
  | .int n => RgOk 0 n ∧ newL mk (rngD 0 n.toNat) M Q
  | _ => False
theorem w_lrg {mk : Bool} {i : Int} {M : MH} {Q : VKD} : rLRg mk (.int i) M Q = (RgOk 0 i ∧ newL mk (rngD 0 i.toNat) M Q) := rfl
theorem de_lrg1 (mk : Bool) (hl : X.mg "list" = none) (hm : X.mg "range" = none) (ha : DE X a da) (gl : Gl X "list" := by rfl) (gr : Gl X "range" := by rfl) (hc : X.calm = true := by rfl)
    (na : starEach [a] X.env = (false, eval a X.env) :: starEach [] X.env := by rfl) (ne : starEach [.Call (.Name "range" p) [a] [] pos] X.env = (false, eval (.Call (.Name "range" p) [a] [] pos) X.env) :: starEach [] X.env := by rfl) :
    DE X (.Call (.Name "list" q) [.Call (.Name "range" p) [a] [] pos] [] ps) (dUn (rLRg mk) da) :=
  pe_w (pe_listRg hc gl hl (prg_1 gr hm ha na) ne) fun σ H Q ⟨Z, F, M, ρ, QD, R, h, o⟩ => by
    refine ⟨Z, F, M, ρ, _, R, h, fun x d F1 H1 M1 e1 R1 r1 h1 => ?_⟩
    unfold rLRg at h1
    split at h1
    · rename_i n
      refine ⟨n, r1.toInt, h1.1, fun q hq => ?_⟩
      refine sim_new R1 ?_ h1.2 (o.mono e1) hq
      unfold rgV rngD
      rw [Int.sub_zero]
      exact reps_rg _ _
    · exact h1.elim
end
end DL
namespace DL
open PySem PySem.Spec PyProof.Rows L2
section
/-- two readings, held where rewriting does not go -/
class Held where
  a : TSD
  b : TSD
variable {X : Cx} {st : Stmt} {rest : List Stmt} {t u : TSD} {D : EndsD} {ρ : EnvD} {M : MH}
/-- a cut that the rows do not open: the rest waits -/
def dStop [h : Held] : TSD := dCut h.a h.b
theorem dss_stop (h1 : DS X st t) (h2 : DSs X rest u) : DSs X (st :: rest) (@dStop ⟨t, u⟩) := dss_cut h1 h2
theorem stop_by (R : EnvD → MH → Prop) (h1 : t { D with nx := R } ρ M) (h2 : ∀ ρ' M', R ρ' M' → u D ρ' M') : @dStop ⟨t, u⟩ D ρ M := ⟨R, h1, h2⟩
/-- .. where the state behind is one -/
theorem stop_is (ρ1 : EnvD) (M1 : MH) (h1 : t { D with nx := fun ρ' M' => ρ' = ρ1 ∧ M' = M1 } ρ M) (h2 : u D ρ1 M1) : @dStop ⟨t, u⟩ D ρ M := ⟨_, h1, by
  rintro _ _ ⟨rfl, rfl⟩
  exact h2⟩
/-- .. where what stands behind goes on at once -/
theorem stop_to (h1 : t { D with nx := u D } ρ M) : @dStop ⟨t, u⟩ D ρ M := ⟨_, h1, fun _ _ h => h⟩
end
end DL
namespace LW
open PySem PySem.Spec PyProof.Rows L2 DL
def topS (i : Nat) : Stmt := PySem.Challenge.pw_farwrap_k35_whole_loops_by_formulas.main.body.getD i (.Pass ⟨0, 0, 0, 0⟩)
abbrev s_is_integer : Stmt := topS 5
abbrev s_is_between : Stmt := topS 6
abbrev s_check_between : Stmt := topS 7
abbrev s_check_kind : Stmt := topS 11
abbrev s_size_of : Stmt := topS 12
abbrev s_low_of : Stmt := topS 13
abbrev s_placed : Stmt := topS 14
abbrev s_check_value : Stmt := topS 15
abbrev s_inverse_of : Stmt := topS 16
abbrev s_inverse : Stmt := topS 17
abbrev s_twos_in : Stmt := topS 18
abbrev s_check_word : Stmt := topS 21
abbrev s_check_loop : Stmt := topS 22
abbrev s_first_multiple : Stmt := topS 23
abbrev s_first_within : Stmt := topS 24
abbrev s_floor_sum : Stmt := topS 25
abbrev s_many_within : Stmt := topS 26
abbrev s_stops : Stmt := topS 27
abbrev s_rounds_of : Stmt := topS 28
abbrev s_rounds : Stmt := topS 29
abbrev s_round_value : Stmt := topS 30
abbrev s_end_value : Stmt := topS 31
abbrev s_check_rounds : Stmt := topS 32
abbrev s_wraps : Stmt := topS 33
abbrev s_rounds_within : Stmt := topS 34
abbrev s_endless_starts : Stmt := topS 35
abbrev s__law_source_of : Stmt := topS 37
abbrev s__law_next : Stmt := topS 38
abbrev s__law_one : Stmt := topS 39
abbrev s__law_cell_at : Stmt := topS 40
abbrev s__law_wide : Stmt := topS 41
abbrev s__law_draw_kind : Stmt := topS 42
abbrev s__law_value : Stmt := topS 43
abbrev s__law_put : Stmt := topS 44
abbrev s__law_counted_right : Stmt := topS 45
abbrev s__law_met_right : Stmt := topS 46
abbrev s__law_around_right : Stmt := topS 47
abbrev s__law_endless_right : Stmt := topS 48
abbrev s_law : Stmt := topS 49
abbrev s_Kind_init : Stmt := inClass (topS 10) 0
abbrev s_Kind_eq : Stmt := inClass (topS 10) 1
abbrev s_Kind_parts : Stmt := inClass (topS 10) 2
theorem sc_is_integer : FnScope ["value"] ["value"] (defScope s_is_integer) := ⟨rfl, rfl, rfl, by decide +kernel, rfl, by decide +kernel, by decide +kernel⟩
theorem sc_is_between : FnScope ["value", "low", "high"] ["value", "low", "high"] (defScope s_is_between) := ⟨rfl, rfl, rfl, by decide +kernel, rfl, by decide +kernel, by decide +kernel⟩
theorem sc_check_between : FnScope ["argument", "value", "low", "high"] ["argument", "value", "low", "high"] (defScope s_check_between) := ⟨rfl, rfl, rfl, by decide +kernel, rfl, by decide +kernel, by decide +kernel⟩
theorem sc_check_kind : FnScope ["value"] ["value"] (defScope s_check_kind) := ⟨rfl, rfl, rfl, by decide +kernel, rfl, by decide +kernel, by decide +kernel⟩
theorem sc_size_of : FnScope ["kind"] ["kind"] (defScope s_size_of) := ⟨rfl, rfl, rfl, by decide +kernel, rfl, by decide +kernel, by decide +kernel⟩
theorem sc_low_of : FnScope ["kind"] ["kind"] (defScope s_low_of) := ⟨rfl, rfl, rfl, by decide +kernel, rfl, by decide +kernel, by decide +kernel⟩
theorem sc_placed : FnScope ["kind", "n"] ["kind", "n"] (defScope s_placed) := ⟨rfl, rfl, rfl, by decide +kernel, rfl, by decide +kernel, by decide +kernel⟩
theorem sc_check_value : FnScope ["kind", "argument", "value"] ["kind", "argument", "value"] (defScope s_check_value) := ⟨rfl, rfl, rfl, by decide +kernel, rfl, by decide +kernel, by decide +kernel⟩
theorem sc_inverse_of : FnScope ["n", "bits", "found", "known"] ["n", "bits"] (defScope s_inverse_of) := ⟨rfl, rfl, rfl, by decide +kernel, rfl, by decide +kernel, by decide +kernel⟩
theorem sc_inverse : FnScope ["kind", "x"] ["kind", "x"] (defScope s_inverse) := ⟨rfl, rfl, rfl, by decide +kernel, rfl, by decide +kernel, by decide +kernel⟩
theorem sc_twos_in : FnScope ["n", "most"] ["n", "most"] (defScope s_twos_in) := ⟨rfl, rfl, rfl, by decide +kernel, rfl, by decide +kernel, by decide +kernel⟩
theorem sc_check_word : FnScope ["argument", "value"] ["argument", "value"] (defScope s_check_word) := ⟨rfl, rfl, rfl, by decide +kernel, rfl, by decide +kernel, by decide +kernel⟩
theorem sc_check_loop : FnScope ["kind", "value", "one"] ["kind", "value"] (defScope s_check_loop) := ⟨rfl, rfl, rfl, by decide +kernel, rfl, by decide +kernel, by decide +kernel⟩
theorem sc_first_multiple : FnScope ["a", "size", "low", "high", "n", "turns"] ["a", "size", "low", "high"] (defScope s_first_multiple) := ⟨rfl, rfl, rfl, by decide +kernel, rfl, by decide +kernel, by decide +kernel⟩
theorem sc_first_within : FnScope ["a", "b", "size", "low", "high", "begin"] ["a", "b", "size", "low", "high"] (defScope s_first_within) := ⟨rfl, rfl, rfl, by decide +kernel, rfl, by decide +kernel, by decide +kernel⟩
theorem sc_floor_sum : FnScope ["many", "a", "b", "size", "found", "last"] ["many", "a", "b", "size"] (defScope s_floor_sum) := ⟨rfl, rfl, rfl, by decide +kernel, rfl, by decide +kernel, by decide +kernel⟩
theorem sc_many_within : FnScope ["many", "a", "b", "size", "low", "high"] ["many", "a", "b", "size", "low", "high"] (defScope s_many_within) := ⟨rfl, rfl, rfl, by decide +kernel, rfl, by decide +kernel, by decide +kernel⟩
theorem sc_stops : FnScope ["kind", "word", "b", "size"] ["kind", "word", "b"] (defScope s_stops) := ⟨rfl, rfl, rfl, by decide +kernel, rfl, by decide +kernel, by decide +kernel⟩
theorem sc_rounds_of : FnScope ["kind", "loop", "a", "word", "b", "c", "low", "high"] ["kind", "loop"] (defScope s_rounds_of) := ⟨rfl, rfl, rfl, by decide +kernel, rfl, by decide +kernel, by decide +kernel⟩
theorem sc_rounds : FnScope ["kind", "loop"] ["kind", "loop"] (defScope s_rounds) := ⟨rfl, rfl, rfl, by decide +kernel, rfl, by decide +kernel, by decide +kernel⟩
theorem sc_round_value : FnScope ["kind", "loop", "n", "last"] ["kind", "loop", "n"] (defScope s_round_value) := ⟨rfl, rfl, rfl, by decide +kernel, rfl, by decide +kernel, by decide +kernel⟩
theorem sc_end_value : FnScope ["kind", "loop", "last"] ["kind", "loop"] (defScope s_end_value) := ⟨rfl, rfl, rfl, by decide +kernel, rfl, by decide +kernel, by decide +kernel⟩
theorem sc_check_rounds : FnScope ["kind", "loop", "n", "last"] ["kind", "loop", "n"] (defScope s_check_rounds) := ⟨rfl, rfl, rfl, by decide +kernel, rfl, by decide +kernel, by decide +kernel⟩
theorem sc_wraps : FnScope ["kind", "loop", "n"] ["kind", "loop", "n"] (defScope s_wraps) := ⟨rfl, rfl, rfl, by decide +kernel, rfl, by decide +kernel, by decide +kernel⟩
theorem sc_rounds_within : FnScope ["kind", "loop", "low", "high", "n", "least"] ["kind", "loop", "low", "high", "n"] (defScope s_rounds_within) := ⟨rfl, rfl, rfl, by decide +kernel, rfl, by decide +kernel, by decide +kernel⟩
theorem sc_endless_starts : FnScope ["kind", "word", "b", "c", "low", "high", "twos"] ["kind", "word", "b", "c"] (defScope s_endless_starts) := ⟨rfl, rfl, rfl, by decide +kernel, rfl, by decide +kernel, by decide +kernel⟩
theorem sc__law_source_of : FnScope ["_law_cell"] ["_law_cell"] (defScope s__law_source_of) := ⟨rfl, rfl, rfl, by decide +kernel, rfl, by decide +kernel, by decide +kernel⟩
theorem sc__law_next : FnScope ["_law_source", "_law_many", "_law_found", "_law_prime", "_law_number_here"] ["_law_source", "_law_many"] (defScope s__law_next) := ⟨rfl, rfl, rfl, by decide +kernel, rfl, by decide +kernel, by decide +kernel⟩
theorem sc__law_one : FnScope ["_law_source", "_law_some"] ["_law_source", "_law_some"] (defScope s__law_one) := ⟨rfl, rfl, rfl, by decide +kernel, rfl, by decide +kernel, by decide +kernel⟩
theorem sc__law_cell_at : FnScope ["_law_script", "_law_index"] ["_law_script", "_law_index"] (defScope s__law_cell_at) := ⟨rfl, rfl, rfl, by decide +kernel, rfl, by decide +kernel, by decide +kernel⟩
theorem sc__law_wide : FnScope ["_law_source", "_law_m", "_law_found", "_law_k"] ["_law_source", "_law_m"] (defScope s__law_wide) := ⟨rfl, rfl, rfl, by decide +kernel, rfl, by decide +kernel, by decide +kernel⟩
theorem sc__law_draw_kind : FnScope ["_law_source", "_law_most", "_law_bits", "_law_is_signed", "_law_size"] ["_law_source", "_law_most"] (defScope s__law_draw_kind) := ⟨rfl, rfl, rfl, by decide +kernel, rfl, by decide +kernel, by decide +kernel⟩
theorem sc__law_value : FnScope ["_law_source", "_law_low", "_law_size", "_law_near", "_law_far"] ["_law_source", "_law_low", "_law_size"] (defScope s__law_value) := ⟨rfl, rfl, rfl, by decide +kernel, rfl, by decide +kernel, by decide +kernel⟩
theorem sc__law_put : FnScope ["_law_n", "_law_low", "_law_size"] ["_law_n", "_law_low", "_law_size"] (defScope s__law_put) := ⟨rfl, rfl, rfl, by decide +kernel, rfl, by decide +kernel, by decide +kernel⟩
theorem sc__law_counted_right : FnScope ["_law_source", "_law_kind", "_law_low", "_law_size", "_law_a", "_law_b", "_law_most", "_law_c", "_law_many"] ["_law_source", "_law_kind", "_law_low", "_law_size"] (defScope s__law_counted_right) := ⟨rfl, rfl, rfl, by decide +kernel, rfl, by decide +kernel, by decide +kernel⟩
theorem sc__law_met_right : FnScope ["_law_source", "_law_kind", "_law_low", "_law_size", "_law_a", "_law_n", "_law_c", "_law_b", "_law_loop", "_law_k", "_law_step", "_law_start"] ["_law_source", "_law_kind", "_law_low", "_law_size"] (defScope s__law_met_right) := ⟨rfl, rfl, rfl, by decide +kernel, rfl, by decide +kernel, by decide +kernel⟩
theorem sc__law_around_right : FnScope ["_law_source", "_law_kind", "_law_low", "_law_size", "_law_top", "_law_c", "_law_a", "_law_n"] ["_law_source", "_law_kind", "_law_low", "_law_size"] (defScope s__law_around_right) := ⟨rfl, rfl, rfl, by decide +kernel, rfl, by decide +kernel, by decide +kernel⟩
theorem sc__law_endless_right : FnScope ["_law_source", "_law_kind", "_law_low", "_law_size", "_law_top", "_law_a", "_law_b", "_law_k", "_law_odd", "_law_c", "_law_turns", "_law_first", "_law_last", "_law_stops_here", "_law_word", "_law_many"] ["_law_source", "_law_kind", "_law_low", "_law_size"] (defScope s__law_endless_right) := ⟨rfl, rfl, rfl, by decide +kernel, rfl, by decide +kernel, by decide +kernel⟩
theorem sc_law : FnScope ["_law_script", "_law_cell", "_law_source", "_law_kind", "_law_low", "_law_size"] ["_law_script"] (defScope s_law) := ⟨rfl, rfl, rfl, by decide +kernel, rfl, by decide +kernel, by decide +kernel⟩
theorem sc_Kind_init : FnScope ["self", "bits", "is_signed"] ["self", "bits", "is_signed"] (defScope s_Kind_init) := ⟨rfl, rfl, rfl, by decide +kernel, rfl, by decide +kernel, by decide +kernel⟩
theorem sc_Kind_eq : FnScope ["self", "other"] ["self", "other"] (defScope s_Kind_eq) := ⟨rfl, rfl, rfl, by decide +kernel, rfl, by decide +kernel, by decide +kernel⟩
theorem sc_Kind_parts : FnScope ["self"] ["self"] (defScope s_Kind_parts) := ⟨rfl, rfl, rfl, by decide +kernel, rfl, by decide +kernel, by decide +kernel⟩
/-- what the top has written -/
structure Txt (K : PySem.W.Frag) (mg : Str → Option Value) (C_Kind : Addr) : Prop where
  h_is_integer : HasFn K mg "is_integer" "is_integer" s_is_integer ["value"]
  h_is_between : HasFn K mg "is_between" "is_between" s_is_between ["value", "low", "high"]
  h_check_between : HasFn K mg "check_between" "check_between" s_check_between ["argument", "value", "low", "high"]
  h_check_kind : HasFn K mg "check_kind" "check_kind" s_check_kind ["value"]
  h_size_of : HasFn K mg "size_of" "size_of" s_size_of ["kind"]
  h_low_of : HasFn K mg "low_of" "low_of" s_low_of ["kind"]
  h_placed : HasFn K mg "placed" "placed" s_placed ["kind", "n"]
  h_check_value : HasFn K mg "check_value" "check_value" s_check_value ["kind", "argument", "value"]
  h_inverse_of : HasFn K mg "inverse_of" "inverse_of" s_inverse_of ["n", "bits"]
  h_inverse : HasFn K mg "inverse" "inverse" s_inverse ["kind", "x"]
  h_twos_in : HasFn K mg "twos_in" "twos_in" s_twos_in ["n", "most"]
  h_check_word : HasFn K mg "check_word" "check_word" s_check_word ["argument", "value"]
  h_check_loop : HasFn K mg "check_loop" "check_loop" s_check_loop ["kind", "value"]
  h_first_multiple : HasFn K mg "first_multiple" "first_multiple" s_first_multiple ["a", "size", "low", "high"]
  h_first_within : HasFn K mg "first_within" "first_within" s_first_within ["a", "b", "size", "low", "high"]
  h_floor_sum : HasFn K mg "floor_sum" "floor_sum" s_floor_sum ["many", "a", "b", "size"]
  h_many_within : HasFn K mg "many_within" "many_within" s_many_within ["many", "a", "b", "size", "low", "high"]
  h_stops : HasFn K mg "stops" "stops" s_stops ["kind", "word", "b"]
  h_rounds_of : HasFn K mg "rounds_of" "rounds_of" s_rounds_of ["kind", "loop"]
  h_rounds : HasFn K mg "rounds" "rounds" s_rounds ["kind", "loop"]
  h_round_value : HasFn K mg "round_value" "round_value" s_round_value ["kind", "loop", "n"]
  h_end_value : HasFn K mg "end_value" "end_value" s_end_value ["kind", "loop"]
  h_check_rounds : HasFn K mg "check_rounds" "check_rounds" s_check_rounds ["kind", "loop", "n"]
  h_wraps : HasFn K mg "wraps" "wraps" s_wraps ["kind", "loop", "n"]
  h_rounds_within : HasFn K mg "rounds_within" "rounds_within" s_rounds_within ["kind", "loop", "low", "high", "n"]
  h_endless_starts : HasFn K mg "endless_starts" "endless_starts" s_endless_starts ["kind", "word", "b", "c"]
  h__law_source_of : HasFn K mg "_law_source_of" "_law_source_of" s__law_source_of ["_law_cell"]
  h__law_next : HasFn K mg "_law_next" "_law_next" s__law_next ["_law_source", "_law_many"]
  h__law_one : HasFn K mg "_law_one" "_law_one" s__law_one ["_law_source", "_law_some"]
  h__law_cell_at : HasFn K mg "_law_cell_at" "_law_cell_at" s__law_cell_at ["_law_script", "_law_index"]
  h__law_wide : HasFn K mg "_law_wide" "_law_wide" s__law_wide ["_law_source", "_law_m"]
  h__law_draw_kind : HasFn K mg "_law_draw_kind" "_law_draw_kind" s__law_draw_kind ["_law_source", "_law_most"]
  h__law_value : HasFn K mg "_law_value" "_law_value" s__law_value ["_law_source", "_law_low", "_law_size"]
  h__law_put : HasFn K mg "_law_put" "_law_put" s__law_put ["_law_n", "_law_low", "_law_size"]
  h__law_counted_right : HasFn K mg "_law_counted_right" "_law_counted_right" s__law_counted_right ["_law_source", "_law_kind", "_law_low", "_law_size"]
  h__law_met_right : HasFn K mg "_law_met_right" "_law_met_right" s__law_met_right ["_law_source", "_law_kind", "_law_low", "_law_size"]
  h__law_around_right : HasFn K mg "_law_around_right" "_law_around_right" s__law_around_right ["_law_source", "_law_kind", "_law_low", "_law_size"]
  h__law_endless_right : HasFn K mg "_law_endless_right" "_law_endless_right" s__law_endless_right ["_law_source", "_law_kind", "_law_low", "_law_size"]
  h_law : HasFn K mg "law" "law" s_law ["_law_script"]
  mg_Kind : mg "Kind" = some (.ref C_Kind)
  cl_Kind : Cls K C_Kind
  nf_Kind_bits : NoAttr K C_Kind "bits"
  nf_Kind_is_signed : NoAttr K C_Kind "is_signed"
  h_Kind_init : HasCl K mg "Kind" C_Kind "Kind.__init__" s_Kind_init ["self", "bits", "is_signed"]
  h_Kind_eq : HasMt K C_Kind "__eq__" "Kind.__eq__" s_Kind_eq ["self", "other"]
  h_Kind_parts : HasMt K C_Kind "parts" "Kind.parts" s_Kind_parts ["self"]
  ck_Kind : ClsK K C_Kind
  b_abs : mg "abs" = none
  b_bool : mg "bool" = none
  b_int : mg "int" = none
  b_isinstance : mg "isinstance" = none
  b_len : mg "len" = none
  b_max : mg "max" = none
  b_min : mg "min" = none
  b_range : mg "range" = none
  b_sorted : mg "sorted" = none
  b_str : mg "str" = none
  b_tuple : mg "tuple" = none
  g_MOST_BITS : ∃ t, mg "MOST_BITS" = some (.int 128 t)
  g_WORDS : GTup K mg "WORDS" ["<", "<=", ">", ">=", "==", "!="]
/-! ### kinds: the numbers -/
abbrev kindD (C : Addr) (b : Nat) (s : Bool) : Dat := .ins C [("bits", .int (b : Nat)), ("is_signed", .bl s)]
abbrev Wd (b : Nat) : Prop := 1 ≤ b ∧ b ≤ 128
def lowZ (b : Nat) (s : Bool) : Int := if s = true then -(2 ^ (b - 1)) else 0
def placedZ (b : Nat) (s : Bool) (n : Int) : Int := lowZ b s + (n - lowZ b s) % 2 ^ b
theorem two_pos (n : Nat) : (0 : Int) < 2 ^ n := Int.pow_pos (by decide)
theorem placed_in (b : Nat) (s : Bool) (n : Int) : lowZ b s ≤ placedZ b s n ∧ placedZ b s n < lowZ b s + 2 ^ b := by
  have h := two_pos b
  have h1 := Int.emod_nonneg (n - lowZ b s) (show (2 : Int) ^ b ≠ 0 by omega)
  have h2 := Int.emod_lt_of_pos (n - lowZ b s) h
  unfold placedZ
  omega
theorem placed_same {b : Nat} {s : Bool} {x : Int} (h1 : lowZ b s ≤ x) (h2 : x < lowZ b s + 2 ^ b) : placedZ b s x = x := by
  unfold placedZ
  rw [Int.emod_eq_of_lt (by omega) (by omega)]
  omega
section
variable {P : Program} {w : World} {K : PySem.W.Frag} {mg : Str → Option Value} {base : Heap} {C_Kind : Addr}
abbrev sp_isint (C : Addr) : SpD := fun ds M Q => ∃ x, ds = [x] ∧ OneC C x ∧ Q (.bl (isIntD x)) M
theorem ok_is_integer (T : Txt K mg C_Kind) : FnD P w K mg base 1 "is_integer" s_is_integer ["value"] (sp_isint C_Kind) := by
  refine fn_mk T.h_is_integer sc_is_integer 1 rfl (by intro ds M Q h; first | (obtain ⟨rfl, _⟩ := h; rfl) | (obtain ⟨_, rfl, _⟩ := h; rfl) | (obtain ⟨_, _, rfl, _⟩ := h; rfl) | (obtain ⟨_, _, _, rfl, _⟩ := h; rfl) | (obtain ⟨_, _, _, _, rfl, _⟩ := h; rfl) | (obtain ⟨_, _, _, _, _, rfl, _⟩ := h; rfl) | (obtain ⟨_, _, _, _, _, _, rfl, _⟩ := h; rfl) | (obtain ⟨_, _, _, _, _, _, _, rfl, _⟩ := h; rfl) | (obtain ⟨_, _, _, _, _, _, _, _, rfl, _⟩ := h; rfl) | (obtain ⟨_, _, _, _, _, _, _, _, _, rfl, _⟩ := h; rfl) | (obtain ⟨_, _, _, _, _, _, _, _, _, _, rfl, _⟩ := h; rfl) | (obtain ⟨_, _, _, _, _, _, _, _, _, _, _, rfl, _⟩ := h; rfl) | (obtain ⟨_, _, _, _, _, _, _, _, _, _, _, _, rfl, _⟩ := h; rfl)) (fun f cdv A outer s H E hr => ⟨_, (dss_one (ds_ret (de_and (de_cb ((cd_isiK K rfl)) (by rfl) T.b_isinstance (by decide +kernel) (da_cons (dv 0) (da_cons (de_ty .int (by rfl) T.b_int (by decide +kernel)) da_nil))) (de_one (de_not (de_cb ((cd_isiK K rfl)) (by rfl) T.b_isinstance (by decide +kernel) (da_cons (dv 0) (da_cons (de_ty .bool (by rfl) T.b_bool (by decide +kernel)) da_nil)))))))), ?_⟩)
  rintro ds M Q ⟨x, rfl, hx, hQ⟩
  (try simp only [dgU, w_lrg, dCut, dDGet, dDGet1, dDGet2, dDPut, dPairs, w_disp, w_newDF, w_newDT, dec_self, List.map_cons, List.map_nil, eqD_bl, eqD_int, eqD_str, eqD_tup, eqD_lst, eqDs_nil, eqDs_nc, eqDs_cn, eqDs_cons, reduceIte, Bool.false_eq_true, Bool.not_true, Bool.not_false, decide_true, decide_false, dVar, atD, setD, startD, dC, dOp, dAnd, dOr, dNot, dIf, dUn, dNil, dCons, dTup, dLst, rInD, rNotInD, dNoPart, dPart, dRev, dFld, DL.fieldsOf, dCB, dNext, dSeq, dBreak, dCont, dDrop, dRet, dRetN, dIfS, dNever, dgN, dgNil, dgCons, dgSub, dAsg, dPar, dPar3, putD, dSetF, dMt, rAppendD, rPopD, rExtendD, lsT, lsR, lsF, itemsR, dFrz, dCall, dCallK, dMeth, dMake, dFor, dIL, dIT, dIR1, dIR2, dIE, dIZ, wipeD, dYes, dLc, dDic0, updM_same, cxOf, asBl_bl, asInt_int, asTup_tup, isN, w_test, w_chain, w_andV, w_orV, w_notV, w_neg, w_sub, w_div, w_mod, w_pow, w_shl, w_shr, w_and, w_or, w_xor, w_lt, w_le, w_gt, w_ge, w_add, w_addS, w_addT, w_addL, w_addF, w_addR, w_mul, w_mulL, w_eq, w_ne, w_isN, w_isB, w_isntN, w_isntB, w_ix, w_isi, w_abs, w_max2, w_min2, w_max1L, w_min1L, w_sum, w_all, w_any, w_len, w_int, w_intB, w_divmod, w_sorted, w_list, w_bits, w_sl, w_slL, w_slF, w_slR, w_slT, w_newF, w_newT, w_eqL, w_eqT, w_eqR, w_neL, w_neT, w_neR, w_dgT, w_derL, w_derT, w_derB, w_derI, w_derN, w_derS, w_eqSS, w_eqBB, w_neSS, w_neBB, w_eqBI, w_eqIN, w_neIN, w_eqNI, w_neNI, w_eqNN, w_neNN, w_NN, w_NI, w_IN])
  refine ⟨isi_ty T.ck_Kind hx _, ?_⟩
  have e := isI_int (x := x)
  cases h : isiR x (.ty .int) with
  | true =>
    rw [h, if_pos rfl] at e
    rw [if_pos rfl, e]
    exact ⟨isi_ty T.ck_Kind hx _, endD_of hQ⟩
  | false =>
    rw [h, if_neg Bool.false_ne_true] at e
    rw [if_neg Bool.false_ne_true, e]
    exact endD_of hQ
abbrev betw (x : Dat) (lo hi : Int) : Bool := match x with
  | .int i => decide (lo ≤ i ∧ i ≤ hi)
  | _ => false
abbrev sp_between (C : Addr) : SpD := fun ds M Q => ∃ x lo hi, ds = [x, .int lo, .int hi] ∧ OneC C x ∧ Q (.bl (betw x lo hi)) M
theorem ok_is_between (T : Txt K mg C_Kind) (F_is_integer : FnD P w K mg base 1 "is_integer" s_is_integer ["value"] (sp_isint C_Kind)) : FnD P w K mg base 2 "is_between" s_is_between ["value", "low", "high"] (sp_between C_Kind) := by
  refine fn_mk T.h_is_between sc_is_between 3 rfl (by intro ds M Q h; first | (obtain ⟨rfl, _⟩ := h; rfl) | (obtain ⟨_, rfl, _⟩ := h; rfl) | (obtain ⟨_, _, rfl, _⟩ := h; rfl) | (obtain ⟨_, _, _, rfl, _⟩ := h; rfl) | (obtain ⟨_, _, _, _, rfl, _⟩ := h; rfl) | (obtain ⟨_, _, _, _, _, rfl, _⟩ := h; rfl) | (obtain ⟨_, _, _, _, _, _, rfl, _⟩ := h; rfl) | (obtain ⟨_, _, _, _, _, _, _, rfl, _⟩ := h; rfl) | (obtain ⟨_, _, _, _, _, _, _, _, rfl, _⟩ := h; rfl) | (obtain ⟨_, _, _, _, _, _, _, _, _, rfl, _⟩ := h; rfl) | (obtain ⟨_, _, _, _, _, _, _, _, _, _, rfl, _⟩ := h; rfl) | (obtain ⟨_, _, _, _, _, _, _, _, _, _, _, rfl, _⟩ := h; rfl) | (obtain ⟨_, _, _, _, _, _, _, _, _, _, _, _, rfl, _⟩ := h; rfl)) (fun f cdv A outer s H E hr => ⟨_, (dss_one (ds_ret (de_and (de_call F_is_integer hr (da_cons (dv 0) da_nil)) (de_one (de_chain od_le od_le (dv 1) (dv 0) (dv 2)))))), ?_⟩)
  rintro ds M Q ⟨x, lo, hi, rfl, hx, hQ⟩
  (try simp only [dgU, w_lrg, dCut, dDGet, dDGet1, dDGet2, dDPut, dPairs, w_disp, w_newDF, w_newDT, dec_self, List.map_cons, List.map_nil, eqD_bl, eqD_int, eqD_str, eqD_tup, eqD_lst, eqDs_nil, eqDs_nc, eqDs_cn, eqDs_cons, reduceIte, Bool.false_eq_true, Bool.not_true, Bool.not_false, decide_true, decide_false, dVar, atD, setD, startD, dC, dOp, dAnd, dOr, dNot, dIf, dUn, dNil, dCons, dTup, dLst, rInD, rNotInD, dNoPart, dPart, dRev, dFld, DL.fieldsOf, dCB, dNext, dSeq, dBreak, dCont, dDrop, dRet, dRetN, dIfS, dNever, dgN, dgNil, dgCons, dgSub, dAsg, dPar, dPar3, putD, dSetF, dMt, rAppendD, rPopD, rExtendD, lsT, lsR, lsF, itemsR, dFrz, dCall, dCallK, dMeth, dMake, dFor, dIL, dIT, dIR1, dIR2, dIE, dIZ, wipeD, dYes, dLc, dDic0, updM_same, cxOf, asBl_bl, asInt_int, asTup_tup, isN, w_test, w_chain, w_andV, w_orV, w_notV, w_neg, w_sub, w_div, w_mod, w_pow, w_shl, w_shr, w_and, w_or, w_xor, w_lt, w_le, w_gt, w_ge, w_add, w_addS, w_addT, w_addL, w_addF, w_addR, w_mul, w_mulL, w_eq, w_ne, w_isN, w_isB, w_isntN, w_isntB, w_ix, w_isi, w_abs, w_max2, w_min2, w_max1L, w_min1L, w_sum, w_all, w_any, w_len, w_int, w_intB, w_divmod, w_sorted, w_list, w_bits, w_sl, w_slL, w_slF, w_slR, w_slT, w_newF, w_newT, w_eqL, w_eqT, w_eqR, w_neL, w_neT, w_neR, w_dgT, w_derL, w_derT, w_derB, w_derI, w_derN, w_derS, w_eqSS, w_eqBB, w_neSS, w_neBB, w_eqBI, w_eqIN, w_neIN, w_eqNI, w_neNI, w_eqNN, w_neNN, w_NN, w_NI, w_IN])
  refine ⟨x, rfl, hx, ?_⟩
  cases x with
  | int i =>
    simp only [isIntD]
    (try simp only [dgU, w_lrg, dCut, dDGet, dDGet1, dDGet2, dDPut, dPairs, w_disp, w_newDF, w_newDT, dec_self, List.map_cons, List.map_nil, eqD_bl, eqD_int, eqD_str, eqD_tup, eqD_lst, eqDs_nil, eqDs_nc, eqDs_cn, eqDs_cons, reduceIte, Bool.false_eq_true, Bool.not_true, Bool.not_false, decide_true, decide_false, dVar, atD, setD, startD, dC, dOp, dAnd, dOr, dNot, dIf, dUn, dNil, dCons, dTup, dLst, rInD, rNotInD, dNoPart, dPart, dRev, dFld, DL.fieldsOf, dCB, dNext, dSeq, dBreak, dCont, dDrop, dRet, dRetN, dIfS, dNever, dgN, dgNil, dgCons, dgSub, dAsg, dPar, dPar3, putD, dSetF, dMt, rAppendD, rPopD, rExtendD, lsT, lsR, lsF, itemsR, dFrz, dCall, dCallK, dMeth, dMake, dFor, dIL, dIT, dIR1, dIR2, dIE, dIZ, wipeD, dYes, dLc, dDic0, updM_same, cxOf, asBl_bl, asInt_int, asTup_tup, isN, w_test, w_chain, w_andV, w_orV, w_notV, w_neg, w_sub, w_div, w_mod, w_pow, w_shl, w_shr, w_and, w_or, w_xor, w_lt, w_le, w_gt, w_ge, w_add, w_addS, w_addT, w_addL, w_addF, w_addR, w_mul, w_mulL, w_eq, w_ne, w_isN, w_isB, w_isntN, w_isntB, w_ix, w_isi, w_abs, w_max2, w_min2, w_max1L, w_min1L, w_sum, w_all, w_any, w_len, w_int, w_intB, w_divmod, w_sorted, w_list, w_bits, w_sl, w_slL, w_slF, w_slR, w_slT, w_newF, w_newT, w_eqL, w_eqT, w_eqR, w_neL, w_neT, w_neR, w_dgT, w_derL, w_derT, w_derB, w_derI, w_derN, w_derS, w_eqSS, w_eqBB, w_neSS, w_neBB, w_eqBI, w_eqIN, w_neIN, w_eqNI, w_neNI, w_eqNN, w_neNN, w_NN, w_NI, w_IN])
    by_cases h : lo ≤ i
    · simp only [h]
      (try simp only [dgU, w_lrg, dCut, dDGet, dDGet1, dDGet2, dDPut, dPairs, w_disp, w_newDF, w_newDT, dec_self, List.map_cons, List.map_nil, eqD_bl, eqD_int, eqD_str, eqD_tup, eqD_lst, eqDs_nil, eqDs_nc, eqDs_cn, eqDs_cons, reduceIte, Bool.false_eq_true, Bool.not_true, Bool.not_false, decide_true, decide_false, dVar, atD, setD, startD, dC, dOp, dAnd, dOr, dNot, dIf, dUn, dNil, dCons, dTup, dLst, rInD, rNotInD, dNoPart, dPart, dRev, dFld, DL.fieldsOf, dCB, dNext, dSeq, dBreak, dCont, dDrop, dRet, dRetN, dIfS, dNever, dgN, dgNil, dgCons, dgSub, dAsg, dPar, dPar3, putD, dSetF, dMt, rAppendD, rPopD, rExtendD, lsT, lsR, lsF, itemsR, dFrz, dCall, dCallK, dMeth, dMake, dFor, dIL, dIT, dIR1, dIR2, dIE, dIZ, wipeD, dYes, dLc, dDic0, updM_same, cxOf, asBl_bl, asInt_int, asTup_tup, isN, w_test, w_chain, w_andV, w_orV, w_notV, w_neg, w_sub, w_div, w_mod, w_pow, w_shl, w_shr, w_and, w_or, w_xor, w_lt, w_le, w_gt, w_ge, w_add, w_addS, w_addT, w_addL, w_addF, w_addR, w_mul, w_mulL, w_eq, w_ne, w_isN, w_isB, w_isntN, w_isntB, w_ix, w_isi, w_abs, w_max2, w_min2, w_max1L, w_min1L, w_sum, w_all, w_any, w_len, w_int, w_intB, w_divmod, w_sorted, w_list, w_bits, w_sl, w_slL, w_slF, w_slR, w_slT, w_newF, w_newT, w_eqL, w_eqT, w_eqR, w_neL, w_neT, w_neR, w_dgT, w_derL, w_derT, w_derB, w_derI, w_derN, w_derS, w_eqSS, w_eqBB, w_neSS, w_neBB, w_eqBI, w_eqIN, w_neIN, w_eqNI, w_neNI, w_eqNN, w_neNN, w_NN, w_NI, w_IN])
      refine endD_of ?_
      simpa [betw, h] using hQ
    · simp only [h]
      (try simp only [dgU, w_lrg, dCut, dDGet, dDGet1, dDGet2, dDPut, dPairs, w_disp, w_newDF, w_newDT, dec_self, List.map_cons, List.map_nil, eqD_bl, eqD_int, eqD_str, eqD_tup, eqD_lst, eqDs_nil, eqDs_nc, eqDs_cn, eqDs_cons, reduceIte, Bool.false_eq_true, Bool.not_true, Bool.not_false, decide_true, decide_false, dVar, atD, setD, startD, dC, dOp, dAnd, dOr, dNot, dIf, dUn, dNil, dCons, dTup, dLst, rInD, rNotInD, dNoPart, dPart, dRev, dFld, DL.fieldsOf, dCB, dNext, dSeq, dBreak, dCont, dDrop, dRet, dRetN, dIfS, dNever, dgN, dgNil, dgCons, dgSub, dAsg, dPar, dPar3, putD, dSetF, dMt, rAppendD, rPopD, rExtendD, lsT, lsR, lsF, itemsR, dFrz, dCall, dCallK, dMeth, dMake, dFor, dIL, dIT, dIR1, dIR2, dIE, dIZ, wipeD, dYes, dLc, dDic0, updM_same, cxOf, asBl_bl, asInt_int, asTup_tup, isN, w_test, w_chain, w_andV, w_orV, w_notV, w_neg, w_sub, w_div, w_mod, w_pow, w_shl, w_shr, w_and, w_or, w_xor, w_lt, w_le, w_gt, w_ge, w_add, w_addS, w_addT, w_addL, w_addF, w_addR, w_mul, w_mulL, w_eq, w_ne, w_isN, w_isB, w_isntN, w_isntB, w_ix, w_isi, w_abs, w_max2, w_min2, w_max1L, w_min1L, w_sum, w_all, w_any, w_len, w_int, w_intB, w_divmod, w_sorted, w_list, w_bits, w_sl, w_slL, w_slF, w_slR, w_slT, w_newF, w_newT, w_eqL, w_eqT, w_eqR, w_neL, w_neT, w_neR, w_dgT, w_derL, w_derT, w_derB, w_derI, w_derN, w_derS, w_eqSS, w_eqBB, w_neSS, w_neBB, w_eqBI, w_eqIN, w_neIN, w_eqNI, w_neNI, w_eqNN, w_neNN, w_NN, w_NI, w_IN])
      refine endD_of ?_
      simpa [betw, h] using hQ
  | _ => exact endD_of hQ
abbrev sp_chk : SpD := fun ds M Q => ∃ d n, ds = [d, .int n] ∧ Q .non M
abbrev sp_init (C : Addr) : SpD := fun ds M Q => ∃ (a : Addr) (b : Nat) (s : Bool), ds = [.ref a, .int (b : Nat), .bl s] ∧ Wd b ∧ M a = some (.ins C []) ∧ Q .non (updM M a (.ins C [("bits", .int (b : Nat)), ("is_signed", .bl s)]))
theorem ok_Kind_init (T : Txt K mg C_Kind) (F_is_between : FnD P w K mg base 2 "is_between" s_is_between ["value", "low", "high"] (sp_between C_Kind)) : ClD P w K mg base 3 "Kind" C_Kind s_Kind_init ["self", "bits", "is_signed"] (sp_init C_Kind) := by
  refine cl_mk T.h_Kind_init sc_Kind_init 3 rfl (by intro ds M Q h; first | (obtain ⟨rfl, _⟩ := h; rfl) | (obtain ⟨_, rfl, _⟩ := h; rfl) | (obtain ⟨_, _, rfl, _⟩ := h; rfl) | (obtain ⟨_, _, _, rfl, _⟩ := h; rfl) | (obtain ⟨_, _, _, _, rfl, _⟩ := h; rfl) | (obtain ⟨_, _, _, _, _, rfl, _⟩ := h; rfl) | (obtain ⟨_, _, _, _, _, _, rfl, _⟩ := h; rfl) | (obtain ⟨_, _, _, _, _, _, _, rfl, _⟩ := h; rfl) | (obtain ⟨_, _, _, _, _, _, _, _, rfl, _⟩ := h; rfl) | (obtain ⟨_, _, _, _, _, _, _, _, _, rfl, _⟩ := h; rfl) | (obtain ⟨_, _, _, _, _, _, _, _, _, _, rfl, _⟩ := h; rfl) | (obtain ⟨_, _, _, _, _, _, _, _, _, _, _, rfl, _⟩ := h; rfl) | (obtain ⟨_, _, _, _, _, _, _, _, _, _, _, _, rfl, _⟩ := h; rfl)) (fun f cdv A outer s H E hr => ⟨_, (dss_cons (ds_if (dt_not (dt_val (de_call F_is_between hr (da_cons (dv 1) (da_cons de_int (da_cons (de_gint (by rfl) T.g_MOST_BITS) da_nil))))))
    (dss_one ds_never)
    dss_nil)
    (dss_cons (ds_if (dt_not (dt_val (de_cb ((cd_isiK K rfl)) (by rfl) T.b_isinstance (by decide +kernel) (da_cons (dv 2) (da_cons (de_ty .bool (by rfl) T.b_bool (by decide +kernel)) da_nil)))))
    (dss_one ds_never)
    dss_nil)
    (dss_cons (ds_setF (C := C_Kind) T.cl_Kind T.nf_Kind_bits (dv 0) (dv 1))
    (dss_one (ds_setF (C := C_Kind) T.cl_Kind T.nf_Kind_is_signed (dv 0) (dv 2)))))), ?_⟩)
  rintro ds M Q ⟨a, b, s, rfl, hb, hM, hQ⟩
  (try simp only [dgU, w_lrg, dCut, dDGet, dDGet1, dDGet2, dDPut, dPairs, w_disp, w_newDF, w_newDT, dec_self, List.map_cons, List.map_nil, eqD_bl, eqD_int, eqD_str, eqD_tup, eqD_lst, eqDs_nil, eqDs_nc, eqDs_cn, eqDs_cons, reduceIte, Bool.false_eq_true, Bool.not_true, Bool.not_false, decide_true, decide_false, dVar, atD, setD, startD, dC, dOp, dAnd, dOr, dNot, dIf, dUn, dNil, dCons, dTup, dLst, rInD, rNotInD, dNoPart, dPart, dRev, dFld, DL.fieldsOf, dCB, dNext, dSeq, dBreak, dCont, dDrop, dRet, dRetN, dIfS, dNever, dgN, dgNil, dgCons, dgSub, dAsg, dPar, dPar3, putD, dSetF, dMt, rAppendD, rPopD, rExtendD, lsT, lsR, lsF, itemsR, dFrz, dCall, dCallK, dMeth, dMake, dFor, dIL, dIT, dIR1, dIR2, dIE, dIZ, wipeD, dYes, dLc, dDic0, updM_same, cxOf, asBl_bl, asInt_int, asTup_tup, isN, w_test, w_chain, w_andV, w_orV, w_notV, w_neg, w_sub, w_div, w_mod, w_pow, w_shl, w_shr, w_and, w_or, w_xor, w_lt, w_le, w_gt, w_ge, w_add, w_addS, w_addT, w_addL, w_addF, w_addR, w_mul, w_mulL, w_eq, w_ne, w_isN, w_isB, w_isntN, w_isntB, w_ix, w_isi, w_abs, w_max2, w_min2, w_max1L, w_min1L, w_sum, w_all, w_any, w_len, w_int, w_intB, w_divmod, w_sorted, w_list, w_bits, w_sl, w_slL, w_slF, w_slR, w_slT, w_newF, w_newT, w_eqL, w_eqT, w_eqR, w_neL, w_neT, w_neR, w_dgT, w_derL, w_derT, w_derB, w_derI, w_derN, w_derS, w_eqSS, w_eqBB, w_neSS, w_neBB, w_eqBI, w_eqIN, w_neIN, w_eqNI, w_neNI, w_eqNN, w_neNN, w_NN, w_NI, w_IN])
  refine ⟨_, _, _, rfl, trivial, ?_⟩
  have e : betw (.int (b : Nat)) 1 128 = true := by simp only [betw]; exact decide_eq_true (by omega)
  rw [e]
  (try simp only [dgU, w_lrg, dCut, dDGet, dDGet1, dDGet2, dDPut, dPairs, w_disp, w_newDF, w_newDT, dec_self, List.map_cons, List.map_nil, eqD_bl, eqD_int, eqD_str, eqD_tup, eqD_lst, eqDs_nil, eqDs_nc, eqDs_cn, eqDs_cons, reduceIte, Bool.false_eq_true, Bool.not_true, Bool.not_false, decide_true, decide_false, dVar, atD, setD, startD, dC, dOp, dAnd, dOr, dNot, dIf, dUn, dNil, dCons, dTup, dLst, rInD, rNotInD, dNoPart, dPart, dRev, dFld, DL.fieldsOf, dCB, dNext, dSeq, dBreak, dCont, dDrop, dRet, dRetN, dIfS, dNever, dgN, dgNil, dgCons, dgSub, dAsg, dPar, dPar3, putD, dSetF, dMt, rAppendD, rPopD, rExtendD, lsT, lsR, lsF, itemsR, dFrz, dCall, dCallK, dMeth, dMake, dFor, dIL, dIT, dIR1, dIR2, dIE, dIZ, wipeD, dYes, dLc, dDic0, updM_same, cxOf, asBl_bl, asInt_int, asTup_tup, isN, w_test, w_chain, w_andV, w_orV, w_notV, w_neg, w_sub, w_div, w_mod, w_pow, w_shl, w_shr, w_and, w_or, w_xor, w_lt, w_le, w_gt, w_ge, w_add, w_addS, w_addT, w_addL, w_addF, w_addR, w_mul, w_mulL, w_eq, w_ne, w_isN, w_isB, w_isntN, w_isntB, w_ix, w_isi, w_abs, w_max2, w_min2, w_max1L, w_min1L, w_sum, w_all, w_any, w_len, w_int, w_intB, w_divmod, w_sorted, w_list, w_bits, w_sl, w_slL, w_slF, w_slR, w_slT, w_newF, w_newT, w_eqL, w_eqT, w_eqR, w_neL, w_neT, w_neR, w_dgT, w_derL, w_derT, w_derB, w_derI, w_derN, w_derS, w_eqSS, w_eqBB, w_neSS, w_neBB, w_eqBI, w_eqIN, w_neIN, w_eqNI, w_neNI, w_eqNN, w_neNN, w_NN, w_NI, w_IN])
  refine ⟨isi_ty T.ck_Kind (x := .bl s) trivial _, ?_⟩
  rw [show isiR (.bl s) (.ty .bool) = true by rfl]
  (try simp only [dgU, w_lrg, dCut, dDGet, dDGet1, dDGet2, dDPut, dPairs, w_disp, w_newDF, w_newDT, dec_self, List.map_cons, List.map_nil, eqD_bl, eqD_int, eqD_str, eqD_tup, eqD_lst, eqDs_nil, eqDs_nc, eqDs_cn, eqDs_cons, reduceIte, Bool.false_eq_true, Bool.not_true, Bool.not_false, decide_true, decide_false, dVar, atD, setD, startD, dC, dOp, dAnd, dOr, dNot, dIf, dUn, dNil, dCons, dTup, dLst, rInD, rNotInD, dNoPart, dPart, dRev, dFld, DL.fieldsOf, dCB, dNext, dSeq, dBreak, dCont, dDrop, dRet, dRetN, dIfS, dNever, dgN, dgNil, dgCons, dgSub, dAsg, dPar, dPar3, putD, dSetF, dMt, rAppendD, rPopD, rExtendD, lsT, lsR, lsF, itemsR, dFrz, dCall, dCallK, dMeth, dMake, dFor, dIL, dIT, dIR1, dIR2, dIE, dIZ, wipeD, dYes, dLc, dDic0, updM_same, cxOf, asBl_bl, asInt_int, asTup_tup, isN, w_test, w_chain, w_andV, w_orV, w_notV, w_neg, w_sub, w_div, w_mod, w_pow, w_shl, w_shr, w_and, w_or, w_xor, w_lt, w_le, w_gt, w_ge, w_add, w_addS, w_addT, w_addL, w_addF, w_addR, w_mul, w_mulL, w_eq, w_ne, w_isN, w_isB, w_isntN, w_isntB, w_ix, w_isi, w_abs, w_max2, w_min2, w_max1L, w_min1L, w_sum, w_all, w_any, w_len, w_int, w_intB, w_divmod, w_sorted, w_list, w_bits, w_sl, w_slL, w_slF, w_slR, w_slT, w_newF, w_newT, w_eqL, w_eqT, w_eqR, w_neL, w_neT, w_neR, w_dgT, w_derL, w_derT, w_derB, w_derI, w_derN, w_derS, w_eqSS, w_eqBB, w_neSS, w_neBB, w_eqBI, w_eqIN, w_neIN, w_eqNI, w_neNI, w_eqNN, w_neNN, w_NN, w_NI, w_IN])
  refine ⟨_, hM, by decide, _, rfl, (by decide : 1 < 1000), endD_of ?_⟩
  (try simp only [dgU, w_lrg, dCut, dDGet, dDGet1, dDGet2, dDPut, dPairs, w_disp, w_newDF, w_newDT, dec_self, List.map_cons, List.map_nil, eqD_bl, eqD_int, eqD_str, eqD_tup, eqD_lst, eqDs_nil, eqDs_nc, eqDs_cn, eqDs_cons, reduceIte, Bool.false_eq_true, Bool.not_true, Bool.not_false, decide_true, decide_false, dVar, atD, setD, startD, dC, dOp, dAnd, dOr, dNot, dIf, dUn, dNil, dCons, dTup, dLst, rInD, rNotInD, dNoPart, dPart, dRev, dFld, DL.fieldsOf, dCB, dNext, dSeq, dBreak, dCont, dDrop, dRet, dRetN, dIfS, dNever, dgN, dgNil, dgCons, dgSub, dAsg, dPar, dPar3, putD, dSetF, dMt, rAppendD, rPopD, rExtendD, lsT, lsR, lsF, itemsR, dFrz, dCall, dCallK, dMeth, dMake, dFor, dIL, dIT, dIR1, dIR2, dIE, dIZ, wipeD, dYes, dLc, dDic0, updM_same, cxOf, asBl_bl, asInt_int, asTup_tup, isN, w_test, w_chain, w_andV, w_orV, w_notV, w_neg, w_sub, w_div, w_mod, w_pow, w_shl, w_shr, w_and, w_or, w_xor, w_lt, w_le, w_gt, w_ge, w_add, w_addS, w_addT, w_addL, w_addF, w_addR, w_mul, w_mulL, w_eq, w_ne, w_isN, w_isB, w_isntN, w_isntB, w_ix, w_isi, w_abs, w_max2, w_min2, w_max1L, w_min1L, w_sum, w_all, w_any, w_len, w_int, w_intB, w_divmod, w_sorted, w_list, w_bits, w_sl, w_slL, w_slF, w_slR, w_slT, w_newF, w_newT, w_eqL, w_eqT, w_eqR, w_neL, w_neT, w_neR, w_dgT, w_derL, w_derT, w_derB, w_derI, w_derN, w_derS, w_eqSS, w_eqBB, w_neSS, w_neBB, w_eqBI, w_eqIN, w_neIN, w_eqNI, w_neNI, w_eqNN, w_neNN, w_NN, w_NI, w_IN])
  rw [updM_updM]
  exact hQ
abbrev sp_parts (C : Addr) : SpD := fun ds M Q => ∃ (b : Nat) (s : Bool), ds = [kindD C b s] ∧ Q (.tup [.int (b : Nat), .bl s]) M
theorem ok_Kind_parts (T : Txt K mg C_Kind) : MtdD P w K mg base 1 C_Kind "parts" s_Kind_parts ["self"] (sp_parts C_Kind) := by
  refine mt_mk T.h_Kind_parts sc_Kind_parts 1 rfl (by intro ds M Q h; first | (obtain ⟨rfl, _⟩ := h; rfl) | (obtain ⟨_, rfl, _⟩ := h; rfl) | (obtain ⟨_, _, rfl, _⟩ := h; rfl) | (obtain ⟨_, _, _, rfl, _⟩ := h; rfl) | (obtain ⟨_, _, _, _, rfl, _⟩ := h; rfl) | (obtain ⟨_, _, _, _, _, rfl, _⟩ := h; rfl) | (obtain ⟨_, _, _, _, _, _, rfl, _⟩ := h; rfl) | (obtain ⟨_, _, _, _, _, _, _, rfl, _⟩ := h; rfl) | (obtain ⟨_, _, _, _, _, _, _, _, rfl, _⟩ := h; rfl) | (obtain ⟨_, _, _, _, _, _, _, _, _, rfl, _⟩ := h; rfl) | (obtain ⟨_, _, _, _, _, _, _, _, _, _, rfl, _⟩ := h; rfl) | (obtain ⟨_, _, _, _, _, _, _, _, _, _, _, rfl, _⟩ := h; rfl) | (obtain ⟨_, _, _, _, _, _, _, _, _, _, _, _, rfl, _⟩ := h; rfl)) (fun f cdv A outer s H E hr => ⟨_, (dss_one (ds_ret (de_tup (da_cons (de_fld C_Kind 0 T.cl_Kind T.nf_Kind_bits (dv 0)) (da_cons (de_fld C_Kind 1 T.cl_Kind T.nf_Kind_is_signed (dv 0)) da_nil))))), ?_⟩)
  rintro ds M Q ⟨b, s, rfl, hQ⟩
  (try simp only [dgU, w_lrg, dCut, dDGet, dDGet1, dDGet2, dDPut, dPairs, w_disp, w_newDF, w_newDT, dec_self, List.map_cons, List.map_nil, eqD_bl, eqD_int, eqD_str, eqD_tup, eqD_lst, eqDs_nil, eqDs_nc, eqDs_cn, eqDs_cons, reduceIte, Bool.false_eq_true, Bool.not_true, Bool.not_false, decide_true, decide_false, dVar, atD, setD, startD, dC, dOp, dAnd, dOr, dNot, dIf, dUn, dNil, dCons, dTup, dLst, rInD, rNotInD, dNoPart, dPart, dRev, dFld, DL.fieldsOf, dCB, dNext, dSeq, dBreak, dCont, dDrop, dRet, dRetN, dIfS, dNever, dgN, dgNil, dgCons, dgSub, dAsg, dPar, dPar3, putD, dSetF, dMt, rAppendD, rPopD, rExtendD, lsT, lsR, lsF, itemsR, dFrz, dCall, dCallK, dMeth, dMake, dFor, dIL, dIT, dIR1, dIR2, dIE, dIZ, wipeD, dYes, dLc, dDic0, updM_same, cxOf, asBl_bl, asInt_int, asTup_tup, isN, w_test, w_chain, w_andV, w_orV, w_notV, w_neg, w_sub, w_div, w_mod, w_pow, w_shl, w_shr, w_and, w_or, w_xor, w_lt, w_le, w_gt, w_ge, w_add, w_addS, w_addT, w_addL, w_addF, w_addR, w_mul, w_mulL, w_eq, w_ne, w_isN, w_isB, w_isntN, w_isntB, w_ix, w_isi, w_abs, w_max2, w_min2, w_max1L, w_min1L, w_sum, w_all, w_any, w_len, w_int, w_intB, w_divmod, w_sorted, w_list, w_bits, w_sl, w_slL, w_slF, w_slR, w_slT, w_newF, w_newT, w_eqL, w_eqT, w_eqR, w_neL, w_neT, w_neR, w_dgT, w_derL, w_derT, w_derB, w_derI, w_derN, w_derS, w_eqSS, w_eqBB, w_neSS, w_neBB, w_eqBI, w_eqIN, w_neIN, w_eqNI, w_neNI, w_eqNN, w_neNN, w_NN, w_NI, w_IN])
  exact ⟨_, _, rfl, rfl, _, _, rfl, rfl, by show 2 ≤ _; decide, endD_of hQ⟩
abbrev sp_eq (C : Addr) : SpD := fun ds M Q => ∃ (b : Nat) (s : Bool) (b2 : Nat) (s2 : Bool), ds = [kindD C b s, kindD C b2 s2] ∧ Q (.bl (decide (b = b2 ∧ s = s2))) M
theorem ok_Kind_eq (T : Txt K mg C_Kind) (F_Kind_parts : MtdD P w K mg base 1 C_Kind "parts" s_Kind_parts ["self"] (sp_parts C_Kind)) : MtdD P w K mg base 2 C_Kind "__eq__" s_Kind_eq ["self", "other"] (sp_eq C_Kind) := by
  refine mt_mk T.h_Kind_eq sc_Kind_eq 2 rfl (by intro ds M Q h; first | (obtain ⟨rfl, _⟩ := h; rfl) | (obtain ⟨_, rfl, _⟩ := h; rfl) | (obtain ⟨_, _, rfl, _⟩ := h; rfl) | (obtain ⟨_, _, _, rfl, _⟩ := h; rfl) | (obtain ⟨_, _, _, _, rfl, _⟩ := h; rfl) | (obtain ⟨_, _, _, _, _, rfl, _⟩ := h; rfl) | (obtain ⟨_, _, _, _, _, _, rfl, _⟩ := h; rfl) | (obtain ⟨_, _, _, _, _, _, _, rfl, _⟩ := h; rfl) | (obtain ⟨_, _, _, _, _, _, _, _, rfl, _⟩ := h; rfl) | (obtain ⟨_, _, _, _, _, _, _, _, _, rfl, _⟩ := h; rfl) | (obtain ⟨_, _, _, _, _, _, _, _, _, _, rfl, _⟩ := h; rfl) | (obtain ⟨_, _, _, _, _, _, _, _, _, _, _, rfl, _⟩ := h; rfl) | (obtain ⟨_, _, _, _, _, _, _, _, _, _, _, _, rfl, _⟩ := h; rfl)) (fun f cdv A outer s H E hr => ⟨_, (dss_one (ds_ret (de_and (de_cb ((cd_isiK K rfl)) (by rfl) T.b_isinstance (by decide +kernel) (da_cons (dv 1) (da_cons (de_cls (by rfl) T.mg_Kind) da_nil))) (de_one (de_cmp (od_eq hr.units) (de_meth0 F_Kind_parts T.cl_Kind hr (dv 0)) (de_meth0 F_Kind_parts T.cl_Kind hr (dv 1))))))), ?_⟩)
  rintro ds M Q ⟨b, s, b2, s2, rfl, hQ⟩
  (try simp only [dgU, w_lrg, dCut, dDGet, dDGet1, dDGet2, dDPut, dPairs, w_disp, w_newDF, w_newDT, dec_self, List.map_cons, List.map_nil, eqD_bl, eqD_int, eqD_str, eqD_tup, eqD_lst, eqDs_nil, eqDs_nc, eqDs_cn, eqDs_cons, reduceIte, Bool.false_eq_true, Bool.not_true, Bool.not_false, decide_true, decide_false, dVar, atD, setD, startD, dC, dOp, dAnd, dOr, dNot, dIf, dUn, dNil, dCons, dTup, dLst, rInD, rNotInD, dNoPart, dPart, dRev, dFld, DL.fieldsOf, dCB, dNext, dSeq, dBreak, dCont, dDrop, dRet, dRetN, dIfS, dNever, dgN, dgNil, dgCons, dgSub, dAsg, dPar, dPar3, putD, dSetF, dMt, rAppendD, rPopD, rExtendD, lsT, lsR, lsF, itemsR, dFrz, dCall, dCallK, dMeth, dMake, dFor, dIL, dIT, dIR1, dIR2, dIE, dIZ, wipeD, dYes, dLc, dDic0, updM_same, cxOf, asBl_bl, asInt_int, asTup_tup, isN, w_test, w_chain, w_andV, w_orV, w_notV, w_neg, w_sub, w_div, w_mod, w_pow, w_shl, w_shr, w_and, w_or, w_xor, w_lt, w_le, w_gt, w_ge, w_add, w_addS, w_addT, w_addL, w_addF, w_addR, w_mul, w_mulL, w_eq, w_ne, w_isN, w_isB, w_isntN, w_isntB, w_ix, w_isi, w_abs, w_max2, w_min2, w_max1L, w_min1L, w_sum, w_all, w_any, w_len, w_int, w_intB, w_divmod, w_sorted, w_list, w_bits, w_sl, w_slL, w_slF, w_slR, w_slT, w_newF, w_newT, w_eqL, w_eqT, w_eqR, w_neL, w_neT, w_neR, w_dgT, w_derL, w_derT, w_derB, w_derI, w_derN, w_derS, w_eqSS, w_eqBB, w_neSS, w_neBB, w_eqBI, w_eqIN, w_neIN, w_eqNI, w_neNI, w_eqNN, w_neNN, w_NN, w_NI, w_IN])
  refine ⟨isi_cls T.ck_Kind rfl, ?_⟩
  simp only [isiR]
  (try simp only [dgU, w_lrg, dCut, dDGet, dDGet1, dDGet2, dDPut, dPairs, w_disp, w_newDF, w_newDT, dec_self, List.map_cons, List.map_nil, eqD_bl, eqD_int, eqD_str, eqD_tup, eqD_lst, eqDs_nil, eqDs_nc, eqDs_cn, eqDs_cons, reduceIte, Bool.false_eq_true, Bool.not_true, Bool.not_false, decide_true, decide_false, dVar, atD, setD, startD, dC, dOp, dAnd, dOr, dNot, dIf, dUn, dNil, dCons, dTup, dLst, rInD, rNotInD, dNoPart, dPart, dRev, dFld, DL.fieldsOf, dCB, dNext, dSeq, dBreak, dCont, dDrop, dRet, dRetN, dIfS, dNever, dgN, dgNil, dgCons, dgSub, dAsg, dPar, dPar3, putD, dSetF, dMt, rAppendD, rPopD, rExtendD, lsT, lsR, lsF, itemsR, dFrz, dCall, dCallK, dMeth, dMake, dFor, dIL, dIT, dIR1, dIR2, dIE, dIZ, wipeD, dYes, dLc, dDic0, updM_same, cxOf, asBl_bl, asInt_int, asTup_tup, isN, w_test, w_chain, w_andV, w_orV, w_notV, w_neg, w_sub, w_div, w_mod, w_pow, w_shl, w_shr, w_and, w_or, w_xor, w_lt, w_le, w_gt, w_ge, w_add, w_addS, w_addT, w_addL, w_addF, w_addR, w_mul, w_mulL, w_eq, w_ne, w_isN, w_isB, w_isntN, w_isntB, w_ix, w_isi, w_abs, w_max2, w_min2, w_max1L, w_min1L, w_sum, w_all, w_any, w_len, w_int, w_intB, w_divmod, w_sorted, w_list, w_bits, w_sl, w_slL, w_slF, w_slR, w_slT, w_newF, w_newT, w_eqL, w_eqT, w_eqR, w_neL, w_neT, w_neR, w_dgT, w_derL, w_derT, w_derB, w_derI, w_derN, w_derS, w_eqSS, w_eqBB, w_neSS, w_neBB, w_eqBI, w_eqIN, w_neIN, w_eqNI, w_neNI, w_eqNN, w_neNN, w_NN, w_NI, w_IN])
  refine ⟨⟨_, rfl, by rfl⟩, b, s, rfl, ⟨_, rfl, by rfl⟩, b2, s2, rfl, ?_⟩
  (try simp only [dgU, w_lrg, dCut, dDGet, dDGet1, dDGet2, dDPut, dPairs, w_disp, w_newDF, w_newDT, dec_self, List.map_cons, List.map_nil, eqD_bl, eqD_int, eqD_str, eqD_tup, eqD_lst, eqDs_nil, eqDs_nc, eqDs_cn, eqDs_cons, reduceIte, Bool.false_eq_true, Bool.not_true, Bool.not_false, decide_true, decide_false, dVar, atD, setD, startD, dC, dOp, dAnd, dOr, dNot, dIf, dUn, dNil, dCons, dTup, dLst, rInD, rNotInD, dNoPart, dPart, dRev, dFld, DL.fieldsOf, dCB, dNext, dSeq, dBreak, dCont, dDrop, dRet, dRetN, dIfS, dNever, dgN, dgNil, dgCons, dgSub, dAsg, dPar, dPar3, putD, dSetF, dMt, rAppendD, rPopD, rExtendD, lsT, lsR, lsF, itemsR, dFrz, dCall, dCallK, dMeth, dMake, dFor, dIL, dIT, dIR1, dIR2, dIE, dIZ, wipeD, dYes, dLc, dDic0, updM_same, cxOf, asBl_bl, asInt_int, asTup_tup, isN, w_test, w_chain, w_andV, w_orV, w_notV, w_neg, w_sub, w_div, w_mod, w_pow, w_shl, w_shr, w_and, w_or, w_xor, w_lt, w_le, w_gt, w_ge, w_add, w_addS, w_addT, w_addL, w_addF, w_addR, w_mul, w_mulL, w_eq, w_ne, w_isN, w_isB, w_isntN, w_isntB, w_ix, w_isi, w_abs, w_max2, w_min2, w_max1L, w_min1L, w_sum, w_all, w_any, w_len, w_int, w_intB, w_divmod, w_sorted, w_list, w_bits, w_sl, w_slL, w_slF, w_slR, w_slT, w_newF, w_newT, w_eqL, w_eqT, w_eqR, w_neL, w_neT, w_neR, w_dgT, w_derL, w_derT, w_derB, w_derI, w_derN, w_derS, w_eqSS, w_eqBB, w_neSS, w_neBB, w_eqBI, w_eqIN, w_neIN, w_eqNI, w_neNI, w_eqNN, w_neNN, w_NN, w_NI, w_IN])
  refine ⟨by rfl, by rfl, endD_of ?_⟩
  have e : (decide ((b : Int) = (b2 : Int)) && (decide (s = s2) && true)) = decide (b = b2 ∧ s = s2) := by
    by_cases h1 : b = b2
    · subst h1
      by_cases h2 : s = s2 <;> simp [h2]
    · have : ¬ (b : Int) = (b2 : Int) := by omega
      simp [h1, this]
  rw [e]
  exact hQ
abbrev sp_chkk (C : Addr) : SpD := fun ds M Q => ∃ gs, ds = [.ins C gs] ∧ Q .non M
theorem ok_check_kind (T : Txt K mg C_Kind) : FnD P w K mg base 1 "check_kind" s_check_kind ["value"] (sp_chkk C_Kind) := by
  refine fn_mk T.h_check_kind sc_check_kind 1 rfl (by intro ds M Q h; first | (obtain ⟨rfl, _⟩ := h; rfl) | (obtain ⟨_, rfl, _⟩ := h; rfl) | (obtain ⟨_, _, rfl, _⟩ := h; rfl) | (obtain ⟨_, _, _, rfl, _⟩ := h; rfl) | (obtain ⟨_, _, _, _, rfl, _⟩ := h; rfl) | (obtain ⟨_, _, _, _, _, rfl, _⟩ := h; rfl) | (obtain ⟨_, _, _, _, _, _, rfl, _⟩ := h; rfl) | (obtain ⟨_, _, _, _, _, _, _, rfl, _⟩ := h; rfl) | (obtain ⟨_, _, _, _, _, _, _, _, rfl, _⟩ := h; rfl) | (obtain ⟨_, _, _, _, _, _, _, _, _, rfl, _⟩ := h; rfl) | (obtain ⟨_, _, _, _, _, _, _, _, _, _, rfl, _⟩ := h; rfl) | (obtain ⟨_, _, _, _, _, _, _, _, _, _, _, rfl, _⟩ := h; rfl) | (obtain ⟨_, _, _, _, _, _, _, _, _, _, _, _, rfl, _⟩ := h; rfl)) (fun f cdv A outer s H E hr => ⟨_, (dss_one (ds_if (dt_not (dt_val (de_cb ((cd_isiK K rfl)) (by rfl) T.b_isinstance (by decide +kernel) (da_cons (dv 0) (da_cons (de_cls (by rfl) T.mg_Kind) da_nil)))))
    (dss_one ds_never)
    dss_nil)), ?_⟩)
  rintro ds M Q ⟨gs, rfl, hQ⟩
  (try simp only [dgU, w_lrg, dCut, dDGet, dDGet1, dDGet2, dDPut, dPairs, w_disp, w_newDF, w_newDT, dec_self, List.map_cons, List.map_nil, eqD_bl, eqD_int, eqD_str, eqD_tup, eqD_lst, eqDs_nil, eqDs_nc, eqDs_cn, eqDs_cons, reduceIte, Bool.false_eq_true, Bool.not_true, Bool.not_false, decide_true, decide_false, dVar, atD, setD, startD, dC, dOp, dAnd, dOr, dNot, dIf, dUn, dNil, dCons, dTup, dLst, rInD, rNotInD, dNoPart, dPart, dRev, dFld, DL.fieldsOf, dCB, dNext, dSeq, dBreak, dCont, dDrop, dRet, dRetN, dIfS, dNever, dgN, dgNil, dgCons, dgSub, dAsg, dPar, dPar3, putD, dSetF, dMt, rAppendD, rPopD, rExtendD, lsT, lsR, lsF, itemsR, dFrz, dCall, dCallK, dMeth, dMake, dFor, dIL, dIT, dIR1, dIR2, dIE, dIZ, wipeD, dYes, dLc, dDic0, updM_same, cxOf, asBl_bl, asInt_int, asTup_tup, isN, w_test, w_chain, w_andV, w_orV, w_notV, w_neg, w_sub, w_div, w_mod, w_pow, w_shl, w_shr, w_and, w_or, w_xor, w_lt, w_le, w_gt, w_ge, w_add, w_addS, w_addT, w_addL, w_addF, w_addR, w_mul, w_mulL, w_eq, w_ne, w_isN, w_isB, w_isntN, w_isntB, w_ix, w_isi, w_abs, w_max2, w_min2, w_max1L, w_min1L, w_sum, w_all, w_any, w_len, w_int, w_intB, w_divmod, w_sorted, w_list, w_bits, w_sl, w_slL, w_slF, w_slR, w_slT, w_newF, w_newT, w_eqL, w_eqT, w_eqR, w_neL, w_neT, w_neR, w_dgT, w_derL, w_derT, w_derB, w_derI, w_derN, w_derS, w_eqSS, w_eqBB, w_neSS, w_neBB, w_eqBI, w_eqIN, w_neIN, w_eqNI, w_neNI, w_eqNN, w_neNN, w_NN, w_NI, w_IN])
  refine ⟨isi_cls T.ck_Kind rfl, ?_⟩
  simp only [isiR, decide_true, Bool.not_true, if_false]
  exact endD_of hQ
abbrev sp_size (C : Addr) : SpD := fun ds M Q => ∃ (b : Nat) (s : Bool), ds = [kindD C b s] ∧ Wd b ∧ Q (.int (2 ^ b)) M
theorem ok_size_of (T : Txt K mg C_Kind) : FnD P w K mg base 1 "size_of" s_size_of ["kind"] (sp_size C_Kind) := by
  refine fn_mk T.h_size_of sc_size_of 1 rfl (by intro ds M Q h; first | (obtain ⟨rfl, _⟩ := h; rfl) | (obtain ⟨_, rfl, _⟩ := h; rfl) | (obtain ⟨_, _, rfl, _⟩ := h; rfl) | (obtain ⟨_, _, _, rfl, _⟩ := h; rfl) | (obtain ⟨_, _, _, _, rfl, _⟩ := h; rfl) | (obtain ⟨_, _, _, _, _, rfl, _⟩ := h; rfl) | (obtain ⟨_, _, _, _, _, _, rfl, _⟩ := h; rfl) | (obtain ⟨_, _, _, _, _, _, _, rfl, _⟩ := h; rfl) | (obtain ⟨_, _, _, _, _, _, _, _, rfl, _⟩ := h; rfl) | (obtain ⟨_, _, _, _, _, _, _, _, _, rfl, _⟩ := h; rfl) | (obtain ⟨_, _, _, _, _, _, _, _, _, _, rfl, _⟩ := h; rfl) | (obtain ⟨_, _, _, _, _, _, _, _, _, _, _, rfl, _⟩ := h; rfl) | (obtain ⟨_, _, _, _, _, _, _, _, _, _, _, _, rfl, _⟩ := h; rfl)) (fun f cdv A outer s H E hr => ⟨_, (dss_one (ds_ret (de_op od_shl de_int (de_fld C_Kind 0 T.cl_Kind T.nf_Kind_bits (dv 0))))), ?_⟩)
  rintro ds M Q ⟨b, s, rfl, hb, hQ⟩
  (try simp only [dgU, w_lrg, dCut, dDGet, dDGet1, dDGet2, dDPut, dPairs, w_disp, w_newDF, w_newDT, dec_self, List.map_cons, List.map_nil, eqD_bl, eqD_int, eqD_str, eqD_tup, eqD_lst, eqDs_nil, eqDs_nc, eqDs_cn, eqDs_cons, reduceIte, Bool.false_eq_true, Bool.not_true, Bool.not_false, decide_true, decide_false, dVar, atD, setD, startD, dC, dOp, dAnd, dOr, dNot, dIf, dUn, dNil, dCons, dTup, dLst, rInD, rNotInD, dNoPart, dPart, dRev, dFld, DL.fieldsOf, dCB, dNext, dSeq, dBreak, dCont, dDrop, dRet, dRetN, dIfS, dNever, dgN, dgNil, dgCons, dgSub, dAsg, dPar, dPar3, putD, dSetF, dMt, rAppendD, rPopD, rExtendD, lsT, lsR, lsF, itemsR, dFrz, dCall, dCallK, dMeth, dMake, dFor, dIL, dIT, dIR1, dIR2, dIE, dIZ, wipeD, dYes, dLc, dDic0, updM_same, cxOf, asBl_bl, asInt_int, asTup_tup, isN, w_test, w_chain, w_andV, w_orV, w_notV, w_neg, w_sub, w_div, w_mod, w_pow, w_shl, w_shr, w_and, w_or, w_xor, w_lt, w_le, w_gt, w_ge, w_add, w_addS, w_addT, w_addL, w_addF, w_addR, w_mul, w_mulL, w_eq, w_ne, w_isN, w_isB, w_isntN, w_isntB, w_ix, w_isi, w_abs, w_max2, w_min2, w_max1L, w_min1L, w_sum, w_all, w_any, w_len, w_int, w_intB, w_divmod, w_sorted, w_list, w_bits, w_sl, w_slL, w_slF, w_slR, w_slT, w_newF, w_newT, w_eqL, w_eqT, w_eqR, w_neL, w_neT, w_neR, w_dgT, w_derL, w_derT, w_derB, w_derI, w_derN, w_derS, w_eqSS, w_eqBB, w_neSS, w_neBB, w_eqBI, w_eqIN, w_neIN, w_eqNI, w_neNI, w_eqNN, w_neNN, w_NN, w_NI, w_IN])
  refine ⟨_, _, rfl, rfl, shl1 (by omega) (by omega), endD_of ?_⟩
  simpa using hQ
abbrev sp_low (C : Addr) : SpD := fun ds M Q => ∃ (b : Nat) (s : Bool), ds = [kindD C b s] ∧ Wd b ∧ Q (.int (lowZ b s)) M
theorem ok_low_of (T : Txt K mg C_Kind) : FnD P w K mg base 1 "low_of" s_low_of ["kind"] (sp_low C_Kind) := by
  refine fn_mk T.h_low_of sc_low_of 1 rfl (by intro ds M Q h; first | (obtain ⟨rfl, _⟩ := h; rfl) | (obtain ⟨_, rfl, _⟩ := h; rfl) | (obtain ⟨_, _, rfl, _⟩ := h; rfl) | (obtain ⟨_, _, _, rfl, _⟩ := h; rfl) | (obtain ⟨_, _, _, _, rfl, _⟩ := h; rfl) | (obtain ⟨_, _, _, _, _, rfl, _⟩ := h; rfl) | (obtain ⟨_, _, _, _, _, _, rfl, _⟩ := h; rfl) | (obtain ⟨_, _, _, _, _, _, _, rfl, _⟩ := h; rfl) | (obtain ⟨_, _, _, _, _, _, _, _, rfl, _⟩ := h; rfl) | (obtain ⟨_, _, _, _, _, _, _, _, _, rfl, _⟩ := h; rfl) | (obtain ⟨_, _, _, _, _, _, _, _, _, _, rfl, _⟩ := h; rfl) | (obtain ⟨_, _, _, _, _, _, _, _, _, _, _, rfl, _⟩ := h; rfl) | (obtain ⟨_, _, _, _, _, _, _, _, _, _, _, _, rfl, _⟩ := h; rfl)) (fun f cdv A outer s H E hr => ⟨_, (dss_one (ds_ret (de_if (dt_val (de_fld C_Kind 1 T.cl_Kind T.nf_Kind_is_signed (dv 0))) (de_op od_sub de_int (de_op od_shl de_int (de_op od_sub (de_fld C_Kind 0 T.cl_Kind T.nf_Kind_bits (dv 0)) de_int))) de_int))), ?_⟩)
  rintro ds M Q ⟨b, s, rfl, hb, hQ⟩
  (try simp only [dgU, w_lrg, dCut, dDGet, dDGet1, dDGet2, dDPut, dPairs, w_disp, w_newDF, w_newDT, dec_self, List.map_cons, List.map_nil, eqD_bl, eqD_int, eqD_str, eqD_tup, eqD_lst, eqDs_nil, eqDs_nc, eqDs_cn, eqDs_cons, reduceIte, Bool.false_eq_true, Bool.not_true, Bool.not_false, decide_true, decide_false, dVar, atD, setD, startD, dC, dOp, dAnd, dOr, dNot, dIf, dUn, dNil, dCons, dTup, dLst, rInD, rNotInD, dNoPart, dPart, dRev, dFld, DL.fieldsOf, dCB, dNext, dSeq, dBreak, dCont, dDrop, dRet, dRetN, dIfS, dNever, dgN, dgNil, dgCons, dgSub, dAsg, dPar, dPar3, putD, dSetF, dMt, rAppendD, rPopD, rExtendD, lsT, lsR, lsF, itemsR, dFrz, dCall, dCallK, dMeth, dMake, dFor, dIL, dIT, dIR1, dIR2, dIE, dIZ, wipeD, dYes, dLc, dDic0, updM_same, cxOf, asBl_bl, asInt_int, asTup_tup, isN, w_test, w_chain, w_andV, w_orV, w_notV, w_neg, w_sub, w_div, w_mod, w_pow, w_shl, w_shr, w_and, w_or, w_xor, w_lt, w_le, w_gt, w_ge, w_add, w_addS, w_addT, w_addL, w_addF, w_addR, w_mul, w_mulL, w_eq, w_ne, w_isN, w_isB, w_isntN, w_isntB, w_ix, w_isi, w_abs, w_max2, w_min2, w_max1L, w_min1L, w_sum, w_all, w_any, w_len, w_int, w_intB, w_divmod, w_sorted, w_list, w_bits, w_sl, w_slL, w_slF, w_slR, w_slT, w_newF, w_newT, w_eqL, w_eqT, w_eqR, w_neL, w_neT, w_neR, w_dgT, w_derL, w_derT, w_derB, w_derI, w_derN, w_derS, w_eqSS, w_eqBB, w_neSS, w_neBB, w_eqBI, w_eqIN, w_neIN, w_eqNI, w_neNI, w_eqNN, w_neNN, w_NN, w_NI, w_IN])
  refine ⟨_, _, rfl, rfl, ?_⟩
  cases s with
  | true =>
    (try simp only [dgU, w_lrg, dCut, dDGet, dDGet1, dDGet2, dDPut, dPairs, w_disp, w_newDF, w_newDT, dec_self, List.map_cons, List.map_nil, eqD_bl, eqD_int, eqD_str, eqD_tup, eqD_lst, eqDs_nil, eqDs_nc, eqDs_cn, eqDs_cons, reduceIte, Bool.false_eq_true, Bool.not_true, Bool.not_false, decide_true, decide_false, dVar, atD, setD, startD, dC, dOp, dAnd, dOr, dNot, dIf, dUn, dNil, dCons, dTup, dLst, rInD, rNotInD, dNoPart, dPart, dRev, dFld, DL.fieldsOf, dCB, dNext, dSeq, dBreak, dCont, dDrop, dRet, dRetN, dIfS, dNever, dgN, dgNil, dgCons, dgSub, dAsg, dPar, dPar3, putD, dSetF, dMt, rAppendD, rPopD, rExtendD, lsT, lsR, lsF, itemsR, dFrz, dCall, dCallK, dMeth, dMake, dFor, dIL, dIT, dIR1, dIR2, dIE, dIZ, wipeD, dYes, dLc, dDic0, updM_same, cxOf, asBl_bl, asInt_int, asTup_tup, isN, w_test, w_chain, w_andV, w_orV, w_notV, w_neg, w_sub, w_div, w_mod, w_pow, w_shl, w_shr, w_and, w_or, w_xor, w_lt, w_le, w_gt, w_ge, w_add, w_addS, w_addT, w_addL, w_addF, w_addR, w_mul, w_mulL, w_eq, w_ne, w_isN, w_isB, w_isntN, w_isntB, w_ix, w_isi, w_abs, w_max2, w_min2, w_max1L, w_min1L, w_sum, w_all, w_any, w_len, w_int, w_intB, w_divmod, w_sorted, w_list, w_bits, w_sl, w_slL, w_slF, w_slR, w_slT, w_newF, w_newT, w_eqL, w_eqT, w_eqR, w_neL, w_neT, w_neR, w_dgT, w_derL, w_derT, w_derB, w_derI, w_derN, w_derS, w_eqSS, w_eqBB, w_neSS, w_neBB, w_eqBI, w_eqIN, w_neIN, w_eqNI, w_neNI, w_eqNN, w_neNN, w_NN, w_NI, w_IN])
    refine ⟨_, _, rfl, rfl, shl1 (by omega) (by omega), endD_of ?_⟩
    rw [show ((b : Int) - 1).toNat = b - 1 by omega]
    have e : lowZ b true = 0 - 1 * 2 ^ (b - 1) := by
      simp only [lowZ, if_true]
      omega
    rw [e] at hQ
    exact hQ
  | false => exact endD_of hQ
abbrev sp_placed (C : Addr) : SpD := fun ds M Q => ∃ (b : Nat) (s : Bool) (n : Int), ds = [kindD C b s, .int n] ∧ Wd b ∧ Q (.int (placedZ b s n)) M
theorem ok_placed (T : Txt K mg C_Kind) (F_low_of : FnD P w K mg base 1 "low_of" s_low_of ["kind"] (sp_low C_Kind)) (F_size_of : FnD P w K mg base 1 "size_of" s_size_of ["kind"] (sp_size C_Kind)) : FnD P w K mg base 2 "placed" s_placed ["kind", "n"] (sp_placed C_Kind) := by
  refine fn_mk T.h_placed sc_placed 2 rfl (by intro ds M Q h; first | (obtain ⟨rfl, _⟩ := h; rfl) | (obtain ⟨_, rfl, _⟩ := h; rfl) | (obtain ⟨_, _, rfl, _⟩ := h; rfl) | (obtain ⟨_, _, _, rfl, _⟩ := h; rfl) | (obtain ⟨_, _, _, _, rfl, _⟩ := h; rfl) | (obtain ⟨_, _, _, _, _, rfl, _⟩ := h; rfl) | (obtain ⟨_, _, _, _, _, _, rfl, _⟩ := h; rfl) | (obtain ⟨_, _, _, _, _, _, _, rfl, _⟩ := h; rfl) | (obtain ⟨_, _, _, _, _, _, _, _, rfl, _⟩ := h; rfl) | (obtain ⟨_, _, _, _, _, _, _, _, _, rfl, _⟩ := h; rfl) | (obtain ⟨_, _, _, _, _, _, _, _, _, _, rfl, _⟩ := h; rfl) | (obtain ⟨_, _, _, _, _, _, _, _, _, _, _, rfl, _⟩ := h; rfl) | (obtain ⟨_, _, _, _, _, _, _, _, _, _, _, _, rfl, _⟩ := h; rfl)) (fun f cdv A outer s H E hr => ⟨_, (dss_one (ds_ret (de_op (od_add false) (de_call F_low_of hr (da_cons (dv 0) da_nil)) (de_op od_mod (de_op od_sub (dv 1) (de_call F_low_of hr (da_cons (dv 0) da_nil))) (de_call F_size_of hr (da_cons (dv 0) da_nil)))))), ?_⟩)
  rintro ds M Q ⟨b, s, n, rfl, hb, hQ⟩
  (try simp only [dgU, w_lrg, dCut, dDGet, dDGet1, dDGet2, dDPut, dPairs, w_disp, w_newDF, w_newDT, dec_self, List.map_cons, List.map_nil, eqD_bl, eqD_int, eqD_str, eqD_tup, eqD_lst, eqDs_nil, eqDs_nc, eqDs_cn, eqDs_cons, reduceIte, Bool.false_eq_true, Bool.not_true, Bool.not_false, decide_true, decide_false, dVar, atD, setD, startD, dC, dOp, dAnd, dOr, dNot, dIf, dUn, dNil, dCons, dTup, dLst, rInD, rNotInD, dNoPart, dPart, dRev, dFld, DL.fieldsOf, dCB, dNext, dSeq, dBreak, dCont, dDrop, dRet, dRetN, dIfS, dNever, dgN, dgNil, dgCons, dgSub, dAsg, dPar, dPar3, putD, dSetF, dMt, rAppendD, rPopD, rExtendD, lsT, lsR, lsF, itemsR, dFrz, dCall, dCallK, dMeth, dMake, dFor, dIL, dIT, dIR1, dIR2, dIE, dIZ, wipeD, dYes, dLc, dDic0, updM_same, cxOf, asBl_bl, asInt_int, asTup_tup, isN, w_test, w_chain, w_andV, w_orV, w_notV, w_neg, w_sub, w_div, w_mod, w_pow, w_shl, w_shr, w_and, w_or, w_xor, w_lt, w_le, w_gt, w_ge, w_add, w_addS, w_addT, w_addL, w_addF, w_addR, w_mul, w_mulL, w_eq, w_ne, w_isN, w_isB, w_isntN, w_isntB, w_ix, w_isi, w_abs, w_max2, w_min2, w_max1L, w_min1L, w_sum, w_all, w_any, w_len, w_int, w_intB, w_divmod, w_sorted, w_list, w_bits, w_sl, w_slL, w_slF, w_slR, w_slT, w_newF, w_newT, w_eqL, w_eqT, w_eqR, w_neL, w_neT, w_neR, w_dgT, w_derL, w_derT, w_derB, w_derI, w_derN, w_derS, w_eqSS, w_eqBB, w_neSS, w_neBB, w_eqBI, w_eqIN, w_neIN, w_eqNI, w_neNI, w_eqNN, w_neNN, w_NN, w_NI, w_IN])
  refine ⟨b, s, rfl, hb, ?_⟩
  refine ⟨b, s, rfl, hb, ?_⟩
  refine ⟨b, s, rfl, hb, ?_⟩
  have h := two_pos b
  (try simp only [dgU, w_lrg, dCut, dDGet, dDGet1, dDGet2, dDPut, dPairs, w_disp, w_newDF, w_newDT, dec_self, List.map_cons, List.map_nil, eqD_bl, eqD_int, eqD_str, eqD_tup, eqD_lst, eqDs_nil, eqDs_nc, eqDs_cn, eqDs_cons, reduceIte, Bool.false_eq_true, Bool.not_true, Bool.not_false, decide_true, decide_false, dVar, atD, setD, startD, dC, dOp, dAnd, dOr, dNot, dIf, dUn, dNil, dCons, dTup, dLst, rInD, rNotInD, dNoPart, dPart, dRev, dFld, DL.fieldsOf, dCB, dNext, dSeq, dBreak, dCont, dDrop, dRet, dRetN, dIfS, dNever, dgN, dgNil, dgCons, dgSub, dAsg, dPar, dPar3, putD, dSetF, dMt, rAppendD, rPopD, rExtendD, lsT, lsR, lsF, itemsR, dFrz, dCall, dCallK, dMeth, dMake, dFor, dIL, dIT, dIR1, dIR2, dIE, dIZ, wipeD, dYes, dLc, dDic0, updM_same, cxOf, asBl_bl, asInt_int, asTup_tup, isN, w_test, w_chain, w_andV, w_orV, w_notV, w_neg, w_sub, w_div, w_mod, w_pow, w_shl, w_shr, w_and, w_or, w_xor, w_lt, w_le, w_gt, w_ge, w_add, w_addS, w_addT, w_addL, w_addF, w_addR, w_mul, w_mulL, w_eq, w_ne, w_isN, w_isB, w_isntN, w_isntB, w_ix, w_isi, w_abs, w_max2, w_min2, w_max1L, w_min1L, w_sum, w_all, w_any, w_len, w_int, w_intB, w_divmod, w_sorted, w_list, w_bits, w_sl, w_slL, w_slF, w_slR, w_slT, w_newF, w_newT, w_eqL, w_eqT, w_eqR, w_neL, w_neT, w_neR, w_dgT, w_derL, w_derT, w_derB, w_derI, w_derN, w_derS, w_eqSS, w_eqBB, w_neSS, w_neBB, w_eqBI, w_eqIN, w_neIN, w_eqNI, w_neNI, w_eqNN, w_neNN, w_NN, w_NI, w_IN])
  rw [fmodP h]
  exact ⟨by omega, endD_of hQ⟩
abbrev sp_least (C : Addr) : SpD := sp_low C
abbrev sp_greatest (C : Addr) : SpD := fun ds M Q => ∃ (b : Nat) (s : Bool), ds = [kindD C b s] ∧ Wd b ∧ Q (.int (lowZ b s + 2 ^ b - 1)) M
abbrev sp_isvalue (C : Addr) : SpD := fun ds M Q => ∃ (b : Nat) (s : Bool) (x : Dat), ds = [kindD C b s, x] ∧ Wd b ∧ OneC C x ∧ Q (.bl (betw x (lowZ b s) (lowZ b s + 2 ^ b - 1))) M
abbrev sp_wrapped (C : Addr) : SpD := sp_placed C
/-- one kind behind the other -/
def castZ : List (Nat × Bool) → Int → Int
  | [], n => n
  | (b, s) :: r, n => castZ r (placedZ b s n)
abbrev kindsD (C : Addr) (ks : List (Nat × Bool)) : List Dat := ks.map fun q => kindD C q.1 q.2
abbrev sp_cast (C : Addr) : SpD := fun ds M Q => ∃ (ks : List (Nat × Bool)) (n : Int), ds = [.lst (kindsD C ks), .int n] ∧ (∀ q ∈ ks, Wd q.1) ∧ 1 ≤ ks.length ∧ ks.length ≤ 20 ∧ Q (.int (castZ ks n)) M
/-! ### numbers modulo a power of two -/
abbrev InK (b : Nat) (s : Bool) (x : Int) : Prop := lowZ b s ≤ x ∧ x < lowZ b s + 2 ^ b
theorem pow_mono {a b : Nat} (h : a ≤ b) : (2 : Int) ^ a ≤ 2 ^ b := by
  have := Nat.pow_le_pow_right (show 0 < 2 by decide) h
  have e1 : ((2 ^ a : Nat) : Int) = 2 ^ a := by simp
  have e2 : ((2 ^ b : Nat) : Int) = 2 ^ b := by simp
  rw [← e1, ← e2]
  omega
theorem two_succ {b : Nat} (h : 1 ≤ b) : (2 : Int) ^ b = 2 * 2 ^ (b - 1) := by
  obtain ⟨c, rfl⟩ : ∃ c, b = c + 1 := ⟨b - 1, by omega⟩
  rw [Nat.add_sub_cancel, Int.pow_succ, Int.mul_comm]
theorem low_abs (b : Nat) (s : Bool) : -(2 ^ b) ≤ lowZ b s ∧ lowZ b s ≤ 0 := by
  have h1 := two_pos b
  have h2 := two_pos (b - 1)
  have h3 := pow_mono (show b - 1 ≤ b by omega)
  unfold lowZ
  split <;> omega
theorem in_small {b : Nat} {s : Bool} {x : Int} (hb : Wd b) (h : InK b s x) : x.natAbs < 2 ^ 200 := by
  have h1 := low_abs b s
  have h2 := pow_mono hb.2
  have h3 : (2 : Int) ^ 128 + 2 ^ 128 < 2 ^ 200 := by decide +kernel
  obtain ⟨h4, h5⟩ := h
  omega
theorem mod_cong (m a : Int) : m ∣ a % m - a := ⟨-(a / m), by rw [Int.emod_def]; grind⟩
theorem placed_congr {b : Nat} {s : Bool} {x y : Int} (h : (2 : Int) ^ b ∣ x - y) : placedZ b s x = placedZ b s y := by
  obtain ⟨c, hc⟩ := h
  have e : x = y + 2 ^ b * c := by omega
  subst e
  unfold placedZ
  rw [show y + 2 ^ b * c - lowZ b s = (y - lowZ b s) + 2 ^ b * c by omega, Int.add_mul_emod_self_left]
theorem placed_cong (b : Nat) (s : Bool) (x : Int) : (2 : Int) ^ b ∣ placedZ b s x - x := by
  obtain ⟨c, hc⟩ := mod_cong (2 ^ b) (x - lowZ b s)
  exact ⟨c, by unfold placedZ; omega⟩
theorem in_unique {b : Nat} {s : Bool} {x y : Int} (hx : InK b s x) (hy : InK b s y) (h : (2 : Int) ^ b ∣ x - y) : x = y := by
  rw [← placed_same hx.1 hx.2, ← placed_same hy.1 hy.2]
  exact placed_congr h
theorem placed_inK (b : Nat) (s : Bool) (x : Int) : InK b s (placedZ b s x) := placed_in b s x
theorem placed_iff {b : Nat} {s : Bool} {x y : Int} : placedZ b s x = placedZ b s y ↔ (2 : Int) ^ b ∣ x - y := by
  refine ⟨fun h => ?_, placed_congr⟩
  obtain ⟨c, hc⟩ := placed_cong b s x
  obtain ⟨d, hd⟩ := placed_cong b s y
  exact ⟨d - c, by rw [Int.mul_sub]; omega⟩
theorem dvd_mul_l {m a : Int} (c : Int) (h : m ∣ a) : m ∣ c * a := by
  obtain ⟨d, rfl⟩ := h
  exact ⟨c * d, by grind⟩
theorem dvd_mul_r {m a : Int} (c : Int) (h : m ∣ a) : m ∣ a * c := by
  obtain ⟨d, rfl⟩ := h
  exact ⟨d * c, by grind⟩
theorem dvd_add' {m a b : Int} (h : m ∣ a) (g : m ∣ b) : m ∣ a + b := by
  obtain ⟨d, rfl⟩ := h
  obtain ⟨e, rfl⟩ := g
  exact ⟨d + e, by grind⟩
theorem dvd_pow2 {a b : Nat} (h : a ≤ b) : (2 : Int) ^ a ∣ 2 ^ b := by
  obtain ⟨c, rfl⟩ := Nat.exists_eq_add_of_le h
  exact ⟨2 ^ c, by rw [Int.pow_add]⟩
theorem mod_uniq {m a b : Int} (hm : 0 < m) (ha : 0 ≤ a ∧ a < m) (hb : 0 ≤ b ∧ b < m) (h : m ∣ a - b) : a = b := by
  obtain ⟨c, hc⟩ := h
  have e : a = b + m * c := by omega
  rw [← Int.emod_eq_of_lt ha.1 ha.2, e, Int.add_mul_emod_self_left, Int.emod_eq_of_lt hb.1 hb.2]
theorem mod_congr {m a b : Int} (h : m ∣ a - b) : a % m = b % m := by
  obtain ⟨c, hc⟩ := h
  rw [show a = b + m * c by omega, Int.add_mul_emod_self_left]
theorem dvd_of_mod {m a b : Int} (h : a % m = b % m) : m ∣ a - b := by
  have h1 := Int.emod_add_mul_ediv a m
  have h2 := Int.emod_add_mul_ediv b m
  exact ⟨a / m - b / m, by grind⟩
theorem odd_cases (x : Int) : x % 2 = 0 ∨ x % 2 = 1 := by omega
/-- an odd factor does not matter -/
theorem odd_dvd {x y : Int} (hx : x % 2 = 1) : ∀ {k : Nat}, (2 : Int) ^ k ∣ x * y → (2 : Int) ^ k ∣ y
  | 0, _ => ⟨y, by simp⟩
  | k + 1, h => by
    obtain ⟨c, hc⟩ := odd_dvd hx (k := k) (by
      obtain ⟨d, hd⟩ := h
      exact ⟨2 * d, by rw [hd, Int.pow_succ]; grind⟩)
    obtain ⟨d, hd⟩ := h
    subst hc
    have hp := two_pos k
    have e : x * c = 2 * d := by
      have : (2 : Int) ^ k * (x * c) = 2 ^ k * (2 * d) := by rw [Int.pow_succ] at hd; grind
      exact Int.eq_of_mul_eq_mul_left (by omega) this
    have hc2 : c % 2 = 0 := by
      rcases odd_cases c with h | h
      · exact h
      · have : x * c % 2 = 1 := by rw [Int.mul_emod, hx, h]; rfl
        omega
    exact ⟨c / 2, by rw [Int.pow_succ]; have : c = 2 * (c / 2) := by omega
                     grind⟩
theorem newton {n f : Int} {k l : Nat} (hl : l ≤ 2 * k) (h : (2 : Int) ^ k ∣ n * f - 1) : (2 : Int) ^ l ∣ n * ((f * (2 - n * f)) % 2 ^ l) - 1 := by
  obtain ⟨c, hc⟩ := h
  obtain ⟨d, hd⟩ := mod_cong (2 ^ l) (f * (2 - n * f))
  obtain ⟨e, he⟩ := dvd_pow2 hl
  have h2 : (2 : Int) ^ (2 * k) = 2 ^ k * 2 ^ k := by rw [Nat.two_mul, Int.pow_add]
  exact ⟨n * d - e * (c * c), by grind⟩
theorem pl_eq {b : Nat} {s : Bool} {n x : Int} (hx : InK b s x) (h : (2 : Int) ^ b ∣ n - x) : placedZ b s n = x := by
  rw [← placed_same hx.1 hx.2]
  rw [placed_same hx.1 hx.2]
  exact (placed_congr h).trans (placed_same hx.1 hx.2)
def absZ (i : Int) : Int := if i < 0 then -i else i
theorem abs_nat (x : Int) : absZ x = x.natAbs := by
  unfold absZ
  split <;> omega
abbrev sp_chkb (C : Addr) : SpD := fun ds M Q => ∃ (d : Dat) (v lo hi : Int), ds = [d, .int v, .int lo, .int hi] ∧ lo ≤ v ∧ v ≤ hi ∧ Q .non M
theorem ok_check_between (T : Txt K mg C_Kind) (F_is_between : FnD P w K mg base 2 "is_between" s_is_between ["value", "low", "high"] (sp_between C_Kind)) : FnD P w K mg base 3 "check_between" s_check_between ["argument", "value", "low", "high"] (sp_chkb C_Kind) := by
  refine fn_mk T.h_check_between sc_check_between 4 rfl (by intro ds M Q h; first | (obtain ⟨rfl, _⟩ := h; rfl) | (obtain ⟨_, rfl, _⟩ := h; rfl) | (obtain ⟨_, _, rfl, _⟩ := h; rfl) | (obtain ⟨_, _, _, rfl, _⟩ := h; rfl) | (obtain ⟨_, _, _, _, rfl, _⟩ := h; rfl) | (obtain ⟨_, _, _, _, _, rfl, _⟩ := h; rfl) | (obtain ⟨_, _, _, _, _, _, rfl, _⟩ := h; rfl) | (obtain ⟨_, _, _, _, _, _, _, rfl, _⟩ := h; rfl) | (obtain ⟨_, _, _, _, _, _, _, _, rfl, _⟩ := h; rfl) | (obtain ⟨_, _, _, _, _, _, _, _, _, rfl, _⟩ := h; rfl) | (obtain ⟨_, _, _, _, _, _, _, _, _, _, rfl, _⟩ := h; rfl) | (obtain ⟨_, _, _, _, _, _, _, _, _, _, _, rfl, _⟩ := h; rfl) | (obtain ⟨_, _, _, _, _, _, _, _, _, _, _, _, rfl, _⟩ := h; rfl)) (fun f cdv A outer s H E hr => ⟨_, (dss_one (ds_if (dt_not (dt_val (de_call F_is_between hr (da_cons (dv 1) (da_cons (dv 2) (da_cons (dv 3) da_nil))))))
    (dss_one ds_never)
    dss_nil)), ?_⟩)
  rintro ds M Q ⟨d, v, lo, hi, rfl, h1, h2, hQ⟩
  (try simp only [dgU, w_lrg, dCut, dDGet, dDGet1, dDGet2, dDPut, dPairs, w_disp, w_newDF, w_newDT, dec_self, List.map_cons, List.map_nil, eqD_bl, eqD_int, eqD_str, eqD_tup, eqD_lst, eqDs_nil, eqDs_nc, eqDs_cn, eqDs_cons, reduceIte, Bool.false_eq_true, Bool.not_true, Bool.not_false, decide_true, decide_false, dVar, atD, setD, startD, dC, dOp, dAnd, dOr, dNot, dIf, dUn, dNil, dCons, dTup, dLst, rInD, rNotInD, dNoPart, dPart, dRev, dFld, DL.fieldsOf, dCB, dNext, dSeq, dBreak, dCont, dDrop, dRet, dRetN, dIfS, dNever, dgN, dgNil, dgCons, dgSub, dAsg, dPar, dPar3, putD, dSetF, dMt, rAppendD, rPopD, rExtendD, lsT, lsR, lsF, itemsR, dFrz, dCall, dCallK, dMeth, dMake, dFor, dIL, dIT, dIR1, dIR2, dIE, dIZ, wipeD, dYes, dLc, dDic0, updM_same, cxOf, asBl_bl, asInt_int, asTup_tup, isN, w_test, w_chain, w_andV, w_orV, w_notV, w_neg, w_sub, w_div, w_mod, w_pow, w_shl, w_shr, w_and, w_or, w_xor, w_lt, w_le, w_gt, w_ge, w_add, w_addS, w_addT, w_addL, w_addF, w_addR, w_mul, w_mulL, w_eq, w_ne, w_isN, w_isB, w_isntN, w_isntB, w_ix, w_isi, w_abs, w_max2, w_min2, w_max1L, w_min1L, w_sum, w_all, w_any, w_len, w_int, w_intB, w_divmod, w_sorted, w_list, w_bits, w_sl, w_slL, w_slF, w_slR, w_slT, w_newF, w_newT, w_eqL, w_eqT, w_eqR, w_neL, w_neT, w_neR, w_dgT, w_derL, w_derT, w_derB, w_derI, w_derN, w_derS, w_eqSS, w_eqBB, w_neSS, w_neBB, w_eqBI, w_eqIN, w_neIN, w_eqNI, w_neNI, w_eqNN, w_neNN, w_NN, w_NI, w_IN])
  refine ⟨.int v, lo, hi, rfl, trivial, ?_⟩
  rw [show betw (.int v) lo hi = true from decide_eq_true ⟨h1, h2⟩]
  (try simp only [dgU, w_lrg, dCut, dDGet, dDGet1, dDGet2, dDPut, dPairs, w_disp, w_newDF, w_newDT, dec_self, List.map_cons, List.map_nil, eqD_bl, eqD_int, eqD_str, eqD_tup, eqD_lst, eqDs_nil, eqDs_nc, eqDs_cn, eqDs_cons, reduceIte, Bool.false_eq_true, Bool.not_true, Bool.not_false, decide_true, decide_false, dVar, atD, setD, startD, dC, dOp, dAnd, dOr, dNot, dIf, dUn, dNil, dCons, dTup, dLst, rInD, rNotInD, dNoPart, dPart, dRev, dFld, DL.fieldsOf, dCB, dNext, dSeq, dBreak, dCont, dDrop, dRet, dRetN, dIfS, dNever, dgN, dgNil, dgCons, dgSub, dAsg, dPar, dPar3, putD, dSetF, dMt, rAppendD, rPopD, rExtendD, lsT, lsR, lsF, itemsR, dFrz, dCall, dCallK, dMeth, dMake, dFor, dIL, dIT, dIR1, dIR2, dIE, dIZ, wipeD, dYes, dLc, dDic0, updM_same, cxOf, asBl_bl, asInt_int, asTup_tup, isN, w_test, w_chain, w_andV, w_orV, w_notV, w_neg, w_sub, w_div, w_mod, w_pow, w_shl, w_shr, w_and, w_or, w_xor, w_lt, w_le, w_gt, w_ge, w_add, w_addS, w_addT, w_addL, w_addF, w_addR, w_mul, w_mulL, w_eq, w_ne, w_isN, w_isB, w_isntN, w_isntB, w_ix, w_isi, w_abs, w_max2, w_min2, w_max1L, w_min1L, w_sum, w_all, w_any, w_len, w_int, w_intB, w_divmod, w_sorted, w_list, w_bits, w_sl, w_slL, w_slF, w_slR, w_slT, w_newF, w_newT, w_eqL, w_eqT, w_eqR, w_neL, w_neT, w_neR, w_dgT, w_derL, w_derT, w_derB, w_derI, w_derN, w_derS, w_eqSS, w_eqBB, w_neSS, w_neBB, w_eqBI, w_eqIN, w_neIN, w_eqNI, w_neNI, w_eqNN, w_neNN, w_NN, w_NI, w_IN])
  exact endD_of hQ
abbrev sp_chkv (C : Addr) : SpD := fun ds M Q => ∃ (b : Nat) (s : Bool) (d : Dat) (v : Int), ds = [kindD C b s, d, .int v] ∧ Wd b ∧ InK b s v ∧ Q .non M
theorem ok_check_value (T : Txt K mg C_Kind) (F_check_between : FnD P w K mg base 3 "check_between" s_check_between ["argument", "value", "low", "high"] (sp_chkb C_Kind)) (F_low_of : FnD P w K mg base 1 "low_of" s_low_of ["kind"] (sp_low C_Kind)) (F_size_of : FnD P w K mg base 1 "size_of" s_size_of ["kind"] (sp_size C_Kind)) : FnD P w K mg base 4 "check_value" s_check_value ["kind", "argument", "value"] (sp_chkv C_Kind) := by
  refine fn_mk T.h_check_value sc_check_value 3 rfl (by intro ds M Q h; first | (obtain ⟨rfl, _⟩ := h; rfl) | (obtain ⟨_, rfl, _⟩ := h; rfl) | (obtain ⟨_, _, rfl, _⟩ := h; rfl) | (obtain ⟨_, _, _, rfl, _⟩ := h; rfl) | (obtain ⟨_, _, _, _, rfl, _⟩ := h; rfl) | (obtain ⟨_, _, _, _, _, rfl, _⟩ := h; rfl) | (obtain ⟨_, _, _, _, _, _, rfl, _⟩ := h; rfl) | (obtain ⟨_, _, _, _, _, _, _, rfl, _⟩ := h; rfl) | (obtain ⟨_, _, _, _, _, _, _, _, rfl, _⟩ := h; rfl) | (obtain ⟨_, _, _, _, _, _, _, _, _, rfl, _⟩ := h; rfl) | (obtain ⟨_, _, _, _, _, _, _, _, _, _, rfl, _⟩ := h; rfl) | (obtain ⟨_, _, _, _, _, _, _, _, _, _, _, rfl, _⟩ := h; rfl) | (obtain ⟨_, _, _, _, _, _, _, _, _, _, _, _, rfl, _⟩ := h; rfl)) (fun f cdv A outer s H E hr => ⟨_, (dss_one (ds_expr (de_call F_check_between hr (da_cons (dv 1) (da_cons (dv 2) (da_cons (de_call F_low_of hr (da_cons (dv 0) da_nil)) (da_cons (de_op od_sub (de_op (od_add false) (de_call F_low_of hr (da_cons (dv 0) da_nil)) (de_call F_size_of hr (da_cons (dv 0) da_nil))) de_int) da_nil))))))), ?_⟩)
  rintro ds M Q ⟨b, s, d, v, rfl, hb, h, hQ⟩
  (try simp only [dgU, w_lrg, dCut, dDGet, dDGet1, dDGet2, dDPut, dPairs, w_disp, w_newDF, w_newDT, dec_self, List.map_cons, List.map_nil, eqD_bl, eqD_int, eqD_str, eqD_tup, eqD_lst, eqDs_nil, eqDs_nc, eqDs_cn, eqDs_cons, reduceIte, Bool.false_eq_true, Bool.not_true, Bool.not_false, decide_true, decide_false, dVar, atD, setD, startD, dC, dOp, dAnd, dOr, dNot, dIf, dUn, dNil, dCons, dTup, dLst, rInD, rNotInD, dNoPart, dPart, dRev, dFld, DL.fieldsOf, dCB, dNext, dSeq, dBreak, dCont, dDrop, dRet, dRetN, dIfS, dNever, dgN, dgNil, dgCons, dgSub, dAsg, dPar, dPar3, putD, dSetF, dMt, rAppendD, rPopD, rExtendD, lsT, lsR, lsF, itemsR, dFrz, dCall, dCallK, dMeth, dMake, dFor, dIL, dIT, dIR1, dIR2, dIE, dIZ, wipeD, dYes, dLc, dDic0, updM_same, cxOf, asBl_bl, asInt_int, asTup_tup, isN, w_test, w_chain, w_andV, w_orV, w_notV, w_neg, w_sub, w_div, w_mod, w_pow, w_shl, w_shr, w_and, w_or, w_xor, w_lt, w_le, w_gt, w_ge, w_add, w_addS, w_addT, w_addL, w_addF, w_addR, w_mul, w_mulL, w_eq, w_ne, w_isN, w_isB, w_isntN, w_isntB, w_ix, w_isi, w_abs, w_max2, w_min2, w_max1L, w_min1L, w_sum, w_all, w_any, w_len, w_int, w_intB, w_divmod, w_sorted, w_list, w_bits, w_sl, w_slL, w_slF, w_slR, w_slT, w_newF, w_newT, w_eqL, w_eqT, w_eqR, w_neL, w_neT, w_neR, w_dgT, w_derL, w_derT, w_derB, w_derI, w_derN, w_derS, w_eqSS, w_eqBB, w_neSS, w_neBB, w_eqBI, w_eqIN, w_neIN, w_eqNI, w_neNI, w_eqNN, w_neNN, w_NN, w_NI, w_IN])
  refine ⟨b, s, rfl, hb, b, s, rfl, hb, b, s, rfl, hb, ?_⟩
  (try simp only [dgU, w_lrg, dCut, dDGet, dDGet1, dDGet2, dDPut, dPairs, w_disp, w_newDF, w_newDT, dec_self, List.map_cons, List.map_nil, eqD_bl, eqD_int, eqD_str, eqD_tup, eqD_lst, eqDs_nil, eqDs_nc, eqDs_cn, eqDs_cons, reduceIte, Bool.false_eq_true, Bool.not_true, Bool.not_false, decide_true, decide_false, dVar, atD, setD, startD, dC, dOp, dAnd, dOr, dNot, dIf, dUn, dNil, dCons, dTup, dLst, rInD, rNotInD, dNoPart, dPart, dRev, dFld, DL.fieldsOf, dCB, dNext, dSeq, dBreak, dCont, dDrop, dRet, dRetN, dIfS, dNever, dgN, dgNil, dgCons, dgSub, dAsg, dPar, dPar3, putD, dSetF, dMt, rAppendD, rPopD, rExtendD, lsT, lsR, lsF, itemsR, dFrz, dCall, dCallK, dMeth, dMake, dFor, dIL, dIT, dIR1, dIR2, dIE, dIZ, wipeD, dYes, dLc, dDic0, updM_same, cxOf, asBl_bl, asInt_int, asTup_tup, isN, w_test, w_chain, w_andV, w_orV, w_notV, w_neg, w_sub, w_div, w_mod, w_pow, w_shl, w_shr, w_and, w_or, w_xor, w_lt, w_le, w_gt, w_ge, w_add, w_addS, w_addT, w_addL, w_addF, w_addR, w_mul, w_mulL, w_eq, w_ne, w_isN, w_isB, w_isntN, w_isntB, w_ix, w_isi, w_abs, w_max2, w_min2, w_max1L, w_min1L, w_sum, w_all, w_any, w_len, w_int, w_intB, w_divmod, w_sorted, w_list, w_bits, w_sl, w_slL, w_slF, w_slR, w_slT, w_newF, w_newT, w_eqL, w_eqT, w_eqR, w_neL, w_neT, w_neR, w_dgT, w_derL, w_derT, w_derB, w_derI, w_derN, w_derS, w_eqSS, w_eqBB, w_neSS, w_neBB, w_eqBI, w_eqIN, w_neIN, w_eqNI, w_neNI, w_eqNN, w_neNN, w_NN, w_NI, w_IN])
  exact ⟨d, v, _, _, rfl, h.1, by omega, endD_of hQ⟩
/-! ### the source of numbers -/
abbrev srcD (x y z : Int) : MO := .lst [.int x, .int y, .int z]
abbrev SrcOk (x y z : Int) : Prop := 0 ≤ x ∧ 0 ≤ y ∧ 0 ≤ z
/-- a source stands at a -/
def Src (M : MH) (a : Addr) : Prop := ∃ x y z : Int, M a = some (srcD x y z) ∧ SrcOk x y z
/-- .. and M' is M but for the numbers of the source at a -/
def SrcTo (a : Addr) (M M' : MH) : Prop := ∃ x y z : Int, M' = updM M a (srcD x y z) ∧ SrcOk x y z
theorem SrcTo.src {a : Addr} {M M' : MH} (h : SrcTo a M M') : Src M' a := by
  obtain ⟨x, y, z, rfl, h⟩ := h
  exact ⟨x, y, z, updM_same, h⟩
theorem SrcTo.trans {a : Addr} {M M1 M2 : MH} (h : SrcTo a M M1) (g : SrcTo a M1 M2) : SrcTo a M M2 := by
  obtain ⟨x, y, z, rfl, h⟩ := h
  obtain ⟨x2, y2, z2, rfl, h2⟩ := g
  exact ⟨x2, y2, z2, updM_updM, h2⟩
theorem SrcTo.at {a b : Addr} {M M' : MH} (h : SrcTo a M M') (n : b ≠ a) : M' b = M b := by
  obtain ⟨x, y, z, rfl, h⟩ := h
  exact updM_ne n
theorem Src.refl {a : Addr} {M : MH} (h : Src M a) : SrcTo a M M := by
  obtain ⟨x, y, z, e, h⟩ := h
  refine ⟨x, y, z, ?_, h⟩
  funext b
  by_cases q : b = a
  · subst q
    rw [updM_same, e]
  · rw [updM_ne q]
abbrev sp_source_of : SpD := fun ds M Q => ∃ n : Int, ds = [.int n] ∧ ∀ a x y z, M a = none → SrcOk x y z → Q (.ref a) (updM M a (srcD x y z))
theorem ok__law_source_of (T : Txt K mg C_Kind) : FnD P w K mg base 1 "_law_source_of" s__law_source_of ["_law_cell"] (sp_source_of) := by
  refine fn_mk T.h__law_source_of sc__law_source_of 1 rfl (by intro ds M Q h; first | (obtain ⟨rfl, _⟩ := h; rfl) | (obtain ⟨_, rfl, _⟩ := h; rfl) | (obtain ⟨_, _, rfl, _⟩ := h; rfl) | (obtain ⟨_, _, _, rfl, _⟩ := h; rfl) | (obtain ⟨_, _, _, _, rfl, _⟩ := h; rfl) | (obtain ⟨_, _, _, _, _, rfl, _⟩ := h; rfl) | (obtain ⟨_, _, _, _, _, _, rfl, _⟩ := h; rfl) | (obtain ⟨_, _, _, _, _, _, _, rfl, _⟩ := h; rfl) | (obtain ⟨_, _, _, _, _, _, _, _, rfl, _⟩ := h; rfl) | (obtain ⟨_, _, _, _, _, _, _, _, _, rfl, _⟩ := h; rfl) | (obtain ⟨_, _, _, _, _, _, _, _, _, _, rfl, _⟩ := h; rfl) | (obtain ⟨_, _, _, _, _, _, _, _, _, _, _, rfl, _⟩ := h; rfl) | (obtain ⟨_, _, _, _, _, _, _, _, _, _, _, _, rfl, _⟩ := h; rfl)) (fun f cdv A outer s H E hr => ⟨_, (dss_cons (ds_set (i := 0) sc__law_source_of.nd (de_cut (de_if (dt_cmp od_ge (dv 0) de_int) (dv 0) (de_op od_sub (de_op od_sub de_int (de_op (od_mul false) de_int (dv 0))) de_int))))
    (dss_one (ds_ret (de_lst true (da_cons (de_op (od_mul false) (dv 0) (de_ct cd_int (by rfl) T.b_int (by decide +kernel) (da_cons (de_cmp od_ge (dv 0) (de_op od_pow de_int de_int)) da_nil))) (da_cons (de_op od_mod (de_ct cd_int (by rfl) T.b_int (by decide +kernel) (da_cons (dv 0) da_nil)) de_int) (da_cons de_int da_nil))))))), ?_⟩)
  rintro ds M Q ⟨n, rfl, hQ⟩
  (try simp only [dgU, w_lrg, dCut, dDGet, dDGet1, dDGet2, dDPut, dPairs, w_disp, w_newDF, w_newDT, dec_self, List.map_cons, List.map_nil, eqD_bl, eqD_int, eqD_str, eqD_tup, eqD_lst, eqDs_nil, eqDs_nc, eqDs_cn, eqDs_cons, reduceIte, Bool.false_eq_true, Bool.not_true, Bool.not_false, decide_true, decide_false, dVar, atD, setD, startD, dC, dOp, dAnd, dOr, dNot, dIf, dUn, dNil, dCons, dTup, dLst, rInD, rNotInD, dNoPart, dPart, dRev, dFld, DL.fieldsOf, dCB, dNext, dSeq, dBreak, dCont, dDrop, dRet, dRetN, dIfS, dNever, dgN, dgNil, dgCons, dgSub, dAsg, dPar, dPar3, putD, dSetF, dMt, rAppendD, rPopD, rExtendD, lsT, lsR, lsF, itemsR, dFrz, dCall, dCallK, dMeth, dMake, dFor, dIL, dIT, dIR1, dIR2, dIE, dIZ, wipeD, dYes, dLc, dDic0, updM_same, cxOf, asBl_bl, asInt_int, asTup_tup, isN, w_test, w_chain, w_andV, w_orV, w_notV, w_neg, w_sub, w_div, w_mod, w_pow, w_shl, w_shr, w_and, w_or, w_xor, w_lt, w_le, w_gt, w_ge, w_add, w_addS, w_addT, w_addL, w_addF, w_addR, w_mul, w_mulL, w_eq, w_ne, w_isN, w_isB, w_isntN, w_isntB, w_ix, w_isi, w_abs, w_max2, w_min2, w_max1L, w_min1L, w_sum, w_all, w_any, w_len, w_int, w_intB, w_divmod, w_sorted, w_list, w_bits, w_sl, w_slL, w_slF, w_slR, w_slT, w_newF, w_newT, w_eqL, w_eqT, w_eqR, w_neL, w_neT, w_neR, w_dgT, w_derL, w_derT, w_derB, w_derI, w_derN, w_derS, w_eqSS, w_eqBB, w_neSS, w_neBB, w_eqBI, w_eqIN, w_neIN, w_eqNI, w_neNI, w_eqNN, w_neNN, w_NN, w_NI, w_IN])
  obtain ⟨c, hc, hn⟩ : ∃ c : Int, 0 ≤ c ∧ (if 0 ≤ n then n else 0 - 3 * n - 1) = c := by
    refine ⟨_, ?_, rfl⟩
    split <;> omega
  refine cutE_is (.int c) ?_ ?_
  · (try simp only [dgU, w_lrg, dCut, dDGet, dDGet1, dDGet2, dDPut, dPairs, w_disp, w_newDF, w_newDT, dec_self, List.map_cons, List.map_nil, eqD_bl, eqD_int, eqD_str, eqD_tup, eqD_lst, eqDs_nil, eqDs_nc, eqDs_cn, eqDs_cons, reduceIte, Bool.false_eq_true, Bool.not_true, Bool.not_false, decide_true, decide_false, dVar, atD, setD, startD, dC, dOp, dAnd, dOr, dNot, dIf, dUn, dNil, dCons, dTup, dLst, rInD, rNotInD, dNoPart, dPart, dRev, dFld, DL.fieldsOf, dCB, dNext, dSeq, dBreak, dCont, dDrop, dRet, dRetN, dIfS, dNever, dgN, dgNil, dgCons, dgSub, dAsg, dPar, dPar3, putD, dSetF, dMt, rAppendD, rPopD, rExtendD, lsT, lsR, lsF, itemsR, dFrz, dCall, dCallK, dMeth, dMake, dFor, dIL, dIT, dIR1, dIR2, dIE, dIZ, wipeD, dYes, dLc, dDic0, updM_same, cxOf, asBl_bl, asInt_int, asTup_tup, isN, w_test, w_chain, w_andV, w_orV, w_notV, w_neg, w_sub, w_div, w_mod, w_pow, w_shl, w_shr, w_and, w_or, w_xor, w_lt, w_le, w_gt, w_ge, w_add, w_addS, w_addT, w_addL, w_addF, w_addR, w_mul, w_mulL, w_eq, w_ne, w_isN, w_isB, w_isntN, w_isntB, w_ix, w_isi, w_abs, w_max2, w_min2, w_max1L, w_min1L, w_sum, w_all, w_any, w_len, w_int, w_intB, w_divmod, w_sorted, w_list, w_bits, w_sl, w_slL, w_slF, w_slR, w_slT, w_newF, w_newT, w_eqL, w_eqT, w_eqR, w_neL, w_neT, w_neR, w_dgT, w_derL, w_derT, w_derB, w_derI, w_derN, w_derS, w_eqSS, w_eqBB, w_neSS, w_neBB, w_eqBI, w_eqIN, w_neIN, w_eqNI, w_neNI, w_eqNN, w_neNN, w_NN, w_NI, w_IN])
    by_cases h : 0 ≤ n
    · rw [if_pos h] at hn
      simp only [h]
      (try simp only [dgU, w_lrg, dCut, dDGet, dDGet1, dDGet2, dDPut, dPairs, w_disp, w_newDF, w_newDT, dec_self, List.map_cons, List.map_nil, eqD_bl, eqD_int, eqD_str, eqD_tup, eqD_lst, eqDs_nil, eqDs_nc, eqDs_cn, eqDs_cons, reduceIte, Bool.false_eq_true, Bool.not_true, Bool.not_false, decide_true, decide_false, dVar, atD, setD, startD, dC, dOp, dAnd, dOr, dNot, dIf, dUn, dNil, dCons, dTup, dLst, rInD, rNotInD, dNoPart, dPart, dRev, dFld, DL.fieldsOf, dCB, dNext, dSeq, dBreak, dCont, dDrop, dRet, dRetN, dIfS, dNever, dgN, dgNil, dgCons, dgSub, dAsg, dPar, dPar3, putD, dSetF, dMt, rAppendD, rPopD, rExtendD, lsT, lsR, lsF, itemsR, dFrz, dCall, dCallK, dMeth, dMake, dFor, dIL, dIT, dIR1, dIR2, dIE, dIZ, wipeD, dYes, dLc, dDic0, updM_same, cxOf, asBl_bl, asInt_int, asTup_tup, isN, w_test, w_chain, w_andV, w_orV, w_notV, w_neg, w_sub, w_div, w_mod, w_pow, w_shl, w_shr, w_and, w_or, w_xor, w_lt, w_le, w_gt, w_ge, w_add, w_addS, w_addT, w_addL, w_addF, w_addR, w_mul, w_mulL, w_eq, w_ne, w_isN, w_isB, w_isntN, w_isntB, w_ix, w_isi, w_abs, w_max2, w_min2, w_max1L, w_min1L, w_sum, w_all, w_any, w_len, w_int, w_intB, w_divmod, w_sorted, w_list, w_bits, w_sl, w_slL, w_slF, w_slR, w_slT, w_newF, w_newT, w_eqL, w_eqT, w_eqR, w_neL, w_neT, w_neR, w_dgT, w_derL, w_derT, w_derB, w_derI, w_derN, w_derS, w_eqSS, w_eqBB, w_neSS, w_neBB, w_eqBI, w_eqIN, w_neIN, w_eqNI, w_neNI, w_eqNN, w_neNN, w_NN, w_NI, w_IN])
      rw [hn]
      trivial
    · rw [if_neg h] at hn
      simp only [h]
      (try simp only [dgU, w_lrg, dCut, dDGet, dDGet1, dDGet2, dDPut, dPairs, w_disp, w_newDF, w_newDT, dec_self, List.map_cons, List.map_nil, eqD_bl, eqD_int, eqD_str, eqD_tup, eqD_lst, eqDs_nil, eqDs_nc, eqDs_cn, eqDs_cons, reduceIte, Bool.false_eq_true, Bool.not_true, Bool.not_false, decide_true, decide_false, dVar, atD, setD, startD, dC, dOp, dAnd, dOr, dNot, dIf, dUn, dNil, dCons, dTup, dLst, rInD, rNotInD, dNoPart, dPart, dRev, dFld, DL.fieldsOf, dCB, dNext, dSeq, dBreak, dCont, dDrop, dRet, dRetN, dIfS, dNever, dgN, dgNil, dgCons, dgSub, dAsg, dPar, dPar3, putD, dSetF, dMt, rAppendD, rPopD, rExtendD, lsT, lsR, lsF, itemsR, dFrz, dCall, dCallK, dMeth, dMake, dFor, dIL, dIT, dIR1, dIR2, dIE, dIZ, wipeD, dYes, dLc, dDic0, updM_same, cxOf, asBl_bl, asInt_int, asTup_tup, isN, w_test, w_chain, w_andV, w_orV, w_notV, w_neg, w_sub, w_div, w_mod, w_pow, w_shl, w_shr, w_and, w_or, w_xor, w_lt, w_le, w_gt, w_ge, w_add, w_addS, w_addT, w_addL, w_addF, w_addR, w_mul, w_mulL, w_eq, w_ne, w_isN, w_isB, w_isntN, w_isntB, w_ix, w_isi, w_abs, w_max2, w_min2, w_max1L, w_min1L, w_sum, w_all, w_any, w_len, w_int, w_intB, w_divmod, w_sorted, w_list, w_bits, w_sl, w_slL, w_slF, w_slR, w_slT, w_newF, w_newT, w_eqL, w_eqT, w_eqR, w_neL, w_neT, w_neR, w_dgT, w_derL, w_derT, w_derB, w_derI, w_derN, w_derS, w_eqSS, w_eqBB, w_neSS, w_neBB, w_eqBI, w_eqIN, w_neIN, w_eqNI, w_neNI, w_eqNN, w_neNN, w_NN, w_NI, w_IN])
      refine ⟨mulOk_l (by decide), ?_⟩
      (try simp only [dgU, w_lrg, dCut, dDGet, dDGet1, dDGet2, dDPut, dPairs, w_disp, w_newDF, w_newDT, dec_self, List.map_cons, List.map_nil, eqD_bl, eqD_int, eqD_str, eqD_tup, eqD_lst, eqDs_nil, eqDs_nc, eqDs_cn, eqDs_cons, reduceIte, Bool.false_eq_true, Bool.not_true, Bool.not_false, decide_true, decide_false, dVar, atD, setD, startD, dC, dOp, dAnd, dOr, dNot, dIf, dUn, dNil, dCons, dTup, dLst, rInD, rNotInD, dNoPart, dPart, dRev, dFld, DL.fieldsOf, dCB, dNext, dSeq, dBreak, dCont, dDrop, dRet, dRetN, dIfS, dNever, dgN, dgNil, dgCons, dgSub, dAsg, dPar, dPar3, putD, dSetF, dMt, rAppendD, rPopD, rExtendD, lsT, lsR, lsF, itemsR, dFrz, dCall, dCallK, dMeth, dMake, dFor, dIL, dIT, dIR1, dIR2, dIE, dIZ, wipeD, dYes, dLc, dDic0, updM_same, cxOf, asBl_bl, asInt_int, asTup_tup, isN, w_test, w_chain, w_andV, w_orV, w_notV, w_neg, w_sub, w_div, w_mod, w_pow, w_shl, w_shr, w_and, w_or, w_xor, w_lt, w_le, w_gt, w_ge, w_add, w_addS, w_addT, w_addL, w_addF, w_addR, w_mul, w_mulL, w_eq, w_ne, w_isN, w_isB, w_isntN, w_isntB, w_ix, w_isi, w_abs, w_max2, w_min2, w_max1L, w_min1L, w_sum, w_all, w_any, w_len, w_int, w_intB, w_divmod, w_sorted, w_list, w_bits, w_sl, w_slL, w_slF, w_slR, w_slT, w_newF, w_newT, w_eqL, w_eqT, w_eqR, w_neL, w_neT, w_neR, w_dgT, w_derL, w_derT, w_derB, w_derI, w_derN, w_derS, w_eqSS, w_eqBB, w_neSS, w_neBB, w_eqBI, w_eqIN, w_neIN, w_eqNI, w_neNI, w_eqNN, w_neNN, w_NN, w_NI, w_IN])
      rw [hn]
      trivial
  (try simp only [dgU, w_lrg, dCut, dDGet, dDGet1, dDGet2, dDPut, dPairs, w_disp, w_newDF, w_newDT, dec_self, List.map_cons, List.map_nil, eqD_bl, eqD_int, eqD_str, eqD_tup, eqD_lst, eqDs_nil, eqDs_nc, eqDs_cn, eqDs_cons, reduceIte, Bool.false_eq_true, Bool.not_true, Bool.not_false, decide_true, decide_false, dVar, atD, setD, startD, dC, dOp, dAnd, dOr, dNot, dIf, dUn, dNil, dCons, dTup, dLst, rInD, rNotInD, dNoPart, dPart, dRev, dFld, DL.fieldsOf, dCB, dNext, dSeq, dBreak, dCont, dDrop, dRet, dRetN, dIfS, dNever, dgN, dgNil, dgCons, dgSub, dAsg, dPar, dPar3, putD, dSetF, dMt, rAppendD, rPopD, rExtendD, lsT, lsR, lsF, itemsR, dFrz, dCall, dCallK, dMeth, dMake, dFor, dIL, dIT, dIR1, dIR2, dIE, dIZ, wipeD, dYes, dLc, dDic0, updM_same, cxOf, asBl_bl, asInt_int, asTup_tup, isN, w_test, w_chain, w_andV, w_orV, w_notV, w_neg, w_sub, w_div, w_mod, w_pow, w_shl, w_shr, w_and, w_or, w_xor, w_lt, w_le, w_gt, w_ge, w_add, w_addS, w_addT, w_addL, w_addF, w_addR, w_mul, w_mulL, w_eq, w_ne, w_isN, w_isB, w_isntN, w_isntB, w_ix, w_isi, w_abs, w_max2, w_min2, w_max1L, w_min1L, w_sum, w_all, w_any, w_len, w_int, w_intB, w_divmod, w_sorted, w_list, w_bits, w_sl, w_slL, w_slF, w_slR, w_slT, w_newF, w_newT, w_eqL, w_eqT, w_eqR, w_neL, w_neT, w_neR, w_dgT, w_derL, w_derT, w_derB, w_derI, w_derN, w_derS, w_eqSS, w_eqBB, w_neSS, w_neBB, w_eqBI, w_eqIN, w_neIN, w_eqNI, w_neNI, w_eqNN, w_neNN, w_NN, w_NI, w_IN])
  refine ⟨⟨by decide, by decide +kernel⟩, ?_⟩
  (try simp only [dgU, w_lrg, dCut, dDGet, dDGet1, dDGet2, dDPut, dPairs, w_disp, w_newDF, w_newDT, dec_self, List.map_cons, List.map_nil, eqD_bl, eqD_int, eqD_str, eqD_tup, eqD_lst, eqDs_nil, eqDs_nc, eqDs_cn, eqDs_cons, reduceIte, Bool.false_eq_true, Bool.not_true, Bool.not_false, decide_true, decide_false, dVar, atD, setD, startD, dC, dOp, dAnd, dOr, dNot, dIf, dUn, dNil, dCons, dTup, dLst, rInD, rNotInD, dNoPart, dPart, dRev, dFld, DL.fieldsOf, dCB, dNext, dSeq, dBreak, dCont, dDrop, dRet, dRetN, dIfS, dNever, dgN, dgNil, dgCons, dgSub, dAsg, dPar, dPar3, putD, dSetF, dMt, rAppendD, rPopD, rExtendD, lsT, lsR, lsF, itemsR, dFrz, dCall, dCallK, dMeth, dMake, dFor, dIL, dIT, dIR1, dIR2, dIE, dIZ, wipeD, dYes, dLc, dDic0, updM_same, cxOf, asBl_bl, asInt_int, asTup_tup, isN, w_test, w_chain, w_andV, w_orV, w_notV, w_neg, w_sub, w_div, w_mod, w_pow, w_shl, w_shr, w_and, w_or, w_xor, w_lt, w_le, w_gt, w_ge, w_add, w_addS, w_addT, w_addL, w_addF, w_addR, w_mul, w_mulL, w_eq, w_ne, w_isN, w_isB, w_isntN, w_isntB, w_ix, w_isi, w_abs, w_max2, w_min2, w_max1L, w_min1L, w_sum, w_all, w_any, w_len, w_int, w_intB, w_divmod, w_sorted, w_list, w_bits, w_sl, w_slL, w_slF, w_slR, w_slT, w_newF, w_newT, w_eqL, w_eqT, w_eqR, w_neL, w_neT, w_neR, w_dgT, w_derL, w_derT, w_derB, w_derI, w_derN, w_derS, w_eqSS, w_eqBB, w_neSS, w_neBB, w_eqBI, w_eqIN, w_neIN, w_eqNI, w_neNI, w_eqNN, w_neNN, w_NN, w_NI, w_IN])
  refine ⟨mulOk_r (by split <;> decide), ?_⟩
  (try simp only [dgU, w_lrg, dCut, dDGet, dDGet1, dDGet2, dDPut, dPairs, w_disp, w_newDF, w_newDT, dec_self, List.map_cons, List.map_nil, eqD_bl, eqD_int, eqD_str, eqD_tup, eqD_lst, eqDs_nil, eqDs_nc, eqDs_cn, eqDs_cons, reduceIte, Bool.false_eq_true, Bool.not_true, Bool.not_false, decide_true, decide_false, dVar, atD, setD, startD, dC, dOp, dAnd, dOr, dNot, dIf, dUn, dNil, dCons, dTup, dLst, rInD, rNotInD, dNoPart, dPart, dRev, dFld, DL.fieldsOf, dCB, dNext, dSeq, dBreak, dCont, dDrop, dRet, dRetN, dIfS, dNever, dgN, dgNil, dgCons, dgSub, dAsg, dPar, dPar3, putD, dSetF, dMt, rAppendD, rPopD, rExtendD, lsT, lsR, lsF, itemsR, dFrz, dCall, dCallK, dMeth, dMake, dFor, dIL, dIT, dIR1, dIR2, dIE, dIZ, wipeD, dYes, dLc, dDic0, updM_same, cxOf, asBl_bl, asInt_int, asTup_tup, isN, w_test, w_chain, w_andV, w_orV, w_notV, w_neg, w_sub, w_div, w_mod, w_pow, w_shl, w_shr, w_and, w_or, w_xor, w_lt, w_le, w_gt, w_ge, w_add, w_addS, w_addT, w_addL, w_addF, w_addR, w_mul, w_mulL, w_eq, w_ne, w_isN, w_isB, w_isntN, w_isntB, w_ix, w_isi, w_abs, w_max2, w_min2, w_max1L, w_min1L, w_sum, w_all, w_any, w_len, w_int, w_intB, w_divmod, w_sorted, w_list, w_bits, w_sl, w_slL, w_slF, w_slR, w_slT, w_newF, w_newT, w_eqL, w_eqT, w_eqR, w_neL, w_neT, w_neR, w_dgT, w_derL, w_derT, w_derB, w_derI, w_derN, w_derS, w_eqSS, w_eqBB, w_neSS, w_neBB, w_eqBI, w_eqIN, w_neIN, w_eqNI, w_neNI, w_eqNN, w_neNN, w_NN, w_NI, w_IN])
  refine ⟨by decide, ?_⟩
  (try simp only [dgU, w_lrg, dCut, dDGet, dDGet1, dDGet2, dDPut, dPairs, w_disp, w_newDF, w_newDT, dec_self, List.map_cons, List.map_nil, eqD_bl, eqD_int, eqD_str, eqD_tup, eqD_lst, eqDs_nil, eqDs_nc, eqDs_cn, eqDs_cons, reduceIte, Bool.false_eq_true, Bool.not_true, Bool.not_false, decide_true, decide_false, dVar, atD, setD, startD, dC, dOp, dAnd, dOr, dNot, dIf, dUn, dNil, dCons, dTup, dLst, rInD, rNotInD, dNoPart, dPart, dRev, dFld, DL.fieldsOf, dCB, dNext, dSeq, dBreak, dCont, dDrop, dRet, dRetN, dIfS, dNever, dgN, dgNil, dgCons, dgSub, dAsg, dPar, dPar3, putD, dSetF, dMt, rAppendD, rPopD, rExtendD, lsT, lsR, lsF, itemsR, dFrz, dCall, dCallK, dMeth, dMake, dFor, dIL, dIT, dIR1, dIR2, dIE, dIZ, wipeD, dYes, dLc, dDic0, updM_same, cxOf, asBl_bl, asInt_int, asTup_tup, isN, w_test, w_chain, w_andV, w_orV, w_notV, w_neg, w_sub, w_div, w_mod, w_pow, w_shl, w_shr, w_and, w_or, w_xor, w_lt, w_le, w_gt, w_ge, w_add, w_addS, w_addT, w_addL, w_addF, w_addR, w_mul, w_mulL, w_eq, w_ne, w_isN, w_isB, w_isntN, w_isntB, w_ix, w_isi, w_abs, w_max2, w_min2, w_max1L, w_min1L, w_sum, w_all, w_any, w_len, w_int, w_intB, w_divmod, w_sorted, w_list, w_bits, w_sl, w_slL, w_slF, w_slR, w_slT, w_newF, w_newT, w_eqL, w_eqT, w_eqR, w_neL, w_neT, w_neR, w_dgT, w_derL, w_derT, w_derB, w_derI, w_derN, w_derS, w_eqSS, w_eqBB, w_neSS, w_neBB, w_eqBI, w_eqIN, w_neIN, w_eqNI, w_neNI, w_eqNN, w_neNN, w_NN, w_NI, w_IN])
  refine ⟨by show 3 ≤ _; decide, fun a ha => endD_of ?_⟩
  refine hQ a _ _ _ ha ⟨?_, ?_, by decide⟩
  · split
    · omega
    · omega
  · rw [fmodP (by decide)]
    exact Int.emod_nonneg _ (by decide)
abbrev sp_next : SpD := fun ds M Q => ∃ (a : Addr) (m : Int), ds = [.ref a, .int m] ∧ Src M a ∧ 0 < m ∧ m < 2 ^ 9000 ∧ ∀ (r : Int) M', 0 ≤ r → r < m → SrcTo a M M' → Q (.int r) M'
theorem ok__law_next (T : Txt K mg C_Kind) : FnD P w K mg base 1 "_law_next" s__law_next ["_law_source", "_law_many"] (sp_next) := by
  refine fn_mk T.h__law_next sc__law_next 5 rfl (by intro ds M Q h; first | (obtain ⟨rfl, _⟩ := h; rfl) | (obtain ⟨_, rfl, _⟩ := h; rfl) | (obtain ⟨_, _, rfl, _⟩ := h; rfl) | (obtain ⟨_, _, _, rfl, _⟩ := h; rfl) | (obtain ⟨_, _, _, _, rfl, _⟩ := h; rfl) | (obtain ⟨_, _, _, _, _, rfl, _⟩ := h; rfl) | (obtain ⟨_, _, _, _, _, _, rfl, _⟩ := h; rfl) | (obtain ⟨_, _, _, _, _, _, _, rfl, _⟩ := h; rfl) | (obtain ⟨_, _, _, _, _, _, _, _, rfl, _⟩ := h; rfl) | (obtain ⟨_, _, _, _, _, _, _, _, _, rfl, _⟩ := h; rfl) | (obtain ⟨_, _, _, _, _, _, _, _, _, _, rfl, _⟩ := h; rfl) | (obtain ⟨_, _, _, _, _, _, _, _, _, _, _, rfl, _⟩ := h; rfl) | (obtain ⟨_, _, _, _, _, _, _, _, _, _, _, _, rfl, _⟩ := h; rfl)) (fun f cdv A outer s H E hr => ⟨_, (dss_cons (ds_if (dt_cmp od_gt (de_ix (dv 0) de_int) de_int)
    (dss_cons (ds_set (i := 2) sc__law_next.nd (de_op od_mod (de_ct cd_int (by rfl) T.b_int (by decide +kernel) (da_cons (de_ix (dv 0) de_int) da_nil)) (dv 1)))
    (dss_cons (ds_asg (de_op od_div (de_ix (dv 0) de_int) (dv 1)) (dg_sub (dv 0) de_int))
    (dss_one (ds_ret (dv 2)))))
    dss_nil)
    (dss_cons (ds_asg (de_op (od_add false) (de_ix (dv 0) de_int) de_int) (dg_sub (dv 0) de_int))
    (dss_cons (ds_set (i := 3) sc__law_next.nd de_int)
    (dss_cons (ds_set (i := 4) sc__law_next.nd (de_op od_mod (de_ct cd_int (by rfl) T.b_int (by decide +kernel) (da_cons (de_op (od_add false) (de_op (od_add false) (de_ix (dv 0) de_int) (de_op (od_mul false) de_int (de_ix (dv 0) de_int))) de_int) da_nil)) (dv 3)))
    (dss_cons (ds_set (i := 4) sc__law_next.nd (de_op od_mod (de_ct cd_int (by rfl) T.b_int (by decide +kernel) (da_cons (de_op (od_mul false) (dv 4) de_int) da_nil)) (dv 3)))
    (dss_cons (ds_set (i := 4) sc__law_next.nd (de_op od_mod (de_ct cd_int (by rfl) T.b_int (by decide +kernel) (da_cons (de_op (od_mul false) (dv 4) (de_op (od_add false) (de_op od_div (dv 4) de_int) de_int)) da_nil)) (dv 3)))
    (dss_cons (ds_set (i := 4) sc__law_next.nd (de_op od_mod (de_ct cd_int (by rfl) T.b_int (by decide +kernel) (da_cons (de_op (od_mul false) (dv 4) (de_op (od_add false) (de_op od_div (dv 4) de_int) de_int)) da_nil)) de_int))
    (dss_one (ds_ret (de_op od_mod (de_ct cd_int (by rfl) T.b_int (by decide +kernel) (da_cons (de_op od_div (dv 4) de_int) da_nil)) (dv 1))))))))))), ?_⟩)
  rintro ds M Q ⟨a, m, rfl, ⟨x, y, z, hM, hx, hy, hz⟩, hm, hb, hQ⟩
  (try simp only [dgU, w_lrg, dCut, dDGet, dDGet1, dDGet2, dDPut, dPairs, w_disp, w_newDF, w_newDT, dec_self, List.map_cons, List.map_nil, eqD_bl, eqD_int, eqD_str, eqD_tup, eqD_lst, eqDs_nil, eqDs_nc, eqDs_cn, eqDs_cons, reduceIte, Bool.false_eq_true, Bool.not_true, Bool.not_false, decide_true, decide_false, dVar, atD, setD, startD, dC, dOp, dAnd, dOr, dNot, dIf, dUn, dNil, dCons, dTup, dLst, rInD, rNotInD, dNoPart, dPart, dRev, dFld, DL.fieldsOf, dCB, dNext, dSeq, dBreak, dCont, dDrop, dRet, dRetN, dIfS, dNever, dgN, dgNil, dgCons, dgSub, dAsg, dPar, dPar3, putD, dSetF, dMt, rAppendD, rPopD, rExtendD, lsT, lsR, lsF, itemsR, dFrz, dCall, dCallK, dMeth, dMake, dFor, dIL, dIT, dIR1, dIR2, dIE, dIZ, wipeD, dYes, dLc, dDic0, updM_same, cxOf, asBl_bl, asInt_int, asTup_tup, isN, w_test, w_chain, w_andV, w_orV, w_notV, w_neg, w_sub, w_div, w_mod, w_pow, w_shl, w_shr, w_and, w_or, w_xor, w_lt, w_le, w_gt, w_ge, w_add, w_addS, w_addT, w_addL, w_addF, w_addR, w_mul, w_mulL, w_eq, w_ne, w_isN, w_isB, w_isntN, w_isntB, w_ix, w_isi, w_abs, w_max2, w_min2, w_max1L, w_min1L, w_sum, w_all, w_any, w_len, w_int, w_intB, w_divmod, w_sorted, w_list, w_bits, w_sl, w_slL, w_slF, w_slR, w_slT, w_newF, w_newT, w_eqL, w_eqT, w_eqR, w_neL, w_neT, w_neR, w_dgT, w_derL, w_derT, w_derB, w_derI, w_derN, w_derS, w_eqSS, w_eqBB, w_neSS, w_neBB, w_eqBI, w_eqIN, w_neIN, w_eqNI, w_neNI, w_eqNN, w_neNN, w_NN, w_NI, w_IN])
  refine ⟨_, _, by rw [hM], rfl, ?_⟩
  (try simp only [dgU, w_lrg, dCut, dDGet, dDGet1, dDGet2, dDPut, dPairs, w_disp, w_newDF, w_newDT, dec_self, List.map_cons, List.map_nil, eqD_bl, eqD_int, eqD_str, eqD_tup, eqD_lst, eqDs_nil, eqDs_nc, eqDs_cn, eqDs_cons, reduceIte, Bool.false_eq_true, Bool.not_true, Bool.not_false, decide_true, decide_false, dVar, atD, setD, startD, dC, dOp, dAnd, dOr, dNot, dIf, dUn, dNil, dCons, dTup, dLst, rInD, rNotInD, dNoPart, dPart, dRev, dFld, DL.fieldsOf, dCB, dNext, dSeq, dBreak, dCont, dDrop, dRet, dRetN, dIfS, dNever, dgN, dgNil, dgCons, dgSub, dAsg, dPar, dPar3, putD, dSetF, dMt, rAppendD, rPopD, rExtendD, lsT, lsR, lsF, itemsR, dFrz, dCall, dCallK, dMeth, dMake, dFor, dIL, dIT, dIR1, dIR2, dIE, dIZ, wipeD, dYes, dLc, dDic0, updM_same, cxOf, asBl_bl, asInt_int, asTup_tup, isN, w_test, w_chain, w_andV, w_orV, w_notV, w_neg, w_sub, w_div, w_mod, w_pow, w_shl, w_shr, w_and, w_or, w_xor, w_lt, w_le, w_gt, w_ge, w_add, w_addS, w_addT, w_addL, w_addF, w_addR, w_mul, w_mulL, w_eq, w_ne, w_isN, w_isB, w_isntN, w_isntB, w_ix, w_isi, w_abs, w_max2, w_min2, w_max1L, w_min1L, w_sum, w_all, w_any, w_len, w_int, w_intB, w_divmod, w_sorted, w_list, w_bits, w_sl, w_slL, w_slF, w_slR, w_slT, w_newF, w_newT, w_eqL, w_eqT, w_eqR, w_neL, w_neT, w_neR, w_dgT, w_derL, w_derT, w_derB, w_derI, w_derN, w_derS, w_eqSS, w_eqBB, w_neSS, w_neBB, w_eqBI, w_eqIN, w_neIN, w_eqNI, w_neNI, w_eqNN, w_neNN, w_NN, w_NI, w_IN])
  have hmod : ∀ i : Int, 0 ≤ i.fmod m ∧ i.fmod m < m := fun i => by
    rw [fmodP hm]
    exact ⟨Int.emod_nonneg _ (by omega), Int.emod_lt_of_pos _ hm⟩
  by_cases h : 0 < x
  · simp only [h]
    (try simp only [dgU, w_lrg, dCut, dDGet, dDGet1, dDGet2, dDPut, dPairs, w_disp, w_newDF, w_newDT, dec_self, List.map_cons, List.map_nil, eqD_bl, eqD_int, eqD_str, eqD_tup, eqD_lst, eqDs_nil, eqDs_nc, eqDs_cn, eqDs_cons, reduceIte, Bool.false_eq_true, Bool.not_true, Bool.not_false, decide_true, decide_false, dVar, atD, setD, startD, dC, dOp, dAnd, dOr, dNot, dIf, dUn, dNil, dCons, dTup, dLst, rInD, rNotInD, dNoPart, dPart, dRev, dFld, DL.fieldsOf, dCB, dNext, dSeq, dBreak, dCont, dDrop, dRet, dRetN, dIfS, dNever, dgN, dgNil, dgCons, dgSub, dAsg, dPar, dPar3, putD, dSetF, dMt, rAppendD, rPopD, rExtendD, lsT, lsR, lsF, itemsR, dFrz, dCall, dCallK, dMeth, dMake, dFor, dIL, dIT, dIR1, dIR2, dIE, dIZ, wipeD, dYes, dLc, dDic0, updM_same, cxOf, asBl_bl, asInt_int, asTup_tup, isN, w_test, w_chain, w_andV, w_orV, w_notV, w_neg, w_sub, w_div, w_mod, w_pow, w_shl, w_shr, w_and, w_or, w_xor, w_lt, w_le, w_gt, w_ge, w_add, w_addS, w_addT, w_addL, w_addF, w_addR, w_mul, w_mulL, w_eq, w_ne, w_isN, w_isB, w_isntN, w_isntB, w_ix, w_isi, w_abs, w_max2, w_min2, w_max1L, w_min1L, w_sum, w_all, w_any, w_len, w_int, w_intB, w_divmod, w_sorted, w_list, w_bits, w_sl, w_slL, w_slF, w_slR, w_slT, w_newF, w_newT, w_eqL, w_eqT, w_eqR, w_neL, w_neT, w_neR, w_dgT, w_derL, w_derT, w_derB, w_derI, w_derN, w_derS, w_eqSS, w_eqBB, w_neSS, w_neBB, w_eqBI, w_eqIN, w_neIN, w_eqNI, w_neNI, w_eqNN, w_neNN, w_NN, w_NI, w_IN])
    refine ⟨_, _, by rw [hM], rfl, ?_⟩
    (try simp only [dgU, w_lrg, dCut, dDGet, dDGet1, dDGet2, dDPut, dPairs, w_disp, w_newDF, w_newDT, dec_self, List.map_cons, List.map_nil, eqD_bl, eqD_int, eqD_str, eqD_tup, eqD_lst, eqDs_nil, eqDs_nc, eqDs_cn, eqDs_cons, reduceIte, Bool.false_eq_true, Bool.not_true, Bool.not_false, decide_true, decide_false, dVar, atD, setD, startD, dC, dOp, dAnd, dOr, dNot, dIf, dUn, dNil, dCons, dTup, dLst, rInD, rNotInD, dNoPart, dPart, dRev, dFld, DL.fieldsOf, dCB, dNext, dSeq, dBreak, dCont, dDrop, dRet, dRetN, dIfS, dNever, dgN, dgNil, dgCons, dgSub, dAsg, dPar, dPar3, putD, dSetF, dMt, rAppendD, rPopD, rExtendD, lsT, lsR, lsF, itemsR, dFrz, dCall, dCallK, dMeth, dMake, dFor, dIL, dIT, dIR1, dIR2, dIE, dIZ, wipeD, dYes, dLc, dDic0, updM_same, cxOf, asBl_bl, asInt_int, asTup_tup, isN, w_test, w_chain, w_andV, w_orV, w_notV, w_neg, w_sub, w_div, w_mod, w_pow, w_shl, w_shr, w_and, w_or, w_xor, w_lt, w_le, w_gt, w_ge, w_add, w_addS, w_addT, w_addL, w_addF, w_addR, w_mul, w_mulL, w_eq, w_ne, w_isN, w_isB, w_isntN, w_isntB, w_ix, w_isi, w_abs, w_max2, w_min2, w_max1L, w_min1L, w_sum, w_all, w_any, w_len, w_int, w_intB, w_divmod, w_sorted, w_list, w_bits, w_sl, w_slL, w_slF, w_slR, w_slT, w_newF, w_newT, w_eqL, w_eqT, w_eqR, w_neL, w_neT, w_neR, w_dgT, w_derL, w_derT, w_derB, w_derI, w_derN, w_derS, w_eqSS, w_eqBB, w_neSS, w_neBB, w_eqBI, w_eqIN, w_neIN, w_eqNI, w_neNI, w_eqNN, w_neNN, w_NN, w_NI, w_IN])
    refine ⟨by omega, ?_⟩
    (try simp only [dgU, w_lrg, dCut, dDGet, dDGet1, dDGet2, dDPut, dPairs, w_disp, w_newDF, w_newDT, dec_self, List.map_cons, List.map_nil, eqD_bl, eqD_int, eqD_str, eqD_tup, eqD_lst, eqDs_nil, eqDs_nc, eqDs_cn, eqDs_cons, reduceIte, Bool.false_eq_true, Bool.not_true, Bool.not_false, decide_true, decide_false, dVar, atD, setD, startD, dC, dOp, dAnd, dOr, dNot, dIf, dUn, dNil, dCons, dTup, dLst, rInD, rNotInD, dNoPart, dPart, dRev, dFld, DL.fieldsOf, dCB, dNext, dSeq, dBreak, dCont, dDrop, dRet, dRetN, dIfS, dNever, dgN, dgNil, dgCons, dgSub, dAsg, dPar, dPar3, putD, dSetF, dMt, rAppendD, rPopD, rExtendD, lsT, lsR, lsF, itemsR, dFrz, dCall, dCallK, dMeth, dMake, dFor, dIL, dIT, dIR1, dIR2, dIE, dIZ, wipeD, dYes, dLc, dDic0, updM_same, cxOf, asBl_bl, asInt_int, asTup_tup, isN, w_test, w_chain, w_andV, w_orV, w_notV, w_neg, w_sub, w_div, w_mod, w_pow, w_shl, w_shr, w_and, w_or, w_xor, w_lt, w_le, w_gt, w_ge, w_add, w_addS, w_addT, w_addL, w_addF, w_addR, w_mul, w_mulL, w_eq, w_ne, w_isN, w_isB, w_isntN, w_isntB, w_ix, w_isi, w_abs, w_max2, w_min2, w_max1L, w_min1L, w_sum, w_all, w_any, w_len, w_int, w_intB, w_divmod, w_sorted, w_list, w_bits, w_sl, w_slL, w_slF, w_slR, w_slT, w_newF, w_newT, w_eqL, w_eqT, w_eqR, w_neL, w_neT, w_neR, w_dgT, w_derL, w_derT, w_derB, w_derI, w_derN, w_derS, w_eqSS, w_eqBB, w_neSS, w_neBB, w_eqBI, w_eqIN, w_neIN, w_eqNI, w_neNI, w_eqNN, w_neNN, w_NN, w_NI, w_IN])
    refine ⟨_, _, by rw [hM], rfl, ?_⟩
    (try simp only [dgU, w_lrg, dCut, dDGet, dDGet1, dDGet2, dDPut, dPairs, w_disp, w_newDF, w_newDT, dec_self, List.map_cons, List.map_nil, eqD_bl, eqD_int, eqD_str, eqD_tup, eqD_lst, eqDs_nil, eqDs_nc, eqDs_cn, eqDs_cons, reduceIte, Bool.false_eq_true, Bool.not_true, Bool.not_false, decide_true, decide_false, dVar, atD, setD, startD, dC, dOp, dAnd, dOr, dNot, dIf, dUn, dNil, dCons, dTup, dLst, rInD, rNotInD, dNoPart, dPart, dRev, dFld, DL.fieldsOf, dCB, dNext, dSeq, dBreak, dCont, dDrop, dRet, dRetN, dIfS, dNever, dgN, dgNil, dgCons, dgSub, dAsg, dPar, dPar3, putD, dSetF, dMt, rAppendD, rPopD, rExtendD, lsT, lsR, lsF, itemsR, dFrz, dCall, dCallK, dMeth, dMake, dFor, dIL, dIT, dIR1, dIR2, dIE, dIZ, wipeD, dYes, dLc, dDic0, updM_same, cxOf, asBl_bl, asInt_int, asTup_tup, isN, w_test, w_chain, w_andV, w_orV, w_notV, w_neg, w_sub, w_div, w_mod, w_pow, w_shl, w_shr, w_and, w_or, w_xor, w_lt, w_le, w_gt, w_ge, w_add, w_addS, w_addT, w_addL, w_addF, w_addR, w_mul, w_mulL, w_eq, w_ne, w_isN, w_isB, w_isntN, w_isntB, w_ix, w_isi, w_abs, w_max2, w_min2, w_max1L, w_min1L, w_sum, w_all, w_any, w_len, w_int, w_intB, w_divmod, w_sorted, w_list, w_bits, w_sl, w_slL, w_slF, w_slR, w_slT, w_newF, w_newT, w_eqL, w_eqT, w_eqR, w_neL, w_neT, w_neR, w_dgT, w_derL, w_derT, w_derB, w_derI, w_derN, w_derS, w_eqSS, w_eqBB, w_neSS, w_neBB, w_eqBI, w_eqIN, w_neIN, w_eqNI, w_neNI, w_eqNN, w_neNN, w_NN, w_NI, w_IN])
    refine ⟨divOk_b hm hb, ?_⟩
    (try simp only [dgU, w_lrg, dCut, dDGet, dDGet1, dDGet2, dDPut, dPairs, w_disp, w_newDF, w_newDT, dec_self, List.map_cons, List.map_nil, eqD_bl, eqD_int, eqD_str, eqD_tup, eqD_lst, eqDs_nil, eqDs_nc, eqDs_cn, eqDs_cons, reduceIte, Bool.false_eq_true, Bool.not_true, Bool.not_false, decide_true, decide_false, dVar, atD, setD, startD, dC, dOp, dAnd, dOr, dNot, dIf, dUn, dNil, dCons, dTup, dLst, rInD, rNotInD, dNoPart, dPart, dRev, dFld, DL.fieldsOf, dCB, dNext, dSeq, dBreak, dCont, dDrop, dRet, dRetN, dIfS, dNever, dgN, dgNil, dgCons, dgSub, dAsg, dPar, dPar3, putD, dSetF, dMt, rAppendD, rPopD, rExtendD, lsT, lsR, lsF, itemsR, dFrz, dCall, dCallK, dMeth, dMake, dFor, dIL, dIT, dIR1, dIR2, dIE, dIZ, wipeD, dYes, dLc, dDic0, updM_same, cxOf, asBl_bl, asInt_int, asTup_tup, isN, w_test, w_chain, w_andV, w_orV, w_notV, w_neg, w_sub, w_div, w_mod, w_pow, w_shl, w_shr, w_and, w_or, w_xor, w_lt, w_le, w_gt, w_ge, w_add, w_addS, w_addT, w_addL, w_addF, w_addR, w_mul, w_mulL, w_eq, w_ne, w_isN, w_isB, w_isntN, w_isntB, w_ix, w_isi, w_abs, w_max2, w_min2, w_max1L, w_min1L, w_sum, w_all, w_any, w_len, w_int, w_intB, w_divmod, w_sorted, w_list, w_bits, w_sl, w_slL, w_slF, w_slR, w_slT, w_newF, w_newT, w_eqL, w_eqT, w_eqR, w_neL, w_neT, w_neR, w_dgT, w_derL, w_derT, w_derB, w_derI, w_derN, w_derS, w_eqSS, w_eqBB, w_neSS, w_neBB, w_eqBI, w_eqIN, w_neIN, w_eqNI, w_neNI, w_eqNN, w_neNN, w_NN, w_NI, w_IN])
    refine ⟨_, _, hM, rfl, endD_of ?_⟩
    refine hQ _ _ (hmod x).1 (hmod x).2 ⟨_, y, z, rfl, ?_, hy, hz⟩
    rw [fdivP hm]
    exact Int.ediv_nonneg hx (by omega)
  · simp only [h]
    (try simp only [dgU, w_lrg, dCut, dDGet, dDGet1, dDGet2, dDPut, dPairs, w_disp, w_newDF, w_newDT, dec_self, List.map_cons, List.map_nil, eqD_bl, eqD_int, eqD_str, eqD_tup, eqD_lst, eqDs_nil, eqDs_nc, eqDs_cn, eqDs_cons, reduceIte, Bool.false_eq_true, Bool.not_true, Bool.not_false, decide_true, decide_false, dVar, atD, setD, startD, dC, dOp, dAnd, dOr, dNot, dIf, dUn, dNil, dCons, dTup, dLst, rInD, rNotInD, dNoPart, dPart, dRev, dFld, DL.fieldsOf, dCB, dNext, dSeq, dBreak, dCont, dDrop, dRet, dRetN, dIfS, dNever, dgN, dgNil, dgCons, dgSub, dAsg, dPar, dPar3, putD, dSetF, dMt, rAppendD, rPopD, rExtendD, lsT, lsR, lsF, itemsR, dFrz, dCall, dCallK, dMeth, dMake, dFor, dIL, dIT, dIR1, dIR2, dIE, dIZ, wipeD, dYes, dLc, dDic0, updM_same, cxOf, asBl_bl, asInt_int, asTup_tup, isN, w_test, w_chain, w_andV, w_orV, w_notV, w_neg, w_sub, w_div, w_mod, w_pow, w_shl, w_shr, w_and, w_or, w_xor, w_lt, w_le, w_gt, w_ge, w_add, w_addS, w_addT, w_addL, w_addF, w_addR, w_mul, w_mulL, w_eq, w_ne, w_isN, w_isB, w_isntN, w_isntB, w_ix, w_isi, w_abs, w_max2, w_min2, w_max1L, w_min1L, w_sum, w_all, w_any, w_len, w_int, w_intB, w_divmod, w_sorted, w_list, w_bits, w_sl, w_slL, w_slF, w_slR, w_slT, w_newF, w_newT, w_eqL, w_eqT, w_eqR, w_neL, w_neT, w_neR, w_dgT, w_derL, w_derT, w_derB, w_derI, w_derN, w_derS, w_eqSS, w_eqBB, w_neSS, w_neBB, w_eqBI, w_eqIN, w_neIN, w_eqNI, w_neNI, w_eqNN, w_neNN, w_NN, w_NI, w_IN])
    refine ⟨_, _, by rw [hM], rfl, ?_⟩
    (try simp only [dgU, w_lrg, dCut, dDGet, dDGet1, dDGet2, dDPut, dPairs, w_disp, w_newDF, w_newDT, dec_self, List.map_cons, List.map_nil, eqD_bl, eqD_int, eqD_str, eqD_tup, eqD_lst, eqDs_nil, eqDs_nc, eqDs_cn, eqDs_cons, reduceIte, Bool.false_eq_true, Bool.not_true, Bool.not_false, decide_true, decide_false, dVar, atD, setD, startD, dC, dOp, dAnd, dOr, dNot, dIf, dUn, dNil, dCons, dTup, dLst, rInD, rNotInD, dNoPart, dPart, dRev, dFld, DL.fieldsOf, dCB, dNext, dSeq, dBreak, dCont, dDrop, dRet, dRetN, dIfS, dNever, dgN, dgNil, dgCons, dgSub, dAsg, dPar, dPar3, putD, dSetF, dMt, rAppendD, rPopD, rExtendD, lsT, lsR, lsF, itemsR, dFrz, dCall, dCallK, dMeth, dMake, dFor, dIL, dIT, dIR1, dIR2, dIE, dIZ, wipeD, dYes, dLc, dDic0, updM_same, cxOf, asBl_bl, asInt_int, asTup_tup, isN, w_test, w_chain, w_andV, w_orV, w_notV, w_neg, w_sub, w_div, w_mod, w_pow, w_shl, w_shr, w_and, w_or, w_xor, w_lt, w_le, w_gt, w_ge, w_add, w_addS, w_addT, w_addL, w_addF, w_addR, w_mul, w_mulL, w_eq, w_ne, w_isN, w_isB, w_isntN, w_isntB, w_ix, w_isi, w_abs, w_max2, w_min2, w_max1L, w_min1L, w_sum, w_all, w_any, w_len, w_int, w_intB, w_divmod, w_sorted, w_list, w_bits, w_sl, w_slL, w_slF, w_slR, w_slT, w_newF, w_newT, w_eqL, w_eqT, w_eqR, w_neL, w_neT, w_neR, w_dgT, w_derL, w_derT, w_derB, w_derI, w_derN, w_derS, w_eqSS, w_eqBB, w_neSS, w_neBB, w_eqBI, w_eqIN, w_neIN, w_eqNI, w_neNI, w_eqNN, w_neNN, w_NN, w_NI, w_IN])
    refine ⟨_, _, hM, rfl, ?_⟩
    refine ⟨_, _, rfl, rfl, _, _, rfl, rfl, ?_⟩
    (try simp only [dgU, w_lrg, dCut, dDGet, dDGet1, dDGet2, dDPut, dPairs, w_disp, w_newDF, w_newDT, dec_self, List.map_cons, List.map_nil, eqD_bl, eqD_int, eqD_str, eqD_tup, eqD_lst, eqDs_nil, eqDs_nc, eqDs_cn, eqDs_cons, reduceIte, Bool.false_eq_true, Bool.not_true, Bool.not_false, decide_true, decide_false, dVar, atD, setD, startD, dC, dOp, dAnd, dOr, dNot, dIf, dUn, dNil, dCons, dTup, dLst, rInD, rNotInD, dNoPart, dPart, dRev, dFld, DL.fieldsOf, dCB, dNext, dSeq, dBreak, dCont, dDrop, dRet, dRetN, dIfS, dNever, dgN, dgNil, dgCons, dgSub, dAsg, dPar, dPar3, putD, dSetF, dMt, rAppendD, rPopD, rExtendD, lsT, lsR, lsF, itemsR, dFrz, dCall, dCallK, dMeth, dMake, dFor, dIL, dIT, dIR1, dIR2, dIE, dIZ, wipeD, dYes, dLc, dDic0, updM_same, cxOf, asBl_bl, asInt_int, asTup_tup, isN, w_test, w_chain, w_andV, w_orV, w_notV, w_neg, w_sub, w_div, w_mod, w_pow, w_shl, w_shr, w_and, w_or, w_xor, w_lt, w_le, w_gt, w_ge, w_add, w_addS, w_addT, w_addL, w_addF, w_addR, w_mul, w_mulL, w_eq, w_ne, w_isN, w_isB, w_isntN, w_isntB, w_ix, w_isi, w_abs, w_max2, w_min2, w_max1L, w_min1L, w_sum, w_all, w_any, w_len, w_int, w_intB, w_divmod, w_sorted, w_list, w_bits, w_sl, w_slL, w_slF, w_slR, w_slT, w_newF, w_newT, w_eqL, w_eqT, w_eqR, w_neL, w_neT, w_neR, w_dgT, w_derL, w_derT, w_derB, w_derI, w_derN, w_derS, w_eqSS, w_eqBB, w_neSS, w_neBB, w_eqBI, w_eqIN, w_neIN, w_eqNI, w_neNI, w_eqNN, w_neNN, w_NN, w_NI, w_IN])
    refine ⟨mulOk_l (by decide), ?_⟩
    (try simp only [dgU, w_lrg, dCut, dDGet, dDGet1, dDGet2, dDPut, dPairs, w_disp, w_newDF, w_newDT, dec_self, List.map_cons, List.map_nil, eqD_bl, eqD_int, eqD_str, eqD_tup, eqD_lst, eqDs_nil, eqDs_nc, eqDs_cn, eqDs_cons, reduceIte, Bool.false_eq_true, Bool.not_true, Bool.not_false, decide_true, decide_false, dVar, atD, setD, startD, dC, dOp, dAnd, dOr, dNot, dIf, dUn, dNil, dCons, dTup, dLst, rInD, rNotInD, dNoPart, dPart, dRev, dFld, DL.fieldsOf, dCB, dNext, dSeq, dBreak, dCont, dDrop, dRet, dRetN, dIfS, dNever, dgN, dgNil, dgCons, dgSub, dAsg, dPar, dPar3, putD, dSetF, dMt, rAppendD, rPopD, rExtendD, lsT, lsR, lsF, itemsR, dFrz, dCall, dCallK, dMeth, dMake, dFor, dIL, dIT, dIR1, dIR2, dIE, dIZ, wipeD, dYes, dLc, dDic0, updM_same, cxOf, asBl_bl, asInt_int, asTup_tup, isN, w_test, w_chain, w_andV, w_orV, w_notV, w_neg, w_sub, w_div, w_mod, w_pow, w_shl, w_shr, w_and, w_or, w_xor, w_lt, w_le, w_gt, w_ge, w_add, w_addS, w_addT, w_addL, w_addF, w_addR, w_mul, w_mulL, w_eq, w_ne, w_isN, w_isB, w_isntN, w_isntB, w_ix, w_isi, w_abs, w_max2, w_min2, w_max1L, w_min1L, w_sum, w_all, w_any, w_len, w_int, w_intB, w_divmod, w_sorted, w_list, w_bits, w_sl, w_slL, w_slF, w_slR, w_slT, w_newF, w_newT, w_eqL, w_eqT, w_eqR, w_neL, w_neT, w_neR, w_dgT, w_derL, w_derT, w_derB, w_derI, w_derN, w_derS, w_eqSS, w_eqBB, w_neSS, w_neBB, w_eqBI, w_eqIN, w_neIN, w_eqNI, w_neNI, w_eqNN, w_neNN, w_NN, w_NI, w_IN])
    refine ⟨by decide, ?_⟩
    (try simp only [dgU, w_lrg, dCut, dDGet, dDGet1, dDGet2, dDPut, dPairs, w_disp, w_newDF, w_newDT, dec_self, List.map_cons, List.map_nil, eqD_bl, eqD_int, eqD_str, eqD_tup, eqD_lst, eqDs_nil, eqDs_nc, eqDs_cn, eqDs_cons, reduceIte, Bool.false_eq_true, Bool.not_true, Bool.not_false, decide_true, decide_false, dVar, atD, setD, startD, dC, dOp, dAnd, dOr, dNot, dIf, dUn, dNil, dCons, dTup, dLst, rInD, rNotInD, dNoPart, dPart, dRev, dFld, DL.fieldsOf, dCB, dNext, dSeq, dBreak, dCont, dDrop, dRet, dRetN, dIfS, dNever, dgN, dgNil, dgCons, dgSub, dAsg, dPar, dPar3, putD, dSetF, dMt, rAppendD, rPopD, rExtendD, lsT, lsR, lsF, itemsR, dFrz, dCall, dCallK, dMeth, dMake, dFor, dIL, dIT, dIR1, dIR2, dIE, dIZ, wipeD, dYes, dLc, dDic0, updM_same, cxOf, asBl_bl, asInt_int, asTup_tup, isN, w_test, w_chain, w_andV, w_orV, w_notV, w_neg, w_sub, w_div, w_mod, w_pow, w_shl, w_shr, w_and, w_or, w_xor, w_lt, w_le, w_gt, w_ge, w_add, w_addS, w_addT, w_addL, w_addF, w_addR, w_mul, w_mulL, w_eq, w_ne, w_isN, w_isB, w_isntN, w_isntB, w_ix, w_isi, w_abs, w_max2, w_min2, w_max1L, w_min1L, w_sum, w_all, w_any, w_len, w_int, w_intB, w_divmod, w_sorted, w_list, w_bits, w_sl, w_slL, w_slF, w_slR, w_slT, w_newF, w_newT, w_eqL, w_eqT, w_eqR, w_neL, w_neT, w_neR, w_dgT, w_derL, w_derT, w_derB, w_derI, w_derN, w_derS, w_eqSS, w_eqBB, w_neSS, w_neBB, w_eqBI, w_eqIN, w_neIN, w_eqNI, w_neNI, w_eqNN, w_neNN, w_NN, w_NI, w_IN])
    obtain ⟨q1, h1, l1⟩ : ∃ q : Int, (y + 104729 * (z + 1) + 7919).fmod 2147483647 = q ∧ 0 ≤ q ∧ q < 2147483647 := by
      refine ⟨_, rfl, ?_⟩
      rw [fmodP (by decide)]
      omega
    rw [h1]
    refine ⟨mulOk_r (by decide), ?_⟩
    (try simp only [dgU, w_lrg, dCut, dDGet, dDGet1, dDGet2, dDPut, dPairs, w_disp, w_newDF, w_newDT, dec_self, List.map_cons, List.map_nil, eqD_bl, eqD_int, eqD_str, eqD_tup, eqD_lst, eqDs_nil, eqDs_nc, eqDs_cn, eqDs_cons, reduceIte, Bool.false_eq_true, Bool.not_true, Bool.not_false, decide_true, decide_false, dVar, atD, setD, startD, dC, dOp, dAnd, dOr, dNot, dIf, dUn, dNil, dCons, dTup, dLst, rInD, rNotInD, dNoPart, dPart, dRev, dFld, DL.fieldsOf, dCB, dNext, dSeq, dBreak, dCont, dDrop, dRet, dRetN, dIfS, dNever, dgN, dgNil, dgCons, dgSub, dAsg, dPar, dPar3, putD, dSetF, dMt, rAppendD, rPopD, rExtendD, lsT, lsR, lsF, itemsR, dFrz, dCall, dCallK, dMeth, dMake, dFor, dIL, dIT, dIR1, dIR2, dIE, dIZ, wipeD, dYes, dLc, dDic0, updM_same, cxOf, asBl_bl, asInt_int, asTup_tup, isN, w_test, w_chain, w_andV, w_orV, w_notV, w_neg, w_sub, w_div, w_mod, w_pow, w_shl, w_shr, w_and, w_or, w_xor, w_lt, w_le, w_gt, w_ge, w_add, w_addS, w_addT, w_addL, w_addF, w_addR, w_mul, w_mulL, w_eq, w_ne, w_isN, w_isB, w_isntN, w_isntB, w_ix, w_isi, w_abs, w_max2, w_min2, w_max1L, w_min1L, w_sum, w_all, w_any, w_len, w_int, w_intB, w_divmod, w_sorted, w_list, w_bits, w_sl, w_slL, w_slF, w_slR, w_slT, w_newF, w_newT, w_eqL, w_eqT, w_eqR, w_neL, w_neT, w_neR, w_dgT, w_derL, w_derT, w_derB, w_derI, w_derN, w_derS, w_eqSS, w_eqBB, w_neSS, w_neBB, w_eqBI, w_eqIN, w_neIN, w_eqNI, w_neNI, w_eqNN, w_neNN, w_NN, w_NI, w_IN])
    refine ⟨by decide, ?_⟩
    (try simp only [dgU, w_lrg, dCut, dDGet, dDGet1, dDGet2, dDPut, dPairs, w_disp, w_newDF, w_newDT, dec_self, List.map_cons, List.map_nil, eqD_bl, eqD_int, eqD_str, eqD_tup, eqD_lst, eqDs_nil, eqDs_nc, eqDs_cn, eqDs_cons, reduceIte, Bool.false_eq_true, Bool.not_true, Bool.not_false, decide_true, decide_false, dVar, atD, setD, startD, dC, dOp, dAnd, dOr, dNot, dIf, dUn, dNil, dCons, dTup, dLst, rInD, rNotInD, dNoPart, dPart, dRev, dFld, DL.fieldsOf, dCB, dNext, dSeq, dBreak, dCont, dDrop, dRet, dRetN, dIfS, dNever, dgN, dgNil, dgCons, dgSub, dAsg, dPar, dPar3, putD, dSetF, dMt, rAppendD, rPopD, rExtendD, lsT, lsR, lsF, itemsR, dFrz, dCall, dCallK, dMeth, dMake, dFor, dIL, dIT, dIR1, dIR2, dIE, dIZ, wipeD, dYes, dLc, dDic0, updM_same, cxOf, asBl_bl, asInt_int, asTup_tup, isN, w_test, w_chain, w_andV, w_orV, w_notV, w_neg, w_sub, w_div, w_mod, w_pow, w_shl, w_shr, w_and, w_or, w_xor, w_lt, w_le, w_gt, w_ge, w_add, w_addS, w_addT, w_addL, w_addF, w_addR, w_mul, w_mulL, w_eq, w_ne, w_isN, w_isB, w_isntN, w_isntB, w_ix, w_isi, w_abs, w_max2, w_min2, w_max1L, w_min1L, w_sum, w_all, w_any, w_len, w_int, w_intB, w_divmod, w_sorted, w_list, w_bits, w_sl, w_slL, w_slF, w_slR, w_slT, w_newF, w_newT, w_eqL, w_eqT, w_eqR, w_neL, w_neT, w_neR, w_dgT, w_derL, w_derT, w_derB, w_derI, w_derN, w_derS, w_eqSS, w_eqBB, w_neSS, w_neBB, w_eqBI, w_eqIN, w_neIN, w_eqNI, w_neNI, w_eqNN, w_neNN, w_NN, w_NI, w_IN])
    obtain ⟨q2, h2, l2⟩ : ∃ q : Int, (q1 * 48271).fmod 2147483647 = q ∧ 0 ≤ q ∧ q < 2147483647 := by
      refine ⟨_, rfl, ?_⟩
      rw [fmodP (by decide)]
      omega
    rw [h2]
    refine ⟨divOk_b (by decide) (by decide +kernel), ?_⟩
    (try simp only [dgU, w_lrg, dCut, dDGet, dDGet1, dDGet2, dDPut, dPairs, w_disp, w_newDF, w_newDT, dec_self, List.map_cons, List.map_nil, eqD_bl, eqD_int, eqD_str, eqD_tup, eqD_lst, eqDs_nil, eqDs_nc, eqDs_cn, eqDs_cons, reduceIte, Bool.false_eq_true, Bool.not_true, Bool.not_false, decide_true, decide_false, dVar, atD, setD, startD, dC, dOp, dAnd, dOr, dNot, dIf, dUn, dNil, dCons, dTup, dLst, rInD, rNotInD, dNoPart, dPart, dRev, dFld, DL.fieldsOf, dCB, dNext, dSeq, dBreak, dCont, dDrop, dRet, dRetN, dIfS, dNever, dgN, dgNil, dgCons, dgSub, dAsg, dPar, dPar3, putD, dSetF, dMt, rAppendD, rPopD, rExtendD, lsT, lsR, lsF, itemsR, dFrz, dCall, dCallK, dMeth, dMake, dFor, dIL, dIT, dIR1, dIR2, dIE, dIZ, wipeD, dYes, dLc, dDic0, updM_same, cxOf, asBl_bl, asInt_int, asTup_tup, isN, w_test, w_chain, w_andV, w_orV, w_notV, w_neg, w_sub, w_div, w_mod, w_pow, w_shl, w_shr, w_and, w_or, w_xor, w_lt, w_le, w_gt, w_ge, w_add, w_addS, w_addT, w_addL, w_addF, w_addR, w_mul, w_mulL, w_eq, w_ne, w_isN, w_isB, w_isntN, w_isntB, w_ix, w_isi, w_abs, w_max2, w_min2, w_max1L, w_min1L, w_sum, w_all, w_any, w_len, w_int, w_intB, w_divmod, w_sorted, w_list, w_bits, w_sl, w_slL, w_slF, w_slR, w_slT, w_newF, w_newT, w_eqL, w_eqT, w_eqR, w_neL, w_neT, w_neR, w_dgT, w_derL, w_derT, w_derB, w_derI, w_derN, w_derS, w_eqSS, w_eqBB, w_neSS, w_neBB, w_eqBI, w_eqIN, w_neIN, w_eqNI, w_neNI, w_eqNN, w_neNN, w_NN, w_NI, w_IN])
    obtain ⟨q3, h3, l3⟩ : ∃ q : Int, q2.fdiv 1009 = q ∧ 0 ≤ q ∧ q < 2147483647 := by
      refine ⟨_, rfl, ?_⟩
      rw [fdivP (by decide)]
      omega
    rw [h3]
    refine ⟨mulOk_r (by omega), by decide, ?_⟩
    obtain ⟨q4, h4, l4⟩ : ∃ q : Int, (q2 * (q3 + 69621)).fmod 2147483647 = q ∧ 0 ≤ q ∧ q < 2147483647 := by
      refine ⟨_, rfl, ?_⟩
      rw [fmodP (by decide)]
      exact ⟨Int.emod_nonneg _ (by decide), Int.emod_lt_of_pos _ (by decide)⟩
    rw [h4]
    refine ⟨divOk_b (by decide) (by decide +kernel), ?_⟩
    obtain ⟨q5, h5, l5⟩ : ∃ q : Int, q4.fdiv 2003 = q ∧ 0 ≤ q ∧ q < 2147483647 := by
      refine ⟨_, rfl, ?_⟩
      rw [fdivP (by decide)]
      omega
    rw [h5]
    refine ⟨mulOk_r (by omega), by decide, divOk_b (by decide) (by decide +kernel), by omega, endD_of ?_⟩
    refine hQ _ _ (hmod _).1 (hmod _).2 ⟨x, y, z + 1, rfl, hx, hy, by omega⟩
abbrev sp_one : SpD := fun ds M Q => ∃ (a : Addr) (xs : List Dat), ds = [.ref a, .lst xs] ∧ Src M a ∧ 0 < xs.length ∧ xs.length < 1000 ∧ ∀ d M', d ∈ xs → SrcTo a M M' → Q d M'
theorem ok__law_one (T : Txt K mg C_Kind) (F__law_next : FnD P w K mg base 1 "_law_next" s__law_next ["_law_source", "_law_many"] (sp_next)) : FnD P w K mg base 2 "_law_one" s__law_one ["_law_source", "_law_some"] (sp_one) := by
  refine fn_mk T.h__law_one sc__law_one 2 rfl (by intro ds M Q h; first | (obtain ⟨rfl, _⟩ := h; rfl) | (obtain ⟨_, rfl, _⟩ := h; rfl) | (obtain ⟨_, _, rfl, _⟩ := h; rfl) | (obtain ⟨_, _, _, rfl, _⟩ := h; rfl) | (obtain ⟨_, _, _, _, rfl, _⟩ := h; rfl) | (obtain ⟨_, _, _, _, _, rfl, _⟩ := h; rfl) | (obtain ⟨_, _, _, _, _, _, rfl, _⟩ := h; rfl) | (obtain ⟨_, _, _, _, _, _, _, rfl, _⟩ := h; rfl) | (obtain ⟨_, _, _, _, _, _, _, _, rfl, _⟩ := h; rfl) | (obtain ⟨_, _, _, _, _, _, _, _, _, rfl, _⟩ := h; rfl) | (obtain ⟨_, _, _, _, _, _, _, _, _, _, rfl, _⟩ := h; rfl) | (obtain ⟨_, _, _, _, _, _, _, _, _, _, _, rfl, _⟩ := h; rfl) | (obtain ⟨_, _, _, _, _, _, _, _, _, _, _, _, rfl, _⟩ := h; rfl)) (fun f cdv A outer s H E hr => ⟨_, (dss_one (ds_ret (de_ix (dv 1) (de_call F__law_next hr (da_cons (dv 0) (da_cons (de_cb (cd_len) (by rfl) T.b_len PySem.boot_len (da_cons (dv 1) da_nil)) da_nil)))))), ?_⟩)
  rintro ds M Q ⟨a, xs, rfl, hM, h0, hl, hQ⟩
  (try simp only [dgU, w_lrg, dCut, dDGet, dDGet1, dDGet2, dDPut, dPairs, w_disp, w_newDF, w_newDT, dec_self, List.map_cons, List.map_nil, eqD_bl, eqD_int, eqD_str, eqD_tup, eqD_lst, eqDs_nil, eqDs_nc, eqDs_cn, eqDs_cons, reduceIte, Bool.false_eq_true, Bool.not_true, Bool.not_false, decide_true, decide_false, dVar, atD, setD, startD, dC, dOp, dAnd, dOr, dNot, dIf, dUn, dNil, dCons, dTup, dLst, rInD, rNotInD, dNoPart, dPart, dRev, dFld, DL.fieldsOf, dCB, dNext, dSeq, dBreak, dCont, dDrop, dRet, dRetN, dIfS, dNever, dgN, dgNil, dgCons, dgSub, dAsg, dPar, dPar3, putD, dSetF, dMt, rAppendD, rPopD, rExtendD, lsT, lsR, lsF, itemsR, dFrz, dCall, dCallK, dMeth, dMake, dFor, dIL, dIT, dIR1, dIR2, dIE, dIZ, wipeD, dYes, dLc, dDic0, updM_same, cxOf, asBl_bl, asInt_int, asTup_tup, isN, w_test, w_chain, w_andV, w_orV, w_notV, w_neg, w_sub, w_div, w_mod, w_pow, w_shl, w_shr, w_and, w_or, w_xor, w_lt, w_le, w_gt, w_ge, w_add, w_addS, w_addT, w_addL, w_addF, w_addR, w_mul, w_mulL, w_eq, w_ne, w_isN, w_isB, w_isntN, w_isntB, w_ix, w_isi, w_abs, w_max2, w_min2, w_max1L, w_min1L, w_sum, w_all, w_any, w_len, w_int, w_intB, w_divmod, w_sorted, w_list, w_bits, w_sl, w_slL, w_slF, w_slR, w_slT, w_newF, w_newT, w_eqL, w_eqT, w_eqR, w_neL, w_neT, w_neR, w_dgT, w_derL, w_derT, w_derB, w_derI, w_derN, w_derS, w_eqSS, w_eqBB, w_neSS, w_neBB, w_eqBI, w_eqIN, w_neIN, w_eqNI, w_neNI, w_eqNN, w_neNN, w_NN, w_NI, w_IN])
  refine ⟨_, rfl, a, xs.length, rfl, hM, by omega, Int.lt_trans (show (xs.length : Int) < 1000 by omega) (by decide +kernel), fun r M' h1 h2 hs => ?_⟩
  (try simp only [dgU, w_lrg, dCut, dDGet, dDGet1, dDGet2, dDPut, dPairs, w_disp, w_newDF, w_newDT, dec_self, List.map_cons, List.map_nil, eqD_bl, eqD_int, eqD_str, eqD_tup, eqD_lst, eqDs_nil, eqDs_nc, eqDs_cn, eqDs_cons, reduceIte, Bool.false_eq_true, Bool.not_true, Bool.not_false, decide_true, decide_false, dVar, atD, setD, startD, dC, dOp, dAnd, dOr, dNot, dIf, dUn, dNil, dCons, dTup, dLst, rInD, rNotInD, dNoPart, dPart, dRev, dFld, DL.fieldsOf, dCB, dNext, dSeq, dBreak, dCont, dDrop, dRet, dRetN, dIfS, dNever, dgN, dgNil, dgCons, dgSub, dAsg, dPar, dPar3, putD, dSetF, dMt, rAppendD, rPopD, rExtendD, lsT, lsR, lsF, itemsR, dFrz, dCall, dCallK, dMeth, dMake, dFor, dIL, dIT, dIR1, dIR2, dIE, dIZ, wipeD, dYes, dLc, dDic0, updM_same, cxOf, asBl_bl, asInt_int, asTup_tup, isN, w_test, w_chain, w_andV, w_orV, w_notV, w_neg, w_sub, w_div, w_mod, w_pow, w_shl, w_shr, w_and, w_or, w_xor, w_lt, w_le, w_gt, w_ge, w_add, w_addS, w_addT, w_addL, w_addF, w_addR, w_mul, w_mulL, w_eq, w_ne, w_isN, w_isB, w_isntN, w_isntB, w_ix, w_isi, w_abs, w_max2, w_min2, w_max1L, w_min1L, w_sum, w_all, w_any, w_len, w_int, w_intB, w_divmod, w_sorted, w_list, w_bits, w_sl, w_slL, w_slF, w_slR, w_slT, w_newF, w_newT, w_eqL, w_eqT, w_eqR, w_neL, w_neT, w_neR, w_dgT, w_derL, w_derT, w_derB, w_derI, w_derN, w_derS, w_eqSS, w_eqBB, w_neSS, w_neBB, w_eqBI, w_eqIN, w_neIN, w_eqNI, w_neNI, w_eqNN, w_neNN, w_NN, w_NI, w_IN])
  obtain ⟨d, hd, hm⟩ := atI_ex (xs := xs) h1 h2
  exact ⟨xs, d, rfl, hd, endD_of (hQ _ _ hm hs)⟩
theorem cell_ints {c : Int} {ms : List Int} : ∀ d ∈ [Dat.int c] ++ ms.map Dat.int, ∃ n, d = .int n := by
  intro d hd
  rcases List.mem_append.mp hd with h | h
  · simp only [List.mem_singleton] at h
    exact ⟨_, h⟩
  · obtain ⟨n, _, e⟩ := List.mem_map.mp h
    exact ⟨n, e.symm⟩
abbrev sp_cell : SpD := fun ds M Q => ∃ (ns : List Int) (i : Nat), ds = [.frl (ns.map Dat.int), .int (i : Nat)] ∧ ns.length ≤ 63 ∧ ∀ n : Int, Q (.int n) M
theorem ok__law_cell_at (T : Txt K mg C_Kind) : FnD P w K mg base 1 "_law_cell_at" s__law_cell_at ["_law_script", "_law_index"] (sp_cell) := by
  refine fn_mk T.h__law_cell_at sc__law_cell_at 2 rfl (by intro ds M Q h; first | (obtain ⟨rfl, _⟩ := h; rfl) | (obtain ⟨_, rfl, _⟩ := h; rfl) | (obtain ⟨_, _, rfl, _⟩ := h; rfl) | (obtain ⟨_, _, _, rfl, _⟩ := h; rfl) | (obtain ⟨_, _, _, _, rfl, _⟩ := h; rfl) | (obtain ⟨_, _, _, _, _, rfl, _⟩ := h; rfl) | (obtain ⟨_, _, _, _, _, _, rfl, _⟩ := h; rfl) | (obtain ⟨_, _, _, _, _, _, _, rfl, _⟩ := h; rfl) | (obtain ⟨_, _, _, _, _, _, _, _, rfl, _⟩ := h; rfl) | (obtain ⟨_, _, _, _, _, _, _, _, _, rfl, _⟩ := h; rfl) | (obtain ⟨_, _, _, _, _, _, _, _, _, _, rfl, _⟩ := h; rfl) | (obtain ⟨_, _, _, _, _, _, _, _, _, _, _, rfl, _⟩ := h; rfl) | (obtain ⟨_, _, _, _, _, _, _, _, _, _, _, _, rfl, _⟩ := h; rfl)) (fun f cdv A outer s H E hr => ⟨_, (dss_one (ds_ret (de_ix (de_op (od_add false) (de_sl false (dv 0) (do_some (dv 1)) (do_some (de_op (od_add false) (dv 1) de_int))) (de_lst false (da_cons de_int da_nil))) de_int))), ?_⟩)
  rintro ds M Q ⟨ns, i, rfl, hl, hQ⟩
  (try simp only [dgU, w_lrg, dCut, dDGet, dDGet1, dDGet2, dDPut, dPairs, w_disp, w_newDF, w_newDT, dec_self, List.map_cons, List.map_nil, eqD_bl, eqD_int, eqD_str, eqD_tup, eqD_lst, eqDs_nil, eqDs_nc, eqDs_cn, eqDs_cons, reduceIte, Bool.false_eq_true, Bool.not_true, Bool.not_false, decide_true, decide_false, dVar, atD, setD, startD, dC, dOp, dAnd, dOr, dNot, dIf, dUn, dNil, dCons, dTup, dLst, rInD, rNotInD, dNoPart, dPart, dRev, dFld, DL.fieldsOf, dCB, dNext, dSeq, dBreak, dCont, dDrop, dRet, dRetN, dIfS, dNever, dgN, dgNil, dgCons, dgSub, dAsg, dPar, dPar3, putD, dSetF, dMt, rAppendD, rPopD, rExtendD, lsT, lsR, lsF, itemsR, dFrz, dCall, dCallK, dMeth, dMake, dFor, dIL, dIT, dIR1, dIR2, dIE, dIZ, wipeD, dYes, dLc, dDic0, updM_same, cxOf, asBl_bl, asInt_int, asTup_tup, isN, w_test, w_chain, w_andV, w_orV, w_notV, w_neg, w_sub, w_div, w_mod, w_pow, w_shl, w_shr, w_and, w_or, w_xor, w_lt, w_le, w_gt, w_ge, w_add, w_addS, w_addT, w_addL, w_addF, w_addR, w_mul, w_mulL, w_eq, w_ne, w_isN, w_isB, w_isntN, w_isntB, w_ix, w_isi, w_abs, w_max2, w_min2, w_max1L, w_min1L, w_sum, w_all, w_any, w_len, w_int, w_intB, w_divmod, w_sorted, w_list, w_bits, w_sl, w_slL, w_slF, w_slR, w_slT, w_newF, w_newT, w_eqL, w_eqT, w_eqR, w_neL, w_neT, w_neR, w_dgT, w_derL, w_derT, w_derB, w_derI, w_derN, w_derS, w_eqSS, w_eqBB, w_neSS, w_neBB, w_eqBI, w_eqIN, w_neIN, w_eqNI, w_neNI, w_eqNN, w_neNN, w_NN, w_NI, w_IN])
  obtain ⟨ms, he, hm⟩ := cutD_ints (ns := ns) (some (i : Int)) (some ((i : Int) + 1))
  refine ⟨_, rfl, lit_len (n := 1) (by decide), _, _, rfl, rfl, ?_⟩
  rw [he]
  refine ⟨lit_len ?_, ?_⟩
  · rw [List.length_map]
    show ms.length + 1 ≤ 1000
    omega
  cases ms with
  | nil => exact ⟨_, .int 0, rfl, rfl, endD_of (hQ _)⟩
  | cons m ms => exact ⟨_, .int m, rfl, atI_nat (j := 0) rfl, endD_of (hQ _)⟩
abbrev sp_power : SpD := fun ds M Q => ∃ n : Int, ds = [.int n] ∧ -(2 ^ 62) ≤ n ∧ n < 2 ^ 62 ∧ Q (.int (2 ^ n.toNat)) M
abbrev sp_wide : SpD := sp_next
theorem ok__law_wide (T : Txt K mg C_Kind) (F__law_next : FnD P w K mg base 1 "_law_next" s__law_next ["_law_source", "_law_many"] (sp_next)) : FnD P w K mg base 2 "_law_wide" s__law_wide ["_law_source", "_law_m"] (sp_wide) := by
  refine fn_mk T.h__law_wide sc__law_wide 4 rfl (by intro ds M Q h; first | (obtain ⟨rfl, _⟩ := h; rfl) | (obtain ⟨_, rfl, _⟩ := h; rfl) | (obtain ⟨_, _, rfl, _⟩ := h; rfl) | (obtain ⟨_, _, _, rfl, _⟩ := h; rfl) | (obtain ⟨_, _, _, _, rfl, _⟩ := h; rfl) | (obtain ⟨_, _, _, _, _, rfl, _⟩ := h; rfl) | (obtain ⟨_, _, _, _, _, _, rfl, _⟩ := h; rfl) | (obtain ⟨_, _, _, _, _, _, _, rfl, _⟩ := h; rfl) | (obtain ⟨_, _, _, _, _, _, _, _, rfl, _⟩ := h; rfl) | (obtain ⟨_, _, _, _, _, _, _, _, _, rfl, _⟩ := h; rfl) | (obtain ⟨_, _, _, _, _, _, _, _, _, _, rfl, _⟩ := h; rfl) | (obtain ⟨_, _, _, _, _, _, _, _, _, _, _, rfl, _⟩ := h; rfl) | (obtain ⟨_, _, _, _, _, _, _, _, _, _, _, _, rfl, _⟩ := h; rfl)) (fun f cdv A outer s H E hr => ⟨_, (dss_cons (ds_set (i := 2) sc__law_wide.nd (de_call F__law_next hr (da_cons (dv 0) (da_cons (dv 1) da_nil))))
    (dss_cons (ds_for (di_rng1 T.b_range (da_cons (de_op od_div (de_bits (dv 1)) de_int) da_nil)) (dg_name (i := 3) sc__law_wide.nd)
    (dss_one (ds_set (i := 2) sc__law_wide.nd (de_op (od_add false) (de_op (od_mul false) (dv 2) de_int) (de_call F__law_next hr (da_cons (dv 0) (da_cons de_int da_nil)))))))
    (dss_one (ds_ret (de_op od_mod (de_ct cd_int (by rfl) T.b_int (by decide +kernel) (da_cons (dv 2) da_nil)) (dv 1)))))), ?_⟩)
  rintro ds M Q ⟨a, m, rfl, hM, hm, hb, hQ⟩
  (try simp only [dgU, w_lrg, dCut, dDGet, dDGet1, dDGet2, dDPut, dPairs, w_disp, w_newDF, w_newDT, dec_self, List.map_cons, List.map_nil, eqD_bl, eqD_int, eqD_str, eqD_tup, eqD_lst, eqDs_nil, eqDs_nc, eqDs_cn, eqDs_cons, reduceIte, Bool.false_eq_true, Bool.not_true, Bool.not_false, decide_true, decide_false, dVar, atD, setD, startD, dC, dOp, dAnd, dOr, dNot, dIf, dUn, dNil, dCons, dTup, dLst, rInD, rNotInD, dNoPart, dPart, dRev, dFld, DL.fieldsOf, dCB, dNext, dSeq, dBreak, dCont, dDrop, dRet, dRetN, dIfS, dNever, dgN, dgNil, dgCons, dgSub, dAsg, dPar, dPar3, putD, dSetF, dMt, rAppendD, rPopD, rExtendD, lsT, lsR, lsF, itemsR, dFrz, dCall, dCallK, dMeth, dMake, dFor, dIL, dIT, dIR1, dIR2, dIE, dIZ, wipeD, dYes, dLc, dDic0, updM_same, cxOf, asBl_bl, asInt_int, asTup_tup, isN, w_test, w_chain, w_andV, w_orV, w_notV, w_neg, w_sub, w_div, w_mod, w_pow, w_shl, w_shr, w_and, w_or, w_xor, w_lt, w_le, w_gt, w_ge, w_add, w_addS, w_addT, w_addL, w_addF, w_addR, w_mul, w_mulL, w_eq, w_ne, w_isN, w_isB, w_isntN, w_isntB, w_ix, w_isi, w_abs, w_max2, w_min2, w_max1L, w_min1L, w_sum, w_all, w_any, w_len, w_int, w_intB, w_divmod, w_sorted, w_list, w_bits, w_sl, w_slL, w_slF, w_slR, w_slT, w_newF, w_newT, w_eqL, w_eqT, w_eqR, w_neL, w_neT, w_neR, w_dgT, w_derL, w_derT, w_derB, w_derI, w_derN, w_derS, w_eqSS, w_eqBB, w_neSS, w_neBB, w_eqBI, w_eqIN, w_neIN, w_eqNI, w_neNI, w_eqNN, w_neNN, w_NN, w_NI, w_IN])
  refine ⟨a, m, rfl, hM, hm, hb, fun f M1 f0 f1 hs => ?_⟩
  have hl : Builtin.Int.intBits m ≤ 9000 := bits_lt (by omega)
  refine ⟨divOk_b (by decide) (by decide +kernel), ?_⟩
  rw [fdivP (by decide)]
  refine ⟨by omega, by omega, ?_⟩
  refine loop_n (fun i ρ M2 => SrcTo a M M2 ∧ ∃ (f : Int) (x : Option Dat), ρ = [some (.ref a), some (.int m), some (.int f), x]) ⟨hs, f, _, rfl⟩ ?_ ?_
  · rintro ρ M2 ⟨hs, f, x, rfl⟩
    (try simp only [dgU, w_lrg, dCut, dDGet, dDGet1, dDGet2, dDPut, dPairs, w_disp, w_newDF, w_newDT, dec_self, List.map_cons, List.map_nil, eqD_bl, eqD_int, eqD_str, eqD_tup, eqD_lst, eqDs_nil, eqDs_nc, eqDs_cn, eqDs_cons, reduceIte, Bool.false_eq_true, Bool.not_true, Bool.not_false, decide_true, decide_false, dVar, atD, setD, startD, dC, dOp, dAnd, dOr, dNot, dIf, dUn, dNil, dCons, dTup, dLst, rInD, rNotInD, dNoPart, dPart, dRev, dFld, DL.fieldsOf, dCB, dNext, dSeq, dBreak, dCont, dDrop, dRet, dRetN, dIfS, dNever, dgN, dgNil, dgCons, dgSub, dAsg, dPar, dPar3, putD, dSetF, dMt, rAppendD, rPopD, rExtendD, lsT, lsR, lsF, itemsR, dFrz, dCall, dCallK, dMeth, dMake, dFor, dIL, dIT, dIR1, dIR2, dIE, dIZ, wipeD, dYes, dLc, dDic0, updM_same, cxOf, asBl_bl, asInt_int, asTup_tup, isN, w_test, w_chain, w_andV, w_orV, w_notV, w_neg, w_sub, w_div, w_mod, w_pow, w_shl, w_shr, w_and, w_or, w_xor, w_lt, w_le, w_gt, w_ge, w_add, w_addS, w_addT, w_addL, w_addF, w_addR, w_mul, w_mulL, w_eq, w_ne, w_isN, w_isB, w_isntN, w_isntB, w_ix, w_isi, w_abs, w_max2, w_min2, w_max1L, w_min1L, w_sum, w_all, w_any, w_len, w_int, w_intB, w_divmod, w_sorted, w_list, w_bits, w_sl, w_slL, w_slF, w_slR, w_slT, w_newF, w_newT, w_eqL, w_eqT, w_eqR, w_neL, w_neT, w_neR, w_dgT, w_derL, w_derT, w_derB, w_derI, w_derN, w_derS, w_eqSS, w_eqBB, w_neSS, w_neBB, w_eqBI, w_eqIN, w_neIN, w_eqNI, w_neNI, w_eqNN, w_neNN, w_NN, w_NI, w_IN])
    refine ⟨by omega, endD_of (hQ _ _ ?_ ?_ hs)⟩
    · rw [fmodP hm]
      exact Int.emod_nonneg _ (by omega)
    · rw [fmodP hm]
      exact Int.emod_lt_of_pos _ hm
  · rintro i ρ M2 k hi ⟨hs, f, x, rfl⟩ hk
    (try simp only [dgU, w_lrg, dCut, dDGet, dDGet1, dDGet2, dDPut, dPairs, w_disp, w_newDF, w_newDT, dec_self, List.map_cons, List.map_nil, eqD_bl, eqD_int, eqD_str, eqD_tup, eqD_lst, eqDs_nil, eqDs_nc, eqDs_cn, eqDs_cons, reduceIte, Bool.false_eq_true, Bool.not_true, Bool.not_false, decide_true, decide_false, dVar, atD, setD, startD, dC, dOp, dAnd, dOr, dNot, dIf, dUn, dNil, dCons, dTup, dLst, rInD, rNotInD, dNoPart, dPart, dRev, dFld, DL.fieldsOf, dCB, dNext, dSeq, dBreak, dCont, dDrop, dRet, dRetN, dIfS, dNever, dgN, dgNil, dgCons, dgSub, dAsg, dPar, dPar3, putD, dSetF, dMt, rAppendD, rPopD, rExtendD, lsT, lsR, lsF, itemsR, dFrz, dCall, dCallK, dMeth, dMake, dFor, dIL, dIT, dIR1, dIR2, dIE, dIZ, wipeD, dYes, dLc, dDic0, updM_same, cxOf, asBl_bl, asInt_int, asTup_tup, isN, w_test, w_chain, w_andV, w_orV, w_notV, w_neg, w_sub, w_div, w_mod, w_pow, w_shl, w_shr, w_and, w_or, w_xor, w_lt, w_le, w_gt, w_ge, w_add, w_addS, w_addT, w_addL, w_addF, w_addR, w_mul, w_mulL, w_eq, w_ne, w_isN, w_isB, w_isntN, w_isntB, w_ix, w_isi, w_abs, w_max2, w_min2, w_max1L, w_min1L, w_sum, w_all, w_any, w_len, w_int, w_intB, w_divmod, w_sorted, w_list, w_bits, w_sl, w_slL, w_slF, w_slR, w_slT, w_newF, w_newT, w_eqL, w_eqT, w_eqR, w_neL, w_neT, w_neR, w_dgT, w_derL, w_derT, w_derB, w_derI, w_derN, w_derS, w_eqSS, w_eqBB, w_neSS, w_neBB, w_eqBI, w_eqIN, w_neIN, w_eqNI, w_neNI, w_eqNN, w_neNN, w_NN, w_NI, w_IN])
    refine ⟨mulOk_r (by decide), a, 2147483648, rfl, hs.src, by decide, by decide +kernel, fun g M3 g0 g1 hs2 => ?_⟩
    (try simp only [dgU, w_lrg, dCut, dDGet, dDGet1, dDGet2, dDPut, dPairs, w_disp, w_newDF, w_newDT, dec_self, List.map_cons, List.map_nil, eqD_bl, eqD_int, eqD_str, eqD_tup, eqD_lst, eqDs_nil, eqDs_nc, eqDs_cn, eqDs_cons, reduceIte, Bool.false_eq_true, Bool.not_true, Bool.not_false, decide_true, decide_false, dVar, atD, setD, startD, dC, dOp, dAnd, dOr, dNot, dIf, dUn, dNil, dCons, dTup, dLst, rInD, rNotInD, dNoPart, dPart, dRev, dFld, DL.fieldsOf, dCB, dNext, dSeq, dBreak, dCont, dDrop, dRet, dRetN, dIfS, dNever, dgN, dgNil, dgCons, dgSub, dAsg, dPar, dPar3, putD, dSetF, dMt, rAppendD, rPopD, rExtendD, lsT, lsR, lsF, itemsR, dFrz, dCall, dCallK, dMeth, dMake, dFor, dIL, dIT, dIR1, dIR2, dIE, dIZ, wipeD, dYes, dLc, dDic0, updM_same, cxOf, asBl_bl, asInt_int, asTup_tup, isN, w_test, w_chain, w_andV, w_orV, w_notV, w_neg, w_sub, w_div, w_mod, w_pow, w_shl, w_shr, w_and, w_or, w_xor, w_lt, w_le, w_gt, w_ge, w_add, w_addS, w_addT, w_addL, w_addF, w_addR, w_mul, w_mulL, w_eq, w_ne, w_isN, w_isB, w_isntN, w_isntB, w_ix, w_isi, w_abs, w_max2, w_min2, w_max1L, w_min1L, w_sum, w_all, w_any, w_len, w_int, w_intB, w_divmod, w_sorted, w_list, w_bits, w_sl, w_slL, w_slF, w_slR, w_slT, w_newF, w_newT, w_eqL, w_eqT, w_eqR, w_neL, w_neT, w_neR, w_dgT, w_derL, w_derT, w_derB, w_derI, w_derN, w_derS, w_eqSS, w_eqBB, w_neSS, w_neBB, w_eqBI, w_eqIN, w_neIN, w_eqNI, w_neNI, w_eqNN, w_neNN, w_NN, w_NI, w_IN])
    exact hk _ _ ⟨hs.trans hs2, _, _, rfl⟩
/-! ### loops: the first round of a kind -/
def FirstN (p : Nat → Prop) : Option Nat → Prop
  | none => ∀ n, ¬ p n
  | some n => p n ∧ ∀ k, k < n → ¬ p k
def optD : Option Nat → Dat
  | none => .non
  | some n => .int (n : Nat)
theorem first_uniq {p : Nat → Prop} {r t : Option Nat} (h : FirstN p r) (g : FirstN p t) : r = t := by
  cases r with
  | none =>
    cases t with
    | none => rfl
    | some n => exact absurd g.1 (h n)
  | some m =>
    cases t with
    | none => exact absurd h.1 (g m)
    | some n =>
      rcases Nat.lt_trichotomy m n with q | q | q
      · exact absurd h.1 (g.2 m q)
      · rw [q]
      · exact absurd g.1 (h.2 n q)
theorem first_congr {p q : Nat → Prop} {r : Option Nat} (e : ∀ n, p n ↔ q n) (h : FirstN p r) : FirstN q r := by
  have : p = q := funext fun n => propext (e n)
  subst this
  exact h
/-- n * a stands, modulo m, between lo and hi -/
abbrev Hit (a m lo hi : Int) (n : Nat) : Prop := lo ≤ (a * (n : Nat)) % m ∧ (a * (n : Nat)) % m ≤ hi
theorem first_lt {a m lo hi : Int} {n : Nat} (hm : 0 < m) (h : FirstN (Hit a m lo hi) (some n)) : (n : Int) < m := by
  rcases Int.lt_or_le (n : Int) m with g | g
  · exact g
  · exfalso
    refine h.2 (n - m.toNat) (by omega) ?_
    have e : a * ((n - m.toNat : Nat) : Int) % m = a * (n : Nat) % m := by
      refine mod_congr ⟨-a, ?_⟩
      rw [show ((n - m.toNat : Nat) : Int) = n - m by omega]
      grind
    unfold Hit
    rw [e]
    exact h.1
theorem mulOk_big {m : Int} {t : Nat} (h0 : 0 < m) (h : m < 2 ^ 200) (ht : (t : Int) < 2 ^ 200) : IntMulOk m t := mulOk_b (m := 200) (n := 200) (by omega) (by omega) (by decide) (by decide)
theorem hit_mod {a m lo hi : Int} {n : Nat} : Hit (a % m) m lo hi n ↔ Hit a m lo hi n := by
  unfold Hit
  rw [show a % m * (n : Nat) % m = a * (n : Nat) % m by rw [Int.mul_emod, Int.emod_emod_of_dvd a (Int.dvd_refl m), ← Int.mul_emod]]
theorem hit_flip {a m lo hi : Int} {n : Nat} (hm : 0 < m) (h1 : 0 < lo) (h2 : hi < m) : Hit (m - a) m (m - hi) (m - lo) n ↔ Hit a m lo hi n := by
  unfold Hit
  have e : (m - a) * (n : Nat) % m = (m - (a * (n : Nat)) % m) % m := by
    refine mod_congr ?_
    obtain ⟨c, hc⟩ := mod_cong m (a * (n : Nat))
    exact ⟨(n : Nat) - 1 + c, by grind⟩
  have h3 := Int.emod_nonneg (a * (n : Nat)) (show m ≠ 0 by omega)
  have h4 := Int.emod_lt_of_pos (a * (n : Nat)) hm
  rw [e]
  generalize a * (n : Nat) % m = v at *
  by_cases h : v = 0
  · subst h
    rw [Int.sub_zero, Int.emod_self]
    omega
  · rw [Int.emod_eq_of_lt (a := m - v) (by omega) (by omega)]
    omega
/-- the quotient that goes with a hit is a hit of the smaller question, and back -/
theorem hit_down {a m lo hi : Int} {n : Nat} (ha : 0 < a) (hm : a ≤ m) (hw : lo % a + (hi - lo) < a) (h : Hit a m lo hi n) : ∃ t : Nat, (t : Int) = (a * (n : Nat)) / m ∧ Hit (0 - m) a (lo % a) (lo % a + hi - lo) t ∧ (lo + m * (t : Nat) + a - 1) / a = (n : Nat) := by
  have hm0 : 0 < m := by omega
  have h0 : 0 ≤ a * (n : Nat) := Int.mul_nonneg (by omega) (by omega)
  obtain ⟨t, ht⟩ := Int.eq_ofNat_of_zero_le (Int.ediv_nonneg h0 (show 0 ≤ m by omega))
  refine ⟨t, ht.symm, ?_⟩
  have e1 := Int.emod_add_mul_ediv (a * (n : Nat)) m
  obtain ⟨h1, h2⟩ := h
  rw [ht] at e1
  generalize a * (n : Nat) % m = v at *
  have e2 := Int.emod_add_mul_ediv lo a
  have e3 := Int.emod_nonneg lo (show a ≠ 0 by omega)
  have e4 : (0 - m) * (t : Nat) % a = lo % a + (v - lo) := by
    have : (0 - m) * ((t : Nat) : Int) = (lo % a + (v - lo)) + a * (lo / a - (n : Nat)) := by grind
    rw [this, Int.add_mul_emod_self_left, Int.emod_eq_of_lt (by omega) (by omega)]
  refine ⟨⟨by rw [e4]; omega, by rw [e4]; omega⟩, ?_⟩
  have e5 : lo + m * (t : Nat) + a - 1 = (lo - v + a - 1) + a * (n : Nat) := by omega
  rw [e5, Int.add_mul_ediv_left _ _ (show a ≠ 0 by omega), Int.ediv_eq_zero_of_lt (by omega) (by omega)]
  omega
theorem hit_up {a m lo hi : Int} {t : Nat} (ha : 0 < a) (hm : hi < m) (hlo : 0 < lo) (hw : lo % a + (hi - lo) < a) (h : Hit (0 - m) a (lo % a) (lo % a + hi - lo) t) : ∃ n : Nat, (lo + m * (t : Nat) + a - 1) / a = (n : Nat) ∧ Hit a m lo hi n ∧ (a * (n : Nat)) / m = (t : Nat) := by
  obtain ⟨h1, h2⟩ := h
  have e1 := Int.emod_add_mul_ediv ((0 - m) * (t : Nat)) a
  have e2 := Int.emod_add_mul_ediv lo a
  have e3 := Int.emod_nonneg lo (show a ≠ 0 by omega)
  generalize (0 - m) * (t : Nat) % a = w at *
  generalize (0 - m) * (t : Nat) / a = q at *
  have h0 : 0 ≤ m * ((t : Nat) : Int) := Int.mul_nonneg (by omega) (by omega)
  have e4 : a * (lo / a - q) = m * (t : Nat) + (lo + (w - lo % a)) := by grind
  have hn : 0 ≤ lo / a - q := by
    rcases Int.lt_or_le (lo / a - q) 0 with g | g
    · have : a * (lo / a - q) ≤ a * (-1) := Int.mul_le_mul_of_nonneg_left (by omega) (by omega)
      omega
    · exact g
  obtain ⟨n, hn⟩ := Int.eq_ofNat_of_zero_le hn
  rw [hn] at e4
  have e6 : (a * (n : Nat)) % m = lo + (w - lo % a) := by
    rw [e4, Int.add_comm, Int.add_mul_emod_self_left, Int.emod_eq_of_lt (by omega) (by omega)]
  refine ⟨n, ?_, ⟨by rw [e6]; omega, by rw [e6]; omega⟩, ?_⟩
  · have e5 : lo + m * (t : Nat) + a - 1 = (lo % a - w + a - 1) + a * (n : Nat) := by omega
    rw [e5, Int.add_mul_ediv_left _ _ (show a ≠ 0 by omega), Int.ediv_eq_zero_of_lt (by omega) (by omega)]
    omega
  · rw [e4, Int.add_comm, Int.add_mul_ediv_left _ _ (show m ≠ 0 by omega), Int.ediv_eq_zero_of_lt (by omega) (by omega)]
    omega
theorem hit_rec {a m lo hi : Int} {r : Option Nat} (ha : 0 < a) (hm : a ≤ m) (hm2 : hi < m) (hlo : 0 < lo) (hw : lo % a + (hi - lo) < a) (h : FirstN (Hit (0 - m) a (lo % a) (lo % a + hi - lo)) r) :
    match r with
    | none => FirstN (Hit a m lo hi) none
    | some t => ∃ n : Nat, (lo + m * (t : Nat) + a - 1) / a = (n : Nat) ∧ FirstN (Hit a m lo hi) (some n) := by
  cases r with
  | none =>
    intro n hn
    obtain ⟨t, _, h2, _⟩ := hit_down ha hm hw hn
    exact h t h2
  | some t =>
    obtain ⟨n, h1, h2, h3⟩ := hit_up ha hm2 hlo hw h.1
    refine ⟨n, h1, h2, fun k hk hh => ?_⟩
    obtain ⟨u, h4, h5, h6⟩ := hit_down ha hm hw hh
    have h7 : (u : Int) ≤ t := by
      rw [h4, ← h3]
      refine Int.ediv_le_ediv (by omega) (Int.mul_le_mul_of_nonneg_left (by omega) (by omega))
    have h8 : u = t := by
      rcases Nat.lt_or_ge u t with g | g
      · exact absurd h5 (h.2 u g)
      · omega
    subst h8
    omega
section
variable {P : Program} {w : World} {K : PySem.W.Frag} {mg : Str → Option Value} {base : Heap} {C_Kind : Addr}
abbrev sp_fm (d : Nat) : SpD := fun ds M Q => ∃ (a m lo hi : Int), ds = [.int a, .int m, .int lo, .int hi] ∧ m < 2 ^ d ∧ 0 < lo ∧ lo ≤ hi ∧ hi < m ∧ m < 2 ^ 200 ∧ ∀ r, FirstN (Hit a m lo hi) r → Q (optD r) M
theorem okS_first_multiple (T : Txt K mg C_Kind) (d : Nat) (F_first_multiple : FnD P w K mg base (d + 1) "first_multiple" s_first_multiple ["a", "size", "low", "high"] (sp_fm (d))) : FnD P w K mg base (d + 1 + 1) "first_multiple" s_first_multiple ["a", "size", "low", "high"] (sp_fm (d + 1)) := by
  refine fn_mk T.h_first_multiple sc_first_multiple 6 rfl (by intro ds M Q h; first | (obtain ⟨rfl, _⟩ := h; rfl) | (obtain ⟨_, rfl, _⟩ := h; rfl) | (obtain ⟨_, _, rfl, _⟩ := h; rfl) | (obtain ⟨_, _, _, rfl, _⟩ := h; rfl) | (obtain ⟨_, _, _, _, rfl, _⟩ := h; rfl) | (obtain ⟨_, _, _, _, _, rfl, _⟩ := h; rfl) | (obtain ⟨_, _, _, _, _, _, rfl, _⟩ := h; rfl) | (obtain ⟨_, _, _, _, _, _, _, rfl, _⟩ := h; rfl) | (obtain ⟨_, _, _, _, _, _, _, _, rfl, _⟩ := h; rfl) | (obtain ⟨_, _, _, _, _, _, _, _, _, rfl, _⟩ := h; rfl) | (obtain ⟨_, _, _, _, _, _, _, _, _, _, rfl, _⟩ := h; rfl) | (obtain ⟨_, _, _, _, _, _, _, _, _, _, _, rfl, _⟩ := h; rfl) | (obtain ⟨_, _, _, _, _, _, _, _, _, _, _, _, rfl, _⟩ := h; rfl)) (fun f cdv A outer s H E hr => ⟨_, (dss_cons (ds_set (i := 0) sc_first_multiple.nd (de_op od_mod (dv 0) (dv 1)))
    (dss_cons (ds_if (dt_cmp (od_eq hr.units) (dv 0) de_int)
    (dss_one (ds_ret de_non))
    dss_nil)
    (dss_cut (ds_if (dt_cmp od_gt (de_op (od_mul false) de_int (dv 0)) (dv 1))
    (dss_one (ds_par3 (i := 0) (j := 2) (l := 3) sc_first_multiple.nd (da_cons (de_op od_sub (dv 1) (dv 0)) (da_cons (de_op od_sub (dv 1) (dv 3)) (da_cons (de_op od_sub (dv 1) (dv 2)) da_nil)))))
    dss_nil)
    (dss_cons (ds_set (i := 4) sc_first_multiple.nd (de_op od_div (de_op od_sub (de_op (od_add false) (dv 2) (dv 0)) de_int) (dv 0)))
    (dss_cons (ds_if (dt_cmp od_le (de_op (od_mul false) (dv 4) (dv 0)) (dv 3))
    (dss_one (ds_ret (dv 4)))
    dss_nil)
    (dss_cons (ds_set (i := 5) sc_first_multiple.nd (de_call F_first_multiple hr (da_cons (de_op od_sub de_int (dv 1)) (da_cons (dv 0) (da_cons (de_op od_mod (dv 2) (dv 0)) (da_cons (de_op od_sub (de_op (od_add false) (de_op od_mod (dv 2) (dv 0)) (dv 3)) (dv 2)) da_nil)))) (Nat.le_refl _)))
    (dss_one (ds_ret (de_if (dt_cmp od_is (dv 5) de_non) de_non (de_op od_div (de_op od_sub (de_op (od_add false) (de_op (od_add false) (dv 2) (de_op (od_mul false) (dv 1) (dv 5))) (dv 0)) de_int) (dv 0))))))))))), ?_⟩)
  rintro ds M Q ⟨a, m, lo, hi, rfl, hd, h1, h2, h3, hm, hQ⟩
  have hp : 0 < m := by omega
  (try simp only [dgU, w_lrg, dCut, dDGet, dDGet1, dDGet2, dDPut, dPairs, w_disp, w_newDF, w_newDT, dec_self, List.map_cons, List.map_nil, eqD_bl, eqD_int, eqD_str, eqD_tup, eqD_lst, eqDs_nil, eqDs_nc, eqDs_cn, eqDs_cons, reduceIte, Bool.false_eq_true, Bool.not_true, Bool.not_false, decide_true, decide_false, dVar, atD, setD, startD, dC, dOp, dAnd, dOr, dNot, dIf, dUn, dNil, dCons, dTup, dLst, rInD, rNotInD, dNoPart, dPart, dRev, dFld, DL.fieldsOf, dCB, dNext, dSeq, dBreak, dCont, dDrop, dRet, dRetN, dIfS, dNever, dgN, dgNil, dgCons, dgSub, dAsg, dPar, dPar3, putD, dSetF, dMt, rAppendD, rPopD, rExtendD, lsT, lsR, lsF, itemsR, dFrz, dCall, dCallK, dMeth, dMake, dFor, dIL, dIT, dIR1, dIR2, dIE, dIZ, wipeD, dYes, dLc, dDic0, updM_same, cxOf, asBl_bl, asInt_int, asTup_tup, isN, w_test, w_chain, w_andV, w_orV, w_notV, w_neg, w_sub, w_div, w_mod, w_pow, w_shl, w_shr, w_and, w_or, w_xor, w_lt, w_le, w_gt, w_ge, w_add, w_addS, w_addT, w_addL, w_addF, w_addR, w_mul, w_mulL, w_eq, w_ne, w_isN, w_isB, w_isntN, w_isntB, w_ix, w_isi, w_abs, w_max2, w_min2, w_max1L, w_min1L, w_sum, w_all, w_any, w_len, w_int, w_intB, w_divmod, w_sorted, w_list, w_bits, w_sl, w_slL, w_slF, w_slR, w_slT, w_newF, w_newT, w_eqL, w_eqT, w_eqR, w_neL, w_neT, w_neR, w_dgT, w_derL, w_derT, w_derB, w_derI, w_derN, w_derS, w_eqSS, w_eqBB, w_neSS, w_neBB, w_eqBI, w_eqIN, w_neIN, w_eqNI, w_neNI, w_eqNN, w_neNN, w_NN, w_NI, w_IN])
  rw [fmodP hp]
  have g1 := Int.emod_nonneg a (show m ≠ 0 by omega)
  have g2 := Int.emod_lt_of_pos a hp
  replace hQ : ∀ r, FirstN (Hit (a % m) m lo hi) r → Q (optD r) M := fun r h => hQ r (first_congr (fun n => hit_mod) h)
  generalize a % m = c at *
  refine ⟨by omega, ?_⟩
  by_cases h0 : c = 0
  · refine eq_yes h0 (endD_of (hQ none fun n h => ?_))
    subst h0
    simp [Hit] at h
    omega
  refine if_no (decide_eq_false h0) ⟨fun ρ' M' => M' = M ∧ ∃ c lo hi : Int, ρ' = [some (.int c), some (.int m), some (.int lo), some (.int hi), none, none] ∧ 0 < c ∧ 2 * c ≤ m ∧ 0 < lo ∧ lo ≤ hi ∧ hi < m ∧ ∀ r, FirstN (Hit c m lo hi) r → Q (optD r) M, ?_, ?_⟩
  · refine ⟨mulOk_l (by decide), ?_⟩
    by_cases h : m < 2 * c
    · refine if_yes (decide_eq_true h) ⟨rfl, m - c, m - hi, m - lo, rfl, by omega, by omega, by omega, by omega, by omega, fun r hr => hQ r (first_congr (fun n => hit_flip hp h1 h3) hr)⟩
    · refine if_no (decide_eq_false h) ⟨rfl, c, lo, hi, rfl, by omega, by omega, by omega, by omega, by omega, hQ⟩
  rintro ρ' M' ⟨hM, a, lo, hi, rfl, ha, ha2, h1, h2, h3, hQ⟩
  subst hM
  clear g1 g2 h0
  (try simp only [dgU, w_lrg, dCut, dDGet, dDGet1, dDGet2, dDPut, dPairs, w_disp, w_newDF, w_newDT, dec_self, List.map_cons, List.map_nil, eqD_bl, eqD_int, eqD_str, eqD_tup, eqD_lst, eqDs_nil, eqDs_nc, eqDs_cn, eqDs_cons, reduceIte, Bool.false_eq_true, Bool.not_true, Bool.not_false, decide_true, decide_false, dVar, atD, setD, startD, dC, dOp, dAnd, dOr, dNot, dIf, dUn, dNil, dCons, dTup, dLst, rInD, rNotInD, dNoPart, dPart, dRev, dFld, DL.fieldsOf, dCB, dNext, dSeq, dBreak, dCont, dDrop, dRet, dRetN, dIfS, dNever, dgN, dgNil, dgCons, dgSub, dAsg, dPar, dPar3, putD, dSetF, dMt, rAppendD, rPopD, rExtendD, lsT, lsR, lsF, itemsR, dFrz, dCall, dCallK, dMeth, dMake, dFor, dIL, dIT, dIR1, dIR2, dIE, dIZ, wipeD, dYes, dLc, dDic0, updM_same, cxOf, asBl_bl, asInt_int, asTup_tup, isN, w_test, w_chain, w_andV, w_orV, w_notV, w_neg, w_sub, w_div, w_mod, w_pow, w_shl, w_shr, w_and, w_or, w_xor, w_lt, w_le, w_gt, w_ge, w_add, w_addS, w_addT, w_addL, w_addF, w_addR, w_mul, w_mulL, w_eq, w_ne, w_isN, w_isB, w_isntN, w_isntB, w_ix, w_isi, w_abs, w_max2, w_min2, w_max1L, w_min1L, w_sum, w_all, w_any, w_len, w_int, w_intB, w_divmod, w_sorted, w_list, w_bits, w_sl, w_slL, w_slF, w_slR, w_slT, w_newF, w_newT, w_eqL, w_eqT, w_eqR, w_neL, w_neT, w_neR, w_dgT, w_derL, w_derT, w_derB, w_derI, w_derN, w_derS, w_eqSS, w_eqBB, w_neSS, w_neBB, w_eqBI, w_eqIN, w_neIN, w_eqNI, w_neNI, w_eqNN, w_neNN, w_NN, w_NI, w_IN])
  have hb : a < 2 ^ 200 := by omega
  have hb9 : a < 2 ^ 9000 := Int.lt_trans hb (by decide +kernel)
  have hlb : lo < 2 ^ 200 := by omega
  rw [fdivP ha, fmodP ha]
  have e1 := Int.emod_add_mul_ediv (lo + a - 1) a
  have e2 := Int.emod_nonneg (lo + a - 1) (show a ≠ 0 by omega)
  have e3 := Int.emod_lt_of_pos (lo + a - 1) ha
  have e4 : 1 ≤ (lo + a - 1) / a := (Int.le_ediv_iff_mul_le ha).mpr (by omega)
  have e5 : (lo + a - 1) / a ≤ lo + a - 1 := Int.ediv_le_self _ (by omega)
  have d1 := Int.emod_add_mul_ediv lo a
  have d2 := Int.emod_nonneg lo (show a ≠ 0 by omega)
  have d3 := Int.emod_lt_of_pos lo ha
  refine ⟨divOk_b ha hb9, mulOk_b (m := 201) (n := 200) (by omega) (by omega) (by decide) (by decide), ?_⟩
  by_cases h : (lo + a - 1) / a * a ≤ hi
  · refine if_yes (decide_eq_true h) (endD_of ?_)
    obtain ⟨n, hn⟩ := Int.eq_ofNat_of_zero_le (show 0 ≤ (lo + a - 1) / a by omega)
    rw [hn] at h e1 ⊢
    have e6 : (n : Int) * a = a * n := Int.mul_comm _ _
    refine hQ (some n) ⟨⟨?_, ?_⟩, fun k hk hh => ?_⟩
    · rw [Int.emod_eq_of_lt (by omega) (by omega)]
      omega
    · rw [Int.emod_eq_of_lt (by omega) (by omega)]
      omega
    · have k1 : a * (k : Int) ≤ a * ((n : Int) - 1) := Int.mul_le_mul_of_nonneg_left (by omega) (by omega)
      have k2 : a * ((n : Int) - 1) = a * n - a := by rw [Int.mul_sub, Int.mul_one]
      have k3 : 0 ≤ a * (k : Int) := Int.mul_nonneg (by omega) (by omega)
      have := hh.1
      rw [Int.emod_eq_of_lt (by omega) (by omega)] at this
      omega
  · refine if_no (decide_eq_false h) ?_
    have hw : lo % a + (hi - lo) < a := by
      have q1 : (lo + a - 1) / a * a = lo + a - 1 - (lo + a - 1) % a := by rw [Int.mul_comm]; omega
      have q2 : (lo + a - 1) / a ≤ lo / a + 1 := by
        have : (lo + a - 1) / a ≤ (lo + a * 1) / a := Int.ediv_le_ediv ha (by omega)
        rwa [Int.add_mul_ediv_left _ _ (show a ≠ 0 by omega)] at this
      have q3 : (lo + a - 1) / a * a ≤ (lo / a + 1) * a := Int.mul_le_mul_of_nonneg_right q2 (by omega)
      have q4 : (lo / a + 1) * a = a * (lo / a) + a := by grind
      omega
    have hl0 : 0 < lo % a := by
      rcases Int.lt_or_le 0 (lo % a) with q | q
      · exact q
      · exfalso
        have q0 : lo % a = 0 := by omega
        have q1 : lo = a * (lo / a) := by omega
        have q2 : (lo + a - 1) / a = lo / a := by
          have : lo + a - 1 = (a - 1) + a * (lo / a) := by omega
          rw [this, Int.add_mul_ediv_left _ _ (show a ≠ 0 by omega), Int.ediv_eq_zero_of_lt (by omega) (by omega)]
          omega
        rw [q2, Int.mul_comm] at h
        omega
    refine ⟨by omega, by omega, 0 - m, a, lo % a, lo % a + hi - lo, rfl, ?_, hl0, by omega, by omega, hb, fun r hr => ?_⟩
    · rw [Int.pow_succ] at hd
      omega
    have hrec := hit_rec ha (by omega) h3 h1 hw hr
    cases r with
    | none => exact endD_of (hQ none hrec)
    | some t =>
      obtain ⟨n, hn, hf⟩ := hrec
      simp only [optD]
      (try simp only [dgU, w_lrg, dCut, dDGet, dDGet1, dDGet2, dDPut, dPairs, w_disp, w_newDF, w_newDT, dec_self, List.map_cons, List.map_nil, eqD_bl, eqD_int, eqD_str, eqD_tup, eqD_lst, eqDs_nil, eqDs_nc, eqDs_cn, eqDs_cons, reduceIte, Bool.false_eq_true, Bool.not_true, Bool.not_false, decide_true, decide_false, dVar, atD, setD, startD, dC, dOp, dAnd, dOr, dNot, dIf, dUn, dNil, dCons, dTup, dLst, rInD, rNotInD, dNoPart, dPart, dRev, dFld, DL.fieldsOf, dCB, dNext, dSeq, dBreak, dCont, dDrop, dRet, dRetN, dIfS, dNever, dgN, dgNil, dgCons, dgSub, dAsg, dPar, dPar3, putD, dSetF, dMt, rAppendD, rPopD, rExtendD, lsT, lsR, lsF, itemsR, dFrz, dCall, dCallK, dMeth, dMake, dFor, dIL, dIT, dIR1, dIR2, dIE, dIZ, wipeD, dYes, dLc, dDic0, updM_same, cxOf, asBl_bl, asInt_int, asTup_tup, isN, w_test, w_chain, w_andV, w_orV, w_notV, w_neg, w_sub, w_div, w_mod, w_pow, w_shl, w_shr, w_and, w_or, w_xor, w_lt, w_le, w_gt, w_ge, w_add, w_addS, w_addT, w_addL, w_addF, w_addR, w_mul, w_mulL, w_eq, w_ne, w_isN, w_isB, w_isntN, w_isntB, w_ix, w_isi, w_abs, w_max2, w_min2, w_max1L, w_min1L, w_sum, w_all, w_any, w_len, w_int, w_intB, w_divmod, w_sorted, w_list, w_bits, w_sl, w_slL, w_slF, w_slR, w_slT, w_newF, w_newT, w_eqL, w_eqT, w_eqR, w_neL, w_neT, w_neR, w_dgT, w_derL, w_derT, w_derB, w_derI, w_derN, w_derS, w_eqSS, w_eqBB, w_neSS, w_neBB, w_eqBI, w_eqIN, w_neIN, w_eqNI, w_neNI, w_eqNN, w_neNN, w_NN, w_NI, w_IN])
      rw [fdivP ha, hn]
      exact ⟨mulOk_big (by omega) hm (Int.lt_trans (first_lt ha hr) hb), divOk_b ha hb9, endD_of (hQ (some n) hf)⟩
theorem ok_first_multiple (T : Txt K mg C_Kind) : FnD P w K mg base (140 + 1) "first_multiple" s_first_multiple ["a", "size", "low", "high"] (sp_fm 140) := by
  have key : ∀ d : Nat, FnD P w K mg base (d + 1) "first_multiple" s_first_multiple ["a", "size", "low", "high"] (sp_fm (d)) := by
    intro d
    induction d with
    | zero => exact fn_mk T.h_first_multiple sc_first_multiple 6 rfl (by intro ds M Q h; first | (obtain ⟨rfl, _⟩ := h; rfl) | (obtain ⟨_, rfl, _⟩ := h; rfl) | (obtain ⟨_, _, rfl, _⟩ := h; rfl) | (obtain ⟨_, _, _, rfl, _⟩ := h; rfl) | (obtain ⟨_, _, _, _, rfl, _⟩ := h; rfl) | (obtain ⟨_, _, _, _, _, rfl, _⟩ := h; rfl) | (obtain ⟨_, _, _, _, _, _, rfl, _⟩ := h; rfl) | (obtain ⟨_, _, _, _, _, _, _, rfl, _⟩ := h; rfl) | (obtain ⟨_, _, _, _, _, _, _, _, rfl, _⟩ := h; rfl) | (obtain ⟨_, _, _, _, _, _, _, _, _, rfl, _⟩ := h; rfl) | (obtain ⟨_, _, _, _, _, _, _, _, _, _, rfl, _⟩ := h; rfl) | (obtain ⟨_, _, _, _, _, _, _, _, _, _, _, rfl, _⟩ := h; rfl) | (obtain ⟨_, _, _, _, _, _, _, _, _, _, _, _, rfl, _⟩ := h; rfl)) (fun f cdv A outer s H E hr => ⟨dNever, dss_never, fun ds M Q h => by obtain ⟨a, m, lo, hi, _, h0, h1, h2, h3, _⟩ := h; rw [Int.pow_zero] at h0; omega⟩)
    | succ d ih => exact okS_first_multiple T  d ih
  exact key 140
/-- b + n * a stands, modulo m, between lo and hi -/
abbrev Hit2 (a b m lo hi : Int) (n : Nat) : Prop := lo ≤ (b + a * (n : Nat)) % m ∧ (b + a * (n : Nat)) % m ≤ hi
abbrev sp_fw : SpD := fun ds M Q => ∃ (a b m lo hi : Int), ds = [.int a, .int b, .int m, .int lo, .int hi] ∧ 0 < m ∧ m < 2 ^ 140 ∧ (lo ≤ hi → 0 ≤ lo ∧ hi < m) ∧ ∀ r, FirstN (Hit2 a b m lo hi) r → Q (optD r) M
theorem ok_first_within (T : Txt K mg C_Kind) (F_first_multiple : FnD P w K mg base 141 "first_multiple" s_first_multiple ["a", "size", "low", "high"] (sp_fm 140)) : FnD P w K mg base 142 "first_within" s_first_within ["a", "b", "size", "low", "high"] (sp_fw) := by
  refine fn_mk T.h_first_within sc_first_within 6 rfl (by intro ds M Q h; first | (obtain ⟨rfl, _⟩ := h; rfl) | (obtain ⟨_, rfl, _⟩ := h; rfl) | (obtain ⟨_, _, rfl, _⟩ := h; rfl) | (obtain ⟨_, _, _, rfl, _⟩ := h; rfl) | (obtain ⟨_, _, _, _, rfl, _⟩ := h; rfl) | (obtain ⟨_, _, _, _, _, rfl, _⟩ := h; rfl) | (obtain ⟨_, _, _, _, _, _, rfl, _⟩ := h; rfl) | (obtain ⟨_, _, _, _, _, _, _, rfl, _⟩ := h; rfl) | (obtain ⟨_, _, _, _, _, _, _, _, rfl, _⟩ := h; rfl) | (obtain ⟨_, _, _, _, _, _, _, _, _, rfl, _⟩ := h; rfl) | (obtain ⟨_, _, _, _, _, _, _, _, _, _, rfl, _⟩ := h; rfl) | (obtain ⟨_, _, _, _, _, _, _, _, _, _, _, rfl, _⟩ := h; rfl) | (obtain ⟨_, _, _, _, _, _, _, _, _, _, _, _, rfl, _⟩ := h; rfl)) (fun f cdv A outer s H E hr => ⟨_, (dss_cons (ds_if (dt_cmp od_gt (dv 3) (dv 4))
    (dss_one (ds_ret de_non))
    dss_nil)
    (dss_cons (ds_if (dt_cut (dt_chain od_le od_le (dv 3) (de_op od_mod (dv 1) (dv 2)) (dv 4)))
    (dss_one (ds_ret de_int))
    dss_nil)
    (dss_cons (ds_set (i := 5) sc_first_within.nd (de_op od_mod (de_op od_sub (dv 3) (dv 1)) (dv 2)))
    (dss_one (ds_ret (de_call F_first_multiple hr (da_cons (dv 0) (da_cons (dv 2) (da_cons (dv 5) (da_cons (de_op od_sub (de_op (od_add false) (dv 5) (dv 4)) (dv 3)) da_nil)))))))))), ?_⟩)
  rintro ds M Q ⟨a, b, m, lo, hi, rfl, hp, hm, hl, hQ⟩
  (try simp only [dgU, w_lrg, dCut, dDGet, dDGet1, dDGet2, dDPut, dPairs, w_disp, w_newDF, w_newDT, dec_self, List.map_cons, List.map_nil, eqD_bl, eqD_int, eqD_str, eqD_tup, eqD_lst, eqDs_nil, eqDs_nc, eqDs_cn, eqDs_cons, reduceIte, Bool.false_eq_true, Bool.not_true, Bool.not_false, decide_true, decide_false, dVar, atD, setD, startD, dC, dOp, dAnd, dOr, dNot, dIf, dUn, dNil, dCons, dTup, dLst, rInD, rNotInD, dNoPart, dPart, dRev, dFld, DL.fieldsOf, dCB, dNext, dSeq, dBreak, dCont, dDrop, dRet, dRetN, dIfS, dNever, dgN, dgNil, dgCons, dgSub, dAsg, dPar, dPar3, putD, dSetF, dMt, rAppendD, rPopD, rExtendD, lsT, lsR, lsF, itemsR, dFrz, dCall, dCallK, dMeth, dMake, dFor, dIL, dIT, dIR1, dIR2, dIE, dIZ, wipeD, dYes, dLc, dDic0, updM_same, cxOf, asBl_bl, asInt_int, asTup_tup, isN, w_test, w_chain, w_andV, w_orV, w_notV, w_neg, w_sub, w_div, w_mod, w_pow, w_shl, w_shr, w_and, w_or, w_xor, w_lt, w_le, w_gt, w_ge, w_add, w_addS, w_addT, w_addL, w_addF, w_addR, w_mul, w_mulL, w_eq, w_ne, w_isN, w_isB, w_isntN, w_isntB, w_ix, w_isi, w_abs, w_max2, w_min2, w_max1L, w_min1L, w_sum, w_all, w_any, w_len, w_int, w_intB, w_divmod, w_sorted, w_list, w_bits, w_sl, w_slL, w_slF, w_slR, w_slT, w_newF, w_newT, w_eqL, w_eqT, w_eqR, w_neL, w_neT, w_neR, w_dgT, w_derL, w_derT, w_derB, w_derI, w_derN, w_derS, w_eqSS, w_eqBB, w_neSS, w_neBB, w_eqBI, w_eqIN, w_neIN, w_eqNI, w_neNI, w_eqNN, w_neNN, w_NN, w_NI, w_IN])
  by_cases h : hi < lo
  · refine if_yes (decide_eq_true h) (endD_of (hQ none fun n g => ?_))
    have := g.1
    have := g.2
    omega
  refine if_no (decide_eq_false h) ?_
  obtain ⟨hl0, hl1⟩ := hl (by omega)
  have hb := Int.emod_nonneg b (show m ≠ 0 by omega)
  have hb1 := Int.emod_lt_of_pos b hp
  have h0 : Hit2 a b m lo hi 0 ↔ lo ≤ b % m ∧ b % m ≤ hi := by simp [Hit2]
  refine cut_is (decide (lo ≤ b % m ∧ b % m ≤ hi)) ?_ ?_
  · (try simp only [dgU, w_lrg, dCut, dDGet, dDGet1, dDGet2, dDPut, dPairs, w_disp, w_newDF, w_newDT, dec_self, List.map_cons, List.map_nil, eqD_bl, eqD_int, eqD_str, eqD_tup, eqD_lst, eqDs_nil, eqDs_nc, eqDs_cn, eqDs_cons, reduceIte, Bool.false_eq_true, Bool.not_true, Bool.not_false, decide_true, decide_false, dVar, atD, setD, startD, dC, dOp, dAnd, dOr, dNot, dIf, dUn, dNil, dCons, dTup, dLst, rInD, rNotInD, dNoPart, dPart, dRev, dFld, DL.fieldsOf, dCB, dNext, dSeq, dBreak, dCont, dDrop, dRet, dRetN, dIfS, dNever, dgN, dgNil, dgCons, dgSub, dAsg, dPar, dPar3, putD, dSetF, dMt, rAppendD, rPopD, rExtendD, lsT, lsR, lsF, itemsR, dFrz, dCall, dCallK, dMeth, dMake, dFor, dIL, dIT, dIR1, dIR2, dIE, dIZ, wipeD, dYes, dLc, dDic0, updM_same, cxOf, asBl_bl, asInt_int, asTup_tup, isN, w_test, w_chain, w_andV, w_orV, w_notV, w_neg, w_sub, w_div, w_mod, w_pow, w_shl, w_shr, w_and, w_or, w_xor, w_lt, w_le, w_gt, w_ge, w_add, w_addS, w_addT, w_addL, w_addF, w_addR, w_mul, w_mulL, w_eq, w_ne, w_isN, w_isB, w_isntN, w_isntB, w_ix, w_isi, w_abs, w_max2, w_min2, w_max1L, w_min1L, w_sum, w_all, w_any, w_len, w_int, w_intB, w_divmod, w_sorted, w_list, w_bits, w_sl, w_slL, w_slF, w_slR, w_slT, w_newF, w_newT, w_eqL, w_eqT, w_eqR, w_neL, w_neT, w_neR, w_dgT, w_derL, w_derT, w_derB, w_derI, w_derN, w_derS, w_eqSS, w_eqBB, w_neSS, w_neBB, w_eqBI, w_eqIN, w_neIN, w_eqNI, w_neNI, w_eqNN, w_neNN, w_NN, w_NI, w_IN])
    rw [fmodP hp]
    refine ⟨by omega, ?_⟩
    by_cases g : lo ≤ b % m <;> simp [g]
  by_cases g : lo ≤ b % m ∧ b % m ≤ hi
  · refine if_yes (decide_eq_true g) (endD_of (hQ (some 0) ⟨h0.mpr g, fun k hk => absurd hk (Nat.not_lt_zero _)⟩))
  refine if_no (decide_eq_false g) ?_
  (try simp only [dgU, w_lrg, dCut, dDGet, dDGet1, dDGet2, dDPut, dPairs, w_disp, w_newDF, w_newDT, dec_self, List.map_cons, List.map_nil, eqD_bl, eqD_int, eqD_str, eqD_tup, eqD_lst, eqDs_nil, eqDs_nc, eqDs_cn, eqDs_cons, reduceIte, Bool.false_eq_true, Bool.not_true, Bool.not_false, decide_true, decide_false, dVar, atD, setD, startD, dC, dOp, dAnd, dOr, dNot, dIf, dUn, dNil, dCons, dTup, dLst, rInD, rNotInD, dNoPart, dPart, dRev, dFld, DL.fieldsOf, dCB, dNext, dSeq, dBreak, dCont, dDrop, dRet, dRetN, dIfS, dNever, dgN, dgNil, dgCons, dgSub, dAsg, dPar, dPar3, putD, dSetF, dMt, rAppendD, rPopD, rExtendD, lsT, lsR, lsF, itemsR, dFrz, dCall, dCallK, dMeth, dMake, dFor, dIL, dIT, dIR1, dIR2, dIE, dIZ, wipeD, dYes, dLc, dDic0, updM_same, cxOf, asBl_bl, asInt_int, asTup_tup, isN, w_test, w_chain, w_andV, w_orV, w_notV, w_neg, w_sub, w_div, w_mod, w_pow, w_shl, w_shr, w_and, w_or, w_xor, w_lt, w_le, w_gt, w_ge, w_add, w_addS, w_addT, w_addL, w_addF, w_addR, w_mul, w_mulL, w_eq, w_ne, w_isN, w_isB, w_isntN, w_isntB, w_ix, w_isi, w_abs, w_max2, w_min2, w_max1L, w_min1L, w_sum, w_all, w_any, w_len, w_int, w_intB, w_divmod, w_sorted, w_list, w_bits, w_sl, w_slL, w_slF, w_slR, w_slT, w_newF, w_newT, w_eqL, w_eqT, w_eqR, w_neL, w_neT, w_neR, w_dgT, w_derL, w_derT, w_derB, w_derI, w_derN, w_derS, w_eqSS, w_eqBB, w_neSS, w_neBB, w_eqBI, w_eqIN, w_neIN, w_eqNI, w_neNI, w_eqNN, w_neNN, w_NN, w_NI, w_IN])
  rw [fmodP hp]
  have c1 := Int.emod_nonneg (lo - b) (show m ≠ 0 by omega)
  have c2 := Int.emod_lt_of_pos (lo - b) hp
  have c3 : (lo - b) % m = (lo - b % m) % m := by
    refine mod_congr ?_
    obtain ⟨c, hc⟩ := mod_cong m b
    exact ⟨c, by omega⟩
  have c4 : (lo - b) % m = if b % m ≤ lo then lo - b % m else lo - b % m + m := by
    rw [c3]
    split
    · exact Int.emod_eq_of_lt (by omega) (by omega)
    · rw [show lo - b % m = (lo - b % m + m) + m * (-1) by omega, Int.add_mul_emod_self_left, Int.emod_eq_of_lt (by omega) (by omega)]
      omega
  refine ⟨by omega, a, m, (lo - b) % m, (lo - b) % m + hi - lo, rfl, hm, ?_, by omega, ?_, Int.lt_trans hm (by decide +kernel), fun r hr => endD_of (hQ r (first_congr (fun n => ?_) hr))⟩
  · rw [c4]
    split <;> omega
  · rw [c4]
    split <;> omega
  · have e : (b + a * (n : Nat)) % m = (b % m + (a * (n : Nat)) % m) % m := Int.add_emod _ _ _
    have v1 := Int.emod_nonneg (a * (n : Nat)) (show m ≠ 0 by omega)
    have v2 := Int.emod_lt_of_pos (a * (n : Nat)) hp
    unfold Hit Hit2
    rw [e, c4]
    generalize a * (n : Nat) % m = v at *
    generalize b % m = u at *
    by_cases q : u + v < m
    · rw [Int.emod_eq_of_lt (by omega) q]
      split <;> omega
    · rw [show u + v = (u + v - m) + m * 1 by omega, Int.add_mul_emod_self_left, Int.emod_eq_of_lt (a := u + v - m) (by omega) (by omega)]
      split <;> omega
inductive Word where
  | lt | le | gt | ge | eq | ne
def Word.nm : Word → Str
  | .lt => "<"
  | .le => "<="
  | .gt => ">"
  | .ge => ">="
  | .eq => "=="
  | .ne => "!="
def holdsZ (w : Word) (x b : Int) : Bool := match w with
  | .lt => decide (x < b)
  | .le => decide (x ≤ b)
  | .gt => decide (b < x)
  | .ge => decide (b ≤ x)
  | .eq => decide (x = b)
  | .ne => !decide (x = b)
def stopLo (w : Word) (b : Int) : Int := match w with
  | .lt => b
  | .le => b + 1
  | .ne => b
  | .eq => b
  | _ => 0
def stopHi (w : Word) (b size : Int) : Int := match w with
  | .lt => size - 1
  | .le => size - 1
  | .gt => b
  | .ge => b - 1
  | _ => b
abbrev loopD (a : Int) (w : Word) (b c : Int) : Dat := .tup [.int a, .str w.nm, .int b, .int c]
abbrev sp_chkw : SpD := fun ds M Q => ∃ (d : Dat) (w : Word), ds = [d, .str w.nm] ∧ Q .non M
theorem ok_check_word (T : Txt K mg C_Kind) : FnD P w K mg base 1 "check_word" s_check_word ["argument", "value"] (sp_chkw) := by
  refine fn_mk T.h_check_word sc_check_word 2 rfl (by intro ds M Q h; first | (obtain ⟨rfl, _⟩ := h; rfl) | (obtain ⟨_, rfl, _⟩ := h; rfl) | (obtain ⟨_, _, rfl, _⟩ := h; rfl) | (obtain ⟨_, _, _, rfl, _⟩ := h; rfl) | (obtain ⟨_, _, _, _, rfl, _⟩ := h; rfl) | (obtain ⟨_, _, _, _, _, rfl, _⟩ := h; rfl) | (obtain ⟨_, _, _, _, _, _, rfl, _⟩ := h; rfl) | (obtain ⟨_, _, _, _, _, _, _, rfl, _⟩ := h; rfl) | (obtain ⟨_, _, _, _, _, _, _, _, rfl, _⟩ := h; rfl) | (obtain ⟨_, _, _, _, _, _, _, _, _, rfl, _⟩ := h; rfl) | (obtain ⟨_, _, _, _, _, _, _, _, _, _, rfl, _⟩ := h; rfl) | (obtain ⟨_, _, _, _, _, _, _, _, _, _, _, rfl, _⟩ := h; rfl) | (obtain ⟨_, _, _, _, _, _, _, _, _, _, _, _, rfl, _⟩ := h; rfl)) (fun f cdv A outer s H E hr => ⟨_, (dss_one (ds_if (dt_cut (dt_w (dw_or (dt_not (dt_val (de_cb ((cd_isiK K rfl)) (by rfl) T.b_isinstance (by decide +kernel) (da_cons (dv 1) (da_cons (de_ty .str (by rfl) T.b_str (by decide +kernel)) da_nil))))) (dw_or1 (dt_cmp od_notin (dv 1) (de_gtup (by rfl) T.g_WORDS))))))
    (dss_one ds_never)
    dss_nil)), ?_⟩)
  rintro ds M Q ⟨d, w, rfl, hQ⟩
  (try simp only [dgU, w_lrg, dCut, dDGet, dDGet1, dDGet2, dDPut, dPairs, w_disp, w_newDF, w_newDT, dec_self, List.map_cons, List.map_nil, eqD_bl, eqD_int, eqD_str, eqD_tup, eqD_lst, eqDs_nil, eqDs_nc, eqDs_cn, eqDs_cons, reduceIte, Bool.false_eq_true, Bool.not_true, Bool.not_false, decide_true, decide_false, dVar, atD, setD, startD, dC, dOp, dAnd, dOr, dNot, dIf, dUn, dNil, dCons, dTup, dLst, rInD, rNotInD, dNoPart, dPart, dRev, dFld, DL.fieldsOf, dCB, dNext, dSeq, dBreak, dCont, dDrop, dRet, dRetN, dIfS, dNever, dgN, dgNil, dgCons, dgSub, dAsg, dPar, dPar3, putD, dSetF, dMt, rAppendD, rPopD, rExtendD, lsT, lsR, lsF, itemsR, dFrz, dCall, dCallK, dMeth, dMake, dFor, dIL, dIT, dIR1, dIR2, dIE, dIZ, wipeD, dYes, dLc, dDic0, updM_same, cxOf, asBl_bl, asInt_int, asTup_tup, isN, w_test, w_chain, w_andV, w_orV, w_notV, w_neg, w_sub, w_div, w_mod, w_pow, w_shl, w_shr, w_and, w_or, w_xor, w_lt, w_le, w_gt, w_ge, w_add, w_addS, w_addT, w_addL, w_addF, w_addR, w_mul, w_mulL, w_eq, w_ne, w_isN, w_isB, w_isntN, w_isntB, w_ix, w_isi, w_abs, w_max2, w_min2, w_max1L, w_min1L, w_sum, w_all, w_any, w_len, w_int, w_intB, w_divmod, w_sorted, w_list, w_bits, w_sl, w_slL, w_slF, w_slR, w_slT, w_newF, w_newT, w_eqL, w_eqT, w_eqR, w_neL, w_neT, w_neR, w_dgT, w_derL, w_derT, w_derB, w_derI, w_derN, w_derS, w_eqSS, w_eqBB, w_neSS, w_neBB, w_eqBI, w_eqIN, w_neIN, w_eqNI, w_neNI, w_eqNN, w_neNN, w_NN, w_NI, w_IN])
  refine cut_is false ?_ ?_
  · (try simp only [dgU, w_lrg, dCut, dDGet, dDGet1, dDGet2, dDPut, dPairs, w_disp, w_newDF, w_newDT, dec_self, List.map_cons, List.map_nil, eqD_bl, eqD_int, eqD_str, eqD_tup, eqD_lst, eqDs_nil, eqDs_nc, eqDs_cn, eqDs_cons, reduceIte, Bool.false_eq_true, Bool.not_true, Bool.not_false, decide_true, decide_false, dVar, atD, setD, startD, dC, dOp, dAnd, dOr, dNot, dIf, dUn, dNil, dCons, dTup, dLst, rInD, rNotInD, dNoPart, dPart, dRev, dFld, DL.fieldsOf, dCB, dNext, dSeq, dBreak, dCont, dDrop, dRet, dRetN, dIfS, dNever, dgN, dgNil, dgCons, dgSub, dAsg, dPar, dPar3, putD, dSetF, dMt, rAppendD, rPopD, rExtendD, lsT, lsR, lsF, itemsR, dFrz, dCall, dCallK, dMeth, dMake, dFor, dIL, dIT, dIR1, dIR2, dIE, dIZ, wipeD, dYes, dLc, dDic0, updM_same, cxOf, asBl_bl, asInt_int, asTup_tup, isN, w_test, w_chain, w_andV, w_orV, w_notV, w_neg, w_sub, w_div, w_mod, w_pow, w_shl, w_shr, w_and, w_or, w_xor, w_lt, w_le, w_gt, w_ge, w_add, w_addS, w_addT, w_addL, w_addF, w_addR, w_mul, w_mulL, w_eq, w_ne, w_isN, w_isB, w_isntN, w_isntB, w_ix, w_isi, w_abs, w_max2, w_min2, w_max1L, w_min1L, w_sum, w_all, w_any, w_len, w_int, w_intB, w_divmod, w_sorted, w_list, w_bits, w_sl, w_slL, w_slF, w_slR, w_slT, w_newF, w_newT, w_eqL, w_eqT, w_eqR, w_neL, w_neT, w_neR, w_dgT, w_derL, w_derT, w_derB, w_derI, w_derN, w_derS, w_eqSS, w_eqBB, w_neSS, w_neBB, w_eqBI, w_eqIN, w_neIN, w_eqNI, w_neNI, w_eqNN, w_neNN, w_NN, w_NI, w_IN])
    refine ⟨isi_ty (x := .str w.nm) T.ck_Kind trivial _, ?_⟩
    rw [show isiR (.str w.nm) (.ty .str) = true by rfl]
    (try simp only [dgU, w_lrg, dCut, dDGet, dDGet1, dDGet2, dDPut, dPairs, w_disp, w_newDF, w_newDT, dec_self, List.map_cons, List.map_nil, eqD_bl, eqD_int, eqD_str, eqD_tup, eqD_lst, eqDs_nil, eqDs_nc, eqDs_cn, eqDs_cons, reduceIte, Bool.false_eq_true, Bool.not_true, Bool.not_false, decide_true, decide_false, dVar, atD, setD, startD, dC, dOp, dAnd, dOr, dNot, dIf, dUn, dNil, dCons, dTup, dLst, rInD, rNotInD, dNoPart, dPart, dRev, dFld, DL.fieldsOf, dCB, dNext, dSeq, dBreak, dCont, dDrop, dRet, dRetN, dIfS, dNever, dgN, dgNil, dgCons, dgSub, dAsg, dPar, dPar3, putD, dSetF, dMt, rAppendD, rPopD, rExtendD, lsT, lsR, lsF, itemsR, dFrz, dCall, dCallK, dMeth, dMake, dFor, dIL, dIT, dIR1, dIR2, dIE, dIZ, wipeD, dYes, dLc, dDic0, updM_same, cxOf, asBl_bl, asInt_int, asTup_tup, isN, w_test, w_chain, w_andV, w_orV, w_notV, w_neg, w_sub, w_div, w_mod, w_pow, w_shl, w_shr, w_and, w_or, w_xor, w_lt, w_le, w_gt, w_ge, w_add, w_addS, w_addT, w_addL, w_addF, w_addR, w_mul, w_mulL, w_eq, w_ne, w_isN, w_isB, w_isntN, w_isntB, w_ix, w_isi, w_abs, w_max2, w_min2, w_max1L, w_min1L, w_sum, w_all, w_any, w_len, w_int, w_intB, w_divmod, w_sorted, w_list, w_bits, w_sl, w_slL, w_slF, w_slR, w_slT, w_newF, w_newT, w_eqL, w_eqT, w_eqR, w_neL, w_neT, w_neR, w_dgT, w_derL, w_derT, w_derB, w_derI, w_derN, w_derS, w_eqSS, w_eqBB, w_neSS, w_neBB, w_eqBI, w_eqIN, w_neIN, w_eqNI, w_neNI, w_eqNN, w_neNN, w_NN, w_NI, w_IN])
    refine ⟨_, rfl, rfl, rfl, ?_⟩
    rw [show inD (.str w.nm) [.str (Str.ofString "<"), .str (Str.ofString "<="), .str (Str.ofString ">"), .str (Str.ofString ">="), .str (Str.ofString "=="), .str (Str.ofString "!=")] = true by cases w <;> decide +kernel]
    (first | trivial | exact ⟨rfl, trivial⟩ | exact ⟨trivial, trivial⟩ | exact ⟨rfl, rfl⟩ | simp)
  (try simp only [dgU, w_lrg, dCut, dDGet, dDGet1, dDGet2, dDPut, dPairs, w_disp, w_newDF, w_newDT, dec_self, List.map_cons, List.map_nil, eqD_bl, eqD_int, eqD_str, eqD_tup, eqD_lst, eqDs_nil, eqDs_nc, eqDs_cn, eqDs_cons, reduceIte, Bool.false_eq_true, Bool.not_true, Bool.not_false, decide_true, decide_false, dVar, atD, setD, startD, dC, dOp, dAnd, dOr, dNot, dIf, dUn, dNil, dCons, dTup, dLst, rInD, rNotInD, dNoPart, dPart, dRev, dFld, DL.fieldsOf, dCB, dNext, dSeq, dBreak, dCont, dDrop, dRet, dRetN, dIfS, dNever, dgN, dgNil, dgCons, dgSub, dAsg, dPar, dPar3, putD, dSetF, dMt, rAppendD, rPopD, rExtendD, lsT, lsR, lsF, itemsR, dFrz, dCall, dCallK, dMeth, dMake, dFor, dIL, dIT, dIR1, dIR2, dIE, dIZ, wipeD, dYes, dLc, dDic0, updM_same, cxOf, asBl_bl, asInt_int, asTup_tup, isN, w_test, w_chain, w_andV, w_orV, w_notV, w_neg, w_sub, w_div, w_mod, w_pow, w_shl, w_shr, w_and, w_or, w_xor, w_lt, w_le, w_gt, w_ge, w_add, w_addS, w_addT, w_addL, w_addF, w_addR, w_mul, w_mulL, w_eq, w_ne, w_isN, w_isB, w_isntN, w_isntB, w_ix, w_isi, w_abs, w_max2, w_min2, w_max1L, w_min1L, w_sum, w_all, w_any, w_len, w_int, w_intB, w_divmod, w_sorted, w_list, w_bits, w_sl, w_slL, w_slF, w_slR, w_slT, w_newF, w_newT, w_eqL, w_eqT, w_eqR, w_neL, w_neT, w_neR, w_dgT, w_derL, w_derT, w_derB, w_derI, w_derN, w_derS, w_eqSS, w_eqBB, w_neSS, w_neBB, w_eqBI, w_eqIN, w_neIN, w_eqNI, w_neNI, w_eqNN, w_neNN, w_NN, w_NI, w_IN])
  exact endD_of hQ
abbrev sp_chkl (C : Addr) : SpD := fun ds M Q => ∃ (b : Nat) (s : Bool) (a : Int) (w : Word) (u c : Int), ds = [kindD C b s, loopD a w u c] ∧ Wd b ∧ InK b s a ∧ InK b s u ∧ InK b s c ∧ Q .non M
theorem ok_check_loop (T : Txt K mg C_Kind) (F_check_kind : FnD P w K mg base 1 "check_kind" s_check_kind ["value"] (sp_chkk C_Kind)) (F_check_word : FnD P w K mg base 1 "check_word" s_check_word ["argument", "value"] (sp_chkw)) (F_check_value : FnD P w K mg base 4 "check_value" s_check_value ["kind", "argument", "value"] (sp_chkv C_Kind)) : FnD P w K mg base 5 "check_loop" s_check_loop ["kind", "value"] (sp_chkl C_Kind) := by
  refine fn_mk T.h_check_loop sc_check_loop 3 rfl (by intro ds M Q h; first | (obtain ⟨rfl, _⟩ := h; rfl) | (obtain ⟨_, rfl, _⟩ := h; rfl) | (obtain ⟨_, _, rfl, _⟩ := h; rfl) | (obtain ⟨_, _, _, rfl, _⟩ := h; rfl) | (obtain ⟨_, _, _, _, rfl, _⟩ := h; rfl) | (obtain ⟨_, _, _, _, _, rfl, _⟩ := h; rfl) | (obtain ⟨_, _, _, _, _, _, rfl, _⟩ := h; rfl) | (obtain ⟨_, _, _, _, _, _, _, rfl, _⟩ := h; rfl) | (obtain ⟨_, _, _, _, _, _, _, _, rfl, _⟩ := h; rfl) | (obtain ⟨_, _, _, _, _, _, _, _, _, rfl, _⟩ := h; rfl) | (obtain ⟨_, _, _, _, _, _, _, _, _, _, rfl, _⟩ := h; rfl) | (obtain ⟨_, _, _, _, _, _, _, _, _, _, _, rfl, _⟩ := h; rfl) | (obtain ⟨_, _, _, _, _, _, _, _, _, _, _, _, rfl, _⟩ := h; rfl)) (fun f cdv A outer s H E hr => ⟨_, (dss_cons (ds_expr (de_call F_check_kind hr (da_cons (dv 0) da_nil)))
    (dss_cons (ds_if (dt_cut (dt_w (dw_or (dt_not (dt_val (de_cb ((cd_isiK K rfl)) (by rfl) T.b_isinstance (by decide +kernel) (da_cons (dv 1) (da_cons (de_ty .tup (by rfl) T.b_tuple (by decide +kernel)) da_nil))))) (dw_or1 (dt_cmp (od_ne hr.units) (de_cb (cd_len) (by rfl) T.b_len PySem.boot_len (da_cons (dv 1) da_nil)) de_int)))))
    (dss_one ds_never)
    dss_nil)
    (dss_cons (ds_expr (de_call F_check_word hr (da_cons de_str (da_cons (de_ix (dv 1) de_int) da_nil))))
    (dss_one (ds_for (di_tup (de_tup (da_cons (de_ix (dv 1) de_int) (da_cons (de_ix (dv 1) de_int) (da_cons (de_ix (dv 1) de_int) da_nil))))) (dg_name (i := 2) sc_check_loop.nd)
    (dss_one (ds_expr (de_call F_check_value hr (da_cons (dv 0) (da_cons de_str (da_cons (dv 2) da_nil))))))))))), ?_⟩)
  rintro ds M Q ⟨b, s, a, w, u, c, rfl, hb, ha, hu, hc, hQ⟩
  (try simp only [dgU, w_lrg, dCut, dDGet, dDGet1, dDGet2, dDPut, dPairs, w_disp, w_newDF, w_newDT, dec_self, List.map_cons, List.map_nil, eqD_bl, eqD_int, eqD_str, eqD_tup, eqD_lst, eqDs_nil, eqDs_nc, eqDs_cn, eqDs_cons, reduceIte, Bool.false_eq_true, Bool.not_true, Bool.not_false, decide_true, decide_false, dVar, atD, setD, startD, dC, dOp, dAnd, dOr, dNot, dIf, dUn, dNil, dCons, dTup, dLst, rInD, rNotInD, dNoPart, dPart, dRev, dFld, DL.fieldsOf, dCB, dNext, dSeq, dBreak, dCont, dDrop, dRet, dRetN, dIfS, dNever, dgN, dgNil, dgCons, dgSub, dAsg, dPar, dPar3, putD, dSetF, dMt, rAppendD, rPopD, rExtendD, lsT, lsR, lsF, itemsR, dFrz, dCall, dCallK, dMeth, dMake, dFor, dIL, dIT, dIR1, dIR2, dIE, dIZ, wipeD, dYes, dLc, dDic0, updM_same, cxOf, asBl_bl, asInt_int, asTup_tup, isN, w_test, w_chain, w_andV, w_orV, w_notV, w_neg, w_sub, w_div, w_mod, w_pow, w_shl, w_shr, w_and, w_or, w_xor, w_lt, w_le, w_gt, w_ge, w_add, w_addS, w_addT, w_addL, w_addF, w_addR, w_mul, w_mulL, w_eq, w_ne, w_isN, w_isB, w_isntN, w_isntB, w_ix, w_isi, w_abs, w_max2, w_min2, w_max1L, w_min1L, w_sum, w_all, w_any, w_len, w_int, w_intB, w_divmod, w_sorted, w_list, w_bits, w_sl, w_slL, w_slF, w_slR, w_slT, w_newF, w_newT, w_eqL, w_eqT, w_eqR, w_neL, w_neT, w_neR, w_dgT, w_derL, w_derT, w_derB, w_derI, w_derN, w_derS, w_eqSS, w_eqBB, w_neSS, w_neBB, w_eqBI, w_eqIN, w_neIN, w_eqNI, w_neNI, w_eqNN, w_neNN, w_NN, w_NI, w_IN])
  refine ⟨_, rfl, ?_⟩
  refine cut_is false ?_ ?_
  · (try simp only [dgU, w_lrg, dCut, dDGet, dDGet1, dDGet2, dDPut, dPairs, w_disp, w_newDF, w_newDT, dec_self, List.map_cons, List.map_nil, eqD_bl, eqD_int, eqD_str, eqD_tup, eqD_lst, eqDs_nil, eqDs_nc, eqDs_cn, eqDs_cons, reduceIte, Bool.false_eq_true, Bool.not_true, Bool.not_false, decide_true, decide_false, dVar, atD, setD, startD, dC, dOp, dAnd, dOr, dNot, dIf, dUn, dNil, dCons, dTup, dLst, rInD, rNotInD, dNoPart, dPart, dRev, dFld, DL.fieldsOf, dCB, dNext, dSeq, dBreak, dCont, dDrop, dRet, dRetN, dIfS, dNever, dgN, dgNil, dgCons, dgSub, dAsg, dPar, dPar3, putD, dSetF, dMt, rAppendD, rPopD, rExtendD, lsT, lsR, lsF, itemsR, dFrz, dCall, dCallK, dMeth, dMake, dFor, dIL, dIT, dIR1, dIR2, dIE, dIZ, wipeD, dYes, dLc, dDic0, updM_same, cxOf, asBl_bl, asInt_int, asTup_tup, isN, w_test, w_chain, w_andV, w_orV, w_notV, w_neg, w_sub, w_div, w_mod, w_pow, w_shl, w_shr, w_and, w_or, w_xor, w_lt, w_le, w_gt, w_ge, w_add, w_addS, w_addT, w_addL, w_addF, w_addR, w_mul, w_mulL, w_eq, w_ne, w_isN, w_isB, w_isntN, w_isntB, w_ix, w_isi, w_abs, w_max2, w_min2, w_max1L, w_min1L, w_sum, w_all, w_any, w_len, w_int, w_intB, w_divmod, w_sorted, w_list, w_bits, w_sl, w_slL, w_slF, w_slR, w_slT, w_newF, w_newT, w_eqL, w_eqT, w_eqR, w_neL, w_neT, w_neR, w_dgT, w_derL, w_derT, w_derB, w_derI, w_derN, w_derS, w_eqSS, w_eqBB, w_neSS, w_neBB, w_eqBI, w_eqIN, w_neIN, w_eqNI, w_neNI, w_eqNN, w_neNN, w_NN, w_NI, w_IN])
    refine ⟨isi_ty (x := loopD a w u c) T.ck_Kind trivial _, ?_⟩
    rw [show isiR (loopD a w u c) (.ty .tup) = true by rfl]
    (try simp only [dgU, w_lrg, dCut, dDGet, dDGet1, dDGet2, dDPut, dPairs, w_disp, w_newDF, w_newDT, dec_self, List.map_cons, List.map_nil, eqD_bl, eqD_int, eqD_str, eqD_tup, eqD_lst, eqDs_nil, eqDs_nc, eqDs_cn, eqDs_cons, reduceIte, Bool.false_eq_true, Bool.not_true, Bool.not_false, decide_true, decide_false, dVar, atD, setD, startD, dC, dOp, dAnd, dOr, dNot, dIf, dUn, dNil, dCons, dTup, dLst, rInD, rNotInD, dNoPart, dPart, dRev, dFld, DL.fieldsOf, dCB, dNext, dSeq, dBreak, dCont, dDrop, dRet, dRetN, dIfS, dNever, dgN, dgNil, dgCons, dgSub, dAsg, dPar, dPar3, putD, dSetF, dMt, rAppendD, rPopD, rExtendD, lsT, lsR, lsF, itemsR, dFrz, dCall, dCallK, dMeth, dMake, dFor, dIL, dIT, dIR1, dIR2, dIE, dIZ, wipeD, dYes, dLc, dDic0, updM_same, cxOf, asBl_bl, asInt_int, asTup_tup, isN, w_test, w_chain, w_andV, w_orV, w_notV, w_neg, w_sub, w_div, w_mod, w_pow, w_shl, w_shr, w_and, w_or, w_xor, w_lt, w_le, w_gt, w_ge, w_add, w_addS, w_addT, w_addL, w_addF, w_addR, w_mul, w_mulL, w_eq, w_ne, w_isN, w_isB, w_isntN, w_isntB, w_ix, w_isi, w_abs, w_max2, w_min2, w_max1L, w_min1L, w_sum, w_all, w_any, w_len, w_int, w_intB, w_divmod, w_sorted, w_list, w_bits, w_sl, w_slL, w_slF, w_slR, w_slT, w_newF, w_newT, w_eqL, w_eqT, w_eqR, w_neL, w_neT, w_neR, w_dgT, w_derL, w_derT, w_derB, w_derI, w_derN, w_derS, w_eqSS, w_eqBB, w_neSS, w_neBB, w_eqBI, w_eqIN, w_neIN, w_eqNI, w_neNI, w_eqNN, w_neNN, w_NN, w_NI, w_IN])
    exact ⟨_, rfl, rfl, trivial⟩
  (try simp only [dgU, w_lrg, dCut, dDGet, dDGet1, dDGet2, dDPut, dPairs, w_disp, w_newDF, w_newDT, dec_self, List.map_cons, List.map_nil, eqD_bl, eqD_int, eqD_str, eqD_tup, eqD_lst, eqDs_nil, eqDs_nc, eqDs_cn, eqDs_cons, reduceIte, Bool.false_eq_true, Bool.not_true, Bool.not_false, decide_true, decide_false, dVar, atD, setD, startD, dC, dOp, dAnd, dOr, dNot, dIf, dUn, dNil, dCons, dTup, dLst, rInD, rNotInD, dNoPart, dPart, dRev, dFld, DL.fieldsOf, dCB, dNext, dSeq, dBreak, dCont, dDrop, dRet, dRetN, dIfS, dNever, dgN, dgNil, dgCons, dgSub, dAsg, dPar, dPar3, putD, dSetF, dMt, rAppendD, rPopD, rExtendD, lsT, lsR, lsF, itemsR, dFrz, dCall, dCallK, dMeth, dMake, dFor, dIL, dIT, dIR1, dIR2, dIE, dIZ, wipeD, dYes, dLc, dDic0, updM_same, cxOf, asBl_bl, asInt_int, asTup_tup, isN, w_test, w_chain, w_andV, w_orV, w_notV, w_neg, w_sub, w_div, w_mod, w_pow, w_shl, w_shr, w_and, w_or, w_xor, w_lt, w_le, w_gt, w_ge, w_add, w_addS, w_addT, w_addL, w_addF, w_addR, w_mul, w_mulL, w_eq, w_ne, w_isN, w_isB, w_isntN, w_isntB, w_ix, w_isi, w_abs, w_max2, w_min2, w_max1L, w_min1L, w_sum, w_all, w_any, w_len, w_int, w_intB, w_divmod, w_sorted, w_list, w_bits, w_sl, w_slL, w_slF, w_slR, w_slT, w_newF, w_newT, w_eqL, w_eqT, w_eqR, w_neL, w_neT, w_neR, w_dgT, w_derL, w_derT, w_derB, w_derI, w_derN, w_derS, w_eqSS, w_eqBB, w_neSS, w_neBB, w_eqBI, w_eqIN, w_neIN, w_eqNI, w_neNI, w_eqNN, w_neNN, w_NN, w_NI, w_IN])
  refine ⟨_, _, rfl, atI_nat (j := 1) rfl, _, w, rfl, _, _, rfl, atI_nat (j := 0) rfl, _, _, rfl, atI_nat (j := 2) rfl, _, _, rfl, atI_nat (j := 3) rfl, lit_len (n := 3) (by decide), ?_⟩
  refine loop_by (fun l ρ M2 => M2 = M ∧ (∀ d ∈ l, ∃ v, d = .int v ∧ InK b s v) ∧ ∃ x2 : Option Dat, ρ = [some (kindD C_Kind b s), some (loopD a w u c), x2]) ?_ ?_ _ _ _ ⟨rfl, ?_, _, rfl⟩
  · rintro ρ M2 ⟨hM, _, x2, rfl⟩
    subst hM
    exact endD_of hQ
  · rintro d l ρ M2 k ⟨hM, hl, x2, rfl⟩ hk
    subst hM
    obtain ⟨v, rfl, hv⟩ := hl d (by simp)
    (try simp only [dgU, w_lrg, dCut, dDGet, dDGet1, dDGet2, dDPut, dPairs, w_disp, w_newDF, w_newDT, dec_self, List.map_cons, List.map_nil, eqD_bl, eqD_int, eqD_str, eqD_tup, eqD_lst, eqDs_nil, eqDs_nc, eqDs_cn, eqDs_cons, reduceIte, Bool.false_eq_true, Bool.not_true, Bool.not_false, decide_true, decide_false, dVar, atD, setD, startD, dC, dOp, dAnd, dOr, dNot, dIf, dUn, dNil, dCons, dTup, dLst, rInD, rNotInD, dNoPart, dPart, dRev, dFld, DL.fieldsOf, dCB, dNext, dSeq, dBreak, dCont, dDrop, dRet, dRetN, dIfS, dNever, dgN, dgNil, dgCons, dgSub, dAsg, dPar, dPar3, putD, dSetF, dMt, rAppendD, rPopD, rExtendD, lsT, lsR, lsF, itemsR, dFrz, dCall, dCallK, dMeth, dMake, dFor, dIL, dIT, dIR1, dIR2, dIE, dIZ, wipeD, dYes, dLc, dDic0, updM_same, cxOf, asBl_bl, asInt_int, asTup_tup, isN, w_test, w_chain, w_andV, w_orV, w_notV, w_neg, w_sub, w_div, w_mod, w_pow, w_shl, w_shr, w_and, w_or, w_xor, w_lt, w_le, w_gt, w_ge, w_add, w_addS, w_addT, w_addL, w_addF, w_addR, w_mul, w_mulL, w_eq, w_ne, w_isN, w_isB, w_isntN, w_isntB, w_ix, w_isi, w_abs, w_max2, w_min2, w_max1L, w_min1L, w_sum, w_all, w_any, w_len, w_int, w_intB, w_divmod, w_sorted, w_list, w_bits, w_sl, w_slL, w_slF, w_slR, w_slT, w_newF, w_newT, w_eqL, w_eqT, w_eqR, w_neL, w_neT, w_neR, w_dgT, w_derL, w_derT, w_derB, w_derI, w_derN, w_derS, w_eqSS, w_eqBB, w_neSS, w_neBB, w_eqBI, w_eqIN, w_neIN, w_eqNI, w_neNI, w_eqNN, w_neNN, w_NN, w_NI, w_IN])
    exact ⟨b, s, _, v, rfl, hb, hv, hk _ _ ⟨rfl, fun d h => hl d (by simp [h]), _, rfl⟩⟩
  · intro d hd
    simp only [List.mem_cons, List.not_mem_nil, or_false] at hd
    rcases hd with rfl | rfl | rfl
    · exact ⟨_, rfl, ha⟩
    · exact ⟨_, rfl, hu⟩
    · exact ⟨_, rfl, hc⟩
abbrev sp_stops (C : Addr) : SpD := fun ds M Q => ∃ (b : Nat) (s : Bool) (w : Word) (u : Int), ds = [kindD C b s, .str w.nm, .int u] ∧ Wd b ∧ Q (.tup [.int (stopLo w (u - lowZ b s)), .int (stopHi w (u - lowZ b s) (2 ^ b))]) M
theorem ok_stops (T : Txt K mg C_Kind) (F_size_of : FnD P w K mg base 1 "size_of" s_size_of ["kind"] (sp_size C_Kind)) (F_low_of : FnD P w K mg base 1 "low_of" s_low_of ["kind"] (sp_low C_Kind)) : FnD P w K mg base 2 "stops" s_stops ["kind", "word", "b"] (sp_stops C_Kind) := by
  refine fn_mk T.h_stops sc_stops 4 rfl (by intro ds M Q h; first | (obtain ⟨rfl, _⟩ := h; rfl) | (obtain ⟨_, rfl, _⟩ := h; rfl) | (obtain ⟨_, _, rfl, _⟩ := h; rfl) | (obtain ⟨_, _, _, rfl, _⟩ := h; rfl) | (obtain ⟨_, _, _, _, rfl, _⟩ := h; rfl) | (obtain ⟨_, _, _, _, _, rfl, _⟩ := h; rfl) | (obtain ⟨_, _, _, _, _, _, rfl, _⟩ := h; rfl) | (obtain ⟨_, _, _, _, _, _, _, rfl, _⟩ := h; rfl) | (obtain ⟨_, _, _, _, _, _, _, _, rfl, _⟩ := h; rfl) | (obtain ⟨_, _, _, _, _, _, _, _, _, rfl, _⟩ := h; rfl) | (obtain ⟨_, _, _, _, _, _, _, _, _, _, rfl, _⟩ := h; rfl) | (obtain ⟨_, _, _, _, _, _, _, _, _, _, _, rfl, _⟩ := h; rfl) | (obtain ⟨_, _, _, _, _, _, _, _, _, _, _, _, rfl, _⟩ := h; rfl)) (fun f cdv A outer s H E hr => ⟨_, (dss_cons (ds_par (i := 3) (j := 2) sc_stops.nd (da_cons (de_call F_size_of hr (da_cons (dv 0) da_nil)) (da_cons (de_op od_sub (dv 2) (de_call F_low_of hr (da_cons (dv 0) da_nil))) da_nil)))
    (dss_cons (ds_if (dt_cmp od_in (dv 1) (de_tup (da_cons de_str (da_cons de_str da_nil))))
    (dss_one (ds_ret (de_tup (da_cons (de_op (od_add false) (dv 2) (de_ct cd_int (by rfl) T.b_int (by decide +kernel) (da_cons (de_cmp (od_eq hr.units) (dv 1) de_str) da_nil))) (da_cons (de_op od_sub (dv 3) de_int) da_nil)))))
    dss_nil)
    (dss_cons (ds_if (dt_cmp od_in (dv 1) (de_tup (da_cons de_str (da_cons de_str da_nil))))
    (dss_one (ds_ret (de_tup (da_cons de_int (da_cons (de_op od_sub (dv 2) (de_ct cd_int (by rfl) T.b_int (by decide +kernel) (da_cons (de_cmp (od_eq hr.units) (dv 1) de_str) da_nil))) da_nil)))))
    dss_nil)
    (dss_one (ds_ret (de_tup (da_cons (dv 2) (da_cons (dv 2) da_nil)))))))), ?_⟩)
  rintro ds M Q ⟨b, s, w, u, rfl, hb, hQ⟩
  (try simp only [dgU, w_lrg, dCut, dDGet, dDGet1, dDGet2, dDPut, dPairs, w_disp, w_newDF, w_newDT, dec_self, List.map_cons, List.map_nil, eqD_bl, eqD_int, eqD_str, eqD_tup, eqD_lst, eqDs_nil, eqDs_nc, eqDs_cn, eqDs_cons, reduceIte, Bool.false_eq_true, Bool.not_true, Bool.not_false, decide_true, decide_false, dVar, atD, setD, startD, dC, dOp, dAnd, dOr, dNot, dIf, dUn, dNil, dCons, dTup, dLst, rInD, rNotInD, dNoPart, dPart, dRev, dFld, DL.fieldsOf, dCB, dNext, dSeq, dBreak, dCont, dDrop, dRet, dRetN, dIfS, dNever, dgN, dgNil, dgCons, dgSub, dAsg, dPar, dPar3, putD, dSetF, dMt, rAppendD, rPopD, rExtendD, lsT, lsR, lsF, itemsR, dFrz, dCall, dCallK, dMeth, dMake, dFor, dIL, dIT, dIR1, dIR2, dIE, dIZ, wipeD, dYes, dLc, dDic0, updM_same, cxOf, asBl_bl, asInt_int, asTup_tup, isN, w_test, w_chain, w_andV, w_orV, w_notV, w_neg, w_sub, w_div, w_mod, w_pow, w_shl, w_shr, w_and, w_or, w_xor, w_lt, w_le, w_gt, w_ge, w_add, w_addS, w_addT, w_addL, w_addF, w_addR, w_mul, w_mulL, w_eq, w_ne, w_isN, w_isB, w_isntN, w_isntB, w_ix, w_isi, w_abs, w_max2, w_min2, w_max1L, w_min1L, w_sum, w_all, w_any, w_len, w_int, w_intB, w_divmod, w_sorted, w_list, w_bits, w_sl, w_slL, w_slF, w_slR, w_slT, w_newF, w_newT, w_eqL, w_eqT, w_eqR, w_neL, w_neT, w_neR, w_dgT, w_derL, w_derT, w_derB, w_derI, w_derN, w_derS, w_eqSS, w_eqBB, w_neSS, w_neBB, w_eqBI, w_eqIN, w_neIN, w_eqNI, w_neNI, w_eqNN, w_neNN, w_NN, w_NI, w_IN])
  refine ⟨b, s, rfl, hb, b, s, rfl, hb, ?_⟩
  (try simp only [dgU, w_lrg, dCut, dDGet, dDGet1, dDGet2, dDPut, dPairs, w_disp, w_newDF, w_newDT, dec_self, List.map_cons, List.map_nil, eqD_bl, eqD_int, eqD_str, eqD_tup, eqD_lst, eqDs_nil, eqDs_nc, eqDs_cn, eqDs_cons, reduceIte, Bool.false_eq_true, Bool.not_true, Bool.not_false, decide_true, decide_false, dVar, atD, setD, startD, dC, dOp, dAnd, dOr, dNot, dIf, dUn, dNil, dCons, dTup, dLst, rInD, rNotInD, dNoPart, dPart, dRev, dFld, DL.fieldsOf, dCB, dNext, dSeq, dBreak, dCont, dDrop, dRet, dRetN, dIfS, dNever, dgN, dgNil, dgCons, dgSub, dAsg, dPar, dPar3, putD, dSetF, dMt, rAppendD, rPopD, rExtendD, lsT, lsR, lsF, itemsR, dFrz, dCall, dCallK, dMeth, dMake, dFor, dIL, dIT, dIR1, dIR2, dIE, dIZ, wipeD, dYes, dLc, dDic0, updM_same, cxOf, asBl_bl, asInt_int, asTup_tup, isN, w_test, w_chain, w_andV, w_orV, w_notV, w_neg, w_sub, w_div, w_mod, w_pow, w_shl, w_shr, w_and, w_or, w_xor, w_lt, w_le, w_gt, w_ge, w_add, w_addS, w_addT, w_addL, w_addF, w_addR, w_mul, w_mulL, w_eq, w_ne, w_isN, w_isB, w_isntN, w_isntB, w_ix, w_isi, w_abs, w_max2, w_min2, w_max1L, w_min1L, w_sum, w_all, w_any, w_len, w_int, w_intB, w_divmod, w_sorted, w_list, w_bits, w_sl, w_slL, w_slF, w_slR, w_slT, w_newF, w_newT, w_eqL, w_eqT, w_eqR, w_neL, w_neT, w_neR, w_dgT, w_derL, w_derT, w_derB, w_derI, w_derN, w_derS, w_eqSS, w_eqBB, w_neSS, w_neBB, w_eqBI, w_eqIN, w_neIN, w_eqNI, w_neNI, w_eqNN, w_neNN, w_NN, w_NI, w_IN])
  refine ⟨lit_len (n := 2) (by decide), _, rfl, rfl, rfl, ?_⟩
  cases w <;> simp only [Word.nm, stopLo, stopHi] at hQ ⊢
  all_goals (try simp (disch := decide +kernel) only [strT, strF, inDT, inDF, dgU, w_lrg, dCut, dDGet, dDGet1, dDGet2, dDPut, dPairs, w_disp, w_newDF, w_newDT, dec_self, List.map_cons, List.map_nil, eqD_bl, eqD_int, eqD_str, eqD_tup, eqD_lst, eqDs_nil, eqDs_nc, eqDs_cn, eqDs_cons, reduceIte, Bool.false_eq_true, Bool.not_true, Bool.not_false, decide_true, decide_false, dVar, atD, setD, startD, dC, dOp, dAnd, dOr, dNot, dIf, dUn, dNil, dCons, dTup, dLst, rInD, rNotInD, dNoPart, dPart, dRev, dFld, DL.fieldsOf, dCB, dNext, dSeq, dBreak, dCont, dDrop, dRet, dRetN, dIfS, dNever, dgN, dgNil, dgCons, dgSub, dAsg, dPar, dPar3, putD, dSetF, dMt, rAppendD, rPopD, rExtendD, lsT, lsR, lsF, itemsR, dFrz, dCall, dCallK, dMeth, dMake, dFor, dIL, dIT, dIR1, dIR2, dIE, dIZ, wipeD, dYes, dLc, dDic0, updM_same, cxOf, asBl_bl, asInt_int, asTup_tup, isN, w_test, w_chain, w_andV, w_orV, w_notV, w_neg, w_sub, w_div, w_mod, w_pow, w_shl, w_shr, w_and, w_or, w_xor, w_lt, w_le, w_gt, w_ge, w_add, w_addS, w_addT, w_addL, w_addF, w_addR, w_mul, w_mulL, w_eq, w_ne, w_isN, w_isB, w_isntN, w_isntB, w_ix, w_isi, w_abs, w_max2, w_min2, w_max1L, w_min1L, w_sum, w_all, w_any, w_len, w_int, w_intB, w_divmod, w_sorted, w_list, w_bits, w_sl, w_slL, w_slF, w_slR, w_slT, w_newF, w_newT, w_eqL, w_eqT, w_eqR, w_neL, w_neT, w_neR, w_dgT, w_derL, w_derT, w_derB, w_derI, w_derN, w_derS, w_eqSS, w_eqBB, w_neSS, w_neBB, w_eqBI, w_eqIN, w_neIN, w_eqNI, w_neNI, w_eqNN, w_neNN, w_NN, w_NI, w_IN])
  case lt => exact ⟨lit_len (n := 2) (by decide), endD_of (by simpa using hQ)⟩
  case le => exact ⟨lit_len (n := 2) (by decide), endD_of (by simpa using hQ)⟩
  all_goals
    refine ⟨lit_len (n := 2) (by decide), _, rfl, rfl, rfl, ?_⟩
    (try simp (disch := decide +kernel) only [strT, strF, inDT, inDF, dgU, w_lrg, dCut, dDGet, dDGet1, dDGet2, dDPut, dPairs, w_disp, w_newDF, w_newDT, dec_self, List.map_cons, List.map_nil, eqD_bl, eqD_int, eqD_str, eqD_tup, eqD_lst, eqDs_nil, eqDs_nc, eqDs_cn, eqDs_cons, reduceIte, Bool.false_eq_true, Bool.not_true, Bool.not_false, decide_true, decide_false, dVar, atD, setD, startD, dC, dOp, dAnd, dOr, dNot, dIf, dUn, dNil, dCons, dTup, dLst, rInD, rNotInD, dNoPart, dPart, dRev, dFld, DL.fieldsOf, dCB, dNext, dSeq, dBreak, dCont, dDrop, dRet, dRetN, dIfS, dNever, dgN, dgNil, dgCons, dgSub, dAsg, dPar, dPar3, putD, dSetF, dMt, rAppendD, rPopD, rExtendD, lsT, lsR, lsF, itemsR, dFrz, dCall, dCallK, dMeth, dMake, dFor, dIL, dIT, dIR1, dIR2, dIE, dIZ, wipeD, dYes, dLc, dDic0, updM_same, cxOf, asBl_bl, asInt_int, asTup_tup, isN, w_test, w_chain, w_andV, w_orV, w_notV, w_neg, w_sub, w_div, w_mod, w_pow, w_shl, w_shr, w_and, w_or, w_xor, w_lt, w_le, w_gt, w_ge, w_add, w_addS, w_addT, w_addL, w_addF, w_addR, w_mul, w_mulL, w_eq, w_ne, w_isN, w_isB, w_isntN, w_isntB, w_ix, w_isi, w_abs, w_max2, w_min2, w_max1L, w_min1L, w_sum, w_all, w_any, w_len, w_int, w_intB, w_divmod, w_sorted, w_list, w_bits, w_sl, w_slL, w_slF, w_slR, w_slT, w_newF, w_newT, w_eqL, w_eqT, w_eqR, w_neL, w_neT, w_neR, w_dgT, w_derL, w_derT, w_derB, w_derI, w_derN, w_derS, w_eqSS, w_eqBB, w_neSS, w_neBB, w_eqBI, w_eqIN, w_neIN, w_eqNI, w_neNI, w_eqNN, w_neNN, w_NN, w_NI, w_IN])
    exact ⟨lit_len (n := 2) (by decide), endD_of (by simpa using hQ)⟩
abbrev FirstR (b : Nat) (s : Bool) (a : Int) (w : Word) (u c : Int) (r : Option Nat) : Prop := FirstN (fun n => holdsZ w (placedZ b s (a + (n : Nat) * c)) u = false) r
theorem stop_iff {b : Nat} {s : Bool} {w : Word} {x u : Int} (hw : w ≠ .eq) (hx : InK b s x) : (holdsZ w x u = false) ↔ (stopLo w (u - lowZ b s) ≤ x - lowZ b s ∧ x - lowZ b s ≤ stopHi w (u - lowZ b s) (2 ^ b)) := by
  obtain ⟨h1, h2⟩ := hx
  cases w <;> simp only [holdsZ, stopLo, stopHi, decide_eq_false_iff_not, Bool.not_eq_false', decide_eq_true_eq] <;> first | exact absurd rfl hw | omega
theorem low_half (b : Nat) (s : Bool) (hb : 1 ≤ b) : -(2 ^ b) < lowZ b s ∧ lowZ b s ≤ 0 := by
  have h1 := two_succ hb
  have h2 := two_pos (b - 1)
  unfold lowZ
  split <;> omega
theorem stop_in {b : Nat} {s : Bool} {w : Word} {u : Int} (hu : InK b s u) : stopLo w (u - lowZ b s) ≤ stopHi w (u - lowZ b s) (2 ^ b) → 0 ≤ stopLo w (u - lowZ b s) ∧ stopHi w (u - lowZ b s) (2 ^ b) < 2 ^ b := by
  obtain ⟨h1, h2⟩ := hu
  cases w <;> simp only [stopLo, stopHi] <;> omega
theorem small_bits {b : Nat} (hb : Wd b) : (2 : Int) ^ b < 2 ^ 140 := Int.lt_of_le_of_lt (pow_mono hb.2) (by decide +kernel)
theorem placed_sub {b : Nat} {s : Bool} {n : Int} : placedZ b s n - lowZ b s = (n - lowZ b s) % 2 ^ b := by
  unfold placedZ
  omega
abbrev sp_rof (C : Addr) : SpD := fun ds M Q => ∃ (b : Nat) (s : Bool) (a : Int) (w : Word) (u c : Int), ds = [kindD C b s, loopD a w u c] ∧ Wd b ∧ InK b s a ∧ InK b s u ∧ InK b s c ∧ ∀ r, FirstR b s a w u c r → Q (optD r) M
theorem ok_rounds_of (T : Txt K mg C_Kind) (F_stops : FnD P w K mg base 2 "stops" s_stops ["kind", "word", "b"] (sp_stops C_Kind)) (F_first_within : FnD P w K mg base 142 "first_within" s_first_within ["a", "b", "size", "low", "high"] (sp_fw)) (F_size_of : FnD P w K mg base 1 "size_of" s_size_of ["kind"] (sp_size C_Kind)) (F_low_of : FnD P w K mg base 1 "low_of" s_low_of ["kind"] (sp_low C_Kind)) : FnD P w K mg base 143 "rounds_of" s_rounds_of ["kind", "loop"] (sp_rof C_Kind) := by
  refine fn_mk T.h_rounds_of sc_rounds_of 8 rfl (by intro ds M Q h; first | (obtain ⟨rfl, _⟩ := h; rfl) | (obtain ⟨_, rfl, _⟩ := h; rfl) | (obtain ⟨_, _, rfl, _⟩ := h; rfl) | (obtain ⟨_, _, _, rfl, _⟩ := h; rfl) | (obtain ⟨_, _, _, _, rfl, _⟩ := h; rfl) | (obtain ⟨_, _, _, _, _, rfl, _⟩ := h; rfl) | (obtain ⟨_, _, _, _, _, _, rfl, _⟩ := h; rfl) | (obtain ⟨_, _, _, _, _, _, _, rfl, _⟩ := h; rfl) | (obtain ⟨_, _, _, _, _, _, _, _, rfl, _⟩ := h; rfl) | (obtain ⟨_, _, _, _, _, _, _, _, _, rfl, _⟩ := h; rfl) | (obtain ⟨_, _, _, _, _, _, _, _, _, _, rfl, _⟩ := h; rfl) | (obtain ⟨_, _, _, _, _, _, _, _, _, _, _, rfl, _⟩ := h; rfl) | (obtain ⟨_, _, _, _, _, _, _, _, _, _, _, _, rfl, _⟩ := h; rfl)) (fun f cdv A outer s H E hr => ⟨_, (dss_cons (ds_asg (dv 1) (DGo.dg (vs := [2, 3, 4, 5]) (dgo_tup (n := 4) (dgs_cons (dgo_name (i := 2) (by decide) sc_rounds_of.nd rfl) (dgs_cons (dgo_name (i := 3) (by decide) sc_rounds_of.nd rfl) (dgs_cons (dgo_name (i := 4) (by decide) sc_rounds_of.nd rfl) (dgs_cons (dgo_name (i := 5) (by decide) sc_rounds_of.nd rfl) dgs_nil)))))))
    (dss_cons (ds_if (dt_cmp (od_eq hr.units) (dv 3) de_str)
    (dss_one (ds_ret (de_if (dt_cmp (od_ne hr.units) (dv 2) (dv 4)) de_int (de_if (dt_cmp (od_eq hr.units) (dv 5) de_int) de_non de_int))))
    dss_nil)
    (dss_cons (ds_asg (de_call F_stops hr (da_cons (dv 0) (da_cons (dv 3) (da_cons (dv 4) da_nil)))) (DGo.dg (vs := [6, 7]) (dgo_tup (n := 2) (dgs_cons (dgo_name (i := 6) (by decide) sc_rounds_of.nd rfl) (dgs_cons (dgo_name (i := 7) (by decide) sc_rounds_of.nd rfl) dgs_nil)))))
    (dss_one (ds_ret (de_call F_first_within hr (da_cons (dv 5) (da_cons (de_op od_sub (dv 2) (de_call F_low_of hr (da_cons (dv 0) da_nil))) (da_cons (de_call F_size_of hr (da_cons (dv 0) da_nil)) (da_cons (dv 6) (da_cons (dv 7) da_nil))))))))))), ?_⟩)
  rintro ds M Q ⟨b, s, a, w, u, c, rfl, hb, ha, hu, hc, hQ⟩
  (try simp only [dgU, w_lrg, dCut, dDGet, dDGet1, dDGet2, dDPut, dPairs, w_disp, w_newDF, w_newDT, dec_self, List.map_cons, List.map_nil, eqD_bl, eqD_int, eqD_str, eqD_tup, eqD_lst, eqDs_nil, eqDs_nc, eqDs_cn, eqDs_cons, reduceIte, Bool.false_eq_true, Bool.not_true, Bool.not_false, decide_true, decide_false, dVar, atD, setD, startD, dC, dOp, dAnd, dOr, dNot, dIf, dUn, dNil, dCons, dTup, dLst, rInD, rNotInD, dNoPart, dPart, dRev, dFld, DL.fieldsOf, dCB, dNext, dSeq, dBreak, dCont, dDrop, dRet, dRetN, dIfS, dNever, dgN, dgNil, dgCons, dgSub, dAsg, dPar, dPar3, putD, dSetF, dMt, rAppendD, rPopD, rExtendD, lsT, lsR, lsF, itemsR, dFrz, dCall, dCallK, dMeth, dMake, dFor, dIL, dIT, dIR1, dIR2, dIE, dIZ, wipeD, dYes, dLc, dDic0, updM_same, cxOf, asBl_bl, asInt_int, asTup_tup, isN, w_test, w_chain, w_andV, w_orV, w_notV, w_neg, w_sub, w_div, w_mod, w_pow, w_shl, w_shr, w_and, w_or, w_xor, w_lt, w_le, w_gt, w_ge, w_add, w_addS, w_addT, w_addL, w_addF, w_addR, w_mul, w_mulL, w_eq, w_ne, w_isN, w_isB, w_isntN, w_isntB, w_ix, w_isi, w_abs, w_max2, w_min2, w_max1L, w_min1L, w_sum, w_all, w_any, w_len, w_int, w_intB, w_divmod, w_sorted, w_list, w_bits, w_sl, w_slL, w_slF, w_slR, w_slT, w_newF, w_newT, w_eqL, w_eqT, w_eqR, w_neL, w_neT, w_neR, w_dgT, w_derL, w_derT, w_derB, w_derI, w_derN, w_derS, w_eqSS, w_eqBB, w_neSS, w_neBB, w_eqBI, w_eqIN, w_neIN, w_eqNI, w_neNI, w_eqNN, w_neNN, w_NN, w_NI, w_IN])
  refine ⟨rfl, ?_⟩
  have hp := two_pos b
  by_cases hw : w = .eq
  · subst hw
    simp only [Word.nm]
    (try simp (disch := decide +kernel) only [strT, strF, inDT, inDF, dgU, w_lrg, dCut, dDGet, dDGet1, dDGet2, dDPut, dPairs, w_disp, w_newDF, w_newDT, dec_self, List.map_cons, List.map_nil, eqD_bl, eqD_int, eqD_str, eqD_tup, eqD_lst, eqDs_nil, eqDs_nc, eqDs_cn, eqDs_cons, reduceIte, Bool.false_eq_true, Bool.not_true, Bool.not_false, decide_true, decide_false, dVar, atD, setD, startD, dC, dOp, dAnd, dOr, dNot, dIf, dUn, dNil, dCons, dTup, dLst, rInD, rNotInD, dNoPart, dPart, dRev, dFld, DL.fieldsOf, dCB, dNext, dSeq, dBreak, dCont, dDrop, dRet, dRetN, dIfS, dNever, dgN, dgNil, dgCons, dgSub, dAsg, dPar, dPar3, putD, dSetF, dMt, rAppendD, rPopD, rExtendD, lsT, lsR, lsF, itemsR, dFrz, dCall, dCallK, dMeth, dMake, dFor, dIL, dIT, dIR1, dIR2, dIE, dIZ, wipeD, dYes, dLc, dDic0, updM_same, cxOf, asBl_bl, asInt_int, asTup_tup, isN, w_test, w_chain, w_andV, w_orV, w_notV, w_neg, w_sub, w_div, w_mod, w_pow, w_shl, w_shr, w_and, w_or, w_xor, w_lt, w_le, w_gt, w_ge, w_add, w_addS, w_addT, w_addL, w_addF, w_addR, w_mul, w_mulL, w_eq, w_ne, w_isN, w_isB, w_isntN, w_isntB, w_ix, w_isi, w_abs, w_max2, w_min2, w_max1L, w_min1L, w_sum, w_all, w_any, w_len, w_int, w_intB, w_divmod, w_sorted, w_list, w_bits, w_sl, w_slL, w_slF, w_slR, w_slT, w_newF, w_newT, w_eqL, w_eqT, w_eqR, w_neL, w_neT, w_neR, w_dgT, w_derL, w_derT, w_derB, w_derI, w_derN, w_derS, w_eqSS, w_eqBB, w_neSS, w_neBB, w_eqBI, w_eqIN, w_neIN, w_eqNI, w_neNI, w_eqNN, w_neNN, w_NN, w_NI, w_IN])
    have p0 : placedZ b s (a + ((0 : Nat) : Int) * c) = a := by
      rw [show a + ((0 : Nat) : Int) * c = a by simp]
      exact placed_same ha.1 ha.2
    by_cases h : a = u
    · refine if_no (by simp [h]) ?_
      by_cases h0 : c = 0
      · refine if_yes (by simp [h0]) (endD_of (hQ none fun n => ?_))
        subst h0
        have := placed_same hu.1 hu.2
        simp [holdsZ, h, this]
      · refine if_no (by simp [h0]) (endD_of (hQ (some 1) ⟨?_, fun k hk => ?_⟩))
        · refine decide_eq_false fun q => h0 ?_
          have q2 : placedZ b s (a + c) = placedZ b s a := by
            have q3 : placedZ b s (a + c) = u := by
              have e1 : a + ((1 : Nat) : Int) * c = a + c := by simp
              rw [← e1]
              exact q
            rw [placed_same ha.1 ha.2, q3, h]
          obtain ⟨e, he⟩ := placed_iff.mp q2
          have h0in : InK b s 0 ∨ True := .inr trivial
          rcases Int.lt_trichotomy e 0 with g | g | g
          · have : (2 : Int) ^ b * e ≤ 2 ^ b * (-1) := Int.mul_le_mul_of_nonneg_left (by omega) (by omega)
            have l := low_half b s hb.1
            have := hc.1
            omega
          · rw [g] at he
            omega
          · have : (2 : Int) ^ b * 1 ≤ 2 ^ b * e := Int.mul_le_mul_of_nonneg_left (by omega) (by omega)
            have l := low_half b s hb.1
            have := hc.2
            omega
        · have : k = 0 := by omega
          subst this
          show ¬ holdsZ .eq (placedZ b s (a + ((0 : Nat) : Int) * c)) u = false
          rw [p0]
          simp [holdsZ, h]
    · refine if_yes (by simp [h]) (endD_of (hQ (some 0) ⟨?_, fun k hk => absurd hk (Nat.not_lt_zero _)⟩))
      show holdsZ .eq (placedZ b s (a + ((0 : Nat) : Int) * c)) u = false
      rw [p0]
      exact decide_eq_false h
  · have hne : shp 64 (.str w.nm) = true := by cases w <;> decide +kernel
    rw [w_eqSS hne (by decide +kernel), eqD_str, show decide (w.nm = Str.ofString "==") = false by cases w <;> first | exact absurd rfl hw | decide +kernel]
    (try simp only [dgU, w_lrg, dCut, dDGet, dDGet1, dDGet2, dDPut, dPairs, w_disp, w_newDF, w_newDT, dec_self, List.map_cons, List.map_nil, eqD_bl, eqD_int, eqD_str, eqD_tup, eqD_lst, eqDs_nil, eqDs_nc, eqDs_cn, eqDs_cons, reduceIte, Bool.false_eq_true, Bool.not_true, Bool.not_false, decide_true, decide_false, dVar, atD, setD, startD, dC, dOp, dAnd, dOr, dNot, dIf, dUn, dNil, dCons, dTup, dLst, rInD, rNotInD, dNoPart, dPart, dRev, dFld, DL.fieldsOf, dCB, dNext, dSeq, dBreak, dCont, dDrop, dRet, dRetN, dIfS, dNever, dgN, dgNil, dgCons, dgSub, dAsg, dPar, dPar3, putD, dSetF, dMt, rAppendD, rPopD, rExtendD, lsT, lsR, lsF, itemsR, dFrz, dCall, dCallK, dMeth, dMake, dFor, dIL, dIT, dIR1, dIR2, dIE, dIZ, wipeD, dYes, dLc, dDic0, updM_same, cxOf, asBl_bl, asInt_int, asTup_tup, isN, w_test, w_chain, w_andV, w_orV, w_notV, w_neg, w_sub, w_div, w_mod, w_pow, w_shl, w_shr, w_and, w_or, w_xor, w_lt, w_le, w_gt, w_ge, w_add, w_addS, w_addT, w_addL, w_addF, w_addR, w_mul, w_mulL, w_eq, w_ne, w_isN, w_isB, w_isntN, w_isntB, w_ix, w_isi, w_abs, w_max2, w_min2, w_max1L, w_min1L, w_sum, w_all, w_any, w_len, w_int, w_intB, w_divmod, w_sorted, w_list, w_bits, w_sl, w_slL, w_slF, w_slR, w_slT, w_newF, w_newT, w_eqL, w_eqT, w_eqR, w_neL, w_neT, w_neR, w_dgT, w_derL, w_derT, w_derB, w_derI, w_derN, w_derS, w_eqSS, w_eqBB, w_neSS, w_neBB, w_eqBI, w_eqIN, w_neIN, w_eqNI, w_neNI, w_eqNN, w_neNN, w_NN, w_NI, w_IN])
    refine ⟨b, s, w, u, rfl, hb, ?_⟩
    (try simp only [dgU, w_lrg, dCut, dDGet, dDGet1, dDGet2, dDPut, dPairs, w_disp, w_newDF, w_newDT, dec_self, List.map_cons, List.map_nil, eqD_bl, eqD_int, eqD_str, eqD_tup, eqD_lst, eqDs_nil, eqDs_nc, eqDs_cn, eqDs_cons, reduceIte, Bool.false_eq_true, Bool.not_true, Bool.not_false, decide_true, decide_false, dVar, atD, setD, startD, dC, dOp, dAnd, dOr, dNot, dIf, dUn, dNil, dCons, dTup, dLst, rInD, rNotInD, dNoPart, dPart, dRev, dFld, DL.fieldsOf, dCB, dNext, dSeq, dBreak, dCont, dDrop, dRet, dRetN, dIfS, dNever, dgN, dgNil, dgCons, dgSub, dAsg, dPar, dPar3, putD, dSetF, dMt, rAppendD, rPopD, rExtendD, lsT, lsR, lsF, itemsR, dFrz, dCall, dCallK, dMeth, dMake, dFor, dIL, dIT, dIR1, dIR2, dIE, dIZ, wipeD, dYes, dLc, dDic0, updM_same, cxOf, asBl_bl, asInt_int, asTup_tup, isN, w_test, w_chain, w_andV, w_orV, w_notV, w_neg, w_sub, w_div, w_mod, w_pow, w_shl, w_shr, w_and, w_or, w_xor, w_lt, w_le, w_gt, w_ge, w_add, w_addS, w_addT, w_addL, w_addF, w_addR, w_mul, w_mulL, w_eq, w_ne, w_isN, w_isB, w_isntN, w_isntB, w_ix, w_isi, w_abs, w_max2, w_min2, w_max1L, w_min1L, w_sum, w_all, w_any, w_len, w_int, w_intB, w_divmod, w_sorted, w_list, w_bits, w_sl, w_slL, w_slF, w_slR, w_slT, w_newF, w_newT, w_eqL, w_eqT, w_eqR, w_neL, w_neT, w_neR, w_dgT, w_derL, w_derT, w_derB, w_derI, w_derN, w_derS, w_eqSS, w_eqBB, w_neSS, w_neBB, w_eqBI, w_eqIN, w_neIN, w_eqNI, w_neNI, w_eqNN, w_neNN, w_NN, w_NI, w_IN])
    refine ⟨rfl, b, s, rfl, hb, ?_⟩
    (try simp only [dgU, w_lrg, dCut, dDGet, dDGet1, dDGet2, dDPut, dPairs, w_disp, w_newDF, w_newDT, dec_self, List.map_cons, List.map_nil, eqD_bl, eqD_int, eqD_str, eqD_tup, eqD_lst, eqDs_nil, eqDs_nc, eqDs_cn, eqDs_cons, reduceIte, Bool.false_eq_true, Bool.not_true, Bool.not_false, decide_true, decide_false, dVar, atD, setD, startD, dC, dOp, dAnd, dOr, dNot, dIf, dUn, dNil, dCons, dTup, dLst, rInD, rNotInD, dNoPart, dPart, dRev, dFld, DL.fieldsOf, dCB, dNext, dSeq, dBreak, dCont, dDrop, dRet, dRetN, dIfS, dNever, dgN, dgNil, dgCons, dgSub, dAsg, dPar, dPar3, putD, dSetF, dMt, rAppendD, rPopD, rExtendD, lsT, lsR, lsF, itemsR, dFrz, dCall, dCallK, dMeth, dMake, dFor, dIL, dIT, dIR1, dIR2, dIE, dIZ, wipeD, dYes, dLc, dDic0, updM_same, cxOf, asBl_bl, asInt_int, asTup_tup, isN, w_test, w_chain, w_andV, w_orV, w_notV, w_neg, w_sub, w_div, w_mod, w_pow, w_shl, w_shr, w_and, w_or, w_xor, w_lt, w_le, w_gt, w_ge, w_add, w_addS, w_addT, w_addL, w_addF, w_addR, w_mul, w_mulL, w_eq, w_ne, w_isN, w_isB, w_isntN, w_isntB, w_ix, w_isi, w_abs, w_max2, w_min2, w_max1L, w_min1L, w_sum, w_all, w_any, w_len, w_int, w_intB, w_divmod, w_sorted, w_list, w_bits, w_sl, w_slL, w_slF, w_slR, w_slT, w_newF, w_newT, w_eqL, w_eqT, w_eqR, w_neL, w_neT, w_neR, w_dgT, w_derL, w_derT, w_derB, w_derI, w_derN, w_derS, w_eqSS, w_eqBB, w_neSS, w_neBB, w_eqBI, w_eqIN, w_neIN, w_eqNI, w_neNI, w_eqNN, w_neNN, w_NN, w_NI, w_IN])
    refine ⟨b, s, rfl, hb, c, a - lowZ b s, 2 ^ b, _, _, rfl, hp, small_bits hb, stop_in hu, fun r hr => endD_of (hQ r (first_congr (fun n => ?_) hr))⟩
    rw [stop_iff hw (placed_inK b s _), placed_sub]
    unfold Hit2
    rw [show a - lowZ b s + c * (n : Nat) = a + (n : Nat) * c - lowZ b s by rw [Int.mul_comm]; omega]
end
/-! ### loops: what is asked of them -/
abbrev sp_rounds (C : Addr) : SpD := sp_rof C
theorem ok_rounds (T : Txt K mg C_Kind) (F_check_loop : FnD P w K mg base 5 "check_loop" s_check_loop ["kind", "value"] (sp_chkl C_Kind)) (F_rounds_of : FnD P w K mg base 143 "rounds_of" s_rounds_of ["kind", "loop"] (sp_rof C_Kind)) : FnD P w K mg base 144 "rounds" s_rounds ["kind", "loop"] (sp_rounds C_Kind) := by
  refine fn_mk T.h_rounds sc_rounds 2 rfl (by intro ds M Q h; first | (obtain ⟨rfl, _⟩ := h; rfl) | (obtain ⟨_, rfl, _⟩ := h; rfl) | (obtain ⟨_, _, rfl, _⟩ := h; rfl) | (obtain ⟨_, _, _, rfl, _⟩ := h; rfl) | (obtain ⟨_, _, _, _, rfl, _⟩ := h; rfl) | (obtain ⟨_, _, _, _, _, rfl, _⟩ := h; rfl) | (obtain ⟨_, _, _, _, _, _, rfl, _⟩ := h; rfl) | (obtain ⟨_, _, _, _, _, _, _, rfl, _⟩ := h; rfl) | (obtain ⟨_, _, _, _, _, _, _, _, rfl, _⟩ := h; rfl) | (obtain ⟨_, _, _, _, _, _, _, _, _, rfl, _⟩ := h; rfl) | (obtain ⟨_, _, _, _, _, _, _, _, _, _, rfl, _⟩ := h; rfl) | (obtain ⟨_, _, _, _, _, _, _, _, _, _, _, rfl, _⟩ := h; rfl) | (obtain ⟨_, _, _, _, _, _, _, _, _, _, _, _, rfl, _⟩ := h; rfl)) (fun f cdv A outer s H E hr => ⟨_, (dss_cons (ds_expr (de_call F_check_loop hr (da_cons (dv 0) (da_cons (dv 1) da_nil))))
    (dss_one (ds_ret (de_call F_rounds_of hr (da_cons (dv 0) (da_cons (dv 1) da_nil)))))), ?_⟩)
  rintro ds M Q ⟨b, s, a, w, u, c, rfl, hb, ha, hu, hc, hQ⟩
  (try simp only [dgU, w_lrg, dCut, dDGet, dDGet1, dDGet2, dDPut, dPairs, w_disp, w_newDF, w_newDT, dec_self, List.map_cons, List.map_nil, eqD_bl, eqD_int, eqD_str, eqD_tup, eqD_lst, eqDs_nil, eqDs_nc, eqDs_cn, eqDs_cons, reduceIte, Bool.false_eq_true, Bool.not_true, Bool.not_false, decide_true, decide_false, dVar, atD, setD, startD, dC, dOp, dAnd, dOr, dNot, dIf, dUn, dNil, dCons, dTup, dLst, rInD, rNotInD, dNoPart, dPart, dRev, dFld, DL.fieldsOf, dCB, dNext, dSeq, dBreak, dCont, dDrop, dRet, dRetN, dIfS, dNever, dgN, dgNil, dgCons, dgSub, dAsg, dPar, dPar3, putD, dSetF, dMt, rAppendD, rPopD, rExtendD, lsT, lsR, lsF, itemsR, dFrz, dCall, dCallK, dMeth, dMake, dFor, dIL, dIT, dIR1, dIR2, dIE, dIZ, wipeD, dYes, dLc, dDic0, updM_same, cxOf, asBl_bl, asInt_int, asTup_tup, isN, w_test, w_chain, w_andV, w_orV, w_notV, w_neg, w_sub, w_div, w_mod, w_pow, w_shl, w_shr, w_and, w_or, w_xor, w_lt, w_le, w_gt, w_ge, w_add, w_addS, w_addT, w_addL, w_addF, w_addR, w_mul, w_mulL, w_eq, w_ne, w_isN, w_isB, w_isntN, w_isntB, w_ix, w_isi, w_abs, w_max2, w_min2, w_max1L, w_min1L, w_sum, w_all, w_any, w_len, w_int, w_intB, w_divmod, w_sorted, w_list, w_bits, w_sl, w_slL, w_slF, w_slR, w_slT, w_newF, w_newT, w_eqL, w_eqT, w_eqR, w_neL, w_neT, w_neR, w_dgT, w_derL, w_derT, w_derB, w_derI, w_derN, w_derS, w_eqSS, w_eqBB, w_neSS, w_neBB, w_eqBI, w_eqIN, w_neIN, w_eqNI, w_neNI, w_eqNN, w_neNN, w_NN, w_NI, w_IN])
  exact ⟨b, s, a, w, u, c, rfl, hb, ha, hu, hc, b, s, a, w, u, c, rfl, hb, ha, hu, hc, fun r hr => endD_of (hQ r hr)⟩
/-- the n-th value of a loop's course -/
abbrev valZ (b : Nat) (s : Bool) (a c : Int) (n : Nat) : Int := placedZ b s (a + (n : Nat) * c)
theorem first_bits {b : Nat} {s : Bool} {a u c : Int} {w : Word} {k : Nat} (h : FirstR b s a w u c (some k)) : (k : Int) < 2 ^ b := by
  have hp := two_pos b
  have hN : ((2 ^ b : Nat) : Int) = 2 ^ b := by simp
  rcases Int.lt_or_le (k : Int) (2 ^ b) with g | g
  · exact g
  · exfalso
    refine h.2 (k - 2 ^ b) (by omega) ?_
    have e : placedZ b s (a + ((k - 2 ^ b : Nat) : Int) * c) = placedZ b s (a + (k : Nat) * c) := by
      refine placed_congr ⟨-c, ?_⟩
      rw [show ((k - 2 ^ b : Nat) : Int) = k - 2 ^ b by omega]
      grind
    show holdsZ w (placedZ b s (a + ((k - 2 ^ b : Nat) : Int) * c)) u = false
    rw [e]
    exact h.1
def rvalD (b : Nat) (s : Bool) (a c : Int) (n : Nat) : Option Nat → Dat
  | none => .int (valZ b s a c n)
  | some k => if n < k then .int (valZ b s a c n) else .non
abbrev sp_rval (C : Addr) : SpD := fun ds M Q => ∃ (b : Nat) (s : Bool) (a : Int) (w : Word) (u c : Int) (n : Nat), ds = [kindD C b s, loopD a w u c, .int (n : Nat)] ∧ Wd b ∧ InK b s a ∧ InK b s u ∧ InK b s c ∧ n < 2 ^ 4000 ∧ ∀ r, FirstR b s a w u c r → Q (rvalD b s a c n r) M
theorem ok_round_value (T : Txt K mg C_Kind) (F_check_loop : FnD P w K mg base 5 "check_loop" s_check_loop ["kind", "value"] (sp_chkl C_Kind)) (F_rounds_of : FnD P w K mg base 143 "rounds_of" s_rounds_of ["kind", "loop"] (sp_rof C_Kind)) (F_placed : FnD P w K mg base 2 "placed" s_placed ["kind", "n"] (sp_placed C_Kind)) (F_is_integer : FnD P w K mg base 1 "is_integer" s_is_integer ["value"] (sp_isint C_Kind)) : FnD P w K mg base 144 "round_value" s_round_value ["kind", "loop", "n"] (sp_rval C_Kind) := by
  refine fn_mk T.h_round_value sc_round_value 4 rfl (by intro ds M Q h; first | (obtain ⟨rfl, _⟩ := h; rfl) | (obtain ⟨_, rfl, _⟩ := h; rfl) | (obtain ⟨_, _, rfl, _⟩ := h; rfl) | (obtain ⟨_, _, _, rfl, _⟩ := h; rfl) | (obtain ⟨_, _, _, _, rfl, _⟩ := h; rfl) | (obtain ⟨_, _, _, _, _, rfl, _⟩ := h; rfl) | (obtain ⟨_, _, _, _, _, _, rfl, _⟩ := h; rfl) | (obtain ⟨_, _, _, _, _, _, _, rfl, _⟩ := h; rfl) | (obtain ⟨_, _, _, _, _, _, _, _, rfl, _⟩ := h; rfl) | (obtain ⟨_, _, _, _, _, _, _, _, _, rfl, _⟩ := h; rfl) | (obtain ⟨_, _, _, _, _, _, _, _, _, _, rfl, _⟩ := h; rfl) | (obtain ⟨_, _, _, _, _, _, _, _, _, _, _, rfl, _⟩ := h; rfl) | (obtain ⟨_, _, _, _, _, _, _, _, _, _, _, _, rfl, _⟩ := h; rfl)) (fun f cdv A outer s H E hr => ⟨_, (dss_cons (ds_expr (de_call F_check_loop hr (da_cons (dv 0) (da_cons (dv 1) da_nil))))
    (dss_cons (ds_if (dt_cut (dt_w (dw_or (dt_not (dt_val (de_call F_is_integer hr (da_cons (dv 2) da_nil)))) (dw_or1 (dt_cmp od_lt (dv 2) de_int)))))
    (dss_one ds_never)
    dss_nil)
    (dss_cons (ds_set (i := 3) sc_round_value.nd (de_call F_rounds_of hr (da_cons (dv 0) (da_cons (dv 1) da_nil))))
    (dss_one (ds_ret (de_if (dt_cut (dt_w (dw_or (dt_cmp od_is (dv 3) de_non) (dw_or1 (dt_cmp od_lt (dv 2) (dv 3)))))) (de_call F_placed hr (da_cons (dv 0) (da_cons (de_op (od_add false) (de_ix (dv 1) de_int) (de_op (od_mul false) (dv 2) (de_ix (dv 1) de_int))) da_nil))) de_non)))))), ?_⟩)
  rintro ds M Q ⟨b, s, a, w, u, c, n, rfl, hb, ha, hu, hc, hn, hQ⟩
  (try simp only [dgU, w_lrg, dCut, dDGet, dDGet1, dDGet2, dDPut, dPairs, w_disp, w_newDF, w_newDT, dec_self, List.map_cons, List.map_nil, eqD_bl, eqD_int, eqD_str, eqD_tup, eqD_lst, eqDs_nil, eqDs_nc, eqDs_cn, eqDs_cons, reduceIte, Bool.false_eq_true, Bool.not_true, Bool.not_false, decide_true, decide_false, dVar, atD, setD, startD, dC, dOp, dAnd, dOr, dNot, dIf, dUn, dNil, dCons, dTup, dLst, rInD, rNotInD, dNoPart, dPart, dRev, dFld, DL.fieldsOf, dCB, dNext, dSeq, dBreak, dCont, dDrop, dRet, dRetN, dIfS, dNever, dgN, dgNil, dgCons, dgSub, dAsg, dPar, dPar3, putD, dSetF, dMt, rAppendD, rPopD, rExtendD, lsT, lsR, lsF, itemsR, dFrz, dCall, dCallK, dMeth, dMake, dFor, dIL, dIT, dIR1, dIR2, dIE, dIZ, wipeD, dYes, dLc, dDic0, updM_same, cxOf, asBl_bl, asInt_int, asTup_tup, isN, w_test, w_chain, w_andV, w_orV, w_notV, w_neg, w_sub, w_div, w_mod, w_pow, w_shl, w_shr, w_and, w_or, w_xor, w_lt, w_le, w_gt, w_ge, w_add, w_addS, w_addT, w_addL, w_addF, w_addR, w_mul, w_mulL, w_eq, w_ne, w_isN, w_isB, w_isntN, w_isntB, w_ix, w_isi, w_abs, w_max2, w_min2, w_max1L, w_min1L, w_sum, w_all, w_any, w_len, w_int, w_intB, w_divmod, w_sorted, w_list, w_bits, w_sl, w_slL, w_slF, w_slR, w_slT, w_newF, w_newT, w_eqL, w_eqT, w_eqR, w_neL, w_neT, w_neR, w_dgT, w_derL, w_derT, w_derB, w_derI, w_derN, w_derS, w_eqSS, w_eqBB, w_neSS, w_neBB, w_eqBI, w_eqIN, w_neIN, w_eqNI, w_neNI, w_eqNN, w_neNN, w_NN, w_NI, w_IN])
  refine ⟨b, s, a, w, u, c, rfl, hb, ha, hu, hc, ?_⟩
  refine cut_is false ?_ ?_
  · (try simp only [dgU, w_lrg, dCut, dDGet, dDGet1, dDGet2, dDPut, dPairs, w_disp, w_newDF, w_newDT, dec_self, List.map_cons, List.map_nil, eqD_bl, eqD_int, eqD_str, eqD_tup, eqD_lst, eqDs_nil, eqDs_nc, eqDs_cn, eqDs_cons, reduceIte, Bool.false_eq_true, Bool.not_true, Bool.not_false, decide_true, decide_false, dVar, atD, setD, startD, dC, dOp, dAnd, dOr, dNot, dIf, dUn, dNil, dCons, dTup, dLst, rInD, rNotInD, dNoPart, dPart, dRev, dFld, DL.fieldsOf, dCB, dNext, dSeq, dBreak, dCont, dDrop, dRet, dRetN, dIfS, dNever, dgN, dgNil, dgCons, dgSub, dAsg, dPar, dPar3, putD, dSetF, dMt, rAppendD, rPopD, rExtendD, lsT, lsR, lsF, itemsR, dFrz, dCall, dCallK, dMeth, dMake, dFor, dIL, dIT, dIR1, dIR2, dIE, dIZ, wipeD, dYes, dLc, dDic0, updM_same, cxOf, asBl_bl, asInt_int, asTup_tup, isN, w_test, w_chain, w_andV, w_orV, w_notV, w_neg, w_sub, w_div, w_mod, w_pow, w_shl, w_shr, w_and, w_or, w_xor, w_lt, w_le, w_gt, w_ge, w_add, w_addS, w_addT, w_addL, w_addF, w_addR, w_mul, w_mulL, w_eq, w_ne, w_isN, w_isB, w_isntN, w_isntB, w_ix, w_isi, w_abs, w_max2, w_min2, w_max1L, w_min1L, w_sum, w_all, w_any, w_len, w_int, w_intB, w_divmod, w_sorted, w_list, w_bits, w_sl, w_slL, w_slF, w_slR, w_slT, w_newF, w_newT, w_eqL, w_eqT, w_eqR, w_neL, w_neT, w_neR, w_dgT, w_derL, w_derT, w_derB, w_derI, w_derN, w_derS, w_eqSS, w_eqBB, w_neSS, w_neBB, w_eqBI, w_eqIN, w_neIN, w_eqNI, w_neNI, w_eqNN, w_neNN, w_NN, w_NI, w_IN])
    refine ⟨_, rfl, trivial, ?_⟩
    simp only [isIntD]
    (try simp only [dgU, w_lrg, dCut, dDGet, dDGet1, dDGet2, dDPut, dPairs, w_disp, w_newDF, w_newDT, dec_self, List.map_cons, List.map_nil, eqD_bl, eqD_int, eqD_str, eqD_tup, eqD_lst, eqDs_nil, eqDs_nc, eqDs_cn, eqDs_cons, reduceIte, Bool.false_eq_true, Bool.not_true, Bool.not_false, decide_true, decide_false, dVar, atD, setD, startD, dC, dOp, dAnd, dOr, dNot, dIf, dUn, dNil, dCons, dTup, dLst, rInD, rNotInD, dNoPart, dPart, dRev, dFld, DL.fieldsOf, dCB, dNext, dSeq, dBreak, dCont, dDrop, dRet, dRetN, dIfS, dNever, dgN, dgNil, dgCons, dgSub, dAsg, dPar, dPar3, putD, dSetF, dMt, rAppendD, rPopD, rExtendD, lsT, lsR, lsF, itemsR, dFrz, dCall, dCallK, dMeth, dMake, dFor, dIL, dIT, dIR1, dIR2, dIE, dIZ, wipeD, dYes, dLc, dDic0, updM_same, cxOf, asBl_bl, asInt_int, asTup_tup, isN, w_test, w_chain, w_andV, w_orV, w_notV, w_neg, w_sub, w_div, w_mod, w_pow, w_shl, w_shr, w_and, w_or, w_xor, w_lt, w_le, w_gt, w_ge, w_add, w_addS, w_addT, w_addL, w_addF, w_addR, w_mul, w_mulL, w_eq, w_ne, w_isN, w_isB, w_isntN, w_isntB, w_ix, w_isi, w_abs, w_max2, w_min2, w_max1L, w_min1L, w_sum, w_all, w_any, w_len, w_int, w_intB, w_divmod, w_sorted, w_list, w_bits, w_sl, w_slL, w_slF, w_slR, w_slT, w_newF, w_newT, w_eqL, w_eqT, w_eqR, w_neL, w_neT, w_neR, w_dgT, w_derL, w_derT, w_derB, w_derI, w_derN, w_derS, w_eqSS, w_eqBB, w_neSS, w_neBB, w_eqBI, w_eqIN, w_neIN, w_eqNI, w_neNI, w_eqNN, w_neNN, w_NN, w_NI, w_IN])
    rw [decide_eq_false (show ¬ (n : Int) < 0 by omega)]
    (first | trivial | exact ⟨rfl, trivial⟩ | exact ⟨trivial, trivial⟩ | exact ⟨rfl, rfl⟩ | simp)
  (try simp only [dgU, w_lrg, dCut, dDGet, dDGet1, dDGet2, dDPut, dPairs, w_disp, w_newDF, w_newDT, dec_self, List.map_cons, List.map_nil, eqD_bl, eqD_int, eqD_str, eqD_tup, eqD_lst, eqDs_nil, eqDs_nc, eqDs_cn, eqDs_cons, reduceIte, Bool.false_eq_true, Bool.not_true, Bool.not_false, decide_true, decide_false, dVar, atD, setD, startD, dC, dOp, dAnd, dOr, dNot, dIf, dUn, dNil, dCons, dTup, dLst, rInD, rNotInD, dNoPart, dPart, dRev, dFld, DL.fieldsOf, dCB, dNext, dSeq, dBreak, dCont, dDrop, dRet, dRetN, dIfS, dNever, dgN, dgNil, dgCons, dgSub, dAsg, dPar, dPar3, putD, dSetF, dMt, rAppendD, rPopD, rExtendD, lsT, lsR, lsF, itemsR, dFrz, dCall, dCallK, dMeth, dMake, dFor, dIL, dIT, dIR1, dIR2, dIE, dIZ, wipeD, dYes, dLc, dDic0, updM_same, cxOf, asBl_bl, asInt_int, asTup_tup, isN, w_test, w_chain, w_andV, w_orV, w_notV, w_neg, w_sub, w_div, w_mod, w_pow, w_shl, w_shr, w_and, w_or, w_xor, w_lt, w_le, w_gt, w_ge, w_add, w_addS, w_addT, w_addL, w_addF, w_addR, w_mul, w_mulL, w_eq, w_ne, w_isN, w_isB, w_isntN, w_isntB, w_ix, w_isi, w_abs, w_max2, w_min2, w_max1L, w_min1L, w_sum, w_all, w_any, w_len, w_int, w_intB, w_divmod, w_sorted, w_list, w_bits, w_sl, w_slL, w_slF, w_slR, w_slT, w_newF, w_newT, w_eqL, w_eqT, w_eqR, w_neL, w_neT, w_neR, w_dgT, w_derL, w_derT, w_derB, w_derI, w_derN, w_derS, w_eqSS, w_eqBB, w_neSS, w_neBB, w_eqBI, w_eqIN, w_neIN, w_eqNI, w_neNI, w_eqNN, w_neNN, w_NN, w_NI, w_IN])
  refine ⟨b, s, a, w, u, c, rfl, hb, ha, hu, hc, fun r hr => ?_⟩
  have hQ := hQ r hr
  have hfin : IntMulOk (n : Int) c := mulOk_b (m := 4000) (n := 200) (by omega) (in_small hb hc) (by decide) (by decide)
  cases r with
  | none =>
    simp only [optD]
    (try simp only [dgU, w_lrg, dCut, dDGet, dDGet1, dDGet2, dDPut, dPairs, w_disp, w_newDF, w_newDT, dec_self, List.map_cons, List.map_nil, eqD_bl, eqD_int, eqD_str, eqD_tup, eqD_lst, eqDs_nil, eqDs_nc, eqDs_cn, eqDs_cons, reduceIte, Bool.false_eq_true, Bool.not_true, Bool.not_false, decide_true, decide_false, dVar, atD, setD, startD, dC, dOp, dAnd, dOr, dNot, dIf, dUn, dNil, dCons, dTup, dLst, rInD, rNotInD, dNoPart, dPart, dRev, dFld, DL.fieldsOf, dCB, dNext, dSeq, dBreak, dCont, dDrop, dRet, dRetN, dIfS, dNever, dgN, dgNil, dgCons, dgSub, dAsg, dPar, dPar3, putD, dSetF, dMt, rAppendD, rPopD, rExtendD, lsT, lsR, lsF, itemsR, dFrz, dCall, dCallK, dMeth, dMake, dFor, dIL, dIT, dIR1, dIR2, dIE, dIZ, wipeD, dYes, dLc, dDic0, updM_same, cxOf, asBl_bl, asInt_int, asTup_tup, isN, w_test, w_chain, w_andV, w_orV, w_notV, w_neg, w_sub, w_div, w_mod, w_pow, w_shl, w_shr, w_and, w_or, w_xor, w_lt, w_le, w_gt, w_ge, w_add, w_addS, w_addT, w_addL, w_addF, w_addR, w_mul, w_mulL, w_eq, w_ne, w_isN, w_isB, w_isntN, w_isntB, w_ix, w_isi, w_abs, w_max2, w_min2, w_max1L, w_min1L, w_sum, w_all, w_any, w_len, w_int, w_intB, w_divmod, w_sorted, w_list, w_bits, w_sl, w_slL, w_slF, w_slR, w_slT, w_newF, w_newT, w_eqL, w_eqT, w_eqR, w_neL, w_neT, w_neR, w_dgT, w_derL, w_derT, w_derB, w_derI, w_derN, w_derS, w_eqSS, w_eqBB, w_neSS, w_neBB, w_eqBI, w_eqIN, w_neIN, w_eqNI, w_neNI, w_eqNN, w_neNN, w_NN, w_NI, w_IN])
    refine cut_is true ?_ ?_
    · (try simp only [dgU, w_lrg, dCut, dDGet, dDGet1, dDGet2, dDPut, dPairs, w_disp, w_newDF, w_newDT, dec_self, List.map_cons, List.map_nil, eqD_bl, eqD_int, eqD_str, eqD_tup, eqD_lst, eqDs_nil, eqDs_nc, eqDs_cn, eqDs_cons, reduceIte, Bool.false_eq_true, Bool.not_true, Bool.not_false, decide_true, decide_false, dVar, atD, setD, startD, dC, dOp, dAnd, dOr, dNot, dIf, dUn, dNil, dCons, dTup, dLst, rInD, rNotInD, dNoPart, dPart, dRev, dFld, DL.fieldsOf, dCB, dNext, dSeq, dBreak, dCont, dDrop, dRet, dRetN, dIfS, dNever, dgN, dgNil, dgCons, dgSub, dAsg, dPar, dPar3, putD, dSetF, dMt, rAppendD, rPopD, rExtendD, lsT, lsR, lsF, itemsR, dFrz, dCall, dCallK, dMeth, dMake, dFor, dIL, dIT, dIR1, dIR2, dIE, dIZ, wipeD, dYes, dLc, dDic0, updM_same, cxOf, asBl_bl, asInt_int, asTup_tup, isN, w_test, w_chain, w_andV, w_orV, w_notV, w_neg, w_sub, w_div, w_mod, w_pow, w_shl, w_shr, w_and, w_or, w_xor, w_lt, w_le, w_gt, w_ge, w_add, w_addS, w_addT, w_addL, w_addF, w_addR, w_mul, w_mulL, w_eq, w_ne, w_isN, w_isB, w_isntN, w_isntB, w_ix, w_isi, w_abs, w_max2, w_min2, w_max1L, w_min1L, w_sum, w_all, w_any, w_len, w_int, w_intB, w_divmod, w_sorted, w_list, w_bits, w_sl, w_slL, w_slF, w_slR, w_slT, w_newF, w_newT, w_eqL, w_eqT, w_eqR, w_neL, w_neT, w_neR, w_dgT, w_derL, w_derT, w_derB, w_derI, w_derN, w_derS, w_eqSS, w_eqBB, w_neSS, w_neBB, w_eqBI, w_eqIN, w_neIN, w_eqNI, w_neNI, w_eqNN, w_neNN, w_NN, w_NI, w_IN])
      (first | trivial | exact ⟨rfl, trivial⟩ | exact ⟨trivial, trivial⟩ | exact ⟨rfl, rfl⟩ | simp)
    (try simp only [dgU, w_lrg, dCut, dDGet, dDGet1, dDGet2, dDPut, dPairs, w_disp, w_newDF, w_newDT, dec_self, List.map_cons, List.map_nil, eqD_bl, eqD_int, eqD_str, eqD_tup, eqD_lst, eqDs_nil, eqDs_nc, eqDs_cn, eqDs_cons, reduceIte, Bool.false_eq_true, Bool.not_true, Bool.not_false, decide_true, decide_false, dVar, atD, setD, startD, dC, dOp, dAnd, dOr, dNot, dIf, dUn, dNil, dCons, dTup, dLst, rInD, rNotInD, dNoPart, dPart, dRev, dFld, DL.fieldsOf, dCB, dNext, dSeq, dBreak, dCont, dDrop, dRet, dRetN, dIfS, dNever, dgN, dgNil, dgCons, dgSub, dAsg, dPar, dPar3, putD, dSetF, dMt, rAppendD, rPopD, rExtendD, lsT, lsR, lsF, itemsR, dFrz, dCall, dCallK, dMeth, dMake, dFor, dIL, dIT, dIR1, dIR2, dIE, dIZ, wipeD, dYes, dLc, dDic0, updM_same, cxOf, asBl_bl, asInt_int, asTup_tup, isN, w_test, w_chain, w_andV, w_orV, w_notV, w_neg, w_sub, w_div, w_mod, w_pow, w_shl, w_shr, w_and, w_or, w_xor, w_lt, w_le, w_gt, w_ge, w_add, w_addS, w_addT, w_addL, w_addF, w_addR, w_mul, w_mulL, w_eq, w_ne, w_isN, w_isB, w_isntN, w_isntB, w_ix, w_isi, w_abs, w_max2, w_min2, w_max1L, w_min1L, w_sum, w_all, w_any, w_len, w_int, w_intB, w_divmod, w_sorted, w_list, w_bits, w_sl, w_slL, w_slF, w_slR, w_slT, w_newF, w_newT, w_eqL, w_eqT, w_eqR, w_neL, w_neT, w_neR, w_dgT, w_derL, w_derT, w_derB, w_derI, w_derN, w_derS, w_eqSS, w_eqBB, w_neSS, w_neBB, w_eqBI, w_eqIN, w_neIN, w_eqNI, w_neNI, w_eqNN, w_neNN, w_NN, w_NI, w_IN])
    exact ⟨_, _, rfl, atI_nat (j := 0) rfl, _, _, rfl, atI_nat (j := 3) rfl, hfin, b, s, _, rfl, hb, endD_of hQ⟩
  | some k =>
    simp only [optD]
    (try simp only [dgU, w_lrg, dCut, dDGet, dDGet1, dDGet2, dDPut, dPairs, w_disp, w_newDF, w_newDT, dec_self, List.map_cons, List.map_nil, eqD_bl, eqD_int, eqD_str, eqD_tup, eqD_lst, eqDs_nil, eqDs_nc, eqDs_cn, eqDs_cons, reduceIte, Bool.false_eq_true, Bool.not_true, Bool.not_false, decide_true, decide_false, dVar, atD, setD, startD, dC, dOp, dAnd, dOr, dNot, dIf, dUn, dNil, dCons, dTup, dLst, rInD, rNotInD, dNoPart, dPart, dRev, dFld, DL.fieldsOf, dCB, dNext, dSeq, dBreak, dCont, dDrop, dRet, dRetN, dIfS, dNever, dgN, dgNil, dgCons, dgSub, dAsg, dPar, dPar3, putD, dSetF, dMt, rAppendD, rPopD, rExtendD, lsT, lsR, lsF, itemsR, dFrz, dCall, dCallK, dMeth, dMake, dFor, dIL, dIT, dIR1, dIR2, dIE, dIZ, wipeD, dYes, dLc, dDic0, updM_same, cxOf, asBl_bl, asInt_int, asTup_tup, isN, w_test, w_chain, w_andV, w_orV, w_notV, w_neg, w_sub, w_div, w_mod, w_pow, w_shl, w_shr, w_and, w_or, w_xor, w_lt, w_le, w_gt, w_ge, w_add, w_addS, w_addT, w_addL, w_addF, w_addR, w_mul, w_mulL, w_eq, w_ne, w_isN, w_isB, w_isntN, w_isntB, w_ix, w_isi, w_abs, w_max2, w_min2, w_max1L, w_min1L, w_sum, w_all, w_any, w_len, w_int, w_intB, w_divmod, w_sorted, w_list, w_bits, w_sl, w_slL, w_slF, w_slR, w_slT, w_newF, w_newT, w_eqL, w_eqT, w_eqR, w_neL, w_neT, w_neR, w_dgT, w_derL, w_derT, w_derB, w_derI, w_derN, w_derS, w_eqSS, w_eqBB, w_neSS, w_neBB, w_eqBI, w_eqIN, w_neIN, w_eqNI, w_neNI, w_eqNN, w_neNN, w_NN, w_NI, w_IN])
    refine cut_is (decide (n < k)) ?_ ?_
    · (try simp only [dgU, w_lrg, dCut, dDGet, dDGet1, dDGet2, dDPut, dPairs, w_disp, w_newDF, w_newDT, dec_self, List.map_cons, List.map_nil, eqD_bl, eqD_int, eqD_str, eqD_tup, eqD_lst, eqDs_nil, eqDs_nc, eqDs_cn, eqDs_cons, reduceIte, Bool.false_eq_true, Bool.not_true, Bool.not_false, decide_true, decide_false, dVar, atD, setD, startD, dC, dOp, dAnd, dOr, dNot, dIf, dUn, dNil, dCons, dTup, dLst, rInD, rNotInD, dNoPart, dPart, dRev, dFld, DL.fieldsOf, dCB, dNext, dSeq, dBreak, dCont, dDrop, dRet, dRetN, dIfS, dNever, dgN, dgNil, dgCons, dgSub, dAsg, dPar, dPar3, putD, dSetF, dMt, rAppendD, rPopD, rExtendD, lsT, lsR, lsF, itemsR, dFrz, dCall, dCallK, dMeth, dMake, dFor, dIL, dIT, dIR1, dIR2, dIE, dIZ, wipeD, dYes, dLc, dDic0, updM_same, cxOf, asBl_bl, asInt_int, asTup_tup, isN, w_test, w_chain, w_andV, w_orV, w_notV, w_neg, w_sub, w_div, w_mod, w_pow, w_shl, w_shr, w_and, w_or, w_xor, w_lt, w_le, w_gt, w_ge, w_add, w_addS, w_addT, w_addL, w_addF, w_addR, w_mul, w_mulL, w_eq, w_ne, w_isN, w_isB, w_isntN, w_isntB, w_ix, w_isi, w_abs, w_max2, w_min2, w_max1L, w_min1L, w_sum, w_all, w_any, w_len, w_int, w_intB, w_divmod, w_sorted, w_list, w_bits, w_sl, w_slL, w_slF, w_slR, w_slT, w_newF, w_newT, w_eqL, w_eqT, w_eqR, w_neL, w_neT, w_neR, w_dgT, w_derL, w_derT, w_derB, w_derI, w_derN, w_derS, w_eqSS, w_eqBB, w_neSS, w_neBB, w_eqBI, w_eqIN, w_neIN, w_eqNI, w_neNI, w_eqNN, w_neNN, w_NN, w_NI, w_IN])
      by_cases h : n < k
      · have : (n : Int) < k := by omega
        simp [h, this]
      · have : ¬ (n : Int) < k := by omega
        simp [h, this]
    replace hQ : Q (if n < k then .int (valZ b s a c n) else .non) M := hQ
    by_cases h : n < k
    · refine if_yes (decide_eq_true h) ?_
      rw [if_pos h] at hQ
      exact ⟨_, _, rfl, atI_nat (j := 0) rfl, _, _, rfl, atI_nat (j := 3) rfl, hfin, b, s, _, rfl, hb, endD_of hQ⟩
    · refine if_no (decide_eq_false h) ?_
      rw [if_neg h] at hQ
      exact endD_of hQ
def endD2 (b : Nat) (s : Bool) (a c : Int) : Option Nat → Dat
  | none => .non
  | some k => .int (valZ b s a c k)
abbrev sp_endv (C : Addr) : SpD := fun ds M Q => ∃ (b : Nat) (s : Bool) (a : Int) (w : Word) (u c : Int), ds = [kindD C b s, loopD a w u c] ∧ Wd b ∧ InK b s a ∧ InK b s u ∧ InK b s c ∧ ∀ r, FirstR b s a w u c r → Q (endD2 b s a c r) M
theorem ok_end_value (T : Txt K mg C_Kind) (F_check_loop : FnD P w K mg base 5 "check_loop" s_check_loop ["kind", "value"] (sp_chkl C_Kind)) (F_rounds_of : FnD P w K mg base 143 "rounds_of" s_rounds_of ["kind", "loop"] (sp_rof C_Kind)) (F_placed : FnD P w K mg base 2 "placed" s_placed ["kind", "n"] (sp_placed C_Kind)) : FnD P w K mg base 144 "end_value" s_end_value ["kind", "loop"] (sp_endv C_Kind) := by
  refine fn_mk T.h_end_value sc_end_value 3 rfl (by intro ds M Q h; first | (obtain ⟨rfl, _⟩ := h; rfl) | (obtain ⟨_, rfl, _⟩ := h; rfl) | (obtain ⟨_, _, rfl, _⟩ := h; rfl) | (obtain ⟨_, _, _, rfl, _⟩ := h; rfl) | (obtain ⟨_, _, _, _, rfl, _⟩ := h; rfl) | (obtain ⟨_, _, _, _, _, rfl, _⟩ := h; rfl) | (obtain ⟨_, _, _, _, _, _, rfl, _⟩ := h; rfl) | (obtain ⟨_, _, _, _, _, _, _, rfl, _⟩ := h; rfl) | (obtain ⟨_, _, _, _, _, _, _, _, rfl, _⟩ := h; rfl) | (obtain ⟨_, _, _, _, _, _, _, _, _, rfl, _⟩ := h; rfl) | (obtain ⟨_, _, _, _, _, _, _, _, _, _, rfl, _⟩ := h; rfl) | (obtain ⟨_, _, _, _, _, _, _, _, _, _, _, rfl, _⟩ := h; rfl) | (obtain ⟨_, _, _, _, _, _, _, _, _, _, _, _, rfl, _⟩ := h; rfl)) (fun f cdv A outer s H E hr => ⟨_, (dss_cons (ds_expr (de_call F_check_loop hr (da_cons (dv 0) (da_cons (dv 1) da_nil))))
    (dss_cons (ds_set (i := 2) sc_end_value.nd (de_call F_rounds_of hr (da_cons (dv 0) (da_cons (dv 1) da_nil))))
    (dss_one (ds_ret (de_if (dt_cmp od_is (dv 2) de_non) de_non (de_call F_placed hr (da_cons (dv 0) (da_cons (de_op (od_add false) (de_ix (dv 1) de_int) (de_op (od_mul false) (dv 2) (de_ix (dv 1) de_int))) da_nil)))))))), ?_⟩)
  rintro ds M Q ⟨b, s, a, w, u, c, rfl, hb, ha, hu, hc, hQ⟩
  (try simp only [dgU, w_lrg, dCut, dDGet, dDGet1, dDGet2, dDPut, dPairs, w_disp, w_newDF, w_newDT, dec_self, List.map_cons, List.map_nil, eqD_bl, eqD_int, eqD_str, eqD_tup, eqD_lst, eqDs_nil, eqDs_nc, eqDs_cn, eqDs_cons, reduceIte, Bool.false_eq_true, Bool.not_true, Bool.not_false, decide_true, decide_false, dVar, atD, setD, startD, dC, dOp, dAnd, dOr, dNot, dIf, dUn, dNil, dCons, dTup, dLst, rInD, rNotInD, dNoPart, dPart, dRev, dFld, DL.fieldsOf, dCB, dNext, dSeq, dBreak, dCont, dDrop, dRet, dRetN, dIfS, dNever, dgN, dgNil, dgCons, dgSub, dAsg, dPar, dPar3, putD, dSetF, dMt, rAppendD, rPopD, rExtendD, lsT, lsR, lsF, itemsR, dFrz, dCall, dCallK, dMeth, dMake, dFor, dIL, dIT, dIR1, dIR2, dIE, dIZ, wipeD, dYes, dLc, dDic0, updM_same, cxOf, asBl_bl, asInt_int, asTup_tup, isN, w_test, w_chain, w_andV, w_orV, w_notV, w_neg, w_sub, w_div, w_mod, w_pow, w_shl, w_shr, w_and, w_or, w_xor, w_lt, w_le, w_gt, w_ge, w_add, w_addS, w_addT, w_addL, w_addF, w_addR, w_mul, w_mulL, w_eq, w_ne, w_isN, w_isB, w_isntN, w_isntB, w_ix, w_isi, w_abs, w_max2, w_min2, w_max1L, w_min1L, w_sum, w_all, w_any, w_len, w_int, w_intB, w_divmod, w_sorted, w_list, w_bits, w_sl, w_slL, w_slF, w_slR, w_slT, w_newF, w_newT, w_eqL, w_eqT, w_eqR, w_neL, w_neT, w_neR, w_dgT, w_derL, w_derT, w_derB, w_derI, w_derN, w_derS, w_eqSS, w_eqBB, w_neSS, w_neBB, w_eqBI, w_eqIN, w_neIN, w_eqNI, w_neNI, w_eqNN, w_neNN, w_NN, w_NI, w_IN])
  refine ⟨b, s, a, w, u, c, rfl, hb, ha, hu, hc, b, s, a, w, u, c, rfl, hb, ha, hu, hc, fun r hr => ?_⟩
  have hQ := hQ r hr
  cases r with
  | none => exact endD_of hQ
  | some k =>
    have hk := first_bits hr
    have hs := pow_mono (show b ≤ 200 by omega)
    refine ⟨_, _, rfl, atI_nat (j := 0) rfl, _, _, rfl, atI_nat (j := 3) rfl, mulOk_b (m := 201) (n := 200) (by omega) (in_small hb hc) (by decide) (by decide), b, s, _, rfl, hb, endD_of hQ⟩
abbrev sp_chkr (C : Addr) : SpD := fun ds M Q => ∃ (b : Nat) (s : Bool) (a : Int) (w : Word) (u c : Int) (n : Nat), ds = [kindD C b s, loopD a w u c, .int (n : Nat)] ∧ Wd b ∧ InK b s a ∧ InK b s u ∧ InK b s c ∧ (∀ k, FirstR b s a w u c (some k) → n ≤ k) ∧ Q .non M
theorem ok_check_rounds (T : Txt K mg C_Kind) (F_rounds_of : FnD P w K mg base 143 "rounds_of" s_rounds_of ["kind", "loop"] (sp_rof C_Kind)) (F_is_integer : FnD P w K mg base 1 "is_integer" s_is_integer ["value"] (sp_isint C_Kind)) : FnD P w K mg base 144 "check_rounds" s_check_rounds ["kind", "loop", "n"] (sp_chkr C_Kind) := by
  refine fn_mk T.h_check_rounds sc_check_rounds 4 rfl (by intro ds M Q h; first | (obtain ⟨rfl, _⟩ := h; rfl) | (obtain ⟨_, rfl, _⟩ := h; rfl) | (obtain ⟨_, _, rfl, _⟩ := h; rfl) | (obtain ⟨_, _, _, rfl, _⟩ := h; rfl) | (obtain ⟨_, _, _, _, rfl, _⟩ := h; rfl) | (obtain ⟨_, _, _, _, _, rfl, _⟩ := h; rfl) | (obtain ⟨_, _, _, _, _, _, rfl, _⟩ := h; rfl) | (obtain ⟨_, _, _, _, _, _, _, rfl, _⟩ := h; rfl) | (obtain ⟨_, _, _, _, _, _, _, _, rfl, _⟩ := h; rfl) | (obtain ⟨_, _, _, _, _, _, _, _, _, rfl, _⟩ := h; rfl) | (obtain ⟨_, _, _, _, _, _, _, _, _, _, rfl, _⟩ := h; rfl) | (obtain ⟨_, _, _, _, _, _, _, _, _, _, _, rfl, _⟩ := h; rfl) | (obtain ⟨_, _, _, _, _, _, _, _, _, _, _, _, rfl, _⟩ := h; rfl)) (fun f cdv A outer s H E hr => ⟨_, (dss_cons (ds_set (i := 3) sc_check_rounds.nd (de_call F_rounds_of hr (da_cons (dv 0) (da_cons (dv 1) da_nil))))
    (dss_one (ds_if (dt_cut (dt_w (dw_or (dt_not (dt_val (de_call F_is_integer hr (da_cons (dv 2) da_nil)))) (dw_or (dt_cmp od_lt (dv 2) de_int) (dw_or1 (dt_w (dw_and (dt_cmp od_isnot (dv 3) de_non) (dw_and1 (dt_cmp od_gt (dv 2) (dv 3))))))))))
    (dss_one ds_never)
    dss_nil))), ?_⟩)
  rintro ds M Q ⟨b, s, a, w, u, c, n, rfl, hb, ha, hu, hc, hn, hQ⟩
  (try simp only [dgU, w_lrg, dCut, dDGet, dDGet1, dDGet2, dDPut, dPairs, w_disp, w_newDF, w_newDT, dec_self, List.map_cons, List.map_nil, eqD_bl, eqD_int, eqD_str, eqD_tup, eqD_lst, eqDs_nil, eqDs_nc, eqDs_cn, eqDs_cons, reduceIte, Bool.false_eq_true, Bool.not_true, Bool.not_false, decide_true, decide_false, dVar, atD, setD, startD, dC, dOp, dAnd, dOr, dNot, dIf, dUn, dNil, dCons, dTup, dLst, rInD, rNotInD, dNoPart, dPart, dRev, dFld, DL.fieldsOf, dCB, dNext, dSeq, dBreak, dCont, dDrop, dRet, dRetN, dIfS, dNever, dgN, dgNil, dgCons, dgSub, dAsg, dPar, dPar3, putD, dSetF, dMt, rAppendD, rPopD, rExtendD, lsT, lsR, lsF, itemsR, dFrz, dCall, dCallK, dMeth, dMake, dFor, dIL, dIT, dIR1, dIR2, dIE, dIZ, wipeD, dYes, dLc, dDic0, updM_same, cxOf, asBl_bl, asInt_int, asTup_tup, isN, w_test, w_chain, w_andV, w_orV, w_notV, w_neg, w_sub, w_div, w_mod, w_pow, w_shl, w_shr, w_and, w_or, w_xor, w_lt, w_le, w_gt, w_ge, w_add, w_addS, w_addT, w_addL, w_addF, w_addR, w_mul, w_mulL, w_eq, w_ne, w_isN, w_isB, w_isntN, w_isntB, w_ix, w_isi, w_abs, w_max2, w_min2, w_max1L, w_min1L, w_sum, w_all, w_any, w_len, w_int, w_intB, w_divmod, w_sorted, w_list, w_bits, w_sl, w_slL, w_slF, w_slR, w_slT, w_newF, w_newT, w_eqL, w_eqT, w_eqR, w_neL, w_neT, w_neR, w_dgT, w_derL, w_derT, w_derB, w_derI, w_derN, w_derS, w_eqSS, w_eqBB, w_neSS, w_neBB, w_eqBI, w_eqIN, w_neIN, w_eqNI, w_neNI, w_eqNN, w_neNN, w_NN, w_NI, w_IN])
  refine ⟨b, s, a, w, u, c, rfl, hb, ha, hu, hc, fun r hr => ?_⟩
  refine cut_is false ?_ ?_
  · (try simp only [dgU, w_lrg, dCut, dDGet, dDGet1, dDGet2, dDPut, dPairs, w_disp, w_newDF, w_newDT, dec_self, List.map_cons, List.map_nil, eqD_bl, eqD_int, eqD_str, eqD_tup, eqD_lst, eqDs_nil, eqDs_nc, eqDs_cn, eqDs_cons, reduceIte, Bool.false_eq_true, Bool.not_true, Bool.not_false, decide_true, decide_false, dVar, atD, setD, startD, dC, dOp, dAnd, dOr, dNot, dIf, dUn, dNil, dCons, dTup, dLst, rInD, rNotInD, dNoPart, dPart, dRev, dFld, DL.fieldsOf, dCB, dNext, dSeq, dBreak, dCont, dDrop, dRet, dRetN, dIfS, dNever, dgN, dgNil, dgCons, dgSub, dAsg, dPar, dPar3, putD, dSetF, dMt, rAppendD, rPopD, rExtendD, lsT, lsR, lsF, itemsR, dFrz, dCall, dCallK, dMeth, dMake, dFor, dIL, dIT, dIR1, dIR2, dIE, dIZ, wipeD, dYes, dLc, dDic0, updM_same, cxOf, asBl_bl, asInt_int, asTup_tup, isN, w_test, w_chain, w_andV, w_orV, w_notV, w_neg, w_sub, w_div, w_mod, w_pow, w_shl, w_shr, w_and, w_or, w_xor, w_lt, w_le, w_gt, w_ge, w_add, w_addS, w_addT, w_addL, w_addF, w_addR, w_mul, w_mulL, w_eq, w_ne, w_isN, w_isB, w_isntN, w_isntB, w_ix, w_isi, w_abs, w_max2, w_min2, w_max1L, w_min1L, w_sum, w_all, w_any, w_len, w_int, w_intB, w_divmod, w_sorted, w_list, w_bits, w_sl, w_slL, w_slF, w_slR, w_slT, w_newF, w_newT, w_eqL, w_eqT, w_eqR, w_neL, w_neT, w_neR, w_dgT, w_derL, w_derT, w_derB, w_derI, w_derN, w_derS, w_eqSS, w_eqBB, w_neSS, w_neBB, w_eqBI, w_eqIN, w_neIN, w_eqNI, w_neNI, w_eqNN, w_neNN, w_NN, w_NI, w_IN])
    refine ⟨_, rfl, trivial, ?_⟩
    simp only [isIntD]
    (try simp only [dgU, w_lrg, dCut, dDGet, dDGet1, dDGet2, dDPut, dPairs, w_disp, w_newDF, w_newDT, dec_self, List.map_cons, List.map_nil, eqD_bl, eqD_int, eqD_str, eqD_tup, eqD_lst, eqDs_nil, eqDs_nc, eqDs_cn, eqDs_cons, reduceIte, Bool.false_eq_true, Bool.not_true, Bool.not_false, decide_true, decide_false, dVar, atD, setD, startD, dC, dOp, dAnd, dOr, dNot, dIf, dUn, dNil, dCons, dTup, dLst, rInD, rNotInD, dNoPart, dPart, dRev, dFld, DL.fieldsOf, dCB, dNext, dSeq, dBreak, dCont, dDrop, dRet, dRetN, dIfS, dNever, dgN, dgNil, dgCons, dgSub, dAsg, dPar, dPar3, putD, dSetF, dMt, rAppendD, rPopD, rExtendD, lsT, lsR, lsF, itemsR, dFrz, dCall, dCallK, dMeth, dMake, dFor, dIL, dIT, dIR1, dIR2, dIE, dIZ, wipeD, dYes, dLc, dDic0, updM_same, cxOf, asBl_bl, asInt_int, asTup_tup, isN, w_test, w_chain, w_andV, w_orV, w_notV, w_neg, w_sub, w_div, w_mod, w_pow, w_shl, w_shr, w_and, w_or, w_xor, w_lt, w_le, w_gt, w_ge, w_add, w_addS, w_addT, w_addL, w_addF, w_addR, w_mul, w_mulL, w_eq, w_ne, w_isN, w_isB, w_isntN, w_isntB, w_ix, w_isi, w_abs, w_max2, w_min2, w_max1L, w_min1L, w_sum, w_all, w_any, w_len, w_int, w_intB, w_divmod, w_sorted, w_list, w_bits, w_sl, w_slL, w_slF, w_slR, w_slT, w_newF, w_newT, w_eqL, w_eqT, w_eqR, w_neL, w_neT, w_neR, w_dgT, w_derL, w_derT, w_derB, w_derI, w_derN, w_derS, w_eqSS, w_eqBB, w_neSS, w_neBB, w_eqBI, w_eqIN, w_neIN, w_eqNI, w_neNI, w_eqNN, w_neNN, w_NN, w_NI, w_IN])
    refine if_no (decide_eq_false (by omega)) ?_
    cases r with
    | none => (first | trivial | exact ⟨rfl, trivial⟩ | exact ⟨trivial, trivial⟩ | exact ⟨rfl, rfl⟩ | simp)
    | some k =>
      simp only [optD]
      (try simp only [dgU, w_lrg, dCut, dDGet, dDGet1, dDGet2, dDPut, dPairs, w_disp, w_newDF, w_newDT, dec_self, List.map_cons, List.map_nil, eqD_bl, eqD_int, eqD_str, eqD_tup, eqD_lst, eqDs_nil, eqDs_nc, eqDs_cn, eqDs_cons, reduceIte, Bool.false_eq_true, Bool.not_true, Bool.not_false, decide_true, decide_false, dVar, atD, setD, startD, dC, dOp, dAnd, dOr, dNot, dIf, dUn, dNil, dCons, dTup, dLst, rInD, rNotInD, dNoPart, dPart, dRev, dFld, DL.fieldsOf, dCB, dNext, dSeq, dBreak, dCont, dDrop, dRet, dRetN, dIfS, dNever, dgN, dgNil, dgCons, dgSub, dAsg, dPar, dPar3, putD, dSetF, dMt, rAppendD, rPopD, rExtendD, lsT, lsR, lsF, itemsR, dFrz, dCall, dCallK, dMeth, dMake, dFor, dIL, dIT, dIR1, dIR2, dIE, dIZ, wipeD, dYes, dLc, dDic0, updM_same, cxOf, asBl_bl, asInt_int, asTup_tup, isN, w_test, w_chain, w_andV, w_orV, w_notV, w_neg, w_sub, w_div, w_mod, w_pow, w_shl, w_shr, w_and, w_or, w_xor, w_lt, w_le, w_gt, w_ge, w_add, w_addS, w_addT, w_addL, w_addF, w_addR, w_mul, w_mulL, w_eq, w_ne, w_isN, w_isB, w_isntN, w_isntB, w_ix, w_isi, w_abs, w_max2, w_min2, w_max1L, w_min1L, w_sum, w_all, w_any, w_len, w_int, w_intB, w_divmod, w_sorted, w_list, w_bits, w_sl, w_slL, w_slF, w_slR, w_slT, w_newF, w_newT, w_eqL, w_eqT, w_eqR, w_neL, w_neT, w_neR, w_dgT, w_derL, w_derT, w_derB, w_derI, w_derN, w_derS, w_eqSS, w_eqBB, w_neSS, w_neBB, w_eqBI, w_eqIN, w_neIN, w_eqNI, w_neNI, w_eqNN, w_neNN, w_NN, w_NI, w_IN])
      have := hn k hr
      exact ⟨decide_eq_false (by omega), trivial⟩
  (try simp only [dgU, w_lrg, dCut, dDGet, dDGet1, dDGet2, dDPut, dPairs, w_disp, w_newDF, w_newDT, dec_self, List.map_cons, List.map_nil, eqD_bl, eqD_int, eqD_str, eqD_tup, eqD_lst, eqDs_nil, eqDs_nc, eqDs_cn, eqDs_cons, reduceIte, Bool.false_eq_true, Bool.not_true, Bool.not_false, decide_true, decide_false, dVar, atD, setD, startD, dC, dOp, dAnd, dOr, dNot, dIf, dUn, dNil, dCons, dTup, dLst, rInD, rNotInD, dNoPart, dPart, dRev, dFld, DL.fieldsOf, dCB, dNext, dSeq, dBreak, dCont, dDrop, dRet, dRetN, dIfS, dNever, dgN, dgNil, dgCons, dgSub, dAsg, dPar, dPar3, putD, dSetF, dMt, rAppendD, rPopD, rExtendD, lsT, lsR, lsF, itemsR, dFrz, dCall, dCallK, dMeth, dMake, dFor, dIL, dIT, dIR1, dIR2, dIE, dIZ, wipeD, dYes, dLc, dDic0, updM_same, cxOf, asBl_bl, asInt_int, asTup_tup, isN, w_test, w_chain, w_andV, w_orV, w_notV, w_neg, w_sub, w_div, w_mod, w_pow, w_shl, w_shr, w_and, w_or, w_xor, w_lt, w_le, w_gt, w_ge, w_add, w_addS, w_addT, w_addL, w_addF, w_addR, w_mul, w_mulL, w_eq, w_ne, w_isN, w_isB, w_isntN, w_isntB, w_ix, w_isi, w_abs, w_max2, w_min2, w_max1L, w_min1L, w_sum, w_all, w_any, w_len, w_int, w_intB, w_divmod, w_sorted, w_list, w_bits, w_sl, w_slL, w_slF, w_slR, w_slT, w_newF, w_newT, w_eqL, w_eqT, w_eqR, w_neL, w_neT, w_neR, w_dgT, w_derL, w_derT, w_derB, w_derI, w_derN, w_derS, w_eqSS, w_eqBB, w_neSS, w_neBB, w_eqBI, w_eqIN, w_neIN, w_eqNI, w_neNI, w_eqNN, w_neNN, w_NN, w_NI, w_IN])
  exact endD_of hQ
abbrev sp_wraps (C : Addr) : SpD := fun ds M Q => ∃ (b : Nat) (s : Bool) (a : Int) (w : Word) (u c : Int) (n : Nat), ds = [kindD C b s, loopD a w u c, .int (n : Nat)] ∧ Wd b ∧ InK b s a ∧ InK b s u ∧ InK b s c ∧ n < 2 ^ 4000 ∧ (∀ k, FirstR b s a w u c (some k) → n ≤ k) ∧ Q (.int (((a - lowZ b s + (n : Nat) * c) / 2 ^ b).natAbs : Nat)) M
theorem ok_wraps (T : Txt K mg C_Kind) (F_check_loop : FnD P w K mg base 5 "check_loop" s_check_loop ["kind", "value"] (sp_chkl C_Kind)) (F_check_rounds : FnD P w K mg base 144 "check_rounds" s_check_rounds ["kind", "loop", "n"] (sp_chkr C_Kind)) (F_size_of : FnD P w K mg base 1 "size_of" s_size_of ["kind"] (sp_size C_Kind)) (F_low_of : FnD P w K mg base 1 "low_of" s_low_of ["kind"] (sp_low C_Kind)) : FnD P w K mg base 145 "wraps" s_wraps ["kind", "loop", "n"] (sp_wraps C_Kind) := by
  refine fn_mk T.h_wraps sc_wraps 3 rfl (by intro ds M Q h; first | (obtain ⟨rfl, _⟩ := h; rfl) | (obtain ⟨_, rfl, _⟩ := h; rfl) | (obtain ⟨_, _, rfl, _⟩ := h; rfl) | (obtain ⟨_, _, _, rfl, _⟩ := h; rfl) | (obtain ⟨_, _, _, _, rfl, _⟩ := h; rfl) | (obtain ⟨_, _, _, _, _, rfl, _⟩ := h; rfl) | (obtain ⟨_, _, _, _, _, _, rfl, _⟩ := h; rfl) | (obtain ⟨_, _, _, _, _, _, _, rfl, _⟩ := h; rfl) | (obtain ⟨_, _, _, _, _, _, _, _, rfl, _⟩ := h; rfl) | (obtain ⟨_, _, _, _, _, _, _, _, _, rfl, _⟩ := h; rfl) | (obtain ⟨_, _, _, _, _, _, _, _, _, _, rfl, _⟩ := h; rfl) | (obtain ⟨_, _, _, _, _, _, _, _, _, _, _, rfl, _⟩ := h; rfl) | (obtain ⟨_, _, _, _, _, _, _, _, _, _, _, _, rfl, _⟩ := h; rfl)) (fun f cdv A outer s H E hr => ⟨_, (dss_cons (ds_expr (de_call F_check_loop hr (da_cons (dv 0) (da_cons (dv 1) da_nil))))
    (dss_cons (ds_expr (de_call F_check_rounds hr (da_cons (dv 0) (da_cons (dv 1) (da_cons (dv 2) da_nil)))))
    (dss_one (ds_ret (de_cb (cd_abs) (by rfl) T.b_abs (by decide +kernel) (da_cons (de_op od_div (de_op (od_add false) (de_op od_sub (de_ix (dv 1) de_int) (de_call F_low_of hr (da_cons (dv 0) da_nil))) (de_op (od_mul false) (dv 2) (de_ix (dv 1) de_int))) (de_call F_size_of hr (da_cons (dv 0) da_nil))) da_nil)))))), ?_⟩)
  rintro ds M Q ⟨b, s, a, w, u, c, n, rfl, hb, ha, hu, hc, hn, hk, hQ⟩
  (try simp only [dgU, w_lrg, dCut, dDGet, dDGet1, dDGet2, dDPut, dPairs, w_disp, w_newDF, w_newDT, dec_self, List.map_cons, List.map_nil, eqD_bl, eqD_int, eqD_str, eqD_tup, eqD_lst, eqDs_nil, eqDs_nc, eqDs_cn, eqDs_cons, reduceIte, Bool.false_eq_true, Bool.not_true, Bool.not_false, decide_true, decide_false, dVar, atD, setD, startD, dC, dOp, dAnd, dOr, dNot, dIf, dUn, dNil, dCons, dTup, dLst, rInD, rNotInD, dNoPart, dPart, dRev, dFld, DL.fieldsOf, dCB, dNext, dSeq, dBreak, dCont, dDrop, dRet, dRetN, dIfS, dNever, dgN, dgNil, dgCons, dgSub, dAsg, dPar, dPar3, putD, dSetF, dMt, rAppendD, rPopD, rExtendD, lsT, lsR, lsF, itemsR, dFrz, dCall, dCallK, dMeth, dMake, dFor, dIL, dIT, dIR1, dIR2, dIE, dIZ, wipeD, dYes, dLc, dDic0, updM_same, cxOf, asBl_bl, asInt_int, asTup_tup, isN, w_test, w_chain, w_andV, w_orV, w_notV, w_neg, w_sub, w_div, w_mod, w_pow, w_shl, w_shr, w_and, w_or, w_xor, w_lt, w_le, w_gt, w_ge, w_add, w_addS, w_addT, w_addL, w_addF, w_addR, w_mul, w_mulL, w_eq, w_ne, w_isN, w_isB, w_isntN, w_isntB, w_ix, w_isi, w_abs, w_max2, w_min2, w_max1L, w_min1L, w_sum, w_all, w_any, w_len, w_int, w_intB, w_divmod, w_sorted, w_list, w_bits, w_sl, w_slL, w_slF, w_slR, w_slT, w_newF, w_newT, w_eqL, w_eqT, w_eqR, w_neL, w_neT, w_neR, w_dgT, w_derL, w_derT, w_derB, w_derI, w_derN, w_derS, w_eqSS, w_eqBB, w_neSS, w_neBB, w_eqBI, w_eqIN, w_neIN, w_eqNI, w_neNI, w_eqNN, w_neNN, w_NN, w_NI, w_IN])
  have hp := two_pos b
  refine ⟨b, s, a, w, u, c, rfl, hb, ha, hu, hc, b, s, a, w, u, c, n, rfl, hb, ha, hu, hc, hk, _, _, rfl, atI_nat (j := 0) rfl, b, s, rfl, hb, _, _, rfl, atI_nat (j := 3) rfl, mulOk_b (m := 4000) (n := 200) (by omega) (in_small hb hc) (by decide) (by decide), b, s, rfl, hb, ?_⟩
  (try simp only [dgU, w_lrg, dCut, dDGet, dDGet1, dDGet2, dDPut, dPairs, w_disp, w_newDF, w_newDT, dec_self, List.map_cons, List.map_nil, eqD_bl, eqD_int, eqD_str, eqD_tup, eqD_lst, eqDs_nil, eqDs_nc, eqDs_cn, eqDs_cons, reduceIte, Bool.false_eq_true, Bool.not_true, Bool.not_false, decide_true, decide_false, dVar, atD, setD, startD, dC, dOp, dAnd, dOr, dNot, dIf, dUn, dNil, dCons, dTup, dLst, rInD, rNotInD, dNoPart, dPart, dRev, dFld, DL.fieldsOf, dCB, dNext, dSeq, dBreak, dCont, dDrop, dRet, dRetN, dIfS, dNever, dgN, dgNil, dgCons, dgSub, dAsg, dPar, dPar3, putD, dSetF, dMt, rAppendD, rPopD, rExtendD, lsT, lsR, lsF, itemsR, dFrz, dCall, dCallK, dMeth, dMake, dFor, dIL, dIT, dIR1, dIR2, dIE, dIZ, wipeD, dYes, dLc, dDic0, updM_same, cxOf, asBl_bl, asInt_int, asTup_tup, isN, w_test, w_chain, w_andV, w_orV, w_notV, w_neg, w_sub, w_div, w_mod, w_pow, w_shl, w_shr, w_and, w_or, w_xor, w_lt, w_le, w_gt, w_ge, w_add, w_addS, w_addT, w_addL, w_addF, w_addR, w_mul, w_mulL, w_eq, w_ne, w_isN, w_isB, w_isntN, w_isntB, w_ix, w_isi, w_abs, w_max2, w_min2, w_max1L, w_min1L, w_sum, w_all, w_any, w_len, w_int, w_intB, w_divmod, w_sorted, w_list, w_bits, w_sl, w_slL, w_slF, w_slR, w_slT, w_newF, w_newT, w_eqL, w_eqT, w_eqR, w_neL, w_neT, w_neR, w_dgT, w_derL, w_derT, w_derB, w_derI, w_derN, w_derS, w_eqSS, w_eqBB, w_neSS, w_neBB, w_eqBI, w_eqIN, w_neIN, w_eqNI, w_neNI, w_eqNN, w_neNN, w_NN, w_NI, w_IN])
  rw [fdivP hp]
  refine ⟨divOk_b hp (Int.lt_trans (small_bits hb) (by decide +kernel)), endD_of ?_⟩
  rw [← abs_nat] at hQ
  exact hQ
/-! ### drawn kinds, drawn values -/
abbrev sp_drawk (C : Addr) : SpD := fun ds M Q => ∃ (a : Addr) (m : Nat), ds = [.ref a, .int (m : Nat)] ∧ Src M a ∧ 1 ≤ m ∧ m ≤ 128 ∧ ∀ (b : Nat) (s : Bool) M', Wd b → b ≤ m → SrcTo a M M' → Q (.tup [kindD C b s, .int (lowZ b s), .int (2 ^ b)]) M'
theorem ok__law_draw_kind (T : Txt K mg C_Kind) (F_Kind_init : ClD P w K mg base 3 "Kind" C_Kind s_Kind_init ["self", "bits", "is_signed"] (sp_init C_Kind)) (F__law_next : FnD P w K mg base 1 "_law_next" s__law_next ["_law_source", "_law_many"] (sp_next)) : FnD P w K mg base 5 "_law_draw_kind" s__law_draw_kind ["_law_source", "_law_most"] (sp_drawk C_Kind) := by
  refine fn_mk T.h__law_draw_kind sc__law_draw_kind 5 rfl (by intro ds M Q h; first | (obtain ⟨rfl, _⟩ := h; rfl) | (obtain ⟨_, rfl, _⟩ := h; rfl) | (obtain ⟨_, _, rfl, _⟩ := h; rfl) | (obtain ⟨_, _, _, rfl, _⟩ := h; rfl) | (obtain ⟨_, _, _, _, rfl, _⟩ := h; rfl) | (obtain ⟨_, _, _, _, _, rfl, _⟩ := h; rfl) | (obtain ⟨_, _, _, _, _, _, rfl, _⟩ := h; rfl) | (obtain ⟨_, _, _, _, _, _, _, rfl, _⟩ := h; rfl) | (obtain ⟨_, _, _, _, _, _, _, _, rfl, _⟩ := h; rfl) | (obtain ⟨_, _, _, _, _, _, _, _, _, rfl, _⟩ := h; rfl) | (obtain ⟨_, _, _, _, _, _, _, _, _, _, rfl, _⟩ := h; rfl) | (obtain ⟨_, _, _, _, _, _, _, _, _, _, _, rfl, _⟩ := h; rfl) | (obtain ⟨_, _, _, _, _, _, _, _, _, _, _, _, rfl, _⟩ := h; rfl)) (fun f cdv A outer s H E hr => ⟨_, (dss_cons (ds_par (i := 2) (j := 3) sc__law_draw_kind.nd (da_cons (de_op (od_add false) de_int (de_call F__law_next hr (da_cons (dv 0) (da_cons (dv 1) da_nil)))) (da_cons (de_cmp (od_eq hr.units) (de_call F__law_next hr (da_cons (dv 0) (da_cons de_int da_nil))) de_int) da_nil)))
    (dss_cons (ds_set (i := 4) sc__law_draw_kind.nd (de_op od_shl de_int (dv 2)))
    (dss_one (ds_ret (de_tup (da_cons (de_make false F_Kind_init hr (da_cons (dv 2) (da_cons (dv 3) da_nil))) (da_cons (de_cut (de_if (dt_val (dv 3)) (de_op od_sub de_int (de_op od_div (dv 4) de_int)) de_int)) (da_cons (dv 4) da_nil)))))))), ?_⟩)
  rintro ds M Q ⟨a, m, rfl, hM, h1, h2, hQ⟩
  (try simp only [dgU, w_lrg, dCut, dDGet, dDGet1, dDGet2, dDPut, dPairs, w_disp, w_newDF, w_newDT, dec_self, List.map_cons, List.map_nil, eqD_bl, eqD_int, eqD_str, eqD_tup, eqD_lst, eqDs_nil, eqDs_nc, eqDs_cn, eqDs_cons, reduceIte, Bool.false_eq_true, Bool.not_true, Bool.not_false, decide_true, decide_false, dVar, atD, setD, startD, dC, dOp, dAnd, dOr, dNot, dIf, dUn, dNil, dCons, dTup, dLst, rInD, rNotInD, dNoPart, dPart, dRev, dFld, DL.fieldsOf, dCB, dNext, dSeq, dBreak, dCont, dDrop, dRet, dRetN, dIfS, dNever, dgN, dgNil, dgCons, dgSub, dAsg, dPar, dPar3, putD, dSetF, dMt, rAppendD, rPopD, rExtendD, lsT, lsR, lsF, itemsR, dFrz, dCall, dCallK, dMeth, dMake, dFor, dIL, dIT, dIR1, dIR2, dIE, dIZ, wipeD, dYes, dLc, dDic0, updM_same, cxOf, asBl_bl, asInt_int, asTup_tup, isN, w_test, w_chain, w_andV, w_orV, w_notV, w_neg, w_sub, w_div, w_mod, w_pow, w_shl, w_shr, w_and, w_or, w_xor, w_lt, w_le, w_gt, w_ge, w_add, w_addS, w_addT, w_addL, w_addF, w_addR, w_mul, w_mulL, w_eq, w_ne, w_isN, w_isB, w_isntN, w_isntB, w_ix, w_isi, w_abs, w_max2, w_min2, w_max1L, w_min1L, w_sum, w_all, w_any, w_len, w_int, w_intB, w_divmod, w_sorted, w_list, w_bits, w_sl, w_slL, w_slF, w_slR, w_slT, w_newF, w_newT, w_eqL, w_eqT, w_eqR, w_neL, w_neT, w_neR, w_dgT, w_derL, w_derT, w_derB, w_derI, w_derN, w_derS, w_eqSS, w_eqBB, w_neSS, w_neBB, w_eqBI, w_eqIN, w_neIN, w_eqNI, w_neNI, w_eqNN, w_neNN, w_NN, w_NI, w_IN])
  refine ⟨a, m, rfl, hM, by omega, Int.lt_trans (show (m : Int) < 200 by omega) (by decide +kernel), fun u M1 u0 u1 hs1 => ?_⟩
  (try simp only [dgU, w_lrg, dCut, dDGet, dDGet1, dDGet2, dDPut, dPairs, w_disp, w_newDF, w_newDT, dec_self, List.map_cons, List.map_nil, eqD_bl, eqD_int, eqD_str, eqD_tup, eqD_lst, eqDs_nil, eqDs_nc, eqDs_cn, eqDs_cons, reduceIte, Bool.false_eq_true, Bool.not_true, Bool.not_false, decide_true, decide_false, dVar, atD, setD, startD, dC, dOp, dAnd, dOr, dNot, dIf, dUn, dNil, dCons, dTup, dLst, rInD, rNotInD, dNoPart, dPart, dRev, dFld, DL.fieldsOf, dCB, dNext, dSeq, dBreak, dCont, dDrop, dRet, dRetN, dIfS, dNever, dgN, dgNil, dgCons, dgSub, dAsg, dPar, dPar3, putD, dSetF, dMt, rAppendD, rPopD, rExtendD, lsT, lsR, lsF, itemsR, dFrz, dCall, dCallK, dMeth, dMake, dFor, dIL, dIT, dIR1, dIR2, dIE, dIZ, wipeD, dYes, dLc, dDic0, updM_same, cxOf, asBl_bl, asInt_int, asTup_tup, isN, w_test, w_chain, w_andV, w_orV, w_notV, w_neg, w_sub, w_div, w_mod, w_pow, w_shl, w_shr, w_and, w_or, w_xor, w_lt, w_le, w_gt, w_ge, w_add, w_addS, w_addT, w_addL, w_addF, w_addR, w_mul, w_mulL, w_eq, w_ne, w_isN, w_isB, w_isntN, w_isntB, w_ix, w_isi, w_abs, w_max2, w_min2, w_max1L, w_min1L, w_sum, w_all, w_any, w_len, w_int, w_intB, w_divmod, w_sorted, w_list, w_bits, w_sl, w_slL, w_slF, w_slR, w_slT, w_newF, w_newT, w_eqL, w_eqT, w_eqR, w_neL, w_neT, w_neR, w_dgT, w_derL, w_derT, w_derB, w_derI, w_derN, w_derS, w_eqSS, w_eqBB, w_neSS, w_neBB, w_eqBI, w_eqIN, w_neIN, w_eqNI, w_neNI, w_eqNN, w_neNN, w_NN, w_NI, w_IN])
  obtain ⟨b, hbu, hbm, hb⟩ : ∃ b : Nat, 1 + u = (b : Nat) ∧ b ≤ m ∧ Wd b := ⟨(1 + u).toNat, by omega, by omega, by show 1 ≤ (1 + u).toNat; omega, by show (1 + u).toNat ≤ 128; omega⟩
  rw [hbu]
  refine ⟨a, 2, rfl, hs1.src, by decide, by decide +kernel, fun v M2 v0 v1 hs2 => ?_⟩
  (try simp only [dgU, w_lrg, dCut, dDGet, dDGet1, dDGet2, dDPut, dPairs, w_disp, w_newDF, w_newDT, dec_self, List.map_cons, List.map_nil, eqD_bl, eqD_int, eqD_str, eqD_tup, eqD_lst, eqDs_nil, eqDs_nc, eqDs_cn, eqDs_cons, reduceIte, Bool.false_eq_true, Bool.not_true, Bool.not_false, decide_true, decide_false, dVar, atD, setD, startD, dC, dOp, dAnd, dOr, dNot, dIf, dUn, dNil, dCons, dTup, dLst, rInD, rNotInD, dNoPart, dPart, dRev, dFld, DL.fieldsOf, dCB, dNext, dSeq, dBreak, dCont, dDrop, dRet, dRetN, dIfS, dNever, dgN, dgNil, dgCons, dgSub, dAsg, dPar, dPar3, putD, dSetF, dMt, rAppendD, rPopD, rExtendD, lsT, lsR, lsF, itemsR, dFrz, dCall, dCallK, dMeth, dMake, dFor, dIL, dIT, dIR1, dIR2, dIE, dIZ, wipeD, dYes, dLc, dDic0, updM_same, cxOf, asBl_bl, asInt_int, asTup_tup, isN, w_test, w_chain, w_andV, w_orV, w_notV, w_neg, w_sub, w_div, w_mod, w_pow, w_shl, w_shr, w_and, w_or, w_xor, w_lt, w_le, w_gt, w_ge, w_add, w_addS, w_addT, w_addL, w_addF, w_addR, w_mul, w_mulL, w_eq, w_ne, w_isN, w_isB, w_isntN, w_isntB, w_ix, w_isi, w_abs, w_max2, w_min2, w_max1L, w_min1L, w_sum, w_all, w_any, w_len, w_int, w_intB, w_divmod, w_sorted, w_list, w_bits, w_sl, w_slL, w_slF, w_slR, w_slT, w_newF, w_newT, w_eqL, w_eqT, w_eqR, w_neL, w_neT, w_neR, w_dgT, w_derL, w_derT, w_derB, w_derI, w_derN, w_derS, w_eqSS, w_eqBB, w_neSS, w_neBB, w_eqBI, w_eqIN, w_neIN, w_eqNI, w_neNI, w_eqNN, w_neNN, w_NN, w_NI, w_IN])
  generalize decide (v = 0) = s
  refine ⟨shl1 (by omega) (by omega), fun p hp => ⟨p, b, s, rfl, hb, updM_same, rfl, _, by rw [updM_updM]; exact updM_same, ?_⟩⟩
  rw [updM_updM, delM_updM hp, Int.toNat_natCast, Int.one_mul]
  refine cutE_is (.int (lowZ b s)) ?_ ?_
  · (try simp only [dgU, w_lrg, dCut, dDGet, dDGet1, dDGet2, dDPut, dPairs, w_disp, w_newDF, w_newDT, dec_self, List.map_cons, List.map_nil, eqD_bl, eqD_int, eqD_str, eqD_tup, eqD_lst, eqDs_nil, eqDs_nc, eqDs_cn, eqDs_cons, reduceIte, Bool.false_eq_true, Bool.not_true, Bool.not_false, decide_true, decide_false, dVar, atD, setD, startD, dC, dOp, dAnd, dOr, dNot, dIf, dUn, dNil, dCons, dTup, dLst, rInD, rNotInD, dNoPart, dPart, dRev, dFld, DL.fieldsOf, dCB, dNext, dSeq, dBreak, dCont, dDrop, dRet, dRetN, dIfS, dNever, dgN, dgNil, dgCons, dgSub, dAsg, dPar, dPar3, putD, dSetF, dMt, rAppendD, rPopD, rExtendD, lsT, lsR, lsF, itemsR, dFrz, dCall, dCallK, dMeth, dMake, dFor, dIL, dIT, dIR1, dIR2, dIE, dIZ, wipeD, dYes, dLc, dDic0, updM_same, cxOf, asBl_bl, asInt_int, asTup_tup, isN, w_test, w_chain, w_andV, w_orV, w_notV, w_neg, w_sub, w_div, w_mod, w_pow, w_shl, w_shr, w_and, w_or, w_xor, w_lt, w_le, w_gt, w_ge, w_add, w_addS, w_addT, w_addL, w_addF, w_addR, w_mul, w_mulL, w_eq, w_ne, w_isN, w_isB, w_isntN, w_isntB, w_ix, w_isi, w_abs, w_max2, w_min2, w_max1L, w_min1L, w_sum, w_all, w_any, w_len, w_int, w_intB, w_divmod, w_sorted, w_list, w_bits, w_sl, w_slL, w_slF, w_slR, w_slT, w_newF, w_newT, w_eqL, w_eqT, w_eqR, w_neL, w_neT, w_neR, w_dgT, w_derL, w_derT, w_derB, w_derI, w_derN, w_derS, w_eqSS, w_eqBB, w_neSS, w_neBB, w_eqBI, w_eqIN, w_neIN, w_eqNI, w_neNI, w_eqNN, w_neNN, w_NN, w_NI, w_IN])
    cases s with
    | true =>
      (try simp only [dgU, w_lrg, dCut, dDGet, dDGet1, dDGet2, dDPut, dPairs, w_disp, w_newDF, w_newDT, dec_self, List.map_cons, List.map_nil, eqD_bl, eqD_int, eqD_str, eqD_tup, eqD_lst, eqDs_nil, eqDs_nc, eqDs_cn, eqDs_cons, reduceIte, Bool.false_eq_true, Bool.not_true, Bool.not_false, decide_true, decide_false, dVar, atD, setD, startD, dC, dOp, dAnd, dOr, dNot, dIf, dUn, dNil, dCons, dTup, dLst, rInD, rNotInD, dNoPart, dPart, dRev, dFld, DL.fieldsOf, dCB, dNext, dSeq, dBreak, dCont, dDrop, dRet, dRetN, dIfS, dNever, dgN, dgNil, dgCons, dgSub, dAsg, dPar, dPar3, putD, dSetF, dMt, rAppendD, rPopD, rExtendD, lsT, lsR, lsF, itemsR, dFrz, dCall, dCallK, dMeth, dMake, dFor, dIL, dIT, dIR1, dIR2, dIE, dIZ, wipeD, dYes, dLc, dDic0, updM_same, cxOf, asBl_bl, asInt_int, asTup_tup, isN, w_test, w_chain, w_andV, w_orV, w_notV, w_neg, w_sub, w_div, w_mod, w_pow, w_shl, w_shr, w_and, w_or, w_xor, w_lt, w_le, w_gt, w_ge, w_add, w_addS, w_addT, w_addL, w_addF, w_addR, w_mul, w_mulL, w_eq, w_ne, w_isN, w_isB, w_isntN, w_isntB, w_ix, w_isi, w_abs, w_max2, w_min2, w_max1L, w_min1L, w_sum, w_all, w_any, w_len, w_int, w_intB, w_divmod, w_sorted, w_list, w_bits, w_sl, w_slL, w_slF, w_slR, w_slT, w_newF, w_newT, w_eqL, w_eqT, w_eqR, w_neL, w_neT, w_neR, w_dgT, w_derL, w_derT, w_derB, w_derI, w_derN, w_derS, w_eqSS, w_eqBB, w_neSS, w_neBB, w_eqBI, w_eqIN, w_neIN, w_eqNI, w_neNI, w_eqNN, w_neNN, w_NN, w_NI, w_IN])
      refine ⟨divOk_b (by decide) (by decide +kernel), ?_, trivial⟩
      rw [fdivP (by decide), two_succ hb.1, Int.mul_ediv_cancel_left _ (by decide)]
      simp [lowZ]
    | false => exact ⟨rfl, trivial⟩
  exact ⟨lit_len (n := 3) (by decide), endD_of (hQ b s _ hb hbm (hs1.trans hs2))⟩
abbrev sp_value : SpD := fun ds M Q => ∃ (a : Addr) (lo sz : Int), ds = [.ref a, .int lo, .int sz] ∧ Src M a ∧ 0 < sz ∧ sz < 2 ^ 9000 ∧ ∀ (x : Int) M', lo ≤ x → x < lo + sz → SrcTo a M M' → Q (.int x) M'
theorem ok__law_value (T : Txt K mg C_Kind) (F__law_one : FnD P w K mg base 2 "_law_one" s__law_one ["_law_source", "_law_some"] (sp_one)) (F__law_wide : FnD P w K mg base 2 "_law_wide" s__law_wide ["_law_source", "_law_m"] (sp_wide)) (F__law_next : FnD P w K mg base 1 "_law_next" s__law_next ["_law_source", "_law_many"] (sp_next)) : FnD P w K mg base 3 "_law_value" s__law_value ["_law_source", "_law_low", "_law_size"] (sp_value) := by
  refine fn_mk T.h__law_value sc__law_value 5 rfl (by intro ds M Q h; first | (obtain ⟨rfl, _⟩ := h; rfl) | (obtain ⟨_, rfl, _⟩ := h; rfl) | (obtain ⟨_, _, rfl, _⟩ := h; rfl) | (obtain ⟨_, _, _, rfl, _⟩ := h; rfl) | (obtain ⟨_, _, _, _, rfl, _⟩ := h; rfl) | (obtain ⟨_, _, _, _, _, rfl, _⟩ := h; rfl) | (obtain ⟨_, _, _, _, _, _, rfl, _⟩ := h; rfl) | (obtain ⟨_, _, _, _, _, _, _, rfl, _⟩ := h; rfl) | (obtain ⟨_, _, _, _, _, _, _, _, rfl, _⟩ := h; rfl) | (obtain ⟨_, _, _, _, _, _, _, _, _, rfl, _⟩ := h; rfl) | (obtain ⟨_, _, _, _, _, _, _, _, _, _, rfl, _⟩ := h; rfl) | (obtain ⟨_, _, _, _, _, _, _, _, _, _, _, rfl, _⟩ := h; rfl) | (obtain ⟨_, _, _, _, _, _, _, _, _, _, _, _, rfl, _⟩ := h; rfl)) (fun f cdv A outer s H E hr => ⟨_, (dss_cons (ds_set (i := 3) sc__law_value.nd (de_call F__law_one hr (da_cons (dv 0) (da_cons (de_lst false (da_cons (dv 1) (da_cons (de_op od_sub (de_op (od_add false) (dv 1) (dv 2)) de_int) (da_cons de_int (da_cons de_int (da_cons (de_neg de_int) (da_cons (de_op (od_add false) (dv 1) de_int) (da_cons (de_op od_sub (de_op (od_add false) (dv 1) (dv 2)) de_int) da_nil)))))))) da_nil))))
    (dss_cons (ds_set (i := 4) sc__law_value.nd (de_op (od_add false) (dv 1) (de_call F__law_wide hr (da_cons (dv 0) (da_cons (dv 2) da_nil)))))
    (dss_one (ds_ret (de_if (dt_cut (dt_w (dw_and (dt_chain od_le od_lt (dv 1) (dv 3) (de_op (od_add false) (dv 1) (dv 2))) (dw_and1 (dt_cmp (od_eq hr.units) (de_call F__law_next hr (da_cons (dv 0) (da_cons de_int da_nil))) de_int))))) (dv 3) (dv 4)))))), ?_⟩)
  rintro ds M Q ⟨a, lo, sz, rfl, hM, h1, h2, hQ⟩
  (try simp only [dgU, w_lrg, dCut, dDGet, dDGet1, dDGet2, dDPut, dPairs, w_disp, w_newDF, w_newDT, dec_self, List.map_cons, List.map_nil, eqD_bl, eqD_int, eqD_str, eqD_tup, eqD_lst, eqDs_nil, eqDs_nc, eqDs_cn, eqDs_cons, reduceIte, Bool.false_eq_true, Bool.not_true, Bool.not_false, decide_true, decide_false, dVar, atD, setD, startD, dC, dOp, dAnd, dOr, dNot, dIf, dUn, dNil, dCons, dTup, dLst, rInD, rNotInD, dNoPart, dPart, dRev, dFld, DL.fieldsOf, dCB, dNext, dSeq, dBreak, dCont, dDrop, dRet, dRetN, dIfS, dNever, dgN, dgNil, dgCons, dgSub, dAsg, dPar, dPar3, putD, dSetF, dMt, rAppendD, rPopD, rExtendD, lsT, lsR, lsF, itemsR, dFrz, dCall, dCallK, dMeth, dMake, dFor, dIL, dIT, dIR1, dIR2, dIE, dIZ, wipeD, dYes, dLc, dDic0, updM_same, cxOf, asBl_bl, asInt_int, asTup_tup, isN, w_test, w_chain, w_andV, w_orV, w_notV, w_neg, w_sub, w_div, w_mod, w_pow, w_shl, w_shr, w_and, w_or, w_xor, w_lt, w_le, w_gt, w_ge, w_add, w_addS, w_addT, w_addL, w_addF, w_addR, w_mul, w_mulL, w_eq, w_ne, w_isN, w_isB, w_isntN, w_isntB, w_ix, w_isi, w_abs, w_max2, w_min2, w_max1L, w_min1L, w_sum, w_all, w_any, w_len, w_int, w_intB, w_divmod, w_sorted, w_list, w_bits, w_sl, w_slL, w_slF, w_slR, w_slT, w_newF, w_newT, w_eqL, w_eqT, w_eqR, w_neL, w_neT, w_neR, w_dgT, w_derL, w_derT, w_derB, w_derI, w_derN, w_derS, w_eqSS, w_eqBB, w_neSS, w_neBB, w_eqBI, w_eqIN, w_neIN, w_eqNI, w_neNI, w_eqNN, w_neNN, w_NN, w_NI, w_IN])
  refine ⟨lit_len (n := 7) (by decide), a, _, rfl, hM, (by decide : 0 < 7), (by decide : 7 < 1000), fun d M1 hd hs1 => ?_⟩
  have hd2 : ∃ n : Int, d = .int n := by
    simp only [List.mem_cons, List.not_mem_nil, or_false] at hd
    rcases hd with rfl | rfl | rfl | rfl | rfl | rfl | rfl <;> exact ⟨_, rfl⟩
  obtain ⟨n, rfl⟩ := hd2
  refine ⟨a, sz, rfl, hs1.src, h1, h2, fun f M2 f0 f1 hs2 => ?_⟩
  (try simp only [dgU, w_lrg, dCut, dDGet, dDGet1, dDGet2, dDPut, dPairs, w_disp, w_newDF, w_newDT, dec_self, List.map_cons, List.map_nil, eqD_bl, eqD_int, eqD_str, eqD_tup, eqD_lst, eqDs_nil, eqDs_nc, eqDs_cn, eqDs_cons, reduceIte, Bool.false_eq_true, Bool.not_true, Bool.not_false, decide_true, decide_false, dVar, atD, setD, startD, dC, dOp, dAnd, dOr, dNot, dIf, dUn, dNil, dCons, dTup, dLst, rInD, rNotInD, dNoPart, dPart, dRev, dFld, DL.fieldsOf, dCB, dNext, dSeq, dBreak, dCont, dDrop, dRet, dRetN, dIfS, dNever, dgN, dgNil, dgCons, dgSub, dAsg, dPar, dPar3, putD, dSetF, dMt, rAppendD, rPopD, rExtendD, lsT, lsR, lsF, itemsR, dFrz, dCall, dCallK, dMeth, dMake, dFor, dIL, dIT, dIR1, dIR2, dIE, dIZ, wipeD, dYes, dLc, dDic0, updM_same, cxOf, asBl_bl, asInt_int, asTup_tup, isN, w_test, w_chain, w_andV, w_orV, w_notV, w_neg, w_sub, w_div, w_mod, w_pow, w_shl, w_shr, w_and, w_or, w_xor, w_lt, w_le, w_gt, w_ge, w_add, w_addS, w_addT, w_addL, w_addF, w_addR, w_mul, w_mulL, w_eq, w_ne, w_isN, w_isB, w_isntN, w_isntB, w_ix, w_isi, w_abs, w_max2, w_min2, w_max1L, w_min1L, w_sum, w_all, w_any, w_len, w_int, w_intB, w_divmod, w_sorted, w_list, w_bits, w_sl, w_slL, w_slF, w_slR, w_slT, w_newF, w_newT, w_eqL, w_eqT, w_eqR, w_neL, w_neT, w_neR, w_dgT, w_derL, w_derT, w_derB, w_derI, w_derN, w_derS, w_eqSS, w_eqBB, w_neSS, w_neBB, w_eqBI, w_eqIN, w_neIN, w_eqNI, w_neNI, w_eqNN, w_neNN, w_NN, w_NI, w_IN])
  have hs := hs1.trans hs2
  refine ⟨fun v M' => (v = true → lo ≤ n ∧ n < lo + sz) ∧ SrcTo a M M', ?_, ?_⟩
  · (try simp only [dgU, w_lrg, dCut, dDGet, dDGet1, dDGet2, dDPut, dPairs, w_disp, w_newDF, w_newDT, dec_self, List.map_cons, List.map_nil, eqD_bl, eqD_int, eqD_str, eqD_tup, eqD_lst, eqDs_nil, eqDs_nc, eqDs_cn, eqDs_cons, reduceIte, Bool.false_eq_true, Bool.not_true, Bool.not_false, decide_true, decide_false, dVar, atD, setD, startD, dC, dOp, dAnd, dOr, dNot, dIf, dUn, dNil, dCons, dTup, dLst, rInD, rNotInD, dNoPart, dPart, dRev, dFld, DL.fieldsOf, dCB, dNext, dSeq, dBreak, dCont, dDrop, dRet, dRetN, dIfS, dNever, dgN, dgNil, dgCons, dgSub, dAsg, dPar, dPar3, putD, dSetF, dMt, rAppendD, rPopD, rExtendD, lsT, lsR, lsF, itemsR, dFrz, dCall, dCallK, dMeth, dMake, dFor, dIL, dIT, dIR1, dIR2, dIE, dIZ, wipeD, dYes, dLc, dDic0, updM_same, cxOf, asBl_bl, asInt_int, asTup_tup, isN, w_test, w_chain, w_andV, w_orV, w_notV, w_neg, w_sub, w_div, w_mod, w_pow, w_shl, w_shr, w_and, w_or, w_xor, w_lt, w_le, w_gt, w_ge, w_add, w_addS, w_addT, w_addL, w_addF, w_addR, w_mul, w_mulL, w_eq, w_ne, w_isN, w_isB, w_isntN, w_isntB, w_ix, w_isi, w_abs, w_max2, w_min2, w_max1L, w_min1L, w_sum, w_all, w_any, w_len, w_int, w_intB, w_divmod, w_sorted, w_list, w_bits, w_sl, w_slL, w_slF, w_slR, w_slT, w_newF, w_newT, w_eqL, w_eqT, w_eqR, w_neL, w_neT, w_neR, w_dgT, w_derL, w_derT, w_derB, w_derI, w_derN, w_derS, w_eqSS, w_eqBB, w_neSS, w_neBB, w_eqBI, w_eqIN, w_neIN, w_eqNI, w_neNI, w_eqNN, w_neNN, w_NN, w_NI, w_IN])
    by_cases g : lo ≤ n
    · refine if_yes (decide_eq_true g) ?_
      by_cases g2 : n < lo + sz
      · refine if_yes (decide_eq_true g2) ⟨a, 3, rfl, hs.src, by decide, by decide +kernel, fun v M3 v0 v1 hs3 => ?_⟩
        (try simp only [dgU, w_lrg, dCut, dDGet, dDGet1, dDGet2, dDPut, dPairs, w_disp, w_newDF, w_newDT, dec_self, List.map_cons, List.map_nil, eqD_bl, eqD_int, eqD_str, eqD_tup, eqD_lst, eqDs_nil, eqDs_nc, eqDs_cn, eqDs_cons, reduceIte, Bool.false_eq_true, Bool.not_true, Bool.not_false, decide_true, decide_false, dVar, atD, setD, startD, dC, dOp, dAnd, dOr, dNot, dIf, dUn, dNil, dCons, dTup, dLst, rInD, rNotInD, dNoPart, dPart, dRev, dFld, DL.fieldsOf, dCB, dNext, dSeq, dBreak, dCont, dDrop, dRet, dRetN, dIfS, dNever, dgN, dgNil, dgCons, dgSub, dAsg, dPar, dPar3, putD, dSetF, dMt, rAppendD, rPopD, rExtendD, lsT, lsR, lsF, itemsR, dFrz, dCall, dCallK, dMeth, dMake, dFor, dIL, dIT, dIR1, dIR2, dIE, dIZ, wipeD, dYes, dLc, dDic0, updM_same, cxOf, asBl_bl, asInt_int, asTup_tup, isN, w_test, w_chain, w_andV, w_orV, w_notV, w_neg, w_sub, w_div, w_mod, w_pow, w_shl, w_shr, w_and, w_or, w_xor, w_lt, w_le, w_gt, w_ge, w_add, w_addS, w_addT, w_addL, w_addF, w_addR, w_mul, w_mulL, w_eq, w_ne, w_isN, w_isB, w_isntN, w_isntB, w_ix, w_isi, w_abs, w_max2, w_min2, w_max1L, w_min1L, w_sum, w_all, w_any, w_len, w_int, w_intB, w_divmod, w_sorted, w_list, w_bits, w_sl, w_slL, w_slF, w_slR, w_slT, w_newF, w_newT, w_eqL, w_eqT, w_eqR, w_neL, w_neT, w_neR, w_dgT, w_derL, w_derT, w_derB, w_derI, w_derN, w_derS, w_eqSS, w_eqBB, w_neSS, w_neBB, w_eqBI, w_eqIN, w_neIN, w_eqNI, w_neNI, w_eqNN, w_neNN, w_NN, w_NI, w_IN])
        exact ⟨fun _ => ⟨g, g2⟩, hs.trans hs3⟩
      · refine if_no (decide_eq_false g2) ⟨fun q => ?_, hs⟩
        cases q
    · refine if_no (decide_eq_false g) ⟨fun q => ?_, hs⟩
      cases q
  rintro v M' ⟨hv, hs⟩
  cases v with
  | true => exact endD_of (hQ _ _ (hv rfl).1 (hv rfl).2 hs)
  | false => exact endD_of (hQ _ _ (by omega) (by omega) hs)
abbrev sp_put : SpD := fun ds M Q => ∃ (n lo sz : Int), ds = [.int n, .int lo, .int sz] ∧ 0 < sz ∧ Q (.int (lo + (n - lo) % sz)) M
theorem ok__law_put (T : Txt K mg C_Kind) : FnD P w K mg base 1 "_law_put" s__law_put ["_law_n", "_law_low", "_law_size"] (sp_put) := by
  refine fn_mk T.h__law_put sc__law_put 3 rfl (by intro ds M Q h; first | (obtain ⟨rfl, _⟩ := h; rfl) | (obtain ⟨_, rfl, _⟩ := h; rfl) | (obtain ⟨_, _, rfl, _⟩ := h; rfl) | (obtain ⟨_, _, _, rfl, _⟩ := h; rfl) | (obtain ⟨_, _, _, _, rfl, _⟩ := h; rfl) | (obtain ⟨_, _, _, _, _, rfl, _⟩ := h; rfl) | (obtain ⟨_, _, _, _, _, _, rfl, _⟩ := h; rfl) | (obtain ⟨_, _, _, _, _, _, _, rfl, _⟩ := h; rfl) | (obtain ⟨_, _, _, _, _, _, _, _, rfl, _⟩ := h; rfl) | (obtain ⟨_, _, _, _, _, _, _, _, _, rfl, _⟩ := h; rfl) | (obtain ⟨_, _, _, _, _, _, _, _, _, _, rfl, _⟩ := h; rfl) | (obtain ⟨_, _, _, _, _, _, _, _, _, _, _, rfl, _⟩ := h; rfl) | (obtain ⟨_, _, _, _, _, _, _, _, _, _, _, _, rfl, _⟩ := h; rfl)) (fun f cdv A outer s H E hr => ⟨_, (dss_one (ds_ret (de_op (od_add false) (dv 1) (de_op od_mod (de_ct cd_int (by rfl) T.b_int (by decide +kernel) (da_cons (de_op od_sub (dv 0) (dv 1)) da_nil)) (dv 2))))), ?_⟩)
  rintro ds M Q ⟨n, lo, sz, rfl, h1, hQ⟩
  (try simp only [dgU, w_lrg, dCut, dDGet, dDGet1, dDGet2, dDPut, dPairs, w_disp, w_newDF, w_newDT, dec_self, List.map_cons, List.map_nil, eqD_bl, eqD_int, eqD_str, eqD_tup, eqD_lst, eqDs_nil, eqDs_nc, eqDs_cn, eqDs_cons, reduceIte, Bool.false_eq_true, Bool.not_true, Bool.not_false, decide_true, decide_false, dVar, atD, setD, startD, dC, dOp, dAnd, dOr, dNot, dIf, dUn, dNil, dCons, dTup, dLst, rInD, rNotInD, dNoPart, dPart, dRev, dFld, DL.fieldsOf, dCB, dNext, dSeq, dBreak, dCont, dDrop, dRet, dRetN, dIfS, dNever, dgN, dgNil, dgCons, dgSub, dAsg, dPar, dPar3, putD, dSetF, dMt, rAppendD, rPopD, rExtendD, lsT, lsR, lsF, itemsR, dFrz, dCall, dCallK, dMeth, dMake, dFor, dIL, dIT, dIR1, dIR2, dIE, dIZ, wipeD, dYes, dLc, dDic0, updM_same, cxOf, asBl_bl, asInt_int, asTup_tup, isN, w_test, w_chain, w_andV, w_orV, w_notV, w_neg, w_sub, w_div, w_mod, w_pow, w_shl, w_shr, w_and, w_or, w_xor, w_lt, w_le, w_gt, w_ge, w_add, w_addS, w_addT, w_addL, w_addF, w_addR, w_mul, w_mulL, w_eq, w_ne, w_isN, w_isB, w_isntN, w_isntB, w_ix, w_isi, w_abs, w_max2, w_min2, w_max1L, w_min1L, w_sum, w_all, w_any, w_len, w_int, w_intB, w_divmod, w_sorted, w_list, w_bits, w_sl, w_slL, w_slF, w_slR, w_slT, w_newF, w_newT, w_eqL, w_eqT, w_eqR, w_neL, w_neT, w_neR, w_dgT, w_derL, w_derT, w_derB, w_derI, w_derN, w_derS, w_eqSS, w_eqBB, w_neSS, w_neBB, w_eqBI, w_eqIN, w_neIN, w_eqNI, w_neNI, w_eqNN, w_neNN, w_NN, w_NI, w_IN])
  rw [fmodP h1]
  exact ⟨by omega, endD_of hQ⟩
/-! ### the law's loops -/
abbrev sp_holds : SpD := fun ds M Q => ∃ (x : Int) (w : Word) (u : Int), ds = [.int x, .str w.nm, .int u] ∧ Q (.bl (holdsZ w x u)) M
abbrev allWords : List Word := [.lt, .le, .gt, .ge, .eq, .ne]
abbrev wordsL (ws : List Word) : List Dat := ws.map fun w => .str w.nm
abbrev sp_words : SpD := fun ds M Q => ds = [] ∧ Q (.lst (wordsL allWords)) M
abbrev courseL (b : Nat) (s : Bool) (a c : Int) (n : Nat) : List Dat := (List.range n).map fun i => .int (valZ b s a c i)
/-- how long the course is: up to the first end, or all values -/
abbrev CourseOf (b : Nat) (s : Bool) (a : Int) (w : Word) (u c : Int) (n : Nat) (e : Bool) : Prop :=
  (∀ i, i < n → holdsZ w (valZ b s a c i) u = true) ∧ if e = true then n = 2 ^ b else FirstR b s a w u c (some n) ∧ n < 2 ^ b
abbrev sp_course : SpD := fun ds M Q => ∃ (b : Nat) (s : Bool) (a : Int) (w : Word) (u c : Int), ds = [.int (lowZ b s), .int (2 ^ b), loopD a w u c] ∧ Wd b ∧ b ≤ 10 ∧ InK b s a ∧ ∀ (n : Nat) (e : Bool), CourseOf b s a w u c n e → Q (.tup [.lst (courseL b s a c n), .bl e]) M
/-! ### a course, and the first round -/
theorem val_mod {b : Nat} {s : Bool} {a c : Int} (k : Nat) : valZ b s a c k = valZ b s a c (k % 2 ^ b) := by
  have hN : ((2 ^ b : Nat) : Int) = 2 ^ b := by simp
  refine placed_congr ⟨(k / 2 ^ b : Nat) * c, ?_⟩
  have q := Nat.mod_add_div k (2 ^ b)
  have q2 : (k : Int) = ((k % 2 ^ b : Nat) : Int) + 2 ^ b * ((k / 2 ^ b : Nat) : Int) := by
    rw [← hN, ← Int.natCast_mul, ← Int.natCast_add, q]
  generalize ((k % 2 ^ b : Nat) : Int) = y at *
  generalize ((k / 2 ^ b : Nat) : Int) = z at *
  rw [q2]
  grind
theorem course_first {b : Nat} {s : Bool} {a u c : Int} {w : Word} {n : Nat} {e : Bool} (h : CourseOf b s a w u c n e) : FirstR b s a w u c (if e = true then none else some n) := by
  obtain ⟨h1, h2⟩ := h
  cases e with
  | false => exact (by simpa using h2 : FirstR b s a w u c (some n) ∧ n < 2 ^ b).1
  | true =>
    have h2 : n = 2 ^ b := by simpa using h2
    intro k hk
    refine absurd (h1 (k % 2 ^ b) (by rw [h2]; exact Nat.mod_lt _ (Nat.two_pow_pos b))) ?_
    rw [← val_mod]
    have hk : holdsZ w (valZ b s a c k) u = false := hk
    rw [hk]
    exact Bool.false_ne_true
theorem course_le {b : Nat} {s : Bool} {a u c : Int} {w : Word} {n : Nat} {e : Bool} (h : CourseOf b s a w u c n e) {m : Nat} (hm : e = true ∨ m ≤ n) : ∀ k, FirstR b s a w u c (some k) → m ≤ k := by
  intro k hk
  have := first_uniq hk (course_first h)
  cases e with
  | true => cases this
  | false =>
    have e1 : k = n := by simpa using this
    rcases hm with g | g
    · cases g
    · omega
/-! ### how often a course wraps -/
/-- the quotient of round n -/
abbrev quoZ (b : Nat) (s : Bool) (a c : Int) (n : Nat) : Int := (a - lowZ b s + (n : Nat) * c) / 2 ^ b
abbrev Stays (b : Nat) (s : Bool) (x c : Int) : Prop := lowZ b s ≤ x + c ∧ x + c < lowZ b s + 2 ^ b
theorem quo_val {b : Nat} {s : Bool} {a c : Int} (n : Nat) : a + (n : Nat) * c = valZ b s a c n + 2 ^ b * quoZ b s a c n := by
  have h := Int.emod_add_mul_ediv (a - lowZ b s + (n : Nat) * c) (2 ^ b)
  have e : valZ b s a c n = lowZ b s + (a - lowZ b s + (n : Nat) * c) % 2 ^ b := by
    show lowZ b s + (a + (n : Nat) * c - lowZ b s) % 2 ^ b = _
    rw [show a + (n : Nat) * c - lowZ b s = a - lowZ b s + (n : Nat) * c by omega]
  rw [e]
  show _ = _ + 2 ^ b * ((a - lowZ b s + (n : Nat) * c) / 2 ^ b)
  omega
theorem quo_step {b : Nat} {s : Bool} {a c : Int} (hb : 1 ≤ b) (hc : InK b s c) (n : Nat) : quoZ b s a c (n + 1) = quoZ b s a c n + if Stays b s (valZ b s a c n) c then 0 else if 0 < c then 1 else -1 := by
  have hp := two_pos b
  have l := low_half b s hb
  have h := quo_val (b := b) (s := s) (a := a) (c := c) n
  obtain ⟨v0, v1⟩ := placed_inK b s (a + (n : Nat) * c)
  obtain ⟨c0, c1⟩ := hc
  generalize hv : valZ b s a c n = v at *
  have hv2 : placedZ b s (a + (n : Nat) * c) = v := hv
  rw [hv2] at v0 v1
  generalize quoZ b s a c n = q at *
  have e : a - lowZ b s + ((n + 1 : Nat) : Int) * c = (v - lowZ b s + c) + 2 ^ b * q := by
    rw [show ((n + 1 : Nat) : Int) = (n : Int) + 1 by omega, Int.add_mul, Int.one_mul]
    omega
  show (a - lowZ b s + ((n + 1 : Nat) : Int) * c) / 2 ^ b = _
  rw [e, Int.add_mul_ediv_left _ _ (show (2 : Int) ^ b ≠ 0 by omega)]
  by_cases g : Stays b s v c
  · have g0 := g.1
    have g1 := g.2
    rw [if_pos g, Int.ediv_eq_zero_of_lt (by omega) (by omega)]
    omega
  · rw [if_neg g]
    by_cases g2 : 0 < c
    · have g3 : lowZ b s + 2 ^ b ≤ v + c := by
        rcases Int.lt_or_le (v + c) (lowZ b s + 2 ^ b) with z | z
        · exact absurd ⟨by omega, z⟩ g
        · exact z
      rw [if_pos g2, show v - lowZ b s + c = (v - lowZ b s + c - 2 ^ b) + 2 ^ b * 1 by omega, Int.add_mul_ediv_left _ _ (show (2 : Int) ^ b ≠ 0 by omega), Int.ediv_eq_zero_of_lt (by omega) (by omega)]
      omega
    · have g3 : v + c < lowZ b s := by
        rcases Int.lt_or_le (v + c) (lowZ b s) with z | z
        · exact z
        · exact absurd ⟨z, by omega⟩ g
      rw [if_neg g2, show v - lowZ b s + c = (v - lowZ b s + c + 2 ^ b) + 2 ^ b * (-1) by omega, Int.add_mul_ediv_left _ _ (show (2 : Int) ^ b ≠ 0 by omega), Int.ediv_eq_zero_of_lt (by omega) (by omega)]
      omega
theorem quo_zero {b : Nat} {s : Bool} {a c : Int} (ha : InK b s a) : quoZ b s a c 0 = 0 := by
  obtain ⟨h0, h1⟩ := ha
  show (a - lowZ b s + ((0 : Nat) : Int) * c) / 2 ^ b = 0
  rw [show a - lowZ b s + ((0 : Nat) : Int) * c = a - lowZ b s by simp]
  exact Int.ediv_eq_zero_of_lt (by omega) (by omega)
theorem quo_sign {b : Nat} {s : Bool} {a c : Int} (hb : 1 ≤ b) (ha : InK b s a) (hc : InK b s c) : ∀ n : Nat, (0 < c → 0 ≤ quoZ b s a c n) ∧ (¬ 0 < c → quoZ b s a c n ≤ 0)
  | 0 => by
    rw [quo_zero ha]
    omega
  | n + 1 => by
    obtain ⟨h1, h2⟩ := quo_sign hb ha hc n
    rw [quo_step hb hc n]
    constructor
    · intro g
      have := h1 g
      rw [if_pos g]
      split <;> omega
    · intro g
      have := h2 g
      rw [if_neg g]
      split <;> omega
theorem wrap_step {b : Nat} {s : Bool} {a c : Int} (hb : 1 ≤ b) (ha : InK b s a) (hc : InK b s c) (n : Nat) : (quoZ b s a c (n + 1)).natAbs = (quoZ b s a c n).natAbs + if Stays b s (valZ b s a c n) c then 0 else 1 := by
  obtain ⟨h1, h2⟩ := quo_sign hb ha hc n
  rw [quo_step hb hc n]
  by_cases g : 0 < c
  · have := h1 g
    rw [if_pos g]
    split <;> omega
  · have := h2 g
    rw [if_neg g]
    split <;> omega
/-- over whole turns -/
theorem wrap_turns {b : Nat} {s : Bool} {a c : Int} (hb : 1 ≤ b) (ha : InK b s a) (hc : InK b s c) (q n : Nat) : (quoZ b s a c (2 ^ b * q + n)).natAbs = q * c.natAbs + (quoZ b s a c n).natAbs := by
  have hp := two_pos b
  obtain ⟨h1, h2⟩ := quo_sign hb ha hc n
  have e : quoZ b s a c (2 ^ b * q + n) = q * c + quoZ b s a c n := by
    show (a - lowZ b s + ((2 ^ b * q + n : Nat) : Int) * c) / 2 ^ b = _
    have : a - lowZ b s + ((2 ^ b * q + n : Nat) : Int) * c = (a - lowZ b s + (n : Nat) * c) + 2 ^ b * (q * c) := by
      rw [Int.natCast_add, Int.natCast_mul, show ((2 ^ b : Nat) : Int) = 2 ^ b by simp]
      grind
    rw [this, Int.add_mul_ediv_left _ _ (show (2 : Int) ^ b ≠ 0 by omega), Int.add_comm]
  rw [e]
  have e2 : ((q : Int) * c).natAbs = q * c.natAbs := by rw [Int.natAbs_mul, Int.natAbs_natCast]
  by_cases g : 0 < c
  · have h3 := h1 g
    have h4 : 0 ≤ (q : Int) * c := Int.mul_nonneg (by omega) (by omega)
    omega
  · have h3 := h2 g
    have h4 : (q : Int) * c ≤ 0 := Int.mul_nonpos_of_nonneg_of_nonpos (by omega) (by omega)
    omega
/-! ### the same data are equal -/
abbrev Flat (d : Dat) : Prop := d = .non ∨ ∃ i, d = .int i
theorem ne_same {d : Dat} {M : MH} {Q : VKD} (hd : Flat d) (h : Q (.bl false) M) : DL.rNeD d d M Q := by
  rcases hd with rfl | ⟨i, rfl⟩
  · (try simp only [dgU, w_lrg, dCut, dDGet, dDGet1, dDGet2, dDPut, dPairs, w_disp, w_newDF, w_newDT, dec_self, List.map_cons, List.map_nil, eqD_bl, eqD_int, eqD_str, eqD_tup, eqD_lst, eqDs_nil, eqDs_nc, eqDs_cn, eqDs_cons, reduceIte, Bool.false_eq_true, Bool.not_true, Bool.not_false, decide_true, decide_false, dVar, atD, setD, startD, dC, dOp, dAnd, dOr, dNot, dIf, dUn, dNil, dCons, dTup, dLst, rInD, rNotInD, dNoPart, dPart, dRev, dFld, DL.fieldsOf, dCB, dNext, dSeq, dBreak, dCont, dDrop, dRet, dRetN, dIfS, dNever, dgN, dgNil, dgCons, dgSub, dAsg, dPar, dPar3, putD, dSetF, dMt, rAppendD, rPopD, rExtendD, lsT, lsR, lsF, itemsR, dFrz, dCall, dCallK, dMeth, dMake, dFor, dIL, dIT, dIR1, dIR2, dIE, dIZ, wipeD, dYes, dLc, dDic0, updM_same, cxOf, asBl_bl, asInt_int, asTup_tup, isN, w_test, w_chain, w_andV, w_orV, w_notV, w_neg, w_sub, w_div, w_mod, w_pow, w_shl, w_shr, w_and, w_or, w_xor, w_lt, w_le, w_gt, w_ge, w_add, w_addS, w_addT, w_addL, w_addF, w_addR, w_mul, w_mulL, w_eq, w_ne, w_isN, w_isB, w_isntN, w_isntB, w_ix, w_isi, w_abs, w_max2, w_min2, w_max1L, w_min1L, w_sum, w_all, w_any, w_len, w_int, w_intB, w_divmod, w_sorted, w_list, w_bits, w_sl, w_slL, w_slF, w_slR, w_slT, w_newF, w_newT, w_eqL, w_eqT, w_eqR, w_neL, w_neT, w_neR, w_dgT, w_derL, w_derT, w_derB, w_derI, w_derN, w_derS, w_eqSS, w_eqBB, w_neSS, w_neBB, w_eqBI, w_eqIN, w_neIN, w_eqNI, w_neNI, w_eqNN, w_neNN, w_NN, w_NI, w_IN])
    exact h
  · (try simp only [dgU, w_lrg, dCut, dDGet, dDGet1, dDGet2, dDPut, dPairs, w_disp, w_newDF, w_newDT, dec_self, List.map_cons, List.map_nil, eqD_bl, eqD_int, eqD_str, eqD_tup, eqD_lst, eqDs_nil, eqDs_nc, eqDs_cn, eqDs_cons, reduceIte, Bool.false_eq_true, Bool.not_true, Bool.not_false, decide_true, decide_false, dVar, atD, setD, startD, dC, dOp, dAnd, dOr, dNot, dIf, dUn, dNil, dCons, dTup, dLst, rInD, rNotInD, dNoPart, dPart, dRev, dFld, DL.fieldsOf, dCB, dNext, dSeq, dBreak, dCont, dDrop, dRet, dRetN, dIfS, dNever, dgN, dgNil, dgCons, dgSub, dAsg, dPar, dPar3, putD, dSetF, dMt, rAppendD, rPopD, rExtendD, lsT, lsR, lsF, itemsR, dFrz, dCall, dCallK, dMeth, dMake, dFor, dIL, dIT, dIR1, dIR2, dIE, dIZ, wipeD, dYes, dLc, dDic0, updM_same, cxOf, asBl_bl, asInt_int, asTup_tup, isN, w_test, w_chain, w_andV, w_orV, w_notV, w_neg, w_sub, w_div, w_mod, w_pow, w_shl, w_shr, w_and, w_or, w_xor, w_lt, w_le, w_gt, w_ge, w_add, w_addS, w_addT, w_addL, w_addF, w_addR, w_mul, w_mulL, w_eq, w_ne, w_isN, w_isB, w_isntN, w_isntB, w_ix, w_isi, w_abs, w_max2, w_min2, w_max1L, w_min1L, w_sum, w_all, w_any, w_len, w_int, w_intB, w_divmod, w_sorted, w_list, w_bits, w_sl, w_slL, w_slF, w_slR, w_slT, w_newF, w_newT, w_eqL, w_eqT, w_eqR, w_neL, w_neT, w_neR, w_dgT, w_derL, w_derT, w_derB, w_derI, w_derN, w_derS, w_eqSS, w_eqBB, w_neSS, w_neBB, w_eqBI, w_eqIN, w_neIN, w_eqNI, w_neNI, w_eqNN, w_neNN, w_NN, w_NI, w_IN])
    exact h
theorem eq_same {d : Dat} {M : MH} {Q : VKD} (hd : Flat d) (h : Q (.bl true) M) : DL.rEqD d d M Q := by
  rcases hd with rfl | ⟨i, rfl⟩
  · (try simp only [dgU, w_lrg, dCut, dDGet, dDGet1, dDGet2, dDPut, dPairs, w_disp, w_newDF, w_newDT, dec_self, List.map_cons, List.map_nil, eqD_bl, eqD_int, eqD_str, eqD_tup, eqD_lst, eqDs_nil, eqDs_nc, eqDs_cn, eqDs_cons, reduceIte, Bool.false_eq_true, Bool.not_true, Bool.not_false, decide_true, decide_false, dVar, atD, setD, startD, dC, dOp, dAnd, dOr, dNot, dIf, dUn, dNil, dCons, dTup, dLst, rInD, rNotInD, dNoPart, dPart, dRev, dFld, DL.fieldsOf, dCB, dNext, dSeq, dBreak, dCont, dDrop, dRet, dRetN, dIfS, dNever, dgN, dgNil, dgCons, dgSub, dAsg, dPar, dPar3, putD, dSetF, dMt, rAppendD, rPopD, rExtendD, lsT, lsR, lsF, itemsR, dFrz, dCall, dCallK, dMeth, dMake, dFor, dIL, dIT, dIR1, dIR2, dIE, dIZ, wipeD, dYes, dLc, dDic0, updM_same, cxOf, asBl_bl, asInt_int, asTup_tup, isN, w_test, w_chain, w_andV, w_orV, w_notV, w_neg, w_sub, w_div, w_mod, w_pow, w_shl, w_shr, w_and, w_or, w_xor, w_lt, w_le, w_gt, w_ge, w_add, w_addS, w_addT, w_addL, w_addF, w_addR, w_mul, w_mulL, w_eq, w_ne, w_isN, w_isB, w_isntN, w_isntB, w_ix, w_isi, w_abs, w_max2, w_min2, w_max1L, w_min1L, w_sum, w_all, w_any, w_len, w_int, w_intB, w_divmod, w_sorted, w_list, w_bits, w_sl, w_slL, w_slF, w_slR, w_slT, w_newF, w_newT, w_eqL, w_eqT, w_eqR, w_neL, w_neT, w_neR, w_dgT, w_derL, w_derT, w_derB, w_derI, w_derN, w_derS, w_eqSS, w_eqBB, w_neSS, w_neBB, w_eqBI, w_eqIN, w_neIN, w_eqNI, w_neNI, w_eqNN, w_neNN, w_NN, w_NI, w_IN])
    exact h
  · (try simp only [dgU, w_lrg, dCut, dDGet, dDGet1, dDGet2, dDPut, dPairs, w_disp, w_newDF, w_newDT, dec_self, List.map_cons, List.map_nil, eqD_bl, eqD_int, eqD_str, eqD_tup, eqD_lst, eqDs_nil, eqDs_nc, eqDs_cn, eqDs_cons, reduceIte, Bool.false_eq_true, Bool.not_true, Bool.not_false, decide_true, decide_false, dVar, atD, setD, startD, dC, dOp, dAnd, dOr, dNot, dIf, dUn, dNil, dCons, dTup, dLst, rInD, rNotInD, dNoPart, dPart, dRev, dFld, DL.fieldsOf, dCB, dNext, dSeq, dBreak, dCont, dDrop, dRet, dRetN, dIfS, dNever, dgN, dgNil, dgCons, dgSub, dAsg, dPar, dPar3, putD, dSetF, dMt, rAppendD, rPopD, rExtendD, lsT, lsR, lsF, itemsR, dFrz, dCall, dCallK, dMeth, dMake, dFor, dIL, dIT, dIR1, dIR2, dIE, dIZ, wipeD, dYes, dLc, dDic0, updM_same, cxOf, asBl_bl, asInt_int, asTup_tup, isN, w_test, w_chain, w_andV, w_orV, w_notV, w_neg, w_sub, w_div, w_mod, w_pow, w_shl, w_shr, w_and, w_or, w_xor, w_lt, w_le, w_gt, w_ge, w_add, w_addS, w_addT, w_addL, w_addF, w_addR, w_mul, w_mulL, w_eq, w_ne, w_isN, w_isB, w_isntN, w_isntB, w_ix, w_isi, w_abs, w_max2, w_min2, w_max1L, w_min1L, w_sum, w_all, w_any, w_len, w_int, w_intB, w_divmod, w_sorted, w_list, w_bits, w_sl, w_slL, w_slF, w_slR, w_slT, w_newF, w_newT, w_eqL, w_eqT, w_eqR, w_neL, w_neT, w_neR, w_dgT, w_derL, w_derT, w_derB, w_derI, w_derN, w_derS, w_eqSS, w_eqBB, w_neSS, w_neBB, w_eqBI, w_eqIN, w_neIN, w_eqNI, w_neNI, w_eqNN, w_neNN, w_NN, w_NI, w_IN])
    exact h
theorem flat_opt (o : Option Nat) : Flat (optD o) := by
  cases o with
  | none => exact .inl rfl
  | some n => exact .inr ⟨_, rfl⟩
theorem flat_end {b : Nat} {s : Bool} {a c : Int} (o : Option Nat) : Flat (endD2 b s a c o) := by
  cases o with
  | none => exact .inl rfl
  | some n => exact .inr ⟨_, rfl⟩
theorem flat_rval {b : Nat} {s : Bool} {a c : Int} {n : Nat} (o : Option Nat) : Flat (rvalD b s a c n o) := by
  cases o with
  | none => exact .inr ⟨_, rfl⟩
  | some k =>
    show Flat (if n < k then _ else _)
    split
    · exact .inr ⟨_, rfl⟩
    · exact .inl rfl
/-! ### sums of floors -/
def fsum (a b m : Int) : Nat → Int
  | 0 => 0
  | n + 1 => fsum a b m n + (a * (n : Nat) + b) / m
def tri : Nat → Int
  | 0 => 0
  | n + 1 => tri n + n
theorem tri_half : ∀ n : Nat, ((n : Int) * ((n : Int) - 1)) / 2 = tri n
  | 0 => rfl
  | n + 1 => by
    have ih := tri_half n
    have e : ((n + 1 : Nat) : Int) * (((n + 1 : Nat) : Int) - 1) = (n : Int) * ((n : Int) - 1) + 2 * n := by
      rw [show ((n + 1 : Nat) : Int) = (n : Int) + 1 by omega]
      grind
    rw [e]
    show _ = tri n + n
    rw [← ih]
    generalize (n : Int) * ((n : Int) - 1) = z
    omega
theorem fsum_shift {a b m : Int} (hm : 0 < m) (x y : Int) : ∀ n : Nat, fsum (a + m * x) (b + m * y) m n = fsum a b m n + tri n * x + n * y
  | 0 => by simp [fsum, tri]
  | n + 1 => by
    show fsum (a + m * x) (b + m * y) m n + _ = fsum a b m n + _ + (tri n + n) * x + _
    rw [fsum_shift hm x y n]
    have e : (a + m * x) * (n : Nat) + (b + m * y) = (a * (n : Nat) + b) + m * (x * n + y) := by grind
    rw [e, Int.add_mul_ediv_left _ _ (show m ≠ 0 by omega), show ((n + 1 : Nat) : Int) = (n : Int) + 1 by omega]
    grind
def tsum (a m : Int) : Nat → Int → Int
  | 0, _ => 0
  | j + 1, y => tsum a m j y + (y - ((j : Int) + 1) * m) / a
theorem tsum_add {a m : Int} (ha : 0 < a) (y : Int) : ∀ j : Nat, tsum a m j (y + a) = tsum a m j y + j
  | 0 => rfl
  | j + 1 => by
    show tsum a m j (y + a) + _ = tsum a m j y + _ + _
    rw [tsum_add ha y j]
    have e : y + a - ((j : Int) + 1) * m = (y - ((j : Int) + 1) * m) + a * 1 := by omega
    rw [e, Int.add_mul_ediv_left _ _ (show a ≠ 0 by omega)]
    omega
theorem tsum_front {a m : Int} (y : Int) : ∀ j : Nat, tsum a m (j + 1) y = (y - m) / a + tsum a m j (y - m)
  | 0 => by
    show 0 + (y - (((0 : Nat) : Int) + 1) * m) / a = _ + 0
    rw [show y - (((0 : Nat) : Int) + 1) * m = y - m by simp]
    omega
  | j + 1 => by
    show tsum a m (j + 1) y + _ = _ + (tsum a m j (y - m) + _)
    rw [tsum_front y j]
    have e : y - (((j + 1 : Nat) : Int) + 1) * m = y - m - ((j : Int) + 1) * m := by
      rw [show ((j + 1 : Nat) : Int) = (j : Int) + 1 by omega]
      grind
    rw [e]
    exact Int.add_assoc _ _ _
theorem tsum_fsum {a m r : Int} : ∀ j : Nat, tsum a m j (m * (j : Nat) + r) = fsum m r a j
  | 0 => rfl
  | j + 1 => by
    rw [tsum_front]
    have e : m * ((j + 1 : Nat) : Int) + r - m = m * (j : Nat) + r := by
      rw [show ((j + 1 : Nat) : Int) = (j : Int) + 1 by omega]
      grind
    rw [e, tsum_fsum j]
    exact Int.add_comm _ _
theorem fsum_turn {a b m : Int} (ha : 0 < a) (hm : a < m) (hb0 : 0 ≤ b) (hb : b < m) : ∀ n : Nat, fsum a b m n = tsum a m ((a * (n : Nat) + b) / m).toNat (a * (n : Nat) + b)
  | 0 => by
    have : (a * ((0 : Nat) : Int) + b) / m = 0 := by
      rw [show a * ((0 : Nat) : Int) + b = b by simp]
      exact Int.ediv_eq_zero_of_lt hb0 hb
    rw [this]
    rfl
  | n + 1 => by
    show fsum a b m n + _ = _
    have h0 : 0 ≤ a * ((n : Nat) : Int) + b := by
      have := Int.mul_nonneg (show 0 ≤ a by omega) (Int.natCast_nonneg n)
      omega
    have hj : 0 ≤ (a * ((n : Nat) : Int) + b) / m := Int.ediv_nonneg h0 (by omega)
    have e : a * ((n + 1 : Nat) : Int) + b = (a * (n : Nat) + b) + a := by
      rw [show ((n + 1 : Nat) : Int) = (n : Int) + 1 by omega]
      grind
    rw [fsum_turn ha hm hb0 hb n, e]
    generalize hy : a * ((n : Nat) : Int) + b = y at *
    have d1 := Int.emod_add_mul_ediv y m
    have d2 := Int.emod_nonneg y (show m ≠ 0 by omega)
    have d3 := Int.emod_lt_of_pos y (show 0 < m by omega)
    obtain ⟨j, hj⟩ := Int.eq_ofNat_of_zero_le hj
    rw [hj] at d1
    have hd : (y + a) / m = j ∨ (y + a) / m = j + 1 := by
      rcases Int.lt_or_le (y % m + a) m with g | g
      · left
        rw [show y + a = (y % m + a) + m * j by omega, Int.add_mul_ediv_left _ _ (show m ≠ 0 by omega), Int.ediv_eq_zero_of_lt (by omega) g]
        omega
      · right
        rw [show y + a = (y % m + a - m) + m * (j + 1) by rw [Int.mul_add]; omega, Int.add_mul_ediv_left _ _ (show m ≠ 0 by omega), Int.ediv_eq_zero_of_lt (by omega) (by omega)]
        omega
    rw [hj, Int.toNat_natCast]
    rcases hd with hd | hd
    · rw [hd, Int.toNat_natCast, tsum_add ha]
    · rw [hd, show ((j : Int) + 1).toNat = j + 1 by omega]
      show _ = tsum a m j (y + a) + _
      rw [tsum_add ha]
      have f1 := Int.emod_add_mul_ediv (y + a) m
      have f2 := Int.emod_nonneg (y + a) (show m ≠ 0 by omega)
      rw [hd] at f1
      have : (y + a - ((j : Int) + 1) * m) / a = 0 := by
        refine Int.ediv_eq_zero_of_lt ?_ ?_
        · rw [Int.mul_comm]
          omega
        · have : ((j : Int) + 1) * m = m * j + m := by grind
          omega
      omega
theorem fsum_flip {a b m : Int} (ha : 0 < a) (hm : a < m) (hb0 : 0 ≤ b) (hb : b < m) (n : Nat) : fsum a b m n = fsum m ((a * (n : Nat) + b) % m) a ((a * (n : Nat) + b) / m).toNat := by
  rw [fsum_turn ha hm hb0 hb n, ← tsum_fsum]
  congr 1
  have h0 : 0 ≤ a * ((n : Nat) : Int) + b := by
    have := Int.mul_nonneg (show 0 ≤ a by omega) (Int.natCast_nonneg n)
    omega
  have hj : 0 ≤ (a * ((n : Nat) : Int) + b) / m := Int.ediv_nonneg h0 (by omega)
  rw [Int.toNat_of_nonneg hj]
  have := Int.emod_add_mul_ediv (a * ((n : Nat) : Int) + b) m
  omega
theorem fsum_zero {b m : Int} (h : b / m = 0) : ∀ n : Nat, fsum 0 b m n = 0
  | 0 => rfl
  | n + 1 => by
    show fsum 0 b m n + _ = 0
    rw [fsum_zero h n]
    simp [h]
abbrev sp_fsum : SpD := fun ds M Q => ∃ (n : Nat) (a b m : Int), ds = [.int (n : Nat), .int a, .int b, .int m] ∧ n < 2 ^ 1000 ∧ 0 ≤ a ∧ a < m ∧ m < 2 ^ 200 ∧ b.natAbs < 2 ^ 200 ∧ Q (.int (fsum a b m n)) M
theorem ok_floor_sum (T : Txt K mg C_Kind) : FnD P w K mg base 1 "floor_sum" s_floor_sum ["many", "a", "b", "size"] (sp_fsum) := by
  refine fn_mk T.h_floor_sum sc_floor_sum 6 rfl (by intro ds M Q h; first | (obtain ⟨rfl, _⟩ := h; rfl) | (obtain ⟨_, rfl, _⟩ := h; rfl) | (obtain ⟨_, _, rfl, _⟩ := h; rfl) | (obtain ⟨_, _, _, rfl, _⟩ := h; rfl) | (obtain ⟨_, _, _, _, rfl, _⟩ := h; rfl) | (obtain ⟨_, _, _, _, _, rfl, _⟩ := h; rfl) | (obtain ⟨_, _, _, _, _, _, rfl, _⟩ := h; rfl) | (obtain ⟨_, _, _, _, _, _, _, rfl, _⟩ := h; rfl) | (obtain ⟨_, _, _, _, _, _, _, _, rfl, _⟩ := h; rfl) | (obtain ⟨_, _, _, _, _, _, _, _, _, rfl, _⟩ := h; rfl) | (obtain ⟨_, _, _, _, _, _, _, _, _, _, rfl, _⟩ := h; rfl) | (obtain ⟨_, _, _, _, _, _, _, _, _, _, _, rfl, _⟩ := h; rfl) | (obtain ⟨_, _, _, _, _, _, _, _, _, _, _, _, rfl, _⟩ := h; rfl)) (fun f cdv A outer s H E hr => ⟨_, (dss_cons (ds_set (i := 4) sc_floor_sum.nd (de_op (od_mul false) (dv 0) (de_op od_div (dv 2) (dv 3))))
    (dss_cons (ds_set (i := 2) sc_floor_sum.nd (de_op od_mod (dv 2) (dv 3)))
    (dss_cons (ds_while (dt_cut (dt_w (dw_and (dt_cmp od_gt (dv 0) de_int) (dw_and1 (dt_cmp od_gt (dv 1) de_int)))))
    (dss_cons (ds_set (i := 4) sc_floor_sum.nd (de_op (od_add false) (de_op (od_add false) (dv 4) (de_op (od_mul false) (de_op od_div (de_op (od_mul false) (dv 0) (de_op od_sub (dv 0) de_int)) de_int) (de_op od_div (dv 1) (dv 3)))) (de_op (od_mul false) (dv 0) (de_op od_div (dv 2) (dv 3)))))
    (dss_cons (ds_par (i := 1) (j := 2) sc_floor_sum.nd (da_cons (de_op od_mod (dv 1) (dv 3)) (da_cons (de_op od_mod (dv 2) (dv 3)) da_nil)))
    (dss_cons (ds_set (i := 5) sc_floor_sum.nd (de_op (od_add false) (de_op (od_mul false) (dv 1) (dv 0)) (dv 2)))
    (dss_cons (ds_par (i := 0) (j := 2) sc_floor_sum.nd (da_cons (de_op od_div (dv 5) (dv 3)) (da_cons (de_op od_mod (dv 5) (dv 3)) da_nil)))
    (dss_one (ds_par (i := 1) (j := 3) sc_floor_sum.nd (da_cons (dv 3) (da_cons (dv 1) da_nil)))))))))
    (dss_one (ds_ret (dv 4)))))), ?_⟩)
  rintro ds M Q ⟨n, a, b, m, rfl, hn, ha, hm, hm2, hb, hQ⟩
  have hp : 0 < m := by omega
  (try simp only [dgU, w_lrg, dCut, dDGet, dDGet1, dDGet2, dDPut, dPairs, w_disp, w_newDF, w_newDT, dec_self, List.map_cons, List.map_nil, eqD_bl, eqD_int, eqD_str, eqD_tup, eqD_lst, eqDs_nil, eqDs_nc, eqDs_cn, eqDs_cons, reduceIte, Bool.false_eq_true, Bool.not_true, Bool.not_false, decide_true, decide_false, dVar, atD, setD, startD, dC, dOp, dAnd, dOr, dNot, dIf, dUn, dNil, dCons, dTup, dLst, rInD, rNotInD, dNoPart, dPart, dRev, dFld, DL.fieldsOf, dCB, dNext, dSeq, dBreak, dCont, dDrop, dRet, dRetN, dIfS, dNever, dgN, dgNil, dgCons, dgSub, dAsg, dPar, dPar3, putD, dSetF, dMt, rAppendD, rPopD, rExtendD, lsT, lsR, lsF, itemsR, dFrz, dCall, dCallK, dMeth, dMake, dFor, dIL, dIT, dIR1, dIR2, dIE, dIZ, wipeD, dYes, dLc, dDic0, updM_same, cxOf, asBl_bl, asInt_int, asTup_tup, isN, w_test, w_chain, w_andV, w_orV, w_notV, w_neg, w_sub, w_div, w_mod, w_pow, w_shl, w_shr, w_and, w_or, w_xor, w_lt, w_le, w_gt, w_ge, w_add, w_addS, w_addT, w_addL, w_addF, w_addR, w_mul, w_mulL, w_eq, w_ne, w_isN, w_isB, w_isntN, w_isntB, w_ix, w_isi, w_abs, w_max2, w_min2, w_max1L, w_min1L, w_sum, w_all, w_any, w_len, w_int, w_intB, w_divmod, w_sorted, w_list, w_bits, w_sl, w_slL, w_slF, w_slR, w_slT, w_newF, w_newT, w_eqL, w_eqT, w_eqR, w_neL, w_neT, w_neR, w_dgT, w_derL, w_derT, w_derB, w_derI, w_derN, w_derS, w_eqSS, w_eqBB, w_neSS, w_neBB, w_eqBI, w_eqIN, w_neIN, w_eqNI, w_neNI, w_eqNN, w_neNN, w_NN, w_NI, w_IN])
  have h9 : ∀ z : Int, z < 2 ^ 200 → z < 2 ^ 9000 := fun z h => Int.lt_trans h (by decide +kernel)
  have hb1 := Int.emod_nonneg b (show m ≠ 0 by omega)
  have hb2 := Int.emod_lt_of_pos b hp
  have hbm := Int.emod_add_mul_ediv b m
  have hbq : (b / m).natAbs ≤ b.natAbs + 1 := by
    rcases Int.lt_or_le b 0 with g | g
    · have h1 : b / m < 0 := Int.ediv_neg_of_neg_of_pos g hp
      have h2 : b ≤ b / m := by
        have : b / m * 1 ≥ b / m * m := Int.mul_le_mul_of_nonpos_left (by omega) (by omega)
        have h3 := Int.le_ediv_iff_mul_le (a := b) (b := b) hp
        refine h3.mpr ?_
        have : b * m ≤ b * 1 := Int.mul_le_mul_of_nonpos_left (by omega) (by omega)
        omega
      omega
    · have h1 := Int.ediv_nonneg g (show 0 ≤ m by omega)
      have h2 := Int.ediv_le_self m g
      omega
  rw [fmodP hp, fdivP hp]
  refine ⟨divOk_b hp (h9 m hm2), mulOk_b (m := 1000) (n := 201) (by omega) (by omega) (by decide) (by decide), by omega, ?_⟩
  have hT : fsum a b m n = (n : Int) * (b / m) + fsum a (b % m) m n := by
    have := fsum_shift (a := a) (b := b % m) hp 0 (b / m) n
    rw [show b % m + m * (b / m) = b by omega, Int.mul_zero, Int.add_zero, Int.mul_zero, Int.add_zero] at this
    omega
  refine ⟨fun z ρ M' => M' = M ∧ ∃ (n2 : Nat) (a2 b2 m2 f : Int) (x5 : Option Dat), ρ = [some (.int (n2 : Nat)), some (.int a2), some (.int b2), some (.int m2), some (.int f), x5] ∧ n2 < 2 ^ 1000 ∧ 0 ≤ a2 ∧ a2 < 2 ^ 200 ∧ 0 ≤ b2 ∧ b2 < 2 ^ 200 ∧ 0 ≤ m2 ∧ m2 < 2 ^ 200 ∧ (0 < m2 ∨ n2 = 0) ∧ (a2 = 0 → b2 < m2 ∨ n2 = 0) ∧ f + fsum a2 b2 m2 n2 = fsum a b m n ∧ z = m2.toNat, ⟨m.toNat, rfl, n, a, b % m, m, _, none, rfl, hn, ha, by omega, hb1, by omega, by omega, hm2, .inl hp, fun _ => .inl hb2, hT.symm, rfl⟩, ?_⟩
  rintro z ρ M' ⟨hM, n2, a2, b2, m2, f, x5, rfl, g1, g2, g3, g4, g5, g6, g7, g8, g9, g10, rfl⟩
  subst hM
  (try simp only [dgU, w_lrg, dCut, dDGet, dDGet1, dDGet2, dDPut, dPairs, w_disp, w_newDF, w_newDT, dec_self, List.map_cons, List.map_nil, eqD_bl, eqD_int, eqD_str, eqD_tup, eqD_lst, eqDs_nil, eqDs_nc, eqDs_cn, eqDs_cons, reduceIte, Bool.false_eq_true, Bool.not_true, Bool.not_false, decide_true, decide_false, dVar, atD, setD, startD, dC, dOp, dAnd, dOr, dNot, dIf, dUn, dNil, dCons, dTup, dLst, rInD, rNotInD, dNoPart, dPart, dRev, dFld, DL.fieldsOf, dCB, dNext, dSeq, dBreak, dCont, dDrop, dRet, dRetN, dIfS, dNever, dgN, dgNil, dgCons, dgSub, dAsg, dPar, dPar3, putD, dSetF, dMt, rAppendD, rPopD, rExtendD, lsT, lsR, lsF, itemsR, dFrz, dCall, dCallK, dMeth, dMake, dFor, dIL, dIT, dIR1, dIR2, dIE, dIZ, wipeD, dYes, dLc, dDic0, updM_same, cxOf, asBl_bl, asInt_int, asTup_tup, isN, w_test, w_chain, w_andV, w_orV, w_notV, w_neg, w_sub, w_div, w_mod, w_pow, w_shl, w_shr, w_and, w_or, w_xor, w_lt, w_le, w_gt, w_ge, w_add, w_addS, w_addT, w_addL, w_addF, w_addR, w_mul, w_mulL, w_eq, w_ne, w_isN, w_isB, w_isntN, w_isntB, w_ix, w_isi, w_abs, w_max2, w_min2, w_max1L, w_min1L, w_sum, w_all, w_any, w_len, w_int, w_intB, w_divmod, w_sorted, w_list, w_bits, w_sl, w_slL, w_slF, w_slR, w_slT, w_newF, w_newT, w_eqL, w_eqT, w_eqR, w_neL, w_neT, w_neR, w_dgT, w_derL, w_derT, w_derB, w_derI, w_derN, w_derS, w_eqSS, w_eqBB, w_neSS, w_neBB, w_eqBI, w_eqIN, w_neIN, w_eqNI, w_neNI, w_eqNN, w_neNN, w_NN, w_NI, w_IN])
  refine cut_is (decide (0 < n2 ∧ 0 < a2)) ?_ ?_
  · (try simp only [dgU, w_lrg, dCut, dDGet, dDGet1, dDGet2, dDPut, dPairs, w_disp, w_newDF, w_newDT, dec_self, List.map_cons, List.map_nil, eqD_bl, eqD_int, eqD_str, eqD_tup, eqD_lst, eqDs_nil, eqDs_nc, eqDs_cn, eqDs_cons, reduceIte, Bool.false_eq_true, Bool.not_true, Bool.not_false, decide_true, decide_false, dVar, atD, setD, startD, dC, dOp, dAnd, dOr, dNot, dIf, dUn, dNil, dCons, dTup, dLst, rInD, rNotInD, dNoPart, dPart, dRev, dFld, DL.fieldsOf, dCB, dNext, dSeq, dBreak, dCont, dDrop, dRet, dRetN, dIfS, dNever, dgN, dgNil, dgCons, dgSub, dAsg, dPar, dPar3, putD, dSetF, dMt, rAppendD, rPopD, rExtendD, lsT, lsR, lsF, itemsR, dFrz, dCall, dCallK, dMeth, dMake, dFor, dIL, dIT, dIR1, dIR2, dIE, dIZ, wipeD, dYes, dLc, dDic0, updM_same, cxOf, asBl_bl, asInt_int, asTup_tup, isN, w_test, w_chain, w_andV, w_orV, w_notV, w_neg, w_sub, w_div, w_mod, w_pow, w_shl, w_shr, w_and, w_or, w_xor, w_lt, w_le, w_gt, w_ge, w_add, w_addS, w_addT, w_addL, w_addF, w_addR, w_mul, w_mulL, w_eq, w_ne, w_isN, w_isB, w_isntN, w_isntB, w_ix, w_isi, w_abs, w_max2, w_min2, w_max1L, w_min1L, w_sum, w_all, w_any, w_len, w_int, w_intB, w_divmod, w_sorted, w_list, w_bits, w_sl, w_slL, w_slF, w_slR, w_slT, w_newF, w_newT, w_eqL, w_eqT, w_eqR, w_neL, w_neT, w_neR, w_dgT, w_derL, w_derT, w_derB, w_derI, w_derN, w_derS, w_eqSS, w_eqBB, w_neSS, w_neBB, w_eqBI, w_eqIN, w_neIN, w_eqNI, w_neNI, w_eqNN, w_neNN, w_NN, w_NI, w_IN])
    by_cases q1 : (0 : Int) < n2
    · refine if_yes (decide_eq_true q1) ⟨?_, trivial⟩
      have : 0 < n2 := by omega
      simp [this]
    · refine if_no (decide_eq_false q1) ⟨?_, trivial⟩
      have : ¬ 0 < n2 := by omega
      simp [this]
  by_cases q : 0 < n2 ∧ 0 < a2
  · refine if_yes (decide_eq_true q) ?_
    have hm0 : 0 < m2 := by omega
    have k1 := Int.emod_nonneg a2 (show m2 ≠ 0 by omega)
    have k2 := Int.emod_lt_of_pos a2 hm0
    have k3 := Int.emod_nonneg b2 (show m2 ≠ 0 by omega)
    have k4 := Int.emod_lt_of_pos b2 hm0
    have k5 := Int.emod_add_mul_ediv a2 m2
    have k6 := Int.emod_add_mul_ediv b2 m2
    have k7 := Int.ediv_nonneg g2 (show 0 ≤ m2 by omega)
    have k8 := Int.ediv_nonneg g4 (show 0 ≤ m2 by omega)
    have k9 := Int.ediv_le_self m2 g2
    have k10 := Int.ediv_le_self m2 g4
    rw [fdivP hm0, fdivP hm0, fmodP hm0, fmodP hm0, fdivP hm0, fmodP hm0, fdivP (show (0 : Int) < 2 by decide), tri_half]
    have htri : tri n2 ≤ (n2 : Int) * n2 ∧ 0 ≤ tri n2 := by
      rw [← tri_half]
      have h0 : 0 ≤ (n2 : Int) * ((n2 : Int) - 1) := Int.mul_nonneg (by omega) (by omega)
      have h1 : (n2 : Int) * ((n2 : Int) - 1) ≤ n2 * n2 := Int.mul_le_mul_of_nonneg_left (by omega) (by omega)
      generalize (n2 : Int) * ((n2 : Int) - 1) = z at *
      omega
    have hnn : (n2 * n2) < 2 ^ 2000 := by
      refine Nat.lt_of_lt_of_le (Nat.mul_lt_mul'' g1 g1) ?_
      rw [← Nat.pow_add]
      exact Nat.le_refl _
    have hnn2 : (n2 : Int) * n2 = ((n2 * n2 : Nat) : Int) := by simp
    have hl0 : 0 ≤ a2 % m2 * n2 + b2 % m2 := by
      have := Int.mul_nonneg k1 (Int.natCast_nonneg n2)
      omega
    have hl1 : a2 % m2 * n2 + b2 % m2 < m2 * (n2 + 1) := by
      have : a2 % m2 * (n2 : Int) ≤ m2 * n2 := Int.mul_le_mul_of_nonneg_right (by omega) (by omega)
      rw [Int.mul_add]
      omega
    obtain ⟨j, hj⟩ := Int.eq_ofNat_of_zero_le (Int.ediv_nonneg hl0 (show 0 ≤ m2 by omega))
    have hjn : j ≤ n2 := by
      have := Int.ediv_lt_of_lt_mul hm0 (show a2 % m2 * n2 + b2 % m2 < (n2 + 1 : Int) * m2 by rw [Int.mul_comm (_ + _)]; exact hl1)
      omega
    have r1 := Int.emod_nonneg (a2 % m2 * n2 + b2 % m2) (show m2 ≠ 0 by omega)
    have r2 := Int.emod_lt_of_pos (a2 % m2 * n2 + b2 % m2) hm0
    refine ⟨mulOk_b (m := 1000) (n := 1001) (by omega) (by omega) (by decide) (by decide), divOk_b (by decide) (by decide +kernel), divOk_b hm0 (h9 m2 g7), mulOk_b (m := 2001) (n := 200) (by omega) (by omega) (by decide) (by decide), divOk_b hm0 (h9 m2 g7), mulOk_b (m := 1000) (n := 200) (by omega) (by omega) (by decide) (by decide), by omega, by omega, mulOk_b (m := 200) (n := 1000) (by omega) (by omega) (by decide) (by decide), divOk_b hm0 (h9 m2 g7), by omega, ?_⟩
    rw [hj]
    refine ⟨(a2 % m2).toNat, by omega, rfl, j, m2, _, a2 % m2, _, _, rfl, by omega, by omega, g7, r1, by omega, k1, by omega, ?_, fun h => by omega, ?_, rfl⟩
    · rcases Int.lt_or_le 0 (a2 % m2) with g | g
      · exact .inl g
      · right
        have h0 : a2 % m2 = 0 := by omega
        rw [h0, Int.zero_mul, Int.zero_add, Int.ediv_eq_zero_of_lt k3 k4] at hj
        omega
    · rw [← g10]
      have hs := fsum_shift (a := a2 % m2) (b := b2 % m2) hm0 (a2 / m2) (b2 / m2) n2
      rw [k5, k6] at hs
      rw [hs]
      have hf : fsum m2 ((a2 % m2 * n2 + b2 % m2) % m2) (a2 % m2) j = fsum (a2 % m2) (b2 % m2) m2 n2 := by
        rcases Int.lt_or_le 0 (a2 % m2) with g | g
        · rw [fsum_flip g k2 k3 k4 n2, hj]
          rfl
        · have h0 : a2 % m2 = 0 := by omega
          have hj0 : j = 0 := by
            rw [h0, Int.zero_mul, Int.zero_add, Int.ediv_eq_zero_of_lt k3 k4] at hj
            omega
          rw [hj0, h0, fsum_zero (Int.ediv_eq_zero_of_lt k3 k4)]
          rfl
      rw [hf]
      omega
  · refine if_no (decide_eq_false q) (endD_of ?_)
    have h0 : fsum a2 b2 m2 n2 = 0 := by
      by_cases h : n2 = 0
      · rw [h]
        rfl
      · have ha2 : a2 = 0 := by omega
        rw [ha2]
        exact fsum_zero (Int.ediv_eq_zero_of_lt g4 (by have := g9 ha2; omega)) n2
    rw [h0, Int.add_zero] at g10
    rw [g10]
    exact hQ
/-! ### how many of the first n stand between lo and hi -/
theorem floor_two {y m lo hi : Int} (hm : 0 < m) (h0 : 0 ≤ lo) (h1 : lo ≤ hi) (h2 : hi < m) : (y - lo) / m - (y - hi - 1) / m = if lo ≤ y % m ∧ y % m ≤ hi then 1 else 0 := by
  have e := Int.emod_add_mul_ediv y m
  have e1 := Int.emod_nonneg y (show m ≠ 0 by omega)
  have e2 := Int.emod_lt_of_pos y hm
  generalize y % m = v at *
  generalize y / m = q at *
  subst e
  have a1 : (v + m * q - lo) / m = (v - lo) / m + q := by
    rw [show v + m * q - lo = (v - lo) + m * q by omega, Int.add_mul_ediv_left _ _ (show m ≠ 0 by omega)]
  have a2 : (v + m * q - hi - 1) / m = (v - hi - 1) / m + q := by
    rw [show v + m * q - hi - 1 = (v - hi - 1) + m * q by omega, Int.add_mul_ediv_left _ _ (show m ≠ 0 by omega)]
  have low : ∀ z : Int, -m ≤ z → z < 0 → z / m = -1 := fun z h h' => by
    rw [show z = (z + m) + m * (-1) by omega, Int.add_mul_ediv_left _ _ (show m ≠ 0 by omega), Int.ediv_eq_zero_of_lt (by omega) (by omega)]
    rfl
  have up : ∀ z : Int, 0 ≤ z → z < m → z / m = 0 := fun z h h' => Int.ediv_eq_zero_of_lt h h'
  rw [a1, a2]
  rcases Int.lt_or_le v lo with g | g
  · rw [low (v - lo) (by omega) (by omega), low (v - hi - 1) (by omega) (by omega), if_neg (by omega)]
    omega
  · rcases Int.lt_or_le hi v with g2 | g2
    · rw [up (v - lo) (by omega) (by omega), up (v - hi - 1) (by omega) (by omega), if_neg (by omega)]
      omega
    · rw [up (v - lo) (by omega) (by omega), low (v - hi - 1) (by omega) (by omega), if_pos ⟨g, g2⟩]
      omega
/-- how many of the first n hit -/
def hits (a b m lo hi : Int) : Nat → Int
  | 0 => 0
  | n + 1 => hits a b m lo hi n + (if lo ≤ (a * (n : Nat) + b) % m ∧ (a * (n : Nat) + b) % m ≤ hi then 1 else 0)
theorem hits_two {a b m lo hi : Int} (hm : 0 < m) (h0 : 0 ≤ lo) (h1 : lo ≤ hi) (h2 : hi < m) : ∀ n : Nat, fsum a (b - lo) m n - fsum a (b - hi - 1) m n = hits a b m lo hi n
  | 0 => rfl
  | n + 1 => by
    show (fsum a (b - lo) m n + _) - (fsum a (b - hi - 1) m n + _) = hits a b m lo hi n + _
    rw [← hits_two hm h0 h1 h2 n, ← floor_two (y := a * (n : Nat) + b) hm h0 h1 h2]
    rw [show a * ((n : Nat) : Int) + (b - lo) = a * (n : Nat) + b - lo by omega, show a * ((n : Nat) : Int) + (b - hi - 1) = a * (n : Nat) + b - hi - 1 by omega]
    omega
theorem hits_none {a b m lo hi : Int} (h : hi < lo) : ∀ n : Nat, hits a b m lo hi n = 0
  | 0 => rfl
  | n + 1 => by
    show hits a b m lo hi n + _ = 0
    rw [hits_none h n, if_neg (by omega)]
    rfl
theorem hits_mod {a b m lo hi : Int} : ∀ n : Nat, hits (a % m) b m lo hi n = hits a b m lo hi n
  | 0 => rfl
  | n + 1 => by
    show hits (a % m) b m lo hi n + _ = hits a b m lo hi n + _
    rw [hits_mod n]
    have e : (a % m * (n : Nat) + b) % m = (a * (n : Nat) + b) % m := by
      refine mod_congr ?_
      obtain ⟨c, hc⟩ := mod_cong m a
      exact ⟨c * n, by grind⟩
    rw [e]
abbrev sp_many : SpD := fun ds M Q => ∃ (n : Nat) (a b m lo hi : Int), ds = [.int (n : Nat), .int a, .int b, .int m, .int lo, .int hi] ∧ n < 2 ^ 1000 ∧ 0 < m ∧ m < 2 ^ 190 ∧ b.natAbs < 2 ^ 190 ∧ 0 ≤ lo ∧ hi < m ∧ Q (.int (hits a b m lo hi n)) M
theorem ok_many_within (T : Txt K mg C_Kind) (F_floor_sum : FnD P w K mg base 1 "floor_sum" s_floor_sum ["many", "a", "b", "size"] (sp_fsum)) : FnD P w K mg base 2 "many_within" s_many_within ["many", "a", "b", "size", "low", "high"] (sp_many) := by
  refine fn_mk T.h_many_within sc_many_within 6 rfl (by intro ds M Q h; first | (obtain ⟨rfl, _⟩ := h; rfl) | (obtain ⟨_, rfl, _⟩ := h; rfl) | (obtain ⟨_, _, rfl, _⟩ := h; rfl) | (obtain ⟨_, _, _, rfl, _⟩ := h; rfl) | (obtain ⟨_, _, _, _, rfl, _⟩ := h; rfl) | (obtain ⟨_, _, _, _, _, rfl, _⟩ := h; rfl) | (obtain ⟨_, _, _, _, _, _, rfl, _⟩ := h; rfl) | (obtain ⟨_, _, _, _, _, _, _, rfl, _⟩ := h; rfl) | (obtain ⟨_, _, _, _, _, _, _, _, rfl, _⟩ := h; rfl) | (obtain ⟨_, _, _, _, _, _, _, _, _, rfl, _⟩ := h; rfl) | (obtain ⟨_, _, _, _, _, _, _, _, _, _, rfl, _⟩ := h; rfl) | (obtain ⟨_, _, _, _, _, _, _, _, _, _, _, rfl, _⟩ := h; rfl) | (obtain ⟨_, _, _, _, _, _, _, _, _, _, _, _, rfl, _⟩ := h; rfl)) (fun f cdv A outer s H E hr => ⟨_, (dss_cons (ds_set (i := 1) sc_many_within.nd (de_op od_mod (dv 1) (dv 3)))
    (dss_one (ds_ret (de_if (dt_cmp od_le (dv 4) (dv 5)) (de_op od_sub (de_call F_floor_sum hr (da_cons (dv 0) (da_cons (dv 1) (da_cons (de_op od_sub (dv 2) (dv 4)) (da_cons (dv 3) da_nil))))) (de_call F_floor_sum hr (da_cons (dv 0) (da_cons (dv 1) (da_cons (de_op od_sub (de_op od_sub (dv 2) (dv 5)) de_int) (da_cons (dv 3) da_nil)))))) de_int)))), ?_⟩)
  rintro ds M Q ⟨n, a, b, m, lo, hi, rfl, hn, hp, hm, hb, h0, h2, hQ⟩
  (try simp only [dgU, w_lrg, dCut, dDGet, dDGet1, dDGet2, dDPut, dPairs, w_disp, w_newDF, w_newDT, dec_self, List.map_cons, List.map_nil, eqD_bl, eqD_int, eqD_str, eqD_tup, eqD_lst, eqDs_nil, eqDs_nc, eqDs_cn, eqDs_cons, reduceIte, Bool.false_eq_true, Bool.not_true, Bool.not_false, decide_true, decide_false, dVar, atD, setD, startD, dC, dOp, dAnd, dOr, dNot, dIf, dUn, dNil, dCons, dTup, dLst, rInD, rNotInD, dNoPart, dPart, dRev, dFld, DL.fieldsOf, dCB, dNext, dSeq, dBreak, dCont, dDrop, dRet, dRetN, dIfS, dNever, dgN, dgNil, dgCons, dgSub, dAsg, dPar, dPar3, putD, dSetF, dMt, rAppendD, rPopD, rExtendD, lsT, lsR, lsF, itemsR, dFrz, dCall, dCallK, dMeth, dMake, dFor, dIL, dIT, dIR1, dIR2, dIE, dIZ, wipeD, dYes, dLc, dDic0, updM_same, cxOf, asBl_bl, asInt_int, asTup_tup, isN, w_test, w_chain, w_andV, w_orV, w_notV, w_neg, w_sub, w_div, w_mod, w_pow, w_shl, w_shr, w_and, w_or, w_xor, w_lt, w_le, w_gt, w_ge, w_add, w_addS, w_addT, w_addL, w_addF, w_addR, w_mul, w_mulL, w_eq, w_ne, w_isN, w_isB, w_isntN, w_isntB, w_ix, w_isi, w_abs, w_max2, w_min2, w_max1L, w_min1L, w_sum, w_all, w_any, w_len, w_int, w_intB, w_divmod, w_sorted, w_list, w_bits, w_sl, w_slL, w_slF, w_slR, w_slT, w_newF, w_newT, w_eqL, w_eqT, w_eqR, w_neL, w_neT, w_neR, w_dgT, w_derL, w_derT, w_derB, w_derI, w_derN, w_derS, w_eqSS, w_eqBB, w_neSS, w_neBB, w_eqBI, w_eqIN, w_neIN, w_eqNI, w_neNI, w_eqNN, w_neNN, w_NN, w_NI, w_IN])
  rw [fmodP hp]
  refine ⟨by omega, ?_⟩
  have e1 := Int.emod_nonneg a (show m ≠ 0 by omega)
  have e2 := Int.emod_lt_of_pos a hp
  have hs : (2 : Int) ^ 190 + 2 ^ 190 < 2 ^ 200 := by decide +kernel
  have hs2 : (2 : Nat) ^ 190 + 2 ^ 190 + 1 < 2 ^ 200 := by decide +kernel
  by_cases h : lo ≤ hi
  · refine if_yes (decide_eq_true h) ⟨n, a % m, b - lo, m, rfl, hn, e1, e2, by omega, by omega, n, a % m, b - hi - 1, m, rfl, hn, e1, e2, by omega, by omega, endD_of ?_⟩
    rw [hits_two hp h0 h h2, hits_mod]
    exact hQ
  · refine if_no (decide_eq_false h) (endD_of ?_)
    rw [hits_none (by omega)] at hQ
    exact hQ
/-! ### loops: rounds within a range -/
abbrev InR (b : Nat) (s : Bool) (a c lo hi : Int) (n : Nat) : Prop := lo ≤ valZ b s a c n ∧ valZ b s a c n ≤ hi
def cutO : Option Nat → Option Nat → Option Nat
  | none, _ => none
  | some f, none => some f
  | some f, some l => if f < l then some f else none
abbrev sp_fround (C : Addr) : SpD := fun ds M Q => ∃ (b : Nat) (s : Bool) (a : Int) (w : Word) (u c lo hi : Int), ds = [kindD C b s, loopD a w u c, .int lo, .int hi] ∧ Wd b ∧ InK b s a ∧ InK b s u ∧ InK b s c ∧ InK b s lo ∧ InK b s hi ∧ ∀ r f, FirstR b s a w u c r → FirstN (InR b s a c lo hi) f → Q (optD (cutO f r)) M
theorem inR_iff {b : Nat} {s : Bool} {a c lo hi : Int} {n : Nat} : Hit2 c (a - lowZ b s) (2 ^ b) (lo - lowZ b s) (hi - lowZ b s) n ↔ InR b s a c lo hi n := by
  have e : (a - lowZ b s + c * (n : Nat)) % 2 ^ b = valZ b s a c n - lowZ b s := by
    rw [placed_sub, show a - lowZ b s + c * (n : Nat) = a + (n : Nat) * c - lowZ b s by rw [Int.mul_comm]; omega]
  unfold Hit2
  rw [e]
  constructor
  · rintro ⟨h1, h2⟩
    exact ⟨by omega, by omega⟩
  · rintro ⟨h1, h2⟩
    exact ⟨by omega, by omega⟩
abbrev sp_rwithin (C : Addr) : SpD := fun ds M Q => ∃ (b : Nat) (s : Bool) (a : Int) (w : Word) (u c lo hi : Int) (n : Nat), ds = [kindD C b s, loopD a w u c, .int lo, .int hi, .int (n : Nat)] ∧ Wd b ∧ InK b s a ∧ InK b s u ∧ InK b s c ∧ InK b s lo ∧ InK b s hi ∧ n < 2 ^ 1000 ∧ (∀ k, FirstR b s a w u c (some k) → n ≤ k) ∧ Q (.int (hits c (a - lowZ b s) (2 ^ b) (lo - lowZ b s) (hi - lowZ b s) n)) M
theorem ok_rounds_within (T : Txt K mg C_Kind) (F_check_loop : FnD P w K mg base 5 "check_loop" s_check_loop ["kind", "value"] (sp_chkl C_Kind)) (F_check_value : FnD P w K mg base 4 "check_value" s_check_value ["kind", "argument", "value"] (sp_chkv C_Kind)) (F_check_rounds : FnD P w K mg base 144 "check_rounds" s_check_rounds ["kind", "loop", "n"] (sp_chkr C_Kind)) (F_low_of : FnD P w K mg base 1 "low_of" s_low_of ["kind"] (sp_low C_Kind)) (F_many_within : FnD P w K mg base 2 "many_within" s_many_within ["many", "a", "b", "size", "low", "high"] (sp_many)) (F_size_of : FnD P w K mg base 1 "size_of" s_size_of ["kind"] (sp_size C_Kind)) : FnD P w K mg base 145 "rounds_within" s_rounds_within ["kind", "loop", "low", "high", "n"] (sp_rwithin C_Kind) := by
  refine fn_mk T.h_rounds_within sc_rounds_within 6 rfl (by intro ds M Q h; first | (obtain ⟨rfl, _⟩ := h; rfl) | (obtain ⟨_, rfl, _⟩ := h; rfl) | (obtain ⟨_, _, rfl, _⟩ := h; rfl) | (obtain ⟨_, _, _, rfl, _⟩ := h; rfl) | (obtain ⟨_, _, _, _, rfl, _⟩ := h; rfl) | (obtain ⟨_, _, _, _, _, rfl, _⟩ := h; rfl) | (obtain ⟨_, _, _, _, _, _, rfl, _⟩ := h; rfl) | (obtain ⟨_, _, _, _, _, _, _, rfl, _⟩ := h; rfl) | (obtain ⟨_, _, _, _, _, _, _, _, rfl, _⟩ := h; rfl) | (obtain ⟨_, _, _, _, _, _, _, _, _, rfl, _⟩ := h; rfl) | (obtain ⟨_, _, _, _, _, _, _, _, _, _, rfl, _⟩ := h; rfl) | (obtain ⟨_, _, _, _, _, _, _, _, _, _, _, rfl, _⟩ := h; rfl) | (obtain ⟨_, _, _, _, _, _, _, _, _, _, _, _, rfl, _⟩ := h; rfl)) (fun f cdv A outer s H E hr => ⟨_, (dss_cons (ds_expr (de_call F_check_loop hr (da_cons (dv 0) (da_cons (dv 1) da_nil))))
    (dss_cons (ds_expr (de_call F_check_value hr (da_cons (dv 0) (da_cons de_str (da_cons (dv 2) da_nil)))))
    (dss_cons (ds_expr (de_call F_check_value hr (da_cons (dv 0) (da_cons de_str (da_cons (dv 3) da_nil)))))
    (dss_cons (ds_expr (de_call F_check_rounds hr (da_cons (dv 0) (da_cons (dv 1) (da_cons (dv 4) da_nil)))))
    (dss_cons (ds_set (i := 5) sc_rounds_within.nd (de_call F_low_of hr (da_cons (dv 0) da_nil)))
    (dss_one (ds_ret (de_call F_many_within hr (da_cons (dv 4) (da_cons (de_ix (dv 1) de_int) (da_cons (de_op od_sub (de_ix (dv 1) de_int) (dv 5)) (da_cons (de_call F_size_of hr (da_cons (dv 0) da_nil)) (da_cons (de_op od_sub (dv 2) (dv 5)) (da_cons (de_op od_sub (dv 3) (dv 5)) da_nil)))))))))))))), ?_⟩)
  rintro ds M Q ⟨b, s, a, w, u, c, lo, hi, n, rfl, hb, ha, hu, hc, hlo, hhi, hn, hk, hQ⟩
  (try simp only [dgU, w_lrg, dCut, dDGet, dDGet1, dDGet2, dDPut, dPairs, w_disp, w_newDF, w_newDT, dec_self, List.map_cons, List.map_nil, eqD_bl, eqD_int, eqD_str, eqD_tup, eqD_lst, eqDs_nil, eqDs_nc, eqDs_cn, eqDs_cons, reduceIte, Bool.false_eq_true, Bool.not_true, Bool.not_false, decide_true, decide_false, dVar, atD, setD, startD, dC, dOp, dAnd, dOr, dNot, dIf, dUn, dNil, dCons, dTup, dLst, rInD, rNotInD, dNoPart, dPart, dRev, dFld, DL.fieldsOf, dCB, dNext, dSeq, dBreak, dCont, dDrop, dRet, dRetN, dIfS, dNever, dgN, dgNil, dgCons, dgSub, dAsg, dPar, dPar3, putD, dSetF, dMt, rAppendD, rPopD, rExtendD, lsT, lsR, lsF, itemsR, dFrz, dCall, dCallK, dMeth, dMake, dFor, dIL, dIT, dIR1, dIR2, dIE, dIZ, wipeD, dYes, dLc, dDic0, updM_same, cxOf, asBl_bl, asInt_int, asTup_tup, isN, w_test, w_chain, w_andV, w_orV, w_notV, w_neg, w_sub, w_div, w_mod, w_pow, w_shl, w_shr, w_and, w_or, w_xor, w_lt, w_le, w_gt, w_ge, w_add, w_addS, w_addT, w_addL, w_addF, w_addR, w_mul, w_mulL, w_eq, w_ne, w_isN, w_isB, w_isntN, w_isntB, w_ix, w_isi, w_abs, w_max2, w_min2, w_max1L, w_min1L, w_sum, w_all, w_any, w_len, w_int, w_intB, w_divmod, w_sorted, w_list, w_bits, w_sl, w_slL, w_slF, w_slR, w_slT, w_newF, w_newT, w_eqL, w_eqT, w_eqR, w_neL, w_neT, w_neR, w_dgT, w_derL, w_derT, w_derB, w_derI, w_derN, w_derS, w_eqSS, w_eqBB, w_neSS, w_neBB, w_eqBI, w_eqIN, w_neIN, w_eqNI, w_neNI, w_eqNN, w_neNN, w_NN, w_NI, w_IN])
  have hp := two_pos b
  have hs := small_bits hb
  have l := low_half b s hb.1
  have h9 : (2 : Int) ^ 140 < 2 ^ 190 := by decide +kernel
  refine ⟨b, s, a, w, u, c, rfl, hb, ha, hu, hc, b, s, _, lo, rfl, hb, hlo, b, s, _, hi, rfl, hb, hhi, b, s, a, w, u, c, n, rfl, hb, ha, hu, hc, hk, b, s, rfl, hb, ?_⟩
  (try simp only [dgU, w_lrg, dCut, dDGet, dDGet1, dDGet2, dDPut, dPairs, w_disp, w_newDF, w_newDT, dec_self, List.map_cons, List.map_nil, eqD_bl, eqD_int, eqD_str, eqD_tup, eqD_lst, eqDs_nil, eqDs_nc, eqDs_cn, eqDs_cons, reduceIte, Bool.false_eq_true, Bool.not_true, Bool.not_false, decide_true, decide_false, dVar, atD, setD, startD, dC, dOp, dAnd, dOr, dNot, dIf, dUn, dNil, dCons, dTup, dLst, rInD, rNotInD, dNoPart, dPart, dRev, dFld, DL.fieldsOf, dCB, dNext, dSeq, dBreak, dCont, dDrop, dRet, dRetN, dIfS, dNever, dgN, dgNil, dgCons, dgSub, dAsg, dPar, dPar3, putD, dSetF, dMt, rAppendD, rPopD, rExtendD, lsT, lsR, lsF, itemsR, dFrz, dCall, dCallK, dMeth, dMake, dFor, dIL, dIT, dIR1, dIR2, dIE, dIZ, wipeD, dYes, dLc, dDic0, updM_same, cxOf, asBl_bl, asInt_int, asTup_tup, isN, w_test, w_chain, w_andV, w_orV, w_notV, w_neg, w_sub, w_div, w_mod, w_pow, w_shl, w_shr, w_and, w_or, w_xor, w_lt, w_le, w_gt, w_ge, w_add, w_addS, w_addT, w_addL, w_addF, w_addR, w_mul, w_mulL, w_eq, w_ne, w_isN, w_isB, w_isntN, w_isntB, w_ix, w_isi, w_abs, w_max2, w_min2, w_max1L, w_min1L, w_sum, w_all, w_any, w_len, w_int, w_intB, w_divmod, w_sorted, w_list, w_bits, w_sl, w_slL, w_slF, w_slR, w_slT, w_newF, w_newT, w_eqL, w_eqT, w_eqR, w_neL, w_neT, w_neR, w_dgT, w_derL, w_derT, w_derB, w_derI, w_derN, w_derS, w_eqSS, w_eqBB, w_neSS, w_neBB, w_eqBI, w_eqIN, w_neIN, w_eqNI, w_neNI, w_eqNN, w_neNN, w_NN, w_NI, w_IN])
  refine ⟨_, _, rfl, atI_nat (j := 3) rfl, _, _, rfl, atI_nat (j := 0) rfl, ?_⟩
  (try simp only [dgU, w_lrg, dCut, dDGet, dDGet1, dDGet2, dDPut, dPairs, w_disp, w_newDF, w_newDT, dec_self, List.map_cons, List.map_nil, eqD_bl, eqD_int, eqD_str, eqD_tup, eqD_lst, eqDs_nil, eqDs_nc, eqDs_cn, eqDs_cons, reduceIte, Bool.false_eq_true, Bool.not_true, Bool.not_false, decide_true, decide_false, dVar, atD, setD, startD, dC, dOp, dAnd, dOr, dNot, dIf, dUn, dNil, dCons, dTup, dLst, rInD, rNotInD, dNoPart, dPart, dRev, dFld, DL.fieldsOf, dCB, dNext, dSeq, dBreak, dCont, dDrop, dRet, dRetN, dIfS, dNever, dgN, dgNil, dgCons, dgSub, dAsg, dPar, dPar3, putD, dSetF, dMt, rAppendD, rPopD, rExtendD, lsT, lsR, lsF, itemsR, dFrz, dCall, dCallK, dMeth, dMake, dFor, dIL, dIT, dIR1, dIR2, dIE, dIZ, wipeD, dYes, dLc, dDic0, updM_same, cxOf, asBl_bl, asInt_int, asTup_tup, isN, w_test, w_chain, w_andV, w_orV, w_notV, w_neg, w_sub, w_div, w_mod, w_pow, w_shl, w_shr, w_and, w_or, w_xor, w_lt, w_le, w_gt, w_ge, w_add, w_addS, w_addT, w_addL, w_addF, w_addR, w_mul, w_mulL, w_eq, w_ne, w_isN, w_isB, w_isntN, w_isntB, w_ix, w_isi, w_abs, w_max2, w_min2, w_max1L, w_min1L, w_sum, w_all, w_any, w_len, w_int, w_intB, w_divmod, w_sorted, w_list, w_bits, w_sl, w_slL, w_slF, w_slR, w_slT, w_newF, w_newT, w_eqL, w_eqT, w_eqR, w_neL, w_neT, w_neR, w_dgT, w_derL, w_derT, w_derB, w_derI, w_derN, w_derS, w_eqSS, w_eqBB, w_neSS, w_neBB, w_eqBI, w_eqIN, w_neIN, w_eqNI, w_neNI, w_eqNN, w_neNN, w_NN, w_NI, w_IN])
  refine ⟨b, s, rfl, hb, ?_⟩
  (try simp only [dgU, w_lrg, dCut, dDGet, dDGet1, dDGet2, dDPut, dPairs, w_disp, w_newDF, w_newDT, dec_self, List.map_cons, List.map_nil, eqD_bl, eqD_int, eqD_str, eqD_tup, eqD_lst, eqDs_nil, eqDs_nc, eqDs_cn, eqDs_cons, reduceIte, Bool.false_eq_true, Bool.not_true, Bool.not_false, decide_true, decide_false, dVar, atD, setD, startD, dC, dOp, dAnd, dOr, dNot, dIf, dUn, dNil, dCons, dTup, dLst, rInD, rNotInD, dNoPart, dPart, dRev, dFld, DL.fieldsOf, dCB, dNext, dSeq, dBreak, dCont, dDrop, dRet, dRetN, dIfS, dNever, dgN, dgNil, dgCons, dgSub, dAsg, dPar, dPar3, putD, dSetF, dMt, rAppendD, rPopD, rExtendD, lsT, lsR, lsF, itemsR, dFrz, dCall, dCallK, dMeth, dMake, dFor, dIL, dIT, dIR1, dIR2, dIE, dIZ, wipeD, dYes, dLc, dDic0, updM_same, cxOf, asBl_bl, asInt_int, asTup_tup, isN, w_test, w_chain, w_andV, w_orV, w_notV, w_neg, w_sub, w_div, w_mod, w_pow, w_shl, w_shr, w_and, w_or, w_xor, w_lt, w_le, w_gt, w_ge, w_add, w_addS, w_addT, w_addL, w_addF, w_addR, w_mul, w_mulL, w_eq, w_ne, w_isN, w_isB, w_isntN, w_isntB, w_ix, w_isi, w_abs, w_max2, w_min2, w_max1L, w_min1L, w_sum, w_all, w_any, w_len, w_int, w_intB, w_divmod, w_sorted, w_list, w_bits, w_sl, w_slL, w_slF, w_slR, w_slT, w_newF, w_newT, w_eqL, w_eqT, w_eqR, w_neL, w_neT, w_neR, w_dgT, w_derL, w_derT, w_derB, w_derI, w_derN, w_derS, w_eqSS, w_eqBB, w_neSS, w_neBB, w_eqBI, w_eqIN, w_neIN, w_eqNI, w_neNI, w_eqNN, w_neNN, w_NN, w_NI, w_IN])
  have h0 := hlo.1
  have h1 := hhi.2
  have h2 := ha.1
  have h3 := ha.2
  exact ⟨n, c, a - lowZ b s, 2 ^ b, lo - lowZ b s, hi - lowZ b s, rfl, hn, hp, by omega, by omega, by omega, by omega, endD_of hQ⟩
/-! ### rounds within ranges: lists of rounds -/
abbrev thL (p : Nat → Bool) (n : Nat) : List Nat := (List.range n).filter p
abbrev natsD (ns : List Nat) : List Dat := ns.map fun n => .int (n : Nat)
theorem thL_succ {p : Nat → Bool} {n : Nat} : thL p (n + 1) = thL p n ++ if p n = true then [n] else [] := by
  unfold thL
  rw [List.range_succ, List.filter_append]
  congr 1
  by_cases h : p n = true <;> simp [h]
theorem thL_mem {p : Nat → Bool} {n i : Nat} (h : i ∈ thL p n) : i < n := List.mem_range.mp (List.mem_filter.mp h).1
theorem thL_len {p : Nat → Bool} {n : Nat} : (thL p n).length ≤ n := by
  have := List.length_filter_le p (List.range n)
  rw [List.length_range] at this
  exact this
theorem thL_lt {p : Nat → Bool} {m : Nat} : ∀ k : Nat, (thL p (m + k)).filter (fun i => decide (i < m)) = thL p m
  | 0 => List.filter_eq_self.mpr fun i hi => decide_eq_true (thL_mem hi)
  | k + 1 => by
    rw [← Nat.add_assoc, thL_succ, List.filter_append, thL_lt k]
    have : (if p (m + k) = true then [m + k] else []).filter (fun i => decide (i < m)) = [] := by
      split
      · simp
      · rfl
    rw [this, List.append_nil]
theorem thL_head {p : Nat → Prop} {q : Nat → Bool} (hq : ∀ i, q i = true ↔ p i) {f : Option Nat} (hf : FirstN p f) : ∀ n : Nat, (thL q n).head? = cutO f (some n)
  | 0 => by
    cases f with
    | none => rfl
    | some k => rfl
  | n + 1 => by
    have ih := thL_head hq hf n
    rw [thL_succ, List.head?_append, ih]
    cases f with
    | none =>
      have : ¬ q n = true := fun h => hf n ((hq n).mp h)
      rw [if_neg this]
      rfl
    | some k =>
      simp only [cutO]
      rcases Nat.lt_trichotomy k n with g | g | g
      · rw [if_pos g, if_pos (show k < n + 1 by omega)]
        rfl
      · subst g
        rw [if_neg (by omega), if_pos ((hq k).mpr hf.1), if_pos (by omega)]
        rfl
      · have : ¬ q n = true := fun h => hf.2 n g ((hq n).mp h)
        rw [if_neg (by omega), if_neg this, if_neg (by omega)]
        rfl
theorem hits_len {b : Nat} {s : Bool} {a c lo hi : Int} : ∀ n : Nat, hits c (a - lowZ b s) (2 ^ b) (lo - lowZ b s) (hi - lowZ b s) n = ((thL (fun i => decide (InR b s a c lo hi i)) n).length : Nat)
  | 0 => rfl
  | n + 1 => by
    show hits c (a - lowZ b s) (2 ^ b) (lo - lowZ b s) (hi - lowZ b s) n + _ = _
    rw [hits_len n, thL_succ, List.length_append]
    have e : (c * (n : Nat) + (a - lowZ b s)) % 2 ^ b = valZ b s a c n - lowZ b s := by
      rw [placed_sub, show c * (n : Nat) + (a - lowZ b s) = a + (n : Nat) * c - lowZ b s by rw [Int.mul_comm]; omega]
    rw [e]
    by_cases h : InR b s a c lo hi n
    · have h1 := h.1
      have h2 := h.2
      rw [if_pos ⟨by omega, by omega⟩, if_pos (decide_eq_true h)]
      simp
    · rw [if_neg fun g => h ⟨by have := g.1; omega, by have := g.2; omega⟩, if_neg (by simpa using h)]
      simp
theorem hits_more {a b m lo hi : Int} (k : Nat) : ∀ n : Nat, hits a b m lo hi (k + n) = hits a b m lo hi k + hits a (a * (k : Nat) + b) m lo hi n
  | 0 => by simp [hits]
  | n + 1 => by
    show hits a b m lo hi (k + n) + _ = _ + (hits a _ m lo hi n + _)
    rw [hits_more k n]
    have e : a * ((k.add n : Nat) : Int) + b = a * (n : Nat) + (a * (k : Nat) + b) := by
      show a * ((k + n : Nat) : Int) + b = _
      rw [Int.natCast_add, Int.mul_add]
      omega
    rw [e]
    omega
theorem hits_cong {a b c m lo hi : Int} (h : m ∣ b - c) : ∀ n : Nat, hits a b m lo hi n = hits a c m lo hi n
  | 0 => rfl
  | n + 1 => by
    show hits a b m lo hi n + _ = hits a c m lo hi n + _
    rw [hits_cong h n]
    have e : (a * (n : Nat) + b) % m = (a * (n : Nat) + c) % m := mod_congr (by
      obtain ⟨d, hd⟩ := h
      exact ⟨d, by omega⟩)
    rw [e]
theorem hits_turns {a b m lo hi : Int} {z : Nat} (hz : (z : Int) = m) (n : Nat) : ∀ q : Nat, hits a b m lo hi (z * q + n) = q * hits a b m lo hi z + hits a b m lo hi n
  | 0 => by simp
  | q + 1 => by
    rw [show z * (q + 1) + n = z + (z * q + n) by rw [Nat.mul_succ]; omega, hits_more, hits_cong (b := a * (z : Nat) + b) (c := b) ⟨a, by rw [hz, Int.mul_comm]; omega⟩, hits_turns hz n q]
    rw [show ((q + 1 : Nat) : Int) = (q : Int) + 1 by omega, Int.add_mul]
    omega
theorem inR_bits {b : Nat} {s : Bool} {a c lo hi : Int} {k : Nat} (h : FirstN (InR b s a c lo hi) (some k)) : k < 2 ^ b := by
  rcases Nat.lt_or_ge k (2 ^ b) with g | g
  · exact g
  · exfalso
    refine h.2 (k - 2 ^ b) (by have := Nat.two_pow_pos b; omega) ?_
    have hN : ((2 ^ b : Nat) : Int) = 2 ^ b := by simp
    have e : placedZ b s (a + ((k - 2 ^ b : Nat) : Int) * c) = placedZ b s (a + (k : Nat) * c) := by
      refine placed_congr ⟨-c, ?_⟩
      rw [show ((k - 2 ^ b : Nat) : Int) = k - 2 ^ b by omega]
      grind
    show lo ≤ placedZ b s (a + ((k - 2 ^ b : Nat) : Int) * c) ∧ placedZ b s (a + ((k - 2 ^ b : Nat) : Int) * c) ≤ hi
    rw [e]
    exact h.1
theorem first_there {b : Nat} {s : Bool} {a u c lo hi : Int} {w : Word} {n : Nat} {e : Bool} (h : CourseOf b s a w u c n e) {r f : Option Nat} (hr : FirstR b s a w u c r) (hf : FirstN (InR b s a c lo hi) f) : cutO f r = (thL (fun i => decide (InR b s a c lo hi i)) n).head? := by
  rw [thL_head (fun i => decide_eq_true_iff) hf, first_uniq hr (course_first h)]
  cases e with
  | false => rfl
  | true =>
    have h2 : n = 2 ^ b := by simpa using h.2
    cases f with
    | none => rfl
    | some k =>
      have := inR_bits hf
      show some k = if k < n then some k else none
      rw [if_pos (by rw [h2]; exact this)]
theorem lc_filtN {g : TGD} {tt : TTD} {te : TED} {ρ : EnvD} {mk : Bool} {Q : VKD} {M : MH} {ns : List Nat} (p : Nat → Bool) (h : newL mk (natsD (ns.filter p)) M Q)
    (step : ∀ (i : Nat) (acc : List Dat) (k : List Dat → MH → Prop), i ∈ ns → (if p i = true then k (acc ++ [.int (i : Nat)]) M else k acc M) → g (.int (i : Nat)) ρ M fun ρ2 M2 => tt ρ2 M2 fun b M3 => if b = true then te ρ2 M3 fun y M4 => k (acc ++ [y]) M4 else k acc M3) : lcGo g tt te ρ mk Q (natsD ns) [] M := by
  refine lc_by (fun r acc M' => M' = M ∧ ∃ n1 n2, ns = n1 ++ n2 ∧ r = natsD n2 ∧ acc = natsD (n1.filter p)) ?_ ?_ _ _ _ ⟨rfl, [], ns, rfl, rfl, rfl⟩
  · rintro acc M' ⟨rfl, n1, n2, e1, e2, rfl⟩
    cases n2 with
    | nil =>
      rw [List.append_nil] at e1
      subst e1
      exact h
    | cons _ _ => cases e2
  · rintro d r acc M' k ⟨rfl, n1, n2, e1, e2, rfl⟩ hk
    cases n2 with
    | nil => cases e2
    | cons i n2 =>
      injection e2 with e2 e3
      subst e2 e3
      refine step i _ _ (by rw [e1]; simp) ?_
      by_cases hi : p i = true
      · rw [if_pos hi]
        refine hk _ _ ⟨rfl, n1 ++ [i], n2, by rw [e1]; simp, rfl, ?_⟩
        rw [List.filter_append]
        simp [hi]
      · rw [if_neg hi]
        refine hk _ _ ⟨rfl, n1 ++ [i], n2, by rw [e1]; simp, rfl, ?_⟩
        rw [List.filter_append]
        simp [hi]
/-! ### how hits fit together -/
theorem hits_zero {a b m lo hi : Int} : ∀ {n : Nat}, (∀ i, i < n → ¬ (lo ≤ (a * (i : Nat) + b) % m ∧ (a * (i : Nat) + b) % m ≤ hi)) → hits a b m lo hi n = 0
  | 0, _ => rfl
  | n + 1, h => by
    show hits a b m lo hi n + _ = 0
    rw [hits_zero fun i hi => h i (by omega), if_neg (h n (by omega))]
    rfl
theorem hits_all {a b m lo hi : Int} (h : ∀ i : Nat, lo ≤ (a * (i : Nat) + b) % m ∧ (a * (i : Nat) + b) % m ≤ hi) : ∀ n : Nat, hits a b m lo hi n = n
  | 0 => rfl
  | n + 1 => by
    show hits a b m lo hi n + _ = _
    rw [hits_all h n, if_pos (h n)]
    rfl
theorem hits_parts {a b m lo mid hi : Int} (h1 : lo ≤ mid + 1) (h2 : mid ≤ hi) : ∀ n : Nat, hits a b m lo hi n = hits a b m lo mid n + hits a b m (mid + 1) hi n
  | 0 => rfl
  | n + 1 => by
    show hits a b m lo hi n + _ = (hits a b m lo mid n + _) + (hits a b m (mid + 1) hi n + _)
    rw [hits_parts h1 h2 n]
    generalize (a * (n : Nat) + b) % m = v
    have e : (if lo ≤ v ∧ v ≤ hi then (1 : Int) else 0) = (if lo ≤ v ∧ v ≤ mid then 1 else 0) + (if mid + 1 ≤ v ∧ v ≤ hi then 1 else 0) := by
      split <;> split <;> split <;> omega
    rw [e]
    omega
theorem hits_between {a b m lo hi : Int} (k : Nat) : ∀ n : Nat, 0 ≤ hits a b m lo hi (k + n) - hits a b m lo hi k ∧ hits a b m lo hi (k + n) - hits a b m lo hi k ≤ n
  | 0 => by simp
  | n + 1 => by
    have ih := hits_between (a := a) (b := b) (m := m) (lo := lo) (hi := hi) k n
    have e : hits a b m lo hi (k + (n + 1)) = hits a b m lo hi (k + n) + (if lo ≤ (a * ((k + n : Nat) : Int) + b) % m ∧ (a * ((k + n : Nat) : Int) + b) % m ≤ hi then 1 else 0) := rfl
    rw [e]
    split <;> omega
theorem hit_inR {b : Nat} {s : Bool} {a c lo hi : Int} (i : Nat) : (lo - lowZ b s ≤ (c * (i : Nat) + (a - lowZ b s)) % 2 ^ b ∧ (c * (i : Nat) + (a - lowZ b s)) % 2 ^ b ≤ hi - lowZ b s) ↔ InR b s a c lo hi i := by
  have e : (c * (i : Nat) + (a - lowZ b s)) % 2 ^ b = valZ b s a c i - lowZ b s := by
    rw [placed_sub, show c * (i : Nat) + (a - lowZ b s) = a + (i : Nat) * c - lowZ b s by rw [Int.mul_comm]; omega]
  rw [e]
  constructor
  · intro h
    exact ⟨by have := h.1; omega, by have := h.2; omega⟩
  · intro h
    exact ⟨by have := h.1; omega, by have := h.2; omega⟩
/-- how many rounds are looked at -/
def mostN : Option Nat → Nat
  | none => 10 ^ 50
  | some l => l
theorem cut_some {f r : Option Nat} {k : Nat} (h : cutO f r = some k) : f = some k ∧ ∀ l, r = some l → k < l := by
  cases f with
  | none => cases h
  | some j =>
    cases r with
    | none =>
      cases h
      exact ⟨rfl, fun l e => by cases e⟩
    | some l =>
      have h : (if j < l then some j else none) = some k := h
      split at h
      · cases h
        exact ⟨rfl, fun l e => by cases e; assumption⟩
      · cases h
theorem cut_none {p : Nat → Prop} {f r : Option Nat} (hf : FirstN p f) (h : cutO f r = none) : ∀ i, i < mostN r → ¬ p i := by
  intro i hi hp
  cases f with
  | none => exact hf i hp
  | some j =>
    cases r with
    | none => cases h
    | some l =>
      have h : (if j < l then some j else none) = none := h
      split at h
      · cases h
      · have hi : i < l := hi
        exact hf.2 i (by omega) hp
/-! ### inverses, twos -/
/-- an inverse modulo 2 ^ b -/
abbrev InvOf (n : Int) (b : Nat) (r : Int) : Prop := (0 ≤ r ∧ r < 2 ^ b) ∧ (2 : Int) ^ b ∣ n * r - 1
abbrev sp_invof : SpD := fun ds M Q => ∃ (n : Int) (b : Nat), ds = [.int n, .int (b : Nat)] ∧ n % 2 = 1 ∧ n.natAbs < 2 ^ 1000 ∧ 1 ≤ b ∧ b ≤ 1000 ∧ ∀ r, InvOf n b r → Q (.int r) M
theorem ok_inverse_of (T : Txt K mg C_Kind) : FnD P w K mg base 1 "inverse_of" s_inverse_of ["n", "bits"] (sp_invof) := by
  refine fn_mk T.h_inverse_of sc_inverse_of 4 rfl (by intro ds M Q h; first | (obtain ⟨rfl, _⟩ := h; rfl) | (obtain ⟨_, rfl, _⟩ := h; rfl) | (obtain ⟨_, _, rfl, _⟩ := h; rfl) | (obtain ⟨_, _, _, rfl, _⟩ := h; rfl) | (obtain ⟨_, _, _, _, rfl, _⟩ := h; rfl) | (obtain ⟨_, _, _, _, _, rfl, _⟩ := h; rfl) | (obtain ⟨_, _, _, _, _, _, rfl, _⟩ := h; rfl) | (obtain ⟨_, _, _, _, _, _, _, rfl, _⟩ := h; rfl) | (obtain ⟨_, _, _, _, _, _, _, _, rfl, _⟩ := h; rfl) | (obtain ⟨_, _, _, _, _, _, _, _, _, rfl, _⟩ := h; rfl) | (obtain ⟨_, _, _, _, _, _, _, _, _, _, rfl, _⟩ := h; rfl) | (obtain ⟨_, _, _, _, _, _, _, _, _, _, _, rfl, _⟩ := h; rfl) | (obtain ⟨_, _, _, _, _, _, _, _, _, _, _, _, rfl, _⟩ := h; rfl)) (fun f cdv A outer s H E hr => ⟨_, (dss_cons (ds_set (i := 2) sc_inverse_of.nd de_int)
    (dss_cons (ds_set (i := 3) sc_inverse_of.nd de_int)
    (dss_cons (ds_while (dt_cmp od_lt (dv 3) (dv 1))
    (dss_cons (ds_set (i := 3) sc_inverse_of.nd (de_op (od_mul false) de_int (dv 3)))
    (dss_one (ds_set (i := 2) sc_inverse_of.nd (de_op od_mod (de_op (od_mul false) (dv 2) (de_op od_sub de_int (de_op (od_mul false) (dv 0) (dv 2)))) (de_op od_shl de_int (dv 3)))))))
    (dss_one (ds_ret (de_op od_mod (dv 2) (de_op od_shl de_int (dv 1)))))))), ?_⟩)
  rintro ds M Q ⟨n, b, rfl, hn, hs, hb, hb2, hQ⟩
  (try simp only [dgU, w_lrg, dCut, dDGet, dDGet1, dDGet2, dDPut, dPairs, w_disp, w_newDF, w_newDT, dec_self, List.map_cons, List.map_nil, eqD_bl, eqD_int, eqD_str, eqD_tup, eqD_lst, eqDs_nil, eqDs_nc, eqDs_cn, eqDs_cons, reduceIte, Bool.false_eq_true, Bool.not_true, Bool.not_false, decide_true, decide_false, dVar, atD, setD, startD, dC, dOp, dAnd, dOr, dNot, dIf, dUn, dNil, dCons, dTup, dLst, rInD, rNotInD, dNoPart, dPart, dRev, dFld, DL.fieldsOf, dCB, dNext, dSeq, dBreak, dCont, dDrop, dRet, dRetN, dIfS, dNever, dgN, dgNil, dgCons, dgSub, dAsg, dPar, dPar3, putD, dSetF, dMt, rAppendD, rPopD, rExtendD, lsT, lsR, lsF, itemsR, dFrz, dCall, dCallK, dMeth, dMake, dFor, dIL, dIT, dIR1, dIR2, dIE, dIZ, wipeD, dYes, dLc, dDic0, updM_same, cxOf, asBl_bl, asInt_int, asTup_tup, isN, w_test, w_chain, w_andV, w_orV, w_notV, w_neg, w_sub, w_div, w_mod, w_pow, w_shl, w_shr, w_and, w_or, w_xor, w_lt, w_le, w_gt, w_ge, w_add, w_addS, w_addT, w_addL, w_addF, w_addR, w_mul, w_mulL, w_eq, w_ne, w_isN, w_isB, w_isntN, w_isntB, w_ix, w_isi, w_abs, w_max2, w_min2, w_max1L, w_min1L, w_sum, w_all, w_any, w_len, w_int, w_intB, w_divmod, w_sorted, w_list, w_bits, w_sl, w_slL, w_slF, w_slR, w_slT, w_newF, w_newT, w_eqL, w_eqT, w_eqR, w_neL, w_neT, w_neR, w_dgT, w_derL, w_derT, w_derB, w_derI, w_derN, w_derS, w_eqSS, w_eqBB, w_neSS, w_neBB, w_eqBI, w_eqIN, w_neIN, w_eqNI, w_neNI, w_eqNN, w_neNN, w_NN, w_NI, w_IN])
  refine ⟨fun m ρ M' => M' = M ∧ ∃ (f : Int) (k : Nat), ρ = [some (.int n), some (.int (b : Nat)), some (.int f), some (.int (k : Nat))] ∧ 1 ≤ k ∧ k ≤ 2 * b ∧ (0 ≤ f ∧ f < 2 ^ k) ∧ (2 : Int) ^ k ∣ n * f - 1 ∧ m = b - k, ⟨b - 1, rfl, 1, 1, rfl, by omega, by omega, by decide, ⟨n / 2, by omega⟩, rfl⟩, ?_⟩
  rintro m ρ M' ⟨hM, f, k, rfl, hk, hk2, hf, hd, rfl⟩
  subst hM
  (try simp only [dgU, w_lrg, dCut, dDGet, dDGet1, dDGet2, dDPut, dPairs, w_disp, w_newDF, w_newDT, dec_self, List.map_cons, List.map_nil, eqD_bl, eqD_int, eqD_str, eqD_tup, eqD_lst, eqDs_nil, eqDs_nc, eqDs_cn, eqDs_cons, reduceIte, Bool.false_eq_true, Bool.not_true, Bool.not_false, decide_true, decide_false, dVar, atD, setD, startD, dC, dOp, dAnd, dOr, dNot, dIf, dUn, dNil, dCons, dTup, dLst, rInD, rNotInD, dNoPart, dPart, dRev, dFld, DL.fieldsOf, dCB, dNext, dSeq, dBreak, dCont, dDrop, dRet, dRetN, dIfS, dNever, dgN, dgNil, dgCons, dgSub, dAsg, dPar, dPar3, putD, dSetF, dMt, rAppendD, rPopD, rExtendD, lsT, lsR, lsF, itemsR, dFrz, dCall, dCallK, dMeth, dMake, dFor, dIL, dIT, dIR1, dIR2, dIE, dIZ, wipeD, dYes, dLc, dDic0, updM_same, cxOf, asBl_bl, asInt_int, asTup_tup, isN, w_test, w_chain, w_andV, w_orV, w_notV, w_neg, w_sub, w_div, w_mod, w_pow, w_shl, w_shr, w_and, w_or, w_xor, w_lt, w_le, w_gt, w_ge, w_add, w_addS, w_addT, w_addL, w_addF, w_addR, w_mul, w_mulL, w_eq, w_ne, w_isN, w_isB, w_isntN, w_isntB, w_ix, w_isi, w_abs, w_max2, w_min2, w_max1L, w_min1L, w_sum, w_all, w_any, w_len, w_int, w_intB, w_divmod, w_sorted, w_list, w_bits, w_sl, w_slL, w_slF, w_slR, w_slT, w_newF, w_newT, w_eqL, w_eqT, w_eqR, w_neL, w_neT, w_neR, w_dgT, w_derL, w_derT, w_derB, w_derI, w_derN, w_derS, w_eqSS, w_eqBB, w_neSS, w_neBB, w_eqBI, w_eqIN, w_neIN, w_eqNI, w_neNI, w_eqNN, w_neNN, w_NN, w_NI, w_IN])
  by_cases h : (k : Int) < b
  · simp only [h]
    (try simp only [dgU, w_lrg, dCut, dDGet, dDGet1, dDGet2, dDPut, dPairs, w_disp, w_newDF, w_newDT, dec_self, List.map_cons, List.map_nil, eqD_bl, eqD_int, eqD_str, eqD_tup, eqD_lst, eqDs_nil, eqDs_nc, eqDs_cn, eqDs_cons, reduceIte, Bool.false_eq_true, Bool.not_true, Bool.not_false, decide_true, decide_false, dVar, atD, setD, startD, dC, dOp, dAnd, dOr, dNot, dIf, dUn, dNil, dCons, dTup, dLst, rInD, rNotInD, dNoPart, dPart, dRev, dFld, DL.fieldsOf, dCB, dNext, dSeq, dBreak, dCont, dDrop, dRet, dRetN, dIfS, dNever, dgN, dgNil, dgCons, dgSub, dAsg, dPar, dPar3, putD, dSetF, dMt, rAppendD, rPopD, rExtendD, lsT, lsR, lsF, itemsR, dFrz, dCall, dCallK, dMeth, dMake, dFor, dIL, dIT, dIR1, dIR2, dIE, dIZ, wipeD, dYes, dLc, dDic0, updM_same, cxOf, asBl_bl, asInt_int, asTup_tup, isN, w_test, w_chain, w_andV, w_orV, w_notV, w_neg, w_sub, w_div, w_mod, w_pow, w_shl, w_shr, w_and, w_or, w_xor, w_lt, w_le, w_gt, w_ge, w_add, w_addS, w_addT, w_addL, w_addF, w_addR, w_mul, w_mulL, w_eq, w_ne, w_isN, w_isB, w_isntN, w_isntB, w_ix, w_isi, w_abs, w_max2, w_min2, w_max1L, w_min1L, w_sum, w_all, w_any, w_len, w_int, w_intB, w_divmod, w_sorted, w_list, w_bits, w_sl, w_slL, w_slF, w_slR, w_slT, w_newF, w_newT, w_eqL, w_eqT, w_eqR, w_neL, w_neT, w_neR, w_dgT, w_derL, w_derT, w_derB, w_derI, w_derN, w_derS, w_eqSS, w_eqBB, w_neSS, w_neBB, w_eqBI, w_eqIN, w_neIN, w_eqNI, w_neNI, w_eqNN, w_neNN, w_NN, w_NI, w_IN])
    have e1 : (2 : Int) * (k : Int) = ((2 * k : Nat) : Int) := by omega
    have e2 : (1 : Int) * 2 ^ ((2 : Int) * (k : Int)).toNat = 2 ^ (2 * k) := by
      rw [e1, Int.toNat_natCast, Int.one_mul]
    have hf2 : f.natAbs < 2 ^ 2000 := by
      have h1 := pow_mono (show k ≤ 2000 by omega)
      omega
    have hnf : (n * f).natAbs < 2 ^ 3000 := by
      rw [Int.natAbs_mul]
      refine Nat.lt_of_lt_of_le (Nat.mul_lt_mul'' hs hf2) ?_
      rw [← Nat.pow_add]
      exact Nat.le_refl _
    have hnf2 : (2 - n * f).natAbs < 2 ^ 4000 := by
      have h1 : (2 : Nat) ^ 3000 + 2 < 2 ^ 4000 := by decide +kernel
      omega
    rw [e2]
    have hp := two_pos (2 * k)
    refine ⟨mulOk_l (by decide), mulOk_b (m := 1000) (n := 2000) hs hf2 (by decide) (by decide), mulOk_b (m := 2000) (n := 4000) hf2 hnf2 (by decide) (by decide), shl1 (by omega) (by omega), by omega, b - 2 * k, by omega, trivial, _, 2 * k, rfl, by omega, by omega, ?_, ?_, rfl⟩
    · rw [fmodP hp]
      exact ⟨Int.emod_nonneg _ (by omega), Int.emod_lt_of_pos _ hp⟩
    · rw [fmodP hp]
      exact newton (Nat.le_refl _) hd
  · simp only [h]
    (try simp only [dgU, w_lrg, dCut, dDGet, dDGet1, dDGet2, dDPut, dPairs, w_disp, w_newDF, w_newDT, dec_self, List.map_cons, List.map_nil, eqD_bl, eqD_int, eqD_str, eqD_tup, eqD_lst, eqDs_nil, eqDs_nc, eqDs_cn, eqDs_cons, reduceIte, Bool.false_eq_true, Bool.not_true, Bool.not_false, decide_true, decide_false, dVar, atD, setD, startD, dC, dOp, dAnd, dOr, dNot, dIf, dUn, dNil, dCons, dTup, dLst, rInD, rNotInD, dNoPart, dPart, dRev, dFld, DL.fieldsOf, dCB, dNext, dSeq, dBreak, dCont, dDrop, dRet, dRetN, dIfS, dNever, dgN, dgNil, dgCons, dgSub, dAsg, dPar, dPar3, putD, dSetF, dMt, rAppendD, rPopD, rExtendD, lsT, lsR, lsF, itemsR, dFrz, dCall, dCallK, dMeth, dMake, dFor, dIL, dIT, dIR1, dIR2, dIE, dIZ, wipeD, dYes, dLc, dDic0, updM_same, cxOf, asBl_bl, asInt_int, asTup_tup, isN, w_test, w_chain, w_andV, w_orV, w_notV, w_neg, w_sub, w_div, w_mod, w_pow, w_shl, w_shr, w_and, w_or, w_xor, w_lt, w_le, w_gt, w_ge, w_add, w_addS, w_addT, w_addL, w_addF, w_addR, w_mul, w_mulL, w_eq, w_ne, w_isN, w_isB, w_isntN, w_isntB, w_ix, w_isi, w_abs, w_max2, w_min2, w_max1L, w_min1L, w_sum, w_all, w_any, w_len, w_int, w_intB, w_divmod, w_sorted, w_list, w_bits, w_sl, w_slL, w_slF, w_slR, w_slT, w_newF, w_newT, w_eqL, w_eqT, w_eqR, w_neL, w_neT, w_neR, w_dgT, w_derL, w_derT, w_derB, w_derI, w_derN, w_derS, w_eqSS, w_eqBB, w_neSS, w_neBB, w_eqBI, w_eqIN, w_neIN, w_eqNI, w_neNI, w_eqNN, w_neNN, w_NN, w_NI, w_IN])
    have hp := two_pos b
    rw [Int.toNat_natCast, Int.one_mul, fmodP hp]
    refine ⟨shl1 (by omega) (by omega), by omega, endD_of (hQ _ ⟨⟨Int.emod_nonneg _ (by omega), Int.emod_lt_of_pos _ hp⟩, ?_⟩)⟩
    obtain ⟨c, hc⟩ := mod_cong (2 ^ b) f
    obtain ⟨d, hd⟩ := hd
    obtain ⟨e, he⟩ := dvd_pow2 (show b ≤ k by omega)
    exact ⟨n * c + e * d, by grind⟩
abbrev sp_inverse (C : Addr) : SpD := fun ds M Q => ∃ (b : Nat) (s : Bool) (x : Int), ds = [kindD C b s, .int x] ∧ Wd b ∧ InK b s x ∧ (x % 2 = 0 → Q .non M) ∧ (x % 2 = 1 → ∀ r, InK b s r → (2 : Int) ^ b ∣ x * r - 1 → Q (.int r) M)
theorem ok_inverse (T : Txt K mg C_Kind) (F_check_kind : FnD P w K mg base 1 "check_kind" s_check_kind ["value"] (sp_chkk C_Kind)) (F_check_value : FnD P w K mg base 4 "check_value" s_check_value ["kind", "argument", "value"] (sp_chkv C_Kind)) (F_placed : FnD P w K mg base 2 "placed" s_placed ["kind", "n"] (sp_placed C_Kind)) (F_inverse_of : FnD P w K mg base 1 "inverse_of" s_inverse_of ["n", "bits"] (sp_invof)) : FnD P w K mg base 5 "inverse" s_inverse ["kind", "x"] (sp_inverse C_Kind) := by
  refine fn_mk T.h_inverse sc_inverse 2 rfl (by intro ds M Q h; first | (obtain ⟨rfl, _⟩ := h; rfl) | (obtain ⟨_, rfl, _⟩ := h; rfl) | (obtain ⟨_, _, rfl, _⟩ := h; rfl) | (obtain ⟨_, _, _, rfl, _⟩ := h; rfl) | (obtain ⟨_, _, _, _, rfl, _⟩ := h; rfl) | (obtain ⟨_, _, _, _, _, rfl, _⟩ := h; rfl) | (obtain ⟨_, _, _, _, _, _, rfl, _⟩ := h; rfl) | (obtain ⟨_, _, _, _, _, _, _, rfl, _⟩ := h; rfl) | (obtain ⟨_, _, _, _, _, _, _, _, rfl, _⟩ := h; rfl) | (obtain ⟨_, _, _, _, _, _, _, _, _, rfl, _⟩ := h; rfl) | (obtain ⟨_, _, _, _, _, _, _, _, _, _, rfl, _⟩ := h; rfl) | (obtain ⟨_, _, _, _, _, _, _, _, _, _, _, rfl, _⟩ := h; rfl) | (obtain ⟨_, _, _, _, _, _, _, _, _, _, _, _, rfl, _⟩ := h; rfl)) (fun f cdv A outer s H E hr => ⟨_, (dss_cons (ds_expr (de_call F_check_kind hr (da_cons (dv 0) da_nil)))
    (dss_cons (ds_expr (de_call F_check_value hr (da_cons (dv 0) (da_cons de_str (da_cons (dv 1) da_nil)))))
    (dss_one (ds_ret (de_if (dt_cmp (od_eq hr.units) (de_op od_mod (dv 1) de_int) de_int) (de_call F_placed hr (da_cons (dv 0) (da_cons (de_call F_inverse_of hr (da_cons (dv 1) (da_cons (de_fld C_Kind 0 T.cl_Kind T.nf_Kind_bits (dv 0)) da_nil))) da_nil))) de_non))))), ?_⟩)
  rintro ds M Q ⟨b, s, x, rfl, hb, hx, hQ0, hQ1⟩
  (try simp only [dgU, w_lrg, dCut, dDGet, dDGet1, dDGet2, dDPut, dPairs, w_disp, w_newDF, w_newDT, dec_self, List.map_cons, List.map_nil, eqD_bl, eqD_int, eqD_str, eqD_tup, eqD_lst, eqDs_nil, eqDs_nc, eqDs_cn, eqDs_cons, reduceIte, Bool.false_eq_true, Bool.not_true, Bool.not_false, decide_true, decide_false, dVar, atD, setD, startD, dC, dOp, dAnd, dOr, dNot, dIf, dUn, dNil, dCons, dTup, dLst, rInD, rNotInD, dNoPart, dPart, dRev, dFld, DL.fieldsOf, dCB, dNext, dSeq, dBreak, dCont, dDrop, dRet, dRetN, dIfS, dNever, dgN, dgNil, dgCons, dgSub, dAsg, dPar, dPar3, putD, dSetF, dMt, rAppendD, rPopD, rExtendD, lsT, lsR, lsF, itemsR, dFrz, dCall, dCallK, dMeth, dMake, dFor, dIL, dIT, dIR1, dIR2, dIE, dIZ, wipeD, dYes, dLc, dDic0, updM_same, cxOf, asBl_bl, asInt_int, asTup_tup, isN, w_test, w_chain, w_andV, w_orV, w_notV, w_neg, w_sub, w_div, w_mod, w_pow, w_shl, w_shr, w_and, w_or, w_xor, w_lt, w_le, w_gt, w_ge, w_add, w_addS, w_addT, w_addL, w_addF, w_addR, w_mul, w_mulL, w_eq, w_ne, w_isN, w_isB, w_isntN, w_isntB, w_ix, w_isi, w_abs, w_max2, w_min2, w_max1L, w_min1L, w_sum, w_all, w_any, w_len, w_int, w_intB, w_divmod, w_sorted, w_list, w_bits, w_sl, w_slL, w_slF, w_slR, w_slT, w_newF, w_newT, w_eqL, w_eqT, w_eqR, w_neL, w_neT, w_neR, w_dgT, w_derL, w_derT, w_derB, w_derI, w_derN, w_derS, w_eqSS, w_eqBB, w_neSS, w_neBB, w_eqBI, w_eqIN, w_neIN, w_eqNI, w_neNI, w_eqNN, w_neNN, w_NN, w_NI, w_IN])
  refine ⟨_, rfl, b, s, _, x, rfl, hb, hx, by decide, ?_⟩
  rw [fmodP (by decide)]
  by_cases h : x % 2 = 1
  · simp only [h]
    (try simp only [dgU, w_lrg, dCut, dDGet, dDGet1, dDGet2, dDPut, dPairs, w_disp, w_newDF, w_newDT, dec_self, List.map_cons, List.map_nil, eqD_bl, eqD_int, eqD_str, eqD_tup, eqD_lst, eqDs_nil, eqDs_nc, eqDs_cn, eqDs_cons, reduceIte, Bool.false_eq_true, Bool.not_true, Bool.not_false, decide_true, decide_false, dVar, atD, setD, startD, dC, dOp, dAnd, dOr, dNot, dIf, dUn, dNil, dCons, dTup, dLst, rInD, rNotInD, dNoPart, dPart, dRev, dFld, DL.fieldsOf, dCB, dNext, dSeq, dBreak, dCont, dDrop, dRet, dRetN, dIfS, dNever, dgN, dgNil, dgCons, dgSub, dAsg, dPar, dPar3, putD, dSetF, dMt, rAppendD, rPopD, rExtendD, lsT, lsR, lsF, itemsR, dFrz, dCall, dCallK, dMeth, dMake, dFor, dIL, dIT, dIR1, dIR2, dIE, dIZ, wipeD, dYes, dLc, dDic0, updM_same, cxOf, asBl_bl, asInt_int, asTup_tup, isN, w_test, w_chain, w_andV, w_orV, w_notV, w_neg, w_sub, w_div, w_mod, w_pow, w_shl, w_shr, w_and, w_or, w_xor, w_lt, w_le, w_gt, w_ge, w_add, w_addS, w_addT, w_addL, w_addF, w_addR, w_mul, w_mulL, w_eq, w_ne, w_isN, w_isB, w_isntN, w_isntB, w_ix, w_isi, w_abs, w_max2, w_min2, w_max1L, w_min1L, w_sum, w_all, w_any, w_len, w_int, w_intB, w_divmod, w_sorted, w_list, w_bits, w_sl, w_slL, w_slF, w_slR, w_slT, w_newF, w_newT, w_eqL, w_eqT, w_eqR, w_neL, w_neT, w_neR, w_dgT, w_derL, w_derT, w_derB, w_derI, w_derN, w_derS, w_eqSS, w_eqBB, w_neSS, w_neBB, w_eqBI, w_eqIN, w_neIN, w_eqNI, w_neNI, w_eqNN, w_neNN, w_NN, w_NI, w_IN])
    refine ⟨_, _, rfl, rfl, x, b, rfl, h, Nat.lt_trans (in_small hb hx) (by decide +kernel), hb.1, by omega, fun r hr => ?_⟩
    refine ⟨b, s, r, rfl, hb, endD_of (hQ1 h _ (placed_inK b s r) ?_)⟩
    obtain ⟨c, hc⟩ := placed_cong b s r
    obtain ⟨d, hd⟩ := hr.2
    exact ⟨x * c + d, by grind⟩
  · simp only [h]
    (try simp only [dgU, w_lrg, dCut, dDGet, dDGet1, dDGet2, dDPut, dPairs, w_disp, w_newDF, w_newDT, dec_self, List.map_cons, List.map_nil, eqD_bl, eqD_int, eqD_str, eqD_tup, eqD_lst, eqDs_nil, eqDs_nc, eqDs_cn, eqDs_cons, reduceIte, Bool.false_eq_true, Bool.not_true, Bool.not_false, decide_true, decide_false, dVar, atD, setD, startD, dC, dOp, dAnd, dOr, dNot, dIf, dUn, dNil, dCons, dTup, dLst, rInD, rNotInD, dNoPart, dPart, dRev, dFld, DL.fieldsOf, dCB, dNext, dSeq, dBreak, dCont, dDrop, dRet, dRetN, dIfS, dNever, dgN, dgNil, dgCons, dgSub, dAsg, dPar, dPar3, putD, dSetF, dMt, rAppendD, rPopD, rExtendD, lsT, lsR, lsF, itemsR, dFrz, dCall, dCallK, dMeth, dMake, dFor, dIL, dIT, dIR1, dIR2, dIE, dIZ, wipeD, dYes, dLc, dDic0, updM_same, cxOf, asBl_bl, asInt_int, asTup_tup, isN, w_test, w_chain, w_andV, w_orV, w_notV, w_neg, w_sub, w_div, w_mod, w_pow, w_shl, w_shr, w_and, w_or, w_xor, w_lt, w_le, w_gt, w_ge, w_add, w_addS, w_addT, w_addL, w_addF, w_addR, w_mul, w_mulL, w_eq, w_ne, w_isN, w_isB, w_isntN, w_isntB, w_ix, w_isi, w_abs, w_max2, w_min2, w_max1L, w_min1L, w_sum, w_all, w_any, w_len, w_int, w_intB, w_divmod, w_sorted, w_list, w_bits, w_sl, w_slL, w_slF, w_slR, w_slT, w_newF, w_newT, w_eqL, w_eqT, w_eqR, w_neL, w_neT, w_neR, w_dgT, w_derL, w_derT, w_derB, w_derI, w_derN, w_derS, w_eqSS, w_eqBB, w_neSS, w_neBB, w_eqBI, w_eqIN, w_neIN, w_eqNI, w_neNI, w_eqNN, w_neNN, w_NN, w_NI, w_IN])
    exact endD_of (hQ0 (by omega))
/-- how often 2 divides n, at most m -/
abbrev TwosOf (n : Int) (m k : Nat) : Prop := k ≤ m ∧ (2 : Int) ^ k ∣ n ∧ (k < m → ¬ (2 : Int) ^ (k + 1) ∣ n)
theorem low_form : ∀ (n : Int), n ≠ 0 → ∃ (k : Nat) (a : Int), n = 2 ^ k * (2 * a + 1) := by
  intro n
  generalize h : n.natAbs = m
  induction m using Nat.strongRecOn generalizing n with
  | ind m ih =>
    intro h0
    rcases odd_cases n with h2 | h2
    · obtain ⟨k, a, e⟩ := ih (n / 2).natAbs (by omega) (n / 2) rfl (by omega)
      exact ⟨k + 1, a, by rw [Int.pow_succ]; grind⟩
    · exact ⟨0, n / 2, by rw [Int.pow_zero]; omega⟩
theorem bits_pow (k : Nat) : Builtin.Int.intBits (2 ^ k) = k + 1 := by
  have h := two_pos k
  have e : ((2 : Int) ^ k).natAbs = 2 ^ k := by
    rw [Int.natAbs_pow]
    rfl
  unfold Builtin.Int.intBits
  rw [if_neg (by simp; omega), e, Nat.log2_two_pow]
theorem twos_uniq {n : Int} {m k l : Nat} (h : TwosOf n m k) (g : TwosOf n m l) : k = l := by
  rcases Nat.lt_trichotomy k l with q | q | q
  · have := g.1
    exact absurd (Int.dvd_trans (dvd_pow2 q) g.2.1) (h.2.2 (by omega))
  · exact q
  · have := h.1
    exact absurd (Int.dvd_trans (dvd_pow2 q) h.2.1) (g.2.2 (by omega))
abbrev sp_twosin : SpD := fun ds M Q => ∃ (n : Int) (m : Nat), ds = [.int n, .int (m : Nat)] ∧ m ≤ 1000 ∧ ∀ k : Nat, TwosOf n m k → Q (.int (k : Nat)) M
theorem ok_twos_in (T : Txt K mg C_Kind) : FnD P w K mg base 1 "twos_in" s_twos_in ["n", "most"] (sp_twosin) := by
  refine fn_mk T.h_twos_in sc_twos_in 2 rfl (by intro ds M Q h; first | (obtain ⟨rfl, _⟩ := h; rfl) | (obtain ⟨_, rfl, _⟩ := h; rfl) | (obtain ⟨_, _, rfl, _⟩ := h; rfl) | (obtain ⟨_, _, _, rfl, _⟩ := h; rfl) | (obtain ⟨_, _, _, _, rfl, _⟩ := h; rfl) | (obtain ⟨_, _, _, _, _, rfl, _⟩ := h; rfl) | (obtain ⟨_, _, _, _, _, _, rfl, _⟩ := h; rfl) | (obtain ⟨_, _, _, _, _, _, _, rfl, _⟩ := h; rfl) | (obtain ⟨_, _, _, _, _, _, _, _, rfl, _⟩ := h; rfl) | (obtain ⟨_, _, _, _, _, _, _, _, _, rfl, _⟩ := h; rfl) | (obtain ⟨_, _, _, _, _, _, _, _, _, _, rfl, _⟩ := h; rfl) | (obtain ⟨_, _, _, _, _, _, _, _, _, _, _, rfl, _⟩ := h; rfl) | (obtain ⟨_, _, _, _, _, _, _, _, _, _, _, _, rfl, _⟩ := h; rfl)) (fun f cdv A outer s H E hr => ⟨_, (dss_cons (ds_set (i := 0) sc_twos_in.nd (de_op od_mod (dv 0) (de_op od_shl de_int (dv 1))))
    (dss_one (ds_ret (de_if (dt_cmp (od_eq hr.units) (dv 0) de_int) (dv 1) (de_op od_sub (de_bits (de_op od_and (dv 0) (de_op od_sub de_int (dv 0)))) de_int))))), ?_⟩)
  rintro ds M Q ⟨n, m, rfl, hm, hQ⟩
  (try simp only [dgU, w_lrg, dCut, dDGet, dDGet1, dDGet2, dDPut, dPairs, w_disp, w_newDF, w_newDT, dec_self, List.map_cons, List.map_nil, eqD_bl, eqD_int, eqD_str, eqD_tup, eqD_lst, eqDs_nil, eqDs_nc, eqDs_cn, eqDs_cons, reduceIte, Bool.false_eq_true, Bool.not_true, Bool.not_false, decide_true, decide_false, dVar, atD, setD, startD, dC, dOp, dAnd, dOr, dNot, dIf, dUn, dNil, dCons, dTup, dLst, rInD, rNotInD, dNoPart, dPart, dRev, dFld, DL.fieldsOf, dCB, dNext, dSeq, dBreak, dCont, dDrop, dRet, dRetN, dIfS, dNever, dgN, dgNil, dgCons, dgSub, dAsg, dPar, dPar3, putD, dSetF, dMt, rAppendD, rPopD, rExtendD, lsT, lsR, lsF, itemsR, dFrz, dCall, dCallK, dMeth, dMake, dFor, dIL, dIT, dIR1, dIR2, dIE, dIZ, wipeD, dYes, dLc, dDic0, updM_same, cxOf, asBl_bl, asInt_int, asTup_tup, isN, w_test, w_chain, w_andV, w_orV, w_notV, w_neg, w_sub, w_div, w_mod, w_pow, w_shl, w_shr, w_and, w_or, w_xor, w_lt, w_le, w_gt, w_ge, w_add, w_addS, w_addT, w_addL, w_addF, w_addR, w_mul, w_mulL, w_eq, w_ne, w_isN, w_isB, w_isntN, w_isntB, w_ix, w_isi, w_abs, w_max2, w_min2, w_max1L, w_min1L, w_sum, w_all, w_any, w_len, w_int, w_intB, w_divmod, w_sorted, w_list, w_bits, w_sl, w_slL, w_slF, w_slR, w_slT, w_newF, w_newT, w_eqL, w_eqT, w_eqR, w_neL, w_neT, w_neR, w_dgT, w_derL, w_derT, w_derB, w_derI, w_derN, w_derS, w_eqSS, w_eqBB, w_neSS, w_neBB, w_eqBI, w_eqIN, w_neIN, w_eqNI, w_neNI, w_eqNN, w_neNN, w_NN, w_NI, w_IN])
  have hp := two_pos m
  rw [Int.toNat_natCast, Int.one_mul, fmodP hp]
  refine ⟨shl1 (by omega) (by omega), by omega, ?_⟩
  by_cases h : n % 2 ^ m = 0
  · simp only [h]
    (try simp only [dgU, w_lrg, dCut, dDGet, dDGet1, dDGet2, dDPut, dPairs, w_disp, w_newDF, w_newDT, dec_self, List.map_cons, List.map_nil, eqD_bl, eqD_int, eqD_str, eqD_tup, eqD_lst, eqDs_nil, eqDs_nc, eqDs_cn, eqDs_cons, reduceIte, Bool.false_eq_true, Bool.not_true, Bool.not_false, decide_true, decide_false, dVar, atD, setD, startD, dC, dOp, dAnd, dOr, dNot, dIf, dUn, dNil, dCons, dTup, dLst, rInD, rNotInD, dNoPart, dPart, dRev, dFld, DL.fieldsOf, dCB, dNext, dSeq, dBreak, dCont, dDrop, dRet, dRetN, dIfS, dNever, dgN, dgNil, dgCons, dgSub, dAsg, dPar, dPar3, putD, dSetF, dMt, rAppendD, rPopD, rExtendD, lsT, lsR, lsF, itemsR, dFrz, dCall, dCallK, dMeth, dMake, dFor, dIL, dIT, dIR1, dIR2, dIE, dIZ, wipeD, dYes, dLc, dDic0, updM_same, cxOf, asBl_bl, asInt_int, asTup_tup, isN, w_test, w_chain, w_andV, w_orV, w_notV, w_neg, w_sub, w_div, w_mod, w_pow, w_shl, w_shr, w_and, w_or, w_xor, w_lt, w_le, w_gt, w_ge, w_add, w_addS, w_addT, w_addL, w_addF, w_addR, w_mul, w_mulL, w_eq, w_ne, w_isN, w_isB, w_isntN, w_isntB, w_ix, w_isi, w_abs, w_max2, w_min2, w_max1L, w_min1L, w_sum, w_all, w_any, w_len, w_int, w_intB, w_divmod, w_sorted, w_list, w_bits, w_sl, w_slL, w_slF, w_slR, w_slT, w_newF, w_newT, w_eqL, w_eqT, w_eqR, w_neL, w_neT, w_neR, w_dgT, w_derL, w_derT, w_derB, w_derI, w_derN, w_derS, w_eqSS, w_eqBB, w_neSS, w_neBB, w_eqBI, w_eqIN, w_neIN, w_eqNI, w_neNI, w_eqNN, w_neNN, w_NN, w_NI, w_IN])
    exact endD_of (hQ m ⟨Nat.le_refl _, Int.dvd_of_emod_eq_zero h, fun q => absurd q (Nat.lt_irrefl _)⟩)
  · simp only [h]
    (try simp only [dgU, w_lrg, dCut, dDGet, dDGet1, dDGet2, dDPut, dPairs, w_disp, w_newDF, w_newDT, dec_self, List.map_cons, List.map_nil, eqD_bl, eqD_int, eqD_str, eqD_tup, eqD_lst, eqDs_nil, eqDs_nc, eqDs_cn, eqDs_cons, reduceIte, Bool.false_eq_true, Bool.not_true, Bool.not_false, decide_true, decide_false, dVar, atD, setD, startD, dC, dOp, dAnd, dOr, dNot, dIf, dUn, dNil, dCons, dTup, dLst, rInD, rNotInD, dNoPart, dPart, dRev, dFld, DL.fieldsOf, dCB, dNext, dSeq, dBreak, dCont, dDrop, dRet, dRetN, dIfS, dNever, dgN, dgNil, dgCons, dgSub, dAsg, dPar, dPar3, putD, dSetF, dMt, rAppendD, rPopD, rExtendD, lsT, lsR, lsF, itemsR, dFrz, dCall, dCallK, dMeth, dMake, dFor, dIL, dIT, dIR1, dIR2, dIE, dIZ, wipeD, dYes, dLc, dDic0, updM_same, cxOf, asBl_bl, asInt_int, asTup_tup, isN, w_test, w_chain, w_andV, w_orV, w_notV, w_neg, w_sub, w_div, w_mod, w_pow, w_shl, w_shr, w_and, w_or, w_xor, w_lt, w_le, w_gt, w_ge, w_add, w_addS, w_addT, w_addL, w_addF, w_addR, w_mul, w_mulL, w_eq, w_ne, w_isN, w_isB, w_isntN, w_isntB, w_ix, w_isi, w_abs, w_max2, w_min2, w_max1L, w_min1L, w_sum, w_all, w_any, w_len, w_int, w_intB, w_divmod, w_sorted, w_list, w_bits, w_sl, w_slL, w_slF, w_slR, w_slT, w_newF, w_newT, w_eqL, w_eqT, w_eqR, w_neL, w_neT, w_neR, w_dgT, w_derL, w_derT, w_derB, w_derI, w_derN, w_derS, w_eqSS, w_eqBB, w_neSS, w_neBB, w_eqBI, w_eqIN, w_neIN, w_eqNI, w_neNI, w_eqNN, w_neNN, w_NN, w_NI, w_IN])
    obtain ⟨k, a, hk⟩ := low_form (n % 2 ^ m) h
    rw [Int.zero_sub, hk, PySem.W.kbt_low, bits_pow]
    have hr := Int.emod_nonneg n (show (2 : Int) ^ m ≠ 0 by omega)
    have hr2 := Int.emod_lt_of_pos n hp
    obtain ⟨c, hc⟩ := mod_cong (2 ^ m) n
    have hkm : k < m := by
      rcases Nat.lt_or_ge k m with q | q
      · exact q
      · exfalso
        have h1 := pow_mono q
        have h2 : 0 ≤ a := by
          rcases Int.lt_or_le a 0 with g | g
          · have : (2 : Int) ^ k * (2 * a + 1) ≤ 2 ^ k * (-1) := Int.mul_le_mul_of_nonneg_left (by omega) (by omega)
            omega
          · exact g
        have h3 : (2 : Int) ^ k * 1 ≤ 2 ^ k * (2 * a + 1) := Int.mul_le_mul_of_nonneg_left (by omega) (by omega)
        omega
    have hs : ((k + 1 : Nat) : Int) - 1 = (k : Nat) := by omega
    rw [hs]
    refine endD_of (hQ k ⟨by omega, ?_, fun _ q => ?_⟩)
    · obtain ⟨e, he⟩ := dvd_pow2 (show k ≤ m by omega)
      exact ⟨2 * a + 1 - e * c, by grind⟩
    · obtain ⟨d, hd⟩ := q
      obtain ⟨e, he⟩ := dvd_pow2 (show k + 1 ≤ m by omega)
      have h2 : (2 : Int) ^ k * (2 * a + 1) = 2 ^ k * (2 * (d + e * c)) := by
        rw [Int.pow_succ] at hd he
        grind
      have := Int.eq_of_mul_eq_mul_left (show (2 : Int) ^ k ≠ 0 by have := two_pos k; omega) h2
      omega
abbrev sp_twos (C : Addr) : SpD := fun ds M Q => ∃ (b : Nat) (s : Bool) (x : Int), ds = [kindD C b s, .int x] ∧ Wd b ∧ InK b s x ∧ ∀ k : Nat, TwosOf x b k → Q (.int (k : Nat)) M
/-! ### counting -/
open Classical in
noncomputable def cntP (p : Nat → Prop) : Nat → Int
  | 0 => 0
  | n + 1 => cntP p n + (if p n then 1 else 0)
theorem cnt_congr {p q : Nat → Prop} : ∀ {n : Nat}, (∀ i, i < n → (p i ↔ q i)) → cntP p n = cntP q n
  | 0, _ => rfl
  | n + 1, h => by
    unfold cntP
    rw [cnt_congr fun i hi => h i (by omega)]
    have e : p n ↔ q n := h n (by omega)
    by_cases g : p n
    · rw [if_pos g, if_pos (e.mp g)]
    · rw [if_neg g, if_neg fun q => g (e.mpr q)]
theorem cnt_add (p : Nat → Prop) (n : Nat) : ∀ k : Nat, cntP p (n + k) = cntP p n + cntP (fun i => p (n + i)) k
  | 0 => by simp [cntP]
  | k + 1 => by
    show cntP p (n + k) + _ = _ + (cntP _ k + _)
    rw [cnt_add p n k]
    exact Int.add_assoc _ _ _
theorem cnt_step {p : Nat → Prop} {n : Nat} {e : Bool} (h : e = true ↔ p n) : cntP p n + (if e = true then 1 else 0) = cntP p (n + 1) := by
  show _ = cntP p n + _
  congr 1
  by_cases g : p n
  · rw [if_pos g, if_pos (h.mpr g)]
  · rw [if_neg g, if_neg fun q => g (h.mp q)]
theorem cnt_one (p : Nat → Prop) : cntP p 1 = (open Classical in if p 0 then 1 else 0) := by
  show 0 + _ = _
  rw [Int.zero_add]
theorem cnt_mod {m : Nat} {L : Int} (hL : 0 ≤ L) (s : Nat) : cntP (fun i => L ≤ ((i : Int) + s) % m) m = max 0 (m - L) := by
  induction s with
  | zero =>
    have key : ∀ n : Nat, n ≤ m → cntP (fun i => L ≤ ((i : Int) + ((0 : Nat) : Int)) % m) n = max 0 (n - L) := by
      intro n
      induction n with
      | zero =>
        intro _
        show (0 : Int) = _
        omega
      | succ n ih =>
        intro hn
        show cntP _ n + _ = _
        rw [ih (by omega)]
        have e : ((n : Int) + ((0 : Nat) : Int)) % m = n := by
          rw [show (n : Int) + ((0 : Nat) : Int) = n by omega]
          exact Int.emod_eq_of_lt (by omega) (by omega)
        by_cases g : L ≤ (n : Int)
        · rw [if_pos (by show L ≤ ((n : Int) + ((0 : Nat) : Int)) % m; rw [e]; exact g)]
          omega
        · rw [if_neg (by show ¬ L ≤ ((n : Int) + ((0 : Nat) : Int)) % m; rw [e]; exact g)]
          omega
    exact key m (Nat.le_refl _)
  | succ s ih =>
    rw [← ih]
    have h1 := cnt_add (fun i => L ≤ ((i : Int) + s) % m) 1 m
    have h2 := cnt_add (fun i => L ≤ ((i : Int) + s) % m) m 1
    rw [Nat.add_comm 1 m, h2, cnt_one, cnt_one] at h1
    have e : (((m + 0 : Nat) : Int) + s) % m = (((0 : Nat) : Int) + s) % m := by
      rw [show ((m + 0 : Nat) : Int) + s = ((0 : Nat) : Int) + s + m * 1 by omega, Int.add_mul_emod_self_left]
    have e2 : cntP (fun i => L ≤ (((1 + i : Nat) : Int) + s) % m) m = cntP (fun i => L ≤ ((i : Int) + ((s + 1 : Nat) : Int)) % m) m := cnt_congr fun i _ => by
      rw [show ((1 + i : Nat) : Int) + s = (i : Int) + ((s + 1 : Nat) : Int) by omega]
    rw [← e2]
    simp only [e] at h1
    omega
theorem cnt_rounds {m : Nat} {L : Int} (hL : 0 ≤ L) (s : Nat) : ∀ k : Nat, cntP (fun i => L ≤ ((i : Int) + s) % m) (m * k) = max 0 (m - L) * k
  | 0 => by simp [cntP]
  | k + 1 => by
    rw [Nat.mul_succ, cnt_add, cnt_rounds hL s k]
    have e : cntP (fun i => L ≤ (((m * k + i : Nat) : Int) + s) % m) m = cntP (fun i => L ≤ ((i : Int) + s) % m) m := cnt_congr fun i _ => by
      have : (((m * k + i : Nat) : Int) + s) % m = ((i : Int) + s) % m := by
        rw [show ((m * k + i : Nat) : Int) + s = (i : Int) + s + m * k by rw [Int.natCast_add, Int.natCast_mul]; omega, Int.add_mul_emod_self_left]
      rw [this]
    rw [e, cnt_mod hL s, Int.natCast_add, Int.mul_add]
    simp
theorem inv_exists {x : Int} (hx : x % 2 = 1) : ∀ b : Nat, ∃ r : Int, (2 : Int) ^ b ∣ x * r - 1
  | 0 => ⟨0, ⟨x * 0 - 1, by simp⟩⟩
  | 1 => ⟨1, ⟨x / 2, by omega⟩⟩
  | b + 2 => by
    obtain ⟨r, hr⟩ := inv_exists hx (b + 1)
    exact ⟨_, newton (l := b + 2) (by omega) hr⟩
/-- what a step reaches: all that is alike modulo its power of two -/
theorem reach {b t : Nat} {c i v : Int} (ht : TwosOf c b t) (hv : 0 ≤ v ∧ v < 2 ^ b) : (∃ n : Nat, (i + c * (n : Nat)) % 2 ^ b = v) ↔ (2 : Int) ^ t ∣ v - i := by
  have hp := two_pos b
  constructor
  · rintro ⟨n, hn⟩
    obtain ⟨d, hd⟩ := mod_cong (2 ^ b) (i + c * (n : Nat))
    obtain ⟨e, he⟩ := dvd_pow2 ht.1
    obtain ⟨f, hf⟩ := ht.2.1
    exact ⟨f * n + e * d, by grind⟩
  · rintro ⟨d, hd⟩
    rcases Nat.lt_or_ge t b with g | g
    · obtain ⟨f, hf⟩ := ht.2.1
      have hodd : f % 2 = 1 := by
        rcases odd_cases f with q | q
        · exfalso
          refine ht.2.2 g ⟨f / 2, ?_⟩
          rw [Int.pow_succ]
          have : f = 2 * (f / 2) := by omega
          grind
        · exact q
      obtain ⟨r, hr⟩ := inv_exists hodd b
      obtain ⟨n, hn⟩ := Int.eq_ofNat_of_zero_le (Int.emod_nonneg (r * d) (show (2 : Int) ^ b ≠ 0 by omega))
      refine ⟨n, ?_⟩
      rw [← Int.emod_eq_of_lt hv.1 hv.2]
      refine mod_congr ?_
      rw [← hn]
      obtain ⟨x, hx⟩ := mod_cong (2 ^ b) (r * d)
      obtain ⟨y, hy⟩ := hr
      exact ⟨c * x + 2 ^ t * y * d, by grind⟩
    · have e : t = b := by have := ht.1; omega
      subst e
      refine ⟨0, ?_⟩
      rw [← Int.emod_eq_of_lt hv.1 hv.2]
      exact mod_congr ⟨-d, by simp; grind⟩
/-! ### starts that never end -/
/-- the starts that never end, counted -/
noncomputable def endlessZ (b : Nat) (s : Bool) (w : Word) (u c : Int) : Int := cntP (fun i => FirstR b s (lowZ b s + (i : Nat)) w u c none) (2 ^ b)
theorem endless_ne {b t : Nat} {s : Bool} {w : Word} {u c : Int} (hb : Wd b) (hw : w ≠ .eq) (hu : InK b s u) (ht : TwosOf c b t) :
    endlessZ b s w u c = max 0 (2 ^ t - max 0 (stopHi w (u - lowZ b s) (2 ^ b) - stopLo w (u - lowZ b s) + 1)) * 2 ^ (b - t) := by
  have hin := stop_in (w := w) hu
  unfold endlessZ
  generalize hlo : stopLo w (u - lowZ b s) = lo at *
  generalize hhi : stopHi w (u - lowZ b s) (2 ^ b) = hi at *
  have hp := two_pos b
  have hpt := two_pos t
  have hN : ((2 ^ t : Nat) : Int) = 2 ^ t := by simp
  have hNb : ((2 ^ b : Nat) : Int) = 2 ^ b := by simp
  have hbt : 2 ^ b = 2 ^ t * 2 ^ (b - t) := by rw [← Nat.pow_add]; congr 1; have := ht.1; omega
  have hL : 0 ≤ max 0 (hi - lo + 1) := by omega
  obtain ⟨z, hz⟩ := Int.eq_ofNat_of_zero_le (Int.emod_nonneg (-lo) (show (2 : Int) ^ t ≠ 0 by omega))
  have key : ∀ i, i < 2 ^ b → (FirstR b s (lowZ b s + (i : Nat)) w u c none ↔ max 0 (hi - lo + 1) ≤ ((i : Int) + z) % ((2 ^ t : Nat) : Int)) := by
    intro i hi2
    have e0 : ((i : Int) + z) % ((2 ^ t : Nat) : Int) = ((i : Int) - lo) % 2 ^ t := by
      rw [hN]
      refine mod_congr ?_
      obtain ⟨d, hd⟩ := mod_cong (2 ^ t) (-lo)
      exact ⟨d, by omega⟩
    rw [e0]
    have e1 : FirstR b s (lowZ b s + (i : Nat)) w u c none ↔ ∀ n : Nat, ¬ (lo ≤ ((i : Int) + c * (n : Nat)) % 2 ^ b ∧ ((i : Int) + c * (n : Nat)) % 2 ^ b ≤ hi) := by
      refine forall_congr' fun n => not_congr ?_
      show holdsZ w (placedZ b s (lowZ b s + (i : Nat) + (n : Nat) * c)) u = false ↔ _
      rw [stop_iff hw (placed_inK b s _), placed_sub, hlo, hhi]
      rw [show lowZ b s + (i : Nat) + (n : Nat) * c - lowZ b s = (i : Int) + c * (n : Nat) by rw [Int.mul_comm]; omega]
    rw [e1]
    have q1 := Int.emod_nonneg ((i : Int) - lo) (show (2 : Int) ^ t ≠ 0 by omega)
    have q2 := Int.emod_lt_of_pos ((i : Int) - lo) hpt
    have q3 := mod_cong (2 ^ t) ((i : Int) - lo)
    constructor
    · intro h
      rcases Int.lt_or_le (((i : Int) - lo) % 2 ^ t) (max 0 (hi - lo + 1)) with g | g
      · exfalso
        have hle : lo ≤ hi := by omega
        obtain ⟨h0, h1⟩ := hin hle
        obtain ⟨n, hn⟩ := (reach (i := (i : Int)) (v := lo + ((i : Int) - lo) % 2 ^ t) ht ⟨by omega, by omega⟩).mpr (by
          obtain ⟨d, hd⟩ := q3
          exact ⟨d, by omega⟩)
        exact h n ⟨by rw [hn]; omega, by rw [hn]; omega⟩
      · exact g
    · intro h n hn
      have v1 := Int.emod_nonneg ((i : Int) + c * (n : Nat)) (show (2 : Int) ^ b ≠ 0 by omega)
      have v2 := Int.emod_lt_of_pos ((i : Int) + c * (n : Nat)) hp
      have hd := (reach (i := (i : Int)) ht ⟨v1, v2⟩).mp ⟨n, rfl⟩
      generalize ((i : Int) + c * (n : Nat)) % 2 ^ b = v at *
      have e : ((i : Int) - lo) % 2 ^ t = v - lo := by
        have : ((i : Int) - lo) % 2 ^ t = (v - lo) % 2 ^ t := mod_congr (by
          obtain ⟨d, hd⟩ := hd
          exact ⟨-d, by rw [Int.mul_neg]; omega⟩)
        rw [this]
        rcases Int.lt_or_le (v - lo) (2 ^ t) with g | g
        · exact Int.emod_eq_of_lt (by omega) g
        · omega
      omega
  rw [cnt_congr key, hbt, cnt_rounds hL z]
  rw [hN]
  congr 1
theorem cnt_none {p : Nat → Prop} : ∀ {n : Nat}, (∀ i, i < n → ¬ p i) → cntP p n = 0
  | 0, _ => rfl
  | n + 1, h => by
    show cntP p n + _ = 0
    rw [cnt_none fun i hi => h i (by omega), if_neg (h n (by omega))]
    rfl
theorem cnt_eq {p : Nat → Prop} {j : Nat} : ∀ {n : Nat}, (∀ i, i < n → (p i ↔ i = j)) → cntP p n = if j < n then 1 else 0
  | 0, _ => rfl
  | n + 1, h => by
    show cntP p n + _ = _
    rw [cnt_eq fun i hi => h i (by omega)]
    have e := h n (by omega)
    by_cases g : n = j
    · rw [if_pos (e.mpr g), if_neg (by omega), if_pos (by omega)]
      rfl
    · rw [if_neg fun q => g (e.mp q)]
      by_cases g2 : j < n
      · rw [if_pos g2, if_pos (by omega)]
        rfl
      · rw [if_neg g2, if_neg (by omega)]
        rfl
theorem step_zero {b : Nat} {s : Bool} {c : Int} (hb : 1 ≤ b) (hc : InK b s c) (h : (2 : Int) ^ b ∣ c) : c = 0 := by
  obtain ⟨e, he⟩ := h
  have hp := two_pos b
  have l := low_half b s hb
  obtain ⟨h1, h2⟩ := hc
  rcases Int.lt_trichotomy e 0 with g | g | g
  · have : (2 : Int) ^ b * e ≤ 2 ^ b * (-1) := Int.mul_le_mul_of_nonneg_left (by omega) (by omega)
    omega
  · rw [g] at he
    omega
  · have : (2 : Int) ^ b * 1 ≤ 2 ^ b * e := Int.mul_le_mul_of_nonneg_left (by omega) (by omega)
    omega
theorem endless_eq {b : Nat} {s : Bool} {u c : Int} (hb : Wd b) (hu : InK b s u) (hc : InK b s c) : endlessZ b s .eq u c = if c = 0 then 1 else 0 := by
  have hNb : ((2 ^ b : Nat) : Int) = 2 ^ b := by simp
  have hv : ∀ i : Nat, i < 2 ^ b → InK b s (lowZ b s + (i : Nat)) := fun i hi => ⟨by omega, by omega⟩
  by_cases h : c = 0
  · rw [if_pos h]
    subst h
    obtain ⟨j, hj⟩ := Int.eq_ofNat_of_zero_le (show 0 ≤ u - lowZ b s by have := hu.1; omega)
    have := cnt_eq (p := fun i => FirstR b s (lowZ b s + (i : Nat)) .eq u 0 none) (j := j) (n := 2 ^ b) (fun i hi => by
      have e : ∀ n : Nat, placedZ b s (lowZ b s + (i : Nat) + (n : Nat) * 0) = lowZ b s + (i : Nat) := fun n => by
        rw [Int.mul_zero, Int.add_zero]
        exact placed_same (hv i hi).1 (hv i hi).2
      constructor
      · intro g
        have g0 : ¬ holdsZ .eq (placedZ b s (lowZ b s + (i : Nat) + ((0 : Nat) : Int) * 0)) u = false := g 0
        rw [e] at g0
        have : lowZ b s + (i : Nat) = u := by
          cases q : holdsZ .eq (lowZ b s + (i : Nat)) u with
          | false => exact absurd q g0
          | true => exact of_decide_eq_true q
        omega
      · intro g n
        show ¬ holdsZ .eq (placedZ b s (lowZ b s + (i : Nat) + (n : Nat) * 0)) u = false
        rw [e, show lowZ b s + (i : Nat) = u by omega]
        simp [holdsZ])
    rw [if_pos (by have := hu.2; omega)] at this
    exact this
  · rw [if_neg h]
    refine cnt_none fun i hi g => h ?_
    have g0 : placedZ b s (lowZ b s + (i : Nat) + ((0 : Nat) : Int) * c) = u := by
      cases q : holdsZ .eq (placedZ b s (lowZ b s + (i : Nat) + ((0 : Nat) : Int) * c)) u with
      | false => exact absurd q (g 0)
      | true => exact of_decide_eq_true q
    have g1 : placedZ b s (lowZ b s + (i : Nat) + ((1 : Nat) : Int) * c) = u := by
      cases q : holdsZ .eq (placedZ b s (lowZ b s + (i : Nat) + ((1 : Nat) : Int) * c)) u with
      | false => exact absurd q (g 1)
      | true => exact of_decide_eq_true q
    obtain ⟨d, hd⟩ := placed_iff.mp (g1.trans g0.symm)
    exact step_zero hb.1 hc ⟨d, by rw [← hd]; simp; omega⟩
theorem max_if {x : Int} : (if x > 0 then x else 0) = max 0 x := by
  split <;> omega
abbrev sp_endless (C : Addr) : SpD := fun ds M Q => ∃ (b : Nat) (s : Bool) (w : Word) (u c : Int), ds = [kindD C b s, .str w.nm, .int u, .int c] ∧ Wd b ∧ InK b s u ∧ InK b s c ∧ Q (.int (endlessZ b s w u c)) M
theorem ok_endless_starts (T : Txt K mg C_Kind) (F_check_kind : FnD P w K mg base 1 "check_kind" s_check_kind ["value"] (sp_chkk C_Kind)) (F_check_word : FnD P w K mg base 1 "check_word" s_check_word ["argument", "value"] (sp_chkw)) (F_check_value : FnD P w K mg base 4 "check_value" s_check_value ["kind", "argument", "value"] (sp_chkv C_Kind)) (F_stops : FnD P w K mg base 2 "stops" s_stops ["kind", "word", "b"] (sp_stops C_Kind)) (F_twos_in : FnD P w K mg base 1 "twos_in" s_twos_in ["n", "most"] (sp_twosin)) : FnD P w K mg base 5 "endless_starts" s_endless_starts ["kind", "word", "b", "c"] (sp_endless C_Kind) := by
  refine fn_mk T.h_endless_starts sc_endless_starts 7 rfl (by intro ds M Q h; first | (obtain ⟨rfl, _⟩ := h; rfl) | (obtain ⟨_, rfl, _⟩ := h; rfl) | (obtain ⟨_, _, rfl, _⟩ := h; rfl) | (obtain ⟨_, _, _, rfl, _⟩ := h; rfl) | (obtain ⟨_, _, _, _, rfl, _⟩ := h; rfl) | (obtain ⟨_, _, _, _, _, rfl, _⟩ := h; rfl) | (obtain ⟨_, _, _, _, _, _, rfl, _⟩ := h; rfl) | (obtain ⟨_, _, _, _, _, _, _, rfl, _⟩ := h; rfl) | (obtain ⟨_, _, _, _, _, _, _, _, rfl, _⟩ := h; rfl) | (obtain ⟨_, _, _, _, _, _, _, _, _, rfl, _⟩ := h; rfl) | (obtain ⟨_, _, _, _, _, _, _, _, _, _, rfl, _⟩ := h; rfl) | (obtain ⟨_, _, _, _, _, _, _, _, _, _, _, rfl, _⟩ := h; rfl) | (obtain ⟨_, _, _, _, _, _, _, _, _, _, _, _, rfl, _⟩ := h; rfl)) (fun f cdv A outer s H E hr => ⟨_, (dss_cons (ds_expr (de_call F_check_kind hr (da_cons (dv 0) da_nil)))
    (dss_cons (ds_expr (de_call F_check_word hr (da_cons de_str (da_cons (dv 1) da_nil))))
    (dss_cons (ds_expr (de_call F_check_value hr (da_cons (dv 0) (da_cons de_str (da_cons (dv 2) da_nil)))))
    (dss_cons (ds_expr (de_call F_check_value hr (da_cons (dv 0) (da_cons de_str (da_cons (dv 3) da_nil)))))
    (dss_cons (ds_if (dt_cmp (od_eq hr.units) (dv 1) de_str)
    (dss_one (ds_ret (de_ct cd_int (by rfl) T.b_int (by decide +kernel) (da_cons (de_cmp (od_eq hr.units) (dv 3) de_int) da_nil))))
    dss_nil)
    (dss_cons (ds_asg (de_call F_stops hr (da_cons (dv 0) (da_cons (dv 1) (da_cons (dv 2) da_nil)))) (DGo.dg (vs := [4, 5]) (dgo_tup (n := 2) (dgs_cons (dgo_name (i := 4) (by decide) sc_endless_starts.nd rfl) (dgs_cons (dgo_name (i := 5) (by decide) sc_endless_starts.nd rfl) dgs_nil)))))
    (dss_cons (ds_set (i := 6) sc_endless_starts.nd (de_call F_twos_in hr (da_cons (dv 3) (da_cons (de_fld C_Kind 0 T.cl_Kind T.nf_Kind_bits (dv 0)) da_nil))))
    (dss_one (ds_ret (de_op od_shl (de_cb (cd_max rfl) (by rfl) T.b_max (by decide +kernel) (da_cons de_int (da_cons (de_op od_sub (de_op od_shl de_int (dv 6)) (de_cb (cd_max rfl) (by rfl) T.b_max (by decide +kernel) (da_cons de_int (da_cons (de_op (od_add false) (de_op od_sub (dv 5) (dv 4)) de_int) da_nil)))) da_nil))) (de_op od_sub (de_fld C_Kind 0 T.cl_Kind T.nf_Kind_bits (dv 0)) (dv 6)))))))))))), ?_⟩)
  rintro ds M Q ⟨b, s, w, u, c, rfl, hb, hu, hc, hQ⟩
  (try simp only [dgU, w_lrg, dCut, dDGet, dDGet1, dDGet2, dDPut, dPairs, w_disp, w_newDF, w_newDT, dec_self, List.map_cons, List.map_nil, eqD_bl, eqD_int, eqD_str, eqD_tup, eqD_lst, eqDs_nil, eqDs_nc, eqDs_cn, eqDs_cons, reduceIte, Bool.false_eq_true, Bool.not_true, Bool.not_false, decide_true, decide_false, dVar, atD, setD, startD, dC, dOp, dAnd, dOr, dNot, dIf, dUn, dNil, dCons, dTup, dLst, rInD, rNotInD, dNoPart, dPart, dRev, dFld, DL.fieldsOf, dCB, dNext, dSeq, dBreak, dCont, dDrop, dRet, dRetN, dIfS, dNever, dgN, dgNil, dgCons, dgSub, dAsg, dPar, dPar3, putD, dSetF, dMt, rAppendD, rPopD, rExtendD, lsT, lsR, lsF, itemsR, dFrz, dCall, dCallK, dMeth, dMake, dFor, dIL, dIT, dIR1, dIR2, dIE, dIZ, wipeD, dYes, dLc, dDic0, updM_same, cxOf, asBl_bl, asInt_int, asTup_tup, isN, w_test, w_chain, w_andV, w_orV, w_notV, w_neg, w_sub, w_div, w_mod, w_pow, w_shl, w_shr, w_and, w_or, w_xor, w_lt, w_le, w_gt, w_ge, w_add, w_addS, w_addT, w_addL, w_addF, w_addR, w_mul, w_mulL, w_eq, w_ne, w_isN, w_isB, w_isntN, w_isntB, w_ix, w_isi, w_abs, w_max2, w_min2, w_max1L, w_min1L, w_sum, w_all, w_any, w_len, w_int, w_intB, w_divmod, w_sorted, w_list, w_bits, w_sl, w_slL, w_slF, w_slR, w_slT, w_newF, w_newT, w_eqL, w_eqT, w_eqR, w_neL, w_neT, w_neR, w_dgT, w_derL, w_derT, w_derB, w_derI, w_derN, w_derS, w_eqSS, w_eqBB, w_neSS, w_neBB, w_eqBI, w_eqIN, w_neIN, w_eqNI, w_neNI, w_eqNN, w_neNN, w_NN, w_NI, w_IN])
  refine ⟨_, rfl, _, w, rfl, b, s, _, u, rfl, hb, hu, b, s, _, c, rfl, hb, hc, ?_⟩
  by_cases hw : w = .eq
  · subst hw
    simp only [Word.nm]
    (try simp (disch := decide +kernel) only [strT, strF, inDT, inDF, dgU, w_lrg, dCut, dDGet, dDGet1, dDGet2, dDPut, dPairs, w_disp, w_newDF, w_newDT, dec_self, List.map_cons, List.map_nil, eqD_bl, eqD_int, eqD_str, eqD_tup, eqD_lst, eqDs_nil, eqDs_nc, eqDs_cn, eqDs_cons, reduceIte, Bool.false_eq_true, Bool.not_true, Bool.not_false, decide_true, decide_false, dVar, atD, setD, startD, dC, dOp, dAnd, dOr, dNot, dIf, dUn, dNil, dCons, dTup, dLst, rInD, rNotInD, dNoPart, dPart, dRev, dFld, DL.fieldsOf, dCB, dNext, dSeq, dBreak, dCont, dDrop, dRet, dRetN, dIfS, dNever, dgN, dgNil, dgCons, dgSub, dAsg, dPar, dPar3, putD, dSetF, dMt, rAppendD, rPopD, rExtendD, lsT, lsR, lsF, itemsR, dFrz, dCall, dCallK, dMeth, dMake, dFor, dIL, dIT, dIR1, dIR2, dIE, dIZ, wipeD, dYes, dLc, dDic0, updM_same, cxOf, asBl_bl, asInt_int, asTup_tup, isN, w_test, w_chain, w_andV, w_orV, w_notV, w_neg, w_sub, w_div, w_mod, w_pow, w_shl, w_shr, w_and, w_or, w_xor, w_lt, w_le, w_gt, w_ge, w_add, w_addS, w_addT, w_addL, w_addF, w_addR, w_mul, w_mulL, w_eq, w_ne, w_isN, w_isB, w_isntN, w_isntB, w_ix, w_isi, w_abs, w_max2, w_min2, w_max1L, w_min1L, w_sum, w_all, w_any, w_len, w_int, w_intB, w_divmod, w_sorted, w_list, w_bits, w_sl, w_slL, w_slF, w_slR, w_slT, w_newF, w_newT, w_eqL, w_eqT, w_eqR, w_neL, w_neT, w_neR, w_dgT, w_derL, w_derT, w_derB, w_derI, w_derN, w_derS, w_eqSS, w_eqBB, w_neSS, w_neBB, w_eqBI, w_eqIN, w_neIN, w_eqNI, w_neNI, w_eqNN, w_neNN, w_NN, w_NI, w_IN])
    rw [endless_eq hb hu hc] at hQ
    by_cases h : c = 0 <;> simpa [h] using endD_of hQ
  · have hne : shp 64 (.str w.nm) = true := by cases w <;> decide +kernel
    (try simp only [dgU, w_lrg, dCut, dDGet, dDGet1, dDGet2, dDPut, dPairs, w_disp, w_newDF, w_newDT, dec_self, List.map_cons, List.map_nil, eqD_bl, eqD_int, eqD_str, eqD_tup, eqD_lst, eqDs_nil, eqDs_nc, eqDs_cn, eqDs_cons, reduceIte, Bool.false_eq_true, Bool.not_true, Bool.not_false, decide_true, decide_false, dVar, atD, setD, startD, dC, dOp, dAnd, dOr, dNot, dIf, dUn, dNil, dCons, dTup, dLst, rInD, rNotInD, dNoPart, dPart, dRev, dFld, DL.fieldsOf, dCB, dNext, dSeq, dBreak, dCont, dDrop, dRet, dRetN, dIfS, dNever, dgN, dgNil, dgCons, dgSub, dAsg, dPar, dPar3, putD, dSetF, dMt, rAppendD, rPopD, rExtendD, lsT, lsR, lsF, itemsR, dFrz, dCall, dCallK, dMeth, dMake, dFor, dIL, dIT, dIR1, dIR2, dIE, dIZ, wipeD, dYes, dLc, dDic0, updM_same, cxOf, asBl_bl, asInt_int, asTup_tup, isN, w_test, w_chain, w_andV, w_orV, w_notV, w_neg, w_sub, w_div, w_mod, w_pow, w_shl, w_shr, w_and, w_or, w_xor, w_lt, w_le, w_gt, w_ge, w_add, w_addS, w_addT, w_addL, w_addF, w_addR, w_mul, w_mulL, w_eq, w_ne, w_isN, w_isB, w_isntN, w_isntB, w_ix, w_isi, w_abs, w_max2, w_min2, w_max1L, w_min1L, w_sum, w_all, w_any, w_len, w_int, w_intB, w_divmod, w_sorted, w_list, w_bits, w_sl, w_slL, w_slF, w_slR, w_slT, w_newF, w_newT, w_eqL, w_eqT, w_eqR, w_neL, w_neT, w_neR, w_dgT, w_derL, w_derT, w_derB, w_derI, w_derN, w_derS, w_eqSS, w_eqBB, w_neSS, w_neBB, w_eqBI, w_eqIN, w_neIN, w_eqNI, w_neNI, w_eqNN, w_neNN, w_NN, w_NI, w_IN])
    rw [w_eqSS hne (by decide +kernel), eqD_str, show decide (w.nm = Str.ofString "==") = false by cases w <;> first | exact absurd rfl hw | decide +kernel]
    (try simp only [dgU, w_lrg, dCut, dDGet, dDGet1, dDGet2, dDPut, dPairs, w_disp, w_newDF, w_newDT, dec_self, List.map_cons, List.map_nil, eqD_bl, eqD_int, eqD_str, eqD_tup, eqD_lst, eqDs_nil, eqDs_nc, eqDs_cn, eqDs_cons, reduceIte, Bool.false_eq_true, Bool.not_true, Bool.not_false, decide_true, decide_false, dVar, atD, setD, startD, dC, dOp, dAnd, dOr, dNot, dIf, dUn, dNil, dCons, dTup, dLst, rInD, rNotInD, dNoPart, dPart, dRev, dFld, DL.fieldsOf, dCB, dNext, dSeq, dBreak, dCont, dDrop, dRet, dRetN, dIfS, dNever, dgN, dgNil, dgCons, dgSub, dAsg, dPar, dPar3, putD, dSetF, dMt, rAppendD, rPopD, rExtendD, lsT, lsR, lsF, itemsR, dFrz, dCall, dCallK, dMeth, dMake, dFor, dIL, dIT, dIR1, dIR2, dIE, dIZ, wipeD, dYes, dLc, dDic0, updM_same, cxOf, asBl_bl, asInt_int, asTup_tup, isN, w_test, w_chain, w_andV, w_orV, w_notV, w_neg, w_sub, w_div, w_mod, w_pow, w_shl, w_shr, w_and, w_or, w_xor, w_lt, w_le, w_gt, w_ge, w_add, w_addS, w_addT, w_addL, w_addF, w_addR, w_mul, w_mulL, w_eq, w_ne, w_isN, w_isB, w_isntN, w_isntB, w_ix, w_isi, w_abs, w_max2, w_min2, w_max1L, w_min1L, w_sum, w_all, w_any, w_len, w_int, w_intB, w_divmod, w_sorted, w_list, w_bits, w_sl, w_slL, w_slF, w_slR, w_slT, w_newF, w_newT, w_eqL, w_eqT, w_eqR, w_neL, w_neT, w_neR, w_dgT, w_derL, w_derT, w_derB, w_derI, w_derN, w_derS, w_eqSS, w_eqBB, w_neSS, w_neBB, w_eqBI, w_eqIN, w_neIN, w_eqNI, w_neNI, w_eqNN, w_neNN, w_NN, w_NI, w_IN])
    refine ⟨b, s, w, u, rfl, hb, ?_⟩
    (try simp only [dgU, w_lrg, dCut, dDGet, dDGet1, dDGet2, dDPut, dPairs, w_disp, w_newDF, w_newDT, dec_self, List.map_cons, List.map_nil, eqD_bl, eqD_int, eqD_str, eqD_tup, eqD_lst, eqDs_nil, eqDs_nc, eqDs_cn, eqDs_cons, reduceIte, Bool.false_eq_true, Bool.not_true, Bool.not_false, decide_true, decide_false, dVar, atD, setD, startD, dC, dOp, dAnd, dOr, dNot, dIf, dUn, dNil, dCons, dTup, dLst, rInD, rNotInD, dNoPart, dPart, dRev, dFld, DL.fieldsOf, dCB, dNext, dSeq, dBreak, dCont, dDrop, dRet, dRetN, dIfS, dNever, dgN, dgNil, dgCons, dgSub, dAsg, dPar, dPar3, putD, dSetF, dMt, rAppendD, rPopD, rExtendD, lsT, lsR, lsF, itemsR, dFrz, dCall, dCallK, dMeth, dMake, dFor, dIL, dIT, dIR1, dIR2, dIE, dIZ, wipeD, dYes, dLc, dDic0, updM_same, cxOf, asBl_bl, asInt_int, asTup_tup, isN, w_test, w_chain, w_andV, w_orV, w_notV, w_neg, w_sub, w_div, w_mod, w_pow, w_shl, w_shr, w_and, w_or, w_xor, w_lt, w_le, w_gt, w_ge, w_add, w_addS, w_addT, w_addL, w_addF, w_addR, w_mul, w_mulL, w_eq, w_ne, w_isN, w_isB, w_isntN, w_isntB, w_ix, w_isi, w_abs, w_max2, w_min2, w_max1L, w_min1L, w_sum, w_all, w_any, w_len, w_int, w_intB, w_divmod, w_sorted, w_list, w_bits, w_sl, w_slL, w_slF, w_slR, w_slT, w_newF, w_newT, w_eqL, w_eqT, w_eqR, w_neL, w_neT, w_neR, w_dgT, w_derL, w_derT, w_derB, w_derI, w_derN, w_derS, w_eqSS, w_eqBB, w_neSS, w_neBB, w_eqBI, w_eqIN, w_neIN, w_eqNI, w_neNI, w_eqNN, w_neNN, w_NN, w_NI, w_IN])
    refine ⟨rfl, _, _, rfl, rfl, c, b, rfl, by omega, fun t ht => ?_⟩
    (try simp only [dgU, w_lrg, dCut, dDGet, dDGet1, dDGet2, dDPut, dPairs, w_disp, w_newDF, w_newDT, dec_self, List.map_cons, List.map_nil, eqD_bl, eqD_int, eqD_str, eqD_tup, eqD_lst, eqDs_nil, eqDs_nc, eqDs_cn, eqDs_cons, reduceIte, Bool.false_eq_true, Bool.not_true, Bool.not_false, decide_true, decide_false, dVar, atD, setD, startD, dC, dOp, dAnd, dOr, dNot, dIf, dUn, dNil, dCons, dTup, dLst, rInD, rNotInD, dNoPart, dPart, dRev, dFld, DL.fieldsOf, dCB, dNext, dSeq, dBreak, dCont, dDrop, dRet, dRetN, dIfS, dNever, dgN, dgNil, dgCons, dgSub, dAsg, dPar, dPar3, putD, dSetF, dMt, rAppendD, rPopD, rExtendD, lsT, lsR, lsF, itemsR, dFrz, dCall, dCallK, dMeth, dMake, dFor, dIL, dIT, dIR1, dIR2, dIE, dIZ, wipeD, dYes, dLc, dDic0, updM_same, cxOf, asBl_bl, asInt_int, asTup_tup, isN, w_test, w_chain, w_andV, w_orV, w_notV, w_neg, w_sub, w_div, w_mod, w_pow, w_shl, w_shr, w_and, w_or, w_xor, w_lt, w_le, w_gt, w_ge, w_add, w_addS, w_addT, w_addL, w_addF, w_addR, w_mul, w_mulL, w_eq, w_ne, w_isN, w_isB, w_isntN, w_isntB, w_ix, w_isi, w_abs, w_max2, w_min2, w_max1L, w_min1L, w_sum, w_all, w_any, w_len, w_int, w_intB, w_divmod, w_sorted, w_list, w_bits, w_sl, w_slL, w_slF, w_slR, w_slT, w_newF, w_newT, w_eqL, w_eqT, w_eqR, w_neL, w_neT, w_neR, w_dgT, w_derL, w_derT, w_derB, w_derI, w_derN, w_derS, w_eqSS, w_eqBB, w_neSS, w_neBB, w_eqBI, w_eqIN, w_neIN, w_eqNI, w_neNI, w_eqNN, w_neNN, w_NN, w_NI, w_IN])
    rw [endless_ne hb hw hu ht] at hQ
    have ht1 := ht.1
    have hb2 : (2 : Int) ^ t ≤ 2 ^ 128 := pow_mono (show t ≤ 128 by omega)
    have hp := two_pos t
    have e : (b : Int) - (t : Int) = ((b - t : Nat) : Int) := by omega
    rw [max_if, max_if, Int.toNat_natCast, Int.one_mul]
    refine ⟨shl1 (by omega) (by omega), _, _, rfl, rfl, ?_⟩
    (try simp only [dgU, w_lrg, dCut, dDGet, dDGet1, dDGet2, dDPut, dPairs, w_disp, w_newDF, w_newDT, dec_self, List.map_cons, List.map_nil, eqD_bl, eqD_int, eqD_str, eqD_tup, eqD_lst, eqDs_nil, eqDs_nc, eqDs_cn, eqDs_cons, reduceIte, Bool.false_eq_true, Bool.not_true, Bool.not_false, decide_true, decide_false, dVar, atD, setD, startD, dC, dOp, dAnd, dOr, dNot, dIf, dUn, dNil, dCons, dTup, dLst, rInD, rNotInD, dNoPart, dPart, dRev, dFld, DL.fieldsOf, dCB, dNext, dSeq, dBreak, dCont, dDrop, dRet, dRetN, dIfS, dNever, dgN, dgNil, dgCons, dgSub, dAsg, dPar, dPar3, putD, dSetF, dMt, rAppendD, rPopD, rExtendD, lsT, lsR, lsF, itemsR, dFrz, dCall, dCallK, dMeth, dMake, dFor, dIL, dIT, dIR1, dIR2, dIE, dIZ, wipeD, dYes, dLc, dDic0, updM_same, cxOf, asBl_bl, asInt_int, asTup_tup, isN, w_test, w_chain, w_andV, w_orV, w_notV, w_neg, w_sub, w_div, w_mod, w_pow, w_shl, w_shr, w_and, w_or, w_xor, w_lt, w_le, w_gt, w_ge, w_add, w_addS, w_addT, w_addL, w_addF, w_addR, w_mul, w_mulL, w_eq, w_ne, w_isN, w_isB, w_isntN, w_isntB, w_ix, w_isi, w_abs, w_max2, w_min2, w_max1L, w_min1L, w_sum, w_all, w_any, w_len, w_int, w_intB, w_divmod, w_sorted, w_list, w_bits, w_sl, w_slL, w_slF, w_slR, w_slT, w_newF, w_newT, w_eqL, w_eqT, w_eqR, w_neL, w_neT, w_neR, w_dgT, w_derL, w_derT, w_derB, w_derI, w_derN, w_derS, w_eqSS, w_eqBB, w_neSS, w_neBB, w_eqBI, w_eqIN, w_neIN, w_eqNI, w_neNI, w_eqNN, w_neNN, w_NN, w_NI, w_IN])
    rw [e, Int.toNat_natCast]
    refine ⟨shl_ok (n := 200) ?_ (by omega), endD_of hQ⟩
    have : (2 : Int) ^ 128 < 2 ^ 200 := by decide +kernel
    omega
/-! ### loops by formulas -/
/-- what is within the kind is not wrapped -/
theorem val_in {b : Nat} {s : Bool} {a c : Int} {n : Nat} (h0 : lowZ b s ≤ a + (n : Nat) * c) (h1 : a + (n : Nat) * c < lowZ b s + 2 ^ b) : valZ b s a c n = a + (n : Nat) * c := placed_same h0 h1
/-- a loop that counts up to a bound -/
theorem first_up {b : Nat} {s : Bool} {a u c : Int} {m : Nat} (ha : InK b s a) (hau : a ≤ u) (hc : 0 < c) (hm : (m : Int) = (u - a + c - 1) / c) (ht : u + c ≤ lowZ b s + 2 ^ b) : FirstR b s a .lt u c (some m) ∧ u ≤ a + (m : Int) * c ∧ a + (m : Int) * c < lowZ b s + 2 ^ b ∧ a + (m : Int) * c < u + c := by
  obtain ⟨a0, a1⟩ := ha
  have e1 := Int.emod_add_mul_ediv (u - a + c - 1) c
  have e2 := Int.emod_nonneg (u - a + c - 1) (show c ≠ 0 by omega)
  have e3 := Int.emod_lt_of_pos (u - a + c - 1) hc
  rw [← hm, Int.mul_comm] at e1
  have hu : u ≤ a + (m : Int) * c := by omega
  have hb : a + (m : Int) * c < lowZ b s + 2 ^ b := by omega
  refine ⟨⟨?_, fun k hk => ?_⟩, hu, hb, by omega⟩
  · show holdsZ .lt (valZ b s a c m) u = false
    rw [val_in (by omega) hb]
    exact decide_eq_false (by omega)
  · show ¬ holdsZ .lt (valZ b s a c k) u = false
    have h1 : (k : Int) * c ≤ ((m : Int) - 1) * c := Int.mul_le_mul_of_nonneg_right (by omega) (by omega)
    have h2 : ((m : Int) - 1) * c = m * c - c := by rw [Int.sub_mul, Int.one_mul]
    have h3 : 0 ≤ (k : Int) * c := Int.mul_nonneg (by omega) (by omega)
    rw [val_in (by omega) (by omega), show holdsZ .lt (a + (k : Int) * c) u = true from decide_eq_true (by omega)]
    exact Bool.noConfusion
/-- .. and down -/
theorem first_down {b : Nat} {s : Bool} {a u c : Int} {m : Nat} (hu : lowZ b s ≤ u) (ha : a < lowZ b s + 2 ^ b) (hc : 0 < c) (h1 : a - (m : Int) * c ≤ u) (h2 : lowZ b s ≤ a - (m : Int) * c) (h3 : m = 0 ∨ u < a - (m : Int) * c + c) : FirstR b s a .gt u (0 - c) (some m) := by
  have hv : ∀ k : Nat, a + (k : Int) * (0 - c) = a - (k : Int) * c := fun k => by rw [Int.mul_sub, Int.mul_zero]; omega
  have hm0 : 0 ≤ (m : Int) * c := Int.mul_nonneg (by omega) (by omega)
  refine ⟨?_, fun k hk => ?_⟩
  · show holdsZ .gt (valZ b s a (0 - c) m) u = false
    rw [val_in (by rw [hv]; exact h2) (by rw [hv]; omega), hv]
    exact decide_eq_false (by omega)
  · show ¬ holdsZ .gt (valZ b s a (0 - c) k) u = false
    have g1 : (k : Int) * c ≤ ((m : Int) - 1) * c := Int.mul_le_mul_of_nonneg_right (by omega) (by omega)
    have g2 : ((m : Int) - 1) * c = m * c - c := by rw [Int.sub_mul, Int.one_mul]
    have g3 : 0 ≤ (k : Int) * c := Int.mul_nonneg (by omega) (by omega)
    rw [val_in (by rw [hv]; omega) (by rw [hv]; omega), hv, show holdsZ .gt (a - (k : Int) * c) u = true from decide_eq_true (by omega)]
    exact Bool.noConfusion
abbrev sp_lpart (C : Addr) : SpD := fun ds M Q => ∃ (a : Addr) (b : Nat) (s : Bool), ds = [.ref a, kindD C b s, .int (lowZ b s), .int (2 ^ b)] ∧ Src M a ∧ Wd b ∧ ∀ M', SrcTo a M M' → Q (.bl true) M'
theorem two_sorted {x y : Int} {ns : List Int} (h1 : ns.Perm [x, y]) (h2 : ns.Pairwise (· ≤ ·)) : ∃ u v, ns = [u, v] ∧ u ≤ v ∧ ((u = x ∧ v = y) ∨ (u = y ∧ v = x)) := by
  have hl := h1.length_eq
  match ns, hl, h1, h2 with
  | [u, v], _, h1, h2 =>
    refine ⟨u, v, rfl, ?_, ?_⟩
    · cases h2 with
      | cons h _ => exact h v (by simp)
    · have hu : u = x ∨ u = y := by
        have := h1.mem_iff.mp (show u ∈ [u, v] by simp)
        simpa using this
      rcases hu with e | e
      · left
        subst e
        have := (List.Perm.cons_inv h1).mem_iff.mp (show v ∈ [v] by simp)
        exact ⟨rfl, by simpa using this⟩
      · right
        subst e
        have h3 := h1.trans (List.Perm.swap u x [])
        have := (List.Perm.cons_inv h3).mem_iff.mp (show v ∈ [v] by simp)
        exact ⟨rfl, by simpa using this⟩
/-- a step that is odd meets each value once a turn -/
theorem odd_once {b : Nat} {c i j : Int} (hc : c % 2 = 1) (h : (2 : Int) ^ b ∣ c * i - c * j) : (2 : Int) ^ b ∣ i - j := by
  rw [← Int.mul_sub] at h
  exact odd_dvd hc h
theorem first_met {b : Nat} {s : Bool} {a c : Int} {n : Nat} (hc : c % 2 = 1) (hn : (n : Int) < 2 ^ b) : FirstR b s a .ne (valZ b s a c n) c (some n) := by
  refine ⟨?_, fun k hk h => ?_⟩
  · show (!decide (valZ b s a c n = valZ b s a c n)) = false
    simp
  · have h : (!decide (valZ b s a c k = valZ b s a c n)) = false := h
    have e : valZ b s a c k = valZ b s a c n := by simpa using h
    have d := placed_iff.mp e
    have d2 : (2 : Int) ^ b ∣ c * (n : Nat) - c * (k : Nat) := by
      obtain ⟨z, hz⟩ := d
      exact ⟨-z, by rw [Int.mul_comm c, Int.mul_comm c, Int.mul_neg]; omega⟩
    have d3 := odd_once hc d2
    have := Int.le_of_dvd (by omega) d3
    omega
theorem twos_zero {c : Int} {b : Nat} (hc : c % 2 = 1) : TwosOf c b 0 := by
  refine ⟨Nat.zero_le _, ⟨c, by simp⟩, fun _ h => ?_⟩
  obtain ⟨z, hz⟩ := h
  simp at hz
  omega
/-- .. and a step by an odd multiple of a power of two -/
theorem twos_step {b k : Nat} {s : Bool} {c : Int} (hc : c % 2 = 1) (hk : k ≤ b) : TwosOf (placedZ b s (c * 2 ^ k)) b k := by
  obtain ⟨y, hy⟩ := placed_cong b s (c * 2 ^ k)
  refine ⟨hk, ?_, fun g h => ?_⟩
  · obtain ⟨z, hz⟩ := dvd_pow2 hk
    exact ⟨c + z * y, by grind⟩
  · obtain ⟨z, hz⟩ := dvd_pow2 (show k + 1 ≤ b by omega)
    obtain ⟨t, ht⟩ := h
    have hp := two_pos k
    have e : (2 : Int) ^ k * c = 2 ^ k * (2 * (t - z * y)) := by
      rw [Int.pow_succ] at hz ht
      grind
    have := Int.eq_of_mul_eq_mul_left (show (2 : Int) ^ k ≠ 0 by omega) e
    omega
theorem odd_placed {b : Nat} {s : Bool} {n : Int} (hb : 1 ≤ b) : placedZ b s (2 * n + 1) % 2 = 1 := by
  obtain ⟨y, hy⟩ := placed_cong b s (2 * n + 1)
  rw [two_succ hb] at hy
  have : placedZ b s (2 * n + 1) = 2 * n + 1 + 2 * (2 ^ (b - 1) * y) := by grind
  omega
theorem ok__law_counted_right (T : Txt K mg C_Kind) (F__law_wide : FnD P w K mg base 2 "_law_wide" s__law_wide ["_law_source", "_law_m"] (sp_wide)) (F__law_value : FnD P w K mg base 3 "_law_value" s__law_value ["_law_source", "_law_low", "_law_size"] (sp_value)) (F_rounds : FnD P w K mg base 144 "rounds" s_rounds ["kind", "loop"] (sp_rounds C_Kind)) (F_wraps : FnD P w K mg base 145 "wraps" s_wraps ["kind", "loop", "n"] (sp_wraps C_Kind)) (F_end_value : FnD P w K mg base 144 "end_value" s_end_value ["kind", "loop"] (sp_endv C_Kind)) : FnD P w K mg base 146 "_law_counted_right" s__law_counted_right ["_law_source", "_law_kind", "_law_low", "_law_size"] (sp_lpart C_Kind) := by
  refine fn_mk T.h__law_counted_right sc__law_counted_right 9 rfl (by intro ds M Q h; first | (obtain ⟨rfl, _⟩ := h; rfl) | (obtain ⟨_, rfl, _⟩ := h; rfl) | (obtain ⟨_, _, rfl, _⟩ := h; rfl) | (obtain ⟨_, _, _, rfl, _⟩ := h; rfl) | (obtain ⟨_, _, _, _, rfl, _⟩ := h; rfl) | (obtain ⟨_, _, _, _, _, rfl, _⟩ := h; rfl) | (obtain ⟨_, _, _, _, _, _, rfl, _⟩ := h; rfl) | (obtain ⟨_, _, _, _, _, _, _, rfl, _⟩ := h; rfl) | (obtain ⟨_, _, _, _, _, _, _, _, rfl, _⟩ := h; rfl) | (obtain ⟨_, _, _, _, _, _, _, _, _, rfl, _⟩ := h; rfl) | (obtain ⟨_, _, _, _, _, _, _, _, _, _, rfl, _⟩ := h; rfl) | (obtain ⟨_, _, _, _, _, _, _, _, _, _, _, rfl, _⟩ := h; rfl) | (obtain ⟨_, _, _, _, _, _, _, _, _, _, _, _, rfl, _⟩ := h; rfl)) (fun f cdv A outer s H E hr => ⟨_, (dss_cut (ds_asg (de_cb (cd_sorted false) (by rfl) T.b_sorted (by decide +kernel) (da_cons (de_lst false (da_cons (de_call F__law_value hr (da_cons (dv 0) (da_cons (dv 2) (da_cons (dv 3) da_nil)))) (da_cons (de_call F__law_value hr (da_cons (dv 0) (da_cons (dv 2) (da_cons (dv 3) da_nil)))) da_nil))) da_nil)) (DGo.dg (vs := [4, 5]) (dgo_unl (n := 2) (dgs_cons (dgo_name (i := 4) (by decide) sc__law_counted_right.nd rfl) (dgs_cons (dgo_name (i := 5) (by decide) sc__law_counted_right.nd rfl) dgs_nil)))))
    (dss_cons (ds_set (i := 6) sc__law_counted_right.nd (de_cb (cd_max rfl) (by rfl) T.b_max (by decide +kernel) (da_cons de_int (da_cons (de_cb (cd_min rfl) (by rfl) T.b_min (by decide +kernel) (da_cons (de_op od_sub (de_op od_sub (de_op (od_add false) (dv 2) (dv 3)) de_int) (dv 5)) (da_cons (de_op od_sub (de_op od_div (dv 3) de_int) de_int) da_nil))) da_nil))))
    (dss_cons (ds_set (i := 7) sc__law_counted_right.nd (de_op (od_add false) de_int (de_call F__law_wide hr (da_cons (dv 0) (da_cons (dv 6) da_nil)))))
    (dss_cons (ds_if (dt_cut (dt_w (dw_or (dt_cmp od_gt (de_op (od_add false) (dv 5) (dv 7)) (de_op (od_add false) (dv 2) (dv 3))) (dw_or1 (dt_cmp od_gt (dv 7) (de_op od_sub (de_op (od_add false) (dv 2) (dv 3)) de_int))))))
    (dss_one (ds_ret de_bl))
    dss_nil)
    (dss_cons (ds_set (i := 8) sc__law_counted_right.nd (de_op od_div (de_op od_sub (de_op (od_add false) (de_op od_sub (dv 5) (dv 4)) (dv 7)) de_int) (dv 7)))
    (dss_cons (ds_if (dt_cut (dt_w (dw_or (dt_cmp (od_ne hr.units) (de_call F_rounds hr (da_cons (dv 1) (da_cons (de_tup (da_cons (dv 4) (da_cons de_str (da_cons (dv 5) (da_cons (dv 7) da_nil))))) da_nil))) (dv 8)) (dw_or1 (dt_cmp (od_ne hr.units) (de_call F_wraps hr (da_cons (dv 1) (da_cons (de_tup (da_cons (dv 4) (da_cons de_str (da_cons (dv 5) (da_cons (dv 7) da_nil))))) (da_cons (dv 8) da_nil)))) de_int)))))
    (dss_one (ds_ret de_bl))
    dss_nil)
    (dss_cons (ds_if (dt_cut (dt_w (dw_and (dt_cmp (od_ne hr.units) (de_call F_end_value hr (da_cons (dv 1) (da_cons (de_tup (da_cons (dv 4) (da_cons de_str (da_cons (dv 5) (da_cons (dv 7) da_nil))))) da_nil))) (de_op (od_add false) (dv 4) (de_op (od_mul false) (dv 8) (dv 7)))) (dw_and1 (dt_cmp od_lt (de_op (od_add false) (dv 4) (de_op (od_mul false) (dv 8) (dv 7))) (de_op (od_add false) (dv 2) (dv 3)))))))
    (dss_one (ds_ret de_bl))
    dss_nil)
    (dss_cons (ds_if (dt_cmp (od_eq hr.units) (dv 2) de_int)
    (dss_one (ds_ret de_bl))
    dss_nil)
    (dss_cons (ds_par (i := 4) (j := 5) sc__law_counted_right.nd (da_cons (de_op od_sub (de_neg de_int) (dv 4)) (da_cons (de_op od_sub (de_neg de_int) (dv 5)) da_nil)))
    (dss_one (ds_ret (de_and (de_cmp (od_eq hr.units) (de_call F_rounds hr (da_cons (dv 1) (da_cons (de_tup (da_cons (dv 4) (da_cons de_str (da_cons (dv 5) (da_cons (de_op od_sub de_int (dv 7)) da_nil))))) da_nil))) (dv 8)) (de_one (de_cmp (od_eq hr.units) (de_call F_wraps hr (da_cons (dv 1) (da_cons (de_tup (da_cons (dv 4) (da_cons de_str (da_cons (dv 5) (da_cons (de_op od_sub de_int (dv 7)) da_nil))))) (da_cons (dv 8) da_nil)))) de_int)))))))))))))), ?_⟩)
  rintro ds M Q ⟨a, b, s, rfl, hM, hb, hQ⟩
  (try simp only [dgU, w_lrg, dCut, dDGet, dDGet1, dDGet2, dDPut, dPairs, w_disp, w_newDF, w_newDT, dec_self, List.map_cons, List.map_nil, eqD_bl, eqD_int, eqD_str, eqD_tup, eqD_lst, eqDs_nil, eqDs_nc, eqDs_cn, eqDs_cons, reduceIte, Bool.false_eq_true, Bool.not_true, Bool.not_false, decide_true, decide_false, dVar, atD, setD, startD, dC, dOp, dAnd, dOr, dNot, dIf, dUn, dNil, dCons, dTup, dLst, rInD, rNotInD, dNoPart, dPart, dRev, dFld, DL.fieldsOf, dCB, dNext, dSeq, dBreak, dCont, dDrop, dRet, dRetN, dIfS, dNever, dgN, dgNil, dgCons, dgSub, dAsg, dPar, dPar3, putD, dSetF, dMt, rAppendD, rPopD, rExtendD, lsT, lsR, lsF, itemsR, dFrz, dCall, dCallK, dMeth, dMake, dFor, dIL, dIT, dIR1, dIR2, dIE, dIZ, wipeD, dYes, dLc, dDic0, updM_same, cxOf, asBl_bl, asInt_int, asTup_tup, isN, w_test, w_chain, w_andV, w_orV, w_notV, w_neg, w_sub, w_div, w_mod, w_pow, w_shl, w_shr, w_and, w_or, w_xor, w_lt, w_le, w_gt, w_ge, w_add, w_addS, w_addT, w_addL, w_addF, w_addR, w_mul, w_mulL, w_eq, w_ne, w_isN, w_isB, w_isntN, w_isntB, w_ix, w_isi, w_abs, w_max2, w_min2, w_max1L, w_min1L, w_sum, w_all, w_any, w_len, w_int, w_intB, w_divmod, w_sorted, w_list, w_bits, w_sl, w_slL, w_slF, w_slR, w_slT, w_newF, w_newT, w_eqL, w_eqT, w_eqR, w_neL, w_neT, w_neR, w_dgT, w_derL, w_derT, w_derB, w_derI, w_derN, w_derS, w_eqSS, w_eqBB, w_neSS, w_neBB, w_eqBI, w_eqIN, w_neIN, w_eqNI, w_neNI, w_eqNN, w_neNN, w_NN, w_NI, w_IN])
  have hp := two_pos b
  have h22 := two_succ hb.1
  have hp2 := two_pos (b - 1)
  have hbig : (2 : Int) ^ b < 2 ^ 9000 := Int.lt_trans (small_bits hb) (by decide +kernel)
  refine ⟨fun ρ' M' => SrcTo a M M' ∧ ∃ x u : Int, InK b s x ∧ InK b s u ∧ x ≤ u ∧ ρ' = [some (.ref a), some (kindD C_Kind b s), some (.int (lowZ b s)), some (.int (2 ^ b)), some (.int x), some (.int u), none, none, none], ?_, ?_⟩
  · refine ⟨a, _, _, rfl, hM, hp, hbig, fun x M1 x0 x1 hs1 => ?_⟩
    refine ⟨a, _, _, rfl, hs1.src, hp, hbig, fun u M2 u0 u1 hs2 => ?_⟩
    refine ⟨lit_len (n := 2) (by decide), [x, u], rfl, fun ns h1 h2 => ?_⟩
    obtain ⟨lo, hi, rfl, hle, hor⟩ := two_sorted h1 h2
    refine ⟨_, rfl, rfl, hs1.trans hs2, lo, hi, ?_, ?_, hle, rfl⟩
    · rcases hor with ⟨rfl, rfl⟩ | ⟨rfl, rfl⟩
      · exact ⟨x0, x1⟩
      · exact ⟨u0, u1⟩
    · rcases hor with ⟨rfl, rfl⟩ | ⟨rfl, rfl⟩
      · exact ⟨u0, u1⟩
      · exact ⟨x0, x1⟩
  rintro _ M1 ⟨hs, x, u, hx, hu, hxu, rfl⟩
  (try simp only [dgU, w_lrg, dCut, dDGet, dDGet1, dDGet2, dDPut, dPairs, w_disp, w_newDF, w_newDT, dec_self, List.map_cons, List.map_nil, eqD_bl, eqD_int, eqD_str, eqD_tup, eqD_lst, eqDs_nil, eqDs_nc, eqDs_cn, eqDs_cons, reduceIte, Bool.false_eq_true, Bool.not_true, Bool.not_false, decide_true, decide_false, dVar, atD, setD, startD, dC, dOp, dAnd, dOr, dNot, dIf, dUn, dNil, dCons, dTup, dLst, rInD, rNotInD, dNoPart, dPart, dRev, dFld, DL.fieldsOf, dCB, dNext, dSeq, dBreak, dCont, dDrop, dRet, dRetN, dIfS, dNever, dgN, dgNil, dgCons, dgSub, dAsg, dPar, dPar3, putD, dSetF, dMt, rAppendD, rPopD, rExtendD, lsT, lsR, lsF, itemsR, dFrz, dCall, dCallK, dMeth, dMake, dFor, dIL, dIT, dIR1, dIR2, dIE, dIZ, wipeD, dYes, dLc, dDic0, updM_same, cxOf, asBl_bl, asInt_int, asTup_tup, isN, w_test, w_chain, w_andV, w_orV, w_notV, w_neg, w_sub, w_div, w_mod, w_pow, w_shl, w_shr, w_and, w_or, w_xor, w_lt, w_le, w_gt, w_ge, w_add, w_addS, w_addT, w_addL, w_addF, w_addR, w_mul, w_mulL, w_eq, w_ne, w_isN, w_isB, w_isntN, w_isntB, w_ix, w_isi, w_abs, w_max2, w_min2, w_max1L, w_min1L, w_sum, w_all, w_any, w_len, w_int, w_intB, w_divmod, w_sorted, w_list, w_bits, w_sl, w_slL, w_slF, w_slR, w_slT, w_newF, w_newT, w_eqL, w_eqT, w_eqR, w_neL, w_neT, w_neR, w_dgT, w_derL, w_derT, w_derB, w_derI, w_derN, w_derS, w_eqSS, w_eqBB, w_neSS, w_neBB, w_eqBI, w_eqIN, w_neIN, w_eqNI, w_neNI, w_eqNN, w_neNN, w_NN, w_NI, w_IN])
  refine ⟨divOk_b (by decide) (by decide +kernel), ?_⟩
  rw [fdivP (by decide)]
  obtain ⟨mst, hmst, hm0, hmb⟩ : ∃ m : Int, (if (if 2 ^ b / 2 - 1 < lowZ b s + 2 ^ b - 1 - u then 2 ^ b / 2 - 1 else lowZ b s + 2 ^ b - 1 - u) > 1 then (if 2 ^ b / 2 - 1 < lowZ b s + 2 ^ b - 1 - u then 2 ^ b / 2 - 1 else lowZ b s + 2 ^ b - 1 - u) else 1) = m ∧ 0 < m ∧ m ≤ 2 ^ b := by
    refine ⟨_, rfl, ?_, ?_⟩
    · split <;> omega
    · split
      · split <;> omega
      · omega
  rw [hmst]
  refine ⟨a, _, rfl, hs.src, hm0, Int.lt_of_le_of_lt hmb hbig, fun v M2 v0 v1 hs2 => ?_⟩
  have hs := hs.trans hs2
  clear hs2 hmst
  (try simp only [dgU, w_lrg, dCut, dDGet, dDGet1, dDGet2, dDPut, dPairs, w_disp, w_newDF, w_newDT, dec_self, List.map_cons, List.map_nil, eqD_bl, eqD_int, eqD_str, eqD_tup, eqD_lst, eqDs_nil, eqDs_nc, eqDs_cn, eqDs_cons, reduceIte, Bool.false_eq_true, Bool.not_true, Bool.not_false, decide_true, decide_false, dVar, atD, setD, startD, dC, dOp, dAnd, dOr, dNot, dIf, dUn, dNil, dCons, dTup, dLst, rInD, rNotInD, dNoPart, dPart, dRev, dFld, DL.fieldsOf, dCB, dNext, dSeq, dBreak, dCont, dDrop, dRet, dRetN, dIfS, dNever, dgN, dgNil, dgCons, dgSub, dAsg, dPar, dPar3, putD, dSetF, dMt, rAppendD, rPopD, rExtendD, lsT, lsR, lsF, itemsR, dFrz, dCall, dCallK, dMeth, dMake, dFor, dIL, dIT, dIR1, dIR2, dIE, dIZ, wipeD, dYes, dLc, dDic0, updM_same, cxOf, asBl_bl, asInt_int, asTup_tup, isN, w_test, w_chain, w_andV, w_orV, w_notV, w_neg, w_sub, w_div, w_mod, w_pow, w_shl, w_shr, w_and, w_or, w_xor, w_lt, w_le, w_gt, w_ge, w_add, w_addS, w_addT, w_addL, w_addF, w_addR, w_mul, w_mulL, w_eq, w_ne, w_isN, w_isB, w_isntN, w_isntB, w_ix, w_isi, w_abs, w_max2, w_min2, w_max1L, w_min1L, w_sum, w_all, w_any, w_len, w_int, w_intB, w_divmod, w_sorted, w_list, w_bits, w_sl, w_slL, w_slF, w_slR, w_slT, w_newF, w_newT, w_eqL, w_eqT, w_eqR, w_neL, w_neT, w_neR, w_dgT, w_derL, w_derT, w_derB, w_derI, w_derN, w_derS, w_eqSS, w_eqBB, w_neSS, w_neBB, w_eqBI, w_eqIN, w_neIN, w_eqNI, w_neNI, w_eqNN, w_neNN, w_NN, w_NI, w_IN])
  obtain ⟨c, hcc⟩ : ∃ c : Int, 1 + v = c := ⟨_, rfl⟩
  rw [hcc]
  have hc1 : 1 ≤ c := by omega
  have hcb : c ≤ 2 ^ b + 1 := by omega
  clear hcc v0 v1 v
  refine cut_is (decide (lowZ b s + 2 ^ b < u + c ∨ lowZ b s + 2 ^ b - 1 < c)) ?_ ?_
  · (try simp only [dgU, w_lrg, dCut, dDGet, dDGet1, dDGet2, dDPut, dPairs, w_disp, w_newDF, w_newDT, dec_self, List.map_cons, List.map_nil, eqD_bl, eqD_int, eqD_str, eqD_tup, eqD_lst, eqDs_nil, eqDs_nc, eqDs_cn, eqDs_cons, reduceIte, Bool.false_eq_true, Bool.not_true, Bool.not_false, decide_true, decide_false, dVar, atD, setD, startD, dC, dOp, dAnd, dOr, dNot, dIf, dUn, dNil, dCons, dTup, dLst, rInD, rNotInD, dNoPart, dPart, dRev, dFld, DL.fieldsOf, dCB, dNext, dSeq, dBreak, dCont, dDrop, dRet, dRetN, dIfS, dNever, dgN, dgNil, dgCons, dgSub, dAsg, dPar, dPar3, putD, dSetF, dMt, rAppendD, rPopD, rExtendD, lsT, lsR, lsF, itemsR, dFrz, dCall, dCallK, dMeth, dMake, dFor, dIL, dIT, dIR1, dIR2, dIE, dIZ, wipeD, dYes, dLc, dDic0, updM_same, cxOf, asBl_bl, asInt_int, asTup_tup, isN, w_test, w_chain, w_andV, w_orV, w_notV, w_neg, w_sub, w_div, w_mod, w_pow, w_shl, w_shr, w_and, w_or, w_xor, w_lt, w_le, w_gt, w_ge, w_add, w_addS, w_addT, w_addL, w_addF, w_addR, w_mul, w_mulL, w_eq, w_ne, w_isN, w_isB, w_isntN, w_isntB, w_ix, w_isi, w_abs, w_max2, w_min2, w_max1L, w_min1L, w_sum, w_all, w_any, w_len, w_int, w_intB, w_divmod, w_sorted, w_list, w_bits, w_sl, w_slL, w_slF, w_slR, w_slT, w_newF, w_newT, w_eqL, w_eqT, w_eqR, w_neL, w_neT, w_neR, w_dgT, w_derL, w_derT, w_derB, w_derI, w_derN, w_derS, w_eqSS, w_eqBB, w_neSS, w_neBB, w_eqBI, w_eqIN, w_neIN, w_eqNI, w_neNI, w_eqNN, w_neNN, w_NN, w_NI, w_IN])
    by_cases g : lowZ b s + 2 ^ b < u + c
    · refine if_yes (decide_eq_true g) ?_
      rw [decide_eq_true (.inl g)]
      (first | exact ⟨rfl, rfl⟩ | exact ⟨rfl, True.intro⟩ | exact ⟨True.intro, rfl⟩ | exact ⟨True.intro, True.intro⟩)
    · refine if_no (decide_eq_false g) ?_
      by_cases g2 : lowZ b s + 2 ^ b - 1 < c
      · rw [decide_eq_true g2, decide_eq_true (.inr g2)]
        (first | exact ⟨rfl, rfl⟩ | exact ⟨rfl, True.intro⟩ | exact ⟨True.intro, rfl⟩ | exact ⟨True.intro, True.intro⟩)
      · rw [decide_eq_false g2, decide_eq_false fun h => h.elim g g2]
        (first | exact ⟨rfl, rfl⟩ | exact ⟨rfl, True.intro⟩ | exact ⟨True.intro, rfl⟩ | exact ⟨True.intro, True.intro⟩)
  by_cases g : lowZ b s + 2 ^ b < u + c ∨ lowZ b s + 2 ^ b - 1 < c
  · exact if_yes (decide_eq_true g) (endD_of (hQ _ hs))
  refine if_no (decide_eq_false g) ?_
  have hcK : InK b s c := ⟨by have := low_half b s hb.1; omega, by omega⟩
  obtain ⟨m, hm⟩ := Int.eq_ofNat_of_zero_le (show 0 ≤ (u - x + c - 1) / c from Int.ediv_nonneg (by omega) (by omega))
  obtain ⟨hfu, hbu, htu, hlu⟩ := first_up hx hxu hc1 hm.symm (by omega)
  have hm2 : m < 2 ^ 200 := by
    have h1 := first_bits hfu
    have h2 := small_bits hb
    have h3 : (2 : Int) ^ 140 < 2 ^ 200 := by decide +kernel
    omega
  have hm4 : m < 2 ^ 4000 := Nat.lt_trans hm2 (by decide +kernel)
  refine ⟨divOk_b (by omega) (Int.lt_of_le_of_lt hcb (by have := small_bits hb; have : (2 : Int) ^ 140 + 1 < 2 ^ 9000 := by decide +kernel
                                                         omega)), ?_⟩
  rw [fdivP (by omega), hm]
  have hles : ∀ k, FirstR b s x .lt u c (some k) → m ≤ k := fun k hk => by
    have e := first_uniq hfu hk
    cases e
    exact Nat.le_refl _
  have h0m : 0 ≤ (m : Int) * c := Int.mul_nonneg (by omega) (by omega)
  obtain ⟨x0, x1⟩ := hx
  refine cut_is false ?_ ?_
  · (try simp only [dgU, w_lrg, dCut, dDGet, dDGet1, dDGet2, dDPut, dPairs, w_disp, w_newDF, w_newDT, dec_self, List.map_cons, List.map_nil, eqD_bl, eqD_int, eqD_str, eqD_tup, eqD_lst, eqDs_nil, eqDs_nc, eqDs_cn, eqDs_cons, reduceIte, Bool.false_eq_true, Bool.not_true, Bool.not_false, decide_true, decide_false, dVar, atD, setD, startD, dC, dOp, dAnd, dOr, dNot, dIf, dUn, dNil, dCons, dTup, dLst, rInD, rNotInD, dNoPart, dPart, dRev, dFld, DL.fieldsOf, dCB, dNext, dSeq, dBreak, dCont, dDrop, dRet, dRetN, dIfS, dNever, dgN, dgNil, dgCons, dgSub, dAsg, dPar, dPar3, putD, dSetF, dMt, rAppendD, rPopD, rExtendD, lsT, lsR, lsF, itemsR, dFrz, dCall, dCallK, dMeth, dMake, dFor, dIL, dIT, dIR1, dIR2, dIE, dIZ, wipeD, dYes, dLc, dDic0, updM_same, cxOf, asBl_bl, asInt_int, asTup_tup, isN, w_test, w_chain, w_andV, w_orV, w_notV, w_neg, w_sub, w_div, w_mod, w_pow, w_shl, w_shr, w_and, w_or, w_xor, w_lt, w_le, w_gt, w_ge, w_add, w_addS, w_addT, w_addL, w_addF, w_addR, w_mul, w_mulL, w_eq, w_ne, w_isN, w_isB, w_isntN, w_isntB, w_ix, w_isi, w_abs, w_max2, w_min2, w_max1L, w_min1L, w_sum, w_all, w_any, w_len, w_int, w_intB, w_divmod, w_sorted, w_list, w_bits, w_sl, w_slL, w_slF, w_slR, w_slT, w_newF, w_newT, w_eqL, w_eqT, w_eqR, w_neL, w_neT, w_neR, w_dgT, w_derL, w_derT, w_derB, w_derI, w_derN, w_derS, w_eqSS, w_eqBB, w_neSS, w_neBB, w_eqBI, w_eqIN, w_neIN, w_eqNI, w_neNI, w_eqNN, w_neNN, w_NN, w_NI, w_IN])
    refine ⟨lit_len (n := 4) (by decide), b, s, x, .lt, u, c, rfl, hb, ⟨x0, x1⟩, hu, hcK, fun r hr => ?_⟩
    rw [first_uniq hr hfu]
    simp only [optD]
    (try simp only [dgU, w_lrg, dCut, dDGet, dDGet1, dDGet2, dDPut, dPairs, w_disp, w_newDF, w_newDT, dec_self, List.map_cons, List.map_nil, eqD_bl, eqD_int, eqD_str, eqD_tup, eqD_lst, eqDs_nil, eqDs_nc, eqDs_cn, eqDs_cons, reduceIte, Bool.false_eq_true, Bool.not_true, Bool.not_false, decide_true, decide_false, dVar, atD, setD, startD, dC, dOp, dAnd, dOr, dNot, dIf, dUn, dNil, dCons, dTup, dLst, rInD, rNotInD, dNoPart, dPart, dRev, dFld, DL.fieldsOf, dCB, dNext, dSeq, dBreak, dCont, dDrop, dRet, dRetN, dIfS, dNever, dgN, dgNil, dgCons, dgSub, dAsg, dPar, dPar3, putD, dSetF, dMt, rAppendD, rPopD, rExtendD, lsT, lsR, lsF, itemsR, dFrz, dCall, dCallK, dMeth, dMake, dFor, dIL, dIT, dIR1, dIR2, dIE, dIZ, wipeD, dYes, dLc, dDic0, updM_same, cxOf, asBl_bl, asInt_int, asTup_tup, isN, w_test, w_chain, w_andV, w_orV, w_notV, w_neg, w_sub, w_div, w_mod, w_pow, w_shl, w_shr, w_and, w_or, w_xor, w_lt, w_le, w_gt, w_ge, w_add, w_addS, w_addT, w_addL, w_addF, w_addR, w_mul, w_mulL, w_eq, w_ne, w_isN, w_isB, w_isntN, w_isntB, w_ix, w_isi, w_abs, w_max2, w_min2, w_max1L, w_min1L, w_sum, w_all, w_any, w_len, w_int, w_intB, w_divmod, w_sorted, w_list, w_bits, w_sl, w_slL, w_slF, w_slR, w_slT, w_newF, w_newT, w_eqL, w_eqT, w_eqR, w_neL, w_neT, w_neR, w_dgT, w_derL, w_derT, w_derB, w_derI, w_derN, w_derS, w_eqSS, w_eqBB, w_neSS, w_neBB, w_eqBI, w_eqIN, w_neIN, w_eqNI, w_neNI, w_eqNN, w_neNN, w_NN, w_NI, w_IN])
    refine ⟨lit_len (n := 4) (by decide), b, s, x, .lt, u, c, m, rfl, hb, ⟨x0, x1⟩, hu, hcK, hm4, hles, ?_⟩
    rw [Int.ediv_eq_zero_of_lt (by omega) (by omega)]
    (try simp only [dgU, w_lrg, dCut, dDGet, dDGet1, dDGet2, dDPut, dPairs, w_disp, w_newDF, w_newDT, dec_self, List.map_cons, List.map_nil, eqD_bl, eqD_int, eqD_str, eqD_tup, eqD_lst, eqDs_nil, eqDs_nc, eqDs_cn, eqDs_cons, reduceIte, Bool.false_eq_true, Bool.not_true, Bool.not_false, decide_true, decide_false, dVar, atD, setD, startD, dC, dOp, dAnd, dOr, dNot, dIf, dUn, dNil, dCons, dTup, dLst, rInD, rNotInD, dNoPart, dPart, dRev, dFld, DL.fieldsOf, dCB, dNext, dSeq, dBreak, dCont, dDrop, dRet, dRetN, dIfS, dNever, dgN, dgNil, dgCons, dgSub, dAsg, dPar, dPar3, putD, dSetF, dMt, rAppendD, rPopD, rExtendD, lsT, lsR, lsF, itemsR, dFrz, dCall, dCallK, dMeth, dMake, dFor, dIL, dIT, dIR1, dIR2, dIE, dIZ, wipeD, dYes, dLc, dDic0, updM_same, cxOf, asBl_bl, asInt_int, asTup_tup, isN, w_test, w_chain, w_andV, w_orV, w_notV, w_neg, w_sub, w_div, w_mod, w_pow, w_shl, w_shr, w_and, w_or, w_xor, w_lt, w_le, w_gt, w_ge, w_add, w_addS, w_addT, w_addL, w_addF, w_addR, w_mul, w_mulL, w_eq, w_ne, w_isN, w_isB, w_isntN, w_isntB, w_ix, w_isi, w_abs, w_max2, w_min2, w_max1L, w_min1L, w_sum, w_all, w_any, w_len, w_int, w_intB, w_divmod, w_sorted, w_list, w_bits, w_sl, w_slL, w_slF, w_slR, w_slT, w_newF, w_newT, w_eqL, w_eqT, w_eqR, w_neL, w_neT, w_neR, w_dgT, w_derL, w_derT, w_derB, w_derI, w_derN, w_derS, w_eqSS, w_eqBB, w_neSS, w_neBB, w_eqBI, w_eqIN, w_neIN, w_eqNI, w_neNI, w_eqNN, w_neNN, w_NN, w_NI, w_IN])
    (first | exact ⟨rfl, rfl⟩ | exact ⟨rfl, True.intro⟩ | exact ⟨True.intro, rfl⟩ | exact ⟨True.intro, True.intro⟩)
  have hmul : IntMulOk (m : Int) c := mulOk_b (m := 200) (n := 200) (by omega) (in_small hb hcK) (by decide) (by decide)
  (try simp only [dgU, w_lrg, dCut, dDGet, dDGet1, dDGet2, dDPut, dPairs, w_disp, w_newDF, w_newDT, dec_self, List.map_cons, List.map_nil, eqD_bl, eqD_int, eqD_str, eqD_tup, eqD_lst, eqDs_nil, eqDs_nc, eqDs_cn, eqDs_cons, reduceIte, Bool.false_eq_true, Bool.not_true, Bool.not_false, decide_true, decide_false, dVar, atD, setD, startD, dC, dOp, dAnd, dOr, dNot, dIf, dUn, dNil, dCons, dTup, dLst, rInD, rNotInD, dNoPart, dPart, dRev, dFld, DL.fieldsOf, dCB, dNext, dSeq, dBreak, dCont, dDrop, dRet, dRetN, dIfS, dNever, dgN, dgNil, dgCons, dgSub, dAsg, dPar, dPar3, putD, dSetF, dMt, rAppendD, rPopD, rExtendD, lsT, lsR, lsF, itemsR, dFrz, dCall, dCallK, dMeth, dMake, dFor, dIL, dIT, dIR1, dIR2, dIE, dIZ, wipeD, dYes, dLc, dDic0, updM_same, cxOf, asBl_bl, asInt_int, asTup_tup, isN, w_test, w_chain, w_andV, w_orV, w_notV, w_neg, w_sub, w_div, w_mod, w_pow, w_shl, w_shr, w_and, w_or, w_xor, w_lt, w_le, w_gt, w_ge, w_add, w_addS, w_addT, w_addL, w_addF, w_addR, w_mul, w_mulL, w_eq, w_ne, w_isN, w_isB, w_isntN, w_isntB, w_ix, w_isi, w_abs, w_max2, w_min2, w_max1L, w_min1L, w_sum, w_all, w_any, w_len, w_int, w_intB, w_divmod, w_sorted, w_list, w_bits, w_sl, w_slL, w_slF, w_slR, w_slT, w_newF, w_newT, w_eqL, w_eqT, w_eqR, w_neL, w_neT, w_neR, w_dgT, w_derL, w_derT, w_derB, w_derI, w_derN, w_derS, w_eqSS, w_eqBB, w_neSS, w_neBB, w_eqBI, w_eqIN, w_neIN, w_eqNI, w_neNI, w_eqNN, w_neNN, w_NN, w_NI, w_IN])
  refine cut_is false ?_ ?_
  · (try simp only [dgU, w_lrg, dCut, dDGet, dDGet1, dDGet2, dDPut, dPairs, w_disp, w_newDF, w_newDT, dec_self, List.map_cons, List.map_nil, eqD_bl, eqD_int, eqD_str, eqD_tup, eqD_lst, eqDs_nil, eqDs_nc, eqDs_cn, eqDs_cons, reduceIte, Bool.false_eq_true, Bool.not_true, Bool.not_false, decide_true, decide_false, dVar, atD, setD, startD, dC, dOp, dAnd, dOr, dNot, dIf, dUn, dNil, dCons, dTup, dLst, rInD, rNotInD, dNoPart, dPart, dRev, dFld, DL.fieldsOf, dCB, dNext, dSeq, dBreak, dCont, dDrop, dRet, dRetN, dIfS, dNever, dgN, dgNil, dgCons, dgSub, dAsg, dPar, dPar3, putD, dSetF, dMt, rAppendD, rPopD, rExtendD, lsT, lsR, lsF, itemsR, dFrz, dCall, dCallK, dMeth, dMake, dFor, dIL, dIT, dIR1, dIR2, dIE, dIZ, wipeD, dYes, dLc, dDic0, updM_same, cxOf, asBl_bl, asInt_int, asTup_tup, isN, w_test, w_chain, w_andV, w_orV, w_notV, w_neg, w_sub, w_div, w_mod, w_pow, w_shl, w_shr, w_and, w_or, w_xor, w_lt, w_le, w_gt, w_ge, w_add, w_addS, w_addT, w_addL, w_addF, w_addR, w_mul, w_mulL, w_eq, w_ne, w_isN, w_isB, w_isntN, w_isntB, w_ix, w_isi, w_abs, w_max2, w_min2, w_max1L, w_min1L, w_sum, w_all, w_any, w_len, w_int, w_intB, w_divmod, w_sorted, w_list, w_bits, w_sl, w_slL, w_slF, w_slR, w_slT, w_newF, w_newT, w_eqL, w_eqT, w_eqR, w_neL, w_neT, w_neR, w_dgT, w_derL, w_derT, w_derB, w_derI, w_derN, w_derS, w_eqSS, w_eqBB, w_neSS, w_neBB, w_eqBI, w_eqIN, w_neIN, w_eqNI, w_neNI, w_eqNN, w_neNN, w_NN, w_NI, w_IN])
    refine ⟨lit_len (n := 4) (by decide), b, s, x, .lt, u, c, rfl, hb, ⟨x0, x1⟩, hu, hcK, fun r hr => ?_⟩
    rw [first_uniq hr hfu]
    simp only [endD2]
    rw [val_in (by omega) htu]
    refine ⟨hmul, ?_⟩
    (try simp only [dgU, w_lrg, dCut, dDGet, dDGet1, dDGet2, dDPut, dPairs, w_disp, w_newDF, w_newDT, dec_self, List.map_cons, List.map_nil, eqD_bl, eqD_int, eqD_str, eqD_tup, eqD_lst, eqDs_nil, eqDs_nc, eqDs_cn, eqDs_cons, reduceIte, Bool.false_eq_true, Bool.not_true, Bool.not_false, decide_true, decide_false, dVar, atD, setD, startD, dC, dOp, dAnd, dOr, dNot, dIf, dUn, dNil, dCons, dTup, dLst, rInD, rNotInD, dNoPart, dPart, dRev, dFld, DL.fieldsOf, dCB, dNext, dSeq, dBreak, dCont, dDrop, dRet, dRetN, dIfS, dNever, dgN, dgNil, dgCons, dgSub, dAsg, dPar, dPar3, putD, dSetF, dMt, rAppendD, rPopD, rExtendD, lsT, lsR, lsF, itemsR, dFrz, dCall, dCallK, dMeth, dMake, dFor, dIL, dIT, dIR1, dIR2, dIE, dIZ, wipeD, dYes, dLc, dDic0, updM_same, cxOf, asBl_bl, asInt_int, asTup_tup, isN, w_test, w_chain, w_andV, w_orV, w_notV, w_neg, w_sub, w_div, w_mod, w_pow, w_shl, w_shr, w_and, w_or, w_xor, w_lt, w_le, w_gt, w_ge, w_add, w_addS, w_addT, w_addL, w_addF, w_addR, w_mul, w_mulL, w_eq, w_ne, w_isN, w_isB, w_isntN, w_isntB, w_ix, w_isi, w_abs, w_max2, w_min2, w_max1L, w_min1L, w_sum, w_all, w_any, w_len, w_int, w_intB, w_divmod, w_sorted, w_list, w_bits, w_sl, w_slL, w_slF, w_slR, w_slT, w_newF, w_newT, w_eqL, w_eqT, w_eqR, w_neL, w_neT, w_neR, w_dgT, w_derL, w_derT, w_derB, w_derI, w_derN, w_derS, w_eqSS, w_eqBB, w_neSS, w_neBB, w_eqBI, w_eqIN, w_neIN, w_eqNI, w_neNI, w_eqNN, w_neNN, w_NN, w_NI, w_IN])
    (first | exact ⟨rfl, rfl⟩ | exact ⟨rfl, True.intro⟩ | exact ⟨True.intro, rfl⟩ | exact ⟨True.intro, True.intro⟩)
  (try simp only [dgU, w_lrg, dCut, dDGet, dDGet1, dDGet2, dDPut, dPairs, w_disp, w_newDF, w_newDT, dec_self, List.map_cons, List.map_nil, eqD_bl, eqD_int, eqD_str, eqD_tup, eqD_lst, eqDs_nil, eqDs_nc, eqDs_cn, eqDs_cons, reduceIte, Bool.false_eq_true, Bool.not_true, Bool.not_false, decide_true, decide_false, dVar, atD, setD, startD, dC, dOp, dAnd, dOr, dNot, dIf, dUn, dNil, dCons, dTup, dLst, rInD, rNotInD, dNoPart, dPart, dRev, dFld, DL.fieldsOf, dCB, dNext, dSeq, dBreak, dCont, dDrop, dRet, dRetN, dIfS, dNever, dgN, dgNil, dgCons, dgSub, dAsg, dPar, dPar3, putD, dSetF, dMt, rAppendD, rPopD, rExtendD, lsT, lsR, lsF, itemsR, dFrz, dCall, dCallK, dMeth, dMake, dFor, dIL, dIT, dIR1, dIR2, dIE, dIZ, wipeD, dYes, dLc, dDic0, updM_same, cxOf, asBl_bl, asInt_int, asTup_tup, isN, w_test, w_chain, w_andV, w_orV, w_notV, w_neg, w_sub, w_div, w_mod, w_pow, w_shl, w_shr, w_and, w_or, w_xor, w_lt, w_le, w_gt, w_ge, w_add, w_addS, w_addT, w_addL, w_addF, w_addR, w_mul, w_mulL, w_eq, w_ne, w_isN, w_isB, w_isntN, w_isntB, w_ix, w_isi, w_abs, w_max2, w_min2, w_max1L, w_min1L, w_sum, w_all, w_any, w_len, w_int, w_intB, w_divmod, w_sorted, w_list, w_bits, w_sl, w_slL, w_slF, w_slR, w_slT, w_newF, w_newT, w_eqL, w_eqT, w_eqR, w_neL, w_neT, w_neR, w_dgT, w_derL, w_derT, w_derB, w_derI, w_derN, w_derS, w_eqSS, w_eqBB, w_neSS, w_neBB, w_eqBI, w_eqIN, w_neIN, w_eqNI, w_neNI, w_eqNN, w_neNN, w_NN, w_NI, w_IN])
  by_cases gl : lowZ b s = 0
  · exact if_yes (decide_eq_true gl) (endD_of (hQ _ hs))
  refine if_no (decide_eq_false gl) ?_
  have hlw : lowZ b s = -(2 ^ (b - 1)) := by
    cases s with
    | false => exact absurd rfl gl
    | true => rfl
  obtain ⟨u0, u1⟩ := hu
  have hfd : FirstR b s (-1 - x) .gt (-1 - u) (0 - c) (some m) := first_down (by omega) (by omega) hc1 (by omega) (by omega) (.inr (by omega))
  have hx' : InK b s (-1 - x) := ⟨by omega, by omega⟩
  have hu' : InK b s (-1 - u) := ⟨by omega, by omega⟩
  have hc' : InK b s (0 - c) := ⟨by omega, by omega⟩
  refine ⟨lit_len (n := 4) (by decide), b, s, _, .gt, _, _, rfl, hb, hx', hu', hc', fun r hr => ?_⟩
  rw [first_uniq hr hfd]
  simp only [optD]
  (try simp only [dgU, w_lrg, dCut, dDGet, dDGet1, dDGet2, dDPut, dPairs, w_disp, w_newDF, w_newDT, dec_self, List.map_cons, List.map_nil, eqD_bl, eqD_int, eqD_str, eqD_tup, eqD_lst, eqDs_nil, eqDs_nc, eqDs_cn, eqDs_cons, reduceIte, Bool.false_eq_true, Bool.not_true, Bool.not_false, decide_true, decide_false, dVar, atD, setD, startD, dC, dOp, dAnd, dOr, dNot, dIf, dUn, dNil, dCons, dTup, dLst, rInD, rNotInD, dNoPart, dPart, dRev, dFld, DL.fieldsOf, dCB, dNext, dSeq, dBreak, dCont, dDrop, dRet, dRetN, dIfS, dNever, dgN, dgNil, dgCons, dgSub, dAsg, dPar, dPar3, putD, dSetF, dMt, rAppendD, rPopD, rExtendD, lsT, lsR, lsF, itemsR, dFrz, dCall, dCallK, dMeth, dMake, dFor, dIL, dIT, dIR1, dIR2, dIE, dIZ, wipeD, dYes, dLc, dDic0, updM_same, cxOf, asBl_bl, asInt_int, asTup_tup, isN, w_test, w_chain, w_andV, w_orV, w_notV, w_neg, w_sub, w_div, w_mod, w_pow, w_shl, w_shr, w_and, w_or, w_xor, w_lt, w_le, w_gt, w_ge, w_add, w_addS, w_addT, w_addL, w_addF, w_addR, w_mul, w_mulL, w_eq, w_ne, w_isN, w_isB, w_isntN, w_isntB, w_ix, w_isi, w_abs, w_max2, w_min2, w_max1L, w_min1L, w_sum, w_all, w_any, w_len, w_int, w_intB, w_divmod, w_sorted, w_list, w_bits, w_sl, w_slL, w_slF, w_slR, w_slT, w_newF, w_newT, w_eqL, w_eqT, w_eqR, w_neL, w_neT, w_neR, w_dgT, w_derL, w_derT, w_derB, w_derI, w_derN, w_derS, w_eqSS, w_eqBB, w_neSS, w_neBB, w_eqBI, w_eqIN, w_neIN, w_eqNI, w_neNI, w_eqNN, w_neNN, w_NN, w_NI, w_IN])
  refine ⟨lit_len (n := 4) (by decide), b, s, _, .gt, _, _, m, rfl, hb, hx', hu', hc', hm4, fun k hk => ?_, ?_⟩
  · have e := first_uniq hfd hk
    cases e
    exact Nat.le_refl _
  rw [show -1 - x - lowZ b s + (m : Int) * (0 - c) = -1 - x - lowZ b s - m * c by rw [Int.mul_sub, Int.mul_zero]; omega, Int.ediv_eq_zero_of_lt (by omega) (by omega)]
  (try simp only [dgU, w_lrg, dCut, dDGet, dDGet1, dDGet2, dDPut, dPairs, w_disp, w_newDF, w_newDT, dec_self, List.map_cons, List.map_nil, eqD_bl, eqD_int, eqD_str, eqD_tup, eqD_lst, eqDs_nil, eqDs_nc, eqDs_cn, eqDs_cons, reduceIte, Bool.false_eq_true, Bool.not_true, Bool.not_false, decide_true, decide_false, dVar, atD, setD, startD, dC, dOp, dAnd, dOr, dNot, dIf, dUn, dNil, dCons, dTup, dLst, rInD, rNotInD, dNoPart, dPart, dRev, dFld, DL.fieldsOf, dCB, dNext, dSeq, dBreak, dCont, dDrop, dRet, dRetN, dIfS, dNever, dgN, dgNil, dgCons, dgSub, dAsg, dPar, dPar3, putD, dSetF, dMt, rAppendD, rPopD, rExtendD, lsT, lsR, lsF, itemsR, dFrz, dCall, dCallK, dMeth, dMake, dFor, dIL, dIT, dIR1, dIR2, dIE, dIZ, wipeD, dYes, dLc, dDic0, updM_same, cxOf, asBl_bl, asInt_int, asTup_tup, isN, w_test, w_chain, w_andV, w_orV, w_notV, w_neg, w_sub, w_div, w_mod, w_pow, w_shl, w_shr, w_and, w_or, w_xor, w_lt, w_le, w_gt, w_ge, w_add, w_addS, w_addT, w_addL, w_addF, w_addR, w_mul, w_mulL, w_eq, w_ne, w_isN, w_isB, w_isntN, w_isntB, w_ix, w_isi, w_abs, w_max2, w_min2, w_max1L, w_min1L, w_sum, w_all, w_any, w_len, w_int, w_intB, w_divmod, w_sorted, w_list, w_bits, w_sl, w_slL, w_slF, w_slR, w_slT, w_newF, w_newT, w_eqL, w_eqT, w_eqR, w_neL, w_neT, w_neR, w_dgT, w_derL, w_derT, w_derB, w_derI, w_derN, w_derS, w_eqSS, w_eqBB, w_neSS, w_neBB, w_eqBI, w_eqIN, w_neIN, w_eqNI, w_neNI, w_eqNN, w_neNN, w_NN, w_NI, w_IN])
  exact endD_of (hQ _ hs)
theorem ok__law_met_right (T : Txt K mg C_Kind) (F__law_put : FnD P w K mg base 1 "_law_put" s__law_put ["_law_n", "_law_low", "_law_size"] (sp_put)) (F__law_next : FnD P w K mg base 1 "_law_next" s__law_next ["_law_source", "_law_many"] (sp_next)) (F__law_value : FnD P w K mg base 3 "_law_value" s__law_value ["_law_source", "_law_low", "_law_size"] (sp_value)) (F__law_wide : FnD P w K mg base 2 "_law_wide" s__law_wide ["_law_source", "_law_m"] (sp_wide)) (F_endless_starts : FnD P w K mg base 5 "endless_starts" s_endless_starts ["kind", "word", "b", "c"] (sp_endless C_Kind)) (F_rounds : FnD P w K mg base 144 "rounds" s_rounds ["kind", "loop"] (sp_rounds C_Kind)) (F_end_value : FnD P w K mg base 144 "end_value" s_end_value ["kind", "loop"] (sp_endv C_Kind)) (F_round_value : FnD P w K mg base 144 "round_value" s_round_value ["kind", "loop", "n"] (sp_rval C_Kind)) (F_Kind_parts : MtdD P w K mg base 1 C_Kind "parts" s_Kind_parts ["self"] (sp_parts C_Kind)) (F_inverse : FnD P w K mg base 5 "inverse" s_inverse ["kind", "x"] (sp_inverse C_Kind)) : FnD P w K mg base 145 "_law_met_right" s__law_met_right ["_law_source", "_law_kind", "_law_low", "_law_size"] (sp_lpart C_Kind) := by
  refine fn_mk T.h__law_met_right sc__law_met_right 12 rfl (by intro ds M Q h; first | (obtain ⟨rfl, _⟩ := h; rfl) | (obtain ⟨_, rfl, _⟩ := h; rfl) | (obtain ⟨_, _, rfl, _⟩ := h; rfl) | (obtain ⟨_, _, _, rfl, _⟩ := h; rfl) | (obtain ⟨_, _, _, _, rfl, _⟩ := h; rfl) | (obtain ⟨_, _, _, _, _, rfl, _⟩ := h; rfl) | (obtain ⟨_, _, _, _, _, _, rfl, _⟩ := h; rfl) | (obtain ⟨_, _, _, _, _, _, _, rfl, _⟩ := h; rfl) | (obtain ⟨_, _, _, _, _, _, _, _, rfl, _⟩ := h; rfl) | (obtain ⟨_, _, _, _, _, _, _, _, _, rfl, _⟩ := h; rfl) | (obtain ⟨_, _, _, _, _, _, _, _, _, _, rfl, _⟩ := h; rfl) | (obtain ⟨_, _, _, _, _, _, _, _, _, _, _, rfl, _⟩ := h; rfl) | (obtain ⟨_, _, _, _, _, _, _, _, _, _, _, _, rfl, _⟩ := h; rfl)) (fun f cdv A outer s H E hr => ⟨_, (dss_stop (ds_par (i := 4) (j := 5) sc__law_met_right.nd (da_cons (de_call F__law_value hr (da_cons (dv 0) (da_cons (dv 2) (da_cons (dv 3) da_nil)))) (da_cons (de_call F__law_wide hr (da_cons (dv 0) (da_cons (dv 3) da_nil))) da_nil)))
    (dss_stop (ds_set (i := 6) sc__law_met_right.nd (de_call F__law_put hr (da_cons (de_op (od_add false) (de_op (od_mul false) de_int (de_call F__law_wide hr (da_cons (dv 0) (da_cons (dv 3) da_nil)))) de_int) (da_cons (dv 2) (da_cons (dv 3) da_nil)))))
    (dss_stop (ds_set (i := 7) sc__law_met_right.nd (de_call F__law_put hr (da_cons (de_op (od_add false) (dv 4) (de_op (od_mul false) (dv 5) (dv 6))) (da_cons (dv 2) (da_cons (dv 3) da_nil)))))
    (dss_stop (ds_set (i := 8) sc__law_met_right.nd (de_tup (da_cons (dv 4) (da_cons de_str (da_cons (dv 7) (da_cons (dv 6) da_nil))))))
    (dss_stop (ds_if (dt_cut (dt_w (dw_or (dt_cmp (od_ne hr.units) (de_call F_rounds hr (da_cons (dv 1) (da_cons (dv 8) da_nil))) (dv 5)) (dw_or (dt_cmp (od_ne hr.units) (de_call F_end_value hr (da_cons (dv 1) (da_cons (dv 8) da_nil))) (dv 7)) (dw_or1 (dt_cmp od_isnot (de_call F_round_value hr (da_cons (dv 1) (da_cons (dv 8) (da_cons (dv 5) da_nil)))) de_non))))))
    (dss_one (ds_ret de_bl))
    dss_nil)
    (dss_stop (ds_if (dt_cut (dt_w (dw_or (dt_cmp (od_ne hr.units) (de_op od_mod (de_ct cd_int (by rfl) T.b_int (by decide +kernel) (da_cons (de_op od_sub (de_op (od_mul false) (de_call F_inverse hr (da_cons (dv 1) (da_cons (dv 6) da_nil))) (de_op od_sub (dv 7) (dv 4))) (dv 5)) da_nil)) (dv 3)) de_int) (dw_or1 (dt_cmp (od_ne hr.units) (de_call F_endless_starts hr (da_cons (dv 1) (da_cons de_str (da_cons (dv 7) (da_cons (dv 6) da_nil))))) de_int)))))
    (dss_one (ds_ret de_bl))
    dss_nil)
    (dss_stop (ds_set (i := 9) sc__law_met_right.nd (de_call F__law_next hr (da_cons (dv 0) (da_cons (de_op (od_add false) (de_ix (de_meth0 F_Kind_parts T.cl_Kind hr (dv 1)) de_int) de_int) da_nil))))
    (dss_stop (ds_set (i := 10) sc__law_met_right.nd (de_call F__law_put hr (da_cons (de_op od_shl (dv 6) (dv 9)) (da_cons (dv 2) (da_cons (dv 3) da_nil)))))
    (dss_stop (ds_if (dt_cmp (od_ne hr.units) (de_call F_endless_starts hr (da_cons (dv 1) (da_cons de_str (da_cons (dv 7) (da_cons (dv 10) da_nil))))) (de_op od_sub (dv 3) (de_op od_shr (dv 3) (dv 9))))
    (dss_one (ds_ret de_bl))
    dss_nil)
    (dss_stop (ds_set (i := 11) sc__law_met_right.nd (de_call F__law_put hr (da_cons (de_op (od_add false) (dv 7) (de_op od_div (de_op od_shl de_int (dv 9)) de_int)) (da_cons (dv 2) (da_cons (dv 3) da_nil)))))
    (dss_one (ds_ret (de_or (de_cmp (od_eq hr.units) (dv 9) de_int) (de_one (de_cmp od_is (de_call F_rounds hr (da_cons (dv 1) (da_cons (de_tup (da_cons (dv 11) (da_cons de_str (da_cons (dv 7) (da_cons (dv 10) da_nil))))) da_nil))) de_non))))))))))))))), ?_⟩)
  rintro ds M Q ⟨a, b, s, rfl, hM, hb, hQ⟩
  have hp := two_pos b
  have h22 := two_succ hb.1
  have hp2 := two_pos (b - 1)
  have hbig : (2 : Int) ^ b < 2 ^ 9000 := Int.lt_trans (small_bits hb) (by decide +kernel)
  (refine stop_to ?_; (try simp only [dgU, w_lrg, dCut, dDGet, dDGet1, dDGet2, dDPut, dPairs, w_disp, w_newDF, w_newDT, dec_self, List.map_cons, List.map_nil, eqD_bl, eqD_int, eqD_str, eqD_tup, eqD_lst, eqDs_nil, eqDs_nc, eqDs_cn, eqDs_cons, reduceIte, Bool.false_eq_true, Bool.not_true, Bool.not_false, decide_true, decide_false, dVar, atD, setD, startD, dC, dOp, dAnd, dOr, dNot, dIf, dUn, dNil, dCons, dTup, dLst, rInD, rNotInD, dNoPart, dPart, dRev, dFld, DL.fieldsOf, dCB, dNext, dSeq, dBreak, dCont, dDrop, dRet, dRetN, dIfS, dNever, dgN, dgNil, dgCons, dgSub, dAsg, dPar, dPar3, putD, dSetF, dMt, rAppendD, rPopD, rExtendD, lsT, lsR, lsF, itemsR, dFrz, dCall, dCallK, dMeth, dMake, dFor, dIL, dIT, dIR1, dIR2, dIE, dIZ, wipeD, dYes, dLc, dDic0, updM_same, cxOf, asBl_bl, asInt_int, asTup_tup, isN, w_test, w_chain, w_andV, w_orV, w_notV, w_neg, w_sub, w_div, w_mod, w_pow, w_shl, w_shr, w_and, w_or, w_xor, w_lt, w_le, w_gt, w_ge, w_add, w_addS, w_addT, w_addL, w_addF, w_addR, w_mul, w_mulL, w_eq, w_ne, w_isN, w_isB, w_isntN, w_isntB, w_ix, w_isi, w_abs, w_max2, w_min2, w_max1L, w_min1L, w_sum, w_all, w_any, w_len, w_int, w_intB, w_divmod, w_sorted, w_list, w_bits, w_sl, w_slL, w_slF, w_slR, w_slT, w_newF, w_newT, w_eqL, w_eqT, w_eqR, w_neL, w_neT, w_neR, w_dgT, w_derL, w_derT, w_derB, w_derI, w_derN, w_derS, w_eqSS, w_eqBB, w_neSS, w_neBB, w_eqBI, w_eqIN, w_neIN, w_eqNI, w_neNI, w_eqNN, w_neNN, w_NN, w_NI, w_IN]))
  refine ⟨a, _, _, rfl, hM, hp, hbig, fun x M1 x0 x1 hs1 => ?_⟩
  refine ⟨a, _, rfl, hs1.src, hp, hbig, fun n M2 n0 n1 hs2 => ?_⟩
  obtain ⟨n, rfl⟩ := Int.eq_ofNat_of_zero_le n0
  have hs := hs1.trans hs2
  clear hs1 hs2
  (try simp only [dgU, w_lrg, dCut, dDGet, dDGet1, dDGet2, dDPut, dPairs, w_disp, w_newDF, w_newDT, dec_self, List.map_cons, List.map_nil, eqD_bl, eqD_int, eqD_str, eqD_tup, eqD_lst, eqDs_nil, eqDs_nc, eqDs_cn, eqDs_cons, reduceIte, Bool.false_eq_true, Bool.not_true, Bool.not_false, decide_true, decide_false, dVar, atD, setD, startD, dC, dOp, dAnd, dOr, dNot, dIf, dUn, dNil, dCons, dTup, dLst, rInD, rNotInD, dNoPart, dPart, dRev, dFld, DL.fieldsOf, dCB, dNext, dSeq, dBreak, dCont, dDrop, dRet, dRetN, dIfS, dNever, dgN, dgNil, dgCons, dgSub, dAsg, dPar, dPar3, putD, dSetF, dMt, rAppendD, rPopD, rExtendD, lsT, lsR, lsF, itemsR, dFrz, dCall, dCallK, dMeth, dMake, dFor, dIL, dIT, dIR1, dIR2, dIE, dIZ, wipeD, dYes, dLc, dDic0, updM_same, cxOf, asBl_bl, asInt_int, asTup_tup, isN, w_test, w_chain, w_andV, w_orV, w_notV, w_neg, w_sub, w_div, w_mod, w_pow, w_shl, w_shr, w_and, w_or, w_xor, w_lt, w_le, w_gt, w_ge, w_add, w_addS, w_addT, w_addL, w_addF, w_addR, w_mul, w_mulL, w_eq, w_ne, w_isN, w_isB, w_isntN, w_isntB, w_ix, w_isi, w_abs, w_max2, w_min2, w_max1L, w_min1L, w_sum, w_all, w_any, w_len, w_int, w_intB, w_divmod, w_sorted, w_list, w_bits, w_sl, w_slL, w_slF, w_slR, w_slT, w_newF, w_newT, w_eqL, w_eqT, w_eqR, w_neL, w_neT, w_neR, w_dgT, w_derL, w_derT, w_derB, w_derI, w_derN, w_derS, w_eqSS, w_eqBB, w_neSS, w_neBB, w_eqBI, w_eqIN, w_neIN, w_eqNI, w_neNI, w_eqNN, w_neNN, w_NN, w_NI, w_IN])
  (refine stop_to ?_; (try simp only [dgU, w_lrg, dCut, dDGet, dDGet1, dDGet2, dDPut, dPairs, w_disp, w_newDF, w_newDT, dec_self, List.map_cons, List.map_nil, eqD_bl, eqD_int, eqD_str, eqD_tup, eqD_lst, eqDs_nil, eqDs_nc, eqDs_cn, eqDs_cons, reduceIte, Bool.false_eq_true, Bool.not_true, Bool.not_false, decide_true, decide_false, dVar, atD, setD, startD, dC, dOp, dAnd, dOr, dNot, dIf, dUn, dNil, dCons, dTup, dLst, rInD, rNotInD, dNoPart, dPart, dRev, dFld, DL.fieldsOf, dCB, dNext, dSeq, dBreak, dCont, dDrop, dRet, dRetN, dIfS, dNever, dgN, dgNil, dgCons, dgSub, dAsg, dPar, dPar3, putD, dSetF, dMt, rAppendD, rPopD, rExtendD, lsT, lsR, lsF, itemsR, dFrz, dCall, dCallK, dMeth, dMake, dFor, dIL, dIT, dIR1, dIR2, dIE, dIZ, wipeD, dYes, dLc, dDic0, updM_same, cxOf, asBl_bl, asInt_int, asTup_tup, isN, w_test, w_chain, w_andV, w_orV, w_notV, w_neg, w_sub, w_div, w_mod, w_pow, w_shl, w_shr, w_and, w_or, w_xor, w_lt, w_le, w_gt, w_ge, w_add, w_addS, w_addT, w_addL, w_addF, w_addR, w_mul, w_mulL, w_eq, w_ne, w_isN, w_isB, w_isntN, w_isntB, w_ix, w_isi, w_abs, w_max2, w_min2, w_max1L, w_min1L, w_sum, w_all, w_any, w_len, w_int, w_intB, w_divmod, w_sorted, w_list, w_bits, w_sl, w_slL, w_slF, w_slR, w_slT, w_newF, w_newT, w_eqL, w_eqT, w_eqR, w_neL, w_neT, w_neR, w_dgT, w_derL, w_derT, w_derB, w_derI, w_derN, w_derS, w_eqSS, w_eqBB, w_neSS, w_neBB, w_eqBI, w_eqIN, w_neIN, w_eqNI, w_neNI, w_eqNN, w_neNN, w_NN, w_NI, w_IN]))
  refine ⟨a, _, rfl, hs.src, hp, hbig, fun t M3 t0 t1 hs3 => ?_⟩
  have hs := hs.trans hs3
  clear hs3
  (try simp only [dgU, w_lrg, dCut, dDGet, dDGet1, dDGet2, dDPut, dPairs, w_disp, w_newDF, w_newDT, dec_self, List.map_cons, List.map_nil, eqD_bl, eqD_int, eqD_str, eqD_tup, eqD_lst, eqDs_nil, eqDs_nc, eqDs_cn, eqDs_cons, reduceIte, Bool.false_eq_true, Bool.not_true, Bool.not_false, decide_true, decide_false, dVar, atD, setD, startD, dC, dOp, dAnd, dOr, dNot, dIf, dUn, dNil, dCons, dTup, dLst, rInD, rNotInD, dNoPart, dPart, dRev, dFld, DL.fieldsOf, dCB, dNext, dSeq, dBreak, dCont, dDrop, dRet, dRetN, dIfS, dNever, dgN, dgNil, dgCons, dgSub, dAsg, dPar, dPar3, putD, dSetF, dMt, rAppendD, rPopD, rExtendD, lsT, lsR, lsF, itemsR, dFrz, dCall, dCallK, dMeth, dMake, dFor, dIL, dIT, dIR1, dIR2, dIE, dIZ, wipeD, dYes, dLc, dDic0, updM_same, cxOf, asBl_bl, asInt_int, asTup_tup, isN, w_test, w_chain, w_andV, w_orV, w_notV, w_neg, w_sub, w_div, w_mod, w_pow, w_shl, w_shr, w_and, w_or, w_xor, w_lt, w_le, w_gt, w_ge, w_add, w_addS, w_addT, w_addL, w_addF, w_addR, w_mul, w_mulL, w_eq, w_ne, w_isN, w_isB, w_isntN, w_isntB, w_ix, w_isi, w_abs, w_max2, w_min2, w_max1L, w_min1L, w_sum, w_all, w_any, w_len, w_int, w_intB, w_divmod, w_sorted, w_list, w_bits, w_sl, w_slL, w_slF, w_slR, w_slT, w_newF, w_newT, w_eqL, w_eqT, w_eqR, w_neL, w_neT, w_neR, w_dgT, w_derL, w_derT, w_derB, w_derI, w_derN, w_derS, w_eqSS, w_eqBB, w_neSS, w_neBB, w_eqBI, w_eqIN, w_neIN, w_eqNI, w_neNI, w_eqNN, w_neNN, w_NN, w_NI, w_IN])
  refine ⟨mulOk_l (by decide), _, _, _, rfl, hp, ?_⟩
  have hcd : lowZ b s + (2 * t + 1 - lowZ b s) % 2 ^ b = placedZ b s (2 * t + 1) := rfl
  rw [hcd]
  have hodd := odd_placed (b := b) (s := s) (n := t) hb.1
  have hc := placed_inK b s (2 * t + 1)
  generalize placedZ b s (2 * t + 1) = c at hodd hc
  clear hcd
  have hx : InK b s x := ⟨x0, x1⟩
  have hnb : n < 2 ^ 200 := by
    have := small_bits hb
    have : (2 : Int) ^ 140 < 2 ^ 200 := by decide +kernel
    omega
  have hmul : IntMulOk (n : Int) c := mulOk_b (m := 200) (n := 200) (by omega) (in_small hb hc) (by decide) (by decide)
  (refine stop_to ?_; (try simp only [dgU, w_lrg, dCut, dDGet, dDGet1, dDGet2, dDPut, dPairs, w_disp, w_newDF, w_newDT, dec_self, List.map_cons, List.map_nil, eqD_bl, eqD_int, eqD_str, eqD_tup, eqD_lst, eqDs_nil, eqDs_nc, eqDs_cn, eqDs_cons, reduceIte, Bool.false_eq_true, Bool.not_true, Bool.not_false, decide_true, decide_false, dVar, atD, setD, startD, dC, dOp, dAnd, dOr, dNot, dIf, dUn, dNil, dCons, dTup, dLst, rInD, rNotInD, dNoPart, dPart, dRev, dFld, DL.fieldsOf, dCB, dNext, dSeq, dBreak, dCont, dDrop, dRet, dRetN, dIfS, dNever, dgN, dgNil, dgCons, dgSub, dAsg, dPar, dPar3, putD, dSetF, dMt, rAppendD, rPopD, rExtendD, lsT, lsR, lsF, itemsR, dFrz, dCall, dCallK, dMeth, dMake, dFor, dIL, dIT, dIR1, dIR2, dIE, dIZ, wipeD, dYes, dLc, dDic0, updM_same, cxOf, asBl_bl, asInt_int, asTup_tup, isN, w_test, w_chain, w_andV, w_orV, w_notV, w_neg, w_sub, w_div, w_mod, w_pow, w_shl, w_shr, w_and, w_or, w_xor, w_lt, w_le, w_gt, w_ge, w_add, w_addS, w_addT, w_addL, w_addF, w_addR, w_mul, w_mulL, w_eq, w_ne, w_isN, w_isB, w_isntN, w_isntB, w_ix, w_isi, w_abs, w_max2, w_min2, w_max1L, w_min1L, w_sum, w_all, w_any, w_len, w_int, w_intB, w_divmod, w_sorted, w_list, w_bits, w_sl, w_slL, w_slF, w_slR, w_slT, w_newF, w_newT, w_eqL, w_eqT, w_eqR, w_neL, w_neT, w_neR, w_dgT, w_derL, w_derT, w_derB, w_derI, w_derN, w_derS, w_eqSS, w_eqBB, w_neSS, w_neBB, w_eqBI, w_eqIN, w_neIN, w_eqNI, w_neNI, w_eqNN, w_neNN, w_NN, w_NI, w_IN]))
  refine ⟨hmul, _, _, _, rfl, hp, ?_⟩
  rw [show lowZ b s + (x + (n : Int) * c - lowZ b s) % 2 ^ b = valZ b s x c n by rfl]
  have hfir := first_met (b := b) (s := s) (a := x) hodd n1
  have hu : InK b s (valZ b s x c n) := placed_inK b s _
  obtain ⟨yc, hyc⟩ := placed_cong b s (x + (n : Nat) * c)
  have hyc : valZ b s x c n - (x + (n : Int) * c) = 2 ^ b * yc := hyc
  have hval2 : valZ b s x c n = valZ b s x c n := rfl
  (refine stop_to ?_; (try simp only [dgU, w_lrg, dCut, dDGet, dDGet1, dDGet2, dDPut, dPairs, w_disp, w_newDF, w_newDT, dec_self, List.map_cons, List.map_nil, eqD_bl, eqD_int, eqD_str, eqD_tup, eqD_lst, eqDs_nil, eqDs_nc, eqDs_cn, eqDs_cons, reduceIte, Bool.false_eq_true, Bool.not_true, Bool.not_false, decide_true, decide_false, dVar, atD, setD, startD, dC, dOp, dAnd, dOr, dNot, dIf, dUn, dNil, dCons, dTup, dLst, rInD, rNotInD, dNoPart, dPart, dRev, dFld, DL.fieldsOf, dCB, dNext, dSeq, dBreak, dCont, dDrop, dRet, dRetN, dIfS, dNever, dgN, dgNil, dgCons, dgSub, dAsg, dPar, dPar3, putD, dSetF, dMt, rAppendD, rPopD, rExtendD, lsT, lsR, lsF, itemsR, dFrz, dCall, dCallK, dMeth, dMake, dFor, dIL, dIT, dIR1, dIR2, dIE, dIZ, wipeD, dYes, dLc, dDic0, updM_same, cxOf, asBl_bl, asInt_int, asTup_tup, isN, w_test, w_chain, w_andV, w_orV, w_notV, w_neg, w_sub, w_div, w_mod, w_pow, w_shl, w_shr, w_and, w_or, w_xor, w_lt, w_le, w_gt, w_ge, w_add, w_addS, w_addT, w_addL, w_addF, w_addR, w_mul, w_mulL, w_eq, w_ne, w_isN, w_isB, w_isntN, w_isntB, w_ix, w_isi, w_abs, w_max2, w_min2, w_max1L, w_min1L, w_sum, w_all, w_any, w_len, w_int, w_intB, w_divmod, w_sorted, w_list, w_bits, w_sl, w_slL, w_slF, w_slR, w_slT, w_newF, w_newT, w_eqL, w_eqT, w_eqR, w_neL, w_neT, w_neR, w_dgT, w_derL, w_derT, w_derB, w_derI, w_derN, w_derS, w_eqSS, w_eqBB, w_neSS, w_neBB, w_eqBI, w_eqIN, w_neIN, w_eqNI, w_neNI, w_eqNN, w_neNN, w_NN, w_NI, w_IN]))
  refine ⟨lit_len (n := 4) (by decide), ?_⟩
  (refine stop_to ?_; (try simp only [dgU, w_lrg, dCut, dDGet, dDGet1, dDGet2, dDPut, dPairs, w_disp, w_newDF, w_newDT, dec_self, List.map_cons, List.map_nil, eqD_bl, eqD_int, eqD_str, eqD_tup, eqD_lst, eqDs_nil, eqDs_nc, eqDs_cn, eqDs_cons, reduceIte, Bool.false_eq_true, Bool.not_true, Bool.not_false, decide_true, decide_false, dVar, atD, setD, startD, dC, dOp, dAnd, dOr, dNot, dIf, dUn, dNil, dCons, dTup, dLst, rInD, rNotInD, dNoPart, dPart, dRev, dFld, DL.fieldsOf, dCB, dNext, dSeq, dBreak, dCont, dDrop, dRet, dRetN, dIfS, dNever, dgN, dgNil, dgCons, dgSub, dAsg, dPar, dPar3, putD, dSetF, dMt, rAppendD, rPopD, rExtendD, lsT, lsR, lsF, itemsR, dFrz, dCall, dCallK, dMeth, dMake, dFor, dIL, dIT, dIR1, dIR2, dIE, dIZ, wipeD, dYes, dLc, dDic0, updM_same, cxOf, asBl_bl, asInt_int, asTup_tup, isN, w_test, w_chain, w_andV, w_orV, w_notV, w_neg, w_sub, w_div, w_mod, w_pow, w_shl, w_shr, w_and, w_or, w_xor, w_lt, w_le, w_gt, w_ge, w_add, w_addS, w_addT, w_addL, w_addF, w_addR, w_mul, w_mulL, w_eq, w_ne, w_isN, w_isB, w_isntN, w_isntB, w_ix, w_isi, w_abs, w_max2, w_min2, w_max1L, w_min1L, w_sum, w_all, w_any, w_len, w_int, w_intB, w_divmod, w_sorted, w_list, w_bits, w_sl, w_slL, w_slF, w_slR, w_slT, w_newF, w_newT, w_eqL, w_eqT, w_eqR, w_neL, w_neT, w_neR, w_dgT, w_derL, w_derT, w_derB, w_derI, w_derN, w_derS, w_eqSS, w_eqBB, w_neSS, w_neBB, w_eqBI, w_eqIN, w_neIN, w_eqNI, w_neNI, w_eqNN, w_neNN, w_NN, w_NI, w_IN]))
  refine cut_is false ?_ ?_
  · (try simp only [dgU, w_lrg, dCut, dDGet, dDGet1, dDGet2, dDPut, dPairs, w_disp, w_newDF, w_newDT, dec_self, List.map_cons, List.map_nil, eqD_bl, eqD_int, eqD_str, eqD_tup, eqD_lst, eqDs_nil, eqDs_nc, eqDs_cn, eqDs_cons, reduceIte, Bool.false_eq_true, Bool.not_true, Bool.not_false, decide_true, decide_false, dVar, atD, setD, startD, dC, dOp, dAnd, dOr, dNot, dIf, dUn, dNil, dCons, dTup, dLst, rInD, rNotInD, dNoPart, dPart, dRev, dFld, DL.fieldsOf, dCB, dNext, dSeq, dBreak, dCont, dDrop, dRet, dRetN, dIfS, dNever, dgN, dgNil, dgCons, dgSub, dAsg, dPar, dPar3, putD, dSetF, dMt, rAppendD, rPopD, rExtendD, lsT, lsR, lsF, itemsR, dFrz, dCall, dCallK, dMeth, dMake, dFor, dIL, dIT, dIR1, dIR2, dIE, dIZ, wipeD, dYes, dLc, dDic0, updM_same, cxOf, asBl_bl, asInt_int, asTup_tup, isN, w_test, w_chain, w_andV, w_orV, w_notV, w_neg, w_sub, w_div, w_mod, w_pow, w_shl, w_shr, w_and, w_or, w_xor, w_lt, w_le, w_gt, w_ge, w_add, w_addS, w_addT, w_addL, w_addF, w_addR, w_mul, w_mulL, w_eq, w_ne, w_isN, w_isB, w_isntN, w_isntB, w_ix, w_isi, w_abs, w_max2, w_min2, w_max1L, w_min1L, w_sum, w_all, w_any, w_len, w_int, w_intB, w_divmod, w_sorted, w_list, w_bits, w_sl, w_slL, w_slF, w_slR, w_slT, w_newF, w_newT, w_eqL, w_eqT, w_eqR, w_neL, w_neT, w_neR, w_dgT, w_derL, w_derT, w_derB, w_derI, w_derN, w_derS, w_eqSS, w_eqBB, w_neSS, w_neBB, w_eqBI, w_eqIN, w_neIN, w_eqNI, w_neNI, w_eqNN, w_neNN, w_NN, w_NI, w_IN])
    refine ⟨b, s, x, .ne, _, c, rfl, hb, hx, hu, hc, fun r hr => ?_⟩
    rw [first_uniq hr hfir]
    simp only [optD]
    (try simp only [dgU, w_lrg, dCut, dDGet, dDGet1, dDGet2, dDPut, dPairs, w_disp, w_newDF, w_newDT, dec_self, List.map_cons, List.map_nil, eqD_bl, eqD_int, eqD_str, eqD_tup, eqD_lst, eqDs_nil, eqDs_nc, eqDs_cn, eqDs_cons, reduceIte, Bool.false_eq_true, Bool.not_true, Bool.not_false, decide_true, decide_false, dVar, atD, setD, startD, dC, dOp, dAnd, dOr, dNot, dIf, dUn, dNil, dCons, dTup, dLst, rInD, rNotInD, dNoPart, dPart, dRev, dFld, DL.fieldsOf, dCB, dNext, dSeq, dBreak, dCont, dDrop, dRet, dRetN, dIfS, dNever, dgN, dgNil, dgCons, dgSub, dAsg, dPar, dPar3, putD, dSetF, dMt, rAppendD, rPopD, rExtendD, lsT, lsR, lsF, itemsR, dFrz, dCall, dCallK, dMeth, dMake, dFor, dIL, dIT, dIR1, dIR2, dIE, dIZ, wipeD, dYes, dLc, dDic0, updM_same, cxOf, asBl_bl, asInt_int, asTup_tup, isN, w_test, w_chain, w_andV, w_orV, w_notV, w_neg, w_sub, w_div, w_mod, w_pow, w_shl, w_shr, w_and, w_or, w_xor, w_lt, w_le, w_gt, w_ge, w_add, w_addS, w_addT, w_addL, w_addF, w_addR, w_mul, w_mulL, w_eq, w_ne, w_isN, w_isB, w_isntN, w_isntB, w_ix, w_isi, w_abs, w_max2, w_min2, w_max1L, w_min1L, w_sum, w_all, w_any, w_len, w_int, w_intB, w_divmod, w_sorted, w_list, w_bits, w_sl, w_slL, w_slF, w_slR, w_slT, w_newF, w_newT, w_eqL, w_eqT, w_eqR, w_neL, w_neT, w_neR, w_dgT, w_derL, w_derT, w_derB, w_derI, w_derN, w_derS, w_eqSS, w_eqBB, w_neSS, w_neBB, w_eqBI, w_eqIN, w_neIN, w_eqNI, w_neNI, w_eqNN, w_neNN, w_NN, w_NI, w_IN])
    refine ⟨b, s, x, .ne, _, c, rfl, hb, hx, hu, hc, fun r hr => ?_⟩
    rw [first_uniq hr hfir]
    simp only [endD2]
    (try simp only [dgU, w_lrg, dCut, dDGet, dDGet1, dDGet2, dDPut, dPairs, w_disp, w_newDF, w_newDT, dec_self, List.map_cons, List.map_nil, eqD_bl, eqD_int, eqD_str, eqD_tup, eqD_lst, eqDs_nil, eqDs_nc, eqDs_cn, eqDs_cons, reduceIte, Bool.false_eq_true, Bool.not_true, Bool.not_false, decide_true, decide_false, dVar, atD, setD, startD, dC, dOp, dAnd, dOr, dNot, dIf, dUn, dNil, dCons, dTup, dLst, rInD, rNotInD, dNoPart, dPart, dRev, dFld, DL.fieldsOf, dCB, dNext, dSeq, dBreak, dCont, dDrop, dRet, dRetN, dIfS, dNever, dgN, dgNil, dgCons, dgSub, dAsg, dPar, dPar3, putD, dSetF, dMt, rAppendD, rPopD, rExtendD, lsT, lsR, lsF, itemsR, dFrz, dCall, dCallK, dMeth, dMake, dFor, dIL, dIT, dIR1, dIR2, dIE, dIZ, wipeD, dYes, dLc, dDic0, updM_same, cxOf, asBl_bl, asInt_int, asTup_tup, isN, w_test, w_chain, w_andV, w_orV, w_notV, w_neg, w_sub, w_div, w_mod, w_pow, w_shl, w_shr, w_and, w_or, w_xor, w_lt, w_le, w_gt, w_ge, w_add, w_addS, w_addT, w_addL, w_addF, w_addR, w_mul, w_mulL, w_eq, w_ne, w_isN, w_isB, w_isntN, w_isntB, w_ix, w_isi, w_abs, w_max2, w_min2, w_max1L, w_min1L, w_sum, w_all, w_any, w_len, w_int, w_intB, w_divmod, w_sorted, w_list, w_bits, w_sl, w_slL, w_slF, w_slR, w_slT, w_newF, w_newT, w_eqL, w_eqT, w_eqR, w_neL, w_neT, w_neR, w_dgT, w_derL, w_derT, w_derB, w_derI, w_derN, w_derS, w_eqSS, w_eqBB, w_neSS, w_neBB, w_eqBI, w_eqIN, w_neIN, w_eqNI, w_neNI, w_eqNN, w_neNN, w_NN, w_NI, w_IN])
    refine ⟨b, s, x, .ne, _, c, n, rfl, hb, hx, hu, hc, Nat.lt_trans hnb (by decide +kernel), fun r hr => ?_⟩
    rw [first_uniq hr hfir]
    simp only [rvalD]
    rw [if_neg (Nat.lt_irrefl n)]
    (try simp only [dgU, w_lrg, dCut, dDGet, dDGet1, dDGet2, dDPut, dPairs, w_disp, w_newDF, w_newDT, dec_self, List.map_cons, List.map_nil, eqD_bl, eqD_int, eqD_str, eqD_tup, eqD_lst, eqDs_nil, eqDs_nc, eqDs_cn, eqDs_cons, reduceIte, Bool.false_eq_true, Bool.not_true, Bool.not_false, decide_true, decide_false, dVar, atD, setD, startD, dC, dOp, dAnd, dOr, dNot, dIf, dUn, dNil, dCons, dTup, dLst, rInD, rNotInD, dNoPart, dPart, dRev, dFld, DL.fieldsOf, dCB, dNext, dSeq, dBreak, dCont, dDrop, dRet, dRetN, dIfS, dNever, dgN, dgNil, dgCons, dgSub, dAsg, dPar, dPar3, putD, dSetF, dMt, rAppendD, rPopD, rExtendD, lsT, lsR, lsF, itemsR, dFrz, dCall, dCallK, dMeth, dMake, dFor, dIL, dIT, dIR1, dIR2, dIE, dIZ, wipeD, dYes, dLc, dDic0, updM_same, cxOf, asBl_bl, asInt_int, asTup_tup, isN, w_test, w_chain, w_andV, w_orV, w_notV, w_neg, w_sub, w_div, w_mod, w_pow, w_shl, w_shr, w_and, w_or, w_xor, w_lt, w_le, w_gt, w_ge, w_add, w_addS, w_addT, w_addL, w_addF, w_addR, w_mul, w_mulL, w_eq, w_ne, w_isN, w_isB, w_isntN, w_isntB, w_ix, w_isi, w_abs, w_max2, w_min2, w_max1L, w_min1L, w_sum, w_all, w_any, w_len, w_int, w_intB, w_divmod, w_sorted, w_list, w_bits, w_sl, w_slL, w_slF, w_slR, w_slT, w_newF, w_newT, w_eqL, w_eqT, w_eqR, w_neL, w_neT, w_neR, w_dgT, w_derL, w_derT, w_derB, w_derI, w_derN, w_derS, w_eqSS, w_eqBB, w_neSS, w_neBB, w_eqBI, w_eqIN, w_neIN, w_eqNI, w_neNI, w_eqNN, w_neNN, w_NN, w_NI, w_IN])
    (first | exact ⟨rfl, rfl⟩ | exact ⟨rfl, True.intro⟩ | exact ⟨True.intro, rfl⟩ | exact ⟨True.intro, True.intro⟩)
  (try simp only [dgU, w_lrg, dCut, dDGet, dDGet1, dDGet2, dDPut, dPairs, w_disp, w_newDF, w_newDT, dec_self, List.map_cons, List.map_nil, eqD_bl, eqD_int, eqD_str, eqD_tup, eqD_lst, eqDs_nil, eqDs_nc, eqDs_cn, eqDs_cons, reduceIte, Bool.false_eq_true, Bool.not_true, Bool.not_false, decide_true, decide_false, dVar, atD, setD, startD, dC, dOp, dAnd, dOr, dNot, dIf, dUn, dNil, dCons, dTup, dLst, rInD, rNotInD, dNoPart, dPart, dRev, dFld, DL.fieldsOf, dCB, dNext, dSeq, dBreak, dCont, dDrop, dRet, dRetN, dIfS, dNever, dgN, dgNil, dgCons, dgSub, dAsg, dPar, dPar3, putD, dSetF, dMt, rAppendD, rPopD, rExtendD, lsT, lsR, lsF, itemsR, dFrz, dCall, dCallK, dMeth, dMake, dFor, dIL, dIT, dIR1, dIR2, dIE, dIZ, wipeD, dYes, dLc, dDic0, updM_same, cxOf, asBl_bl, asInt_int, asTup_tup, isN, w_test, w_chain, w_andV, w_orV, w_notV, w_neg, w_sub, w_div, w_mod, w_pow, w_shl, w_shr, w_and, w_or, w_xor, w_lt, w_le, w_gt, w_ge, w_add, w_addS, w_addT, w_addL, w_addF, w_addR, w_mul, w_mulL, w_eq, w_ne, w_isN, w_isB, w_isntN, w_isntB, w_ix, w_isi, w_abs, w_max2, w_min2, w_max1L, w_min1L, w_sum, w_all, w_any, w_len, w_int, w_intB, w_divmod, w_sorted, w_list, w_bits, w_sl, w_slL, w_slF, w_slR, w_slT, w_newF, w_newT, w_eqL, w_eqT, w_eqR, w_neL, w_neT, w_neR, w_dgT, w_derL, w_derT, w_derB, w_derI, w_derN, w_derS, w_eqSS, w_eqBB, w_neSS, w_neBB, w_eqBI, w_eqIN, w_neIN, w_eqNI, w_neNI, w_eqNN, w_neNN, w_NN, w_NI, w_IN])
  have h0 : (2 : Int) ^ 0 = 1 := rfl
  have hst : ∀ u : Int, stopHi .ne u (2 ^ b) - stopLo .ne u + 1 = 1 := fun u => by
    show u - u + 1 = 1
    omega
  have hend : endlessZ b s .ne (valZ b s x c n) c = 0 := by
    rw [endless_ne hb (by intro h; cases h) hu (twos_zero hodd), hst, h0, show max (0 : Int) (1 - max 0 1) = 0 by decide, Int.zero_mul]
  generalize valZ b s x c n = u at hu hfir hyc hend
  (refine stop_to ?_; (try simp only [dgU, w_lrg, dCut, dDGet, dDGet1, dDGet2, dDPut, dPairs, w_disp, w_newDF, w_newDT, dec_self, List.map_cons, List.map_nil, eqD_bl, eqD_int, eqD_str, eqD_tup, eqD_lst, eqDs_nil, eqDs_nc, eqDs_cn, eqDs_cons, reduceIte, Bool.false_eq_true, Bool.not_true, Bool.not_false, decide_true, decide_false, dVar, atD, setD, startD, dC, dOp, dAnd, dOr, dNot, dIf, dUn, dNil, dCons, dTup, dLst, rInD, rNotInD, dNoPart, dPart, dRev, dFld, DL.fieldsOf, dCB, dNext, dSeq, dBreak, dCont, dDrop, dRet, dRetN, dIfS, dNever, dgN, dgNil, dgCons, dgSub, dAsg, dPar, dPar3, putD, dSetF, dMt, rAppendD, rPopD, rExtendD, lsT, lsR, lsF, itemsR, dFrz, dCall, dCallK, dMeth, dMake, dFor, dIL, dIT, dIR1, dIR2, dIE, dIZ, wipeD, dYes, dLc, dDic0, updM_same, cxOf, asBl_bl, asInt_int, asTup_tup, isN, w_test, w_chain, w_andV, w_orV, w_notV, w_neg, w_sub, w_div, w_mod, w_pow, w_shl, w_shr, w_and, w_or, w_xor, w_lt, w_le, w_gt, w_ge, w_add, w_addS, w_addT, w_addL, w_addF, w_addR, w_mul, w_mulL, w_eq, w_ne, w_isN, w_isB, w_isntN, w_isntB, w_ix, w_isi, w_abs, w_max2, w_min2, w_max1L, w_min1L, w_sum, w_all, w_any, w_len, w_int, w_intB, w_divmod, w_sorted, w_list, w_bits, w_sl, w_slL, w_slF, w_slR, w_slT, w_newF, w_newT, w_eqL, w_eqT, w_eqR, w_neL, w_neT, w_neR, w_dgT, w_derL, w_derT, w_derB, w_derI, w_derN, w_derS, w_eqSS, w_eqBB, w_neSS, w_neBB, w_eqBI, w_eqIN, w_neIN, w_eqNI, w_neNI, w_eqNN, w_neNN, w_NN, w_NI, w_IN]))
  refine cut_is false ?_ ?_
  · (try simp only [dgU, w_lrg, dCut, dDGet, dDGet1, dDGet2, dDPut, dPairs, w_disp, w_newDF, w_newDT, dec_self, List.map_cons, List.map_nil, eqD_bl, eqD_int, eqD_str, eqD_tup, eqD_lst, eqDs_nil, eqDs_nc, eqDs_cn, eqDs_cons, reduceIte, Bool.false_eq_true, Bool.not_true, Bool.not_false, decide_true, decide_false, dVar, atD, setD, startD, dC, dOp, dAnd, dOr, dNot, dIf, dUn, dNil, dCons, dTup, dLst, rInD, rNotInD, dNoPart, dPart, dRev, dFld, DL.fieldsOf, dCB, dNext, dSeq, dBreak, dCont, dDrop, dRet, dRetN, dIfS, dNever, dgN, dgNil, dgCons, dgSub, dAsg, dPar, dPar3, putD, dSetF, dMt, rAppendD, rPopD, rExtendD, lsT, lsR, lsF, itemsR, dFrz, dCall, dCallK, dMeth, dMake, dFor, dIL, dIT, dIR1, dIR2, dIE, dIZ, wipeD, dYes, dLc, dDic0, updM_same, cxOf, asBl_bl, asInt_int, asTup_tup, isN, w_test, w_chain, w_andV, w_orV, w_notV, w_neg, w_sub, w_div, w_mod, w_pow, w_shl, w_shr, w_and, w_or, w_xor, w_lt, w_le, w_gt, w_ge, w_add, w_addS, w_addT, w_addL, w_addF, w_addR, w_mul, w_mulL, w_eq, w_ne, w_isN, w_isB, w_isntN, w_isntB, w_ix, w_isi, w_abs, w_max2, w_min2, w_max1L, w_min1L, w_sum, w_all, w_any, w_len, w_int, w_intB, w_divmod, w_sorted, w_list, w_bits, w_sl, w_slL, w_slF, w_slR, w_slT, w_newF, w_newT, w_eqL, w_eqT, w_eqR, w_neL, w_neT, w_neR, w_dgT, w_derL, w_derT, w_derB, w_derI, w_derN, w_derS, w_eqSS, w_eqBB, w_neSS, w_neBB, w_eqBI, w_eqIN, w_neIN, w_eqNI, w_neNI, w_eqNN, w_neNN, w_NN, w_NI, w_IN])
    refine ⟨b, s, c, rfl, hb, hc, fun h => absurd h (by omega), fun _ r hr hd => ?_⟩
    have hmul2 : IntMulOk r (u - x) := mulOk_b (m := 200) (n := 201) (in_small hb hr) (by have := in_small hb hu; have := in_small hb hx; omega) (by decide) (by decide)
    have hz : (r * (u - x) - n).fmod (2 ^ b) = 0 := by
      rw [fmodP hp]
      refine Int.emod_eq_zero_of_dvd ?_
      obtain ⟨z, hz⟩ := hd
      exact ⟨n * z + r * yc, by grind⟩
    (try simp only [dgU, w_lrg, dCut, dDGet, dDGet1, dDGet2, dDPut, dPairs, w_disp, w_newDF, w_newDT, dec_self, List.map_cons, List.map_nil, eqD_bl, eqD_int, eqD_str, eqD_tup, eqD_lst, eqDs_nil, eqDs_nc, eqDs_cn, eqDs_cons, reduceIte, Bool.false_eq_true, Bool.not_true, Bool.not_false, decide_true, decide_false, dVar, atD, setD, startD, dC, dOp, dAnd, dOr, dNot, dIf, dUn, dNil, dCons, dTup, dLst, rInD, rNotInD, dNoPart, dPart, dRev, dFld, DL.fieldsOf, dCB, dNext, dSeq, dBreak, dCont, dDrop, dRet, dRetN, dIfS, dNever, dgN, dgNil, dgCons, dgSub, dAsg, dPar, dPar3, putD, dSetF, dMt, rAppendD, rPopD, rExtendD, lsT, lsR, lsF, itemsR, dFrz, dCall, dCallK, dMeth, dMake, dFor, dIL, dIT, dIR1, dIR2, dIE, dIZ, wipeD, dYes, dLc, dDic0, updM_same, cxOf, asBl_bl, asInt_int, asTup_tup, isN, w_test, w_chain, w_andV, w_orV, w_notV, w_neg, w_sub, w_div, w_mod, w_pow, w_shl, w_shr, w_and, w_or, w_xor, w_lt, w_le, w_gt, w_ge, w_add, w_addS, w_addT, w_addL, w_addF, w_addR, w_mul, w_mulL, w_eq, w_ne, w_isN, w_isB, w_isntN, w_isntB, w_ix, w_isi, w_abs, w_max2, w_min2, w_max1L, w_min1L, w_sum, w_all, w_any, w_len, w_int, w_intB, w_divmod, w_sorted, w_list, w_bits, w_sl, w_slL, w_slF, w_slR, w_slT, w_newF, w_newT, w_eqL, w_eqT, w_eqR, w_neL, w_neT, w_neR, w_dgT, w_derL, w_derT, w_derB, w_derI, w_derN, w_derS, w_eqSS, w_eqBB, w_neSS, w_neBB, w_eqBI, w_eqIN, w_neIN, w_eqNI, w_neNI, w_eqNN, w_neNN, w_NN, w_NI, w_IN])
    refine ⟨hmul2, ?_⟩
    rw [hz]
    refine ⟨by omega, ?_⟩
    (try simp only [dgU, w_lrg, dCut, dDGet, dDGet1, dDGet2, dDPut, dPairs, w_disp, w_newDF, w_newDT, dec_self, List.map_cons, List.map_nil, eqD_bl, eqD_int, eqD_str, eqD_tup, eqD_lst, eqDs_nil, eqDs_nc, eqDs_cn, eqDs_cons, reduceIte, Bool.false_eq_true, Bool.not_true, Bool.not_false, decide_true, decide_false, dVar, atD, setD, startD, dC, dOp, dAnd, dOr, dNot, dIf, dUn, dNil, dCons, dTup, dLst, rInD, rNotInD, dNoPart, dPart, dRev, dFld, DL.fieldsOf, dCB, dNext, dSeq, dBreak, dCont, dDrop, dRet, dRetN, dIfS, dNever, dgN, dgNil, dgCons, dgSub, dAsg, dPar, dPar3, putD, dSetF, dMt, rAppendD, rPopD, rExtendD, lsT, lsR, lsF, itemsR, dFrz, dCall, dCallK, dMeth, dMake, dFor, dIL, dIT, dIR1, dIR2, dIE, dIZ, wipeD, dYes, dLc, dDic0, updM_same, cxOf, asBl_bl, asInt_int, asTup_tup, isN, w_test, w_chain, w_andV, w_orV, w_notV, w_neg, w_sub, w_div, w_mod, w_pow, w_shl, w_shr, w_and, w_or, w_xor, w_lt, w_le, w_gt, w_ge, w_add, w_addS, w_addT, w_addL, w_addF, w_addR, w_mul, w_mulL, w_eq, w_ne, w_isN, w_isB, w_isntN, w_isntB, w_ix, w_isi, w_abs, w_max2, w_min2, w_max1L, w_min1L, w_sum, w_all, w_any, w_len, w_int, w_intB, w_divmod, w_sorted, w_list, w_bits, w_sl, w_slL, w_slF, w_slR, w_slT, w_newF, w_newT, w_eqL, w_eqT, w_eqR, w_neL, w_neT, w_neR, w_dgT, w_derL, w_derT, w_derB, w_derI, w_derN, w_derS, w_eqSS, w_eqBB, w_neSS, w_neBB, w_eqBI, w_eqIN, w_neIN, w_eqNI, w_neNI, w_eqNN, w_neNN, w_NN, w_NI, w_IN])
    refine ⟨b, s, .ne, u, c, rfl, hb, hu, hc, ?_⟩
    rw [hend]
    (try simp only [dgU, w_lrg, dCut, dDGet, dDGet1, dDGet2, dDPut, dPairs, w_disp, w_newDF, w_newDT, dec_self, List.map_cons, List.map_nil, eqD_bl, eqD_int, eqD_str, eqD_tup, eqD_lst, eqDs_nil, eqDs_nc, eqDs_cn, eqDs_cons, reduceIte, Bool.false_eq_true, Bool.not_true, Bool.not_false, decide_true, decide_false, dVar, atD, setD, startD, dC, dOp, dAnd, dOr, dNot, dIf, dUn, dNil, dCons, dTup, dLst, rInD, rNotInD, dNoPart, dPart, dRev, dFld, DL.fieldsOf, dCB, dNext, dSeq, dBreak, dCont, dDrop, dRet, dRetN, dIfS, dNever, dgN, dgNil, dgCons, dgSub, dAsg, dPar, dPar3, putD, dSetF, dMt, rAppendD, rPopD, rExtendD, lsT, lsR, lsF, itemsR, dFrz, dCall, dCallK, dMeth, dMake, dFor, dIL, dIT, dIR1, dIR2, dIE, dIZ, wipeD, dYes, dLc, dDic0, updM_same, cxOf, asBl_bl, asInt_int, asTup_tup, isN, w_test, w_chain, w_andV, w_orV, w_notV, w_neg, w_sub, w_div, w_mod, w_pow, w_shl, w_shr, w_and, w_or, w_xor, w_lt, w_le, w_gt, w_ge, w_add, w_addS, w_addT, w_addL, w_addF, w_addR, w_mul, w_mulL, w_eq, w_ne, w_isN, w_isB, w_isntN, w_isntB, w_ix, w_isi, w_abs, w_max2, w_min2, w_max1L, w_min1L, w_sum, w_all, w_any, w_len, w_int, w_intB, w_divmod, w_sorted, w_list, w_bits, w_sl, w_slL, w_slF, w_slR, w_slT, w_newF, w_newT, w_eqL, w_eqT, w_eqR, w_neL, w_neT, w_neR, w_dgT, w_derL, w_derT, w_derB, w_derI, w_derN, w_derS, w_eqSS, w_eqBB, w_neSS, w_neBB, w_eqBI, w_eqIN, w_neIN, w_eqNI, w_neNI, w_eqNN, w_neNN, w_NN, w_NI, w_IN])
    (first | exact ⟨rfl, rfl⟩ | exact ⟨rfl, True.intro⟩ | exact ⟨True.intro, rfl⟩ | exact ⟨True.intro, True.intro⟩)
  (try simp only [dgU, w_lrg, dCut, dDGet, dDGet1, dDGet2, dDPut, dPairs, w_disp, w_newDF, w_newDT, dec_self, List.map_cons, List.map_nil, eqD_bl, eqD_int, eqD_str, eqD_tup, eqD_lst, eqDs_nil, eqDs_nc, eqDs_cn, eqDs_cons, reduceIte, Bool.false_eq_true, Bool.not_true, Bool.not_false, decide_true, decide_false, dVar, atD, setD, startD, dC, dOp, dAnd, dOr, dNot, dIf, dUn, dNil, dCons, dTup, dLst, rInD, rNotInD, dNoPart, dPart, dRev, dFld, DL.fieldsOf, dCB, dNext, dSeq, dBreak, dCont, dDrop, dRet, dRetN, dIfS, dNever, dgN, dgNil, dgCons, dgSub, dAsg, dPar, dPar3, putD, dSetF, dMt, rAppendD, rPopD, rExtendD, lsT, lsR, lsF, itemsR, dFrz, dCall, dCallK, dMeth, dMake, dFor, dIL, dIT, dIR1, dIR2, dIE, dIZ, wipeD, dYes, dLc, dDic0, updM_same, cxOf, asBl_bl, asInt_int, asTup_tup, isN, w_test, w_chain, w_andV, w_orV, w_notV, w_neg, w_sub, w_div, w_mod, w_pow, w_shl, w_shr, w_and, w_or, w_xor, w_lt, w_le, w_gt, w_ge, w_add, w_addS, w_addT, w_addL, w_addF, w_addR, w_mul, w_mulL, w_eq, w_ne, w_isN, w_isB, w_isntN, w_isntB, w_ix, w_isi, w_abs, w_max2, w_min2, w_max1L, w_min1L, w_sum, w_all, w_any, w_len, w_int, w_intB, w_divmod, w_sorted, w_list, w_bits, w_sl, w_slL, w_slF, w_slR, w_slT, w_newF, w_newT, w_eqL, w_eqT, w_eqR, w_neL, w_neT, w_neR, w_dgT, w_derL, w_derT, w_derB, w_derI, w_derN, w_derS, w_eqSS, w_eqBB, w_neSS, w_neBB, w_eqBI, w_eqIN, w_neIN, w_eqNI, w_neNI, w_eqNN, w_neNN, w_NN, w_NI, w_IN])
  clear hval2 hend hfir hmul
  (refine stop_to ?_; (try simp only [dgU, w_lrg, dCut, dDGet, dDGet1, dDGet2, dDPut, dPairs, w_disp, w_newDF, w_newDT, dec_self, List.map_cons, List.map_nil, eqD_bl, eqD_int, eqD_str, eqD_tup, eqD_lst, eqDs_nil, eqDs_nc, eqDs_cn, eqDs_cons, reduceIte, Bool.false_eq_true, Bool.not_true, Bool.not_false, decide_true, decide_false, dVar, atD, setD, startD, dC, dOp, dAnd, dOr, dNot, dIf, dUn, dNil, dCons, dTup, dLst, rInD, rNotInD, dNoPart, dPart, dRev, dFld, DL.fieldsOf, dCB, dNext, dSeq, dBreak, dCont, dDrop, dRet, dRetN, dIfS, dNever, dgN, dgNil, dgCons, dgSub, dAsg, dPar, dPar3, putD, dSetF, dMt, rAppendD, rPopD, rExtendD, lsT, lsR, lsF, itemsR, dFrz, dCall, dCallK, dMeth, dMake, dFor, dIL, dIT, dIR1, dIR2, dIE, dIZ, wipeD, dYes, dLc, dDic0, updM_same, cxOf, asBl_bl, asInt_int, asTup_tup, isN, w_test, w_chain, w_andV, w_orV, w_notV, w_neg, w_sub, w_div, w_mod, w_pow, w_shl, w_shr, w_and, w_or, w_xor, w_lt, w_le, w_gt, w_ge, w_add, w_addS, w_addT, w_addL, w_addF, w_addR, w_mul, w_mulL, w_eq, w_ne, w_isN, w_isB, w_isntN, w_isntB, w_ix, w_isi, w_abs, w_max2, w_min2, w_max1L, w_min1L, w_sum, w_all, w_any, w_len, w_int, w_intB, w_divmod, w_sorted, w_list, w_bits, w_sl, w_slL, w_slF, w_slR, w_slT, w_newF, w_newT, w_eqL, w_eqT, w_eqR, w_neL, w_neT, w_neR, w_dgT, w_derL, w_derT, w_derB, w_derI, w_derN, w_derS, w_eqSS, w_eqBB, w_neSS, w_neBB, w_eqBI, w_eqIN, w_neIN, w_eqNI, w_neNI, w_eqNN, w_neNN, w_NN, w_NI, w_IN]))
  refine ⟨⟨_, rfl, by rfl⟩, b, s, rfl, _, _, rfl, atI_nat (j := 0) rfl, ?_⟩
  (try simp only [dgU, w_lrg, dCut, dDGet, dDGet1, dDGet2, dDPut, dPairs, w_disp, w_newDF, w_newDT, dec_self, List.map_cons, List.map_nil, eqD_bl, eqD_int, eqD_str, eqD_tup, eqD_lst, eqDs_nil, eqDs_nc, eqDs_cn, eqDs_cons, reduceIte, Bool.false_eq_true, Bool.not_true, Bool.not_false, decide_true, decide_false, dVar, atD, setD, startD, dC, dOp, dAnd, dOr, dNot, dIf, dUn, dNil, dCons, dTup, dLst, rInD, rNotInD, dNoPart, dPart, dRev, dFld, DL.fieldsOf, dCB, dNext, dSeq, dBreak, dCont, dDrop, dRet, dRetN, dIfS, dNever, dgN, dgNil, dgCons, dgSub, dAsg, dPar, dPar3, putD, dSetF, dMt, rAppendD, rPopD, rExtendD, lsT, lsR, lsF, itemsR, dFrz, dCall, dCallK, dMeth, dMake, dFor, dIL, dIT, dIR1, dIR2, dIE, dIZ, wipeD, dYes, dLc, dDic0, updM_same, cxOf, asBl_bl, asInt_int, asTup_tup, isN, w_test, w_chain, w_andV, w_orV, w_notV, w_neg, w_sub, w_div, w_mod, w_pow, w_shl, w_shr, w_and, w_or, w_xor, w_lt, w_le, w_gt, w_ge, w_add, w_addS, w_addT, w_addL, w_addF, w_addR, w_mul, w_mulL, w_eq, w_ne, w_isN, w_isB, w_isntN, w_isntB, w_ix, w_isi, w_abs, w_max2, w_min2, w_max1L, w_min1L, w_sum, w_all, w_any, w_len, w_int, w_intB, w_divmod, w_sorted, w_list, w_bits, w_sl, w_slL, w_slF, w_slR, w_slT, w_newF, w_newT, w_eqL, w_eqT, w_eqR, w_neL, w_neT, w_neR, w_dgT, w_derL, w_derT, w_derB, w_derI, w_derN, w_derS, w_eqSS, w_eqBB, w_neSS, w_neBB, w_eqBI, w_eqIN, w_neIN, w_eqNI, w_neNI, w_eqNN, w_neNN, w_NN, w_NI, w_IN])
  refine ⟨a, _, rfl, hs.src, by omega, Int.lt_of_le_of_lt (show (b : Int) + 1 ≤ 2 ^ 8 by have := hb.2; omega) (by decide +kernel), fun k M4 k0 k1 hs4 => ?_⟩
  have hs := hs.trans hs4
  clear hs4
  obtain ⟨k, rfl⟩ := Int.eq_ofNat_of_zero_le k0
  have hkb : k ≤ b := by omega
  (try simp only [dgU, w_lrg, dCut, dDGet, dDGet1, dDGet2, dDPut, dPairs, w_disp, w_newDF, w_newDT, dec_self, List.map_cons, List.map_nil, eqD_bl, eqD_int, eqD_str, eqD_tup, eqD_lst, eqDs_nil, eqDs_nc, eqDs_cn, eqDs_cons, reduceIte, Bool.false_eq_true, Bool.not_true, Bool.not_false, decide_true, decide_false, dVar, atD, setD, startD, dC, dOp, dAnd, dOr, dNot, dIf, dUn, dNil, dCons, dTup, dLst, rInD, rNotInD, dNoPart, dPart, dRev, dFld, DL.fieldsOf, dCB, dNext, dSeq, dBreak, dCont, dDrop, dRet, dRetN, dIfS, dNever, dgN, dgNil, dgCons, dgSub, dAsg, dPar, dPar3, putD, dSetF, dMt, rAppendD, rPopD, rExtendD, lsT, lsR, lsF, itemsR, dFrz, dCall, dCallK, dMeth, dMake, dFor, dIL, dIT, dIR1, dIR2, dIE, dIZ, wipeD, dYes, dLc, dDic0, updM_same, cxOf, asBl_bl, asInt_int, asTup_tup, isN, w_test, w_chain, w_andV, w_orV, w_notV, w_neg, w_sub, w_div, w_mod, w_pow, w_shl, w_shr, w_and, w_or, w_xor, w_lt, w_le, w_gt, w_ge, w_add, w_addS, w_addT, w_addL, w_addF, w_addR, w_mul, w_mulL, w_eq, w_ne, w_isN, w_isB, w_isntN, w_isntB, w_ix, w_isi, w_abs, w_max2, w_min2, w_max1L, w_min1L, w_sum, w_all, w_any, w_len, w_int, w_intB, w_divmod, w_sorted, w_list, w_bits, w_sl, w_slL, w_slF, w_slR, w_slT, w_newF, w_newT, w_eqL, w_eqT, w_eqR, w_neL, w_neT, w_neR, w_dgT, w_derL, w_derT, w_derB, w_derI, w_derN, w_derS, w_eqSS, w_eqBB, w_neSS, w_neBB, w_eqBI, w_eqIN, w_neIN, w_eqNI, w_neNI, w_eqNN, w_neNN, w_NN, w_NI, w_IN])
  (refine stop_to ?_; (try simp only [dgU, w_lrg, dCut, dDGet, dDGet1, dDGet2, dDPut, dPairs, w_disp, w_newDF, w_newDT, dec_self, List.map_cons, List.map_nil, eqD_bl, eqD_int, eqD_str, eqD_tup, eqD_lst, eqDs_nil, eqDs_nc, eqDs_cn, eqDs_cons, reduceIte, Bool.false_eq_true, Bool.not_true, Bool.not_false, decide_true, decide_false, dVar, atD, setD, startD, dC, dOp, dAnd, dOr, dNot, dIf, dUn, dNil, dCons, dTup, dLst, rInD, rNotInD, dNoPart, dPart, dRev, dFld, DL.fieldsOf, dCB, dNext, dSeq, dBreak, dCont, dDrop, dRet, dRetN, dIfS, dNever, dgN, dgNil, dgCons, dgSub, dAsg, dPar, dPar3, putD, dSetF, dMt, rAppendD, rPopD, rExtendD, lsT, lsR, lsF, itemsR, dFrz, dCall, dCallK, dMeth, dMake, dFor, dIL, dIT, dIR1, dIR2, dIE, dIZ, wipeD, dYes, dLc, dDic0, updM_same, cxOf, asBl_bl, asInt_int, asTup_tup, isN, w_test, w_chain, w_andV, w_orV, w_notV, w_neg, w_sub, w_div, w_mod, w_pow, w_shl, w_shr, w_and, w_or, w_xor, w_lt, w_le, w_gt, w_ge, w_add, w_addS, w_addT, w_addL, w_addF, w_addR, w_mul, w_mulL, w_eq, w_ne, w_isN, w_isB, w_isntN, w_isntB, w_ix, w_isi, w_abs, w_max2, w_min2, w_max1L, w_min1L, w_sum, w_all, w_any, w_len, w_int, w_intB, w_divmod, w_sorted, w_list, w_bits, w_sl, w_slL, w_slF, w_slR, w_slT, w_newF, w_newT, w_eqL, w_eqT, w_eqR, w_neL, w_neT, w_neR, w_dgT, w_derL, w_derT, w_derB, w_derI, w_derN, w_derS, w_eqSS, w_eqBB, w_neSS, w_neBB, w_eqBI, w_eqIN, w_neIN, w_eqNI, w_neNI, w_eqNN, w_neNN, w_NN, w_NI, w_IN]))
  refine ⟨shl_ok (n := 200) (in_small hb hc) (by have := hb.2; omega), _, _, _, rfl, hp, ?_⟩
  rw [Int.toNat_natCast, show lowZ b s + (c * 2 ^ k - lowZ b s) % 2 ^ b = placedZ b s (c * 2 ^ k) by rfl]
  have hst2 := placed_inK b s (c * 2 ^ k)
  have htw := twos_step (s := s) hodd hkb
  have hsd : (2 : Int) ^ k ∣ placedZ b s (c * 2 ^ k) := htw.2.1
  generalize placedZ b s (c * 2 ^ k) = d at hst2 htw hsd
  have hbk : (2 : Int) ^ b = 2 ^ k * 2 ^ (b - k) := by rw [← Int.pow_add]; congr 1; omega
  have hpk := two_pos k
  have hpbk := two_pos (b - k)
  have hend : endlessZ b s .ne u d = 2 ^ b - 2 ^ b / 2 ^ k := by
    rw [endless_ne hb (by intro h; cases h) hu htw, hst, hbk, Int.mul_ediv_cancel_left _ (by omega)]
    rw [show max (0 : Int) 1 = 1 by rfl, show max 0 ((2 : Int) ^ k - 1) = 2 ^ k - 1 by omega, Int.sub_mul, Int.one_mul]
  (refine stop_to ?_; (try simp only [dgU, w_lrg, dCut, dDGet, dDGet1, dDGet2, dDPut, dPairs, w_disp, w_newDF, w_newDT, dec_self, List.map_cons, List.map_nil, eqD_bl, eqD_int, eqD_str, eqD_tup, eqD_lst, eqDs_nil, eqDs_nc, eqDs_cn, eqDs_cons, reduceIte, Bool.false_eq_true, Bool.not_true, Bool.not_false, decide_true, decide_false, dVar, atD, setD, startD, dC, dOp, dAnd, dOr, dNot, dIf, dUn, dNil, dCons, dTup, dLst, rInD, rNotInD, dNoPart, dPart, dRev, dFld, DL.fieldsOf, dCB, dNext, dSeq, dBreak, dCont, dDrop, dRet, dRetN, dIfS, dNever, dgN, dgNil, dgCons, dgSub, dAsg, dPar, dPar3, putD, dSetF, dMt, rAppendD, rPopD, rExtendD, lsT, lsR, lsF, itemsR, dFrz, dCall, dCallK, dMeth, dMake, dFor, dIL, dIT, dIR1, dIR2, dIE, dIZ, wipeD, dYes, dLc, dDic0, updM_same, cxOf, asBl_bl, asInt_int, asTup_tup, isN, w_test, w_chain, w_andV, w_orV, w_notV, w_neg, w_sub, w_div, w_mod, w_pow, w_shl, w_shr, w_and, w_or, w_xor, w_lt, w_le, w_gt, w_ge, w_add, w_addS, w_addT, w_addL, w_addF, w_addR, w_mul, w_mulL, w_eq, w_ne, w_isN, w_isB, w_isntN, w_isntB, w_ix, w_isi, w_abs, w_max2, w_min2, w_max1L, w_min1L, w_sum, w_all, w_any, w_len, w_int, w_intB, w_divmod, w_sorted, w_list, w_bits, w_sl, w_slL, w_slF, w_slR, w_slT, w_newF, w_newT, w_eqL, w_eqT, w_eqR, w_neL, w_neT, w_neR, w_dgT, w_derL, w_derT, w_derB, w_derI, w_derN, w_derS, w_eqSS, w_eqBB, w_neSS, w_neBB, w_eqBI, w_eqIN, w_neIN, w_eqNI, w_neNI, w_eqNN, w_neNN, w_NN, w_NI, w_IN]))
  refine ⟨b, s, .ne, u, d, rfl, hb, hu, hst2, by omega, ?_⟩
  rw [hend]
  (try simp only [dgU, w_lrg, dCut, dDGet, dDGet1, dDGet2, dDPut, dPairs, w_disp, w_newDF, w_newDT, dec_self, List.map_cons, List.map_nil, eqD_bl, eqD_int, eqD_str, eqD_tup, eqD_lst, eqDs_nil, eqDs_nc, eqDs_cn, eqDs_cons, reduceIte, Bool.false_eq_true, Bool.not_true, Bool.not_false, decide_true, decide_false, dVar, atD, setD, startD, dC, dOp, dAnd, dOr, dNot, dIf, dUn, dNil, dCons, dTup, dLst, rInD, rNotInD, dNoPart, dPart, dRev, dFld, DL.fieldsOf, dCB, dNext, dSeq, dBreak, dCont, dDrop, dRet, dRetN, dIfS, dNever, dgN, dgNil, dgCons, dgSub, dAsg, dPar, dPar3, putD, dSetF, dMt, rAppendD, rPopD, rExtendD, lsT, lsR, lsF, itemsR, dFrz, dCall, dCallK, dMeth, dMake, dFor, dIL, dIT, dIR1, dIR2, dIE, dIZ, wipeD, dYes, dLc, dDic0, updM_same, cxOf, asBl_bl, asInt_int, asTup_tup, isN, w_test, w_chain, w_andV, w_orV, w_notV, w_neg, w_sub, w_div, w_mod, w_pow, w_shl, w_shr, w_and, w_or, w_xor, w_lt, w_le, w_gt, w_ge, w_add, w_addS, w_addT, w_addL, w_addF, w_addR, w_mul, w_mulL, w_eq, w_ne, w_isN, w_isB, w_isntN, w_isntB, w_ix, w_isi, w_abs, w_max2, w_min2, w_max1L, w_min1L, w_sum, w_all, w_any, w_len, w_int, w_intB, w_divmod, w_sorted, w_list, w_bits, w_sl, w_slL, w_slF, w_slR, w_slT, w_newF, w_newT, w_eqL, w_eqT, w_eqR, w_neL, w_neT, w_neR, w_dgT, w_derL, w_derT, w_derB, w_derI, w_derN, w_derS, w_eqSS, w_eqBB, w_neSS, w_neBB, w_eqBI, w_eqIN, w_neIN, w_eqNI, w_neNI, w_eqNN, w_neNN, w_NN, w_NI, w_IN])
  rw [Int.toNat_natCast]
  (try simp only [dgU, w_lrg, dCut, dDGet, dDGet1, dDGet2, dDPut, dPairs, w_disp, w_newDF, w_newDT, dec_self, List.map_cons, List.map_nil, eqD_bl, eqD_int, eqD_str, eqD_tup, eqD_lst, eqDs_nil, eqDs_nc, eqDs_cn, eqDs_cons, reduceIte, Bool.false_eq_true, Bool.not_true, Bool.not_false, decide_true, decide_false, dVar, atD, setD, startD, dC, dOp, dAnd, dOr, dNot, dIf, dUn, dNil, dCons, dTup, dLst, rInD, rNotInD, dNoPart, dPart, dRev, dFld, DL.fieldsOf, dCB, dNext, dSeq, dBreak, dCont, dDrop, dRet, dRetN, dIfS, dNever, dgN, dgNil, dgCons, dgSub, dAsg, dPar, dPar3, putD, dSetF, dMt, rAppendD, rPopD, rExtendD, lsT, lsR, lsF, itemsR, dFrz, dCall, dCallK, dMeth, dMake, dFor, dIL, dIT, dIR1, dIR2, dIE, dIZ, wipeD, dYes, dLc, dDic0, updM_same, cxOf, asBl_bl, asInt_int, asTup_tup, isN, w_test, w_chain, w_andV, w_orV, w_notV, w_neg, w_sub, w_div, w_mod, w_pow, w_shl, w_shr, w_and, w_or, w_xor, w_lt, w_le, w_gt, w_ge, w_add, w_addS, w_addT, w_addL, w_addF, w_addR, w_mul, w_mulL, w_eq, w_ne, w_isN, w_isB, w_isntN, w_isntB, w_ix, w_isi, w_abs, w_max2, w_min2, w_max1L, w_min1L, w_sum, w_all, w_any, w_len, w_int, w_intB, w_divmod, w_sorted, w_list, w_bits, w_sl, w_slL, w_slF, w_slR, w_slT, w_newF, w_newT, w_eqL, w_eqT, w_eqR, w_neL, w_neT, w_neR, w_dgT, w_derL, w_derT, w_derB, w_derI, w_derN, w_derS, w_eqSS, w_eqBB, w_neSS, w_neBB, w_eqBI, w_eqIN, w_neIN, w_eqNI, w_neNI, w_eqNN, w_neNN, w_NN, w_NI, w_IN])
  (refine stop_to ?_; (try simp only [dgU, w_lrg, dCut, dDGet, dDGet1, dDGet2, dDPut, dPairs, w_disp, w_newDF, w_newDT, dec_self, List.map_cons, List.map_nil, eqD_bl, eqD_int, eqD_str, eqD_tup, eqD_lst, eqDs_nil, eqDs_nc, eqDs_cn, eqDs_cons, reduceIte, Bool.false_eq_true, Bool.not_true, Bool.not_false, decide_true, decide_false, dVar, atD, setD, startD, dC, dOp, dAnd, dOr, dNot, dIf, dUn, dNil, dCons, dTup, dLst, rInD, rNotInD, dNoPart, dPart, dRev, dFld, DL.fieldsOf, dCB, dNext, dSeq, dBreak, dCont, dDrop, dRet, dRetN, dIfS, dNever, dgN, dgNil, dgCons, dgSub, dAsg, dPar, dPar3, putD, dSetF, dMt, rAppendD, rPopD, rExtendD, lsT, lsR, lsF, itemsR, dFrz, dCall, dCallK, dMeth, dMake, dFor, dIL, dIT, dIR1, dIR2, dIE, dIZ, wipeD, dYes, dLc, dDic0, updM_same, cxOf, asBl_bl, asInt_int, asTup_tup, isN, w_test, w_chain, w_andV, w_orV, w_notV, w_neg, w_sub, w_div, w_mod, w_pow, w_shl, w_shr, w_and, w_or, w_xor, w_lt, w_le, w_gt, w_ge, w_add, w_addS, w_addT, w_addL, w_addF, w_addR, w_mul, w_mulL, w_eq, w_ne, w_isN, w_isB, w_isntN, w_isntB, w_ix, w_isi, w_abs, w_max2, w_min2, w_max1L, w_min1L, w_sum, w_all, w_any, w_len, w_int, w_intB, w_divmod, w_sorted, w_list, w_bits, w_sl, w_slL, w_slF, w_slR, w_slT, w_newF, w_newT, w_eqL, w_eqT, w_eqR, w_neL, w_neT, w_neR, w_dgT, w_derL, w_derT, w_derB, w_derI, w_derN, w_derS, w_eqSS, w_eqBB, w_neSS, w_neBB, w_eqBI, w_eqIN, w_neIN, w_eqNI, w_neNI, w_eqNN, w_neNN, w_NN, w_NI, w_IN]))
  refine ⟨shl1 (by omega) (by have := hb.2; omega), divOk_b (by decide) (by decide +kernel), ?_⟩
  rw [fdivP (by decide), Int.one_mul, Int.toNat_natCast]
  refine ⟨_, _, _, rfl, hp, ?_⟩
  rw [show lowZ b s + (u + 2 ^ k / 2 - lowZ b s) % 2 ^ b = placedZ b s (u + 2 ^ k / 2) by rfl]
  have hv := placed_inK b s (u + 2 ^ k / 2)
  obtain ⟨z, hz⟩ := placed_cong b s (u + 2 ^ k / 2)
  generalize placedZ b s (u + 2 ^ k / 2) = v at hv hz
  by_cases g : k = 0
  · subst g
    (try simp only [dgU, w_lrg, dCut, dDGet, dDGet1, dDGet2, dDPut, dPairs, w_disp, w_newDF, w_newDT, dec_self, List.map_cons, List.map_nil, eqD_bl, eqD_int, eqD_str, eqD_tup, eqD_lst, eqDs_nil, eqDs_nc, eqDs_cn, eqDs_cons, reduceIte, Bool.false_eq_true, Bool.not_true, Bool.not_false, decide_true, decide_false, dVar, atD, setD, startD, dC, dOp, dAnd, dOr, dNot, dIf, dUn, dNil, dCons, dTup, dLst, rInD, rNotInD, dNoPart, dPart, dRev, dFld, DL.fieldsOf, dCB, dNext, dSeq, dBreak, dCont, dDrop, dRet, dRetN, dIfS, dNever, dgN, dgNil, dgCons, dgSub, dAsg, dPar, dPar3, putD, dSetF, dMt, rAppendD, rPopD, rExtendD, lsT, lsR, lsF, itemsR, dFrz, dCall, dCallK, dMeth, dMake, dFor, dIL, dIT, dIR1, dIR2, dIE, dIZ, wipeD, dYes, dLc, dDic0, updM_same, cxOf, asBl_bl, asInt_int, asTup_tup, isN, w_test, w_chain, w_andV, w_orV, w_notV, w_neg, w_sub, w_div, w_mod, w_pow, w_shl, w_shr, w_and, w_or, w_xor, w_lt, w_le, w_gt, w_ge, w_add, w_addS, w_addT, w_addL, w_addF, w_addR, w_mul, w_mulL, w_eq, w_ne, w_isN, w_isB, w_isntN, w_isntB, w_ix, w_isi, w_abs, w_max2, w_min2, w_max1L, w_min1L, w_sum, w_all, w_any, w_len, w_int, w_intB, w_divmod, w_sorted, w_list, w_bits, w_sl, w_slL, w_slF, w_slR, w_slT, w_newF, w_newT, w_eqL, w_eqT, w_eqR, w_neL, w_neT, w_neR, w_dgT, w_derL, w_derT, w_derB, w_derI, w_derN, w_derS, w_eqSS, w_eqBB, w_neSS, w_neBB, w_eqBI, w_eqIN, w_neIN, w_eqNI, w_neNI, w_eqNN, w_neNN, w_NN, w_NI, w_IN])
    exact endD_of (hQ _ hs)
  have hk2 := two_succ (show 1 ≤ k by omega)
  have hpk1 := two_pos (k - 1)
  have hnone : FirstR b s v .ne u d none := by
    intro i h
    have h : (!decide (valZ b s v d i = u)) = false := h
    have e : valZ b s v d i = u := by simpa using h
    obtain ⟨y, hy⟩ := placed_cong b s (v + (i : Nat) * d)
    have hy : valZ b s v d i - (v + (i : Nat) * d) = 2 ^ b * y := hy
    rw [e] at hy
    obtain ⟨x1, hx1⟩ := hsd
    have h3 : (2 : Int) ^ k / 2 = 2 ^ (k - 1) := by rw [hk2, Int.mul_ediv_cancel_left _ (by decide)]
    have h4 : (2 : Int) ^ (k - 1) = 2 ^ k * (-(i * x1) - 2 ^ (b - k) * (y + z)) := by
      rw [h3, hbk] at hz
      rw [hbk, hx1] at hy
      grind
    have h5 : (2 : Int) ^ k ∣ 2 ^ (k - 1) := ⟨_, h4⟩
    have := Int.le_of_dvd hpk1 h5
    omega
  rw [decide_eq_false (show ¬ (k : Int) = 0 by omega)]
  (try simp only [dgU, w_lrg, dCut, dDGet, dDGet1, dDGet2, dDPut, dPairs, w_disp, w_newDF, w_newDT, dec_self, List.map_cons, List.map_nil, eqD_bl, eqD_int, eqD_str, eqD_tup, eqD_lst, eqDs_nil, eqDs_nc, eqDs_cn, eqDs_cons, reduceIte, Bool.false_eq_true, Bool.not_true, Bool.not_false, decide_true, decide_false, dVar, atD, setD, startD, dC, dOp, dAnd, dOr, dNot, dIf, dUn, dNil, dCons, dTup, dLst, rInD, rNotInD, dNoPart, dPart, dRev, dFld, DL.fieldsOf, dCB, dNext, dSeq, dBreak, dCont, dDrop, dRet, dRetN, dIfS, dNever, dgN, dgNil, dgCons, dgSub, dAsg, dPar, dPar3, putD, dSetF, dMt, rAppendD, rPopD, rExtendD, lsT, lsR, lsF, itemsR, dFrz, dCall, dCallK, dMeth, dMake, dFor, dIL, dIT, dIR1, dIR2, dIE, dIZ, wipeD, dYes, dLc, dDic0, updM_same, cxOf, asBl_bl, asInt_int, asTup_tup, isN, w_test, w_chain, w_andV, w_orV, w_notV, w_neg, w_sub, w_div, w_mod, w_pow, w_shl, w_shr, w_and, w_or, w_xor, w_lt, w_le, w_gt, w_ge, w_add, w_addS, w_addT, w_addL, w_addF, w_addR, w_mul, w_mulL, w_eq, w_ne, w_isN, w_isB, w_isntN, w_isntB, w_ix, w_isi, w_abs, w_max2, w_min2, w_max1L, w_min1L, w_sum, w_all, w_any, w_len, w_int, w_intB, w_divmod, w_sorted, w_list, w_bits, w_sl, w_slL, w_slF, w_slR, w_slT, w_newF, w_newT, w_eqL, w_eqT, w_eqR, w_neL, w_neT, w_neR, w_dgT, w_derL, w_derT, w_derB, w_derI, w_derN, w_derS, w_eqSS, w_eqBB, w_neSS, w_neBB, w_eqBI, w_eqIN, w_neIN, w_eqNI, w_neNI, w_eqNN, w_neNN, w_NN, w_NI, w_IN])
  refine ⟨lit_len (n := 4) (by decide), b, s, v, .ne, u, d, rfl, hb, hv, hu, hst2, fun r hr => ?_⟩
  rw [first_uniq hr hnone]
  exact endD_of (hQ _ hs)
theorem val_one {b : Nat} {s : Bool} {c : Int} (h : (2 : Int) ^ b ∣ c - 1) {n : Nat} (hn : (n : Int) < 2 ^ b) : valZ b s (lowZ b s) c n = lowZ b s + n := by
  refine pl_eq ⟨by omega, by omega⟩ ?_
  obtain ⟨z, hz⟩ := h
  exact ⟨n * z, by grind⟩
theorem val_down {b : Nat} {s : Bool} {c : Int} (h : (2 : Int) ^ b ∣ c + 1) {n : Nat} (hn : (n : Int) < 2 ^ b) : valZ b s (lowZ b s + 2 ^ b - 1) c n = lowZ b s + 2 ^ b - 1 - n := by
  refine pl_eq ⟨by omega, by omega⟩ ?_
  obtain ⟨z, hz⟩ := h
  exact ⟨n * z, by grind⟩
theorem ok__law_around_right (T : Txt K mg C_Kind) (F__law_value : FnD P w K mg base 3 "_law_value" s__law_value ["_law_source", "_law_low", "_law_size"] (sp_value)) (F__law_wide : FnD P w K mg base 2 "_law_wide" s__law_wide ["_law_source", "_law_m"] (sp_wide)) (F_rounds : FnD P w K mg base 144 "rounds" s_rounds ["kind", "loop"] (sp_rounds C_Kind)) (F_wraps : FnD P w K mg base 145 "wraps" s_wraps ["kind", "loop", "n"] (sp_wraps C_Kind)) (F__law_put : FnD P w K mg base 1 "_law_put" s__law_put ["_law_n", "_law_low", "_law_size"] (sp_put)) : FnD P w K mg base 146 "_law_around_right" s__law_around_right ["_law_source", "_law_kind", "_law_low", "_law_size"] (sp_lpart C_Kind) := by
  refine fn_mk T.h__law_around_right sc__law_around_right 8 rfl (by intro ds M Q h; first | (obtain ⟨rfl, _⟩ := h; rfl) | (obtain ⟨_, rfl, _⟩ := h; rfl) | (obtain ⟨_, _, rfl, _⟩ := h; rfl) | (obtain ⟨_, _, _, rfl, _⟩ := h; rfl) | (obtain ⟨_, _, _, _, rfl, _⟩ := h; rfl) | (obtain ⟨_, _, _, _, _, rfl, _⟩ := h; rfl) | (obtain ⟨_, _, _, _, _, _, rfl, _⟩ := h; rfl) | (obtain ⟨_, _, _, _, _, _, _, rfl, _⟩ := h; rfl) | (obtain ⟨_, _, _, _, _, _, _, _, rfl, _⟩ := h; rfl) | (obtain ⟨_, _, _, _, _, _, _, _, _, rfl, _⟩ := h; rfl) | (obtain ⟨_, _, _, _, _, _, _, _, _, _, rfl, _⟩ := h; rfl) | (obtain ⟨_, _, _, _, _, _, _, _, _, _, _, rfl, _⟩ := h; rfl) | (obtain ⟨_, _, _, _, _, _, _, _, _, _, _, _, rfl, _⟩ := h; rfl)) (fun f cdv A outer s H E hr => ⟨_, (dss_stop (ds_set (i := 4) sc__law_around_right.nd (de_op od_sub (de_op (od_add false) (dv 2) (dv 3)) de_int))
    (dss_stop (ds_if (dt_cmp od_isnot (de_call F_rounds hr (da_cons (dv 1) (da_cons (de_tup (da_cons (dv 4) (da_cons de_str (da_cons (dv 2) (da_cons (de_cut (de_if (dt_cut (dt_w (dw_and (dt_cmp (od_eq hr.units) (dv 3) de_int) (dw_and1 (dt_cmp od_lt (dv 2) de_int))))) de_int de_int)) da_nil))))) da_nil))) de_non)
    (dss_one (ds_ret de_bl))
    dss_nil)
    (dss_stop (ds_if (dt_cmp od_isnot (de_call F_rounds hr (da_cons (dv 1) (da_cons (de_tup (da_cons (dv 2) (da_cons de_str (da_cons (dv 4) (da_cons (de_call F__law_value hr (da_cons (dv 0) (da_cons (dv 2) (da_cons (dv 3) da_nil)))) da_nil))))) da_nil))) de_non)
    (dss_one (ds_ret de_bl))
    dss_nil)
    (dss_stop (ds_set (i := 5) sc__law_around_right.nd (de_cut (de_if (dt_cut (dt_w (dw_or (dt_cmp od_gt (dv 3) de_int) (dw_or1 (dt_cmp (od_eq hr.units) (dv 2) de_int))))) de_int (de_neg de_int))))
    (dss_stop (ds_if (dt_cmp (od_ne hr.units) (de_call F_rounds hr (da_cons (dv 1) (da_cons (de_tup (da_cons (dv 2) (da_cons de_str (da_cons (dv 4) (da_cons (dv 5) da_nil))))) da_nil))) (de_op od_sub (dv 3) de_int))
    (dss_one (ds_ret de_bl))
    dss_nil)
    (dss_stop (ds_if (dt_cmp (od_ne hr.units) (de_call F_rounds hr (da_cons (dv 1) (da_cons (de_tup (da_cons (dv 4) (da_cons de_str (da_cons (dv 2) (da_cons (de_call F__law_put hr (da_cons (de_neg de_int) (da_cons (dv 2) (da_cons (dv 3) da_nil)))) da_nil))))) da_nil))) (de_op od_sub (dv 3) de_int))
    (dss_one (ds_ret de_bl))
    dss_nil)
    (dss_stop (ds_set (i := 6) sc__law_around_right.nd (de_call F__law_value hr (da_cons (dv 0) (da_cons (dv 2) (da_cons (dv 3) da_nil)))))
    (dss_stop (ds_if (dt_cut (dt_w (dw_or (dt_cmp od_isnot (de_call F_rounds hr (da_cons (dv 1) (da_cons (de_tup (da_cons (dv 6) (da_cons de_str (da_cons (dv 6) (da_cons de_int da_nil))))) da_nil))) de_non) (dw_or1 (dt_cmp (od_ne hr.units) (de_call F_rounds hr (da_cons (dv 1) (da_cons (de_tup (da_cons (dv 6) (da_cons de_str (da_cons (dv 6) (da_cons (dv 5) da_nil))))) da_nil))) de_int)))))
    (dss_one (ds_ret de_bl))
    dss_nil)
    (dss_stop (ds_set (i := 7) sc__law_around_right.nd (de_call F__law_wide hr (da_cons (dv 0) (da_cons (de_op od_pow de_int de_int) da_nil))))
    (dss_one (ds_ret (de_cmp (od_eq hr.units) (de_call F_wraps hr (da_cons (dv 1) (da_cons (de_tup (da_cons (dv 6) (da_cons de_str (da_cons (dv 4) (da_cons (dv 5) da_nil))))) (da_cons (dv 7) da_nil)))) (de_cb (cd_abs) (by rfl) T.b_abs (by decide +kernel) (da_cons (de_op od_div (de_op (od_add false) (de_op od_sub (dv 6) (dv 2)) (de_op (od_mul false) (dv 7) (dv 5))) (dv 3)) da_nil)))))))))))))), ?_⟩)
  rintro ds M Q ⟨a, b, s, rfl, hM, hb, hQ⟩
  have hp := two_pos b
  have h22 := two_succ hb.1
  have hp2 := two_pos (b - 1)
  have lh := low_half b s hb.1
  have hbig : (2 : Int) ^ b < 2 ^ 9000 := Int.lt_trans (small_bits hb) (by decide +kernel)
  have hlow : InK b s (lowZ b s) := ⟨by omega, by omega⟩
  have htop : InK b s (lowZ b s + 2 ^ b - 1) := ⟨by omega, by omega⟩
  have hge : ∀ (x c : Int), InK b s c → FirstR b s x .ge (lowZ b s) c none := fun x c hc n h => by
    have h : decide (lowZ b s ≤ valZ b s x c n) = false := h
    have := (placed_inK b s (x + (n : Nat) * c)).1
    exact absurd this (of_decide_eq_false h)
  have hle : ∀ (x c : Int), InK b s c → FirstR b s x .le (lowZ b s + 2 ^ b - 1) c none := fun x c hc n h => by
    have h : decide (valZ b s x c n ≤ lowZ b s + 2 ^ b - 1) = false := h
    have h2 : valZ b s x c n < lowZ b s + 2 ^ b := (placed_inK b s (x + (n : Nat) * c)).2
    have := of_decide_eq_false h
    omega
  (refine stop_to ?_; (try simp only [dgU, w_lrg, dCut, dDGet, dDGet1, dDGet2, dDPut, dPairs, w_disp, w_newDF, w_newDT, dec_self, List.map_cons, List.map_nil, eqD_bl, eqD_int, eqD_str, eqD_tup, eqD_lst, eqDs_nil, eqDs_nc, eqDs_cn, eqDs_cons, reduceIte, Bool.false_eq_true, Bool.not_true, Bool.not_false, decide_true, decide_false, dVar, atD, setD, startD, dC, dOp, dAnd, dOr, dNot, dIf, dUn, dNil, dCons, dTup, dLst, rInD, rNotInD, dNoPart, dPart, dRev, dFld, DL.fieldsOf, dCB, dNext, dSeq, dBreak, dCont, dDrop, dRet, dRetN, dIfS, dNever, dgN, dgNil, dgCons, dgSub, dAsg, dPar, dPar3, putD, dSetF, dMt, rAppendD, rPopD, rExtendD, lsT, lsR, lsF, itemsR, dFrz, dCall, dCallK, dMeth, dMake, dFor, dIL, dIT, dIR1, dIR2, dIE, dIZ, wipeD, dYes, dLc, dDic0, updM_same, cxOf, asBl_bl, asInt_int, asTup_tup, isN, w_test, w_chain, w_andV, w_orV, w_notV, w_neg, w_sub, w_div, w_mod, w_pow, w_shl, w_shr, w_and, w_or, w_xor, w_lt, w_le, w_gt, w_ge, w_add, w_addS, w_addT, w_addL, w_addF, w_addR, w_mul, w_mulL, w_eq, w_ne, w_isN, w_isB, w_isntN, w_isntB, w_ix, w_isi, w_abs, w_max2, w_min2, w_max1L, w_min1L, w_sum, w_all, w_any, w_len, w_int, w_intB, w_divmod, w_sorted, w_list, w_bits, w_sl, w_slL, w_slF, w_slR, w_slT, w_newF, w_newT, w_eqL, w_eqT, w_eqR, w_neL, w_neT, w_neR, w_dgT, w_derL, w_derT, w_derB, w_derI, w_derN, w_derS, w_eqSS, w_eqBB, w_neSS, w_neBB, w_eqBI, w_eqIN, w_neIN, w_eqNI, w_neNI, w_eqNN, w_neNN, w_NN, w_NI, w_IN]))
  (refine stop_to ?_; (try simp only [dgU, w_lrg, dCut, dDGet, dDGet1, dDGet2, dDPut, dPairs, w_disp, w_newDF, w_newDT, dec_self, List.map_cons, List.map_nil, eqD_bl, eqD_int, eqD_str, eqD_tup, eqD_lst, eqDs_nil, eqDs_nc, eqDs_cn, eqDs_cons, reduceIte, Bool.false_eq_true, Bool.not_true, Bool.not_false, decide_true, decide_false, dVar, atD, setD, startD, dC, dOp, dAnd, dOr, dNot, dIf, dUn, dNil, dCons, dTup, dLst, rInD, rNotInD, dNoPart, dPart, dRev, dFld, DL.fieldsOf, dCB, dNext, dSeq, dBreak, dCont, dDrop, dRet, dRetN, dIfS, dNever, dgN, dgNil, dgCons, dgSub, dAsg, dPar, dPar3, putD, dSetF, dMt, rAppendD, rPopD, rExtendD, lsT, lsR, lsF, itemsR, dFrz, dCall, dCallK, dMeth, dMake, dFor, dIL, dIT, dIR1, dIR2, dIE, dIZ, wipeD, dYes, dLc, dDic0, updM_same, cxOf, asBl_bl, asInt_int, asTup_tup, isN, w_test, w_chain, w_andV, w_orV, w_notV, w_neg, w_sub, w_div, w_mod, w_pow, w_shl, w_shr, w_and, w_or, w_xor, w_lt, w_le, w_gt, w_ge, w_add, w_addS, w_addT, w_addL, w_addF, w_addR, w_mul, w_mulL, w_eq, w_ne, w_isN, w_isB, w_isntN, w_isntB, w_ix, w_isi, w_abs, w_max2, w_min2, w_max1L, w_min1L, w_sum, w_all, w_any, w_len, w_int, w_intB, w_divmod, w_sorted, w_list, w_bits, w_sl, w_slL, w_slF, w_slR, w_slT, w_newF, w_newT, w_eqL, w_eqT, w_eqR, w_neL, w_neT, w_neR, w_dgT, w_derL, w_derT, w_derB, w_derI, w_derN, w_derS, w_eqSS, w_eqBB, w_neSS, w_neBB, w_eqBI, w_eqIN, w_neIN, w_eqNI, w_neNI, w_eqNN, w_neNN, w_NN, w_NI, w_IN]))
  have hone : ¬ (2 : Int) ^ b = 2 ∨ ¬ lowZ b s < 0 → InK b s 1 := fun h => by
    cases s with
    | false =>
      have : lowZ b false = 0 := rfl
      exact ⟨by omega, by omega⟩
    | true =>
      have : lowZ b true = -(2 ^ (b - 1)) := rfl
      exact ⟨by omega, by omega⟩
  refine ⟨fun d M' => M' = M ∧ ∃ c : Int, d = .int c ∧ InK b s c, ?_, ?_⟩
  · (try simp only [dgU, w_lrg, dCut, dDGet, dDGet1, dDGet2, dDPut, dPairs, w_disp, w_newDF, w_newDT, dec_self, List.map_cons, List.map_nil, eqD_bl, eqD_int, eqD_str, eqD_tup, eqD_lst, eqDs_nil, eqDs_nc, eqDs_cn, eqDs_cons, reduceIte, Bool.false_eq_true, Bool.not_true, Bool.not_false, decide_true, decide_false, dVar, atD, setD, startD, dC, dOp, dAnd, dOr, dNot, dIf, dUn, dNil, dCons, dTup, dLst, rInD, rNotInD, dNoPart, dPart, dRev, dFld, DL.fieldsOf, dCB, dNext, dSeq, dBreak, dCont, dDrop, dRet, dRetN, dIfS, dNever, dgN, dgNil, dgCons, dgSub, dAsg, dPar, dPar3, putD, dSetF, dMt, rAppendD, rPopD, rExtendD, lsT, lsR, lsF, itemsR, dFrz, dCall, dCallK, dMeth, dMake, dFor, dIL, dIT, dIR1, dIR2, dIE, dIZ, wipeD, dYes, dLc, dDic0, updM_same, cxOf, asBl_bl, asInt_int, asTup_tup, isN, w_test, w_chain, w_andV, w_orV, w_notV, w_neg, w_sub, w_div, w_mod, w_pow, w_shl, w_shr, w_and, w_or, w_xor, w_lt, w_le, w_gt, w_ge, w_add, w_addS, w_addT, w_addL, w_addF, w_addR, w_mul, w_mulL, w_eq, w_ne, w_isN, w_isB, w_isntN, w_isntB, w_ix, w_isi, w_abs, w_max2, w_min2, w_max1L, w_min1L, w_sum, w_all, w_any, w_len, w_int, w_intB, w_divmod, w_sorted, w_list, w_bits, w_sl, w_slL, w_slF, w_slR, w_slT, w_newF, w_newT, w_eqL, w_eqT, w_eqR, w_neL, w_neT, w_neR, w_dgT, w_derL, w_derT, w_derB, w_derI, w_derN, w_derS, w_eqSS, w_eqBB, w_neSS, w_neBB, w_eqBI, w_eqIN, w_neIN, w_eqNI, w_neNI, w_eqNN, w_neNN, w_NN, w_NI, w_IN])
    refine cut_is (decide ((2 : Int) ^ b = 2 ∧ lowZ b s < 0)) ?_ ?_
    · (try simp only [dgU, w_lrg, dCut, dDGet, dDGet1, dDGet2, dDPut, dPairs, w_disp, w_newDF, w_newDT, dec_self, List.map_cons, List.map_nil, eqD_bl, eqD_int, eqD_str, eqD_tup, eqD_lst, eqDs_nil, eqDs_nc, eqDs_cn, eqDs_cons, reduceIte, Bool.false_eq_true, Bool.not_true, Bool.not_false, decide_true, decide_false, dVar, atD, setD, startD, dC, dOp, dAnd, dOr, dNot, dIf, dUn, dNil, dCons, dTup, dLst, rInD, rNotInD, dNoPart, dPart, dRev, dFld, DL.fieldsOf, dCB, dNext, dSeq, dBreak, dCont, dDrop, dRet, dRetN, dIfS, dNever, dgN, dgNil, dgCons, dgSub, dAsg, dPar, dPar3, putD, dSetF, dMt, rAppendD, rPopD, rExtendD, lsT, lsR, lsF, itemsR, dFrz, dCall, dCallK, dMeth, dMake, dFor, dIL, dIT, dIR1, dIR2, dIE, dIZ, wipeD, dYes, dLc, dDic0, updM_same, cxOf, asBl_bl, asInt_int, asTup_tup, isN, w_test, w_chain, w_andV, w_orV, w_notV, w_neg, w_sub, w_div, w_mod, w_pow, w_shl, w_shr, w_and, w_or, w_xor, w_lt, w_le, w_gt, w_ge, w_add, w_addS, w_addT, w_addL, w_addF, w_addR, w_mul, w_mulL, w_eq, w_ne, w_isN, w_isB, w_isntN, w_isntB, w_ix, w_isi, w_abs, w_max2, w_min2, w_max1L, w_min1L, w_sum, w_all, w_any, w_len, w_int, w_intB, w_divmod, w_sorted, w_list, w_bits, w_sl, w_slL, w_slF, w_slR, w_slT, w_newF, w_newT, w_eqL, w_eqT, w_eqR, w_neL, w_neT, w_neR, w_dgT, w_derL, w_derT, w_derB, w_derI, w_derN, w_derS, w_eqSS, w_eqBB, w_neSS, w_neBB, w_eqBI, w_eqIN, w_neIN, w_eqNI, w_neNI, w_eqNN, w_neNN, w_NN, w_NI, w_IN])
      by_cases g : (2 : Int) ^ b = 2
      · refine if_yes (decide_eq_true g) ?_
        by_cases g2 : lowZ b s < 0
        · rw [decide_eq_true g2, decide_eq_true ⟨g, g2⟩]
          (first | exact ⟨rfl, rfl⟩ | exact ⟨rfl, True.intro⟩ | exact ⟨True.intro, rfl⟩ | exact ⟨True.intro, True.intro⟩)
        · rw [decide_eq_false g2, decide_eq_false fun z => g2 z.2]
          (first | exact ⟨rfl, rfl⟩ | exact ⟨rfl, True.intro⟩ | exact ⟨True.intro, rfl⟩ | exact ⟨True.intro, True.intro⟩)
      · refine if_no (decide_eq_false g) ?_
        rw [decide_eq_false fun z => g z.1]
        (first | exact ⟨rfl, rfl⟩ | exact ⟨rfl, True.intro⟩ | exact ⟨True.intro, rfl⟩ | exact ⟨True.intro, True.intro⟩)
    · by_cases g : (2 : Int) ^ b = 2 ∧ lowZ b s < 0
      · refine if_yes (decide_eq_true g) ?_
        (try simp only [dgU, w_lrg, dCut, dDGet, dDGet1, dDGet2, dDPut, dPairs, w_disp, w_newDF, w_newDT, dec_self, List.map_cons, List.map_nil, eqD_bl, eqD_int, eqD_str, eqD_tup, eqD_lst, eqDs_nil, eqDs_nc, eqDs_cn, eqDs_cons, reduceIte, Bool.false_eq_true, Bool.not_true, Bool.not_false, decide_true, decide_false, dVar, atD, setD, startD, dC, dOp, dAnd, dOr, dNot, dIf, dUn, dNil, dCons, dTup, dLst, rInD, rNotInD, dNoPart, dPart, dRev, dFld, DL.fieldsOf, dCB, dNext, dSeq, dBreak, dCont, dDrop, dRet, dRetN, dIfS, dNever, dgN, dgNil, dgCons, dgSub, dAsg, dPar, dPar3, putD, dSetF, dMt, rAppendD, rPopD, rExtendD, lsT, lsR, lsF, itemsR, dFrz, dCall, dCallK, dMeth, dMake, dFor, dIL, dIT, dIR1, dIR2, dIE, dIZ, wipeD, dYes, dLc, dDic0, updM_same, cxOf, asBl_bl, asInt_int, asTup_tup, isN, w_test, w_chain, w_andV, w_orV, w_notV, w_neg, w_sub, w_div, w_mod, w_pow, w_shl, w_shr, w_and, w_or, w_xor, w_lt, w_le, w_gt, w_ge, w_add, w_addS, w_addT, w_addL, w_addF, w_addR, w_mul, w_mulL, w_eq, w_ne, w_isN, w_isB, w_isntN, w_isntB, w_ix, w_isi, w_abs, w_max2, w_min2, w_max1L, w_min1L, w_sum, w_all, w_any, w_len, w_int, w_intB, w_divmod, w_sorted, w_list, w_bits, w_sl, w_slL, w_slF, w_slR, w_slT, w_newF, w_newT, w_eqL, w_eqT, w_eqR, w_neL, w_neT, w_neR, w_dgT, w_derL, w_derT, w_derB, w_derI, w_derN, w_derS, w_eqSS, w_eqBB, w_neSS, w_neBB, w_eqBI, w_eqIN, w_neIN, w_eqNI, w_neNI, w_eqNN, w_neNN, w_NN, w_NI, w_IN])
        exact ⟨True.intro, 0, rfl, by omega, by omega⟩
      · refine if_no (decide_eq_false g) ?_
        (try simp only [dgU, w_lrg, dCut, dDGet, dDGet1, dDGet2, dDPut, dPairs, w_disp, w_newDF, w_newDT, dec_self, List.map_cons, List.map_nil, eqD_bl, eqD_int, eqD_str, eqD_tup, eqD_lst, eqDs_nil, eqDs_nc, eqDs_cn, eqDs_cons, reduceIte, Bool.false_eq_true, Bool.not_true, Bool.not_false, decide_true, decide_false, dVar, atD, setD, startD, dC, dOp, dAnd, dOr, dNot, dIf, dUn, dNil, dCons, dTup, dLst, rInD, rNotInD, dNoPart, dPart, dRev, dFld, DL.fieldsOf, dCB, dNext, dSeq, dBreak, dCont, dDrop, dRet, dRetN, dIfS, dNever, dgN, dgNil, dgCons, dgSub, dAsg, dPar, dPar3, putD, dSetF, dMt, rAppendD, rPopD, rExtendD, lsT, lsR, lsF, itemsR, dFrz, dCall, dCallK, dMeth, dMake, dFor, dIL, dIT, dIR1, dIR2, dIE, dIZ, wipeD, dYes, dLc, dDic0, updM_same, cxOf, asBl_bl, asInt_int, asTup_tup, isN, w_test, w_chain, w_andV, w_orV, w_notV, w_neg, w_sub, w_div, w_mod, w_pow, w_shl, w_shr, w_and, w_or, w_xor, w_lt, w_le, w_gt, w_ge, w_add, w_addS, w_addT, w_addL, w_addF, w_addR, w_mul, w_mulL, w_eq, w_ne, w_isN, w_isB, w_isntN, w_isntB, w_ix, w_isi, w_abs, w_max2, w_min2, w_max1L, w_min1L, w_sum, w_all, w_any, w_len, w_int, w_intB, w_divmod, w_sorted, w_list, w_bits, w_sl, w_slL, w_slF, w_slR, w_slT, w_newF, w_newT, w_eqL, w_eqT, w_eqR, w_neL, w_neT, w_neR, w_dgT, w_derL, w_derT, w_derB, w_derI, w_derN, w_derS, w_eqSS, w_eqBB, w_neSS, w_neBB, w_eqBI, w_eqIN, w_neIN, w_eqNI, w_neNI, w_eqNN, w_neNN, w_NN, w_NI, w_IN])
        refine ⟨True.intro, 1, rfl, hone ?_⟩
        by_cases g2 : (2 : Int) ^ b = 2
        · exact .inr fun h => g ⟨g2, h⟩
        · exact .inl g2
  rintro _ M1 ⟨hM1, c, rfl, hc⟩
  subst hM1
  refine ⟨lit_len (n := 4) (by decide), b, s, _, .ge, _, c, rfl, hb, htop, hlow, hc, fun r hr => ?_⟩
  rw [first_uniq hr (hge _ c hc)]
  simp only [optD]
  (try simp only [dgU, w_lrg, dCut, dDGet, dDGet1, dDGet2, dDPut, dPairs, w_disp, w_newDF, w_newDT, dec_self, List.map_cons, List.map_nil, eqD_bl, eqD_int, eqD_str, eqD_tup, eqD_lst, eqDs_nil, eqDs_nc, eqDs_cn, eqDs_cons, reduceIte, Bool.false_eq_true, Bool.not_true, Bool.not_false, decide_true, decide_false, dVar, atD, setD, startD, dC, dOp, dAnd, dOr, dNot, dIf, dUn, dNil, dCons, dTup, dLst, rInD, rNotInD, dNoPart, dPart, dRev, dFld, DL.fieldsOf, dCB, dNext, dSeq, dBreak, dCont, dDrop, dRet, dRetN, dIfS, dNever, dgN, dgNil, dgCons, dgSub, dAsg, dPar, dPar3, putD, dSetF, dMt, rAppendD, rPopD, rExtendD, lsT, lsR, lsF, itemsR, dFrz, dCall, dCallK, dMeth, dMake, dFor, dIL, dIT, dIR1, dIR2, dIE, dIZ, wipeD, dYes, dLc, dDic0, updM_same, cxOf, asBl_bl, asInt_int, asTup_tup, isN, w_test, w_chain, w_andV, w_orV, w_notV, w_neg, w_sub, w_div, w_mod, w_pow, w_shl, w_shr, w_and, w_or, w_xor, w_lt, w_le, w_gt, w_ge, w_add, w_addS, w_addT, w_addL, w_addF, w_addR, w_mul, w_mulL, w_eq, w_ne, w_isN, w_isB, w_isntN, w_isntB, w_ix, w_isi, w_abs, w_max2, w_min2, w_max1L, w_min1L, w_sum, w_all, w_any, w_len, w_int, w_intB, w_divmod, w_sorted, w_list, w_bits, w_sl, w_slL, w_slF, w_slR, w_slT, w_newF, w_newT, w_eqL, w_eqT, w_eqR, w_neL, w_neT, w_neR, w_dgT, w_derL, w_derT, w_derB, w_derI, w_derN, w_derS, w_eqSS, w_eqBB, w_neSS, w_neBB, w_eqBI, w_eqIN, w_neIN, w_eqNI, w_neNI, w_eqNN, w_neNN, w_NN, w_NI, w_IN])
  (refine stop_to ?_; (try simp only [dgU, w_lrg, dCut, dDGet, dDGet1, dDGet2, dDPut, dPairs, w_disp, w_newDF, w_newDT, dec_self, List.map_cons, List.map_nil, eqD_bl, eqD_int, eqD_str, eqD_tup, eqD_lst, eqDs_nil, eqDs_nc, eqDs_cn, eqDs_cons, reduceIte, Bool.false_eq_true, Bool.not_true, Bool.not_false, decide_true, decide_false, dVar, atD, setD, startD, dC, dOp, dAnd, dOr, dNot, dIf, dUn, dNil, dCons, dTup, dLst, rInD, rNotInD, dNoPart, dPart, dRev, dFld, DL.fieldsOf, dCB, dNext, dSeq, dBreak, dCont, dDrop, dRet, dRetN, dIfS, dNever, dgN, dgNil, dgCons, dgSub, dAsg, dPar, dPar3, putD, dSetF, dMt, rAppendD, rPopD, rExtendD, lsT, lsR, lsF, itemsR, dFrz, dCall, dCallK, dMeth, dMake, dFor, dIL, dIT, dIR1, dIR2, dIE, dIZ, wipeD, dYes, dLc, dDic0, updM_same, cxOf, asBl_bl, asInt_int, asTup_tup, isN, w_test, w_chain, w_andV, w_orV, w_notV, w_neg, w_sub, w_div, w_mod, w_pow, w_shl, w_shr, w_and, w_or, w_xor, w_lt, w_le, w_gt, w_ge, w_add, w_addS, w_addT, w_addL, w_addF, w_addR, w_mul, w_mulL, w_eq, w_ne, w_isN, w_isB, w_isntN, w_isntB, w_ix, w_isi, w_abs, w_max2, w_min2, w_max1L, w_min1L, w_sum, w_all, w_any, w_len, w_int, w_intB, w_divmod, w_sorted, w_list, w_bits, w_sl, w_slL, w_slF, w_slR, w_slT, w_newF, w_newT, w_eqL, w_eqT, w_eqR, w_neL, w_neT, w_neR, w_dgT, w_derL, w_derT, w_derB, w_derI, w_derN, w_derS, w_eqSS, w_eqBB, w_neSS, w_neBB, w_eqBI, w_eqIN, w_neIN, w_eqNI, w_neNI, w_eqNN, w_neNN, w_NN, w_NI, w_IN]))
  refine ⟨a, _, _, rfl, hM, hp, hbig, fun v M2 v0 v1 hs => ?_⟩
  refine ⟨lit_len (n := 4) (by decide), b, s, _, .le, _, v, rfl, hb, hlow, htop, ⟨v0, v1⟩, fun r hr => ?_⟩
  rw [first_uniq hr (hle _ v ⟨v0, v1⟩)]
  simp only [optD]
  (try simp only [dgU, w_lrg, dCut, dDGet, dDGet1, dDGet2, dDPut, dPairs, w_disp, w_newDF, w_newDT, dec_self, List.map_cons, List.map_nil, eqD_bl, eqD_int, eqD_str, eqD_tup, eqD_lst, eqDs_nil, eqDs_nc, eqDs_cn, eqDs_cons, reduceIte, Bool.false_eq_true, Bool.not_true, Bool.not_false, decide_true, decide_false, dVar, atD, setD, startD, dC, dOp, dAnd, dOr, dNot, dIf, dUn, dNil, dCons, dTup, dLst, rInD, rNotInD, dNoPart, dPart, dRev, dFld, DL.fieldsOf, dCB, dNext, dSeq, dBreak, dCont, dDrop, dRet, dRetN, dIfS, dNever, dgN, dgNil, dgCons, dgSub, dAsg, dPar, dPar3, putD, dSetF, dMt, rAppendD, rPopD, rExtendD, lsT, lsR, lsF, itemsR, dFrz, dCall, dCallK, dMeth, dMake, dFor, dIL, dIT, dIR1, dIR2, dIE, dIZ, wipeD, dYes, dLc, dDic0, updM_same, cxOf, asBl_bl, asInt_int, asTup_tup, isN, w_test, w_chain, w_andV, w_orV, w_notV, w_neg, w_sub, w_div, w_mod, w_pow, w_shl, w_shr, w_and, w_or, w_xor, w_lt, w_le, w_gt, w_ge, w_add, w_addS, w_addT, w_addL, w_addF, w_addR, w_mul, w_mulL, w_eq, w_ne, w_isN, w_isB, w_isntN, w_isntB, w_ix, w_isi, w_abs, w_max2, w_min2, w_max1L, w_min1L, w_sum, w_all, w_any, w_len, w_int, w_intB, w_divmod, w_sorted, w_list, w_bits, w_sl, w_slL, w_slF, w_slR, w_slT, w_newF, w_newT, w_eqL, w_eqT, w_eqR, w_neL, w_neT, w_neR, w_dgT, w_derL, w_derT, w_derB, w_derI, w_derN, w_derS, w_eqSS, w_eqBB, w_neSS, w_neBB, w_eqBI, w_eqIN, w_neIN, w_eqNI, w_neNI, w_eqNN, w_neNN, w_NN, w_NI, w_IN])
  (refine stop_to ?_; (try simp only [dgU, w_lrg, dCut, dDGet, dDGet1, dDGet2, dDPut, dPairs, w_disp, w_newDF, w_newDT, dec_self, List.map_cons, List.map_nil, eqD_bl, eqD_int, eqD_str, eqD_tup, eqD_lst, eqDs_nil, eqDs_nc, eqDs_cn, eqDs_cons, reduceIte, Bool.false_eq_true, Bool.not_true, Bool.not_false, decide_true, decide_false, dVar, atD, setD, startD, dC, dOp, dAnd, dOr, dNot, dIf, dUn, dNil, dCons, dTup, dLst, rInD, rNotInD, dNoPart, dPart, dRev, dFld, DL.fieldsOf, dCB, dNext, dSeq, dBreak, dCont, dDrop, dRet, dRetN, dIfS, dNever, dgN, dgNil, dgCons, dgSub, dAsg, dPar, dPar3, putD, dSetF, dMt, rAppendD, rPopD, rExtendD, lsT, lsR, lsF, itemsR, dFrz, dCall, dCallK, dMeth, dMake, dFor, dIL, dIT, dIR1, dIR2, dIE, dIZ, wipeD, dYes, dLc, dDic0, updM_same, cxOf, asBl_bl, asInt_int, asTup_tup, isN, w_test, w_chain, w_andV, w_orV, w_notV, w_neg, w_sub, w_div, w_mod, w_pow, w_shl, w_shr, w_and, w_or, w_xor, w_lt, w_le, w_gt, w_ge, w_add, w_addS, w_addT, w_addL, w_addF, w_addR, w_mul, w_mulL, w_eq, w_ne, w_isN, w_isB, w_isntN, w_isntB, w_ix, w_isi, w_abs, w_max2, w_min2, w_max1L, w_min1L, w_sum, w_all, w_any, w_len, w_int, w_intB, w_divmod, w_sorted, w_list, w_bits, w_sl, w_slL, w_slF, w_slR, w_slT, w_newF, w_newT, w_eqL, w_eqT, w_eqR, w_neL, w_neT, w_neR, w_dgT, w_derL, w_derT, w_derB, w_derI, w_derN, w_derS, w_eqSS, w_eqBB, w_neSS, w_neBB, w_eqBI, w_eqIN, w_neIN, w_eqNI, w_neNI, w_eqNN, w_neNN, w_NN, w_NI, w_IN]))
  refine ⟨fun d M' => M' = M2 ∧ ∃ c : Int, d = .int c ∧ InK b s c ∧ (2 : Int) ^ b ∣ c - 1, ?_, ?_⟩
  · (try simp only [dgU, w_lrg, dCut, dDGet, dDGet1, dDGet2, dDPut, dPairs, w_disp, w_newDF, w_newDT, dec_self, List.map_cons, List.map_nil, eqD_bl, eqD_int, eqD_str, eqD_tup, eqD_lst, eqDs_nil, eqDs_nc, eqDs_cn, eqDs_cons, reduceIte, Bool.false_eq_true, Bool.not_true, Bool.not_false, decide_true, decide_false, dVar, atD, setD, startD, dC, dOp, dAnd, dOr, dNot, dIf, dUn, dNil, dCons, dTup, dLst, rInD, rNotInD, dNoPart, dPart, dRev, dFld, DL.fieldsOf, dCB, dNext, dSeq, dBreak, dCont, dDrop, dRet, dRetN, dIfS, dNever, dgN, dgNil, dgCons, dgSub, dAsg, dPar, dPar3, putD, dSetF, dMt, rAppendD, rPopD, rExtendD, lsT, lsR, lsF, itemsR, dFrz, dCall, dCallK, dMeth, dMake, dFor, dIL, dIT, dIR1, dIR2, dIE, dIZ, wipeD, dYes, dLc, dDic0, updM_same, cxOf, asBl_bl, asInt_int, asTup_tup, isN, w_test, w_chain, w_andV, w_orV, w_notV, w_neg, w_sub, w_div, w_mod, w_pow, w_shl, w_shr, w_and, w_or, w_xor, w_lt, w_le, w_gt, w_ge, w_add, w_addS, w_addT, w_addL, w_addF, w_addR, w_mul, w_mulL, w_eq, w_ne, w_isN, w_isB, w_isntN, w_isntB, w_ix, w_isi, w_abs, w_max2, w_min2, w_max1L, w_min1L, w_sum, w_all, w_any, w_len, w_int, w_intB, w_divmod, w_sorted, w_list, w_bits, w_sl, w_slL, w_slF, w_slR, w_slT, w_newF, w_newT, w_eqL, w_eqT, w_eqR, w_neL, w_neT, w_neR, w_dgT, w_derL, w_derT, w_derB, w_derI, w_derN, w_derS, w_eqSS, w_eqBB, w_neSS, w_neBB, w_eqBI, w_eqIN, w_neIN, w_eqNI, w_neNI, w_eqNN, w_neNN, w_NN, w_NI, w_IN])
    refine cut_is (decide ((2 : Int) < 2 ^ b ∨ lowZ b s = 0)) ?_ ?_
    · (try simp only [dgU, w_lrg, dCut, dDGet, dDGet1, dDGet2, dDPut, dPairs, w_disp, w_newDF, w_newDT, dec_self, List.map_cons, List.map_nil, eqD_bl, eqD_int, eqD_str, eqD_tup, eqD_lst, eqDs_nil, eqDs_nc, eqDs_cn, eqDs_cons, reduceIte, Bool.false_eq_true, Bool.not_true, Bool.not_false, decide_true, decide_false, dVar, atD, setD, startD, dC, dOp, dAnd, dOr, dNot, dIf, dUn, dNil, dCons, dTup, dLst, rInD, rNotInD, dNoPart, dPart, dRev, dFld, DL.fieldsOf, dCB, dNext, dSeq, dBreak, dCont, dDrop, dRet, dRetN, dIfS, dNever, dgN, dgNil, dgCons, dgSub, dAsg, dPar, dPar3, putD, dSetF, dMt, rAppendD, rPopD, rExtendD, lsT, lsR, lsF, itemsR, dFrz, dCall, dCallK, dMeth, dMake, dFor, dIL, dIT, dIR1, dIR2, dIE, dIZ, wipeD, dYes, dLc, dDic0, updM_same, cxOf, asBl_bl, asInt_int, asTup_tup, isN, w_test, w_chain, w_andV, w_orV, w_notV, w_neg, w_sub, w_div, w_mod, w_pow, w_shl, w_shr, w_and, w_or, w_xor, w_lt, w_le, w_gt, w_ge, w_add, w_addS, w_addT, w_addL, w_addF, w_addR, w_mul, w_mulL, w_eq, w_ne, w_isN, w_isB, w_isntN, w_isntB, w_ix, w_isi, w_abs, w_max2, w_min2, w_max1L, w_min1L, w_sum, w_all, w_any, w_len, w_int, w_intB, w_divmod, w_sorted, w_list, w_bits, w_sl, w_slL, w_slF, w_slR, w_slT, w_newF, w_newT, w_eqL, w_eqT, w_eqR, w_neL, w_neT, w_neR, w_dgT, w_derL, w_derT, w_derB, w_derI, w_derN, w_derS, w_eqSS, w_eqBB, w_neSS, w_neBB, w_eqBI, w_eqIN, w_neIN, w_eqNI, w_neNI, w_eqNN, w_neNN, w_NN, w_NI, w_IN])
      by_cases g : (2 : Int) < 2 ^ b
      · refine if_yes (decide_eq_true g) ?_
        rw [decide_eq_true (.inl g)]
        (first | exact ⟨rfl, rfl⟩ | exact ⟨rfl, True.intro⟩ | exact ⟨True.intro, rfl⟩ | exact ⟨True.intro, True.intro⟩)
      · refine if_no (decide_eq_false g) ?_
        by_cases g2 : lowZ b s = 0
        · rw [decide_eq_true g2, decide_eq_true (.inr g2)]
          (first | exact ⟨rfl, rfl⟩ | exact ⟨rfl, True.intro⟩ | exact ⟨True.intro, rfl⟩ | exact ⟨True.intro, True.intro⟩)
        · rw [decide_eq_false g2, decide_eq_false fun z => z.elim g g2]
          (first | exact ⟨rfl, rfl⟩ | exact ⟨rfl, True.intro⟩ | exact ⟨True.intro, rfl⟩ | exact ⟨True.intro, True.intro⟩)
    · by_cases g : (2 : Int) < 2 ^ b ∨ lowZ b s = 0
      · refine if_yes (decide_eq_true g) ?_
        (try simp only [dgU, w_lrg, dCut, dDGet, dDGet1, dDGet2, dDPut, dPairs, w_disp, w_newDF, w_newDT, dec_self, List.map_cons, List.map_nil, eqD_bl, eqD_int, eqD_str, eqD_tup, eqD_lst, eqDs_nil, eqDs_nc, eqDs_cn, eqDs_cons, reduceIte, Bool.false_eq_true, Bool.not_true, Bool.not_false, decide_true, decide_false, dVar, atD, setD, startD, dC, dOp, dAnd, dOr, dNot, dIf, dUn, dNil, dCons, dTup, dLst, rInD, rNotInD, dNoPart, dPart, dRev, dFld, DL.fieldsOf, dCB, dNext, dSeq, dBreak, dCont, dDrop, dRet, dRetN, dIfS, dNever, dgN, dgNil, dgCons, dgSub, dAsg, dPar, dPar3, putD, dSetF, dMt, rAppendD, rPopD, rExtendD, lsT, lsR, lsF, itemsR, dFrz, dCall, dCallK, dMeth, dMake, dFor, dIL, dIT, dIR1, dIR2, dIE, dIZ, wipeD, dYes, dLc, dDic0, updM_same, cxOf, asBl_bl, asInt_int, asTup_tup, isN, w_test, w_chain, w_andV, w_orV, w_notV, w_neg, w_sub, w_div, w_mod, w_pow, w_shl, w_shr, w_and, w_or, w_xor, w_lt, w_le, w_gt, w_ge, w_add, w_addS, w_addT, w_addL, w_addF, w_addR, w_mul, w_mulL, w_eq, w_ne, w_isN, w_isB, w_isntN, w_isntB, w_ix, w_isi, w_abs, w_max2, w_min2, w_max1L, w_min1L, w_sum, w_all, w_any, w_len, w_int, w_intB, w_divmod, w_sorted, w_list, w_bits, w_sl, w_slL, w_slF, w_slR, w_slT, w_newF, w_newT, w_eqL, w_eqT, w_eqR, w_neL, w_neT, w_neR, w_dgT, w_derL, w_derT, w_derB, w_derI, w_derN, w_derS, w_eqSS, w_eqBB, w_neSS, w_neBB, w_eqBI, w_eqIN, w_neIN, w_eqNI, w_neNI, w_eqNN, w_neNN, w_NN, w_NI, w_IN])
        refine ⟨True.intro, 1, rfl, hone ?_, ⟨0, by simp⟩⟩
        rcases g with g | g
        · exact .inl (by omega)
        · exact .inr (by omega)
      · refine if_no (decide_eq_false g) ?_
        (try simp only [dgU, w_lrg, dCut, dDGet, dDGet1, dDGet2, dDPut, dPairs, w_disp, w_newDF, w_newDT, dec_self, List.map_cons, List.map_nil, eqD_bl, eqD_int, eqD_str, eqD_tup, eqD_lst, eqDs_nil, eqDs_nc, eqDs_cn, eqDs_cons, reduceIte, Bool.false_eq_true, Bool.not_true, Bool.not_false, decide_true, decide_false, dVar, atD, setD, startD, dC, dOp, dAnd, dOr, dNot, dIf, dUn, dNil, dCons, dTup, dLst, rInD, rNotInD, dNoPart, dPart, dRev, dFld, DL.fieldsOf, dCB, dNext, dSeq, dBreak, dCont, dDrop, dRet, dRetN, dIfS, dNever, dgN, dgNil, dgCons, dgSub, dAsg, dPar, dPar3, putD, dSetF, dMt, rAppendD, rPopD, rExtendD, lsT, lsR, lsF, itemsR, dFrz, dCall, dCallK, dMeth, dMake, dFor, dIL, dIT, dIR1, dIR2, dIE, dIZ, wipeD, dYes, dLc, dDic0, updM_same, cxOf, asBl_bl, asInt_int, asTup_tup, isN, w_test, w_chain, w_andV, w_orV, w_notV, w_neg, w_sub, w_div, w_mod, w_pow, w_shl, w_shr, w_and, w_or, w_xor, w_lt, w_le, w_gt, w_ge, w_add, w_addS, w_addT, w_addL, w_addF, w_addR, w_mul, w_mulL, w_eq, w_ne, w_isN, w_isB, w_isntN, w_isntB, w_ix, w_isi, w_abs, w_max2, w_min2, w_max1L, w_min1L, w_sum, w_all, w_any, w_len, w_int, w_intB, w_divmod, w_sorted, w_list, w_bits, w_sl, w_slL, w_slF, w_slR, w_slT, w_newF, w_newT, w_eqL, w_eqT, w_eqR, w_neL, w_neT, w_neR, w_dgT, w_derL, w_derT, w_derB, w_derI, w_derN, w_derS, w_eqSS, w_eqBB, w_neSS, w_neBB, w_eqBI, w_eqIN, w_neIN, w_eqNI, w_neNI, w_eqNN, w_neNN, w_NN, w_NI, w_IN])
        have hl : lowZ b s = -(2 ^ (b - 1)) := by
          cases s with
          | false => exact absurd (.inr rfl) g
          | true => rfl
        have h2 : (2 : Int) ^ b = 2 := by
          have : ¬ (2 : Int) < 2 ^ b := fun h => g (.inl h)
          omega
        exact ⟨True.intro, -1, rfl, ⟨by omega, by omega⟩, ⟨-1, by rw [h2]; rfl⟩⟩
  rintro _ M3 ⟨hM1, c, rfl, hc, hcd⟩
  subst hM1
  obtain ⟨N, hN⟩ := Int.eq_ofNat_of_zero_le (show 0 ≤ (2 : Int) ^ b - 1 by omega)
  have hup : FirstR b s (lowZ b s) .lt (lowZ b s + 2 ^ b - 1) c (some N) := by
    refine ⟨?_, fun k hk => ?_⟩
    · show holdsZ .lt (valZ b s (lowZ b s) c N) _ = false
      rw [val_one hcd (by omega)]
      exact decide_eq_false (by omega)
    · show ¬ holdsZ .lt (valZ b s (lowZ b s) c k) _ = false
      rw [val_one hcd (by omega), show holdsZ .lt (lowZ b s + (k : Nat)) (lowZ b s + 2 ^ b - 1) = true from decide_eq_true (by omega)]
      exact Bool.noConfusion
  (refine stop_to ?_; (try simp only [dgU, w_lrg, dCut, dDGet, dDGet1, dDGet2, dDPut, dPairs, w_disp, w_newDF, w_newDT, dec_self, List.map_cons, List.map_nil, eqD_bl, eqD_int, eqD_str, eqD_tup, eqD_lst, eqDs_nil, eqDs_nc, eqDs_cn, eqDs_cons, reduceIte, Bool.false_eq_true, Bool.not_true, Bool.not_false, decide_true, decide_false, dVar, atD, setD, startD, dC, dOp, dAnd, dOr, dNot, dIf, dUn, dNil, dCons, dTup, dLst, rInD, rNotInD, dNoPart, dPart, dRev, dFld, DL.fieldsOf, dCB, dNext, dSeq, dBreak, dCont, dDrop, dRet, dRetN, dIfS, dNever, dgN, dgNil, dgCons, dgSub, dAsg, dPar, dPar3, putD, dSetF, dMt, rAppendD, rPopD, rExtendD, lsT, lsR, lsF, itemsR, dFrz, dCall, dCallK, dMeth, dMake, dFor, dIL, dIT, dIR1, dIR2, dIE, dIZ, wipeD, dYes, dLc, dDic0, updM_same, cxOf, asBl_bl, asInt_int, asTup_tup, isN, w_test, w_chain, w_andV, w_orV, w_notV, w_neg, w_sub, w_div, w_mod, w_pow, w_shl, w_shr, w_and, w_or, w_xor, w_lt, w_le, w_gt, w_ge, w_add, w_addS, w_addT, w_addL, w_addF, w_addR, w_mul, w_mulL, w_eq, w_ne, w_isN, w_isB, w_isntN, w_isntB, w_ix, w_isi, w_abs, w_max2, w_min2, w_max1L, w_min1L, w_sum, w_all, w_any, w_len, w_int, w_intB, w_divmod, w_sorted, w_list, w_bits, w_sl, w_slL, w_slF, w_slR, w_slT, w_newF, w_newT, w_eqL, w_eqT, w_eqR, w_neL, w_neT, w_neR, w_dgT, w_derL, w_derT, w_derB, w_derI, w_derN, w_derS, w_eqSS, w_eqBB, w_neSS, w_neBB, w_eqBI, w_eqIN, w_neIN, w_eqNI, w_neNI, w_eqNN, w_neNN, w_NN, w_NI, w_IN]))
  refine ⟨lit_len (n := 4) (by decide), b, s, _, .lt, _, c, rfl, hb, hlow, htop, hc, fun r hr => ?_⟩
  rw [first_uniq hr hup, hN]
  simp only [optD]
  (try simp only [dgU, w_lrg, dCut, dDGet, dDGet1, dDGet2, dDPut, dPairs, w_disp, w_newDF, w_newDT, dec_self, List.map_cons, List.map_nil, eqD_bl, eqD_int, eqD_str, eqD_tup, eqD_lst, eqDs_nil, eqDs_nc, eqDs_cn, eqDs_cons, reduceIte, Bool.false_eq_true, Bool.not_true, Bool.not_false, decide_true, decide_false, dVar, atD, setD, startD, dC, dOp, dAnd, dOr, dNot, dIf, dUn, dNil, dCons, dTup, dLst, rInD, rNotInD, dNoPart, dPart, dRev, dFld, DL.fieldsOf, dCB, dNext, dSeq, dBreak, dCont, dDrop, dRet, dRetN, dIfS, dNever, dgN, dgNil, dgCons, dgSub, dAsg, dPar, dPar3, putD, dSetF, dMt, rAppendD, rPopD, rExtendD, lsT, lsR, lsF, itemsR, dFrz, dCall, dCallK, dMeth, dMake, dFor, dIL, dIT, dIR1, dIR2, dIE, dIZ, wipeD, dYes, dLc, dDic0, updM_same, cxOf, asBl_bl, asInt_int, asTup_tup, isN, w_test, w_chain, w_andV, w_orV, w_notV, w_neg, w_sub, w_div, w_mod, w_pow, w_shl, w_shr, w_and, w_or, w_xor, w_lt, w_le, w_gt, w_ge, w_add, w_addS, w_addT, w_addL, w_addF, w_addR, w_mul, w_mulL, w_eq, w_ne, w_isN, w_isB, w_isntN, w_isntB, w_ix, w_isi, w_abs, w_max2, w_min2, w_max1L, w_min1L, w_sum, w_all, w_any, w_len, w_int, w_intB, w_divmod, w_sorted, w_list, w_bits, w_sl, w_slL, w_slF, w_slR, w_slT, w_newF, w_newT, w_eqL, w_eqT, w_eqR, w_neL, w_neT, w_neR, w_dgT, w_derL, w_derT, w_derB, w_derI, w_derN, w_derS, w_eqSS, w_eqBB, w_neSS, w_neBB, w_eqBI, w_eqIN, w_neIN, w_eqNI, w_neNI, w_eqNN, w_neNN, w_NN, w_NI, w_IN])
  (refine stop_to ?_; (try simp only [dgU, w_lrg, dCut, dDGet, dDGet1, dDGet2, dDPut, dPairs, w_disp, w_newDF, w_newDT, dec_self, List.map_cons, List.map_nil, eqD_bl, eqD_int, eqD_str, eqD_tup, eqD_lst, eqDs_nil, eqDs_nc, eqDs_cn, eqDs_cons, reduceIte, Bool.false_eq_true, Bool.not_true, Bool.not_false, decide_true, decide_false, dVar, atD, setD, startD, dC, dOp, dAnd, dOr, dNot, dIf, dUn, dNil, dCons, dTup, dLst, rInD, rNotInD, dNoPart, dPart, dRev, dFld, DL.fieldsOf, dCB, dNext, dSeq, dBreak, dCont, dDrop, dRet, dRetN, dIfS, dNever, dgN, dgNil, dgCons, dgSub, dAsg, dPar, dPar3, putD, dSetF, dMt, rAppendD, rPopD, rExtendD, lsT, lsR, lsF, itemsR, dFrz, dCall, dCallK, dMeth, dMake, dFor, dIL, dIT, dIR1, dIR2, dIE, dIZ, wipeD, dYes, dLc, dDic0, updM_same, cxOf, asBl_bl, asInt_int, asTup_tup, isN, w_test, w_chain, w_andV, w_orV, w_notV, w_neg, w_sub, w_div, w_mod, w_pow, w_shl, w_shr, w_and, w_or, w_xor, w_lt, w_le, w_gt, w_ge, w_add, w_addS, w_addT, w_addL, w_addF, w_addR, w_mul, w_mulL, w_eq, w_ne, w_isN, w_isB, w_isntN, w_isntB, w_ix, w_isi, w_abs, w_max2, w_min2, w_max1L, w_min1L, w_sum, w_all, w_any, w_len, w_int, w_intB, w_divmod, w_sorted, w_list, w_bits, w_sl, w_slL, w_slF, w_slR, w_slT, w_newF, w_newT, w_eqL, w_eqT, w_eqR, w_neL, w_neT, w_neR, w_dgT, w_derL, w_derT, w_derB, w_derI, w_derN, w_derS, w_eqSS, w_eqBB, w_neSS, w_neBB, w_eqBI, w_eqIN, w_neIN, w_eqNI, w_neNI, w_eqNN, w_neNN, w_NN, w_NI, w_IN]))
  refine ⟨_, _, _, rfl, hp, ?_⟩
  rw [show lowZ b s + (-1 - lowZ b s) % 2 ^ b = placedZ b s (-1) by rfl]
  have hd := placed_inK b s (-1)
  have hdd : (2 : Int) ^ b ∣ placedZ b s (-1) + 1 := by
    obtain ⟨z, hz⟩ := placed_cong b s (-1)
    exact ⟨z, by omega⟩
  generalize placedZ b s (-1) = d at hd hdd
  have hdn : FirstR b s (lowZ b s + 2 ^ b - 1) .gt (lowZ b s) d (some N) := by
    refine ⟨?_, fun k hk => ?_⟩
    · show holdsZ .gt (valZ b s (lowZ b s + 2 ^ b - 1) d N) _ = false
      rw [val_down hdd (by omega)]
      exact decide_eq_false (by omega)
    · show ¬ holdsZ .gt (valZ b s (lowZ b s + 2 ^ b - 1) d k) _ = false
      rw [val_down hdd (by omega), show holdsZ .gt (lowZ b s + 2 ^ b - 1 - (k : Nat)) (lowZ b s) = true from decide_eq_true (by omega)]
      exact Bool.noConfusion
  refine ⟨lit_len (n := 4) (by decide), b, s, _, .gt, _, d, rfl, hb, htop, hlow, hd, fun r hr => ?_⟩
  rw [first_uniq hr hdn, hN]
  simp only [optD]
  (try simp only [dgU, w_lrg, dCut, dDGet, dDGet1, dDGet2, dDPut, dPairs, w_disp, w_newDF, w_newDT, dec_self, List.map_cons, List.map_nil, eqD_bl, eqD_int, eqD_str, eqD_tup, eqD_lst, eqDs_nil, eqDs_nc, eqDs_cn, eqDs_cons, reduceIte, Bool.false_eq_true, Bool.not_true, Bool.not_false, decide_true, decide_false, dVar, atD, setD, startD, dC, dOp, dAnd, dOr, dNot, dIf, dUn, dNil, dCons, dTup, dLst, rInD, rNotInD, dNoPart, dPart, dRev, dFld, DL.fieldsOf, dCB, dNext, dSeq, dBreak, dCont, dDrop, dRet, dRetN, dIfS, dNever, dgN, dgNil, dgCons, dgSub, dAsg, dPar, dPar3, putD, dSetF, dMt, rAppendD, rPopD, rExtendD, lsT, lsR, lsF, itemsR, dFrz, dCall, dCallK, dMeth, dMake, dFor, dIL, dIT, dIR1, dIR2, dIE, dIZ, wipeD, dYes, dLc, dDic0, updM_same, cxOf, asBl_bl, asInt_int, asTup_tup, isN, w_test, w_chain, w_andV, w_orV, w_notV, w_neg, w_sub, w_div, w_mod, w_pow, w_shl, w_shr, w_and, w_or, w_xor, w_lt, w_le, w_gt, w_ge, w_add, w_addS, w_addT, w_addL, w_addF, w_addR, w_mul, w_mulL, w_eq, w_ne, w_isN, w_isB, w_isntN, w_isntB, w_ix, w_isi, w_abs, w_max2, w_min2, w_max1L, w_min1L, w_sum, w_all, w_any, w_len, w_int, w_intB, w_divmod, w_sorted, w_list, w_bits, w_sl, w_slL, w_slF, w_slR, w_slT, w_newF, w_newT, w_eqL, w_eqT, w_eqR, w_neL, w_neT, w_neR, w_dgT, w_derL, w_derT, w_derB, w_derI, w_derN, w_derS, w_eqSS, w_eqBB, w_neSS, w_neBB, w_eqBI, w_eqIN, w_neIN, w_eqNI, w_neNI, w_eqNN, w_neNN, w_NN, w_NI, w_IN])
  (refine stop_to ?_; (try simp only [dgU, w_lrg, dCut, dDGet, dDGet1, dDGet2, dDPut, dPairs, w_disp, w_newDF, w_newDT, dec_self, List.map_cons, List.map_nil, eqD_bl, eqD_int, eqD_str, eqD_tup, eqD_lst, eqDs_nil, eqDs_nc, eqDs_cn, eqDs_cons, reduceIte, Bool.false_eq_true, Bool.not_true, Bool.not_false, decide_true, decide_false, dVar, atD, setD, startD, dC, dOp, dAnd, dOr, dNot, dIf, dUn, dNil, dCons, dTup, dLst, rInD, rNotInD, dNoPart, dPart, dRev, dFld, DL.fieldsOf, dCB, dNext, dSeq, dBreak, dCont, dDrop, dRet, dRetN, dIfS, dNever, dgN, dgNil, dgCons, dgSub, dAsg, dPar, dPar3, putD, dSetF, dMt, rAppendD, rPopD, rExtendD, lsT, lsR, lsF, itemsR, dFrz, dCall, dCallK, dMeth, dMake, dFor, dIL, dIT, dIR1, dIR2, dIE, dIZ, wipeD, dYes, dLc, dDic0, updM_same, cxOf, asBl_bl, asInt_int, asTup_tup, isN, w_test, w_chain, w_andV, w_orV, w_notV, w_neg, w_sub, w_div, w_mod, w_pow, w_shl, w_shr, w_and, w_or, w_xor, w_lt, w_le, w_gt, w_ge, w_add, w_addS, w_addT, w_addL, w_addF, w_addR, w_mul, w_mulL, w_eq, w_ne, w_isN, w_isB, w_isntN, w_isntB, w_ix, w_isi, w_abs, w_max2, w_min2, w_max1L, w_min1L, w_sum, w_all, w_any, w_len, w_int, w_intB, w_divmod, w_sorted, w_list, w_bits, w_sl, w_slL, w_slF, w_slR, w_slT, w_newF, w_newT, w_eqL, w_eqT, w_eqR, w_neL, w_neT, w_neR, w_dgT, w_derL, w_derT, w_derB, w_derI, w_derN, w_derS, w_eqSS, w_eqBB, w_neSS, w_neBB, w_eqBI, w_eqIN, w_neIN, w_eqNI, w_neNI, w_eqNN, w_neNN, w_NN, w_NI, w_IN]))
  refine ⟨a, _, _, rfl, hs.src, hp, hbig, fun x M4 x0 x1 hs4 => ?_⟩
  have hs := hs.trans hs4
  clear hs4
  have hx : InK b s x := ⟨x0, x1⟩
  have h0 : InK b s 0 := ⟨by omega, by omega⟩
  have heq0 : FirstR b s x .eq x 0 none := by
    intro n h
    have h : decide (valZ b s x 0 n = x) = false := h
    have e : valZ b s x 0 n = x := by
      show placedZ b s (x + (n : Nat) * 0) = x
      rw [Int.mul_zero, Int.add_zero]
      exact placed_same x0 x1
    exact absurd e (of_decide_eq_false h)
  have heq1 : FirstR b s x .eq x c (some 1) := by
    refine ⟨decide_eq_false fun e => ?_, fun k hk h => ?_⟩
    · have e : placedZ b s (x + ((1 : Nat) : Int) * c) = placedZ b s x := e.trans (placed_same x0 x1).symm
      obtain ⟨z, hz⟩ := placed_iff.mp e
      obtain ⟨y, hy⟩ := hcd
      have e1 : (2 : Int) ^ b * (z - y) = 1 := by
        simp at hz
        rw [Int.mul_sub]
        omega
      rw [h22, Int.mul_assoc] at e1
      omega
    · have : k = 0 := by omega
      subst this
      have h : decide (valZ b s x c 0 = x) = false := h
      have e : valZ b s x c 0 = x := by
        show placedZ b s (x + ((0 : Nat) : Int) * c) = x
        rw [show x + ((0 : Nat) : Int) * c = x by simp]
        exact placed_same x0 x1
      exact absurd e (of_decide_eq_false h)
  (try simp only [dgU, w_lrg, dCut, dDGet, dDGet1, dDGet2, dDPut, dPairs, w_disp, w_newDF, w_newDT, dec_self, List.map_cons, List.map_nil, eqD_bl, eqD_int, eqD_str, eqD_tup, eqD_lst, eqDs_nil, eqDs_nc, eqDs_cn, eqDs_cons, reduceIte, Bool.false_eq_true, Bool.not_true, Bool.not_false, decide_true, decide_false, dVar, atD, setD, startD, dC, dOp, dAnd, dOr, dNot, dIf, dUn, dNil, dCons, dTup, dLst, rInD, rNotInD, dNoPart, dPart, dRev, dFld, DL.fieldsOf, dCB, dNext, dSeq, dBreak, dCont, dDrop, dRet, dRetN, dIfS, dNever, dgN, dgNil, dgCons, dgSub, dAsg, dPar, dPar3, putD, dSetF, dMt, rAppendD, rPopD, rExtendD, lsT, lsR, lsF, itemsR, dFrz, dCall, dCallK, dMeth, dMake, dFor, dIL, dIT, dIR1, dIR2, dIE, dIZ, wipeD, dYes, dLc, dDic0, updM_same, cxOf, asBl_bl, asInt_int, asTup_tup, isN, w_test, w_chain, w_andV, w_orV, w_notV, w_neg, w_sub, w_div, w_mod, w_pow, w_shl, w_shr, w_and, w_or, w_xor, w_lt, w_le, w_gt, w_ge, w_add, w_addS, w_addT, w_addL, w_addF, w_addR, w_mul, w_mulL, w_eq, w_ne, w_isN, w_isB, w_isntN, w_isntB, w_ix, w_isi, w_abs, w_max2, w_min2, w_max1L, w_min1L, w_sum, w_all, w_any, w_len, w_int, w_intB, w_divmod, w_sorted, w_list, w_bits, w_sl, w_slL, w_slF, w_slR, w_slT, w_newF, w_newT, w_eqL, w_eqT, w_eqR, w_neL, w_neT, w_neR, w_dgT, w_derL, w_derT, w_derB, w_derI, w_derN, w_derS, w_eqSS, w_eqBB, w_neSS, w_neBB, w_eqBI, w_eqIN, w_neIN, w_eqNI, w_neNI, w_eqNN, w_neNN, w_NN, w_NI, w_IN])
  (refine stop_to ?_; (try simp only [dgU, w_lrg, dCut, dDGet, dDGet1, dDGet2, dDPut, dPairs, w_disp, w_newDF, w_newDT, dec_self, List.map_cons, List.map_nil, eqD_bl, eqD_int, eqD_str, eqD_tup, eqD_lst, eqDs_nil, eqDs_nc, eqDs_cn, eqDs_cons, reduceIte, Bool.false_eq_true, Bool.not_true, Bool.not_false, decide_true, decide_false, dVar, atD, setD, startD, dC, dOp, dAnd, dOr, dNot, dIf, dUn, dNil, dCons, dTup, dLst, rInD, rNotInD, dNoPart, dPart, dRev, dFld, DL.fieldsOf, dCB, dNext, dSeq, dBreak, dCont, dDrop, dRet, dRetN, dIfS, dNever, dgN, dgNil, dgCons, dgSub, dAsg, dPar, dPar3, putD, dSetF, dMt, rAppendD, rPopD, rExtendD, lsT, lsR, lsF, itemsR, dFrz, dCall, dCallK, dMeth, dMake, dFor, dIL, dIT, dIR1, dIR2, dIE, dIZ, wipeD, dYes, dLc, dDic0, updM_same, cxOf, asBl_bl, asInt_int, asTup_tup, isN, w_test, w_chain, w_andV, w_orV, w_notV, w_neg, w_sub, w_div, w_mod, w_pow, w_shl, w_shr, w_and, w_or, w_xor, w_lt, w_le, w_gt, w_ge, w_add, w_addS, w_addT, w_addL, w_addF, w_addR, w_mul, w_mulL, w_eq, w_ne, w_isN, w_isB, w_isntN, w_isntB, w_ix, w_isi, w_abs, w_max2, w_min2, w_max1L, w_min1L, w_sum, w_all, w_any, w_len, w_int, w_intB, w_divmod, w_sorted, w_list, w_bits, w_sl, w_slL, w_slF, w_slR, w_slT, w_newF, w_newT, w_eqL, w_eqT, w_eqR, w_neL, w_neT, w_neR, w_dgT, w_derL, w_derT, w_derB, w_derI, w_derN, w_derS, w_eqSS, w_eqBB, w_neSS, w_neBB, w_eqBI, w_eqIN, w_neIN, w_eqNI, w_neNI, w_eqNN, w_neNN, w_NN, w_NI, w_IN]))
  refine cut_is false ?_ ?_
  · (try simp only [dgU, w_lrg, dCut, dDGet, dDGet1, dDGet2, dDPut, dPairs, w_disp, w_newDF, w_newDT, dec_self, List.map_cons, List.map_nil, eqD_bl, eqD_int, eqD_str, eqD_tup, eqD_lst, eqDs_nil, eqDs_nc, eqDs_cn, eqDs_cons, reduceIte, Bool.false_eq_true, Bool.not_true, Bool.not_false, decide_true, decide_false, dVar, atD, setD, startD, dC, dOp, dAnd, dOr, dNot, dIf, dUn, dNil, dCons, dTup, dLst, rInD, rNotInD, dNoPart, dPart, dRev, dFld, DL.fieldsOf, dCB, dNext, dSeq, dBreak, dCont, dDrop, dRet, dRetN, dIfS, dNever, dgN, dgNil, dgCons, dgSub, dAsg, dPar, dPar3, putD, dSetF, dMt, rAppendD, rPopD, rExtendD, lsT, lsR, lsF, itemsR, dFrz, dCall, dCallK, dMeth, dMake, dFor, dIL, dIT, dIR1, dIR2, dIE, dIZ, wipeD, dYes, dLc, dDic0, updM_same, cxOf, asBl_bl, asInt_int, asTup_tup, isN, w_test, w_chain, w_andV, w_orV, w_notV, w_neg, w_sub, w_div, w_mod, w_pow, w_shl, w_shr, w_and, w_or, w_xor, w_lt, w_le, w_gt, w_ge, w_add, w_addS, w_addT, w_addL, w_addF, w_addR, w_mul, w_mulL, w_eq, w_ne, w_isN, w_isB, w_isntN, w_isntB, w_ix, w_isi, w_abs, w_max2, w_min2, w_max1L, w_min1L, w_sum, w_all, w_any, w_len, w_int, w_intB, w_divmod, w_sorted, w_list, w_bits, w_sl, w_slL, w_slF, w_slR, w_slT, w_newF, w_newT, w_eqL, w_eqT, w_eqR, w_neL, w_neT, w_neR, w_dgT, w_derL, w_derT, w_derB, w_derI, w_derN, w_derS, w_eqSS, w_eqBB, w_neSS, w_neBB, w_eqBI, w_eqIN, w_neIN, w_eqNI, w_neNI, w_eqNN, w_neNN, w_NN, w_NI, w_IN])
    refine ⟨lit_len (n := 4) (by decide), b, s, _, .eq, _, 0, rfl, hb, hx, hx, h0, fun r hr => ?_⟩
    rw [first_uniq hr heq0]
    simp only [optD]
    (try simp only [dgU, w_lrg, dCut, dDGet, dDGet1, dDGet2, dDPut, dPairs, w_disp, w_newDF, w_newDT, dec_self, List.map_cons, List.map_nil, eqD_bl, eqD_int, eqD_str, eqD_tup, eqD_lst, eqDs_nil, eqDs_nc, eqDs_cn, eqDs_cons, reduceIte, Bool.false_eq_true, Bool.not_true, Bool.not_false, decide_true, decide_false, dVar, atD, setD, startD, dC, dOp, dAnd, dOr, dNot, dIf, dUn, dNil, dCons, dTup, dLst, rInD, rNotInD, dNoPart, dPart, dRev, dFld, DL.fieldsOf, dCB, dNext, dSeq, dBreak, dCont, dDrop, dRet, dRetN, dIfS, dNever, dgN, dgNil, dgCons, dgSub, dAsg, dPar, dPar3, putD, dSetF, dMt, rAppendD, rPopD, rExtendD, lsT, lsR, lsF, itemsR, dFrz, dCall, dCallK, dMeth, dMake, dFor, dIL, dIT, dIR1, dIR2, dIE, dIZ, wipeD, dYes, dLc, dDic0, updM_same, cxOf, asBl_bl, asInt_int, asTup_tup, isN, w_test, w_chain, w_andV, w_orV, w_notV, w_neg, w_sub, w_div, w_mod, w_pow, w_shl, w_shr, w_and, w_or, w_xor, w_lt, w_le, w_gt, w_ge, w_add, w_addS, w_addT, w_addL, w_addF, w_addR, w_mul, w_mulL, w_eq, w_ne, w_isN, w_isB, w_isntN, w_isntB, w_ix, w_isi, w_abs, w_max2, w_min2, w_max1L, w_min1L, w_sum, w_all, w_any, w_len, w_int, w_intB, w_divmod, w_sorted, w_list, w_bits, w_sl, w_slL, w_slF, w_slR, w_slT, w_newF, w_newT, w_eqL, w_eqT, w_eqR, w_neL, w_neT, w_neR, w_dgT, w_derL, w_derT, w_derB, w_derI, w_derN, w_derS, w_eqSS, w_eqBB, w_neSS, w_neBB, w_eqBI, w_eqIN, w_neIN, w_eqNI, w_neNI, w_eqNN, w_neNN, w_NN, w_NI, w_IN])
    refine ⟨lit_len (n := 4) (by decide), b, s, _, .eq, _, c, rfl, hb, hx, hx, hc, fun r hr => ?_⟩
    rw [first_uniq hr heq1]
    simp only [optD]
    (try simp only [dgU, w_lrg, dCut, dDGet, dDGet1, dDGet2, dDPut, dPairs, w_disp, w_newDF, w_newDT, dec_self, List.map_cons, List.map_nil, eqD_bl, eqD_int, eqD_str, eqD_tup, eqD_lst, eqDs_nil, eqDs_nc, eqDs_cn, eqDs_cons, reduceIte, Bool.false_eq_true, Bool.not_true, Bool.not_false, decide_true, decide_false, dVar, atD, setD, startD, dC, dOp, dAnd, dOr, dNot, dIf, dUn, dNil, dCons, dTup, dLst, rInD, rNotInD, dNoPart, dPart, dRev, dFld, DL.fieldsOf, dCB, dNext, dSeq, dBreak, dCont, dDrop, dRet, dRetN, dIfS, dNever, dgN, dgNil, dgCons, dgSub, dAsg, dPar, dPar3, putD, dSetF, dMt, rAppendD, rPopD, rExtendD, lsT, lsR, lsF, itemsR, dFrz, dCall, dCallK, dMeth, dMake, dFor, dIL, dIT, dIR1, dIR2, dIE, dIZ, wipeD, dYes, dLc, dDic0, updM_same, cxOf, asBl_bl, asInt_int, asTup_tup, isN, w_test, w_chain, w_andV, w_orV, w_notV, w_neg, w_sub, w_div, w_mod, w_pow, w_shl, w_shr, w_and, w_or, w_xor, w_lt, w_le, w_gt, w_ge, w_add, w_addS, w_addT, w_addL, w_addF, w_addR, w_mul, w_mulL, w_eq, w_ne, w_isN, w_isB, w_isntN, w_isntB, w_ix, w_isi, w_abs, w_max2, w_min2, w_max1L, w_min1L, w_sum, w_all, w_any, w_len, w_int, w_intB, w_divmod, w_sorted, w_list, w_bits, w_sl, w_slL, w_slF, w_slR, w_slT, w_newF, w_newT, w_eqL, w_eqT, w_eqR, w_neL, w_neT, w_neR, w_dgT, w_derL, w_derT, w_derB, w_derI, w_derN, w_derS, w_eqSS, w_eqBB, w_neSS, w_neBB, w_eqBI, w_eqIN, w_neIN, w_eqNI, w_neNI, w_eqNN, w_neNN, w_NN, w_NI, w_IN])
    (first | exact ⟨rfl, rfl⟩ | exact ⟨rfl, True.intro⟩ | exact ⟨True.intro, rfl⟩ | exact ⟨True.intro, True.intro⟩)
  (try simp only [dgU, w_lrg, dCut, dDGet, dDGet1, dDGet2, dDPut, dPairs, w_disp, w_newDF, w_newDT, dec_self, List.map_cons, List.map_nil, eqD_bl, eqD_int, eqD_str, eqD_tup, eqD_lst, eqDs_nil, eqDs_nc, eqDs_cn, eqDs_cons, reduceIte, Bool.false_eq_true, Bool.not_true, Bool.not_false, decide_true, decide_false, dVar, atD, setD, startD, dC, dOp, dAnd, dOr, dNot, dIf, dUn, dNil, dCons, dTup, dLst, rInD, rNotInD, dNoPart, dPart, dRev, dFld, DL.fieldsOf, dCB, dNext, dSeq, dBreak, dCont, dDrop, dRet, dRetN, dIfS, dNever, dgN, dgNil, dgCons, dgSub, dAsg, dPar, dPar3, putD, dSetF, dMt, rAppendD, rPopD, rExtendD, lsT, lsR, lsF, itemsR, dFrz, dCall, dCallK, dMeth, dMake, dFor, dIL, dIT, dIR1, dIR2, dIE, dIZ, wipeD, dYes, dLc, dDic0, updM_same, cxOf, asBl_bl, asInt_int, asTup_tup, isN, w_test, w_chain, w_andV, w_orV, w_notV, w_neg, w_sub, w_div, w_mod, w_pow, w_shl, w_shr, w_and, w_or, w_xor, w_lt, w_le, w_gt, w_ge, w_add, w_addS, w_addT, w_addL, w_addF, w_addR, w_mul, w_mulL, w_eq, w_ne, w_isN, w_isB, w_isntN, w_isntB, w_ix, w_isi, w_abs, w_max2, w_min2, w_max1L, w_min1L, w_sum, w_all, w_any, w_len, w_int, w_intB, w_divmod, w_sorted, w_list, w_bits, w_sl, w_slL, w_slF, w_slR, w_slT, w_newF, w_newT, w_eqL, w_eqT, w_eqR, w_neL, w_neT, w_neR, w_dgT, w_derL, w_derT, w_derB, w_derI, w_derN, w_derS, w_eqSS, w_eqBB, w_neSS, w_neBB, w_eqBI, w_eqIN, w_neIN, w_eqNI, w_neNI, w_eqNN, w_neNN, w_NN, w_NI, w_IN])
  (refine stop_to ?_; (try simp only [dgU, w_lrg, dCut, dDGet, dDGet1, dDGet2, dDPut, dPairs, w_disp, w_newDF, w_newDT, dec_self, List.map_cons, List.map_nil, eqD_bl, eqD_int, eqD_str, eqD_tup, eqD_lst, eqDs_nil, eqDs_nc, eqDs_cn, eqDs_cons, reduceIte, Bool.false_eq_true, Bool.not_true, Bool.not_false, decide_true, decide_false, dVar, atD, setD, startD, dC, dOp, dAnd, dOr, dNot, dIf, dUn, dNil, dCons, dTup, dLst, rInD, rNotInD, dNoPart, dPart, dRev, dFld, DL.fieldsOf, dCB, dNext, dSeq, dBreak, dCont, dDrop, dRet, dRetN, dIfS, dNever, dgN, dgNil, dgCons, dgSub, dAsg, dPar, dPar3, putD, dSetF, dMt, rAppendD, rPopD, rExtendD, lsT, lsR, lsF, itemsR, dFrz, dCall, dCallK, dMeth, dMake, dFor, dIL, dIT, dIR1, dIR2, dIE, dIZ, wipeD, dYes, dLc, dDic0, updM_same, cxOf, asBl_bl, asInt_int, asTup_tup, isN, w_test, w_chain, w_andV, w_orV, w_notV, w_neg, w_sub, w_div, w_mod, w_pow, w_shl, w_shr, w_and, w_or, w_xor, w_lt, w_le, w_gt, w_ge, w_add, w_addS, w_addT, w_addL, w_addF, w_addR, w_mul, w_mulL, w_eq, w_ne, w_isN, w_isB, w_isntN, w_isntB, w_ix, w_isi, w_abs, w_max2, w_min2, w_max1L, w_min1L, w_sum, w_all, w_any, w_len, w_int, w_intB, w_divmod, w_sorted, w_list, w_bits, w_sl, w_slL, w_slF, w_slR, w_slT, w_newF, w_newT, w_eqL, w_eqT, w_eqR, w_neL, w_neT, w_neR, w_dgT, w_derL, w_derT, w_derB, w_derI, w_derN, w_derS, w_eqSS, w_eqBB, w_neSS, w_neBB, w_eqBI, w_eqIN, w_neIN, w_eqNI, w_neNI, w_eqNN, w_neNN, w_NN, w_NI, w_IN]))
  refine ⟨⟨by decide, by decide +kernel⟩, a, _, rfl, hs.src, by decide +kernel, by decide +kernel, fun n M5 n0 n1 hs5 => ?_⟩
  have hs := hs.trans hs5
  clear hs5
  obtain ⟨n, rfl⟩ := Int.eq_ofNat_of_zero_le n0
  have hn : n < 2 ^ 200 := by
    have : (10 : Int) ^ (Int.toNat 60) < 2 ^ 200 := by decide +kernel
    omega
  (try simp only [dgU, w_lrg, dCut, dDGet, dDGet1, dDGet2, dDPut, dPairs, w_disp, w_newDF, w_newDT, dec_self, List.map_cons, List.map_nil, eqD_bl, eqD_int, eqD_str, eqD_tup, eqD_lst, eqDs_nil, eqDs_nc, eqDs_cn, eqDs_cons, reduceIte, Bool.false_eq_true, Bool.not_true, Bool.not_false, decide_true, decide_false, dVar, atD, setD, startD, dC, dOp, dAnd, dOr, dNot, dIf, dUn, dNil, dCons, dTup, dLst, rInD, rNotInD, dNoPart, dPart, dRev, dFld, DL.fieldsOf, dCB, dNext, dSeq, dBreak, dCont, dDrop, dRet, dRetN, dIfS, dNever, dgN, dgNil, dgCons, dgSub, dAsg, dPar, dPar3, putD, dSetF, dMt, rAppendD, rPopD, rExtendD, lsT, lsR, lsF, itemsR, dFrz, dCall, dCallK, dMeth, dMake, dFor, dIL, dIT, dIR1, dIR2, dIE, dIZ, wipeD, dYes, dLc, dDic0, updM_same, cxOf, asBl_bl, asInt_int, asTup_tup, isN, w_test, w_chain, w_andV, w_orV, w_notV, w_neg, w_sub, w_div, w_mod, w_pow, w_shl, w_shr, w_and, w_or, w_xor, w_lt, w_le, w_gt, w_ge, w_add, w_addS, w_addT, w_addL, w_addF, w_addR, w_mul, w_mulL, w_eq, w_ne, w_isN, w_isB, w_isntN, w_isntB, w_ix, w_isi, w_abs, w_max2, w_min2, w_max1L, w_min1L, w_sum, w_all, w_any, w_len, w_int, w_intB, w_divmod, w_sorted, w_list, w_bits, w_sl, w_slL, w_slF, w_slR, w_slT, w_newF, w_newT, w_eqL, w_eqT, w_eqR, w_neL, w_neT, w_neR, w_dgT, w_derL, w_derT, w_derB, w_derI, w_derN, w_derS, w_eqSS, w_eqBB, w_neSS, w_neBB, w_eqBI, w_eqIN, w_neIN, w_eqNI, w_neNI, w_eqNN, w_neNN, w_NN, w_NI, w_IN])
  refine ⟨lit_len (n := 4) (by decide), b, s, _, .le, _, c, n, rfl, hb, hx, htop, hc, Nat.lt_trans hn (by decide +kernel), fun k hk => ?_, ?_⟩
  · have := first_uniq hk (hle x c hc)
    cases this
  refine ⟨mulOk_b (m := 200) (n := 200) (by omega) (in_small hb hc) (by decide) (by decide), divOk_b hp hbig, ?_⟩
  rw [fdivP hp]
  rw [← abs_nat]
  unfold absZ
  (try simp only [dgU, w_lrg, dCut, dDGet, dDGet1, dDGet2, dDPut, dPairs, w_disp, w_newDF, w_newDT, dec_self, List.map_cons, List.map_nil, eqD_bl, eqD_int, eqD_str, eqD_tup, eqD_lst, eqDs_nil, eqDs_nc, eqDs_cn, eqDs_cons, reduceIte, Bool.false_eq_true, Bool.not_true, Bool.not_false, decide_true, decide_false, dVar, atD, setD, startD, dC, dOp, dAnd, dOr, dNot, dIf, dUn, dNil, dCons, dTup, dLst, rInD, rNotInD, dNoPart, dPart, dRev, dFld, DL.fieldsOf, dCB, dNext, dSeq, dBreak, dCont, dDrop, dRet, dRetN, dIfS, dNever, dgN, dgNil, dgCons, dgSub, dAsg, dPar, dPar3, putD, dSetF, dMt, rAppendD, rPopD, rExtendD, lsT, lsR, lsF, itemsR, dFrz, dCall, dCallK, dMeth, dMake, dFor, dIL, dIT, dIR1, dIR2, dIE, dIZ, wipeD, dYes, dLc, dDic0, updM_same, cxOf, asBl_bl, asInt_int, asTup_tup, isN, w_test, w_chain, w_andV, w_orV, w_notV, w_neg, w_sub, w_div, w_mod, w_pow, w_shl, w_shr, w_and, w_or, w_xor, w_lt, w_le, w_gt, w_ge, w_add, w_addS, w_addT, w_addL, w_addF, w_addR, w_mul, w_mulL, w_eq, w_ne, w_isN, w_isB, w_isntN, w_isntB, w_ix, w_isi, w_abs, w_max2, w_min2, w_max1L, w_min1L, w_sum, w_all, w_any, w_len, w_int, w_intB, w_divmod, w_sorted, w_list, w_bits, w_sl, w_slL, w_slF, w_slR, w_slT, w_newF, w_newT, w_eqL, w_eqT, w_eqR, w_neL, w_neT, w_neR, w_dgT, w_derL, w_derT, w_derB, w_derI, w_derN, w_derS, w_eqSS, w_eqBB, w_neSS, w_neBB, w_eqBI, w_eqIN, w_neIN, w_eqNI, w_neNI, w_eqNN, w_neNN, w_NN, w_NI, w_IN])
  exact endD_of (hQ _ hs)
theorem hits_cnt {a b m lo hi : Int} : ∀ n : Nat, hits a b m lo hi n = cntP (fun i => lo ≤ (a * (i : Nat) + b) % m ∧ (a * (i : Nat) + b) % m ≤ hi) n
  | 0 => rfl
  | n + 1 => by
    show hits a b m lo hi n + _ = cntP _ n + _
    rw [hits_cnt n]
    congr 1
    by_cases g : lo ≤ (a * (n : Nat) + b) % m ∧ (a * (n : Nat) + b) % m ≤ hi
    · rw [if_pos g, if_pos g]
    · rw [if_neg g, if_neg g]
/-- an odd step meets each value once a turn -/
theorem hits_one {b : Nat} {c a v : Int} (hc : c % 2 = 1) (h0 : 0 ≤ v) (h1 : v < 2 ^ b) : hits c a (2 ^ b) v v (2 ^ b) = 1 := by
  have hp := two_pos b
  have hN : ((2 ^ b : Nat) : Int) = 2 ^ b := by simp
  obtain ⟨n, hn⟩ := (reach (b := b) (t := 0) (c := c) (i := a) (v := v) (twos_zero hc) ⟨h0, h1⟩).mpr ⟨v - a, by simp⟩
  have hm : (c * ((n % 2 ^ b : Nat) : Int) + a) % 2 ^ b = v := by
    rw [← hn]
    refine mod_congr ?_
    rw [Int.natCast_emod, hN]
    obtain ⟨z, hz⟩ := mod_cong (2 ^ b) (n : Int)
    exact ⟨c * z, by grind⟩
  have hlt : n % 2 ^ b < 2 ^ b := Nat.mod_lt _ (Nat.two_pow_pos b)
  rw [hits_cnt, cnt_eq (j := n % 2 ^ b), if_pos hlt]
  intro i hi
  constructor
  · intro h
    have e : (c * (i : Nat) + a) % 2 ^ b = (c * ((n % 2 ^ b : Nat) : Int) + a) % 2 ^ b := by omega
    obtain ⟨z, hz⟩ := dvd_of_mod e
    have d := odd_once (b := b) hc (i := (i : Nat)) (j := ((n % 2 ^ b : Nat) : Int)) ⟨z, by omega⟩
    have := mod_uniq hp (a := (i : Nat)) (b := ((n % 2 ^ b : Nat) : Int)) ⟨by omega, by omega⟩ ⟨by omega, by omega⟩ d
    omega
  · intro h
    rw [h, hm]
    omega
theorem hits_turn {b : Nat} {c a lo : Int} (hc : c % 2 = 1) (h0 : 0 ≤ lo) : ∀ d : Nat, lo + d ≤ 2 ^ b → hits c a (2 ^ b) lo (lo + d - 1) (2 ^ b) = d
  | 0, _ => hits_none (by omega) _
  | d + 1, h => by
    rw [hits_parts (mid := lo + d - 1) (by omega) (by omega), hits_turn hc h0 d (by omega), show lo + d - 1 + 1 = lo + d by omega, show lo + ((d + 1 : Nat) : Int) - 1 = lo + d by omega, hits_one hc (by omega) (by omega)]
    rfl
theorem ok__law_endless_right (T : Txt K mg C_Kind) (F__law_put : FnD P w K mg base 1 "_law_put" s__law_put ["_law_n", "_law_low", "_law_size"] (sp_put)) (F__law_value : FnD P w K mg base 3 "_law_value" s__law_value ["_law_source", "_law_low", "_law_size"] (sp_value)) (F__law_next : FnD P w K mg base 1 "_law_next" s__law_next ["_law_source", "_law_many"] (sp_next)) (F__law_wide : FnD P w K mg base 2 "_law_wide" s__law_wide ["_law_source", "_law_m"] (sp_wide)) (F_rounds_within : FnD P w K mg base 145 "rounds_within" s_rounds_within ["kind", "loop", "low", "high", "n"] (sp_rwithin C_Kind)) (F_endless_starts : FnD P w K mg base 5 "endless_starts" s_endless_starts ["kind", "word", "b", "c"] (sp_endless C_Kind)) (F_Kind_parts : MtdD P w K mg base 1 C_Kind "parts" s_Kind_parts ["self"] (sp_parts C_Kind)) : FnD P w K mg base 146 "_law_endless_right" s__law_endless_right ["_law_source", "_law_kind", "_law_low", "_law_size"] (sp_lpart C_Kind) := by
  refine fn_mk T.h__law_endless_right sc__law_endless_right 16 rfl (by intro ds M Q h; first | (obtain ⟨rfl, _⟩ := h; rfl) | (obtain ⟨_, rfl, _⟩ := h; rfl) | (obtain ⟨_, _, rfl, _⟩ := h; rfl) | (obtain ⟨_, _, _, rfl, _⟩ := h; rfl) | (obtain ⟨_, _, _, _, rfl, _⟩ := h; rfl) | (obtain ⟨_, _, _, _, _, rfl, _⟩ := h; rfl) | (obtain ⟨_, _, _, _, _, _, rfl, _⟩ := h; rfl) | (obtain ⟨_, _, _, _, _, _, _, rfl, _⟩ := h; rfl) | (obtain ⟨_, _, _, _, _, _, _, _, rfl, _⟩ := h; rfl) | (obtain ⟨_, _, _, _, _, _, _, _, _, rfl, _⟩ := h; rfl) | (obtain ⟨_, _, _, _, _, _, _, _, _, _, rfl, _⟩ := h; rfl) | (obtain ⟨_, _, _, _, _, _, _, _, _, _, _, rfl, _⟩ := h; rfl) | (obtain ⟨_, _, _, _, _, _, _, _, _, _, _, _, rfl, _⟩ := h; rfl)) (fun f cdv A outer s H E hr => ⟨_, (dss_stop (ds_par3 (i := 4) (j := 5) (l := 6) sc__law_endless_right.nd (da_cons (de_op od_sub (de_op (od_add false) (dv 2) (dv 3)) de_int) (da_cons (de_call F__law_value hr (da_cons (dv 0) (da_cons (dv 2) (da_cons (dv 3) da_nil)))) (da_cons (de_call F__law_value hr (da_cons (dv 0) (da_cons (dv 2) (da_cons (dv 3) da_nil)))) da_nil))))
    (dss_stop (ds_par (i := 7) (j := 8) sc__law_endless_right.nd (da_cons (de_call F__law_next hr (da_cons (dv 0) (da_cons (de_op (od_add false) (de_ix (de_meth0 F_Kind_parts T.cl_Kind hr (dv 1)) de_int) de_int) da_nil))) (da_cons (de_op (od_add false) (de_op (od_mul false) de_int (de_call F__law_wide hr (da_cons (dv 0) (da_cons (dv 3) da_nil)))) de_int) da_nil)))
    (dss_stop (ds_par (i := 9) (j := 10) sc__law_endless_right.nd (da_cons (de_call F__law_put hr (da_cons (dv 8) (da_cons (dv 2) (da_cons (dv 3) da_nil)))) (da_cons (de_call F__law_wide hr (da_cons (dv 0) (da_cons (de_op od_pow de_int de_int) da_nil))) da_nil)))
    (dss_stop (ds_asg (de_cb (cd_sorted false) (by rfl) T.b_sorted (by decide +kernel) (da_cons (de_lst false (da_cons (de_call F__law_value hr (da_cons (dv 0) (da_cons (dv 2) (da_cons (dv 3) da_nil)))) (da_cons (dv 6) da_nil))) da_nil)) (DGo.dg (vs := [11, 12]) (dgo_unl (n := 2) (dgs_cons (dgo_name (i := 11) (by decide) sc__law_endless_right.nd rfl) (dgs_cons (dgo_name (i := 12) (by decide) sc__law_endless_right.nd rfl) dgs_nil)))))
    (dss_stop (ds_if (dt_cmp (od_ne hr.units) (de_call F_rounds_within hr (da_cons (dv 1) (da_cons (de_tup (da_cons (dv 5) (da_cons de_str (da_cons (dv 4) (da_cons (dv 9) da_nil))))) (da_cons (dv 11) (da_cons (dv 12) (da_cons (de_op (od_mul false) (dv 10) (dv 3)) da_nil)))))) (de_op (od_mul false) (dv 10) (de_op (od_add false) (de_op od_sub (dv 12) (dv 11)) de_int)))
    (dss_one (ds_ret de_bl))
    dss_nil)
    (dss_stop (ds_set (i := 9) sc__law_endless_right.nd (de_call F__law_put hr (da_cons (de_op od_shl (dv 8) (dv 7)) (da_cons (dv 2) (da_cons (dv 3) da_nil)))))
    (dss_stop (ds_set (i := 13) sc__law_endless_right.nd (de_lst false (da_cons (de_tup (da_cons de_str (da_cons (de_op (od_add false) (de_op od_sub (dv 4) (dv 6)) de_int) da_nil))) (da_cons (de_tup (da_cons de_str (da_cons (de_op od_sub (dv 4) (dv 6)) da_nil))) (da_cons (de_tup (da_cons de_str (da_cons (de_op (od_add false) (de_op od_sub (dv 6) (dv 2)) de_int) da_nil))) (da_cons (de_tup (da_cons de_str (da_cons (de_op od_sub (dv 6) (dv 2)) da_nil))) da_nil))))))
    (dss_stop (ds_for (di_lst (dv 13)) (DGo.dg (vs := [14, 15]) (dgo_tup (n := 2) (dgs_cons (dgo_name (i := 14) (by decide) sc__law_endless_right.nd rfl) (dgs_cons (dgo_name (i := 15) (by decide) sc__law_endless_right.nd rfl) dgs_nil))))
    (dss_one (ds_if (dt_cmp (od_ne hr.units) (de_call F_endless_starts hr (da_cons (dv 1) (da_cons (dv 14) (da_cons (dv 6) (da_cons (dv 9) da_nil))))) (de_op (od_mul false) (de_cb (cd_max rfl) (by rfl) T.b_max (by decide +kernel) (da_cons de_int (da_cons (de_op od_sub (de_op od_shl de_int (dv 7)) (dv 15)) da_nil))) (de_op od_shr (dv 3) (dv 7))))
    (dss_one (ds_ret de_bl))
    dss_nil)))
    (dss_one (ds_ret (de_cmp (od_eq hr.units) (de_call F_endless_starts hr (da_cons (dv 1) (da_cons de_str (da_cons (dv 6) (da_cons (dv 9) da_nil))))) (de_ct cd_int (by rfl) T.b_int (by decide +kernel) (da_cons (de_cmp (od_eq hr.units) (dv 7) (de_ix (de_meth0 F_Kind_parts T.cl_Kind hr (dv 1)) de_int)) da_nil))))))))))))), ?_⟩)
  rintro ds M Q ⟨a, b, s, rfl, hM, hb, hQ⟩
  have hp := two_pos b
  have h22 := two_succ hb.1
  have hp2 := two_pos (b - 1)
  have lh := low_half b s hb.1
  have hbig : (2 : Int) ^ b < 2 ^ 9000 := Int.lt_trans (small_bits hb) (by decide +kernel)
  have hlow : InK b s (lowZ b s) := ⟨by omega, by omega⟩
  have htop : InK b s (lowZ b s + 2 ^ b - 1) := ⟨by omega, by omega⟩
  have hle : ∀ (x c : Int), InK b s c → FirstR b s x .le (lowZ b s + 2 ^ b - 1) c none := fun x c hc n h => by
    have h : decide (valZ b s x c n ≤ lowZ b s + 2 ^ b - 1) = false := h
    have h2 : valZ b s x c n < lowZ b s + 2 ^ b := (placed_inK b s (x + (n : Nat) * c)).2
    have := of_decide_eq_false h
    omega
  (refine stop_to ?_; (try simp only [dgU, w_lrg, dCut, dDGet, dDGet1, dDGet2, dDPut, dPairs, w_disp, w_newDF, w_newDT, dec_self, List.map_cons, List.map_nil, eqD_bl, eqD_int, eqD_str, eqD_tup, eqD_lst, eqDs_nil, eqDs_nc, eqDs_cn, eqDs_cons, reduceIte, Bool.false_eq_true, Bool.not_true, Bool.not_false, decide_true, decide_false, dVar, atD, setD, startD, dC, dOp, dAnd, dOr, dNot, dIf, dUn, dNil, dCons, dTup, dLst, rInD, rNotInD, dNoPart, dPart, dRev, dFld, DL.fieldsOf, dCB, dNext, dSeq, dBreak, dCont, dDrop, dRet, dRetN, dIfS, dNever, dgN, dgNil, dgCons, dgSub, dAsg, dPar, dPar3, putD, dSetF, dMt, rAppendD, rPopD, rExtendD, lsT, lsR, lsF, itemsR, dFrz, dCall, dCallK, dMeth, dMake, dFor, dIL, dIT, dIR1, dIR2, dIE, dIZ, wipeD, dYes, dLc, dDic0, updM_same, cxOf, asBl_bl, asInt_int, asTup_tup, isN, w_test, w_chain, w_andV, w_orV, w_notV, w_neg, w_sub, w_div, w_mod, w_pow, w_shl, w_shr, w_and, w_or, w_xor, w_lt, w_le, w_gt, w_ge, w_add, w_addS, w_addT, w_addL, w_addF, w_addR, w_mul, w_mulL, w_eq, w_ne, w_isN, w_isB, w_isntN, w_isntB, w_ix, w_isi, w_abs, w_max2, w_min2, w_max1L, w_min1L, w_sum, w_all, w_any, w_len, w_int, w_intB, w_divmod, w_sorted, w_list, w_bits, w_sl, w_slL, w_slF, w_slR, w_slT, w_newF, w_newT, w_eqL, w_eqT, w_eqR, w_neL, w_neT, w_neR, w_dgT, w_derL, w_derT, w_derB, w_derI, w_derN, w_derS, w_eqSS, w_eqBB, w_neSS, w_neBB, w_eqBI, w_eqIN, w_neIN, w_eqNI, w_neNI, w_eqNN, w_neNN, w_NN, w_NI, w_IN]))
  refine ⟨a, _, _, rfl, hM, hp, hbig, fun x M1 x0 x1 hs1 => ?_⟩
  refine ⟨a, _, _, rfl, hs1.src, hp, hbig, fun u M2 u0 u1 hs2 => ?_⟩
  have hs := hs1.trans hs2
  clear hs1 hs2
  have hx : InK b s x := ⟨x0, x1⟩
  have hu : InK b s u := ⟨u0, u1⟩
  (try simp only [dgU, w_lrg, dCut, dDGet, dDGet1, dDGet2, dDPut, dPairs, w_disp, w_newDF, w_newDT, dec_self, List.map_cons, List.map_nil, eqD_bl, eqD_int, eqD_str, eqD_tup, eqD_lst, eqDs_nil, eqDs_nc, eqDs_cn, eqDs_cons, reduceIte, Bool.false_eq_true, Bool.not_true, Bool.not_false, decide_true, decide_false, dVar, atD, setD, startD, dC, dOp, dAnd, dOr, dNot, dIf, dUn, dNil, dCons, dTup, dLst, rInD, rNotInD, dNoPart, dPart, dRev, dFld, DL.fieldsOf, dCB, dNext, dSeq, dBreak, dCont, dDrop, dRet, dRetN, dIfS, dNever, dgN, dgNil, dgCons, dgSub, dAsg, dPar, dPar3, putD, dSetF, dMt, rAppendD, rPopD, rExtendD, lsT, lsR, lsF, itemsR, dFrz, dCall, dCallK, dMeth, dMake, dFor, dIL, dIT, dIR1, dIR2, dIE, dIZ, wipeD, dYes, dLc, dDic0, updM_same, cxOf, asBl_bl, asInt_int, asTup_tup, isN, w_test, w_chain, w_andV, w_orV, w_notV, w_neg, w_sub, w_div, w_mod, w_pow, w_shl, w_shr, w_and, w_or, w_xor, w_lt, w_le, w_gt, w_ge, w_add, w_addS, w_addT, w_addL, w_addF, w_addR, w_mul, w_mulL, w_eq, w_ne, w_isN, w_isB, w_isntN, w_isntB, w_ix, w_isi, w_abs, w_max2, w_min2, w_max1L, w_min1L, w_sum, w_all, w_any, w_len, w_int, w_intB, w_divmod, w_sorted, w_list, w_bits, w_sl, w_slL, w_slF, w_slR, w_slT, w_newF, w_newT, w_eqL, w_eqT, w_eqR, w_neL, w_neT, w_neR, w_dgT, w_derL, w_derT, w_derB, w_derI, w_derN, w_derS, w_eqSS, w_eqBB, w_neSS, w_neBB, w_eqBI, w_eqIN, w_neIN, w_eqNI, w_neNI, w_eqNN, w_neNN, w_NN, w_NI, w_IN])
  (refine stop_to ?_; (try simp only [dgU, w_lrg, dCut, dDGet, dDGet1, dDGet2, dDPut, dPairs, w_disp, w_newDF, w_newDT, dec_self, List.map_cons, List.map_nil, eqD_bl, eqD_int, eqD_str, eqD_tup, eqD_lst, eqDs_nil, eqDs_nc, eqDs_cn, eqDs_cons, reduceIte, Bool.false_eq_true, Bool.not_true, Bool.not_false, decide_true, decide_false, dVar, atD, setD, startD, dC, dOp, dAnd, dOr, dNot, dIf, dUn, dNil, dCons, dTup, dLst, rInD, rNotInD, dNoPart, dPart, dRev, dFld, DL.fieldsOf, dCB, dNext, dSeq, dBreak, dCont, dDrop, dRet, dRetN, dIfS, dNever, dgN, dgNil, dgCons, dgSub, dAsg, dPar, dPar3, putD, dSetF, dMt, rAppendD, rPopD, rExtendD, lsT, lsR, lsF, itemsR, dFrz, dCall, dCallK, dMeth, dMake, dFor, dIL, dIT, dIR1, dIR2, dIE, dIZ, wipeD, dYes, dLc, dDic0, updM_same, cxOf, asBl_bl, asInt_int, asTup_tup, isN, w_test, w_chain, w_andV, w_orV, w_notV, w_neg, w_sub, w_div, w_mod, w_pow, w_shl, w_shr, w_and, w_or, w_xor, w_lt, w_le, w_gt, w_ge, w_add, w_addS, w_addT, w_addL, w_addF, w_addR, w_mul, w_mulL, w_eq, w_ne, w_isN, w_isB, w_isntN, w_isntB, w_ix, w_isi, w_abs, w_max2, w_min2, w_max1L, w_min1L, w_sum, w_all, w_any, w_len, w_int, w_intB, w_divmod, w_sorted, w_list, w_bits, w_sl, w_slL, w_slF, w_slR, w_slT, w_newF, w_newT, w_eqL, w_eqT, w_eqR, w_neL, w_neT, w_neR, w_dgT, w_derL, w_derT, w_derB, w_derI, w_derN, w_derS, w_eqSS, w_eqBB, w_neSS, w_neBB, w_eqBI, w_eqIN, w_neIN, w_eqNI, w_neNI, w_eqNN, w_neNN, w_NN, w_NI, w_IN]))
  refine ⟨⟨_, rfl, by rfl⟩, b, s, rfl, _, _, rfl, atI_nat (j := 0) rfl, ?_⟩
  (try simp only [dgU, w_lrg, dCut, dDGet, dDGet1, dDGet2, dDPut, dPairs, w_disp, w_newDF, w_newDT, dec_self, List.map_cons, List.map_nil, eqD_bl, eqD_int, eqD_str, eqD_tup, eqD_lst, eqDs_nil, eqDs_nc, eqDs_cn, eqDs_cons, reduceIte, Bool.false_eq_true, Bool.not_true, Bool.not_false, decide_true, decide_false, dVar, atD, setD, startD, dC, dOp, dAnd, dOr, dNot, dIf, dUn, dNil, dCons, dTup, dLst, rInD, rNotInD, dNoPart, dPart, dRev, dFld, DL.fieldsOf, dCB, dNext, dSeq, dBreak, dCont, dDrop, dRet, dRetN, dIfS, dNever, dgN, dgNil, dgCons, dgSub, dAsg, dPar, dPar3, putD, dSetF, dMt, rAppendD, rPopD, rExtendD, lsT, lsR, lsF, itemsR, dFrz, dCall, dCallK, dMeth, dMake, dFor, dIL, dIT, dIR1, dIR2, dIE, dIZ, wipeD, dYes, dLc, dDic0, updM_same, cxOf, asBl_bl, asInt_int, asTup_tup, isN, w_test, w_chain, w_andV, w_orV, w_notV, w_neg, w_sub, w_div, w_mod, w_pow, w_shl, w_shr, w_and, w_or, w_xor, w_lt, w_le, w_gt, w_ge, w_add, w_addS, w_addT, w_addL, w_addF, w_addR, w_mul, w_mulL, w_eq, w_ne, w_isN, w_isB, w_isntN, w_isntB, w_ix, w_isi, w_abs, w_max2, w_min2, w_max1L, w_min1L, w_sum, w_all, w_any, w_len, w_int, w_intB, w_divmod, w_sorted, w_list, w_bits, w_sl, w_slL, w_slF, w_slR, w_slT, w_newF, w_newT, w_eqL, w_eqT, w_eqR, w_neL, w_neT, w_neR, w_dgT, w_derL, w_derT, w_derB, w_derI, w_derN, w_derS, w_eqSS, w_eqBB, w_neSS, w_neBB, w_eqBI, w_eqIN, w_neIN, w_eqNI, w_neNI, w_eqNN, w_neNN, w_NN, w_NI, w_IN])
  refine ⟨a, _, rfl, hs.src, by omega, Int.lt_of_le_of_lt (show (b : Int) + 1 ≤ 2 ^ 8 by have := hb.2; omega) (by decide +kernel), fun k M3 k0 k1 hs3 => ?_⟩
  have hs := hs.trans hs3
  clear hs3
  obtain ⟨k, rfl⟩ := Int.eq_ofNat_of_zero_le k0
  have hkb : k ≤ b := by omega
  refine ⟨a, _, rfl, hs.src, hp, hbig, fun t M4 t0 t1 hs4 => ?_⟩
  have hs := hs.trans hs4
  clear hs4
  (try simp only [dgU, w_lrg, dCut, dDGet, dDGet1, dDGet2, dDPut, dPairs, w_disp, w_newDF, w_newDT, dec_self, List.map_cons, List.map_nil, eqD_bl, eqD_int, eqD_str, eqD_tup, eqD_lst, eqDs_nil, eqDs_nc, eqDs_cn, eqDs_cons, reduceIte, Bool.false_eq_true, Bool.not_true, Bool.not_false, decide_true, decide_false, dVar, atD, setD, startD, dC, dOp, dAnd, dOr, dNot, dIf, dUn, dNil, dCons, dTup, dLst, rInD, rNotInD, dNoPart, dPart, dRev, dFld, DL.fieldsOf, dCB, dNext, dSeq, dBreak, dCont, dDrop, dRet, dRetN, dIfS, dNever, dgN, dgNil, dgCons, dgSub, dAsg, dPar, dPar3, putD, dSetF, dMt, rAppendD, rPopD, rExtendD, lsT, lsR, lsF, itemsR, dFrz, dCall, dCallK, dMeth, dMake, dFor, dIL, dIT, dIR1, dIR2, dIE, dIZ, wipeD, dYes, dLc, dDic0, updM_same, cxOf, asBl_bl, asInt_int, asTup_tup, isN, w_test, w_chain, w_andV, w_orV, w_notV, w_neg, w_sub, w_div, w_mod, w_pow, w_shl, w_shr, w_and, w_or, w_xor, w_lt, w_le, w_gt, w_ge, w_add, w_addS, w_addT, w_addL, w_addF, w_addR, w_mul, w_mulL, w_eq, w_ne, w_isN, w_isB, w_isntN, w_isntB, w_ix, w_isi, w_abs, w_max2, w_min2, w_max1L, w_min1L, w_sum, w_all, w_any, w_len, w_int, w_intB, w_divmod, w_sorted, w_list, w_bits, w_sl, w_slL, w_slF, w_slR, w_slT, w_newF, w_newT, w_eqL, w_eqT, w_eqR, w_neL, w_neT, w_neR, w_dgT, w_derL, w_derT, w_derB, w_derI, w_derN, w_derS, w_eqSS, w_eqBB, w_neSS, w_neBB, w_eqBI, w_eqIN, w_neIN, w_eqNI, w_neNI, w_eqNN, w_neNN, w_NN, w_NI, w_IN])
  refine ⟨mulOk_l (by decide), ?_⟩
  (refine stop_to ?_; (try simp only [dgU, w_lrg, dCut, dDGet, dDGet1, dDGet2, dDPut, dPairs, w_disp, w_newDF, w_newDT, dec_self, List.map_cons, List.map_nil, eqD_bl, eqD_int, eqD_str, eqD_tup, eqD_lst, eqDs_nil, eqDs_nc, eqDs_cn, eqDs_cons, reduceIte, Bool.false_eq_true, Bool.not_true, Bool.not_false, decide_true, decide_false, dVar, atD, setD, startD, dC, dOp, dAnd, dOr, dNot, dIf, dUn, dNil, dCons, dTup, dLst, rInD, rNotInD, dNoPart, dPart, dRev, dFld, DL.fieldsOf, dCB, dNext, dSeq, dBreak, dCont, dDrop, dRet, dRetN, dIfS, dNever, dgN, dgNil, dgCons, dgSub, dAsg, dPar, dPar3, putD, dSetF, dMt, rAppendD, rPopD, rExtendD, lsT, lsR, lsF, itemsR, dFrz, dCall, dCallK, dMeth, dMake, dFor, dIL, dIT, dIR1, dIR2, dIE, dIZ, wipeD, dYes, dLc, dDic0, updM_same, cxOf, asBl_bl, asInt_int, asTup_tup, isN, w_test, w_chain, w_andV, w_orV, w_notV, w_neg, w_sub, w_div, w_mod, w_pow, w_shl, w_shr, w_and, w_or, w_xor, w_lt, w_le, w_gt, w_ge, w_add, w_addS, w_addT, w_addL, w_addF, w_addR, w_mul, w_mulL, w_eq, w_ne, w_isN, w_isB, w_isntN, w_isntB, w_ix, w_isi, w_abs, w_max2, w_min2, w_max1L, w_min1L, w_sum, w_all, w_any, w_len, w_int, w_intB, w_divmod, w_sorted, w_list, w_bits, w_sl, w_slL, w_slF, w_slR, w_slT, w_newF, w_newT, w_eqL, w_eqT, w_eqR, w_neL, w_neT, w_neR, w_dgT, w_derL, w_derT, w_derB, w_derI, w_derN, w_derS, w_eqSS, w_eqBB, w_neSS, w_neBB, w_eqBI, w_eqIN, w_neIN, w_eqNI, w_neNI, w_eqNN, w_neNN, w_NN, w_NI, w_IN]))
  refine ⟨_, _, _, rfl, hp, ⟨by decide, by decide +kernel⟩, ?_⟩
  rw [show lowZ b s + (2 * t + 1 - lowZ b s) % 2 ^ b = placedZ b s (2 * t + 1) by rfl]
  have hodd := odd_placed (b := b) (s := s) (n := t) hb.1
  have hc := placed_inK b s (2 * t + 1)
  generalize placedZ b s (2 * t + 1) = c at hodd hc
  refine ⟨a, _, rfl, hs.src, by decide +kernel, by decide +kernel, fun n M5 n0 n1 hs5 => ?_⟩
  have hs := hs.trans hs5
  clear hs5
  obtain ⟨n, rfl⟩ := Int.eq_ofNat_of_zero_le n0
  have hn : n < 2 ^ 100 := by
    have : (10 : Int) ^ (Int.toNat 30) < 2 ^ 100 := by decide +kernel
    omega
  (try simp only [dgU, w_lrg, dCut, dDGet, dDGet1, dDGet2, dDPut, dPairs, w_disp, w_newDF, w_newDT, dec_self, List.map_cons, List.map_nil, eqD_bl, eqD_int, eqD_str, eqD_tup, eqD_lst, eqDs_nil, eqDs_nc, eqDs_cn, eqDs_cons, reduceIte, Bool.false_eq_true, Bool.not_true, Bool.not_false, decide_true, decide_false, dVar, atD, setD, startD, dC, dOp, dAnd, dOr, dNot, dIf, dUn, dNil, dCons, dTup, dLst, rInD, rNotInD, dNoPart, dPart, dRev, dFld, DL.fieldsOf, dCB, dNext, dSeq, dBreak, dCont, dDrop, dRet, dRetN, dIfS, dNever, dgN, dgNil, dgCons, dgSub, dAsg, dPar, dPar3, putD, dSetF, dMt, rAppendD, rPopD, rExtendD, lsT, lsR, lsF, itemsR, dFrz, dCall, dCallK, dMeth, dMake, dFor, dIL, dIT, dIR1, dIR2, dIE, dIZ, wipeD, dYes, dLc, dDic0, updM_same, cxOf, asBl_bl, asInt_int, asTup_tup, isN, w_test, w_chain, w_andV, w_orV, w_notV, w_neg, w_sub, w_div, w_mod, w_pow, w_shl, w_shr, w_and, w_or, w_xor, w_lt, w_le, w_gt, w_ge, w_add, w_addS, w_addT, w_addL, w_addF, w_addR, w_mul, w_mulL, w_eq, w_ne, w_isN, w_isB, w_isntN, w_isntB, w_ix, w_isi, w_abs, w_max2, w_min2, w_max1L, w_min1L, w_sum, w_all, w_any, w_len, w_int, w_intB, w_divmod, w_sorted, w_list, w_bits, w_sl, w_slL, w_slF, w_slR, w_slT, w_newF, w_newT, w_eqL, w_eqT, w_eqR, w_neL, w_neT, w_neR, w_dgT, w_derL, w_derT, w_derB, w_derI, w_derN, w_derS, w_eqSS, w_eqBB, w_neSS, w_neBB, w_eqBI, w_eqIN, w_neIN, w_eqNI, w_neNI, w_eqNN, w_neNN, w_NN, w_NI, w_IN])
  (refine stop_to ?_; (try simp only [dgU, w_lrg, dCut, dDGet, dDGet1, dDGet2, dDPut, dPairs, w_disp, w_newDF, w_newDT, dec_self, List.map_cons, List.map_nil, eqD_bl, eqD_int, eqD_str, eqD_tup, eqD_lst, eqDs_nil, eqDs_nc, eqDs_cn, eqDs_cons, reduceIte, Bool.false_eq_true, Bool.not_true, Bool.not_false, decide_true, decide_false, dVar, atD, setD, startD, dC, dOp, dAnd, dOr, dNot, dIf, dUn, dNil, dCons, dTup, dLst, rInD, rNotInD, dNoPart, dPart, dRev, dFld, DL.fieldsOf, dCB, dNext, dSeq, dBreak, dCont, dDrop, dRet, dRetN, dIfS, dNever, dgN, dgNil, dgCons, dgSub, dAsg, dPar, dPar3, putD, dSetF, dMt, rAppendD, rPopD, rExtendD, lsT, lsR, lsF, itemsR, dFrz, dCall, dCallK, dMeth, dMake, dFor, dIL, dIT, dIR1, dIR2, dIE, dIZ, wipeD, dYes, dLc, dDic0, updM_same, cxOf, asBl_bl, asInt_int, asTup_tup, isN, w_test, w_chain, w_andV, w_orV, w_notV, w_neg, w_sub, w_div, w_mod, w_pow, w_shl, w_shr, w_and, w_or, w_xor, w_lt, w_le, w_gt, w_ge, w_add, w_addS, w_addT, w_addL, w_addF, w_addR, w_mul, w_mulL, w_eq, w_ne, w_isN, w_isB, w_isntN, w_isntB, w_ix, w_isi, w_abs, w_max2, w_min2, w_max1L, w_min1L, w_sum, w_all, w_any, w_len, w_int, w_intB, w_divmod, w_sorted, w_list, w_bits, w_sl, w_slL, w_slF, w_slR, w_slT, w_newF, w_newT, w_eqL, w_eqT, w_eqR, w_neL, w_neT, w_neR, w_dgT, w_derL, w_derT, w_derB, w_derI, w_derN, w_derS, w_eqSS, w_eqBB, w_neSS, w_neBB, w_eqBI, w_eqIN, w_neIN, w_eqNI, w_neNI, w_eqNN, w_neNN, w_NN, w_NI, w_IN]))
  refine ⟨a, _, _, rfl, hs.src, hp, hbig, fun y M6 y0 y1 hs6 => ?_⟩
  have hs := hs.trans hs6
  clear hs6
  refine ⟨lit_len (n := 2) (by decide), [y, u], rfl, fun ns g1 g2 => ?_⟩
  obtain ⟨lo, hi, rfl, hlh, hor⟩ := two_sorted g1 g2
  have hlo : InK b s lo := by
    rcases hor with ⟨rfl, rfl⟩ | ⟨rfl, rfl⟩
    · exact ⟨y0, y1⟩
    · exact hu
  have hhi : InK b s hi := by
    rcases hor with ⟨rfl, rfl⟩ | ⟨rfl, rfl⟩
    · exact hu
    · exact ⟨y0, y1⟩
  clear hor
  refine ⟨_, rfl, rfl, ?_⟩
  (try simp only [dgU, w_lrg, dCut, dDGet, dDGet1, dDGet2, dDPut, dPairs, w_disp, w_newDF, w_newDT, dec_self, List.map_cons, List.map_nil, eqD_bl, eqD_int, eqD_str, eqD_tup, eqD_lst, eqDs_nil, eqDs_nc, eqDs_cn, eqDs_cons, reduceIte, Bool.false_eq_true, Bool.not_true, Bool.not_false, decide_true, decide_false, dVar, atD, setD, startD, dC, dOp, dAnd, dOr, dNot, dIf, dUn, dNil, dCons, dTup, dLst, rInD, rNotInD, dNoPart, dPart, dRev, dFld, DL.fieldsOf, dCB, dNext, dSeq, dBreak, dCont, dDrop, dRet, dRetN, dIfS, dNever, dgN, dgNil, dgCons, dgSub, dAsg, dPar, dPar3, putD, dSetF, dMt, rAppendD, rPopD, rExtendD, lsT, lsR, lsF, itemsR, dFrz, dCall, dCallK, dMeth, dMake, dFor, dIL, dIT, dIR1, dIR2, dIE, dIZ, wipeD, dYes, dLc, dDic0, updM_same, cxOf, asBl_bl, asInt_int, asTup_tup, isN, w_test, w_chain, w_andV, w_orV, w_notV, w_neg, w_sub, w_div, w_mod, w_pow, w_shl, w_shr, w_and, w_or, w_xor, w_lt, w_le, w_gt, w_ge, w_add, w_addS, w_addT, w_addL, w_addF, w_addR, w_mul, w_mulL, w_eq, w_ne, w_isN, w_isB, w_isntN, w_isntB, w_ix, w_isi, w_abs, w_max2, w_min2, w_max1L, w_min1L, w_sum, w_all, w_any, w_len, w_int, w_intB, w_divmod, w_sorted, w_list, w_bits, w_sl, w_slL, w_slF, w_slR, w_slT, w_newF, w_newT, w_eqL, w_eqT, w_eqR, w_neL, w_neT, w_neR, w_dgT, w_derL, w_derT, w_derB, w_derI, w_derN, w_derS, w_eqSS, w_eqBB, w_neSS, w_neBB, w_eqBI, w_eqIN, w_neIN, w_eqNI, w_neNI, w_eqNN, w_neNN, w_NN, w_NI, w_IN])
  (refine stop_to ?_; (try simp only [dgU, w_lrg, dCut, dDGet, dDGet1, dDGet2, dDPut, dPairs, w_disp, w_newDF, w_newDT, dec_self, List.map_cons, List.map_nil, eqD_bl, eqD_int, eqD_str, eqD_tup, eqD_lst, eqDs_nil, eqDs_nc, eqDs_cn, eqDs_cons, reduceIte, Bool.false_eq_true, Bool.not_true, Bool.not_false, decide_true, decide_false, dVar, atD, setD, startD, dC, dOp, dAnd, dOr, dNot, dIf, dUn, dNil, dCons, dTup, dLst, rInD, rNotInD, dNoPart, dPart, dRev, dFld, DL.fieldsOf, dCB, dNext, dSeq, dBreak, dCont, dDrop, dRet, dRetN, dIfS, dNever, dgN, dgNil, dgCons, dgSub, dAsg, dPar, dPar3, putD, dSetF, dMt, rAppendD, rPopD, rExtendD, lsT, lsR, lsF, itemsR, dFrz, dCall, dCallK, dMeth, dMake, dFor, dIL, dIT, dIR1, dIR2, dIE, dIZ, wipeD, dYes, dLc, dDic0, updM_same, cxOf, asBl_bl, asInt_int, asTup_tup, isN, w_test, w_chain, w_andV, w_orV, w_notV, w_neg, w_sub, w_div, w_mod, w_pow, w_shl, w_shr, w_and, w_or, w_xor, w_lt, w_le, w_gt, w_ge, w_add, w_addS, w_addT, w_addL, w_addF, w_addR, w_mul, w_mulL, w_eq, w_ne, w_isN, w_isB, w_isntN, w_isntB, w_ix, w_isi, w_abs, w_max2, w_min2, w_max1L, w_min1L, w_sum, w_all, w_any, w_len, w_int, w_intB, w_divmod, w_sorted, w_list, w_bits, w_sl, w_slL, w_slF, w_slR, w_slT, w_newF, w_newT, w_eqL, w_eqT, w_eqR, w_neL, w_neT, w_neR, w_dgT, w_derL, w_derT, w_derB, w_derI, w_derN, w_derS, w_eqSS, w_eqBB, w_neSS, w_neBB, w_eqBI, w_eqIN, w_neIN, w_eqNI, w_neNI, w_eqNN, w_neNN, w_NN, w_NI, w_IN]))
  have hN : ((2 ^ b : Nat) : Int) = 2 ^ b := by simp
  have hb128 := small_bits hb
  have hmulT : IntMulOk (n : Int) (2 ^ b) := mulOk_b (m := 100) (n := 140) (by omega) (by omega) (by decide) (by decide)
  have hT3 : (n : Int) * 2 ^ b = ((2 ^ b * n + 0 : Nat) : Int) := by
    rw [Nat.add_zero, Int.natCast_mul, hN, Int.mul_comm]
  have hTs : 2 ^ b * n + 0 < 2 ^ 1000 := by
    have h1 : 2 ^ b ≤ 2 ^ 140 := by omega
    have h2 : 2 ^ b * n ≤ 2 ^ 140 * n := Nat.mul_le_mul_right _ h1
    have h3 : 2 ^ 140 * n ≤ 2 ^ 140 * 2 ^ 100 := Nat.mul_le_mul_left _ (by omega)
    have h4 : (2 : Nat) ^ 140 * 2 ^ 100 < 2 ^ 1000 := by decide +kernel
    omega
  refine ⟨lit_len (n := 4) (by decide), hmulT, b, s, x, .le, _, c, lo, hi, 2 ^ b * n + 0, by rw [hT3]; rfl, hb, hx, htop, hc, hlo, hhi, hTs, fun k hk => ?_, ?_⟩
  · have := first_uniq hk (hle x c hc)
    cases this
  have hh : hits c (x - lowZ b s) (2 ^ b) (lo - lowZ b s) (hi - lowZ b s) (2 ^ b * n + 0) = n * (hi - lo + 1) := by
    obtain ⟨l0, l1⟩ := hlo
    obtain ⟨g0, g1⟩ := hhi
    obtain ⟨d, hd⟩ := Int.eq_ofNat_of_zero_le (show 0 ≤ hi - lo + 1 by omega)
    rw [hits_turns hN, show hi - lowZ b s = (lo - lowZ b s) + d - 1 by omega, hits_turn hodd (by omega) d (by omega), hd]
    show (n : Int) * d + 0 = _
    omega
  rw [hh]
  have hmul4 : IntMulOk (n : Int) (hi - lo + 1) := mulOk_b (m := 100) (n := 210) (by omega) (by have := in_small hb hlo; have := in_small hb hhi; omega) (by decide) (by decide)
  (try simp only [dgU, w_lrg, dCut, dDGet, dDGet1, dDGet2, dDPut, dPairs, w_disp, w_newDF, w_newDT, dec_self, List.map_cons, List.map_nil, eqD_bl, eqD_int, eqD_str, eqD_tup, eqD_lst, eqDs_nil, eqDs_nc, eqDs_cn, eqDs_cons, reduceIte, Bool.false_eq_true, Bool.not_true, Bool.not_false, decide_true, decide_false, dVar, atD, setD, startD, dC, dOp, dAnd, dOr, dNot, dIf, dUn, dNil, dCons, dTup, dLst, rInD, rNotInD, dNoPart, dPart, dRev, dFld, DL.fieldsOf, dCB, dNext, dSeq, dBreak, dCont, dDrop, dRet, dRetN, dIfS, dNever, dgN, dgNil, dgCons, dgSub, dAsg, dPar, dPar3, putD, dSetF, dMt, rAppendD, rPopD, rExtendD, lsT, lsR, lsF, itemsR, dFrz, dCall, dCallK, dMeth, dMake, dFor, dIL, dIT, dIR1, dIR2, dIE, dIZ, wipeD, dYes, dLc, dDic0, updM_same, cxOf, asBl_bl, asInt_int, asTup_tup, isN, w_test, w_chain, w_andV, w_orV, w_notV, w_neg, w_sub, w_div, w_mod, w_pow, w_shl, w_shr, w_and, w_or, w_xor, w_lt, w_le, w_gt, w_ge, w_add, w_addS, w_addT, w_addL, w_addF, w_addR, w_mul, w_mulL, w_eq, w_ne, w_isN, w_isB, w_isntN, w_isntB, w_ix, w_isi, w_abs, w_max2, w_min2, w_max1L, w_min1L, w_sum, w_all, w_any, w_len, w_int, w_intB, w_divmod, w_sorted, w_list, w_bits, w_sl, w_slL, w_slF, w_slR, w_slT, w_newF, w_newT, w_eqL, w_eqT, w_eqR, w_neL, w_neT, w_neR, w_dgT, w_derL, w_derT, w_derB, w_derI, w_derN, w_derS, w_eqSS, w_eqBB, w_neSS, w_neBB, w_eqBI, w_eqIN, w_neIN, w_eqNI, w_neNI, w_eqNN, w_neNN, w_NN, w_NI, w_IN])
  refine ⟨hmul4, ?_⟩
  (try simp only [dgU, w_lrg, dCut, dDGet, dDGet1, dDGet2, dDPut, dPairs, w_disp, w_newDF, w_newDT, dec_self, List.map_cons, List.map_nil, eqD_bl, eqD_int, eqD_str, eqD_tup, eqD_lst, eqDs_nil, eqDs_nc, eqDs_cn, eqDs_cons, reduceIte, Bool.false_eq_true, Bool.not_true, Bool.not_false, decide_true, decide_false, dVar, atD, setD, startD, dC, dOp, dAnd, dOr, dNot, dIf, dUn, dNil, dCons, dTup, dLst, rInD, rNotInD, dNoPart, dPart, dRev, dFld, DL.fieldsOf, dCB, dNext, dSeq, dBreak, dCont, dDrop, dRet, dRetN, dIfS, dNever, dgN, dgNil, dgCons, dgSub, dAsg, dPar, dPar3, putD, dSetF, dMt, rAppendD, rPopD, rExtendD, lsT, lsR, lsF, itemsR, dFrz, dCall, dCallK, dMeth, dMake, dFor, dIL, dIT, dIR1, dIR2, dIE, dIZ, wipeD, dYes, dLc, dDic0, updM_same, cxOf, asBl_bl, asInt_int, asTup_tup, isN, w_test, w_chain, w_andV, w_orV, w_notV, w_neg, w_sub, w_div, w_mod, w_pow, w_shl, w_shr, w_and, w_or, w_xor, w_lt, w_le, w_gt, w_ge, w_add, w_addS, w_addT, w_addL, w_addF, w_addR, w_mul, w_mulL, w_eq, w_ne, w_isN, w_isB, w_isntN, w_isntB, w_ix, w_isi, w_abs, w_max2, w_min2, w_max1L, w_min1L, w_sum, w_all, w_any, w_len, w_int, w_intB, w_divmod, w_sorted, w_list, w_bits, w_sl, w_slL, w_slF, w_slR, w_slT, w_newF, w_newT, w_eqL, w_eqT, w_eqR, w_neL, w_neT, w_neR, w_dgT, w_derL, w_derT, w_derB, w_derI, w_derN, w_derS, w_eqSS, w_eqBB, w_neSS, w_neBB, w_eqBI, w_eqIN, w_neIN, w_eqNI, w_neNI, w_eqNN, w_neNN, w_NN, w_NI, w_IN])
  clear hh hmul4 hmulT hT3 hTs
  (refine stop_to ?_; (try simp only [dgU, w_lrg, dCut, dDGet, dDGet1, dDGet2, dDPut, dPairs, w_disp, w_newDF, w_newDT, dec_self, List.map_cons, List.map_nil, eqD_bl, eqD_int, eqD_str, eqD_tup, eqD_lst, eqDs_nil, eqDs_nc, eqDs_cn, eqDs_cons, reduceIte, Bool.false_eq_true, Bool.not_true, Bool.not_false, decide_true, decide_false, dVar, atD, setD, startD, dC, dOp, dAnd, dOr, dNot, dIf, dUn, dNil, dCons, dTup, dLst, rInD, rNotInD, dNoPart, dPart, dRev, dFld, DL.fieldsOf, dCB, dNext, dSeq, dBreak, dCont, dDrop, dRet, dRetN, dIfS, dNever, dgN, dgNil, dgCons, dgSub, dAsg, dPar, dPar3, putD, dSetF, dMt, rAppendD, rPopD, rExtendD, lsT, lsR, lsF, itemsR, dFrz, dCall, dCallK, dMeth, dMake, dFor, dIL, dIT, dIR1, dIR2, dIE, dIZ, wipeD, dYes, dLc, dDic0, updM_same, cxOf, asBl_bl, asInt_int, asTup_tup, isN, w_test, w_chain, w_andV, w_orV, w_notV, w_neg, w_sub, w_div, w_mod, w_pow, w_shl, w_shr, w_and, w_or, w_xor, w_lt, w_le, w_gt, w_ge, w_add, w_addS, w_addT, w_addL, w_addF, w_addR, w_mul, w_mulL, w_eq, w_ne, w_isN, w_isB, w_isntN, w_isntB, w_ix, w_isi, w_abs, w_max2, w_min2, w_max1L, w_min1L, w_sum, w_all, w_any, w_len, w_int, w_intB, w_divmod, w_sorted, w_list, w_bits, w_sl, w_slL, w_slF, w_slR, w_slT, w_newF, w_newT, w_eqL, w_eqT, w_eqR, w_neL, w_neT, w_neR, w_dgT, w_derL, w_derT, w_derB, w_derI, w_derN, w_derS, w_eqSS, w_eqBB, w_neSS, w_neBB, w_eqBI, w_eqIN, w_neIN, w_eqNI, w_neNI, w_eqNN, w_neNN, w_NN, w_NI, w_IN]))
  refine ⟨shl_ok (n := 200) ?_ (by have := hb.2; omega), _, _, _, rfl, hp, ?_⟩
  · have : (2 : Int) ^ 140 + 2 ^ 140 + 1 < 2 ^ 200 := by decide +kernel
    omega
  rw [Int.toNat_natCast, show lowZ b s + ((2 * t + 1) * 2 ^ k - lowZ b s) % 2 ^ b = placedZ b s ((2 * t + 1) * 2 ^ k) by rfl]
  have hd := placed_inK b s ((2 * t + 1) * 2 ^ k)
  have htw := twos_step (s := s) (show (2 * t + 1) % 2 = 1 by omega) hkb
  generalize placedZ b s ((2 * t + 1) * 2 ^ k) = d at hd htw
  have hbk : (2 : Int) ^ b = 2 ^ k * 2 ^ (b - k) := by rw [← Int.pow_add]; congr 1; omega
  have hpk := two_pos k
  have hpbk := two_pos (b - k)
  (refine stop_to ?_; (try simp only [dgU, w_lrg, dCut, dDGet, dDGet1, dDGet2, dDPut, dPairs, w_disp, w_newDF, w_newDT, dec_self, List.map_cons, List.map_nil, eqD_bl, eqD_int, eqD_str, eqD_tup, eqD_lst, eqDs_nil, eqDs_nc, eqDs_cn, eqDs_cons, reduceIte, Bool.false_eq_true, Bool.not_true, Bool.not_false, decide_true, decide_false, dVar, atD, setD, startD, dC, dOp, dAnd, dOr, dNot, dIf, dUn, dNil, dCons, dTup, dLst, rInD, rNotInD, dNoPart, dPart, dRev, dFld, DL.fieldsOf, dCB, dNext, dSeq, dBreak, dCont, dDrop, dRet, dRetN, dIfS, dNever, dgN, dgNil, dgCons, dgSub, dAsg, dPar, dPar3, putD, dSetF, dMt, rAppendD, rPopD, rExtendD, lsT, lsR, lsF, itemsR, dFrz, dCall, dCallK, dMeth, dMake, dFor, dIL, dIT, dIR1, dIR2, dIE, dIZ, wipeD, dYes, dLc, dDic0, updM_same, cxOf, asBl_bl, asInt_int, asTup_tup, isN, w_test, w_chain, w_andV, w_orV, w_notV, w_neg, w_sub, w_div, w_mod, w_pow, w_shl, w_shr, w_and, w_or, w_xor, w_lt, w_le, w_gt, w_ge, w_add, w_addS, w_addT, w_addL, w_addF, w_addR, w_mul, w_mulL, w_eq, w_ne, w_isN, w_isB, w_isntN, w_isntB, w_ix, w_isi, w_abs, w_max2, w_min2, w_max1L, w_min1L, w_sum, w_all, w_any, w_len, w_int, w_intB, w_divmod, w_sorted, w_list, w_bits, w_sl, w_slL, w_slF, w_slR, w_slT, w_newF, w_newT, w_eqL, w_eqT, w_eqR, w_neL, w_neT, w_neR, w_dgT, w_derL, w_derT, w_derB, w_derI, w_derN, w_derS, w_eqSS, w_eqBB, w_neSS, w_neBB, w_eqBI, w_eqIN, w_neIN, w_eqNI, w_neNI, w_eqNN, w_neNN, w_NN, w_NI, w_IN]))
  refine ⟨lit_len (n := 2) (by decide), lit_len (n := 2) (by decide), lit_len (n := 2) (by decide), lit_len (n := 2) (by decide), lit_len (n := 4) (by decide), ?_⟩
  refine stop_by (fun ρ' M' => M' = M6 ∧ ∃ v14 v15 : Option Dat, ρ' = [some (.ref a), some (kindD C_Kind b s), some (.int (lowZ b s)), some (.int (2 ^ b)), some (.int (lowZ b s + 2 ^ b - 1)), some (.int x), some (.int u), some (.int (k : Nat)), some (.int (2 * t + 1)), some (.int d), some (.int (n : Nat)), some (.int lo), some (.int hi), some (.lst [.tup [.str (Str.ofString "<"), .int (lowZ b s + 2 ^ b - 1 - u + 1)], .tup [.str (Str.ofString "<="), .int (lowZ b s + 2 ^ b - 1 - u)], .tup [.str (Str.ofString ">"), .int (u - lowZ b s + 1)], .tup [.str (Str.ofString ">="), .int (u - lowZ b s)]]), v14, v15]) ?_ ?_
  · (try simp only [dgU, w_lrg, dCut, dDGet, dDGet1, dDGet2, dDPut, dPairs, w_disp, w_newDF, w_newDT, dec_self, List.map_cons, List.map_nil, eqD_bl, eqD_int, eqD_str, eqD_tup, eqD_lst, eqDs_nil, eqDs_nc, eqDs_cn, eqDs_cons, reduceIte, Bool.false_eq_true, Bool.not_true, Bool.not_false, decide_true, decide_false, dVar, atD, setD, startD, dC, dOp, dAnd, dOr, dNot, dIf, dUn, dNil, dCons, dTup, dLst, rInD, rNotInD, dNoPart, dPart, dRev, dFld, DL.fieldsOf, dCB, dNext, dSeq, dBreak, dCont, dDrop, dRet, dRetN, dIfS, dNever, dgN, dgNil, dgCons, dgSub, dAsg, dPar, dPar3, putD, dSetF, dMt, rAppendD, rPopD, rExtendD, lsT, lsR, lsF, itemsR, dFrz, dCall, dCallK, dMeth, dMake, dFor, dIL, dIT, dIR1, dIR2, dIE, dIZ, wipeD, dYes, dLc, dDic0, updM_same, cxOf, asBl_bl, asInt_int, asTup_tup, isN, w_test, w_chain, w_andV, w_orV, w_notV, w_neg, w_sub, w_div, w_mod, w_pow, w_shl, w_shr, w_and, w_or, w_xor, w_lt, w_le, w_gt, w_ge, w_add, w_addS, w_addT, w_addL, w_addF, w_addR, w_mul, w_mulL, w_eq, w_ne, w_isN, w_isB, w_isntN, w_isntB, w_ix, w_isi, w_abs, w_max2, w_min2, w_max1L, w_min1L, w_sum, w_all, w_any, w_len, w_int, w_intB, w_divmod, w_sorted, w_list, w_bits, w_sl, w_slL, w_slF, w_slR, w_slT, w_newF, w_newT, w_eqL, w_eqT, w_eqR, w_neL, w_neT, w_neR, w_dgT, w_derL, w_derT, w_derB, w_derI, w_derN, w_derS, w_eqSS, w_eqBB, w_neSS, w_neBB, w_eqBI, w_eqIN, w_neIN, w_eqNI, w_neNI, w_eqNN, w_neNN, w_NN, w_NI, w_IN])
    refine ⟨_, rfl, ?_⟩
    refine loop_by (fun l ρ M' => M' = M6 ∧ (∃ ws : List Word, l = ws.map (fun w => Dat.tup [.str w.nm, .int (stopHi w (u - lowZ b s) (2 ^ b) - stopLo w (u - lowZ b s) + 1)]) ∧ ∀ w ∈ ws, w ≠ .eq) ∧ ∃ v14 v15 : Option Dat, ρ = [some (.ref a), some (kindD C_Kind b s), some (.int (lowZ b s)), some (.int (2 ^ b)), some (.int (lowZ b s + 2 ^ b - 1)), some (.int x), some (.int u), some (.int (k : Nat)), some (.int (2 * t + 1)), some (.int d), some (.int (n : Nat)), some (.int lo), some (.int hi), some (.lst [.tup [.str (Str.ofString "<"), .int (lowZ b s + 2 ^ b - 1 - u + 1)], .tup [.str (Str.ofString "<="), .int (lowZ b s + 2 ^ b - 1 - u)], .tup [.str (Str.ofString ">"), .int (u - lowZ b s + 1)], .tup [.str (Str.ofString ">="), .int (u - lowZ b s)]]), v14, v15]) ?_ ?_ _ _ _ ⟨rfl, ⟨[.lt, .le, .gt, .ge], ?_, ?_⟩, _, _, rfl⟩
    · rintro ρ M' ⟨hM, _, v14, v15, rfl⟩
      exact ⟨hM, _, _, rfl⟩
    · rintro e l ρ M' kk ⟨hM, ⟨ws, hws, hne⟩, v14, v15, rfl⟩ hk
      subst hM
      cases ws with
      | nil => cases hws
      | cons w ws =>
      injection hws with e1 e2
      subst e1 e2
      have hw := hne w (by simp)
      (try simp only [dgU, w_lrg, dCut, dDGet, dDGet1, dDGet2, dDPut, dPairs, w_disp, w_newDF, w_newDT, dec_self, List.map_cons, List.map_nil, eqD_bl, eqD_int, eqD_str, eqD_tup, eqD_lst, eqDs_nil, eqDs_nc, eqDs_cn, eqDs_cons, reduceIte, Bool.false_eq_true, Bool.not_true, Bool.not_false, decide_true, decide_false, dVar, atD, setD, startD, dC, dOp, dAnd, dOr, dNot, dIf, dUn, dNil, dCons, dTup, dLst, rInD, rNotInD, dNoPart, dPart, dRev, dFld, DL.fieldsOf, dCB, dNext, dSeq, dBreak, dCont, dDrop, dRet, dRetN, dIfS, dNever, dgN, dgNil, dgCons, dgSub, dAsg, dPar, dPar3, putD, dSetF, dMt, rAppendD, rPopD, rExtendD, lsT, lsR, lsF, itemsR, dFrz, dCall, dCallK, dMeth, dMake, dFor, dIL, dIT, dIR1, dIR2, dIE, dIZ, wipeD, dYes, dLc, dDic0, updM_same, cxOf, asBl_bl, asInt_int, asTup_tup, isN, w_test, w_chain, w_andV, w_orV, w_notV, w_neg, w_sub, w_div, w_mod, w_pow, w_shl, w_shr, w_and, w_or, w_xor, w_lt, w_le, w_gt, w_ge, w_add, w_addS, w_addT, w_addL, w_addF, w_addR, w_mul, w_mulL, w_eq, w_ne, w_isN, w_isB, w_isntN, w_isntB, w_ix, w_isi, w_abs, w_max2, w_min2, w_max1L, w_min1L, w_sum, w_all, w_any, w_len, w_int, w_intB, w_divmod, w_sorted, w_list, w_bits, w_sl, w_slL, w_slF, w_slR, w_slT, w_newF, w_newT, w_eqL, w_eqT, w_eqR, w_neL, w_neT, w_neR, w_dgT, w_derL, w_derT, w_derB, w_derI, w_derN, w_derS, w_eqSS, w_eqBB, w_neSS, w_neBB, w_eqBI, w_eqIN, w_neIN, w_eqNI, w_neNI, w_eqNN, w_neNN, w_NN, w_NI, w_IN])
      refine ⟨rfl, b, s, w, u, d, rfl, hb, hu, hd, ?_⟩
      rw [endless_ne hb hw hu htw]
      have hL : 0 ≤ stopHi w (u - lowZ b s) (2 ^ b) - stopLo w (u - lowZ b s) + 1 := by
        cases w <;> simp only [stopHi, stopLo] <;> omega
      generalize stopHi w (u - lowZ b s) (2 ^ b) - stopLo w (u - lowZ b s) + 1 = L at hL hk ⊢
      rw [Int.toNat_natCast, Int.one_mul, max_if, show max 0 L = L by omega, hbk, Int.mul_ediv_cancel_left _ (by omega)]
      have hk200 : (2 : Int) ^ k ≤ 2 ^ 128 := pow_mono (by have := hb.2; omega)
      have hbk200 : (2 : Int) ^ (b - k) ≤ 2 ^ 128 := pow_mono (by have := hb.2; omega)
      have h128 : (2 : Int) ^ 128 < 2 ^ 200 := by decide +kernel
      refine ⟨shl1 (by omega) (by have := hb.2; omega), by omega, mulOk_b (m := 200) (n := 200) (by omega) (by omega) (by decide) (by decide), ?_⟩
      (try simp only [dgU, w_lrg, dCut, dDGet, dDGet1, dDGet2, dDPut, dPairs, w_disp, w_newDF, w_newDT, dec_self, List.map_cons, List.map_nil, eqD_bl, eqD_int, eqD_str, eqD_tup, eqD_lst, eqDs_nil, eqDs_nc, eqDs_cn, eqDs_cons, reduceIte, Bool.false_eq_true, Bool.not_true, Bool.not_false, decide_true, decide_false, dVar, atD, setD, startD, dC, dOp, dAnd, dOr, dNot, dIf, dUn, dNil, dCons, dTup, dLst, rInD, rNotInD, dNoPart, dPart, dRev, dFld, DL.fieldsOf, dCB, dNext, dSeq, dBreak, dCont, dDrop, dRet, dRetN, dIfS, dNever, dgN, dgNil, dgCons, dgSub, dAsg, dPar, dPar3, putD, dSetF, dMt, rAppendD, rPopD, rExtendD, lsT, lsR, lsF, itemsR, dFrz, dCall, dCallK, dMeth, dMake, dFor, dIL, dIT, dIR1, dIR2, dIE, dIZ, wipeD, dYes, dLc, dDic0, updM_same, cxOf, asBl_bl, asInt_int, asTup_tup, isN, w_test, w_chain, w_andV, w_orV, w_notV, w_neg, w_sub, w_div, w_mod, w_pow, w_shl, w_shr, w_and, w_or, w_xor, w_lt, w_le, w_gt, w_ge, w_add, w_addS, w_addT, w_addL, w_addF, w_addR, w_mul, w_mulL, w_eq, w_ne, w_isN, w_isB, w_isntN, w_isntB, w_ix, w_isi, w_abs, w_max2, w_min2, w_max1L, w_min1L, w_sum, w_all, w_any, w_len, w_int, w_intB, w_divmod, w_sorted, w_list, w_bits, w_sl, w_slL, w_slF, w_slR, w_slT, w_newF, w_newT, w_eqL, w_eqT, w_eqR, w_neL, w_neT, w_neR, w_dgT, w_derL, w_derT, w_derB, w_derI, w_derN, w_derS, w_eqSS, w_eqBB, w_neSS, w_neBB, w_eqBI, w_eqIN, w_neIN, w_eqNI, w_neNI, w_eqNN, w_neNN, w_NN, w_NI, w_IN])
      rw [← hbk]
      exact hk _ _ ⟨rfl, ⟨ws, rfl, fun t h => hne t (by simp [h])⟩, _, _, rfl⟩
    · rw [List.map_cons, List.map_cons, List.map_cons, List.map_cons, List.map_nil]
      simp only [Word.nm, stopHi, stopLo]
      rw [show 2 ^ b - 1 - (u - lowZ b s) + 1 = lowZ b s + 2 ^ b - 1 - u + 1 by omega, show 2 ^ b - 1 - (u - lowZ b s + 1) + 1 = lowZ b s + 2 ^ b - 1 - u by omega, show u - lowZ b s - 0 + 1 = u - lowZ b s + 1 by omega, show u - lowZ b s - 1 - 0 + 1 = u - lowZ b s by omega]
    · intro w hw
      simp only [List.mem_cons, List.not_mem_nil, or_false] at hw
      rcases hw with rfl | rfl | rfl | rfl <;> exact fun h => by cases h
  rintro _ M7 ⟨hM, v14, v15, rfl⟩
  subst hM
  (try simp only [dgU, w_lrg, dCut, dDGet, dDGet1, dDGet2, dDPut, dPairs, w_disp, w_newDF, w_newDT, dec_self, List.map_cons, List.map_nil, eqD_bl, eqD_int, eqD_str, eqD_tup, eqD_lst, eqDs_nil, eqDs_nc, eqDs_cn, eqDs_cons, reduceIte, Bool.false_eq_true, Bool.not_true, Bool.not_false, decide_true, decide_false, dVar, atD, setD, startD, dC, dOp, dAnd, dOr, dNot, dIf, dUn, dNil, dCons, dTup, dLst, rInD, rNotInD, dNoPart, dPart, dRev, dFld, DL.fieldsOf, dCB, dNext, dSeq, dBreak, dCont, dDrop, dRet, dRetN, dIfS, dNever, dgN, dgNil, dgCons, dgSub, dAsg, dPar, dPar3, putD, dSetF, dMt, rAppendD, rPopD, rExtendD, lsT, lsR, lsF, itemsR, dFrz, dCall, dCallK, dMeth, dMake, dFor, dIL, dIT, dIR1, dIR2, dIE, dIZ, wipeD, dYes, dLc, dDic0, updM_same, cxOf, asBl_bl, asInt_int, asTup_tup, isN, w_test, w_chain, w_andV, w_orV, w_notV, w_neg, w_sub, w_div, w_mod, w_pow, w_shl, w_shr, w_and, w_or, w_xor, w_lt, w_le, w_gt, w_ge, w_add, w_addS, w_addT, w_addL, w_addF, w_addR, w_mul, w_mulL, w_eq, w_ne, w_isN, w_isB, w_isntN, w_isntB, w_ix, w_isi, w_abs, w_max2, w_min2, w_max1L, w_min1L, w_sum, w_all, w_any, w_len, w_int, w_intB, w_divmod, w_sorted, w_list, w_bits, w_sl, w_slL, w_slF, w_slR, w_slT, w_newF, w_newT, w_eqL, w_eqT, w_eqR, w_neL, w_neT, w_neR, w_dgT, w_derL, w_derT, w_derB, w_derI, w_derN, w_derS, w_eqSS, w_eqBB, w_neSS, w_neBB, w_eqBI, w_eqIN, w_neIN, w_eqNI, w_neNI, w_eqNN, w_neNN, w_NN, w_NI, w_IN])
  refine ⟨b, s, .eq, u, d, rfl, hb, hu, hd, ?_⟩
  rw [endless_eq hb hu hd]
  refine ⟨⟨_, rfl, by rfl⟩, b, s, rfl, _, _, rfl, atI_nat (j := 0) rfl, ?_⟩
  (try simp only [dgU, w_lrg, dCut, dDGet, dDGet1, dDGet2, dDPut, dPairs, w_disp, w_newDF, w_newDT, dec_self, List.map_cons, List.map_nil, eqD_bl, eqD_int, eqD_str, eqD_tup, eqD_lst, eqDs_nil, eqDs_nc, eqDs_cn, eqDs_cons, reduceIte, Bool.false_eq_true, Bool.not_true, Bool.not_false, decide_true, decide_false, dVar, atD, setD, startD, dC, dOp, dAnd, dOr, dNot, dIf, dUn, dNil, dCons, dTup, dLst, rInD, rNotInD, dNoPart, dPart, dRev, dFld, DL.fieldsOf, dCB, dNext, dSeq, dBreak, dCont, dDrop, dRet, dRetN, dIfS, dNever, dgN, dgNil, dgCons, dgSub, dAsg, dPar, dPar3, putD, dSetF, dMt, rAppendD, rPopD, rExtendD, lsT, lsR, lsF, itemsR, dFrz, dCall, dCallK, dMeth, dMake, dFor, dIL, dIT, dIR1, dIR2, dIE, dIZ, wipeD, dYes, dLc, dDic0, updM_same, cxOf, asBl_bl, asInt_int, asTup_tup, isN, w_test, w_chain, w_andV, w_orV, w_notV, w_neg, w_sub, w_div, w_mod, w_pow, w_shl, w_shr, w_and, w_or, w_xor, w_lt, w_le, w_gt, w_ge, w_add, w_addS, w_addT, w_addL, w_addF, w_addR, w_mul, w_mulL, w_eq, w_ne, w_isN, w_isB, w_isntN, w_isntB, w_ix, w_isi, w_abs, w_max2, w_min2, w_max1L, w_min1L, w_sum, w_all, w_any, w_len, w_int, w_intB, w_divmod, w_sorted, w_list, w_bits, w_sl, w_slL, w_slF, w_slR, w_slT, w_newF, w_newT, w_eqL, w_eqT, w_eqR, w_neL, w_neT, w_neR, w_dgT, w_derL, w_derT, w_derB, w_derI, w_derN, w_derS, w_eqSS, w_eqBB, w_neSS, w_neBB, w_eqBI, w_eqIN, w_neIN, w_eqNI, w_neNI, w_eqNN, w_neNN, w_NN, w_NI, w_IN])
  have hdz : (if d = 0 then (1 : Int) else 0) = if decide ((k : Int) = (b : Int)) = true then 1 else 0 := by
    by_cases g : k = b
    · have h0 : d = 0 := step_zero hb.1 hd (by rw [← g]; exact htw.2.1)
      rw [if_pos h0, if_pos (decide_eq_true (by omega))]
    · have h0 : ¬ d = 0 := fun h => htw.2.2 (by omega) (by rw [h]; exact Int.dvd_zero _)
      rw [if_neg h0, if_neg (by simp; omega)]
  rw [hdz]
  (try simp only [dgU, w_lrg, dCut, dDGet, dDGet1, dDGet2, dDPut, dPairs, w_disp, w_newDF, w_newDT, dec_self, List.map_cons, List.map_nil, eqD_bl, eqD_int, eqD_str, eqD_tup, eqD_lst, eqDs_nil, eqDs_nc, eqDs_cn, eqDs_cons, reduceIte, Bool.false_eq_true, Bool.not_true, Bool.not_false, decide_true, decide_false, dVar, atD, setD, startD, dC, dOp, dAnd, dOr, dNot, dIf, dUn, dNil, dCons, dTup, dLst, rInD, rNotInD, dNoPart, dPart, dRev, dFld, DL.fieldsOf, dCB, dNext, dSeq, dBreak, dCont, dDrop, dRet, dRetN, dIfS, dNever, dgN, dgNil, dgCons, dgSub, dAsg, dPar, dPar3, putD, dSetF, dMt, rAppendD, rPopD, rExtendD, lsT, lsR, lsF, itemsR, dFrz, dCall, dCallK, dMeth, dMake, dFor, dIL, dIT, dIR1, dIR2, dIE, dIZ, wipeD, dYes, dLc, dDic0, updM_same, cxOf, asBl_bl, asInt_int, asTup_tup, isN, w_test, w_chain, w_andV, w_orV, w_notV, w_neg, w_sub, w_div, w_mod, w_pow, w_shl, w_shr, w_and, w_or, w_xor, w_lt, w_le, w_gt, w_ge, w_add, w_addS, w_addT, w_addL, w_addF, w_addR, w_mul, w_mulL, w_eq, w_ne, w_isN, w_isB, w_isntN, w_isntB, w_ix, w_isi, w_abs, w_max2, w_min2, w_max1L, w_min1L, w_sum, w_all, w_any, w_len, w_int, w_intB, w_divmod, w_sorted, w_list, w_bits, w_sl, w_slL, w_slF, w_slR, w_slT, w_newF, w_newT, w_eqL, w_eqT, w_eqR, w_neL, w_neT, w_neR, w_dgT, w_derL, w_derT, w_derB, w_derI, w_derN, w_derS, w_eqSS, w_eqBB, w_neSS, w_neBB, w_eqBI, w_eqIN, w_neIN, w_eqNI, w_neNI, w_eqNN, w_neNN, w_NN, w_NI, w_IN])
  exact endD_of (hQ _ hs)
theorem ok_law (T : Txt K mg C_Kind) (F__law_source_of : FnD P w K mg base 1 "_law_source_of" s__law_source_of ["_law_cell"] (sp_source_of)) (F__law_draw_kind : FnD P w K mg base 5 "_law_draw_kind" s__law_draw_kind ["_law_source", "_law_most"] (sp_drawk C_Kind)) (F__law_cell_at : FnD P w K mg base 1 "_law_cell_at" s__law_cell_at ["_law_script", "_law_index"] (sp_cell)) (F__law_counted_right : FnD P w K mg base 146 "_law_counted_right" s__law_counted_right ["_law_source", "_law_kind", "_law_low", "_law_size"] (sp_lpart C_Kind)) (F__law_met_right : FnD P w K mg base 145 "_law_met_right" s__law_met_right ["_law_source", "_law_kind", "_law_low", "_law_size"] (sp_lpart C_Kind)) (F__law_around_right : FnD P w K mg base 146 "_law_around_right" s__law_around_right ["_law_source", "_law_kind", "_law_low", "_law_size"] (sp_lpart C_Kind)) (F__law_endless_right : FnD P w K mg base 146 "_law_endless_right" s__law_endless_right ["_law_source", "_law_kind", "_law_low", "_law_size"] (sp_lpart C_Kind)) : FnD P w K mg base 147 "law" s_law ["_law_script"] (spLaw) := by
  refine fn_mk T.h_law sc_law 6 rfl (by intro ds M Q h; first | (obtain ⟨rfl, _⟩ := h; rfl) | (obtain ⟨_, rfl, _⟩ := h; rfl) | (obtain ⟨_, _, rfl, _⟩ := h; rfl) | (obtain ⟨_, _, _, rfl, _⟩ := h; rfl) | (obtain ⟨_, _, _, _, rfl, _⟩ := h; rfl) | (obtain ⟨_, _, _, _, _, rfl, _⟩ := h; rfl) | (obtain ⟨_, _, _, _, _, _, rfl, _⟩ := h; rfl) | (obtain ⟨_, _, _, _, _, _, _, rfl, _⟩ := h; rfl) | (obtain ⟨_, _, _, _, _, _, _, _, rfl, _⟩ := h; rfl) | (obtain ⟨_, _, _, _, _, _, _, _, _, rfl, _⟩ := h; rfl) | (obtain ⟨_, _, _, _, _, _, _, _, _, _, rfl, _⟩ := h; rfl) | (obtain ⟨_, _, _, _, _, _, _, _, _, _, _, rfl, _⟩ := h; rfl) | (obtain ⟨_, _, _, _, _, _, _, _, _, _, _, _, rfl, _⟩ := h; rfl)) (fun f cdv A outer s H E hr => ⟨_, (dss_cons (ds_for (di_lst (de_op (od_add false) (de_lst false (da_cons (de_call F__law_cell_at hr (da_cons (dv 0) (da_cons de_int da_nil))) da_nil)) (de_sl false (dv 0) (do_some de_int) (do_some de_int)))) (dg_name (i := 1) sc_law.nd)
    (dss_cons (ds_set (i := 2) sc_law.nd (de_call F__law_source_of hr (da_cons (dv 1) da_nil)))
    (dss_cons (ds_asg (de_call F__law_draw_kind hr (da_cons (dv 2) (da_cons de_int da_nil))) (DGo.dg (vs := [3, 4, 5]) (dgo_tup (n := 3) (dgs_cons (dgo_name (i := 3) (by decide) sc_law.nd rfl) (dgs_cons (dgo_name (i := 4) (by decide) sc_law.nd rfl) (dgs_cons (dgo_name (i := 5) (by decide) sc_law.nd rfl) dgs_nil))))))
    (dss_cons (ds_if (dt_cut (dt_w (dw_or (dt_not (dt_val (de_call F__law_counted_right hr (da_cons (dv 2) (da_cons (dv 3) (da_cons (dv 4) (da_cons (dv 5) da_nil))))))) (dw_or1 (dt_not (dt_val (de_call F__law_met_right hr (da_cons (dv 2) (da_cons (dv 3) (da_cons (dv 4) (da_cons (dv 5) da_nil)))))))))))
    (dss_one (ds_ret de_bl))
    dss_nil)
    (dss_one (ds_if (dt_cut (dt_w (dw_or (dt_not (dt_val (de_call F__law_around_right hr (da_cons (dv 2) (da_cons (dv 3) (da_cons (dv 4) (da_cons (dv 5) da_nil))))))) (dw_or1 (dt_not (dt_val (de_call F__law_endless_right hr (da_cons (dv 2) (da_cons (dv 3) (da_cons (dv 4) (da_cons (dv 5) da_nil)))))))))))
    (dss_one (ds_ret de_bl))
    dss_nil))))))
    (dss_one (ds_ret de_bl))), ?_⟩)
  rintro ds M Q ⟨ns, rfl, hl, hQ⟩
  (try simp only [dgU, w_lrg, dCut, dDGet, dDGet1, dDGet2, dDPut, dPairs, w_disp, w_newDF, w_newDT, dec_self, List.map_cons, List.map_nil, eqD_bl, eqD_int, eqD_str, eqD_tup, eqD_lst, eqDs_nil, eqDs_nc, eqDs_cn, eqDs_cons, reduceIte, Bool.false_eq_true, Bool.not_true, Bool.not_false, decide_true, decide_false, dVar, atD, setD, startD, dC, dOp, dAnd, dOr, dNot, dIf, dUn, dNil, dCons, dTup, dLst, rInD, rNotInD, dNoPart, dPart, dRev, dFld, DL.fieldsOf, dCB, dNext, dSeq, dBreak, dCont, dDrop, dRet, dRetN, dIfS, dNever, dgN, dgNil, dgCons, dgSub, dAsg, dPar, dPar3, putD, dSetF, dMt, rAppendD, rPopD, rExtendD, lsT, lsR, lsF, itemsR, dFrz, dCall, dCallK, dMeth, dMake, dFor, dIL, dIT, dIR1, dIR2, dIE, dIZ, wipeD, dYes, dLc, dDic0, updM_same, cxOf, asBl_bl, asInt_int, asTup_tup, isN, w_test, w_chain, w_andV, w_orV, w_notV, w_neg, w_sub, w_div, w_mod, w_pow, w_shl, w_shr, w_and, w_or, w_xor, w_lt, w_le, w_gt, w_ge, w_add, w_addS, w_addT, w_addL, w_addF, w_addR, w_mul, w_mulL, w_eq, w_ne, w_isN, w_isB, w_isntN, w_isntB, w_ix, w_isi, w_abs, w_max2, w_min2, w_max1L, w_min1L, w_sum, w_all, w_any, w_len, w_int, w_intB, w_divmod, w_sorted, w_list, w_bits, w_sl, w_slL, w_slF, w_slR, w_slT, w_newF, w_newT, w_eqL, w_eqT, w_eqR, w_neL, w_neT, w_neR, w_dgT, w_derL, w_derT, w_derB, w_derI, w_derN, w_derS, w_eqSS, w_eqBB, w_neSS, w_neBB, w_eqBI, w_eqIN, w_neIN, w_eqNI, w_neNI, w_eqNN, w_neNN, w_NN, w_NI, w_IN])
  refine ⟨ns, 0, rfl, hl, fun c0 => ?_⟩
  obtain ⟨ms, he, hm⟩ := cutD_ints (ns := ns) (some (1 : Int)) (some (4 : Int))
  refine ⟨lit_len (n := 1) (by decide), _, rfl, ?_⟩
  rw [he]
  refine ⟨_, _, rfl, rfl, lit_len (by rw [List.length_map]; show 1 + ms.length ≤ 1000; omega), _, rfl, ?_⟩
  refine loop_by (fun l ρ _ => (∀ d ∈ l, ∃ n, d = .int n) ∧ ∃ x1 x2 x3 x4 x5 : Option Dat, ρ = [some (.frl (ns.map Dat.int)), x1, x2, x3, x4, x5]) ?_ ?_ _ _ _ ⟨cell_ints, none, none, none, none, none, rfl⟩
  · rintro ρ M2 ⟨_, x1, x2, x3, x4, x5, rfl⟩
    (try simp only [dgU, w_lrg, dCut, dDGet, dDGet1, dDGet2, dDPut, dPairs, w_disp, w_newDF, w_newDT, dec_self, List.map_cons, List.map_nil, eqD_bl, eqD_int, eqD_str, eqD_tup, eqD_lst, eqDs_nil, eqDs_nc, eqDs_cn, eqDs_cons, reduceIte, Bool.false_eq_true, Bool.not_true, Bool.not_false, decide_true, decide_false, dVar, atD, setD, startD, dC, dOp, dAnd, dOr, dNot, dIf, dUn, dNil, dCons, dTup, dLst, rInD, rNotInD, dNoPart, dPart, dRev, dFld, DL.fieldsOf, dCB, dNext, dSeq, dBreak, dCont, dDrop, dRet, dRetN, dIfS, dNever, dgN, dgNil, dgCons, dgSub, dAsg, dPar, dPar3, putD, dSetF, dMt, rAppendD, rPopD, rExtendD, lsT, lsR, lsF, itemsR, dFrz, dCall, dCallK, dMeth, dMake, dFor, dIL, dIT, dIR1, dIR2, dIE, dIZ, wipeD, dYes, dLc, dDic0, updM_same, cxOf, asBl_bl, asInt_int, asTup_tup, isN, w_test, w_chain, w_andV, w_orV, w_notV, w_neg, w_sub, w_div, w_mod, w_pow, w_shl, w_shr, w_and, w_or, w_xor, w_lt, w_le, w_gt, w_ge, w_add, w_addS, w_addT, w_addL, w_addF, w_addR, w_mul, w_mulL, w_eq, w_ne, w_isN, w_isB, w_isntN, w_isntB, w_ix, w_isi, w_abs, w_max2, w_min2, w_max1L, w_min1L, w_sum, w_all, w_any, w_len, w_int, w_intB, w_divmod, w_sorted, w_list, w_bits, w_sl, w_slL, w_slF, w_slR, w_slT, w_newF, w_newT, w_eqL, w_eqT, w_eqR, w_neL, w_neT, w_neR, w_dgT, w_derL, w_derT, w_derB, w_derI, w_derN, w_derS, w_eqSS, w_eqBB, w_neSS, w_neBB, w_eqBI, w_eqIN, w_neIN, w_eqNI, w_neNI, w_eqNN, w_neNN, w_NN, w_NI, w_IN])
    exact endD_of (hQ _)
  · rintro d r ρ M2 k ⟨hd, x1, x2, x3, x4, x5, rfl⟩ hk
    obtain ⟨c, rfl⟩ := hd d (by simp)
    replace hk : ∀ (x1 x2 x3 x4 x5 : Option Dat) M, k [some (.frl (ns.map Dat.int)), x1, x2, x3, x4, x5] M := fun x1 x2 x3 x4 x5 M => hk _ _ ⟨fun d h => hd d (by simp [h]), x1, x2, x3, x4, x5, rfl⟩
    (try simp only [dgU, w_lrg, dCut, dDGet, dDGet1, dDGet2, dDPut, dPairs, w_disp, w_newDF, w_newDT, dec_self, List.map_cons, List.map_nil, eqD_bl, eqD_int, eqD_str, eqD_tup, eqD_lst, eqDs_nil, eqDs_nc, eqDs_cn, eqDs_cons, reduceIte, Bool.false_eq_true, Bool.not_true, Bool.not_false, decide_true, decide_false, dVar, atD, setD, startD, dC, dOp, dAnd, dOr, dNot, dIf, dUn, dNil, dCons, dTup, dLst, rInD, rNotInD, dNoPart, dPart, dRev, dFld, DL.fieldsOf, dCB, dNext, dSeq, dBreak, dCont, dDrop, dRet, dRetN, dIfS, dNever, dgN, dgNil, dgCons, dgSub, dAsg, dPar, dPar3, putD, dSetF, dMt, rAppendD, rPopD, rExtendD, lsT, lsR, lsF, itemsR, dFrz, dCall, dCallK, dMeth, dMake, dFor, dIL, dIT, dIR1, dIR2, dIE, dIZ, wipeD, dYes, dLc, dDic0, updM_same, cxOf, asBl_bl, asInt_int, asTup_tup, isN, w_test, w_chain, w_andV, w_orV, w_notV, w_neg, w_sub, w_div, w_mod, w_pow, w_shl, w_shr, w_and, w_or, w_xor, w_lt, w_le, w_gt, w_ge, w_add, w_addS, w_addT, w_addL, w_addF, w_addR, w_mul, w_mulL, w_eq, w_ne, w_isN, w_isB, w_isntN, w_isntB, w_ix, w_isi, w_abs, w_max2, w_min2, w_max1L, w_min1L, w_sum, w_all, w_any, w_len, w_int, w_intB, w_divmod, w_sorted, w_list, w_bits, w_sl, w_slL, w_slF, w_slR, w_slT, w_newF, w_newT, w_eqL, w_eqT, w_eqR, w_neL, w_neT, w_neR, w_dgT, w_derL, w_derT, w_derB, w_derI, w_derN, w_derS, w_eqSS, w_eqBB, w_neSS, w_neBB, w_eqBI, w_eqIN, w_neIN, w_eqNI, w_neNI, w_eqNN, w_neNN, w_NN, w_NI, w_IN])
    refine ⟨c, rfl, fun a sx sy sz ha hok => ?_⟩
    have hs : Src (updM M2 a (srcD sx sy sz)) a := ⟨_, _, _, updM_same, hok⟩
    generalize updM M2 a (srcD sx sy sz) = M3 at hs
    refine ⟨a, 128, rfl, hs, by decide, by decide, fun b s M4 hb _ hs1 => ?_⟩
    (try simp only [dgU, w_lrg, dCut, dDGet, dDGet1, dDGet2, dDPut, dPairs, w_disp, w_newDF, w_newDT, dec_self, List.map_cons, List.map_nil, eqD_bl, eqD_int, eqD_str, eqD_tup, eqD_lst, eqDs_nil, eqDs_nc, eqDs_cn, eqDs_cons, reduceIte, Bool.false_eq_true, Bool.not_true, Bool.not_false, decide_true, decide_false, dVar, atD, setD, startD, dC, dOp, dAnd, dOr, dNot, dIf, dUn, dNil, dCons, dTup, dLst, rInD, rNotInD, dNoPart, dPart, dRev, dFld, DL.fieldsOf, dCB, dNext, dSeq, dBreak, dCont, dDrop, dRet, dRetN, dIfS, dNever, dgN, dgNil, dgCons, dgSub, dAsg, dPar, dPar3, putD, dSetF, dMt, rAppendD, rPopD, rExtendD, lsT, lsR, lsF, itemsR, dFrz, dCall, dCallK, dMeth, dMake, dFor, dIL, dIT, dIR1, dIR2, dIE, dIZ, wipeD, dYes, dLc, dDic0, updM_same, cxOf, asBl_bl, asInt_int, asTup_tup, isN, w_test, w_chain, w_andV, w_orV, w_notV, w_neg, w_sub, w_div, w_mod, w_pow, w_shl, w_shr, w_and, w_or, w_xor, w_lt, w_le, w_gt, w_ge, w_add, w_addS, w_addT, w_addL, w_addF, w_addR, w_mul, w_mulL, w_eq, w_ne, w_isN, w_isB, w_isntN, w_isntB, w_ix, w_isi, w_abs, w_max2, w_min2, w_max1L, w_min1L, w_sum, w_all, w_any, w_len, w_int, w_intB, w_divmod, w_sorted, w_list, w_bits, w_sl, w_slL, w_slF, w_slR, w_slT, w_newF, w_newT, w_eqL, w_eqT, w_eqR, w_neL, w_neT, w_neR, w_dgT, w_derL, w_derT, w_derB, w_derI, w_derN, w_derS, w_eqSS, w_eqBB, w_neSS, w_neBB, w_eqBI, w_eqIN, w_neIN, w_eqNI, w_neNI, w_eqNN, w_neNN, w_NN, w_NI, w_IN])
    have hs := hs1.src
    refine ⟨rfl, fun v M' => v = false ∧ Src M' a, ?_, ?_⟩
    · (try simp only [dgU, w_lrg, dCut, dDGet, dDGet1, dDGet2, dDPut, dPairs, w_disp, w_newDF, w_newDT, dec_self, List.map_cons, List.map_nil, eqD_bl, eqD_int, eqD_str, eqD_tup, eqD_lst, eqDs_nil, eqDs_nc, eqDs_cn, eqDs_cons, reduceIte, Bool.false_eq_true, Bool.not_true, Bool.not_false, decide_true, decide_false, dVar, atD, setD, startD, dC, dOp, dAnd, dOr, dNot, dIf, dUn, dNil, dCons, dTup, dLst, rInD, rNotInD, dNoPart, dPart, dRev, dFld, DL.fieldsOf, dCB, dNext, dSeq, dBreak, dCont, dDrop, dRet, dRetN, dIfS, dNever, dgN, dgNil, dgCons, dgSub, dAsg, dPar, dPar3, putD, dSetF, dMt, rAppendD, rPopD, rExtendD, lsT, lsR, lsF, itemsR, dFrz, dCall, dCallK, dMeth, dMake, dFor, dIL, dIT, dIR1, dIR2, dIE, dIZ, wipeD, dYes, dLc, dDic0, updM_same, cxOf, asBl_bl, asInt_int, asTup_tup, isN, w_test, w_chain, w_andV, w_orV, w_notV, w_neg, w_sub, w_div, w_mod, w_pow, w_shl, w_shr, w_and, w_or, w_xor, w_lt, w_le, w_gt, w_ge, w_add, w_addS, w_addT, w_addL, w_addF, w_addR, w_mul, w_mulL, w_eq, w_ne, w_isN, w_isB, w_isntN, w_isntB, w_ix, w_isi, w_abs, w_max2, w_min2, w_max1L, w_min1L, w_sum, w_all, w_any, w_len, w_int, w_intB, w_divmod, w_sorted, w_list, w_bits, w_sl, w_slL, w_slF, w_slR, w_slT, w_newF, w_newT, w_eqL, w_eqT, w_eqR, w_neL, w_neT, w_neR, w_dgT, w_derL, w_derT, w_derB, w_derI, w_derN, w_derS, w_eqSS, w_eqBB, w_neSS, w_neBB, w_eqBI, w_eqIN, w_neIN, w_eqNI, w_neNI, w_eqNN, w_neNN, w_NN, w_NI, w_IN])
      refine ⟨a, b, s, rfl, hs, hb, fun M5 hs5 => ?_⟩
      (try simp only [dgU, w_lrg, dCut, dDGet, dDGet1, dDGet2, dDPut, dPairs, w_disp, w_newDF, w_newDT, dec_self, List.map_cons, List.map_nil, eqD_bl, eqD_int, eqD_str, eqD_tup, eqD_lst, eqDs_nil, eqDs_nc, eqDs_cn, eqDs_cons, reduceIte, Bool.false_eq_true, Bool.not_true, Bool.not_false, decide_true, decide_false, dVar, atD, setD, startD, dC, dOp, dAnd, dOr, dNot, dIf, dUn, dNil, dCons, dTup, dLst, rInD, rNotInD, dNoPart, dPart, dRev, dFld, DL.fieldsOf, dCB, dNext, dSeq, dBreak, dCont, dDrop, dRet, dRetN, dIfS, dNever, dgN, dgNil, dgCons, dgSub, dAsg, dPar, dPar3, putD, dSetF, dMt, rAppendD, rPopD, rExtendD, lsT, lsR, lsF, itemsR, dFrz, dCall, dCallK, dMeth, dMake, dFor, dIL, dIT, dIR1, dIR2, dIE, dIZ, wipeD, dYes, dLc, dDic0, updM_same, cxOf, asBl_bl, asInt_int, asTup_tup, isN, w_test, w_chain, w_andV, w_orV, w_notV, w_neg, w_sub, w_div, w_mod, w_pow, w_shl, w_shr, w_and, w_or, w_xor, w_lt, w_le, w_gt, w_ge, w_add, w_addS, w_addT, w_addL, w_addF, w_addR, w_mul, w_mulL, w_eq, w_ne, w_isN, w_isB, w_isntN, w_isntB, w_ix, w_isi, w_abs, w_max2, w_min2, w_max1L, w_min1L, w_sum, w_all, w_any, w_len, w_int, w_intB, w_divmod, w_sorted, w_list, w_bits, w_sl, w_slL, w_slF, w_slR, w_slT, w_newF, w_newT, w_eqL, w_eqT, w_eqR, w_neL, w_neT, w_neR, w_dgT, w_derL, w_derT, w_derB, w_derI, w_derN, w_derS, w_eqSS, w_eqBB, w_neSS, w_neBB, w_eqBI, w_eqIN, w_neIN, w_eqNI, w_neNI, w_eqNN, w_neNN, w_NN, w_NI, w_IN])
      refine ⟨a, b, s, rfl, hs5.src, hb, fun M6 hs6 => ?_⟩
      (try simp only [dgU, w_lrg, dCut, dDGet, dDGet1, dDGet2, dDPut, dPairs, w_disp, w_newDF, w_newDT, dec_self, List.map_cons, List.map_nil, eqD_bl, eqD_int, eqD_str, eqD_tup, eqD_lst, eqDs_nil, eqDs_nc, eqDs_cn, eqDs_cons, reduceIte, Bool.false_eq_true, Bool.not_true, Bool.not_false, decide_true, decide_false, dVar, atD, setD, startD, dC, dOp, dAnd, dOr, dNot, dIf, dUn, dNil, dCons, dTup, dLst, rInD, rNotInD, dNoPart, dPart, dRev, dFld, DL.fieldsOf, dCB, dNext, dSeq, dBreak, dCont, dDrop, dRet, dRetN, dIfS, dNever, dgN, dgNil, dgCons, dgSub, dAsg, dPar, dPar3, putD, dSetF, dMt, rAppendD, rPopD, rExtendD, lsT, lsR, lsF, itemsR, dFrz, dCall, dCallK, dMeth, dMake, dFor, dIL, dIT, dIR1, dIR2, dIE, dIZ, wipeD, dYes, dLc, dDic0, updM_same, cxOf, asBl_bl, asInt_int, asTup_tup, isN, w_test, w_chain, w_andV, w_orV, w_notV, w_neg, w_sub, w_div, w_mod, w_pow, w_shl, w_shr, w_and, w_or, w_xor, w_lt, w_le, w_gt, w_ge, w_add, w_addS, w_addT, w_addL, w_addF, w_addR, w_mul, w_mulL, w_eq, w_ne, w_isN, w_isB, w_isntN, w_isntB, w_ix, w_isi, w_abs, w_max2, w_min2, w_max1L, w_min1L, w_sum, w_all, w_any, w_len, w_int, w_intB, w_divmod, w_sorted, w_list, w_bits, w_sl, w_slL, w_slF, w_slR, w_slT, w_newF, w_newT, w_eqL, w_eqT, w_eqR, w_neL, w_neT, w_neR, w_dgT, w_derL, w_derT, w_derB, w_derI, w_derN, w_derS, w_eqSS, w_eqBB, w_neSS, w_neBB, w_eqBI, w_eqIN, w_neIN, w_eqNI, w_neNI, w_eqNN, w_neNN, w_NN, w_NI, w_IN])
      exact ⟨True.intro, hs6.src⟩
    rintro v M5 ⟨rfl, hs⟩
    (try simp only [dgU, w_lrg, dCut, dDGet, dDGet1, dDGet2, dDPut, dPairs, w_disp, w_newDF, w_newDT, dec_self, List.map_cons, List.map_nil, eqD_bl, eqD_int, eqD_str, eqD_tup, eqD_lst, eqDs_nil, eqDs_nc, eqDs_cn, eqDs_cons, reduceIte, Bool.false_eq_true, Bool.not_true, Bool.not_false, decide_true, decide_false, dVar, atD, setD, startD, dC, dOp, dAnd, dOr, dNot, dIf, dUn, dNil, dCons, dTup, dLst, rInD, rNotInD, dNoPart, dPart, dRev, dFld, DL.fieldsOf, dCB, dNext, dSeq, dBreak, dCont, dDrop, dRet, dRetN, dIfS, dNever, dgN, dgNil, dgCons, dgSub, dAsg, dPar, dPar3, putD, dSetF, dMt, rAppendD, rPopD, rExtendD, lsT, lsR, lsF, itemsR, dFrz, dCall, dCallK, dMeth, dMake, dFor, dIL, dIT, dIR1, dIR2, dIE, dIZ, wipeD, dYes, dLc, dDic0, updM_same, cxOf, asBl_bl, asInt_int, asTup_tup, isN, w_test, w_chain, w_andV, w_orV, w_notV, w_neg, w_sub, w_div, w_mod, w_pow, w_shl, w_shr, w_and, w_or, w_xor, w_lt, w_le, w_gt, w_ge, w_add, w_addS, w_addT, w_addL, w_addF, w_addR, w_mul, w_mulL, w_eq, w_ne, w_isN, w_isB, w_isntN, w_isntB, w_ix, w_isi, w_abs, w_max2, w_min2, w_max1L, w_min1L, w_sum, w_all, w_any, w_len, w_int, w_intB, w_divmod, w_sorted, w_list, w_bits, w_sl, w_slL, w_slF, w_slR, w_slT, w_newF, w_newT, w_eqL, w_eqT, w_eqR, w_neL, w_neT, w_neR, w_dgT, w_derL, w_derT, w_derB, w_derI, w_derN, w_derS, w_eqSS, w_eqBB, w_neSS, w_neBB, w_eqBI, w_eqIN, w_neIN, w_eqNI, w_neNI, w_eqNN, w_neNN, w_NN, w_NI, w_IN])
    refine ⟨fun v M' => v = false ∧ Src M' a, ?_, ?_⟩
    · (try simp only [dgU, w_lrg, dCut, dDGet, dDGet1, dDGet2, dDPut, dPairs, w_disp, w_newDF, w_newDT, dec_self, List.map_cons, List.map_nil, eqD_bl, eqD_int, eqD_str, eqD_tup, eqD_lst, eqDs_nil, eqDs_nc, eqDs_cn, eqDs_cons, reduceIte, Bool.false_eq_true, Bool.not_true, Bool.not_false, decide_true, decide_false, dVar, atD, setD, startD, dC, dOp, dAnd, dOr, dNot, dIf, dUn, dNil, dCons, dTup, dLst, rInD, rNotInD, dNoPart, dPart, dRev, dFld, DL.fieldsOf, dCB, dNext, dSeq, dBreak, dCont, dDrop, dRet, dRetN, dIfS, dNever, dgN, dgNil, dgCons, dgSub, dAsg, dPar, dPar3, putD, dSetF, dMt, rAppendD, rPopD, rExtendD, lsT, lsR, lsF, itemsR, dFrz, dCall, dCallK, dMeth, dMake, dFor, dIL, dIT, dIR1, dIR2, dIE, dIZ, wipeD, dYes, dLc, dDic0, updM_same, cxOf, asBl_bl, asInt_int, asTup_tup, isN, w_test, w_chain, w_andV, w_orV, w_notV, w_neg, w_sub, w_div, w_mod, w_pow, w_shl, w_shr, w_and, w_or, w_xor, w_lt, w_le, w_gt, w_ge, w_add, w_addS, w_addT, w_addL, w_addF, w_addR, w_mul, w_mulL, w_eq, w_ne, w_isN, w_isB, w_isntN, w_isntB, w_ix, w_isi, w_abs, w_max2, w_min2, w_max1L, w_min1L, w_sum, w_all, w_any, w_len, w_int, w_intB, w_divmod, w_sorted, w_list, w_bits, w_sl, w_slL, w_slF, w_slR, w_slT, w_newF, w_newT, w_eqL, w_eqT, w_eqR, w_neL, w_neT, w_neR, w_dgT, w_derL, w_derT, w_derB, w_derI, w_derN, w_derS, w_eqSS, w_eqBB, w_neSS, w_neBB, w_eqBI, w_eqIN, w_neIN, w_eqNI, w_neNI, w_eqNN, w_neNN, w_NN, w_NI, w_IN])
      refine ⟨a, b, s, rfl, hs, hb, fun M5 hs5 => ?_⟩
      (try simp only [dgU, w_lrg, dCut, dDGet, dDGet1, dDGet2, dDPut, dPairs, w_disp, w_newDF, w_newDT, dec_self, List.map_cons, List.map_nil, eqD_bl, eqD_int, eqD_str, eqD_tup, eqD_lst, eqDs_nil, eqDs_nc, eqDs_cn, eqDs_cons, reduceIte, Bool.false_eq_true, Bool.not_true, Bool.not_false, decide_true, decide_false, dVar, atD, setD, startD, dC, dOp, dAnd, dOr, dNot, dIf, dUn, dNil, dCons, dTup, dLst, rInD, rNotInD, dNoPart, dPart, dRev, dFld, DL.fieldsOf, dCB, dNext, dSeq, dBreak, dCont, dDrop, dRet, dRetN, dIfS, dNever, dgN, dgNil, dgCons, dgSub, dAsg, dPar, dPar3, putD, dSetF, dMt, rAppendD, rPopD, rExtendD, lsT, lsR, lsF, itemsR, dFrz, dCall, dCallK, dMeth, dMake, dFor, dIL, dIT, dIR1, dIR2, dIE, dIZ, wipeD, dYes, dLc, dDic0, updM_same, cxOf, asBl_bl, asInt_int, asTup_tup, isN, w_test, w_chain, w_andV, w_orV, w_notV, w_neg, w_sub, w_div, w_mod, w_pow, w_shl, w_shr, w_and, w_or, w_xor, w_lt, w_le, w_gt, w_ge, w_add, w_addS, w_addT, w_addL, w_addF, w_addR, w_mul, w_mulL, w_eq, w_ne, w_isN, w_isB, w_isntN, w_isntB, w_ix, w_isi, w_abs, w_max2, w_min2, w_max1L, w_min1L, w_sum, w_all, w_any, w_len, w_int, w_intB, w_divmod, w_sorted, w_list, w_bits, w_sl, w_slL, w_slF, w_slR, w_slT, w_newF, w_newT, w_eqL, w_eqT, w_eqR, w_neL, w_neT, w_neR, w_dgT, w_derL, w_derT, w_derB, w_derI, w_derN, w_derS, w_eqSS, w_eqBB, w_neSS, w_neBB, w_eqBI, w_eqIN, w_neIN, w_eqNI, w_neNI, w_eqNN, w_neNN, w_NN, w_NI, w_IN])
      refine ⟨a, b, s, rfl, hs5.src, hb, fun M6 hs6 => ?_⟩
      (try simp only [dgU, w_lrg, dCut, dDGet, dDGet1, dDGet2, dDPut, dPairs, w_disp, w_newDF, w_newDT, dec_self, List.map_cons, List.map_nil, eqD_bl, eqD_int, eqD_str, eqD_tup, eqD_lst, eqDs_nil, eqDs_nc, eqDs_cn, eqDs_cons, reduceIte, Bool.false_eq_true, Bool.not_true, Bool.not_false, decide_true, decide_false, dVar, atD, setD, startD, dC, dOp, dAnd, dOr, dNot, dIf, dUn, dNil, dCons, dTup, dLst, rInD, rNotInD, dNoPart, dPart, dRev, dFld, DL.fieldsOf, dCB, dNext, dSeq, dBreak, dCont, dDrop, dRet, dRetN, dIfS, dNever, dgN, dgNil, dgCons, dgSub, dAsg, dPar, dPar3, putD, dSetF, dMt, rAppendD, rPopD, rExtendD, lsT, lsR, lsF, itemsR, dFrz, dCall, dCallK, dMeth, dMake, dFor, dIL, dIT, dIR1, dIR2, dIE, dIZ, wipeD, dYes, dLc, dDic0, updM_same, cxOf, asBl_bl, asInt_int, asTup_tup, isN, w_test, w_chain, w_andV, w_orV, w_notV, w_neg, w_sub, w_div, w_mod, w_pow, w_shl, w_shr, w_and, w_or, w_xor, w_lt, w_le, w_gt, w_ge, w_add, w_addS, w_addT, w_addL, w_addF, w_addR, w_mul, w_mulL, w_eq, w_ne, w_isN, w_isB, w_isntN, w_isntB, w_ix, w_isi, w_abs, w_max2, w_min2, w_max1L, w_min1L, w_sum, w_all, w_any, w_len, w_int, w_intB, w_divmod, w_sorted, w_list, w_bits, w_sl, w_slL, w_slF, w_slR, w_slT, w_newF, w_newT, w_eqL, w_eqT, w_eqR, w_neL, w_neT, w_neR, w_dgT, w_derL, w_derT, w_derB, w_derI, w_derN, w_derS, w_eqSS, w_eqBB, w_neSS, w_neBB, w_eqBI, w_eqIN, w_neIN, w_eqNI, w_neNI, w_eqNN, w_neNN, w_NN, w_NI, w_IN])
      exact ⟨True.intro, hs6.src⟩
    rintro v M6 ⟨rfl, hs⟩
    (try simp only [dgU, w_lrg, dCut, dDGet, dDGet1, dDGet2, dDPut, dPairs, w_disp, w_newDF, w_newDT, dec_self, List.map_cons, List.map_nil, eqD_bl, eqD_int, eqD_str, eqD_tup, eqD_lst, eqDs_nil, eqDs_nc, eqDs_cn, eqDs_cons, reduceIte, Bool.false_eq_true, Bool.not_true, Bool.not_false, decide_true, decide_false, dVar, atD, setD, startD, dC, dOp, dAnd, dOr, dNot, dIf, dUn, dNil, dCons, dTup, dLst, rInD, rNotInD, dNoPart, dPart, dRev, dFld, DL.fieldsOf, dCB, dNext, dSeq, dBreak, dCont, dDrop, dRet, dRetN, dIfS, dNever, dgN, dgNil, dgCons, dgSub, dAsg, dPar, dPar3, putD, dSetF, dMt, rAppendD, rPopD, rExtendD, lsT, lsR, lsF, itemsR, dFrz, dCall, dCallK, dMeth, dMake, dFor, dIL, dIT, dIR1, dIR2, dIE, dIZ, wipeD, dYes, dLc, dDic0, updM_same, cxOf, asBl_bl, asInt_int, asTup_tup, isN, w_test, w_chain, w_andV, w_orV, w_notV, w_neg, w_sub, w_div, w_mod, w_pow, w_shl, w_shr, w_and, w_or, w_xor, w_lt, w_le, w_gt, w_ge, w_add, w_addS, w_addT, w_addL, w_addF, w_addR, w_mul, w_mulL, w_eq, w_ne, w_isN, w_isB, w_isntN, w_isntB, w_ix, w_isi, w_abs, w_max2, w_min2, w_max1L, w_min1L, w_sum, w_all, w_any, w_len, w_int, w_intB, w_divmod, w_sorted, w_list, w_bits, w_sl, w_slL, w_slF, w_slR, w_slT, w_newF, w_newT, w_eqL, w_eqT, w_eqR, w_neL, w_neT, w_neR, w_dgT, w_derL, w_derT, w_derB, w_derI, w_derN, w_derS, w_eqSS, w_eqBB, w_neSS, w_neBB, w_eqBI, w_eqIN, w_neIN, w_eqNI, w_neNI, w_eqNN, w_neNN, w_NN, w_NI, w_IN])
    exact hk _ _ _ _ _ _
end
theorem all_mk {l : PySem.W.OpenLaw} {w : World} {K : PySem.W.Frag} {h : Heap} {mg : Str → Option Value} {fa f0 f1 f2 f3 f4 f5 f6 f7 f8 f9 f10 f11 f12 f13 f14 f15 f16 f17 f18 f19 f20 f21 f22 f23 f24 f25 f26 f27 f28 f29 f30 f31 f32 f33 f34 f35 f36 f37 f38 f39 f40 f41 C_Kind g_a_WORDS : Addr} (X : K.In h) (G : h.Ns mainGlobals mg) (hfa : mg "law" = some (.ref fa))
    {od0 an0 od1 an1 od2 an2 od3 an3 od4 an4 od5 an5 od6 an6 od7 an7 od8 an8 od9 an9 od10 an10 od11 an11 od12 an12 od13 an13 od14 an14 od15 an15 od16 an16 od17 an17 od18 an18 od19 an19 od20 an20 od21 an21 od22 an22 od23 an23 od24 an24 od25 an25 od26 an26 od27 an27 od28 an28 od29 an29 od30 an30 od31 an31 od32 an32 od33 an33 od34 an34 od35 an35 od36 an36 od37 an37 od38 an38 od39 an39 od40 an40 od41 an41 : Option Addr} {sl0 sl1 sl2 sl3 sl4 sl5 sl6 sl7 sl8 sl9 sl10 sl11 sl12 sl13 sl14 sl15 sl16 sl17 sl18 sl19 sl20 sl21 sl22 sl23 sl24 sl25 sl26 sl27 sl28 sl29 sl30 sl31 sl32 sl33 sl34 sl35 sl36 sl37 sl38 sl39 sl40 sl41 : Array (Option Value)} {oc0 kV0 dc0 pm0 cd0 ct0 oc1 kV1 dc1 pm1 cd1 ct1 oc2 kV2 dc2 pm2 cd2 ct2 oc3 kV3 dc3 pm3 cd3 ct3 oc4 kV4 dc4 pm4 cd4 ct4 oc5 kV5 dc5 pm5 cd5 ct5 oc6 kV6 dc6 pm6 cd6 ct6 oc7 kV7 dc7 pm7 cd7 ct7 oc8 kV8 dc8 pm8 cd8 ct8 oc9 kV9 dc9 pm9 cd9 ct9 oc10 kV10 dc10 pm10 cd10 ct10 oc11 kV11 dc11 pm11 cd11 ct11 oc12 kV12 dc12 pm12 cd12 ct12 oc13 kV13 dc13 pm13 cd13 ct13 oc14 kV14 dc14 pm14 cd14 ct14 oc15 kV15 dc15 pm15 cd15 ct15 oc16 kV16 dc16 pm16 cd16 ct16 oc17 kV17 dc17 pm17 cd17 ct17 oc18 kV18 dc18 pm18 cd18 ct18 oc19 kV19 dc19 pm19 cd19 ct19 oc20 kV20 dc20 pm20 cd20 ct20 oc21 kV21 dc21 pm21 cd21 ct21 oc22 kV22 dc22 pm22 cd22 ct22 oc23 kV23 dc23 pm23 cd23 ct23 oc24 kV24 dc24 pm24 cd24 ct24 oc25 kV25 dc25 pm25 cd25 ct25 oc26 kV26 dc26 pm26 cd26 ct26 oc27 kV27 dc27 pm27 cd27 ct27 oc28 kV28 dc28 pm28 cd28 ct28 oc29 kV29 dc29 pm29 cd29 ct29 oc30 kV30 dc30 pm30 cd30 ct30 oc31 kV31 dc31 pm31 cd31 ct31 oc32 kV32 dc32 pm32 cd32 ct32 oc33 kV33 dc33 pm33 cd33 ct33 oc34 kV34 dc34 pm34 cd34 ct34 oc35 kV35 dc35 pm35 cd35 ct35 oc36 kV36 dc36 pm36 cd36 ct36 oc37 kV37 dc37 pm37 cd37 ct37 oc38 kV38 dc38 pm38 cd38 ct38 oc39 kV39 dc39 pm39 cd39 ct39 oc40 kV40 dc40 pm40 cd40 ct40 oc41 kV41 dc41 pm41 cd41 ct41 : Value} {t_MOST_BITS gt_WORDS_0 gt_WORDS_1 gt_WORDS_2 gt_WORDS_3 gt_WORDS_4 gt_WORDS_5 : Tok} {gd_WORDS : Option Addr} {gn_WORDS : Nat} {gs_WORDS : Array (Option Value)}
    (m_Kind : PySem.W.nsIn K mainGlobals "Kind" = some (some (.ref C_Kind)))
    (a0 : PySem.W.nsIn K mainGlobals "is_integer" = some (some (.ref f0)))
    (l0 : K.lookup f0 = some ⟨oc0, od0, .func (PySem.W.fnOf "is_integer" "is_integer" (defArgs s_is_integer) (defBody s_is_integer) (defScope s_is_integer) .none kV0 dc0 pm0 an0 cd0 ct0), sl0⟩)
    (c0 : PySem.W.codeIn K cd0 "is_integer" = true)
    (k0 : PySem.W.keepIn K (.ref f0) = true)
    (a1 : PySem.W.nsIn K mainGlobals "is_between" = some (some (.ref f1)))
    (l1 : K.lookup f1 = some ⟨oc1, od1, .func (PySem.W.fnOf "is_between" "is_between" (defArgs s_is_between) (defBody s_is_between) (defScope s_is_between) .none kV1 dc1 pm1 an1 cd1 ct1), sl1⟩)
    (c1 : PySem.W.codeIn K cd1 "is_between" = true)
    (k1 : PySem.W.keepIn K (.ref f1) = true)
    (a2 : PySem.W.nsIn K mainGlobals "check_between" = some (some (.ref f2)))
    (l2 : K.lookup f2 = some ⟨oc2, od2, .func (PySem.W.fnOf "check_between" "check_between" (defArgs s_check_between) (defBody s_check_between) (defScope s_check_between) .none kV2 dc2 pm2 an2 cd2 ct2), sl2⟩)
    (c2 : PySem.W.codeIn K cd2 "check_between" = true)
    (k2 : PySem.W.keepIn K (.ref f2) = true)
    (a3 : PySem.W.nsIn K mainGlobals "check_kind" = some (some (.ref f3)))
    (l3 : K.lookup f3 = some ⟨oc3, od3, .func (PySem.W.fnOf "check_kind" "check_kind" (defArgs s_check_kind) (defBody s_check_kind) (defScope s_check_kind) .none kV3 dc3 pm3 an3 cd3 ct3), sl3⟩)
    (c3 : PySem.W.codeIn K cd3 "check_kind" = true)
    (k3 : PySem.W.keepIn K (.ref f3) = true)
    (a4 : PySem.W.nsIn K mainGlobals "size_of" = some (some (.ref f4)))
    (l4 : K.lookup f4 = some ⟨oc4, od4, .func (PySem.W.fnOf "size_of" "size_of" (defArgs s_size_of) (defBody s_size_of) (defScope s_size_of) .none kV4 dc4 pm4 an4 cd4 ct4), sl4⟩)
    (c4 : PySem.W.codeIn K cd4 "size_of" = true)
    (k4 : PySem.W.keepIn K (.ref f4) = true)
    (a5 : PySem.W.nsIn K mainGlobals "low_of" = some (some (.ref f5)))
    (l5 : K.lookup f5 = some ⟨oc5, od5, .func (PySem.W.fnOf "low_of" "low_of" (defArgs s_low_of) (defBody s_low_of) (defScope s_low_of) .none kV5 dc5 pm5 an5 cd5 ct5), sl5⟩)
    (c5 : PySem.W.codeIn K cd5 "low_of" = true)
    (k5 : PySem.W.keepIn K (.ref f5) = true)
    (a6 : PySem.W.nsIn K mainGlobals "placed" = some (some (.ref f6)))
    (l6 : K.lookup f6 = some ⟨oc6, od6, .func (PySem.W.fnOf "placed" "placed" (defArgs s_placed) (defBody s_placed) (defScope s_placed) .none kV6 dc6 pm6 an6 cd6 ct6), sl6⟩)
    (c6 : PySem.W.codeIn K cd6 "placed" = true)
    (k6 : PySem.W.keepIn K (.ref f6) = true)
    (a7 : PySem.W.nsIn K mainGlobals "check_value" = some (some (.ref f7)))
    (l7 : K.lookup f7 = some ⟨oc7, od7, .func (PySem.W.fnOf "check_value" "check_value" (defArgs s_check_value) (defBody s_check_value) (defScope s_check_value) .none kV7 dc7 pm7 an7 cd7 ct7), sl7⟩)
    (c7 : PySem.W.codeIn K cd7 "check_value" = true)
    (k7 : PySem.W.keepIn K (.ref f7) = true)
    (a8 : PySem.W.nsIn K mainGlobals "inverse_of" = some (some (.ref f8)))
    (l8 : K.lookup f8 = some ⟨oc8, od8, .func (PySem.W.fnOf "inverse_of" "inverse_of" (defArgs s_inverse_of) (defBody s_inverse_of) (defScope s_inverse_of) .none kV8 dc8 pm8 an8 cd8 ct8), sl8⟩)
    (c8 : PySem.W.codeIn K cd8 "inverse_of" = true)
    (k8 : PySem.W.keepIn K (.ref f8) = true)
    (a9 : PySem.W.nsIn K mainGlobals "inverse" = some (some (.ref f9)))
    (l9 : K.lookup f9 = some ⟨oc9, od9, .func (PySem.W.fnOf "inverse" "inverse" (defArgs s_inverse) (defBody s_inverse) (defScope s_inverse) .none kV9 dc9 pm9 an9 cd9 ct9), sl9⟩)
    (c9 : PySem.W.codeIn K cd9 "inverse" = true)
    (k9 : PySem.W.keepIn K (.ref f9) = true)
    (a10 : PySem.W.nsIn K mainGlobals "twos_in" = some (some (.ref f10)))
    (l10 : K.lookup f10 = some ⟨oc10, od10, .func (PySem.W.fnOf "twos_in" "twos_in" (defArgs s_twos_in) (defBody s_twos_in) (defScope s_twos_in) .none kV10 dc10 pm10 an10 cd10 ct10), sl10⟩)
    (c10 : PySem.W.codeIn K cd10 "twos_in" = true)
    (k10 : PySem.W.keepIn K (.ref f10) = true)
    (a11 : PySem.W.nsIn K mainGlobals "check_word" = some (some (.ref f11)))
    (l11 : K.lookup f11 = some ⟨oc11, od11, .func (PySem.W.fnOf "check_word" "check_word" (defArgs s_check_word) (defBody s_check_word) (defScope s_check_word) .none kV11 dc11 pm11 an11 cd11 ct11), sl11⟩)
    (c11 : PySem.W.codeIn K cd11 "check_word" = true)
    (k11 : PySem.W.keepIn K (.ref f11) = true)
    (a12 : PySem.W.nsIn K mainGlobals "check_loop" = some (some (.ref f12)))
    (l12 : K.lookup f12 = some ⟨oc12, od12, .func (PySem.W.fnOf "check_loop" "check_loop" (defArgs s_check_loop) (defBody s_check_loop) (defScope s_check_loop) .none kV12 dc12 pm12 an12 cd12 ct12), sl12⟩)
    (c12 : PySem.W.codeIn K cd12 "check_loop" = true)
    (k12 : PySem.W.keepIn K (.ref f12) = true)
    (a13 : PySem.W.nsIn K mainGlobals "first_multiple" = some (some (.ref f13)))
    (l13 : K.lookup f13 = some ⟨oc13, od13, .func (PySem.W.fnOf "first_multiple" "first_multiple" (defArgs s_first_multiple) (defBody s_first_multiple) (defScope s_first_multiple) .none kV13 dc13 pm13 an13 cd13 ct13), sl13⟩)
    (c13 : PySem.W.codeIn K cd13 "first_multiple" = true)
    (k13 : PySem.W.keepIn K (.ref f13) = true)
    (a14 : PySem.W.nsIn K mainGlobals "first_within" = some (some (.ref f14)))
    (l14 : K.lookup f14 = some ⟨oc14, od14, .func (PySem.W.fnOf "first_within" "first_within" (defArgs s_first_within) (defBody s_first_within) (defScope s_first_within) .none kV14 dc14 pm14 an14 cd14 ct14), sl14⟩)
    (c14 : PySem.W.codeIn K cd14 "first_within" = true)
    (k14 : PySem.W.keepIn K (.ref f14) = true)
    (a15 : PySem.W.nsIn K mainGlobals "floor_sum" = some (some (.ref f15)))
    (l15 : K.lookup f15 = some ⟨oc15, od15, .func (PySem.W.fnOf "floor_sum" "floor_sum" (defArgs s_floor_sum) (defBody s_floor_sum) (defScope s_floor_sum) .none kV15 dc15 pm15 an15 cd15 ct15), sl15⟩)
    (c15 : PySem.W.codeIn K cd15 "floor_sum" = true)
    (k15 : PySem.W.keepIn K (.ref f15) = true)
    (a16 : PySem.W.nsIn K mainGlobals "many_within" = some (some (.ref f16)))
    (l16 : K.lookup f16 = some ⟨oc16, od16, .func (PySem.W.fnOf "many_within" "many_within" (defArgs s_many_within) (defBody s_many_within) (defScope s_many_within) .none kV16 dc16 pm16 an16 cd16 ct16), sl16⟩)
    (c16 : PySem.W.codeIn K cd16 "many_within" = true)
    (k16 : PySem.W.keepIn K (.ref f16) = true)
    (a17 : PySem.W.nsIn K mainGlobals "stops" = some (some (.ref f17)))
    (l17 : K.lookup f17 = some ⟨oc17, od17, .func (PySem.W.fnOf "stops" "stops" (defArgs s_stops) (defBody s_stops) (defScope s_stops) .none kV17 dc17 pm17 an17 cd17 ct17), sl17⟩)
    (c17 : PySem.W.codeIn K cd17 "stops" = true)
    (k17 : PySem.W.keepIn K (.ref f17) = true)
    (a18 : PySem.W.nsIn K mainGlobals "rounds_of" = some (some (.ref f18)))
    (l18 : K.lookup f18 = some ⟨oc18, od18, .func (PySem.W.fnOf "rounds_of" "rounds_of" (defArgs s_rounds_of) (defBody s_rounds_of) (defScope s_rounds_of) .none kV18 dc18 pm18 an18 cd18 ct18), sl18⟩)
    (c18 : PySem.W.codeIn K cd18 "rounds_of" = true)
    (k18 : PySem.W.keepIn K (.ref f18) = true)
    (a19 : PySem.W.nsIn K mainGlobals "rounds" = some (some (.ref f19)))
    (l19 : K.lookup f19 = some ⟨oc19, od19, .func (PySem.W.fnOf "rounds" "rounds" (defArgs s_rounds) (defBody s_rounds) (defScope s_rounds) .none kV19 dc19 pm19 an19 cd19 ct19), sl19⟩)
    (c19 : PySem.W.codeIn K cd19 "rounds" = true)
    (k19 : PySem.W.keepIn K (.ref f19) = true)
    (a20 : PySem.W.nsIn K mainGlobals "round_value" = some (some (.ref f20)))
    (l20 : K.lookup f20 = some ⟨oc20, od20, .func (PySem.W.fnOf "round_value" "round_value" (defArgs s_round_value) (defBody s_round_value) (defScope s_round_value) .none kV20 dc20 pm20 an20 cd20 ct20), sl20⟩)
    (c20 : PySem.W.codeIn K cd20 "round_value" = true)
    (k20 : PySem.W.keepIn K (.ref f20) = true)
    (a21 : PySem.W.nsIn K mainGlobals "end_value" = some (some (.ref f21)))
    (l21 : K.lookup f21 = some ⟨oc21, od21, .func (PySem.W.fnOf "end_value" "end_value" (defArgs s_end_value) (defBody s_end_value) (defScope s_end_value) .none kV21 dc21 pm21 an21 cd21 ct21), sl21⟩)
    (c21 : PySem.W.codeIn K cd21 "end_value" = true)
    (k21 : PySem.W.keepIn K (.ref f21) = true)
    (a22 : PySem.W.nsIn K mainGlobals "check_rounds" = some (some (.ref f22)))
    (l22 : K.lookup f22 = some ⟨oc22, od22, .func (PySem.W.fnOf "check_rounds" "check_rounds" (defArgs s_check_rounds) (defBody s_check_rounds) (defScope s_check_rounds) .none kV22 dc22 pm22 an22 cd22 ct22), sl22⟩)
    (c22 : PySem.W.codeIn K cd22 "check_rounds" = true)
    (k22 : PySem.W.keepIn K (.ref f22) = true)
    (a23 : PySem.W.nsIn K mainGlobals "wraps" = some (some (.ref f23)))
    (l23 : K.lookup f23 = some ⟨oc23, od23, .func (PySem.W.fnOf "wraps" "wraps" (defArgs s_wraps) (defBody s_wraps) (defScope s_wraps) .none kV23 dc23 pm23 an23 cd23 ct23), sl23⟩)
    (c23 : PySem.W.codeIn K cd23 "wraps" = true)
    (k23 : PySem.W.keepIn K (.ref f23) = true)
    (a24 : PySem.W.nsIn K mainGlobals "rounds_within" = some (some (.ref f24)))
    (l24 : K.lookup f24 = some ⟨oc24, od24, .func (PySem.W.fnOf "rounds_within" "rounds_within" (defArgs s_rounds_within) (defBody s_rounds_within) (defScope s_rounds_within) .none kV24 dc24 pm24 an24 cd24 ct24), sl24⟩)
    (c24 : PySem.W.codeIn K cd24 "rounds_within" = true)
    (k24 : PySem.W.keepIn K (.ref f24) = true)
    (a25 : PySem.W.nsIn K mainGlobals "endless_starts" = some (some (.ref f25)))
    (l25 : K.lookup f25 = some ⟨oc25, od25, .func (PySem.W.fnOf "endless_starts" "endless_starts" (defArgs s_endless_starts) (defBody s_endless_starts) (defScope s_endless_starts) .none kV25 dc25 pm25 an25 cd25 ct25), sl25⟩)
    (c25 : PySem.W.codeIn K cd25 "endless_starts" = true)
    (k25 : PySem.W.keepIn K (.ref f25) = true)
    (a26 : PySem.W.nsIn K mainGlobals "_law_source_of" = some (some (.ref f26)))
    (l26 : K.lookup f26 = some ⟨oc26, od26, .func (PySem.W.fnOf "_law_source_of" "_law_source_of" (defArgs s__law_source_of) (defBody s__law_source_of) (defScope s__law_source_of) .none kV26 dc26 pm26 an26 cd26 ct26), sl26⟩)
    (c26 : PySem.W.codeIn K cd26 "_law_source_of" = true)
    (k26 : PySem.W.keepIn K (.ref f26) = true)
    (a27 : PySem.W.nsIn K mainGlobals "_law_next" = some (some (.ref f27)))
    (l27 : K.lookup f27 = some ⟨oc27, od27, .func (PySem.W.fnOf "_law_next" "_law_next" (defArgs s__law_next) (defBody s__law_next) (defScope s__law_next) .none kV27 dc27 pm27 an27 cd27 ct27), sl27⟩)
    (c27 : PySem.W.codeIn K cd27 "_law_next" = true)
    (k27 : PySem.W.keepIn K (.ref f27) = true)
    (a28 : PySem.W.nsIn K mainGlobals "_law_one" = some (some (.ref f28)))
    (l28 : K.lookup f28 = some ⟨oc28, od28, .func (PySem.W.fnOf "_law_one" "_law_one" (defArgs s__law_one) (defBody s__law_one) (defScope s__law_one) .none kV28 dc28 pm28 an28 cd28 ct28), sl28⟩)
    (c28 : PySem.W.codeIn K cd28 "_law_one" = true)
    (k28 : PySem.W.keepIn K (.ref f28) = true)
    (a29 : PySem.W.nsIn K mainGlobals "_law_cell_at" = some (some (.ref f29)))
    (l29 : K.lookup f29 = some ⟨oc29, od29, .func (PySem.W.fnOf "_law_cell_at" "_law_cell_at" (defArgs s__law_cell_at) (defBody s__law_cell_at) (defScope s__law_cell_at) .none kV29 dc29 pm29 an29 cd29 ct29), sl29⟩)
    (c29 : PySem.W.codeIn K cd29 "_law_cell_at" = true)
    (k29 : PySem.W.keepIn K (.ref f29) = true)
    (a30 : PySem.W.nsIn K mainGlobals "_law_wide" = some (some (.ref f30)))
    (l30 : K.lookup f30 = some ⟨oc30, od30, .func (PySem.W.fnOf "_law_wide" "_law_wide" (defArgs s__law_wide) (defBody s__law_wide) (defScope s__law_wide) .none kV30 dc30 pm30 an30 cd30 ct30), sl30⟩)
    (c30 : PySem.W.codeIn K cd30 "_law_wide" = true)
    (k30 : PySem.W.keepIn K (.ref f30) = true)
    (a31 : PySem.W.nsIn K mainGlobals "_law_draw_kind" = some (some (.ref f31)))
    (l31 : K.lookup f31 = some ⟨oc31, od31, .func (PySem.W.fnOf "_law_draw_kind" "_law_draw_kind" (defArgs s__law_draw_kind) (defBody s__law_draw_kind) (defScope s__law_draw_kind) .none kV31 dc31 pm31 an31 cd31 ct31), sl31⟩)
    (c31 : PySem.W.codeIn K cd31 "_law_draw_kind" = true)
    (k31 : PySem.W.keepIn K (.ref f31) = true)
    (a32 : PySem.W.nsIn K mainGlobals "_law_value" = some (some (.ref f32)))
    (l32 : K.lookup f32 = some ⟨oc32, od32, .func (PySem.W.fnOf "_law_value" "_law_value" (defArgs s__law_value) (defBody s__law_value) (defScope s__law_value) .none kV32 dc32 pm32 an32 cd32 ct32), sl32⟩)
    (c32 : PySem.W.codeIn K cd32 "_law_value" = true)
    (k32 : PySem.W.keepIn K (.ref f32) = true)
    (a33 : PySem.W.nsIn K mainGlobals "_law_put" = some (some (.ref f33)))
    (l33 : K.lookup f33 = some ⟨oc33, od33, .func (PySem.W.fnOf "_law_put" "_law_put" (defArgs s__law_put) (defBody s__law_put) (defScope s__law_put) .none kV33 dc33 pm33 an33 cd33 ct33), sl33⟩)
    (c33 : PySem.W.codeIn K cd33 "_law_put" = true)
    (k33 : PySem.W.keepIn K (.ref f33) = true)
    (a34 : PySem.W.nsIn K mainGlobals "_law_counted_right" = some (some (.ref f34)))
    (l34 : K.lookup f34 = some ⟨oc34, od34, .func (PySem.W.fnOf "_law_counted_right" "_law_counted_right" (defArgs s__law_counted_right) (defBody s__law_counted_right) (defScope s__law_counted_right) .none kV34 dc34 pm34 an34 cd34 ct34), sl34⟩)
    (c34 : PySem.W.codeIn K cd34 "_law_counted_right" = true)
    (k34 : PySem.W.keepIn K (.ref f34) = true)
    (a35 : PySem.W.nsIn K mainGlobals "_law_met_right" = some (some (.ref f35)))
    (l35 : K.lookup f35 = some ⟨oc35, od35, .func (PySem.W.fnOf "_law_met_right" "_law_met_right" (defArgs s__law_met_right) (defBody s__law_met_right) (defScope s__law_met_right) .none kV35 dc35 pm35 an35 cd35 ct35), sl35⟩)
    (c35 : PySem.W.codeIn K cd35 "_law_met_right" = true)
    (k35 : PySem.W.keepIn K (.ref f35) = true)
    (a36 : PySem.W.nsIn K mainGlobals "_law_around_right" = some (some (.ref f36)))
    (l36 : K.lookup f36 = some ⟨oc36, od36, .func (PySem.W.fnOf "_law_around_right" "_law_around_right" (defArgs s__law_around_right) (defBody s__law_around_right) (defScope s__law_around_right) .none kV36 dc36 pm36 an36 cd36 ct36), sl36⟩)
    (c36 : PySem.W.codeIn K cd36 "_law_around_right" = true)
    (k36 : PySem.W.keepIn K (.ref f36) = true)
    (a37 : PySem.W.nsIn K mainGlobals "_law_endless_right" = some (some (.ref f37)))
    (l37 : K.lookup f37 = some ⟨oc37, od37, .func (PySem.W.fnOf "_law_endless_right" "_law_endless_right" (defArgs s__law_endless_right) (defBody s__law_endless_right) (defScope s__law_endless_right) .none kV37 dc37 pm37 an37 cd37 ct37), sl37⟩)
    (c37 : PySem.W.codeIn K cd37 "_law_endless_right" = true)
    (k37 : PySem.W.keepIn K (.ref f37) = true)
    (a38 : PySem.W.nsIn K mainGlobals "law" = some (some (.ref f38)))
    (l38 : K.lookup f38 = some ⟨oc38, od38, .func (PySem.W.fnOf "law" "law" (defArgs s_law) (defBody s_law) (defScope s_law) .none kV38 dc38 pm38 an38 cd38 ct38), sl38⟩)
    (c38 : PySem.W.codeIn K cd38 "law" = true)
    (k38 : PySem.W.keepIn K (.ref f38) = true)
    (a39 : PySem.W.findIn K (.ref C_Kind) "__init__" = some (some (.ref f39)))
    (i39 : PySem.W.isFn K (.ref f39) = true)
    (l39 : K.lookup f39 = some ⟨oc39, od39, .func (PySem.W.fnOf "__init__" "Kind.__init__" (defArgs s_Kind_init) (defBody s_Kind_init) (defScope s_Kind_init) .none kV39 dc39 pm39 an39 cd39 ct39), sl39⟩)
    (c39 : PySem.W.codeIn K cd39 "Kind.__init__" = true)
    (k39 : PySem.W.keepIn K (.ref f39) = true)
    (a40 : PySem.W.findIn K (.ref C_Kind) "__eq__" = some (some (.ref f40)))
    (i40 : PySem.W.isFn K (.ref f40) = true)
    (l40 : K.lookup f40 = some ⟨oc40, od40, .func (PySem.W.fnOf "__eq__" "Kind.__eq__" (defArgs s_Kind_eq) (defBody s_Kind_eq) (defScope s_Kind_eq) .none kV40 dc40 pm40 an40 cd40 ct40), sl40⟩)
    (c40 : PySem.W.codeIn K cd40 "Kind.__eq__" = true)
    (k40 : PySem.W.keepIn K (.ref f40) = true)
    (a41 : PySem.W.findIn K (.ref C_Kind) "parts" = some (some (.ref f41)))
    (i41 : PySem.W.isFn K (.ref f41) = true)
    (l41 : K.lookup f41 = some ⟨oc41, od41, .func (PySem.W.fnOf "parts" "Kind.parts" (defArgs s_Kind_parts) (defBody s_Kind_parts) (defScope s_Kind_parts) .none kV41 dc41 pm41 an41 cd41 ct41), sl41⟩)
    (c41 : PySem.W.codeIn K cd41 "Kind.parts" = true)
    (k41 : PySem.W.keepIn K (.ref f41) = true)
    (pg_Kind : PySem.W.plainGet K C_Kind Str.empty = true)
    (hd_Kind : PySem.W.hasDictIn K C_Kind = true)
    (po_Kind : PySem.W.plainOver K C_Kind = true)
    (sa_Kind : PySem.W.findIn K (.ref C_Kind) "__setattr__" = some (some (.builtin "object.__setattr__")))
    (mk_Kind : PySem.W.makesIn K C_Kind = true)
    (kc_Kind : PySem.W.keepIn K (.ref C_Kind) = true)
    (ha_Kind : PySem.W.findIn K (.ref C_Kind) "__class__" = some (some (.builtin "object.__class__")))
    (hm_Kind : PySem.W.mroIn K C_Kind (.type "object") = some true)
    (kn_Kind : PySem.W.kitOne K (.type "NoneType") (.ref C_Kind) = some false)
    (kt_Kind_int : PySem.W.kitOne K (.type "int") (.ref C_Kind) = some false)
    (ks_Kind_int : PySem.W.kitOne K (.ref C_Kind) (.type "int") = some false)
    (kt_Kind_bool : PySem.W.kitOne K (.type "bool") (.ref C_Kind) = some false)
    (ks_Kind_bool : PySem.W.kitOne K (.ref C_Kind) (.type "bool") = some false)
    (kt_Kind_str : PySem.W.kitOne K (.type "str") (.ref C_Kind) = some false)
    (ks_Kind_str : PySem.W.kitOne K (.ref C_Kind) (.type "str") = some false)
    (kt_Kind_tuple : PySem.W.kitOne K (.type "tuple") (.ref C_Kind) = some false)
    (ks_Kind_tuple : PySem.W.kitOne K (.ref C_Kind) (.type "tuple") = some false)
    (kt_Kind_list : PySem.W.kitOne K (.type "list") (.ref C_Kind) = some false)
    (ks_Kind_list : PySem.W.kitOne K (.ref C_Kind) (.type "list") = some false)
    (kt_Kind_dict : PySem.W.kitOne K (.type "dict") (.ref C_Kind) = some false)
    (ks_Kind_dict : PySem.W.kitOne K (.ref C_Kind) (.type "dict") = some false)
    (kk_Kind_Kind : PySem.W.kitOne K (.ref C_Kind) (.ref C_Kind) = some true)
    (nf_Kind_bits : PySem.W.findIn K (.ref C_Kind) "bits" = some none)
    (nf_Kind_is_signed : PySem.W.findIn K (.ref C_Kind) "is_signed" = some none)
    (hn : PySem.W.specialIn K (.builtin "object.__class__") "__get__" = some (some (.builtin "getset_descriptor.__get__")))
    (htk : PySem.W.takesIn K (.builtin "object.__class__") = some true)
    (b_abs : PySem.W.nsIn K mainGlobals "abs" = some none)
    (b_bool : PySem.W.nsIn K mainGlobals "bool" = some none)
    (b_int : PySem.W.nsIn K mainGlobals "int" = some none)
    (b_isinstance : PySem.W.nsIn K mainGlobals "isinstance" = some none)
    (b_len : PySem.W.nsIn K mainGlobals "len" = some none)
    (b_max : PySem.W.nsIn K mainGlobals "max" = some none)
    (b_min : PySem.W.nsIn K mainGlobals "min" = some none)
    (b_range : PySem.W.nsIn K mainGlobals "range" = some none)
    (b_sorted : PySem.W.nsIn K mainGlobals "sorted" = some none)
    (b_str : PySem.W.nsIn K mainGlobals "str" = some none)
    (b_tuple : PySem.W.nsIn K mainGlobals "tuple" = some none)
    (g_MOST_BITS : PySem.W.nsIn K mainGlobals "MOST_BITS" = some (some (.int 128 t_MOST_BITS)))
    (g_WORDS : PySem.W.nsIn K mainGlobals "WORDS" = some (some (.ref g_a_WORDS)))
    (gl_WORDS : K.lookup g_a_WORDS = some ⟨.type "tuple", gd_WORDS, .seq #[.str "<" gt_WORDS_0, .str "<=" gt_WORDS_1, .str ">" gt_WORDS_2, .str ">=" gt_WORDS_3, .str "==" gt_WORDS_4, .str "!=" gt_WORDS_5] gn_WORDS, gs_WORDS⟩)
    : ∃ fd : FuncData, (∀ (s : Shared) (v : Value), BindsTo s fd ⟨[v], []⟩ [("_law_script", v)]) ∧ ∀ base : Heap, K.In base → base.Ns mainGlobals mg → FnOk l.prog w K mg base CX0 147 fa fd ["_law_script"] (toSp K (spLaw)) := by
  have e := hfa.symm.trans (PySem.W.mg_of X G a38)
  cases e
  have F0 := fun_mk (st := s_is_integer) l0 c0 k0
  have b0 := F0.binds (ps := ["value"]) fun _ _ _ _ _ _ us hl => match us, hl with | [_], _ => rfl
  have F1 := fun_mk (st := s_is_between) l1 c1 k1
  have b1 := F1.binds (ps := ["value", "low", "high"]) fun _ _ _ _ _ _ us hl => match us, hl with | [_, _, _], _ => rfl
  have F2 := fun_mk (st := s_check_between) l2 c2 k2
  have b2 := F2.binds (ps := ["argument", "value", "low", "high"]) fun _ _ _ _ _ _ us hl => match us, hl with | [_, _, _, _], _ => rfl
  have F3 := fun_mk (st := s_check_kind) l3 c3 k3
  have b3 := F3.binds (ps := ["value"]) fun _ _ _ _ _ _ us hl => match us, hl with | [_], _ => rfl
  have F4 := fun_mk (st := s_size_of) l4 c4 k4
  have b4 := F4.binds (ps := ["kind"]) fun _ _ _ _ _ _ us hl => match us, hl with | [_], _ => rfl
  have F5 := fun_mk (st := s_low_of) l5 c5 k5
  have b5 := F5.binds (ps := ["kind"]) fun _ _ _ _ _ _ us hl => match us, hl with | [_], _ => rfl
  have F6 := fun_mk (st := s_placed) l6 c6 k6
  have b6 := F6.binds (ps := ["kind", "n"]) fun _ _ _ _ _ _ us hl => match us, hl with | [_, _], _ => rfl
  have F7 := fun_mk (st := s_check_value) l7 c7 k7
  have b7 := F7.binds (ps := ["kind", "argument", "value"]) fun _ _ _ _ _ _ us hl => match us, hl with | [_, _, _], _ => rfl
  have F8 := fun_mk (st := s_inverse_of) l8 c8 k8
  have b8 := F8.binds (ps := ["n", "bits"]) fun _ _ _ _ _ _ us hl => match us, hl with | [_, _], _ => rfl
  have F9 := fun_mk (st := s_inverse) l9 c9 k9
  have b9 := F9.binds (ps := ["kind", "x"]) fun _ _ _ _ _ _ us hl => match us, hl with | [_, _], _ => rfl
  have F10 := fun_mk (st := s_twos_in) l10 c10 k10
  have b10 := F10.binds (ps := ["n", "most"]) fun _ _ _ _ _ _ us hl => match us, hl with | [_, _], _ => rfl
  have F11 := fun_mk (st := s_check_word) l11 c11 k11
  have b11 := F11.binds (ps := ["argument", "value"]) fun _ _ _ _ _ _ us hl => match us, hl with | [_, _], _ => rfl
  have F12 := fun_mk (st := s_check_loop) l12 c12 k12
  have b12 := F12.binds (ps := ["kind", "value"]) fun _ _ _ _ _ _ us hl => match us, hl with | [_, _], _ => rfl
  have F13 := fun_mk (st := s_first_multiple) l13 c13 k13
  have b13 := F13.binds (ps := ["a", "size", "low", "high"]) fun _ _ _ _ _ _ us hl => match us, hl with | [_, _, _, _], _ => rfl
  have F14 := fun_mk (st := s_first_within) l14 c14 k14
  have b14 := F14.binds (ps := ["a", "b", "size", "low", "high"]) fun _ _ _ _ _ _ us hl => match us, hl with | [_, _, _, _, _], _ => rfl
  have F15 := fun_mk (st := s_floor_sum) l15 c15 k15
  have b15 := F15.binds (ps := ["many", "a", "b", "size"]) fun _ _ _ _ _ _ us hl => match us, hl with | [_, _, _, _], _ => rfl
  have F16 := fun_mk (st := s_many_within) l16 c16 k16
  have b16 := F16.binds (ps := ["many", "a", "b", "size", "low", "high"]) fun _ _ _ _ _ _ us hl => match us, hl with | [_, _, _, _, _, _], _ => rfl
  have F17 := fun_mk (st := s_stops) l17 c17 k17
  have b17 := F17.binds (ps := ["kind", "word", "b"]) fun _ _ _ _ _ _ us hl => match us, hl with | [_, _, _], _ => rfl
  have F18 := fun_mk (st := s_rounds_of) l18 c18 k18
  have b18 := F18.binds (ps := ["kind", "loop"]) fun _ _ _ _ _ _ us hl => match us, hl with | [_, _], _ => rfl
  have F19 := fun_mk (st := s_rounds) l19 c19 k19
  have b19 := F19.binds (ps := ["kind", "loop"]) fun _ _ _ _ _ _ us hl => match us, hl with | [_, _], _ => rfl
  have F20 := fun_mk (st := s_round_value) l20 c20 k20
  have b20 := F20.binds (ps := ["kind", "loop", "n"]) fun _ _ _ _ _ _ us hl => match us, hl with | [_, _, _], _ => rfl
  have F21 := fun_mk (st := s_end_value) l21 c21 k21
  have b21 := F21.binds (ps := ["kind", "loop"]) fun _ _ _ _ _ _ us hl => match us, hl with | [_, _], _ => rfl
  have F22 := fun_mk (st := s_check_rounds) l22 c22 k22
  have b22 := F22.binds (ps := ["kind", "loop", "n"]) fun _ _ _ _ _ _ us hl => match us, hl with | [_, _, _], _ => rfl
  have F23 := fun_mk (st := s_wraps) l23 c23 k23
  have b23 := F23.binds (ps := ["kind", "loop", "n"]) fun _ _ _ _ _ _ us hl => match us, hl with | [_, _, _], _ => rfl
  have F24 := fun_mk (st := s_rounds_within) l24 c24 k24
  have b24 := F24.binds (ps := ["kind", "loop", "low", "high", "n"]) fun _ _ _ _ _ _ us hl => match us, hl with | [_, _, _, _, _], _ => rfl
  have F25 := fun_mk (st := s_endless_starts) l25 c25 k25
  have b25 := F25.binds (ps := ["kind", "word", "b", "c"]) fun _ _ _ _ _ _ us hl => match us, hl with | [_, _, _, _], _ => rfl
  have F26 := fun_mk (st := s__law_source_of) l26 c26 k26
  have b26 := F26.binds (ps := ["_law_cell"]) fun _ _ _ _ _ _ us hl => match us, hl with | [_], _ => rfl
  have F27 := fun_mk (st := s__law_next) l27 c27 k27
  have b27 := F27.binds (ps := ["_law_source", "_law_many"]) fun _ _ _ _ _ _ us hl => match us, hl with | [_, _], _ => rfl
  have F28 := fun_mk (st := s__law_one) l28 c28 k28
  have b28 := F28.binds (ps := ["_law_source", "_law_some"]) fun _ _ _ _ _ _ us hl => match us, hl with | [_, _], _ => rfl
  have F29 := fun_mk (st := s__law_cell_at) l29 c29 k29
  have b29 := F29.binds (ps := ["_law_script", "_law_index"]) fun _ _ _ _ _ _ us hl => match us, hl with | [_, _], _ => rfl
  have F30 := fun_mk (st := s__law_wide) l30 c30 k30
  have b30 := F30.binds (ps := ["_law_source", "_law_m"]) fun _ _ _ _ _ _ us hl => match us, hl with | [_, _], _ => rfl
  have F31 := fun_mk (st := s__law_draw_kind) l31 c31 k31
  have b31 := F31.binds (ps := ["_law_source", "_law_most"]) fun _ _ _ _ _ _ us hl => match us, hl with | [_, _], _ => rfl
  have F32 := fun_mk (st := s__law_value) l32 c32 k32
  have b32 := F32.binds (ps := ["_law_source", "_law_low", "_law_size"]) fun _ _ _ _ _ _ us hl => match us, hl with | [_, _, _], _ => rfl
  have F33 := fun_mk (st := s__law_put) l33 c33 k33
  have b33 := F33.binds (ps := ["_law_n", "_law_low", "_law_size"]) fun _ _ _ _ _ _ us hl => match us, hl with | [_, _, _], _ => rfl
  have F34 := fun_mk (st := s__law_counted_right) l34 c34 k34
  have b34 := F34.binds (ps := ["_law_source", "_law_kind", "_law_low", "_law_size"]) fun _ _ _ _ _ _ us hl => match us, hl with | [_, _, _, _], _ => rfl
  have F35 := fun_mk (st := s__law_met_right) l35 c35 k35
  have b35 := F35.binds (ps := ["_law_source", "_law_kind", "_law_low", "_law_size"]) fun _ _ _ _ _ _ us hl => match us, hl with | [_, _, _, _], _ => rfl
  have F36 := fun_mk (st := s__law_around_right) l36 c36 k36
  have b36 := F36.binds (ps := ["_law_source", "_law_kind", "_law_low", "_law_size"]) fun _ _ _ _ _ _ us hl => match us, hl with | [_, _, _, _], _ => rfl
  have F37 := fun_mk (st := s__law_endless_right) l37 c37 k37
  have b37 := F37.binds (ps := ["_law_source", "_law_kind", "_law_low", "_law_size"]) fun _ _ _ _ _ _ us hl => match us, hl with | [_, _, _, _], _ => rfl
  have F38 := fun_mk (st := s_law) l38 c38 k38
  have b38 := F38.binds (ps := ["_law_script"]) fun _ _ _ _ _ _ us hl => match us, hl with | [_], _ => rfl
  have F39 := fun_mk (st := s_Kind_init) l39 c39 k39
  have b39 := F39.binds (ps := ["self", "bits", "is_signed"]) fun _ _ _ _ _ _ us hl => match us, hl with | [_, _, _], _ => rfl
  have F40 := fun_mk (st := s_Kind_eq) l40 c40 k40
  have b40 := F40.binds (ps := ["self", "other"]) fun _ _ _ _ _ _ us hl => match us, hl with | [_, _], _ => rfl
  have F41 := fun_mk (st := s_Kind_parts) l41 c41 k41
  have b41 := F41.binds (ps := ["self"]) fun _ _ _ _ _ _ us hl => match us, hl with | [_], _ => rfl
  have T : Txt K mg C_Kind := {
    h_is_integer := ⟨_, _, F0, PySem.W.mg_of X G a0, b0⟩
    h_is_between := ⟨_, _, F1, PySem.W.mg_of X G a1, b1⟩
    h_check_between := ⟨_, _, F2, PySem.W.mg_of X G a2, b2⟩
    h_check_kind := ⟨_, _, F3, PySem.W.mg_of X G a3, b3⟩
    h_size_of := ⟨_, _, F4, PySem.W.mg_of X G a4, b4⟩
    h_low_of := ⟨_, _, F5, PySem.W.mg_of X G a5, b5⟩
    h_placed := ⟨_, _, F6, PySem.W.mg_of X G a6, b6⟩
    h_check_value := ⟨_, _, F7, PySem.W.mg_of X G a7, b7⟩
    h_inverse_of := ⟨_, _, F8, PySem.W.mg_of X G a8, b8⟩
    h_inverse := ⟨_, _, F9, PySem.W.mg_of X G a9, b9⟩
    h_twos_in := ⟨_, _, F10, PySem.W.mg_of X G a10, b10⟩
    h_check_word := ⟨_, _, F11, PySem.W.mg_of X G a11, b11⟩
    h_check_loop := ⟨_, _, F12, PySem.W.mg_of X G a12, b12⟩
    h_first_multiple := ⟨_, _, F13, PySem.W.mg_of X G a13, b13⟩
    h_first_within := ⟨_, _, F14, PySem.W.mg_of X G a14, b14⟩
    h_floor_sum := ⟨_, _, F15, PySem.W.mg_of X G a15, b15⟩
    h_many_within := ⟨_, _, F16, PySem.W.mg_of X G a16, b16⟩
    h_stops := ⟨_, _, F17, PySem.W.mg_of X G a17, b17⟩
    h_rounds_of := ⟨_, _, F18, PySem.W.mg_of X G a18, b18⟩
    h_rounds := ⟨_, _, F19, PySem.W.mg_of X G a19, b19⟩
    h_round_value := ⟨_, _, F20, PySem.W.mg_of X G a20, b20⟩
    h_end_value := ⟨_, _, F21, PySem.W.mg_of X G a21, b21⟩
    h_check_rounds := ⟨_, _, F22, PySem.W.mg_of X G a22, b22⟩
    h_wraps := ⟨_, _, F23, PySem.W.mg_of X G a23, b23⟩
    h_rounds_within := ⟨_, _, F24, PySem.W.mg_of X G a24, b24⟩
    h_endless_starts := ⟨_, _, F25, PySem.W.mg_of X G a25, b25⟩
    h__law_source_of := ⟨_, _, F26, PySem.W.mg_of X G a26, b26⟩
    h__law_next := ⟨_, _, F27, PySem.W.mg_of X G a27, b27⟩
    h__law_one := ⟨_, _, F28, PySem.W.mg_of X G a28, b28⟩
    h__law_cell_at := ⟨_, _, F29, PySem.W.mg_of X G a29, b29⟩
    h__law_wide := ⟨_, _, F30, PySem.W.mg_of X G a30, b30⟩
    h__law_draw_kind := ⟨_, _, F31, PySem.W.mg_of X G a31, b31⟩
    h__law_value := ⟨_, _, F32, PySem.W.mg_of X G a32, b32⟩
    h__law_put := ⟨_, _, F33, PySem.W.mg_of X G a33, b33⟩
    h__law_counted_right := ⟨_, _, F34, PySem.W.mg_of X G a34, b34⟩
    h__law_met_right := ⟨_, _, F35, PySem.W.mg_of X G a35, b35⟩
    h__law_around_right := ⟨_, _, F36, PySem.W.mg_of X G a36, b36⟩
    h__law_endless_right := ⟨_, _, F37, PySem.W.mg_of X G a37, b37⟩
    h_law := ⟨_, _, F38, PySem.W.mg_of X G a38, b38⟩
    mg_Kind := PySem.W.mg_of X G m_Kind
    cl_Kind := ⟨pg_Kind, hd_Kind, po_Kind, sa_Kind⟩
    ck_Kind := ⟨⟨⟨pg_Kind, hd_Kind, po_Kind, sa_Kind⟩, ha_Kind, hn, htk, hm_Kind⟩, kn_Kind, fun t => by cases t <;> assumption, fun t => by cases t <;> assumption, kk_Kind_Kind⟩
    nf_Kind_bits := nf_Kind_bits
    nf_Kind_is_signed := nf_Kind_is_signed
    h_Kind_init := ⟨_, _, F39, PySem.W.mg_of X G m_Kind, ⟨mk_Kind, a39, i39, kc_Kind⟩, b39⟩
    h_Kind_eq := ⟨_, _, F40, ⟨a40, i40, k40⟩, b40⟩
    h_Kind_parts := ⟨_, _, F41, ⟨a41, i41, k41⟩, b41⟩
    b_abs := PySem.W.mg_none_of X G b_abs
    b_bool := PySem.W.mg_none_of X G b_bool
    b_int := PySem.W.mg_none_of X G b_int
    b_isinstance := PySem.W.mg_none_of X G b_isinstance
    b_len := PySem.W.mg_none_of X G b_len
    b_max := PySem.W.mg_none_of X G b_max
    b_min := PySem.W.mg_none_of X G b_min
    b_range := PySem.W.mg_none_of X G b_range
    b_sorted := PySem.W.mg_none_of X G b_sorted
    b_str := PySem.W.mg_none_of X G b_str
    b_tuple := PySem.W.mg_none_of X G b_tuple
    g_MOST_BITS := ⟨_, PySem.W.mg_of X G g_MOST_BITS⟩
    g_WORDS := ⟨_, PySem.W.mg_of X G g_WORDS, .inr ⟨_, _, _, gl_WORDS, rfl, rfl, by show 6 ≤ sizeLine; decide, (.cons ⟨_, rfl⟩ (.cons ⟨_, rfl⟩ (.cons ⟨_, rfl⟩ (.cons ⟨_, rfl⟩ (.cons ⟨_, rfl⟩ (.cons ⟨_, rfl⟩ .nil))))))⟩⟩
  }
  refine ⟨PySem.W.fnOf "law" "law" (defArgs s_law) (defBody s_law) (defScope s_law) .none kV38 dc38 pm38 an38 cd38 ct38, fun s v => .of_eq rfl, fun base _ _ => ?_⟩
  have F__law_source_of := ok__law_source_of (P := l.prog) (w := w) (base := base) T
  have F_is_integer := ok_is_integer (P := l.prog) (w := w) (base := base) T
  have F_is_between := ok_is_between (P := l.prog) (w := w) (base := base) T F_is_integer
  have F_Kind_init := ok_Kind_init (P := l.prog) (w := w) (base := base) T F_is_between
  have F__law_next := ok__law_next (P := l.prog) (w := w) (base := base) T
  have F__law_draw_kind := ok__law_draw_kind (P := l.prog) (w := w) (base := base) T F_Kind_init F__law_next
  have F__law_cell_at := ok__law_cell_at (P := l.prog) (w := w) (base := base) T
  have F__law_wide := ok__law_wide (P := l.prog) (w := w) (base := base) T F__law_next
  have F__law_one := ok__law_one (P := l.prog) (w := w) (base := base) T F__law_next
  have F__law_value := ok__law_value (P := l.prog) (w := w) (base := base) T F__law_one F__law_wide F__law_next
  have F_check_kind := ok_check_kind (P := l.prog) (w := w) (base := base) T
  have F_check_word := ok_check_word (P := l.prog) (w := w) (base := base) T
  have F_check_between := ok_check_between (P := l.prog) (w := w) (base := base) T F_is_between
  have F_low_of := ok_low_of (P := l.prog) (w := w) (base := base) T
  have F_size_of := ok_size_of (P := l.prog) (w := w) (base := base) T
  have F_check_value := ok_check_value (P := l.prog) (w := w) (base := base) T F_check_between F_low_of F_size_of
  have F_check_loop := ok_check_loop (P := l.prog) (w := w) (base := base) T F_check_kind F_check_word F_check_value
  have F_stops := ok_stops (P := l.prog) (w := w) (base := base) T F_size_of F_low_of
  have F_first_multiple := ok_first_multiple (P := l.prog) (w := w) (base := base) T
  have F_first_within := ok_first_within (P := l.prog) (w := w) (base := base) T F_first_multiple
  have F_rounds_of := ok_rounds_of (P := l.prog) (w := w) (base := base) T F_stops F_first_within F_size_of F_low_of
  have F_rounds := ok_rounds (P := l.prog) (w := w) (base := base) T F_check_loop F_rounds_of
  have F_check_rounds := ok_check_rounds (P := l.prog) (w := w) (base := base) T F_rounds_of F_is_integer
  have F_wraps := ok_wraps (P := l.prog) (w := w) (base := base) T F_check_loop F_check_rounds F_size_of F_low_of
  have F_placed := ok_placed (P := l.prog) (w := w) (base := base) T F_low_of F_size_of
  have F_end_value := ok_end_value (P := l.prog) (w := w) (base := base) T F_check_loop F_rounds_of F_placed
  have F__law_counted_right := ok__law_counted_right (P := l.prog) (w := w) (base := base) T F__law_wide F__law_value F_rounds F_wraps F_end_value
  have F__law_put := ok__law_put (P := l.prog) (w := w) (base := base) T
  have F_twos_in := ok_twos_in (P := l.prog) (w := w) (base := base) T
  have F_endless_starts := ok_endless_starts (P := l.prog) (w := w) (base := base) T F_check_kind F_check_word F_check_value F_stops F_twos_in
  have F_round_value := ok_round_value (P := l.prog) (w := w) (base := base) T F_check_loop F_rounds_of F_placed F_is_integer
  have F_Kind_parts := ok_Kind_parts (P := l.prog) (w := w) (base := base) T
  have F_inverse_of := ok_inverse_of (P := l.prog) (w := w) (base := base) T
  have F_inverse := ok_inverse (P := l.prog) (w := w) (base := base) T F_check_kind F_check_value F_placed F_inverse_of
  have F__law_met_right := ok__law_met_right (P := l.prog) (w := w) (base := base) T F__law_put F__law_next F__law_value F__law_wide F_endless_starts F_rounds F_end_value F_round_value F_Kind_parts F_inverse
  have F__law_around_right := ok__law_around_right (P := l.prog) (w := w) (base := base) T F__law_value F__law_wide F_rounds F_wraps F__law_put
  have F_floor_sum := ok_floor_sum (P := l.prog) (w := w) (base := base) T
  have F_many_within := ok_many_within (P := l.prog) (w := w) (base := base) T F_floor_sum
  have F_rounds_within := ok_rounds_within (P := l.prog) (w := w) (base := base) T F_check_loop F_check_value F_check_rounds F_low_of F_many_within F_size_of
  have F__law_endless_right := ok__law_endless_right (P := l.prog) (w := w) (base := base) T F__law_put F__law_value F__law_next F__law_wide F_rounds_within F_endless_starts F_Kind_parts
  have F_law := ok_law (P := l.prog) (w := w) (base := base) T F__law_source_of F__law_draw_kind F__law_cell_at F__law_counted_right F__law_met_right F__law_around_right F__law_endless_right
  obtain ⟨f, fd, F, hm, hb, ok⟩ := F_law.ex
  have e2 := hm.symm.trans hfa
  cases e2
  have e3 := DL.same_fun F38 F
  subst e3
  exact ok
end LW
open PySem PySem.W PyProof.Rows
set_option maxRecDepth 100000 in
set_option maxHeartbeats 0 in
theorem PySem.Challenge.cw_farwrap_k35_whole_loops_by_formulas_holds : PySem.Challenge.rw_farwrap_k35_whole_loops_by_formulas.Holds := by
  w_on; o_law; k_head; (case hw => w_witness2)
  k_fill
  refine L2.walk_of (l := PySem.Challenge.rw_farwrap_k35_whole_loops_by_formulas) (n := 63) (k := 147) (x := "_law_script") (CX := fun _ => L2.CX0) (sp := fun w => DL.toSp _ (DL.spLaw)) rfl (by decide) rfl ⟨rfl, by decide, by decide⟩ (fun w h Y => PySem.W.kIn_of Y) ?F (fun w H a ns hl _ hS => DL.law_in hl hS) (fun _ _ _ _ _ h => h)
  case F =>
    intro w mg fa h KX G hmg
    refine' LW.all_mk KX G hmg ?m_Kind ?a0 ?l0 ?c0 ?k0 ?a1 ?l1 ?c1 ?k1 ?a2 ?l2 ?c2 ?k2 ?a3 ?l3 ?c3 ?k3 ?a4 ?l4 ?c4 ?k4 ?a5 ?l5 ?c5 ?k5 ?a6 ?l6 ?c6 ?k6 ?a7 ?l7 ?c7 ?k7 ?a8 ?l8 ?c8 ?k8 ?a9 ?l9 ?c9 ?k9 ?a10 ?l10 ?c10 ?k10 ?a11 ?l11 ?c11 ?k11 ?a12 ?l12 ?c12 ?k12 ?a13 ?l13 ?c13 ?k13 ?a14 ?l14 ?c14 ?k14 ?a15 ?l15 ?c15 ?k15 ?a16 ?l16 ?c16 ?k16 ?a17 ?l17 ?c17 ?k17 ?a18 ?l18 ?c18 ?k18 ?a19 ?l19 ?c19 ?k19 ?a20 ?l20 ?c20 ?k20 ?a21 ?l21 ?c21 ?k21 ?a22 ?l22 ?c22 ?k22 ?a23 ?l23 ?c23 ?k23 ?a24 ?l24 ?c24 ?k24 ?a25 ?l25 ?c25 ?k25 ?a26 ?l26 ?c26 ?k26 ?a27 ?l27 ?c27 ?k27 ?a28 ?l28 ?c28 ?k28 ?a29 ?l29 ?c29 ?k29 ?a30 ?l30 ?c30 ?k30 ?a31 ?l31 ?c31 ?k31 ?a32 ?l32 ?c32 ?k32 ?a33 ?l33 ?c33 ?k33 ?a34 ?l34 ?c34 ?k34 ?a35 ?l35 ?c35 ?k35 ?a36 ?l36 ?c36 ?k36 ?a37 ?l37 ?c37 ?k37 ?a38 ?l38 ?c38 ?k38 ?a39 ?i39 ?l39 ?c39 ?k39 ?a40 ?i40 ?l40 ?c40 ?k40 ?a41 ?i41 ?l41 ?c41 ?k41 ?pg_Kind ?hd_Kind ?po_Kind ?sa_Kind ?mk_Kind ?kc_Kind ?ha_Kind ?hm_Kind ?kn_Kind ?kt_Kind_int ?ks_Kind_int ?kt_Kind_bool ?ks_Kind_bool ?kt_Kind_str ?ks_Kind_str ?kt_Kind_tuple ?ks_Kind_tuple ?kt_Kind_list ?ks_Kind_list ?kt_Kind_dict ?ks_Kind_dict ?kk_Kind_Kind ?nf_Kind_bits ?nf_Kind_is_signed ?hn ?htk ?b_abs ?b_bool ?b_int ?b_isinstance ?b_len ?b_max ?b_min ?b_range ?b_sorted ?b_str ?b_tuple ?g_MOST_BITS ?g_WORDS ?gl_WORDS
    (case m_Kind => k_is)
    (case a0 => k_is)
    (case l0 => k_is)
    (case c0 => k_is)
    (case k0 => k_is)
    (case a1 => k_is)
    (case l1 => k_is)
    (case c1 => k_is)
    (case k1 => k_is)
    (case a2 => k_is)
    (case l2 => k_is)
    (case c2 => k_is)
    (case k2 => k_is)
    (case a3 => k_is)
    (case l3 => k_is)
    (case c3 => k_is)
    (case k3 => k_is)
    (case a4 => k_is)
    (case l4 => k_is)
    (case c4 => k_is)
    (case k4 => k_is)
    (case a5 => k_is)
    (case l5 => k_is)
    (case c5 => k_is)
    (case k5 => k_is)
    (case a6 => k_is)
    (case l6 => k_is)
    (case c6 => k_is)
    (case k6 => k_is)
    (case a7 => k_is)
    (case l7 => k_is)
    (case c7 => k_is)
    (case k7 => k_is)
    (case a8 => k_is)
    (case l8 => k_is)
    (case c8 => k_is)
    (case k8 => k_is)
    (case a9 => k_is)
    (case l9 => k_is)
    (case c9 => k_is)
    (case k9 => k_is)
    (case a10 => k_is)
    (case l10 => k_is)
    (case c10 => k_is)
    (case k10 => k_is)
    (case a11 => k_is)
    (case l11 => k_is)
    (case c11 => k_is)
    (case k11 => k_is)
    (case a12 => k_is)
    (case l12 => k_is)
    (case c12 => k_is)
    (case k12 => k_is)
    (case a13 => k_is)
    (case l13 => k_is)
    (case c13 => k_is)
    (case k13 => k_is)
    (case a14 => k_is)
    (case l14 => k_is)
    (case c14 => k_is)
    (case k14 => k_is)
    (case a15 => k_is)
    (case l15 => k_is)
    (case c15 => k_is)
    (case k15 => k_is)
    (case a16 => k_is)
    (case l16 => k_is)
    (case c16 => k_is)
    (case k16 => k_is)
    (case a17 => k_is)
    (case l17 => k_is)
    (case c17 => k_is)
    (case k17 => k_is)
    (case a18 => k_is)
    (case l18 => k_is)
    (case c18 => k_is)
    (case k18 => k_is)
    (case a19 => k_is)
    (case l19 => k_is)
    (case c19 => k_is)
    (case k19 => k_is)
    (case a20 => k_is)
    (case l20 => k_is)
    (case c20 => k_is)
    (case k20 => k_is)
    (case a21 => k_is)
    (case l21 => k_is)
    (case c21 => k_is)
    (case k21 => k_is)
    (case a22 => k_is)
    (case l22 => k_is)
    (case c22 => k_is)
    (case k22 => k_is)
    (case a23 => k_is)
    (case l23 => k_is)
    (case c23 => k_is)
    (case k23 => k_is)
    (case a24 => k_is)
    (case l24 => k_is)
    (case c24 => k_is)
    (case k24 => k_is)
    (case a25 => k_is)
    (case l25 => k_is)
    (case c25 => k_is)
    (case k25 => k_is)
    (case a26 => k_is)
    (case l26 => k_is)
    (case c26 => k_is)
    (case k26 => k_is)
    (case a27 => k_is)
    (case l27 => k_is)
    (case c27 => k_is)
    (case k27 => k_is)
    (case a28 => k_is)
    (case l28 => k_is)
    (case c28 => k_is)
    (case k28 => k_is)
    (case a29 => k_is)
    (case l29 => k_is)
    (case c29 => k_is)
    (case k29 => k_is)
    (case a30 => k_is)
    (case l30 => k_is)
    (case c30 => k_is)
    (case k30 => k_is)
    (case a31 => k_is)
    (case l31 => k_is)
    (case c31 => k_is)
    (case k31 => k_is)
    (case a32 => k_is)
    (case l32 => k_is)
    (case c32 => k_is)
    (case k32 => k_is)
    (case a33 => k_is)
    (case l33 => k_is)
    (case c33 => k_is)
    (case k33 => k_is)
    (case a34 => k_is)
    (case l34 => k_is)
    (case c34 => k_is)
    (case k34 => k_is)
    (case a35 => k_is)
    (case l35 => k_is)
    (case c35 => k_is)
    (case k35 => k_is)
    (case a36 => k_is)
    (case l36 => k_is)
    (case c36 => k_is)
    (case k36 => k_is)
    (case a37 => k_is)
    (case l37 => k_is)
    (case c37 => k_is)
    (case k37 => k_is)
    (case a38 => k_is)
    (case l38 => k_is)
    (case c38 => k_is)
    (case k38 => k_is)
    (case a39 => k_is)
    (case i39 => k_is)
    (case l39 => k_is)
    (case c39 => k_is)
    (case k39 => k_is)
    (case a40 => k_is)
    (case i40 => k_is)
    (case l40 => k_is)
    (case c40 => k_is)
    (case k40 => k_is)
    (case a41 => k_is)
    (case i41 => k_is)
    (case l41 => k_is)
    (case c41 => k_is)
    (case k41 => k_is)
    (case pg_Kind => k_is)
    (case hd_Kind => k_is)
    (case po_Kind => k_is)
    (case sa_Kind => k_is)
    (case mk_Kind => k_is)
    (case kc_Kind => k_is)
    (case ha_Kind => k_is)
    (case hm_Kind => k_is)
    (case kn_Kind => kit_is)
    (case kt_Kind_int => kit_is)
    (case ks_Kind_int => kit_is)
    (case kt_Kind_bool => kit_is)
    (case ks_Kind_bool => kit_is)
    (case kt_Kind_str => kit_is)
    (case ks_Kind_str => kit_is)
    (case kt_Kind_tuple => kit_is)
    (case ks_Kind_tuple => kit_is)
    (case kt_Kind_list => kit_is)
    (case ks_Kind_list => kit_is)
    (case kt_Kind_dict => kit_is)
    (case ks_Kind_dict => kit_is)
    (case kk_Kind_Kind => kit_is)
    (case nf_Kind_bits => k_is)
    (case nf_Kind_is_signed => k_is)
    (case hn => k_is)
    (case htk => k_is)
    (case b_abs => k_is)
    (case b_bool => k_is)
    (case b_int => k_is)
    (case b_isinstance => k_is)
    (case b_len => k_is)
    (case b_max => k_is)
    (case b_min => k_is)
    (case b_range => k_is)
    (case b_sorted => k_is)
    (case b_str => k_is)
    (case b_tuple => k_is)
    (case g_MOST_BITS => k_is)
    (case g_WORDS => k_is)
    (case gl_WORDS => k_is)
#print axioms PySem.Challenge.cw_farwrap_k35_whole_loops_by_formulas_holds
