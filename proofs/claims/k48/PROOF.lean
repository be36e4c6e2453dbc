import PyProof.Rows.All
import Wide.All
import OpenK.AllK
import Wide.FinOn
import HandS.ForMost
import HandS.IsInst
import HandS.Wide
import HandS.WideBits
import HandS.Flow
import HandS.Style
import HandS.SortInts
import HandS.Defaults
import HandS.NoneIn
import HandS.Conv
import HandS.SortRule
import HandS.DictTup
import HandS.DictComp
import HandS.TupSets
import HandS.Lambda
import HandS.Nested
import HandS.EndTab
import KE.KNestM
import HandS.CallLocal
import PyProof.LongRange
import HandS.SortKw
import KE.DatumOrd
import PySem.Challenge.RW_farwrap_k48_values_first_met
set_option Elab.async false
set_option linter.all false
set_option maxRecDepth 100000
set_option maxHeartbeats 4000000
/-! A layer of data over the hand layer: values are data, what never changes stands in a frozen part, what changes in a map of its own. -/
namespace DL
open PySem PySem.Spec PyProof.Rows L2
/-! ### data -/
/-- the built-in classes that the texts name -/
inductive BT where
  | int | bool | str | tup | lst | dic
  deriving DecidableEq
def BT.nm : BT → String
  | .int => "int" | .bool => "bool" | .str => "str" | .tup => "tuple" | .lst => "list" | .dic => "dict"
inductive Dat where
  | non | bl (b : Bool) | int (i : Int) | str (x : Str) | ty (n : BT) | cls (C : Addr)
  | tup (ds : List Dat) | lst (ds : List Dat) | frl (ds : List Dat) | dic (kvs : List (Key × Dat)) | ins (C : Addr) (fs : List (Str × Dat)) | ref (a : Addr)
mutual
inductive Rep (K : PySem.W.Frag) (F : Hp) : V → Dat → Prop
  | non : Rep K F .non .non
  | bl (b : Bool) : Rep K F (.bl b) (.bl b)
  | int (i : Int) : Rep K F (.int i) (.int i)
  | str (x : Str) : Rep K F (.str x) (.str x)
  | ty (n : BT) : Rep K F (.ty n.nm) (.ty n)
  | cls (C : Addr) : Rep K F (.ref C) (.cls C)
  | tup {a : Addr} {xs : List V} {ds : List Dat} : SqT K F a xs → Reps K F xs ds → Rep K F (.ref a) (.tup ds)
  | lst {a : Addr} {xs : List V} {ds : List Dat} : F a = some (.lst xs) → Reps K F xs ds → Rep K F (.ref a) (.lst ds)
  | frl {a : Addr} {xs : List V} {ds : List Dat} : SqL K F a xs → Reps K F xs ds → Rep K F (.ref a) (.frl ds)
  | dic {a : Addr} {kvs : List (Key × V)} {gs : List (Key × Dat)} : F a = some (.dK kvs) → RepK K F kvs gs → Rep K F (.ref a) (.dic gs)
  | ins {a C dx : Addr} {fs : List (Str × V)} {gs : List (Str × Dat)} : F a = some (.ins C dx fs) → RepF K F fs gs → (fs.map (·.1)).Nodup → Rep K F (.ref a) (.ins C gs)
  | ref (a : Addr) : Rep K F (.ref a) (.ref a)
inductive Reps (K : PySem.W.Frag) (F : Hp) : List V → List Dat → Prop
  | nil : Reps K F [] []
  | cons {v : V} {vs : List V} {d : Dat} {ds : List Dat} : Rep K F v d → Reps K F vs ds → Reps K F (v :: vs) (d :: ds)
inductive RepK (K : PySem.W.Frag) (F : Hp) : List (Key × V) → List (Key × Dat) → Prop
  | nil : RepK K F [] []
  | cons {k : Key} {v : V} {vs : List (Key × V)} {d : Dat} {ds : List (Key × Dat)} : Rep K F v d → RepK K F vs ds → RepK K F ((k, v) :: vs) ((k, d) :: ds)
inductive RepF (K : PySem.W.Frag) (F : Hp) : List (Str × V) → List (Str × Dat) → Prop
  | nil : RepF K F [] []
  | cons {f : Str} {v : V} {vs : List (Str × V)} {d : Dat} {ds : List (Str × Dat)} : Rep K F v d → RepF K F vs ds → RepF K F ((f, v) :: vs) ((f, d) :: ds)
end
def Ext (F F' : Hp) : Prop := ∀ a o, F a = some o → F' a = some o
theorem Ext.refl (F : Hp) : Ext F F := fun _ _ h => h
theorem Ext.trans {F G J : Hp} (a : Ext F G) (b : Ext G J) : Ext F J := fun x o h => b x o (a x o h)
theorem Ext.new {F : Hp} {p : Addr} {o : HO} (h : F p = none) : Ext F (upd F p o) := fun a u e => by
  rw [upd_ne (ne_of_none e h)]
  exact e
theorem ext_rd {H H' : Hp} {a : Addr} {u : HO} (e : Ext H H') (h : Rd H a u) : Rd H' a u := by
  rcases h with h | ⟨o, h⟩
  · exact Or.inl (e a _ h)
  · exact Or.inr ⟨o, e a _ h⟩
theorem ext_l {K : PySem.W.Frag} {H H' : Hp} {a : Addr} {xs : List V} (e : Ext H H') (h : SqL K H a xs) : SqL K H' a xs := by
  rcases h with h | h
  · exact Or.inl (ext_rd e h)
  · exact Or.inr h
theorem ext_t {K : PySem.W.Frag} {H H' : Hp} {a : Addr} {xs : List V} (e : Ext H H') (h : SqT K H a xs) : SqT K H' a xs := by
  rcases h with h | h
  · exact Or.inl (ext_rd e h)
  · exact Or.inr h
section
variable {K : PySem.W.Frag} {F F' : Hp}
mutual
theorem Rep.mono (e : Ext F F') : ∀ {v : V} {d : Dat}, Rep K F v d → Rep K F' v d
  | _, _, .non => .non
  | _, _, .bl b => .bl b
  | _, _, .int i => .int i
  | _, _, .str x => .str x
  | _, _, .ty n => .ty n
  | _, _, .cls C => .cls C
  | _, _, .tup h r => .tup (ext_t e h) (Reps.mono e r)
  | _, _, .lst h r => .lst (e _ _ h) (Reps.mono e r)
  | _, _, .frl h r => .frl (ext_l e h) (Reps.mono e r)
  | _, _, .dic h r => .dic (e _ _ h) (RepK.mono e r)
  | _, _, .ins h r n => .ins (e _ _ h) (RepF.mono e r) n
  | _, _, .ref a => .ref a
theorem Reps.mono (e : Ext F F') : ∀ {vs : List V} {ds : List Dat}, Reps K F vs ds → Reps K F' vs ds
  | _, _, .nil => .nil
  | _, _, .cons h r => .cons (Rep.mono e h) (Reps.mono e r)
theorem RepK.mono (e : Ext F F') : ∀ {vs : List (Key × V)} {ds : List (Key × Dat)}, RepK K F vs ds → RepK K F' vs ds
  | _, _, .nil => .nil
  | _, _, .cons h r => .cons (Rep.mono e h) (RepK.mono e r)
theorem RepF.mono (e : Ext F F') : ∀ {vs : List (Str × V)} {ds : List (Str × Dat)}, RepF K F vs ds → RepF K F' vs ds
  | _, _, .nil => .nil
  | _, _, .cons h r => .cons (Rep.mono e h) (RepF.mono e r)
end
theorem Reps.length {vs : List V} {ds : List Dat} (r : Reps K F vs ds) : vs.length = ds.length := by
  induction vs generalizing ds with
  | nil =>
    cases r
    rfl
  | cons v vs ih =>
    cases r with
    | cons h r => exact congrArg Nat.succ (ih r)
theorem Reps.get {vs : List V} {ds : List Dat} (r : Reps K F vs ds) : ∀ {i : Nat} {d : Dat}, ds[i]? = some d → ∃ v, vs[i]? = some v ∧ Rep K F v d := by
  induction vs generalizing ds with
  | nil =>
    cases r
    intro i d h
    simp at h
  | cons v vs ih =>
    cases r with
    | cons h r =>
      intro i d e
      cases i with
      | zero =>
        have e' := Option.some.inj e
        subst e'
        exact ⟨v, rfl, h⟩
      | succ i => exact ih r e
theorem Reps.app {vs ws : List V} {ds es : List Dat} (r : Reps K F vs ds) (q : Reps K F ws es) : Reps K F (vs ++ ws) (ds ++ es) := by
  induction vs generalizing ds with
  | nil =>
    cases r
    exact q
  | cons v vs ih =>
    cases r with
    | cons h r => exact .cons h (ih r)
theorem Reps.set {v : V} {d : Dat} (h : Rep K F v d) {vs : List V} {ds : List Dat} (r : Reps K F vs ds) : ∀ (i : Nat), Reps K F (vs.set i v) (ds.set i d) := by
  induction vs generalizing ds with
  | nil =>
    cases r
    intro i
    exact .nil
  | cons w vs ih =>
    cases r with
    | cons g r =>
      intro i
      cases i with
      | zero => exact .cons h r
      | succ i => exact .cons g (ih r i)
theorem Reps.take {vs : List V} {ds : List Dat} (r : Reps K F vs ds) : ∀ (n : Nat), Reps K F (vs.take n) (ds.take n) := by
  induction vs generalizing ds with
  | nil =>
    cases r
    intro n
    cases n <;> exact .nil
  | cons w vs ih =>
    cases r with
    | cons g r =>
      intro n
      cases n with
      | zero => exact .nil
      | succ n => exact .cons g (ih r n)
theorem Reps.drop {vs : List V} {ds : List Dat} (r : Reps K F vs ds) : ∀ (n : Nat), Reps K F (vs.drop n) (ds.drop n) := by
  induction vs generalizing ds with
  | nil =>
    cases r
    intro n
    cases n <;> exact .nil
  | cons w vs ih =>
    cases r with
    | cons g r =>
      intro n
      cases n with
      | zero => exact .cons g r
      | succ n => exact ih r n
theorem Reps.rev {vs : List V} {ds : List Dat} (r : Reps K F vs ds) : Reps K F vs.reverse ds.reverse := by
  induction vs generalizing ds with
  | nil =>
    cases r
    exact .nil
  | cons w vs ih =>
    cases r with
    | cons g r =>
      rw [List.reverse_cons, List.reverse_cons]
      exact (ih r).app (.cons g .nil)
theorem Reps.dropLast {vs : List V} {ds : List Dat} (r : Reps K F vs ds) : Reps K F vs.dropLast ds.dropLast := by
  have e1 : vs.dropLast = vs.take (vs.length - 1) := List.dropLast_eq_take
  have e2 : ds.dropLast = ds.take (ds.length - 1) := List.dropLast_eq_take
  rw [e1, e2, r.length]
  exact r.take _
theorem Reps.one {v : V} {d : Dat} (h : Rep K F v d) : Reps K F [v] [d] := .cons h .nil
theorem Reps.two {v w : V} {d e : Dat} (h : Rep K F v d) (g : Rep K F w e) : Reps K F [v, w] [d, e] := .cons h (.cons g .nil)
theorem Reps.uncons {vs : List V} {d : Dat} {ds : List Dat} (r : Reps K F vs (d :: ds)) : ∃ v ws, vs = v :: ws ∧ Rep K F v d ∧ Reps K F ws ds := by
  cases r with
  | cons h r => exact ⟨_, _, rfl, h, r⟩
theorem Reps.unnil {vs : List V} (r : Reps K F vs []) : vs = [] := by
  cases r
  rfl
theorem Rep.toInt {v : V} {i : Int} (r : Rep K F v (.int i)) : v = .int i := by
  cases r
  rfl
theorem Rep.toBl {v : V} {b : Bool} (r : Rep K F v (.bl b)) : v = .bl b := by
  cases r
  rfl
theorem Rep.toStr {v : V} {x : Str} (r : Rep K F v (.str x)) : v = .str x := by
  cases r
  rfl
theorem Rep.toNon {v : V} (r : Rep K F v .non) : v = .non := by
  cases r
  rfl
theorem Reps.ints {vs : List V} {ns : List Int} (r : Reps K F vs (ns.map Dat.int)) : vs = ns.map V.int := by
  induction ns generalizing vs with
  | nil =>
    cases r
    rfl
  | cons n ns ih =>
    cases r with
    | cons h r =>
      rw [h.toInt, ih r]
      rfl
theorem Reps.bls {vs : List V} {ns : List Bool} (r : Reps K F vs (ns.map Dat.bl)) : vs = ns.map V.bl := by
  induction ns generalizing vs with
  | nil =>
    cases r
    rfl
  | cons n ns ih =>
    cases r with
    | cons h r =>
      rw [h.toBl, ih r]
      rfl
theorem reps_ints (ns : List Int) : Reps K F (ns.map V.int) (ns.map Dat.int) := by
  induction ns with
  | nil => exact .nil
  | cons n ns ih => exact .cons (.int n) ih
end
/-! ### what changes -/
/-- an object that is known by what is true of it -/
structure OthR where
  rel : Hp → HO → Prop
  mono : ∀ F F' o, Ext F F' → rel F o → rel F' o
inductive MO where
  | lst (ds : List Dat) | dic (kvs : List (Key × Dat)) | ins (C : Addr) (fs : List (Str × Dat)) | oth (φ : OthR)
abbrev MH := Addr → Option MO
def updM (M : MH) (a : Addr) (o : MO) : MH := fun b => if b = a then some o else M b
def delM (M : MH) (a : Addr) : MH := fun b => if b = a then none else M b
theorem updM_same {M : MH} {a : Addr} {o : MO} : updM M a o a = some o := if_pos rfl
theorem updM_ne {M : MH} {a b : Addr} {o : MO} (h : b ≠ a) : updM M a o b = M b := if_neg h
theorem delM_same {M : MH} {a : Addr} : delM M a a = none := if_pos rfl
theorem delM_ne {M : MH} {a b : Addr} (h : b ≠ a) : delM M a b = M b := if_neg h
theorem updM_updM {M : MH} {a : Addr} {o u : MO} : updM (updM M a o) a u = updM M a u := by
  funext b
  unfold updM
  split <;> rfl
theorem delM_updM {M : MH} {a : Addr} {o : MO} (h : M a = none) : delM (updM M a o) a = M := by
  funext b
  unfold delM updM
  split
  · rename_i e
    rw [e, h]
  · rfl
theorem ne_dom {M : MH} {a b : Addr} {o : MO} (h : M a = some o) (n : M b = none) : a ≠ b := fun e => by
  subst e
  rw [h] at n
  cases n
def LeM (M0 M : MH) : Prop := ∀ a o, M0 a = some o → M a = some o
theorem LeM.refl (M : MH) : LeM M M := fun _ _ h => h
theorem LeM.trans {A B C : MH} (x : LeM A B) (y : LeM B C) : LeM A C := fun a o h => y a o (x a o h)
theorem LeM.new {M : MH} {a : Addr} {o : MO} (n : M a = none) : LeM M (updM M a o) := fun b u h => by
  rw [updM_ne (ne_dom h n)]
  exact h
theorem LeM.upd {M0 M : MH} {a : Addr} {o : MO} (l : LeM M0 M) : LeM (updM M0 a o) (updM M a o) := fun b u h => by
  unfold updM at *
  split
  · rename_i e
    rw [if_pos e] at h
    exact h
  · rename_i e
    rw [if_neg e] at h
    exact l b u h
/-- a garbage object may change or go -/
theorem LeM.skip {M0 M : MH} {a : Addr} {o : MO} (l : LeM M0 M) (n : M0 a = none) : LeM M0 (updM M a o) := fun b u h => by
  rw [updM_ne (ne_dom h n)]
  exact l b u h
theorem LeM.del {M0 M : MH} {a : Addr} (l : LeM M0 M) (n : M0 a = none) : LeM M0 (delM M a) := fun b u h => by
  rw [delM_ne (ne_dom h n)]
  exact l b u h
def MRel (K : PySem.W.Frag) (F H : Hp) (a : Addr) : MO → Prop
  | .lst ds => ∃ xs, H a = some (.lst xs) ∧ Reps K F xs ds
  | .dic gs => ∃ kvs, H a = some (.dK kvs) ∧ RepK K F kvs gs
  | .ins C gs => ∃ dx fs, H a = some (.ins C dx fs) ∧ RepF K F fs gs ∧ (fs.map (·.1)).Nodup
  | .oth φ => ∃ o, H a = some o ∧ φ.rel F o
theorem MRel.mono {K : PySem.W.Frag} {F F' H H' : Hp} {a : Addr} (e : Ext F F') (h : H' a = H a) : ∀ {m : MO}, MRel K F H a m → MRel K F' H' a m
  | .lst _, ⟨xs, q, r⟩ => ⟨xs, by rw [h]; exact q, r.mono e⟩
  | .dic _, ⟨xs, q, r⟩ => ⟨xs, by rw [h]; exact q, r.mono e⟩
  | .ins _ _, ⟨dx, fs, q, r, n⟩ => ⟨dx, fs, by rw [h]; exact q, r.mono e, n⟩
  | .oth φ, ⟨o, q, r⟩ => ⟨o, by rw [h]; exact q, φ.mono _ _ _ e r⟩
theorem MRel.some {K : PySem.W.Frag} {F H : Hp} {a : Addr} : ∀ {m : MO}, MRel K F H a m → ∃ o, H a = some o
  | .lst _, ⟨_, q, _⟩ => ⟨_, q⟩
  | .dic _, ⟨_, q, _⟩ => ⟨_, q⟩
  | .ins _ _, ⟨_, _, q, _⟩ => ⟨_, q⟩
  | .oth _, ⟨o, q, _⟩ => ⟨o, q⟩
structure RelM (K : PySem.W.Frag) (Z F H : Hp) (M : MH) : Prop where
  sub : Ext F H
  hid : ∀ a o, Z a = some o → H a = some o ∧ F a = none ∧ M a = none
  chg : ∀ a m, M a = some m → F a = none ∧ MRel K F H a m
abbrev EnvD := List (Option Dat)
structure RelE (K : PySem.W.Frag) (F : Hp) (σ : L2.St) (ρ : EnvD) : Prop where
  len : σ.length = ρ.length
  at_ : ∀ (i : Nat) (d : Dat), ρ[i]? = some (some d) → ∃ v, σ[i]? = some (some v) ∧ Rep K F v d
structure Rel (K : PySem.W.Frag) (Z F H : Hp) (M : MH) (σ : L2.St) (ρ : EnvD) : Prop where
  m : RelM K Z F H M
  e : RelE K F σ ρ
section
variable {K : PySem.W.Frag} {Z F F' H H' : Hp} {M M' : MH} {σ : L2.St} {ρ : EnvD} {p a : Addr} {o : HO}
theorem RelE.mono (e : Ext F F') (r : RelE K F σ ρ) : RelE K F' σ ρ := ⟨r.len, fun i d h => by
  obtain ⟨v, q, g⟩ := r.at_ i d h
  exact ⟨v, q, g.mono e⟩⟩
theorem RelE.set {v : V} {d : Dat} (r : RelE K F σ ρ) (h : Rep K F v d) (i : Nat) : RelE K F (σ.set i (some v)) (ρ.set i (some d)) := ⟨by rw [List.length_set, List.length_set]; exact r.len, fun j x q => by
  by_cases e : i = j
  · subst e
    by_cases hi : i < ρ.length
    · rw [List.getElem?_set_self hi] at q
      cases q
      refine ⟨v, ?_, h⟩
      rw [List.getElem?_set_self (by rw [r.len]; exact hi)]
    · rw [List.getElem?_eq_none (by rw [List.length_set]; omega)] at q
      cases q
  · rw [List.getElem?_set_ne e] at q
    obtain ⟨w, q1, g⟩ := r.at_ j x q
    exact ⟨w, by rw [List.getElem?_set_ne e]; exact q1, g⟩⟩
/-- a slot is forgotten on both sides -/
theorem RelE.unset (r : RelE K F σ ρ) (i : Nat) : RelE K F (σ.set i none) (ρ.set i none) := ⟨by rw [List.length_set, List.length_set]; exact r.len, fun j x q => by
  by_cases e : i = j
  · subst e
    by_cases hi : i < ρ.length
    · rw [List.getElem?_set_self hi] at q
      cases q
    · rw [List.getElem?_eq_none (by rw [List.length_set]; omega)] at q
      cases q
  · rw [List.getElem?_set_ne e] at q
    obtain ⟨w, q1, g⟩ := r.at_ j x q
    exact ⟨w, by rw [List.getElem?_set_ne e]; exact q1, g⟩⟩
theorem RelM.fresh (r : RelM K Z F H M) (h : H p = none) : F p = none ∧ M p = none := by
  refine ⟨?_, ?_⟩
  · cases q : F p with
    | none => rfl
    | some u =>
      rw [r.sub p u q] at h
      cases h
  · cases q : M p with
    | none => rfl
    | some m =>
      obtain ⟨u, e⟩ := (r.chg p m q).2.some
      rw [h] at e
      cases e
theorem RelM.ne (r : RelM K Z F H M) (h : H p = none) {m : MO} (q : M a = some m) : a ≠ p := ne_dom q (r.fresh h).2
/-- a new object that never changes -/
theorem RelM.newF (r : RelM K Z F H M) (h : H p = none) : RelM K Z (upd F p o) (upd H p o) M ∧ Ext F (upd F p o) := by
  have e := Ext.new (o := o) (r.fresh h).1
  refine ⟨⟨fun b u q => ?_, fun b u q => ?_, fun b m q => ?_⟩, e⟩
  · by_cases hb : b = p
    · subst hb
      rw [upd_same] at q ⊢
      exact q
    · rw [upd_ne hb] at q ⊢
      exact r.sub b u q
  · obtain ⟨q1, q2, q3⟩ := r.hid b u q
    have hb : b ≠ p := ne_of_none q1 h
    exact ⟨by rw [upd_ne hb]; exact q1, by rw [upd_ne hb]; exact q2, q3⟩
  · obtain ⟨q1, q2⟩ := r.chg b m q
    have hb := r.ne h q
    exact ⟨by rw [upd_ne hb]; exact q1, q2.mono e (upd_ne hb)⟩
/-- a new object that is to change -/
theorem RelM.newM {m : MO} (r : RelM K Z F H M) (h : H p = none) (hm : MRel K F (upd H p o) p m) : RelM K Z F (upd H p o) (updM M p m) := by
  refine ⟨fun b u q => ?_, fun b u q => ?_, fun b n q => ?_⟩
  · have hb : b ≠ p := ne_of_none (r.sub b u q) h
    rw [upd_ne hb]
    exact r.sub b u q
  · obtain ⟨q1, q2, q3⟩ := r.hid b u q
    have hb : b ≠ p := ne_of_none q1 h
    exact ⟨by rw [upd_ne hb]; exact q1, q2, by rw [updM_ne hb]; exact q3⟩
  · by_cases hb : b = p
    · subst hb
      rw [updM_same] at q
      cases q
      exact ⟨(r.fresh h).1, hm⟩
    · rw [updM_ne hb] at q
      obtain ⟨q1, q2⟩ := r.chg b n q
      exact ⟨q1, q2.mono (Ext.refl _) (upd_ne hb)⟩
/-- an object that changes -/
theorem RelM.write {m m0 : MO} (r : RelM K Z F H M) (h : M p = some m0) (hm : MRel K F (upd H p o) p m) : RelM K Z F (upd H p o) (updM M p m) := by
  have hf := (r.chg p m0 h).1
  refine ⟨fun b u q => ?_, fun b u q => ?_, fun b n q => ?_⟩
  · have hb : b ≠ p := ne_of_none q hf
    rw [upd_ne hb]
    exact r.sub b u q
  · obtain ⟨q1, q2, q3⟩ := r.hid b u q
    have hb : b ≠ p := (ne_dom h q3).symm
    exact ⟨by rw [upd_ne hb]; exact q1, q2, by rw [updM_ne hb]; exact q3⟩
  · by_cases hb : b = p
    · subst hb
      rw [updM_same] at q
      cases q
      exact ⟨hf, hm⟩
    · rw [updM_ne hb] at q
      obtain ⟨q1, q2⟩ := r.chg b n q
      exact ⟨q1, q2.mono (Ext.refl _) (upd_ne hb)⟩
theorem LeM.none {M0 : MH} (l : LeM M0 M) (h : M a = none) : M0 a = none := by
  cases q : M0 a with
  | none => rfl
  | some m =>
    rw [l a m q] at h
    cases h
theorem RelM.le {M0 : MH} (r : RelM K Z F H M) (l : LeM M0 M) : RelM K Z F H M0 := ⟨r.sub, fun a o q => ⟨(r.hid a o q).1, (r.hid a o q).2.1, l.none (r.hid a o q).2.2⟩, fun a m q => r.chg a m (l a m q)⟩
/-- from now on it never changes -/
theorem RelM.frz {m : MO} (r : RelM K Z F H M) (h : M p = some m) (ho : H p = some o) : RelM K Z (upd F p o) H (delM M p) ∧ Ext F (upd F p o) := by
  have e := Ext.new (o := o) (r.chg p m h).1
  refine ⟨⟨fun b u q => ?_, fun b u q => ?_, fun b n q => ?_⟩, e⟩
  · by_cases hb : b = p
    · subst hb
      rw [upd_same] at q
      cases q
      exact ho
    · rw [upd_ne hb] at q
      exact r.sub b u q
  · obtain ⟨q1, q2, q3⟩ := r.hid b u q
    have hb : b ≠ p := (ne_dom h q3).symm
    exact ⟨q1, by rw [upd_ne hb]; exact q2, by rw [delM_ne hb]; exact q3⟩
  · by_cases hb : b = p
    · subst hb
      rw [delM_same] at q
      cases q
    · rw [delM_ne hb] at q
      obtain ⟨q1, q2⟩ := r.chg b n q
      exact ⟨by rw [upd_ne hb]; exact q1, q2.mono e rfl⟩
theorem Rel.ext (r : Rel K Z F H M σ ρ) (e : Ext F F') (m : RelM K Z F' H' M') : Rel K Z F' H' M' σ ρ := ⟨m, r.e.mono e⟩
end
/-! ### readings over data -/
abbrev VKD := Dat → MH → Prop
abbrev TED := EnvD → MH → VKD → Prop
abbrev TTD := EnvD → MH → (Bool → MH → Prop) → Prop
abbrev TAD := EnvD → MH → (List Dat → MH → Prop) → Prop
structure EndsD where
  nx : EnvD → MH → Prop
  rt : VKD
  bk : EnvD → MH → Prop := fun _ _ => False
  ct : EnvD → MH → Prop := fun _ _ => False
abbrev TSD := EndsD → EnvD → MH → Prop
abbrev TGD := Dat → EnvD → MH → (EnvD → MH → Prop) → Prop
section
variable (K : PySem.W.Frag)
/-- what is wanted by data, what is wanted by values -/
def OkV (Z F : Hp) (Q : VK) (QD : VKD) : Prop := ∀ v d F' H' M', Ext F F' → RelM K Z F' H' M' → Rep K F' v d → QD d M' → Q v H'
def OkB (Z F : Hp) (Q : Bool → Hp → Prop) (QD : Bool → MH → Prop) : Prop := ∀ b F' H' M', Ext F F' → RelM K Z F' H' M' → QD b M' → Q b H'
def OkA (Z F : Hp) (Q : List V → Hp → Prop) (QD : List Dat → MH → Prop) : Prop := ∀ vs ds F' H' M', Ext F F' → RelM K Z F' H' M' → Reps K F' vs ds → QD ds M' → Q vs H'
def OkN (Z F : Hp) (Q : L2.St → Hp → Prop) (QD : EnvD → MH → Prop) : Prop := ∀ σ' ρ' F' H' M', Ext F F' → Rel K Z F' H' M' σ' ρ' → QD ρ' M' → Q σ' H'
structure OkS (Z F : Hp) (D : Ends) (DD : EndsD) : Prop where
  nx : OkN K Z F D.nx DD.nx
  rt : OkV K Z F D.rt DD.rt
  bk : OkN K Z F D.bk DD.bk
  ct : OkN K Z F D.ct DD.ct
def up (d : TED) : TE := fun σ H Q => ∃ Z F M ρ QD, Rel K Z F H M σ ρ ∧ d ρ M QD ∧ OkV K Z F Q QD
def upT (d : TTD) : TT := fun σ H Q => ∃ Z F M ρ QD, Rel K Z F H M σ ρ ∧ d ρ M QD ∧ OkB K Z F Q QD
def upA (d : TAD) : TA := fun σ H Q => ∃ Z F M ρ QD, Rel K Z F H M σ ρ ∧ d ρ M QD ∧ OkA K Z F Q QD
def upS (d : TSD) : TS := fun D σ H => ∃ Z F M ρ DD, Rel K Z F H M σ ρ ∧ d DD ρ M ∧ OkS K Z F D DD
def upG (d : TGD) : TG := fun v σ H Q => ∃ Z F M ρ x QD, Rel K Z F H M σ ρ ∧ Rep K F v x ∧ d x ρ M QD ∧ OkN K Z F Q QD
end
section
variable {K : PySem.W.Frag} {Z F F' : Hp}
theorem OkV.mono {Q : VK} {QD : VKD} (o : OkV K Z F Q QD) (e : Ext F F') : OkV K Z F' Q QD := fun v d G H M x => o v d G H M (e.trans x)
theorem OkB.mono {Q : Bool → Hp → Prop} {QD : Bool → MH → Prop} (o : OkB K Z F Q QD) (e : Ext F F') : OkB K Z F' Q QD := fun b G H M x => o b G H M (e.trans x)
theorem OkA.mono {Q : List V → Hp → Prop} {QD : List Dat → MH → Prop} (o : OkA K Z F Q QD) (e : Ext F F') : OkA K Z F' Q QD := fun vs ds G H M x => o vs ds G H M (e.trans x)
theorem OkN.mono {Q : L2.St → Hp → Prop} {QD : EnvD → MH → Prop} (o : OkN K Z F Q QD) (e : Ext F F') : OkN K Z F' Q QD := fun s r G H M x => o s r G H M (e.trans x)
theorem OkS.mono {D : Ends} {DD : EndsD} (o : OkS K Z F D DD) (e : Ext F F') : OkS K Z F' D DD := ⟨o.nx.mono e, o.rt.mono e, o.bk.mono e, o.ct.mono e⟩
end
/-! ### judgements over data -/
abbrev DE (X : Cx) (e : Expr) (d : TED) : Prop := PE X e (up X.K d)
abbrev DT (X : Cx) (e : Expr) (d : TTD) : Prop := PT X e (upT X.K d)
abbrev DW (X : Cx) (e : Expr) (d : TTD) : Prop := PW X e (upT X.K d)
abbrev DA (X : Cx) (es : List Expr) (d : TAD) : Prop := PA X es (upA X.K d)
abbrev DS (X : Cx) (st : Stmt) (d : TSD) : Prop := PS X st (upS X.K d)
abbrev DSs (X : Cx) (st : List Stmt) (d : TSD) : Prop := PSs X st (upS X.K d)
abbrev DG (X : Cx) (tg : Expr) (d : TGD) : Prop := PG X tg (upG X.K d)
theorem pe_w {X : Cx} {e : Expr} {t u : TE} (h : PE X e t) (w : ∀ σ H Q, u σ H Q → t σ H Q) : PE X e u := ⟨fun pins s σ H Q I q => h.run pins s σ H Q I (w σ H Q q)⟩
theorem pt_w {X : Cx} {e : Expr} {t u : TT} (h : PT X e t) (w : ∀ σ H Q, u σ H Q → t σ H Q) : PT X e u := ⟨fun pins s σ H Q I q => h.run pins s σ H Q I (w σ H Q q)⟩
theorem pw_w {X : Cx} {e : Expr} {t u : TT} (h : PW X e t) (w : ∀ σ H Q, u σ H Q → t σ H Q) : PW X e u := ⟨fun wh pins s σ H Q I q => h.run wh pins s σ H Q I (w σ H Q q)⟩
theorem pa_w {X : Cx} {e : List Expr} {t u : TA} (h : PA X e t) (w : ∀ σ H Q, u σ H Q → t σ H Q) : PA X e u := ⟨fun pos pins s σ H Q I q => h.run pos pins s σ H Q I (w σ H Q q)⟩
theorem ps_w {X : Cx} {e : Stmt} {t u : TS} (h : PS X e t) (w : ∀ D σ H, u D σ H → t D σ H) : PS X e u := ⟨fun pins s σ H D I q => h.run pins s σ H D I (w D σ H q)⟩
theorem pss_w {X : Cx} {e : List Stmt} {t u : TS} (h : PSs X e t) (w : ∀ D σ H, u D σ H → t D σ H) : PSs X e u := ⟨fun pins s σ H D I q => h.run pins s σ H D I (w D σ H q)⟩
theorem pg_w {X : Cx} {e : Expr} {t u : TG} (h : PG X e t) (w : ∀ v σ H Q, u v σ H Q → t v σ H Q) : PG X e u := ⟨fun pins s σ H v x Q I r q => h.run pins s σ H v x Q I r (w v σ H Q q)⟩
/-! ### expressions -/
/-- the datum of a slot -/
def atD : EnvD → Nat → Option Dat
  | [], _ => none
  | x :: _, 0 => x
  | _ :: r, n + 1 => atD r n
theorem atD_get : ∀ {ρ : EnvD} {i : Nat} {d : Dat}, atD ρ i = some d → ρ[i]? = some (some d)
  | [], _, _, h => by cases h
  | x :: _, 0, _, h => by
    have e : x = some _ := h
    rw [e]
    rfl
  | _ :: r, n + 1, d, h => atD_get (ρ := r) (i := n) h
def setD : EnvD → Nat → Option Dat → EnvD
  | [], _, _ => []
  | _ :: r, 0, d => d :: r
  | x :: r, n + 1, d => x :: setD r n d
theorem setD_set : ∀ (ρ : EnvD) (i : Nat) (d : Option Dat), setD ρ i d = ρ.set i d
  | [], _, _ => rfl
  | _ :: _, 0, _ => rfl
  | x :: r, n + 1, d => congrArg (List.cons x) (setD_set r n d)
def dVar (i : Nat) : TED := fun ρ M Q => match atD ρ i with
  | some d => Q d M
  | none => False
def dC (d : Dat) : TED := fun _ M Q => Q d M
section
variable {X : Cx} {e a b c : Expr} {es : List Expr} {pos : Pos} {da db dc de : TED} {dA : TAD} {ta tb tc : TTD}
theorem dv (i : Nat) {x : Str} (hN : X.N[i]? = some x := by rfl) (hv : Vis X.env.scope x := by first | exact Or.inl rfl | exact Or.inr (Or.inl rfl) | exact Or.inr (Or.inr rfl)) (hd : (x == ("__debug__" : Str)) = false := by decide)
    (hcd : (x == ("__classdict__" : Str)) = false := by decide) : DE X (.Name x pos) (dVar i) := pe_w (pe_var hN hv hd hcd) fun σ H Q ⟨Z, F, M, ρ, QD, R, h, o⟩ => by
  unfold dVar at h
  split at h
  · rename_i d e
    obtain ⟨v, q, r⟩ := R.e.at_ i d (atD_get e)
    exact ⟨v, q, o v d F H M (Ext.refl F) R.m r h⟩
  · exact h.elim
/-- a constant, a class, a def: a value that is known -/
theorem de_c {v : V} {d : Dat} (h : PE X e (tC v)) (r : ∀ F, Rep X.K F v d) : DE X e (dC d) := pe_w h fun σ H Q ⟨Z, F, M, ρ, QD, R, h, o⟩ => o v d F H M (Ext.refl F) R.m (r F) h
theorem de_int {i j} : DE X (.Constant (.int i) j pos) (dC (.int i)) := de_c pe_int fun _ => .int i
theorem de_bl {b j} : DE X (.Constant (.bool b) j pos) (dC (.bl b)) := de_c pe_bl fun _ => .bl b
theorem de_non {j} : DE X (.Constant .none j pos) (dC .non) := de_c pe_non fun _ => .non
theorem de_str {x j} : DE X (.Constant (.str x) j pos) (dC (.str x)) := de_c pe_str fun _ => .str x
/-! ### operators by values -/
abbrev R2D := Dat → Dat → MH → VKD → Prop
def SimO (K : PySem.W.Frag) (r : R2) (d : R2D) : Prop := ∀ Z F H M x y a b Q QD, RelM K Z F H M → Rep K F x a → Rep K F y b → d a b M QD → OkV K Z F Q QD → r x y H Q
def OpD (X : Cx) (f : Value → Value → Sem Value) (d : R2D) : Prop := ∃ r, OpR X f r ∧ SimO X.K r d
def dOp (r : R2D) (da db : TED) : TED := fun ρ M Q => da ρ M fun x M1 => db ρ M1 fun y M2 => r x y M2 Q
theorem up_bin {K : PySem.W.Frag} {r : R2} {d : R2D} (hs : SimO K r d) {σ : L2.St} {H : Hp} {Q : VK} (h : up K (dOp d da db) σ H Q) : tOp r (up K da) (up K db) σ H Q := by
  obtain ⟨Z, F, M, ρ, QD, R, h, o⟩ := h
  refine ⟨Z, F, M, ρ, _, R, h, fun x a F1 H1 M1 e1 R1 r1 h1 => ?_⟩
  refine ⟨Z, F1, M1, ρ, _, R.ext e1 R1, h1, fun y b F2 H2 M2 e2 R2 r2 h2 => ?_⟩
  exact hs Z F2 H2 M2 x y a b Q QD R2 (r1.mono e2) r2 h2 (o.mono (e1.trans e2))
theorem de_op {op : Operator} {d : R2D} (ho : OpD X (binaryOp op) d) (ha : DE X a da) (hb : DE X b db) : DE X (.BinOp a op b pos) (dOp d da db) := by
  obtain ⟨r, hr, hs⟩ := ho
  exact pe_w (pe_op hr ha hb) fun σ H Q h => up_bin hs h
/-- a comparison -/
theorem de_cmp {op : CmpOp} {d : R2D} (ho : OpD X (compareOp op) d) (ha : DE X a da) (hb : DE X b db) (hm : behindInMarks op b = false := by first | exact nomark _ | with_unfolding_all rfl) : DE X (.Compare a [op] [b] pos) (dOp d da db) := by
  obtain ⟨r, hr, hs⟩ := ho
  exact pe_w (pe_cmpR hr ha hb hm) fun σ H Q h => up_bin hs h
/-- a value as a test -/
def dTest (d : TED) : TTD := fun ρ M Q => d ρ M fun x M1 => match x with
  | .bl b => Q b M1
  | _ => False
theorem up_test {K : PySem.W.Frag} {d : TED} {σ : L2.St} {H : Hp} {Q : Bool → Hp → Prop} (h : upT K (dTest d) σ H Q) : up K d σ H (fun x H1 => ∃ k, x = .bl k ∧ Q k H1) := by
  obtain ⟨Z, F, M, ρ, QD, R, h, o⟩ := h
  refine ⟨Z, F, M, ρ, _, R, h, fun x a F1 H1 M1 e1 R1 r1 h1 => ?_⟩
  split at h1
  · rename_i b
    exact ⟨b, r1.toBl, o b F1 H1 M1 e1 R1 h1⟩
  · exact h1.elim
theorem dt_cmp {op : CmpOp} {d : R2D} (ho : OpD X (compareOp op) d) (ha : DE X a da) (hb : DE X b db) (hm : behindInMarks op b = false := by first | exact nomark _ | with_unfolding_all rfl) : DT X (.Compare a [op] [b] pos) (dTest (dOp d da db)) := by
  obtain ⟨r, hr, hs⟩ := ho
  refine pt_w (pt_cmpR hr ha hb hm) fun σ H Q h => ?_
  obtain ⟨Z, F, M, ρ, QD, R, h1, h2⟩ := up_test h
  exact up_bin hs ⟨Z, F, M, ρ, QD, R, h1, h2⟩
theorem dt_val (h : DE X e de) (he : ∀ whole, isTrue e X.env whole = (do let v ← whole; standAt e.pos; holding [v] (truthy v)) := by intro _; rfl) : DT X e (dTest de) :=
  pt_w (pt_val h he) fun σ H Q h => up_test h
/-- a op1 b op2 c -/
def dChain (r r' : R2D) (da db dc : TED) : TED := fun ρ M Q => da ρ M fun x M1 => db ρ M1 fun y M2 => r x y M2 fun z M3 => match z with
  | .bl k => if k = true then dc ρ M3 fun w M4 => r' y w M4 Q else Q (.bl false) M3
  | _ => False
theorem up_chain {K : PySem.W.Frag} {r r' : R2} {d d' : R2D} (hs : SimO K r d) (hs' : SimO K r' d') {σ : L2.St} {H : Hp} {Q : VK} (h : up K (dChain d d' da db dc) σ H Q) : tChain r r' (up K da) (up K db) (up K dc) σ H Q := by
  obtain ⟨Z, F, M, ρ, QD, R, h, o⟩ := h
  refine ⟨Z, F, M, ρ, _, R, h, fun x a F1 H1 M1 e1 R1 r1 h1 => ?_⟩
  refine ⟨Z, F1, M1, ρ, _, R.ext e1 R1, h1, fun y b F2 H2 M2 e2 R2 r2 h2 => ?_⟩
  refine hs Z F2 H2 M2 x y a b _ _ R2 (r1.mono e2) r2 h2 fun z k F3 H3 M3 e3 R3 r3 h3 => ?_
  split at h3
  · rename_i k
    refine ⟨k, r3.toBl, ?_⟩
    cases k with
    | true =>
      rw [if_pos rfl] at h3 ⊢
      have R3' := R.ext ((e1.trans e2).trans e3) R3
      refine ⟨Z, F3, M3, ρ, _, R3', h3, fun w c F4 H4 M4 e4 R4 r4 h4 => ?_⟩
      exact hs' Z F4 H4 M4 y w b c Q QD R4 (r2.mono (e3.trans e4)) r4 h4 (o.mono (((e1.trans e2).trans e3).trans e4))
    | false =>
      rw [if_neg Bool.false_ne_true] at h3 ⊢
      exact o _ _ F3 H3 M3 ((e1.trans e2).trans e3) R3 (.bl false) h3
  · exact h3.elim
theorem de_chain {op op' : CmpOp} {d d' : R2D} (ho : OpD X (compareOp op) d) (ho' : OpD X (compareOp op') d') (ha : DE X a da) (hb : DE X b db) (hc : DE X c dc)
    (hm : lastMarks [op, op'] [b, c] = false := by with_unfolding_all rfl) : DE X (.Compare a [op, op'] [b, c] pos) (dChain d d' da db dc) := by
  obtain ⟨r, hr, hs⟩ := ho
  obtain ⟨r', hr', hs'⟩ := ho'
  exact pe_w (pe_chain hr hr' ha hb hc hm) fun σ H Q h => up_chain hs hs' h
theorem dt_chain {op op' : CmpOp} {d d' : R2D} (ho : OpD X (compareOp op) d) (ho' : OpD X (compareOp op') d') (ha : DE X a da) (hb : DE X b db) (hc : DE X c dc)
    (hm : lastMarks [op, op'] [b, c] = false := by with_unfolding_all rfl) : DT X (.Compare a [op, op'] [b, c] pos) (dTest (dChain d d' da db dc)) := by
  obtain ⟨r, hr, hs⟩ := ho
  obtain ⟨r', hr', hs'⟩ := ho'
  refine pt_w (pt_chain hr hr' ha hb hc hm) fun σ H Q h => ?_
  obtain ⟨Z, F, M, ρ, QD, R, h1, h2⟩ := up_test h
  exact up_chain hs hs' ⟨Z, F, M, ρ, QD, R, h1, h2⟩
/-- and, or, not of tests -/
def dAnd (t u : TTD) : TTD := fun ρ M Q => t ρ M fun b M1 => if b = true then u ρ M1 Q else Q false M1
def dOr (t u : TTD) : TTD := fun ρ M Q => t ρ M fun b M1 => if b = true then Q true M1 else u ρ M1 Q
def dNot (t : TTD) : TTD := fun ρ M Q => t ρ M fun b M1 => Q (!b) M1
variable {rest : List Expr}
theorem dw_and1 (ha : DT X a ta) : DW X (.BoolOp .And [a] pos) ta := pw_and1 ha
theorem dw_or1 (ha : DT X a ta) : DW X (.BoolOp .Or [a] pos) ta := pw_or1 ha
theorem dw_and (ha : DT X a ta) (hb : DW X (.BoolOp .And (b :: rest) pos) tb) : DW X (.BoolOp .And (a :: b :: rest) pos) (dAnd ta tb) := pw_w (pw_and ha hb) fun σ H Q ⟨Z, F, M, ρ, QD, R, h, o⟩ => by
  refine ⟨Z, F, M, ρ, _, R, h, fun k F1 H1 M1 e1 R1 h1 => ?_⟩
  cases k with
  | true =>
    rw [if_pos rfl] at h1 ⊢
    exact ⟨Z, F1, M1, ρ, QD, R.ext e1 R1, h1, o.mono e1⟩
  | false =>
    rw [if_neg Bool.false_ne_true] at h1 ⊢
    exact o false F1 H1 M1 e1 R1 h1
theorem dw_or (ha : DT X a ta) (hb : DW X (.BoolOp .Or (b :: rest) pos) tb) : DW X (.BoolOp .Or (a :: b :: rest) pos) (dOr ta tb) := pw_w (pw_or ha hb) fun σ H Q ⟨Z, F, M, ρ, QD, R, h, o⟩ => by
  refine ⟨Z, F, M, ρ, _, R, h, fun k F1 H1 M1 e1 R1 h1 => ?_⟩
  cases k with
  | true =>
    rw [if_pos rfl] at h1 ⊢
    exact o true F1 H1 M1 e1 R1 h1
  | false =>
    rw [if_neg Bool.false_ne_true] at h1 ⊢
    exact ⟨Z, F1, M1, ρ, QD, R.ext e1 R1, h1, o.mono e1⟩
theorem dt_w (h : DW X e ta) : DT X e ta := PW.pt h
theorem dt_not (ha : DT X a ta) : DT X (.UnaryOp .Not a pos) (dNot ta) := pt_w (pt_not ha) fun σ H Q ⟨Z, F, M, ρ, QD, R, h, o⟩ =>
  ⟨Z, F, M, ρ, _, R, h, fun k F1 H1 M1 e1 R1 h1 => o _ F1 H1 M1 e1 R1 h1⟩
/-- .. as values (bools) -/
def dAndV (da db : TED) : TED := fun ρ M Q => da ρ M fun x M1 => match x with
  | .bl k => if k = true then db ρ M1 Q else Q (.bl false) M1
  | _ => False
def dOrV (da db : TED) : TED := fun ρ M Q => da ρ M fun x M1 => match x with
  | .bl k => if k = true then Q (.bl true) M1 else db ρ M1 Q
  | _ => False
def dNotV (da : TED) : TED := fun ρ M Q => da ρ M fun x M1 => match x with
  | .bl k => Q (.bl (!k)) M1
  | _ => False
theorem de_one {op} (h : DE X a da) : DE X (.BoolOp op [a] pos) da := pe_one h
theorem de_and (ha : DE X a da) (hb : DE X (.BoolOp .And (b :: rest) pos) db) : DE X (.BoolOp .And (a :: b :: rest) pos) (dAndV da db) := pe_w (pe_and ha hb) fun σ H Q ⟨Z, F, M, ρ, QD, R, h, o⟩ => by
  refine ⟨Z, F, M, ρ, _, R, h, fun x a F1 H1 M1 e1 R1 r1 h1 => ?_⟩
  split at h1
  · rename_i k
    refine ⟨k, r1.toBl, ?_⟩
    cases k with
    | true =>
      rw [if_pos rfl] at h1 ⊢
      exact ⟨Z, F1, M1, ρ, QD, R.ext e1 R1, h1, o.mono e1⟩
    | false =>
      rw [if_neg Bool.false_ne_true] at h1 ⊢
      exact o _ _ F1 H1 M1 e1 R1 (.bl false) h1
  · exact h1.elim
theorem de_or (ha : DE X a da) (hb : DE X (.BoolOp .Or (b :: rest) pos) db) : DE X (.BoolOp .Or (a :: b :: rest) pos) (dOrV da db) := pe_w (pe_or ha hb) fun σ H Q ⟨Z, F, M, ρ, QD, R, h, o⟩ => by
  refine ⟨Z, F, M, ρ, _, R, h, fun x a F1 H1 M1 e1 R1 r1 h1 => ?_⟩
  split at h1
  · rename_i k
    refine ⟨k, r1.toBl, ?_⟩
    cases k with
    | true =>
      rw [if_pos rfl] at h1 ⊢
      exact o _ _ F1 H1 M1 e1 R1 (.bl true) h1
    | false =>
      rw [if_neg Bool.false_ne_true] at h1 ⊢
      exact ⟨Z, F1, M1, ρ, QD, R.ext e1 R1, h1, o.mono e1⟩
  · exact h1.elim
theorem de_not (ha : DE X a da) : DE X (.UnaryOp .Not a pos) (dNotV da) := pe_w (pe_not ha) fun σ H Q ⟨Z, F, M, ρ, QD, R, h, o⟩ => by
  refine ⟨Z, F, M, ρ, _, R, h, fun x a F1 H1 M1 e1 R1 r1 h1 => ?_⟩
  split at h1
  · rename_i k
    exact ⟨k, r1.toBl, o _ _ F1 H1 M1 e1 R1 (.bl _) h1⟩
  · exact h1.elim
/-- a if t else b -/
def dIf (t : TTD) (da db : TED) : TED := fun ρ M Q => t ρ M fun k M1 => if k = true then da ρ M1 Q else db ρ M1 Q
theorem de_if (hc : DT X c tc) (ha : DE X a da) (hb : DE X b db) : DE X (.IfExp c a b pos) (dIf tc da db) := pe_w (pe_ifExp hc ha hb) fun σ H Q ⟨Z, F, M, ρ, QD, R, h, o⟩ => by
  refine ⟨Z, F, M, ρ, _, R, h, fun k F1 H1 M1 e1 R1 h1 => ?_⟩
  cases k with
  | true =>
    rw [if_pos rfl] at h1 ⊢
    exact ⟨Z, F1, M1, ρ, QD, R.ext e1 R1, h1, o.mono e1⟩
  | false =>
    rw [if_neg Bool.false_ne_true] at h1 ⊢
    exact ⟨Z, F1, M1, ρ, QD, R.ext e1 R1, h1, o.mono e1⟩
/-- one value -/
def SimU (K : PySem.W.Frag) (r : V → Hp → VK → Prop) (d : Dat → MH → VKD → Prop) : Prop := ∀ Z F H M x a Q QD, RelM K Z F H M → Rep K F x a → d a M QD → OkV K Z F Q QD → r x H Q
def dUn (r : Dat → MH → VKD → Prop) (da : TED) : TED := fun ρ M Q => da ρ M fun x M1 => r x M1 Q
theorem up_un {K : PySem.W.Frag} {r : V → Hp → VK → Prop} {d : Dat → MH → VKD → Prop} (hs : SimU K r d) {σ : L2.St} {H : Hp} {Q : VK} (h : up K (dUn d da) σ H Q) : tUn r (up K da) σ H Q := by
  obtain ⟨Z, F, M, ρ, QD, R, h, o⟩ := h
  refine ⟨Z, F, M, ρ, _, R, h, fun x a F1 H1 M1 e1 R1 r1 h1 => ?_⟩
  exact hs Z F1 H1 M1 x a Q QD R1 r1 h1 (o.mono e1)
def dNeg : Dat → MH → VKD → Prop := fun x M Q => match x with
  | .int i => Q (.int (-i)) M
  | _ => False
theorem de_neg (ha : DE X a da) : DE X (.UnaryOp .USub a pos) (dUn dNeg da) := pe_w (pe_un un_neg ha) fun σ H Q h => up_un (fun Z F H M x a Q QD R r h o => by
  unfold dNeg at h
  split at h
  · exact ⟨_, r.toInt, o _ _ F H M (Ext.refl F) R (.int _) h⟩
  · exact h.elim) h
/-! ### arguments, displays -/
def dNil : TAD := fun _ M Q => Q [] M
def dCons (da : TED) (dr : TAD) : TAD := fun ρ M Q => da ρ M fun x M1 => dr ρ M1 fun xs M2 => Q (x :: xs) M2
theorem da_nil : DA X [] dNil := pa_w pa_nil fun σ H Q ⟨Z, F, M, ρ, QD, R, h, o⟩ => o [] [] F H M (Ext.refl F) R.m .nil h
theorem da_cons {dr : TAD} (ha : DE X e de) (hr : DA X es dr) (hs : starEach (e :: es) X.env = (false, eval e X.env) :: starEach es X.env := by rfl) : DA X (e :: es) (dCons de dr) := pa_w (pa_cons ha hr hs) fun σ H Q ⟨Z, F, M, ρ, QD, R, h, o⟩ => by
  refine ⟨Z, F, M, ρ, _, R, h, fun x a F1 H1 M1 e1 R1 r1 h1 => ?_⟩
  refine ⟨Z, F1, M1, ρ, _, R.ext e1 R1, h1, fun xs as F2 H2 M2 e2 R2 r2 h2 => ?_⟩
  exact o _ _ F2 H2 M2 (e1.trans e2) R2 (.cons (r1.mono e2) r2) h2
/-- a new list: one that never changes, or one that is to change -/
def newL (mk : Bool) (ds : List Dat) (M : MH) (Q : VKD) : Prop := match mk with
  | false => Q (.lst ds) M
  | true => ∀ a, M a = none → Q (.ref a) (updM M a (.lst ds))
theorem sim_new {K : PySem.W.Frag} {Z F H : Hp} {M : MH} {xs : List V} {ds : List Dat} {Q : VK} {QD : VKD} {mk : Bool} (R : RelM K Z F H M) (r : Reps K F xs ds) (h : newL mk ds M QD) (o : OkV K Z F Q QD) {p : Addr} (hp : H p = none) : Q (.ref p) (upd H p (.lst xs)) := by
  cases mk with
  | false =>
    obtain ⟨R2, e2⟩ := R.newF (o := .lst xs) hp
    exact o _ _ _ _ M e2 R2 (.lst upd_same (r.mono e2)) h
  | true =>
    have R2 := R.newM (o := .lst xs) (m := .lst ds) hp ⟨xs, upd_same, r⟩
    exact o _ _ F _ _ (Ext.refl F) R2 (.ref p) (h p (R.fresh hp).2)
def dTup (dA : TAD) : TED := fun ρ M Q => dA ρ M fun xs M1 => xs.length ≤ sizeLine ∧ Q (.tup xs) M1
def dLst (mk : Bool) (dA : TAD) : TED := fun ρ M Q => dA ρ M fun xs M1 => xs.length ≤ sizeLine ∧ newL mk xs M1 Q
theorem de_tup {x1} (h : DA X es dA) : DE X (.Tuple es x1 pos) (dTup dA) := pe_w (pe_tup h) fun σ H Q ⟨Z, F, M, ρ, QD, R, h, o⟩ => by
  refine ⟨Z, F, M, ρ, _, R, h, fun xs as F1 H1 M1 e1 R1 r1 h1 => ?_⟩
  refine ⟨by rw [r1.length]; exact h1.1, fun p hp => ?_⟩
  obtain ⟨R2, e2⟩ := R1.newF (o := .tup xs) hp
  exact o _ _ _ _ M1 (e1.trans e2) R2 (.tup (SqT.of upd_same) (r1.mono e2)) h1.2
theorem de_lst (mk : Bool) (h : DA X es dA) : DE X (.List es pos) (dLst mk dA) := pe_w (pe_lst h) fun σ H Q ⟨Z, F, M, ρ, QD, R, h, o⟩ => by
  refine ⟨Z, F, M, ρ, _, R, h, fun xs as F1 H1 M1 e1 R1 r1 h1 => ?_⟩
  exact ⟨by rw [r1.length]; exact h1.1, fun p hp => sim_new R1 r1 h1.2 (o.mono e1) hp⟩
end
end DL
namespace DL
open PySem PySem.Spec PyProof.Rows L2
/-! ### lists as they stand -/
/-- a list that may be read and joined -/
def lsT (M : MH) : Dat → Option (List Dat)
  | .lst ds => some ds
  | .ref a => match M a with
    | some (.lst ds) => some ds
    | _ => none
  | _ => none
/-- a list that may be read -/
def lsR (M : MH) : Dat → Option (List Dat)
  | .lst ds => some ds
  | .frl ds => some ds
  | .ref a => match M a with
    | some (.lst ds) => some ds
    | _ => none
  | _ => none
section
variable {K : PySem.W.Frag} {Z F H : Hp} {M : MH} {x : V} {a : Dat} {ds : List Dat}
theorem lsT_rep (R : RelM K Z F H M) (r : Rep K F x a) (h : lsT M a = some ds) : ∃ p xs, x = .ref p ∧ H p = some (.lst xs) ∧ Reps K F xs ds := by
  unfold lsT at h
  split at h
  · cases h
    cases r with
    | lst q r => exact ⟨_, _, rfl, R.sub _ _ q, r⟩
  · rename_i p
    split at h
    · rename_i e
      cases h
      cases r
      obtain ⟨xs, q, r⟩ := (R.chg p _ e).2
      exact ⟨_, xs, rfl, q, r⟩
    · cases h
  · cases h
theorem lsR_rep (R : RelM K Z F H M) (r : Rep K F x a) (h : lsR M a = some ds) : ∃ p xs, x = .ref p ∧ SqL K H p xs ∧ Reps K F xs ds := by
  unfold lsR at h
  split at h
  · cases h
    cases r with
    | lst q r => exact ⟨_, _, rfl, SqL.of (R.sub _ _ q), r⟩
  · cases h
    cases r with
    | frl q r => exact ⟨_, _, rfl, ext_l R.sub q, r⟩
  · rename_i p
    split at h
    · rename_i e
      cases h
      cases r
      obtain ⟨xs, q, r⟩ := (R.chg p _ e).2
      exact ⟨_, xs, rfl, SqL.of q, r⟩
    · cases h
  · cases h
theorem lsR_lst : lsR M (.lst ds) = some ds := rfl
theorem lsR_frl : lsR M (.frl ds) = some ds := rfl
theorem lsT_lst : lsT M (.lst ds) = some ds := rfl
theorem lsR_ref {p : Addr} (h : M p = some (.lst ds)) : lsR M (.ref p) = some ds := by
  simp only [lsR, h]
theorem lsT_ref {p : Addr} (h : M p = some (.lst ds)) : lsT M (.ref p) = some ds := by
  simp only [lsT, h]
end
/-! ### arithmetic -/
section
variable {X : Cx}
/-- ints alone, by an operator's rule -/
theorem opd_int {f : Value → Value → Sem Value} {C : Int → Int → Prop} {g : Int → Int → V} {gD : Int → Int → Dat} (h : OpR X f (rI C g)) (hg : ∀ F i j, Rep X.K F (g i j) (gD i j)) :
    OpD X f (fun x y M Q => match x with
      | .int i => (match y with
        | .int j => C i j ∧ Q (gD i j) M
        | _ => False)
      | _ => False) := ⟨_, h, fun Z F H M x y a b Q QD R ra rb hd o => by
  dsimp only at hd
  split at hd
  · split at hd
    · exact ⟨_, _, ra.toInt, rb.toInt, hd.1, o _ _ F H M (Ext.refl F) R (hg F _ _) hd.2⟩
    · exact hd.elim
  · exact hd.elim⟩
theorem opd_int0 {f : Value → Value → Sem Value} {g : Int → Int → V} {gD : Int → Int → Dat} (h : OpR X f (rI0 g)) (hg : ∀ F i j, Rep X.K F (g i j) (gD i j)) :
    OpD X f (fun x y M Q => match x with
      | .int i => (match y with
        | .int j => Q (gD i j) M
        | _ => False)
      | _ => False) := ⟨_, h, fun Z F H M x y a b Q QD R ra rb hd o => by
  dsimp only at hd
  split at hd
  · split at hd
    · exact ⟨_, _, ra.toInt, rb.toInt, o _ _ F H M (Ext.refl F) R (hg F _ _) hd⟩
    · exact hd.elim
  · exact hd.elim⟩
def rSub : R2D := fun x y M Q => match x with
  | .int i => (match y with
    | .int j => Q (.int (i - j)) M
    | _ => False)
  | _ => False
theorem od_sub : OpD X (binaryOp .Sub) rSub := opd_int0 op_sub fun F i j => .int _
/-- floor division: the divisor is not 0, and C divides by itself -/
def DivOk (i j : Int) : Prop := j ≠ 0 ∧ Builtin.divisionGoesByPylong i j = false
theorem op_fdivG : OpR X (binaryOp .FloorDiv) (rI DivOk fun i j => .int (i.fdiv j)) := opI fun _ _ _ _ _ _ _ hc q => floordiv_int hc.1 q (.inl hc.2)
def rDiv : R2D := fun x y M Q => match x with
  | .int i => (match y with
    | .int j => DivOk i j ∧ Q (.int (i.fdiv j)) M
    | _ => False)
  | _ => False
theorem od_div : OpD X (binaryOp .FloorDiv) rDiv := opd_int op_fdivG fun F i j => .int _
def rMod : R2D := fun x y M Q => match x with
  | .int i => (match y with
    | .int j => j ≠ 0 ∧ Q (.int (i.fmod j)) M
    | _ => False)
  | _ => False
theorem od_mod : OpD X (binaryOp .Mod) rMod := opd_int op_modN fun F i j => .int _
def PowOk (i j : Int) : Prop := 0 ≤ j ∧ (Builtin.Int.intBits i : Int) * j ≤ 2 ^ 27
theorem op_powG : OpR X (binaryOp .Pow) (rI PowOk fun i j => .int (i ^ j.toNat)) := opI fun _ _ _ _ _ _ _ hc q => pow_int hc.1 hc.2 q
def rPow : R2D := fun x y M Q => match x with
  | .int i => (match y with
    | .int j => PowOk i j ∧ Q (.int (i ^ j.toNat)) M
    | _ => False)
  | _ => False
theorem od_pow : OpD X (binaryOp .Pow) rPow := opd_int op_powG fun F i j => .int _
def rShl : R2D := fun x y M Q => match x with
  | .int i => (match y with
    | .int j => CShl i j ∧ Q (.int (i * 2 ^ j.toNat)) M
    | _ => False)
  | _ => False
theorem od_shl : OpD X (binaryOp .LShift) rShl := opd_int op_shlW fun F i j => .int _
def rShr : R2D := fun x y M Q => match x with
  | .int i => (match y with
    | .int j => 0 ≤ j ∧ Q (.int (i / 2 ^ j.toNat)) M
    | _ => False)
  | _ => False
theorem od_shr : OpD X (binaryOp .RShift) rShr := opd_int op_shr fun F i j => .int _
def rAnd : R2D := fun x y M Q => match x with
  | .int i => (match y with
    | .int j => Q (.int (Builtin.bitAnd i j)) M
    | _ => False)
  | _ => False
theorem od_and : OpD X (binaryOp .BitAnd) rAnd := opd_int0 op_and fun F i j => .int _
def rOr : R2D := fun x y M Q => match x with
  | .int i => (match y with
    | .int j => Q (.int (Builtin.bitOr i j)) M
    | _ => False)
  | _ => False
theorem od_or : OpD X (binaryOp .BitOr) rOr := opd_int0 op_or fun F i j => .int _
def rXor : R2D := fun x y M Q => match x with
  | .int i => (match y with
    | .int j => Q (.int (Builtin.bitXor i j)) M
    | _ => False)
  | _ => False
theorem od_xor : OpD X (binaryOp .BitXor) rXor := opd_int0 op_xor fun F i j => .int _
def rLt : R2D := fun x y M Q => match x with
  | .int i => (match y with
    | .int j => Q (.bl (decide (i < j))) M
    | _ => False)
  | _ => False
theorem od_lt : OpD X (compareOp .Lt) rLt := opd_int0 op_lt fun F i j => .bl _
def rLe : R2D := fun x y M Q => match x with
  | .int i => (match y with
    | .int j => Q (.bl (decide (i ≤ j))) M
    | _ => False)
  | _ => False
theorem od_le : OpD X (compareOp .LtE) rLe := opd_int0 op_le fun F i j => .bl _
def rGt : R2D := fun x y M Q => match x with
  | .int i => (match y with
    | .int j => Q (.bl (decide (j < i))) M
    | _ => False)
  | _ => False
theorem od_gt : OpD X (compareOp .Gt) rGt := opd_int0 op_gt fun F i j => .bl _
def rGe : R2D := fun x y M Q => match x with
  | .int i => (match y with
    | .int j => Q (.bl (decide (j ≤ i))) M
    | _ => False)
  | _ => False
theorem od_ge : OpD X (compareOp .GtE) rGe := opd_int0 op_ge fun F i j => .bl _
/-- +: ints, texts, tuples, lists -/
def rAdd (mk : Bool) : R2D := fun x y M Q => match x with
  | .int i => (match y with
    | .int j => Q (.int (i + j)) M
    | _ => False)
  | .str i => (match y with
    | .str j => i.length + j.length ≤ sizeLine ∧ Q (.str (i ++ j)) M
    | _ => False)
  | .tup i => (match y with
    | .tup j => i ≠ [] ∧ j ≠ [] ∧ i.length + j.length ≤ sizeLine ∧ Q (.tup (i ++ j)) M
    | _ => False)
  | x => ∃ i j, lsT M x = some i ∧ lsT M y = some j ∧ i.length + j.length ≤ sizeLine ∧ newL mk (i ++ j) M Q
theorem reps_ne {K : PySem.W.Frag} {F : Hp} {vs : List V} {ds : List Dat} (r : Reps K F vs ds) (h : ds ≠ []) : vs ≠ [] := fun e => by
  subst e
  cases r
  exact h rfl
theorem od_add (mk : Bool) : OpD X (binaryOp .Add) (rAdd mk) := ⟨_, OpR.or op_add (OpR.or op_add_str (OpR.or op_catT op_cat)), fun Z F H M x y a b Q QD R ra rb hd o => by
  unfold rAdd at hd
  split at hd
  · split at hd
    · exact .inl ⟨_, _, ra.toInt, rb.toInt, o _ _ F H M (Ext.refl F) R (.int _) hd⟩
    · exact hd.elim
  · split at hd
    · exact .inr (.inl ⟨_, _, ra.toStr, rb.toStr, hd.1, o _ _ F H M (Ext.refl F) R (.str _) hd.2⟩)
    · exact hd.elim
  · split at hd
    · obtain ⟨h1, h2, h3, h4⟩ := hd
      cases ra with
      | tup q1 r1 =>
        cases rb with
        | tup q2 r2 =>
          have hne := reps_ne r1 h1
          have hne2 := reps_ne r2 h2
          refine .inr (.inr (.inl ⟨_, _, _, _, rfl, rfl, ext_t R.sub q1, ext_t R.sub q2, hne, by rw [r1.length, r2.length]; exact h3, ?_⟩))
          refine ⟨fun e => absurd e hne2, fun _ p hp => ?_⟩
          obtain ⟨R2, e2⟩ := R.newF (o := .tup _) hp
          exact o _ _ _ _ M e2 R2 (.tup (SqT.of upd_same) ((r1.app r2).mono e2)) h4
    · exact hd.elim
  · obtain ⟨i, j, h1, h2, h3, h4⟩ := hd
    obtain ⟨p, xs, rfl, q1, r1⟩ := lsT_rep R ra h1
    obtain ⟨p2, ys, rfl, q2, r2⟩ := lsT_rep R rb h2
    exact .inr (.inr (.inr ⟨_, _, _, _, rfl, rfl, q1, q2, by rw [r1.length, r2.length]; exact h3, fun p hp => sim_new R (r1.app r2) h4 o hp⟩))⟩
theorem Reps.rep {K : PySem.W.Frag} {F : Hp} {vs : List V} {ds : List Dat} (r : Reps K F vs ds) : ∀ n : Nat, Reps K F (List.replicate n vs).flatten (List.replicate n ds).flatten
  | 0 => .nil
  | n + 1 => by
    rw [List.replicate_succ, List.replicate_succ, List.flatten_cons, List.flatten_cons]
    exact r.app (Reps.rep r n)
/-- *: ints, a list times an int -/
def rMul (mk : Bool) : R2D := fun x y M Q => match x with
  | .int i => (match y with
    | .int j => IntMulOk i j ∧ Q (.int (i * j)) M
    | _ => False)
  | x => ∃ ds k, lsT M x = some ds ∧ y = .int k ∧ -(2 ^ 63) ≤ k ∧ k < 2 ^ 63 ∧ ds.length * k.toNat ≤ sizeLine ∧ newL mk (List.replicate k.toNat ds).flatten M Q
theorem op_mulG : OpR X (binaryOp .Mult) (rI IntMulOk fun i j => .int (i * j)) := opI fun _ _ _ _ _ _ _ hc q => mul_int q hc
theorem od_mul (mk : Bool) : OpD X (binaryOp .Mult) (rMul mk) := ⟨_, OpR.or op_mulG op_rep, fun Z F H M x y a b Q QD R ra rb hd o => by
  unfold rMul at hd
  split at hd
  · split at hd
    · exact .inl ⟨_, _, ra.toInt, rb.toInt, hd.1, o _ _ F H M (Ext.refl F) R (.int _) hd.2⟩
    · exact hd.elim
  · obtain ⟨ds, k, h1, h2, h3, h4, h5, h6⟩ := hd
    obtain ⟨p, xs, rfl, q1, r1⟩ := lsT_rep R ra h1
    subst h2
    exact .inr ⟨_, _, _, rfl, rb.toInt, q1, h3, h4, by rw [r1.length]; exact h5, fun p hp => sim_new R (r1.rep _) h6 o hp⟩⟩
/-! ### == and != of data -/
mutual
def toPy : Dat → PyData
  | .bl b => .bool b
  | .int i => .int i
  | .str x => .str x
  | .tup ds => .tuple (toPys ds)
  | .lst ds => .list (toPys ds)
  | .frl ds => .list (toPys ds)
  | _ => .none
def toPys : List Dat → List PyData
  | [] => []
  | d :: ds => toPy d :: toPys ds
end
mutual
/-- data alone, nested at most so deep -/
def shp : Nat → Dat → Bool
  | _, .non => true
  | _, .bl _ => true
  | _, .int _ => true
  | _, .str x => PyData.canLay0 (.str x)
  | n + 1, .tup ds => shps n ds
  | n + 1, .lst ds => shps n ds
  | n + 1, .frl ds => shps n ds
  | _, _ => false
def shps : Nat → List Dat → Bool
  | _, [] => true
  | n, d :: ds => shp n d && shps n ds
end
section
variable {K : PySem.W.Frag} {F : Hp}
mutual
theorem shp_dp : ∀ (n : Nat) (d : Dat) (v : V), shp n d = true → Rep K F v d → Dp K F v (toPy d)
  | _, .non, _, _, r => by cases r; exact .non
  | _, .bl _, _, _, r => by cases r; exact .bl _
  | _, .int _, _, _, r => by cases r; exact .int _
  | _, .str _, _, _, r => by cases r; exact .str _
  | n + 1, .tup ds, _, h, r => by
    cases r with
    | tup q r =>
      unfold toPy
      exact .tup q (shps_dp n ds _ (by unfold shp at h; exact h) r)
  | n + 1, .lst ds, _, h, r => by
    cases r with
    | lst q r =>
      unfold toPy
      exact .lst (SqL.of q) (shps_dp n ds _ (by unfold shp at h; exact h) r)
  | n + 1, .frl ds, _, h, r => by
    cases r with
    | frl q r =>
      unfold toPy
      exact .lst q (shps_dp n ds _ (by unfold shp at h; exact h) r)
  | 0, .tup _, _, h, _ => by unfold shp at h; cases h
  | 0, .lst _, _, h, _ => by unfold shp at h; cases h
  | 0, .frl _, _, h, _ => by unfold shp at h; cases h
  | _, .ty _, _, h, _ => by unfold shp at h; cases h
  | _, .cls _, _, h, _ => by unfold shp at h; cases h
  | _, .dic _, _, h, _ => by unfold shp at h; cases h
  | _, .ins _ _, _, h, _ => by unfold shp at h; cases h
  | _, .ref _, _, h, _ => by unfold shp at h; cases h
theorem shps_dp : ∀ (n : Nat) (ds : List Dat) (vs : List V), shps n ds = true → Reps K F vs ds → DpAll K F vs (toPys ds)
  | _, [], _, _, r => by
    cases r
    unfold toPys
    exact .nil
  | n, d :: ds, _, h, r => by
    cases r with
    | cons r1 r2 =>
      unfold shps at h
      rw [Bool.and_eq_true] at h
      unfold toPys
      exact .cons (shp_dp n d _ h.1 r1) (shps_dp n ds _ h.2 r2)
end
mutual
theorem shp_depth : ∀ (n : Nat) (d : Dat), shp n d = true → (toPy d).depth ≤ n ∧ PyData.canLay0 (toPy d) = true
  | _, .non, _ => by simp [toPy, PyData.depth, PyData.canLay0]
  | _, .bl _, _ => by simp [toPy, PyData.depth, PyData.canLay0]
  | _, .int _, _ => by simp [toPy, PyData.depth, PyData.canLay0]
  | _, .str x, h => by
    unfold shp at h
    simp only [toPy, PyData.depth]
    exact ⟨Nat.zero_le _, h⟩
  | n + 1, .tup ds, h => by
    unfold shp at h
    have := shps_depth n ds h
    simp only [toPy, PyData.depth, PyData.canLay0]
    exact ⟨by omega, this.2⟩
  | n + 1, .lst ds, h => by
    unfold shp at h
    have := shps_depth n ds h
    simp only [toPy, PyData.depth, PyData.canLay0]
    exact ⟨by omega, this.2⟩
  | n + 1, .frl ds, h => by
    unfold shp at h
    have := shps_depth n ds h
    simp only [toPy, PyData.depth, PyData.canLay0]
    exact ⟨by omega, this.2⟩
  | 0, .tup _, h => by unfold shp at h; cases h
  | 0, .lst _, h => by unfold shp at h; cases h
  | 0, .frl _, h => by unfold shp at h; cases h
  | _, .ty _, h => by unfold shp at h; cases h
  | _, .cls _, h => by unfold shp at h; cases h
  | _, .dic _, h => by unfold shp at h; cases h
  | _, .ins _ _, h => by unfold shp at h; cases h
  | _, .ref _, h => by unfold shp at h; cases h
theorem shps_depth : ∀ (n : Nat) (ds : List Dat), shps n ds = true → PyData.depthAll (toPys ds) ≤ n ∧ PyData.canLayAll0 (toPys ds) = true
  | _, [], _ => by simp [toPys, PyData.depthAll, PyData.canLayAll0]
  | n, d :: ds, h => by
    unfold shps at h
    rw [Bool.and_eq_true] at h
    have h1 := shp_depth n d h.1
    have h2 := shps_depth n ds h.2
    simp only [toPys, PyData.depthAll, PyData.canLayAll0, Bool.and_eq_true]
    exact ⟨by omega, h1.2, h2.2⟩
end
theorem shaped_of {d : Dat} (h : shp 64 d = true) : SeqAt.shaped (toPy d) = true := by
  have := shp_depth 64 d h
  unfold SeqAt.shaped
  rw [Bool.and_eq_true]
  exact ⟨this.2, decide_eq_true this.1⟩
mutual
theorem Dp.mono {H H' : Hp} (e : Ext H H') : ∀ {v : V} {d : PyData}, Dp K H v d → Dp K H' v d
  | _, _, .non => .non
  | _, _, .bl b => .bl b
  | _, _, .int i => .int i
  | _, _, .str x => .str x
  | _, _, .lst h r => .lst (ext_l e h) (DpAll.mono e r)
  | _, _, .tup h r => .tup (ext_t e h) (DpAll.mono e r)
theorem DpAll.mono {H H' : Hp} (e : Ext H H') : ∀ {vs : List V} {ds : List PyData}, DpAll K H vs ds → DpAll K H' vs ds
  | _, _, .nil => .nil
  | _, _, .cons h r => .cons (Dp.mono e h) (DpAll.mono e r)
end
end
/-- a list that is to change, as the list that it is -/
def deref (M : MH) : Dat → Dat
  | .ref a => match M a with
    | some (.lst ds) => .lst ds
    | _ => .ref a
  | d => d
theorem deref_dp {K : PySem.W.Frag} {Z F H : Hp} {M : MH} {x : V} {a : Dat} (R : RelM K Z F H M) (r : Rep K F x a) (h : shp 64 (deref M a) = true) : Dp K H x (toPy (deref M a)) := by
  unfold deref at h ⊢
  split at h
  · rename_i p
    split at h
    · rename_i ds e
      cases r
      obtain ⟨xs, q, r⟩ := (R.chg p _ e).2
      simp only [toPy]
      exact .lst (SqL.of q) (DpAll.mono R.sub (shps_dp 63 ds xs (by unfold shp at h; exact h) r))
    · unfold shp at h
      cases h
  · exact Dp.mono R.sub (shp_dp 64 _ x h r)
/-- equal data -/
def eqD (a b : Dat) : Bool := PyData.eqv (toPy a) (toPy b)
def rEqD : R2D := fun x y M Q => match x with
  | .int i => (match y with
    | .int j => Q (.bl (decide (i = j))) M
    | y => shp 64 (deref M y) = true ∧ Q (.bl (eqD (.int i) (deref M y))) M)
  | x => shp 64 (deref M x) = true ∧ shp 64 (deref M y) = true ∧ Q (.bl (eqD (deref M x) (deref M y))) M
def rNeD : R2D := fun x y M Q => match x with
  | .int i => (match y with
    | .int j => Q (.bl (!decide (i = j))) M
    | y => shp 64 (deref M y) = true ∧ Q (.bl (!eqD (.int i) (deref M y))) M)
  | x => shp 64 (deref M x) = true ∧ shp 64 (deref M y) = true ∧ Q (.bl (!eqD (deref M x) (deref M y))) M
theorem od_eq (hu : X.A.units + 64 < cLine) : OpD X (compareOp .Eq) rEqD := ⟨_, OpR.or op_eq (op_eqD hu), fun Z F H M x y a b Q QD R ra rb hd o => by
  unfold rEqD at hd
  split at hd
  · rename_i i
    have ex := ra.toInt
    split at hd
    · rename_i j
      have ey := rb.toInt
      subst ex ey
      refine .inl ⟨rfl, o _ _ F H M (Ext.refl F) R ?_ hd⟩
      have e : decide (V.int i = V.int j) = decide (i = j) := by simp
      rw [e]
      exact .bl _
    · refine .inr ⟨_, _, Dp.mono R.sub (shp_dp 0 (.int i) x rfl ra), deref_dp R rb hd.1, rfl, shaped_of hd.1, o _ _ F H M (Ext.refl F) R (.bl _) hd.2⟩
  · exact .inr ⟨_, _, deref_dp R ra hd.1, deref_dp R rb hd.2.1, shaped_of hd.1, shaped_of hd.2.1, o _ _ F H M (Ext.refl F) R (.bl _) hd.2.2⟩⟩
theorem od_ne (hu : X.A.units + 64 < cLine) : OpD X (compareOp .NotEq) rNeD := ⟨_, OpR.or op_ne (op_neD hu), fun Z F H M x y a b Q QD R ra rb hd o => by
  unfold rNeD at hd
  split at hd
  · rename_i i
    have ex := ra.toInt
    split at hd
    · rename_i j
      have ey := rb.toInt
      subst ex ey
      refine .inl ⟨rfl, o _ _ F H M (Ext.refl F) R ?_ hd⟩
      have e : decide (V.int i = V.int j) = decide (i = j) := by simp
      rw [e]
      exact .bl _
    · refine .inr ⟨_, _, Dp.mono R.sub (shp_dp 0 (.int i) x rfl ra), deref_dp R rb hd.1, rfl, shaped_of hd.1, o _ _ F H M (Ext.refl F) R (.bl _) hd.2⟩
  · exact .inr ⟨_, _, deref_dp R ra hd.1, deref_dp R rb hd.2.1, shaped_of hd.1, shaped_of hd.2.1, o _ _ F H M (Ext.refl F) R (.bl _) hd.2.2⟩⟩
/-- is None, is not None; of bools -/
def isN : Dat → Bool
  | .non => true
  | _ => false
theorem isN_rep {K : PySem.W.Frag} {F : Hp} {x : V} {a : Dat} (r : Rep K F x a) : decide (x = .non) = isN a := by
  cases r <;> simp [isN]
def rIs : R2D := fun x y M Q => match y with
  | .non => Q (.bl (isN x)) M
  | .bl b => (match x with
    | .bl a => Q (.bl (decide (a = b))) M
    | _ => False)
  | _ => False
def rIsNot : R2D := fun x y M Q => match y with
  | .non => Q (.bl (!isN x)) M
  | .bl b => (match x with
    | .bl a => Q (.bl (!decide (a = b))) M
    | _ => False)
  | _ => False
theorem od_is : OpD X (compareOp .Is) rIs := ⟨_, OpR.or op_isN op_isBl, fun Z F H M x y a b Q QD R ra rb hd o => by
  unfold rIs at hd
  split at hd
  · refine .inl ⟨rb.toNon, o _ _ F H M (Ext.refl F) R ?_ hd⟩
    rw [isN_rep ra]
    exact .bl _
  · split at hd
    · exact .inr ⟨_, _, ra.toBl, rb.toBl, o _ _ F H M (Ext.refl F) R (.bl _) hd⟩
    · exact hd.elim
  · exact hd.elim⟩
theorem od_isnot : OpD X (compareOp .IsNot) rIsNot := ⟨_, OpR.or op_notN op_notBl, fun Z F H M x y a b Q QD R ra rb hd o => by
  unfold rIsNot at hd
  split at hd
  · refine .inl ⟨rb.toNon, o _ _ F H M (Ext.refl F) R ?_ hd⟩
    rw [isN_rep ra]
    exact .bl _
  · split at hd
    · exact .inr ⟨_, _, ra.toBl, rb.toBl, o _ _ F H M (Ext.refl F) R (.bl _) hd⟩
    · exact hd.elim
  · exact hd.elim⟩
/-- x in s, x not in s: s a tuple or a list of flat data, x flat -/
def flatD : Dat → Bool
  | .non => true
  | .bl _ => true
  | .int _ => true
  | .str _ => true
  | _ => false
def eqF : Dat → Dat → Bool
  | .non, .non => true
  | .bl a, .bl b => a == b
  | .int a, .int b => a == b
  | .str a, .str b => a == b
  | .bl a, .int b => (if a then 1 else 0) == b
  | .int a, .bl b => a == (if b then 1 else 0)
  | _, _ => false
end
end DL
namespace DL
open PySem PySem.Spec PyProof.Rows L2
section
variable {K : PySem.W.Frag} {Z F H : Hp} {M : MH}
theorem flat_rep {x : V} {a : Dat} (r : Rep K F x a) (h : flatD a = true) : flatV x = true := by
  cases r <;> first | rfl | (unfold flatD at h; cases h)
theorem eqF_rep {x y : V} {a b : Dat} (ra : Rep K F x a) (rb : Rep K F y b) (ha : flatD a = true) (hb : flatD b = true) : eqV x y = eqF a b := by
  cases ra <;> first | (unfold flatD at ha; cases ha; done) | skip
  all_goals (cases rb <;> first | (unfold flatD at hb; cases hb; done) | rfl)
theorem flats_rep {xs : List V} {ds : List Dat} (r : Reps K F xs ds) (h : ds.all flatD = true) : xs.all flatV = true := by
  induction xs generalizing ds with
  | nil => rfl
  | cons x xs ih =>
    cases r with
    | cons r1 r2 =>
      rw [List.all_cons, Bool.and_eq_true] at h ⊢
      exact ⟨flat_rep r1 h.1, ih r2 h.2⟩
def inD (a : Dat) (ds : List Dat) : Bool := ds.any fun b => eqF b a
theorem inD_rep {x : V} {a : Dat} {xs : List V} {ds : List Dat} (ra : Rep K F x a) (r : Reps K F xs ds) (ha : flatD a = true) (h : ds.all flatD = true) : inV x xs = inD a ds := by
  unfold inV inD
  induction xs generalizing ds with
  | nil =>
    cases r
    rfl
  | cons y xs ih =>
    cases r with
    | cons r1 r2 =>
      rw [List.all_cons, Bool.and_eq_true] at h
      rw [List.any_cons, List.any_cons, eqF_rep r1 ra h.1 ha, ih r2 h.2]
/-- the items of a list or a tuple -/
def itemsR (M : MH) : Dat → Option (List Dat)
  | .tup ds => some ds
  | x => lsR M x
theorem itemsR_rep {x : V} {a : Dat} {ds : List Dat} (R : RelM K Z F H M) (r : Rep K F x a) (h : itemsR M a = some ds) : ∃ p xs, x = .ref p ∧ (SqL K H p xs ∨ SqT K H p xs) ∧ Reps K F xs ds := by
  unfold itemsR at h
  split at h
  · cases h
    cases r with
    | tup q r => exact ⟨_, _, rfl, .inr (ext_t R.sub q), r⟩
  · obtain ⟨p, xs, e, q, r⟩ := lsR_rep R r h
    exact ⟨p, xs, e, .inl q, r⟩
end
section
variable {X : Cx}
def rInD : R2D := fun x y M Q => ∃ ds, itemsR M y = some ds ∧ flatD x = true ∧ ds.all flatD = true ∧ Q (.bl (inD x ds)) M
def rNotInD : R2D := fun x y M Q => ∃ ds, itemsR M y = some ds ∧ flatD x = true ∧ ds.all flatD = true ∧ Q (.bl (!inD x ds)) M
theorem od_in : OpD X (compareOp .In) rInD := ⟨_, op_in_seq, fun Z F H M x y a b Q QD R ra rb hd o => by
  obtain ⟨ds, h1, h2, h3, h4⟩ := hd
  obtain ⟨p, xs, rfl, q, r⟩ := itemsR_rep R rb h1
  refine ⟨p, xs, rfl, q, flat_rep ra h2, flats_rep r h3, ?_⟩
  rw [inD_rep ra r h2 h3]
  exact o _ _ F H M (Ext.refl F) R (.bl _) h4⟩
theorem od_notin : OpD X (compareOp .NotIn) rNotInD := ⟨_, op_notIn_seq, fun Z F H M x y a b Q QD R ra rb hd o => by
  obtain ⟨ds, h1, h2, h3, h4⟩ := hd
  obtain ⟨p, xs, rfl, q, r⟩ := itemsR_rep R rb h1
  refine ⟨p, xs, rfl, q, flat_rep ra h2, flats_rep r h3, ?_⟩
  rw [inD_rep ra r h2 h3]
  exact o _ _ F H M (Ext.refl F) R (.bl _) h4⟩
/-! ### subscripts, slices -/
theorem atI_rep {K : PySem.W.Frag} {F : Hp} {xs : List V} {ds : List Dat} {i : Int} {d : Dat} (r : Reps K F xs ds) (h : atI ds i = some d) : ∃ v, atI xs i = some v ∧ Rep K F v d := by
  unfold atI at h ⊢
  rw [r.length]
  cases e : ixN ds.length i with
  | none =>
    rw [e] at h
    cases h
  | some j =>
    rw [e] at h
    exact r.get h
def rIxD : R2D := fun x y M Q => match y with
  | .int i => ∃ ds d, itemsR M x = some ds ∧ atI ds i = some d ∧ Q d M
  | _ => False
variable {a b : Expr} {pos : Pos} {da db : TED}
theorem de_ix (ha : DE X a da) (hb : DE X b db) (hs : PlainIx b := by exact fun _ _ => rfl) : DE X (.Subscript a b pos) (dOp rIxD da db) := pe_w (pe_ix (IxR.or ix_list ix_tup) ha hb hs) fun σ H Q h => up_bin (fun Z F H M x y a b Q QD R ra rb hd o => by
  unfold rIxD at hd
  split at hd
  · obtain ⟨ds, d, h1, h2, h3⟩ := hd
    obtain ⟨p, xs, rfl, q, r⟩ := itemsR_rep R ra h1
    obtain ⟨v, h4, r4⟩ := atI_rep r h2
    rcases q with q | q
    · exact .inl ⟨p, xs, _, v, rfl, rb.toInt, q, h4, o _ _ F H M (Ext.refl F) R r4 h3⟩
    · exact .inr ⟨p, xs, _, v, rfl, rb.toInt, q, h4, o _ _ F H M (Ext.refl F) R r4 h3⟩
  · exact hd.elim) h
/-- the part of a slice -/
abbrev TOD := EnvD → MH → (Option Int → MH → Prop) → Prop
def OkO (K : PySem.W.Frag) (Z F : Hp) (Q : Option Int → Hp → Prop) (QD : Option Int → MH → Prop) : Prop := ∀ i F' H' M', Ext F F' → RelM K Z F' H' M' → QD i M' → Q i H'
def upO (K : PySem.W.Frag) (d : TOD) : TO := fun σ H Q => ∃ Z F M ρ QD, Rel K Z F H M σ ρ ∧ d ρ M QD ∧ OkO K Z F Q QD
theorem po_w {e : Option Expr} {t u : TO} (h : PO X e t) (w : ∀ σ H Q, u σ H Q → t σ H Q) : PO X e u := ⟨fun pins s σ H Q I q => h.run pins s σ H Q I (w σ H Q q)⟩
abbrev DO (X : Cx) (e : Option Expr) (d : TOD) : Prop := PO X e (upO X.K d)
def dNoPart : TOD := fun _ M Q => Q none M
def dPart (d : TED) : TOD := fun ρ M Q => d ρ M fun x M1 => match x with
  | .int i => Q (some i) M1
  | _ => False
theorem do_none : DO X none dNoPart := po_w po_none fun σ H Q ⟨Z, F, M, ρ, QD, R, h, o⟩ => o none F H M (Ext.refl F) R.m h
theorem do_some (h : DE X a da) : DO X (some a) (dPart da) := po_w (po_some h) fun σ H Q ⟨Z, F, M, ρ, QD, R, h, o⟩ => by
  refine ⟨Z, F, M, ρ, _, R, h, fun x a F1 H1 M1 e1 R1 r1 h1 => ?_⟩
  split at h1
  · exact ⟨_, r1.toInt, o _ F1 H1 M1 e1 R1 h1⟩
  · exact h1.elim
def cutD (xs : List Dat) (lo hi : Option Int) : List Dat := (xs.drop (HT.sIx xs.length 0 lo)).take (HT.sIx xs.length xs.length hi - HT.sIx xs.length 0 lo)
theorem cut_rep {K : PySem.W.Frag} {F : Hp} {xs : List V} {ds : List Dat} (r : Reps K F xs ds) (lo hi : Option Int) : Reps K F (cutV xs lo hi) (cutD ds lo hi) := by
  unfold cutV cutD
  rw [r.length]
  exact (r.drop _).take _
/-- xs[lo:hi] -/
def dSl (mk : Bool) (da : TED) (dl dh : TOD) : TED := fun ρ M Q => da ρ M fun x M1 => dl ρ M1 fun lo M2 => dh ρ M2 fun hi M3 => match x with
  | .tup ds => ¬ (HT.sIx ds.length 0 lo = 0 ∧ HT.sIx ds.length ds.length hi = ds.length) ∧ Q (.tup (cutD ds lo hi)) M3
  | x => ∃ ds, lsR M3 x = some ds ∧ newL mk (cutD ds lo hi) M3 Q
variable {lo hi : Option Expr} {dl dh : TOD} {p2 : Pos}
theorem de_sl (mk : Bool) (ha : DE X a da) (hl : DO X lo dl) (hh : DO X hi dh) : DE X (.Subscript a (.Slice lo hi none p2) pos) (dSl mk da dl dh) := pe_w (pe_slice (SlR.or sl_list sl_tup) ha hl hh) fun σ H Q ⟨Z, F, M, ρ, QD, R, h, o⟩ => by
  refine ⟨Z, F, M, ρ, _, R, h, fun x a F1 H1 M1 e1 R1 r1 h1 => ?_⟩
  refine ⟨Z, F1, M1, ρ, _, R.ext e1 R1, h1, fun l F2 H2 M2 e2 R2 h2 => ?_⟩
  refine ⟨Z, F2, M2, ρ, _, R.ext (e1.trans e2) R2, h2, fun u F3 H3 M3 e3 R3 h3 => ?_⟩
  have r3 := r1.mono (e2.trans e3)
  have o3 := o.mono ((e1.trans e2).trans e3)
  split at h3
  · cases r3 with
    | tup q r =>
      refine .inr ⟨_, _, rfl, ext_t R3.sub q, by rw [r.length]; exact h3.1, fun p hp => ?_⟩
      obtain ⟨R4, e4⟩ := R3.newF (o := .tup _) hp
      exact o3 _ _ _ _ M3 e4 R4 (.tup (SqT.of upd_same) ((cut_rep r l u).mono e4)) h3.2
  · obtain ⟨ds, h4, h5⟩ := h3
    obtain ⟨p, xs, rfl, q, r⟩ := lsR_rep R3 r3 h4
    exact .inl ⟨p, xs, rfl, q, fun p hp => sim_new R3 (cut_rep r l u) h5 o3 hp⟩
/-- xs[::-1] -/
def dRev (mk : Bool) (da : TED) : TED := fun ρ M Q => da ρ M fun x M1 => ∃ ds, lsR M1 x = some ds ∧ newL mk ds.reverse M1 Q
theorem de_rev (mk : Bool) {k : Nat} {p1 p3 : Pos} (ha : DE X a da) : DE X (.Subscript a (.Slice none none (some (.UnaryOp .USub (.Constant (.int 1) k p1) p2)) p3) pos) (dRev mk da) := pe_w (pe_revL ha) fun σ H Q ⟨Z, F, M, ρ, QD, R, h, o⟩ => by
  refine ⟨Z, F, M, ρ, _, R, h, fun x a F1 H1 M1 e1 R1 r1 h1 => ?_⟩
  obtain ⟨ds, h4, h5⟩ := h1
  obtain ⟨p, xs, rfl, q, r⟩ := lsR_rep R1 r1 h4
  exact ⟨p, xs, rfl, q, fun p hp => sim_new R1 r.rev h5 (o.mono e1) hp⟩
/-! ### fields -/
theorem repF_at {K : PySem.W.Frag} {F : Hp} {f : Str} {d : Dat} : ∀ {fs : List (Str × V)} {gs : List (Str × Dat)} {i : Nat}, RepF K F fs gs → (fs.map (·.1)).Nodup → gs[i]? = some (f, d) → ∃ v, fs.lookup f = some v ∧ Rep K F v d := by
  intro fs
  induction fs with
  | nil =>
    intro gs i r _ h
    cases r
    simp at h
  | cons p fs ih =>
    intro gs i r n h
    cases r with
    | @cons g v vs d' ds r1 r2 =>
      rw [List.map_cons, List.nodup_cons] at n
      cases i with
      | zero =>
        have e := Option.some.inj h
        cases e
        exact ⟨v, by simp [List.lookup], r1⟩
      | succ i =>
        have h' : ds[i]? = some (f, d) := h
        obtain ⟨w, e1, e2⟩ := ih r2 n.2 h'
        have hne : f ≠ g := fun e => by
          subst e
          refine n.1 ?_
          have hm : ∀ {l : List (Str × V)}, l.lookup f = some w → f ∈ l.map (·.1) := by
            intro l
            induction l with
            | nil => intro h; cases h
            | cons q l ihl =>
              intro h
              obtain ⟨g2, v2⟩ := q
              by_cases eq : f = g2
              · subst eq
                exact List.mem_cons_self ..
              · have e3 : (f == g2) = false := by simpa using eq
                simp only [List.lookup, e3] at h
                exact List.mem_cons_of_mem _ (ihl h)
          exact hm e1
        refine ⟨w, ?_, e2⟩
        have e3 : (f == g) = false := by simpa using hne
        simp only [List.lookup, e3]
        exact e1
/-- what the text's class asks: cl, and that its instances have no class attribute called so -/
def fieldsOf (M : MH) : Dat → Option (Addr × List (Str × Dat))
  | .ins C gs => some (C, gs)
  | .ref a => match M a with
    | some (.ins C gs) => some (C, gs)
    | _ => none
  | _ => none
theorem fieldsOf_rep {K : PySem.W.Frag} {Z F H : Hp} {M : MH} {x : V} {a : Dat} {C : Addr} {gs : List (Str × Dat)} (R : RelM K Z F H M) (r : Rep K F x a) (h : fieldsOf M a = some (C, gs)) : ∃ p dx fs, x = .ref p ∧ H p = some (.ins C dx fs) ∧ RepF K F fs gs ∧ (fs.map (·.1)).Nodup := by
  unfold fieldsOf at h
  split at h
  · cases h
    cases r with
    | ins q r n => exact ⟨_, _, _, rfl, R.sub _ _ q, r, n⟩
  · rename_i p
    split at h
    · rename_i e
      cases h
      cases r
      obtain ⟨dx, fs, q, r, n⟩ := (R.chg p _ e).2
      exact ⟨_, dx, fs, rfl, q, r, n⟩
    · cases h
  · cases h
/-- o.f: number i of its fields; the class is C -/
def dFld (C : Addr) (i : Nat) (f : Str) (da : TED) : TED := fun ρ M Q => da ρ M fun x M1 => ∃ gs d, fieldsOf M1 x = some (C, gs) ∧ gs[i]? = some (f, d) ∧ Q d M1
theorem de_fld (C : Addr) (i : Nat) {f : Str} (cl : Cls X.K C) (nf : NoAttr X.K C f) (ha : DE X a da) (hb : attributeBase a f X.env (eval a X.env) = eval a X.env := by rfl) : DE X (.Attribute a f pos) (dFld C i f da) := pe_w (pe_fld ha hb) fun σ H Q ⟨Z, F, M, ρ, QD, R, h, o⟩ => by
  refine ⟨Z, F, M, ρ, _, R, h, fun x a F1 H1 M1 e1 R1 r1 h1 => ?_⟩
  obtain ⟨gs, d, h2, h3, h4⟩ := h1
  obtain ⟨p, dx, fs, rfl, q, r, n⟩ := fieldsOf_rep R1 r1 h2
  obtain ⟨v, e2, r2⟩ := repF_at r n h3
  exact ⟨p, C, dx, fs, v, rfl, q, cl, nf, e2, o _ _ F1 H1 M1 e1 R1 r2 h4⟩
/-! ### isinstance -/
/-- what the text's class asks of isinstance -/
structure InsK (K : PySem.W.Frag) (C : Addr) : Prop where
  cl : Cls K C
  ha : PySem.W.findIn K (.ref C) "__class__" = some (some (.builtin "object.__class__"))
  hn : PySem.W.specialIn K (.builtin "object.__class__") "__get__" = some (some (.builtin "getset_descriptor.__get__"))
  htk : PySem.W.takesIn K (.builtin "object.__class__") = some true
  hm : PySem.W.mroIn K C (.type "object") = some true
/-- the type of a datum that is no instance -/
def tyD : Dat → Option BT
  | .bl _ => some .bool
  | .int _ => some .int
  | .str _ => some .str
  | .tup _ => some .tup
  | .lst _ => some .lst
  | .frl _ => some .lst
  | .dic _ => some .dic
  | _ => none
def subB : BT → BT → Bool
  | .bool, .int => true
  | a, b => decide (a = b)
theorem kit_sub {K : PySem.W.Frag} (a b : BT) : PySem.W.kitOne K (.type a.nm) (.type b.nm) = some (subB a b) := by
  refine kit_ty ?_
  cases a <;> cases b <;> decide +kernel
theorem kit_none {K : PySem.W.Frag} (b : BT) : PySem.W.kitOne K (.type "NoneType") (.type b.nm) = some false := by
  refine kit_ty ?_
  cases b <;> decide +kernel
/-- the answer; that it is known -/
def isiR (x c : Dat) : Bool := match c with
  | .ty n => (match tyD x with
    | some t => subB t n
    | none => false)
  | .cls C => (match x with
    | .ins D _ => decide (D = C)
    | _ => false)
  | _ => false
/-- the type as the written part takes it -/
def tyV' (x : Dat) : Option Value := match x with
  | .ins D _ => some (.ref D)
  | .non => some (.type "NoneType")
  | x => (tyD x).map fun t => .type t.nm
def clsV' (c : Dat) : Option Value := match c with
  | .ty n => some (.type n.nm)
  | .cls C => some (.ref C)
  | _ => none
def IsiOk (K : PySem.W.Frag) (x c : Dat) : Prop := (∀ D gs, x = .ins D gs → InsK K D) ∧ ∃ t u, tyV' x = some t ∧ clsV' c = some u ∧ PySem.W.kitOne K t u = some (isiR x c)
/-- what is known of a class -/
structure ClsK (K : PySem.W.Frag) (C : Addr) : Prop where
  ik : InsK K C
  kn : PySem.W.kitOne K (.type "NoneType") (.ref C) = some false
  kt : ∀ t : BT, PySem.W.kitOne K (.type t.nm) (.ref C) = some false
  ks : ∀ t : BT, PySem.W.kitOne K (.ref C) (.type t.nm) = some false
  kk : PySem.W.kitOne K (.ref C) (.ref C) = some true
/-- data of no class but C -/
def OneC (C : Addr) : Dat → Prop
  | .ins D _ => D = C
  | .ty _ => False
  | .cls _ => False
  | .ref _ => False
  | _ => True
theorem tyD_or {C : Addr} {x : Dat} (h : OneC C x) : (∃ gs, x = .ins C gs) ∨ x = .non ∨ ∃ t, tyD x = some t := by
  cases x <;> first | (exact h.elim) | (exact .inr (.inl rfl)) | (exact .inr (.inr ⟨_, rfl⟩)) | skip
  rename_i D gs
  have e : D = C := h
  subst e
  exact .inl ⟨gs, rfl⟩
theorem tyV_of {x : Dat} {t : BT} (h : tyD x = some t) : tyV' x = some (.type t.nm) ∧ (∀ D gs, x ≠ .ins D gs) ∧ x ≠ .non := by
  cases x <;> first | (unfold tyD at h; cases h; done) | skip
  all_goals
    refine ⟨?_, fun D gs e => (by cases e), fun e => (by cases e)⟩
    cases h
    rfl
theorem isi_ty {K : PySem.W.Frag} {C : Addr} (k : ClsK K C) {x : Dat} (h : OneC C x) (n : BT) : IsiOk K x (.ty n) := by
  rcases tyD_or h with ⟨gs, rfl⟩ | rfl | ⟨t, e⟩
  · exact ⟨fun D g q => by cases q; exact k.ik, _, _, rfl, rfl, k.ks n⟩
  · exact ⟨(fun D g q => by cases q), _, _, rfl, rfl, kit_none n⟩
  · obtain ⟨e1, e2, e3⟩ := tyV_of e
    refine ⟨fun D g q => absurd q (e2 D g), _, _, e1, rfl, ?_⟩
    have : isiR x (.ty n) = subB t n := by
      unfold isiR
      rw [e]
    rw [this]
    exact kit_sub t n
theorem isi_cls {K : PySem.W.Frag} {C : Addr} (k : ClsK K C) {x : Dat} (h : OneC C x) : IsiOk K x (.cls C) := by
  rcases tyD_or h with ⟨gs, rfl⟩ | rfl | ⟨t, e⟩
  · refine ⟨fun D g q => by cases q; exact k.ik, _, _, rfl, rfl, ?_⟩
    have : isiR (.ins C gs) (.cls C) = true := by simp [isiR]
    rw [this]
    exact k.kk
  · exact ⟨(fun D g q => by cases q), _, _, rfl, rfl, k.kn⟩
  · obtain ⟨e1, e2, e3⟩ := tyV_of e
    refine ⟨fun D g q => absurd q (e2 D g), _, _, e1, rfl, ?_⟩
    have : isiR x (.cls C) = false := by
      cases x <;> first | rfl | (exact absurd rfl (e2 _ _))
    rw [this]
    exact k.kt t
end
section
variable {K : PySem.W.Frag} {Z F H : Hp} {M : MH}
theorem sqt_ty {H : Hp} {p : Addr} {xs : List V} (h : SqT K H p xs) : TyX K H (.ref p) (.type "tuple") := by
  rcases h with (h | ⟨o, h⟩) | ⟨o, its, n, hk, hc, _⟩
  · exact .base (.tup h)
  · exact .fTuple h
  · exact .kTuple hk hc
theorem sql_ty {H : Hp} {p : Addr} {xs : List V} (h : SqL K H p xs) : TyX K H (.ref p) (.type "list") := by
  rcases h with (h | ⟨o, h⟩) | ⟨o, its, n, hk, hc, _⟩
  · exact .base (.lst h)
  · exact .base (.frz h)
  · exact .kList hk hc
theorem tyD_rep {x : V} {a : Dat} {t : BT} (R : RelM K Z F H M) (r : Rep K F x a) (h : tyD a = some t) : TyX K H x (.type t.nm) := by
  cases r with
  | bl b => cases h; exact .base (.bl b)
  | int b => cases h; exact .base (.int b)
  | str b => cases h; exact .base (.str b)
  | tup q r => cases h; exact sqt_ty (ext_t R.sub q)
  | lst q r => cases h; exact .base (.lst (R.sub _ _ q))
  | frl q r => cases h; exact sql_ty (ext_l R.sub q)
  | dic q r => cases h; exact .base (.dK (R.sub _ _ q))
  | non => cases h
  | ty n => cases h
  | cls C => cases h
  | ins q r n => cases h
  | ref a => cases h
end
section
variable {X : Cx}
/-- isinstance(x, c): c a built-in class or one of the text's -/
def rIsiD (K : PySem.W.Frag) : List Dat → MH → VKD → Prop := fun ds M Q => match ds with
  | [x, c] => IsiOk K x c ∧ Q (.bl (isiR x c)) M
  | _ => False
/-- a builtin's call by data -/
def CallD (X : Cx) (f : Value) (d : List Dat → MH → VKD → Prop) : Prop := ∃ r, CallR X f r ∧ ∀ Z F H M vs ds Q QD, RelM X.K Z F H M → Reps X.K F vs ds → d ds M QD → OkV X.K Z F Q QD → r vs H Q
theorem cd_isi : CallD X (.builtin "isinstance") (rIsiD X.K) := ⟨_, call_isi, fun Z F H M vs ds Q QD R rs hd o => by
  unfold rIsiD at hd
  split at hd
  · rename_i x c
    obtain ⟨⟨hk, t, u, h1, h2, h3⟩, q⟩ := hd
    obtain ⟨v, ws, rfl, r1, rs⟩ := rs.uncons
    obtain ⟨y, ws, rfl, r2, rs⟩ := rs.uncons
    cases rs.unnil
    have hc : ClsV y u := by
      unfold clsV' at h2
      split at h2
      · cases h2
        cases r2
        exact .ty _
      · cases h2
        cases r2
        exact .own _
      · cases h2
    have ht : TyX X.K H v t := by
      unfold tyV' at h1
      split at h1
      · cases h1
        have k := hk _ _ rfl
        cases r1 with
        | ins q1 r n => exact .base (.ins (R.sub _ _ q1) k.cl k.ha k.hn k.htk k.hm)
      · cases h1
        cases r1
        exact .base .non
      · cases e : tyD x with
        | none =>
          rw [e] at h1
          cases h1
        | some bt =>
          rw [e] at h1
          cases h1
          exact tyD_rep R r1 e
    exact ⟨v, y, t, u, _, rfl, hc, ht, h3, o _ _ F H M (Ext.refl F) R (.bl _) q⟩
  · exact hd.elim⟩
/-! ### built-ins by their names -/
def dCB (r : List Dat → MH → VKD → Prop) (dA : TAD) : TED := fun ρ M Q => dA ρ M fun ds M1 => r ds M1 Q
variable {e : Expr} {es : List Expr} {pos p : Pos} {dA : TAD} {x : Str} {id T : String} {r : List Dat → MH → VKD → Prop}
theorem up_cb {r : List V → Hp → VK → Prop} {d : List Dat → MH → VKD → Prop} (hs : ∀ Z F H M vs ds Q QD, RelM X.K Z F H M → Reps X.K F vs ds → d ds M QD → OkV X.K Z F Q QD → r vs H Q) {σ : L2.St} {H : Hp} {Q : VK} (h : up X.K (dCB d dA) σ H Q) : tCB r (upA X.K dA) σ H Q := by
  obtain ⟨Z, F, M, ρ, QD, R, h, o⟩ := h
  refine ⟨Z, F, M, ρ, _, R, h, fun xs as F1 H1 M1 e1 R1 r1 h1 => ?_⟩
  exact hs Z F1 H1 M1 xs as Q QD R1 r1 h1 (o.mono e1)
theorem de_cb (hc : CallD X (.builtin id) r) (hg : Gl X x) (hm : X.mg x = none) (hv : bootBuiltins x = some (.builtin id)) (ha : DA X (e :: es) dA) (hn : x ≠ "__name__" := by decide) (hdb : (x == ("__debug__" : Str)) = false := by decide)
    (he : starEach (e :: es) X.env = (false, eval e X.env) :: starEach es X.env := by rfl) (hpl : (backTo pos (starEach es X.env)).any (·.1) = false := by rfl) : DE X (.Call (.Name x p) (e :: es) [] pos) (dCB r dA) := by
  obtain ⟨t, ht, hs⟩ := hc
  exact pe_w (pe_callB ht hg hm hv ha hn hdb he hpl) fun σ H Q h => up_cb hs h
theorem de_ct (hc : CallD X (.type T) r) (hg : Gl X x) (hm : X.mg x = none) (hv : bootBuiltins x = some (.type T)) (ha : DA X (e :: es) dA) (hn : x ≠ "__name__" := by decide) (hdb : (x == ("__debug__" : Str)) = false := by decide)
    (he : starEach (e :: es) X.env = (false, eval e X.env) :: starEach es X.env := by rfl) (hpl : (backTo pos (starEach es X.env)).any (·.1) = false := by rfl) : DE X (.Call (.Name x p) (e :: es) [] pos) (dCB r dA) := by
  obtain ⟨t, ht, hs⟩ := hc
  exact pe_w (pe_callTy ht hg hm hv ha hn hdb he hpl) fun σ H Q h => up_cb hs h
/-- a built-in class as a value -/
theorem de_ty (n : BT) (hg : Gl X x) (hm : X.mg x = none) (hv : bootBuiltins x = some (.type n.nm)) (hn : x ≠ "__name__" := by decide) (hd : (x == ("__debug__" : Str)) = false := by decide) : DE X (.Name x pos) (dC (.ty n)) :=
  de_c (pe_bltn hg hm hv (v := .ty n.nm) rfl hn hd) fun _ => .ty n
/-- a class of the text, a def of the text, as a value -/
theorem de_cls {C : Addr} (hg : Gl X x) (hm : X.mg x = some (.ref C)) (hd : (x == ("__debug__" : Str)) = false := by decide) : DE X (.Name x pos) (dC (.cls C)) :=
  de_c (pe_glob hg hm (v := .ref C) rfl hd) fun _ => .cls C
/-- an int of the module -/
theorem de_gint {i : Int} (hg : Gl X x) (hm : ∃ t, X.mg x = some (.int i t)) (hd : (x == ("__debug__" : Str)) = false := by decide) : DE X (.Name x pos) (dC (.int i)) := by
  obtain ⟨t, hm⟩ := hm
  exact de_c (pe_glob hg hm (v := .int i) ⟨t, rfl⟩ hd) fun _ => .int i
/-- a tuple of texts of the module -/
structure GTup (K : PySem.W.Frag) (mg : Str → Option Value) (x : Str) (xs : List Str) : Prop where
  ex : ∃ a, mg x = some (.ref a) ∧ SqT K (fun _ => none) a (xs.map V.str)
theorem reps_strs {K : PySem.W.Frag} {F : Hp} (xs : List Str) : Reps K F (xs.map V.str) (xs.map Dat.str) := by
  induction xs with
  | nil => exact .nil
  | cons n ns ih => exact .cons (.str n) ih
theorem de_gtup {xs : List Str} (hg : Gl X x) (hm : GTup X.K X.mg x xs) (hd : (x == ("__debug__" : Str)) = false := by decide) : DE X (.Name x pos) (dC (.tup (xs.map Dat.str))) := by
  obtain ⟨a, h1, h2⟩ := hm
  exact de_c (pe_glob hg h1 (v := .ref a) rfl hd) fun F => .tup (ext_t (fun _ _ h => by cases h) h2) (reps_strs xs)
/-- abs, max, min, sum, len, int, bool, divmod, all, any, sorted, list -/
def rAbs : List Dat → MH → VKD → Prop := fun ds M Q => match ds with
  | [.int i] => Q (.int (if i < 0 then -i else i)) M
  | _ => False
theorem cd_abs : CallD X (.builtin "abs") rAbs := ⟨_, call_abs, fun Z F H M vs ds Q QD R rs hd o => by
  unfold rAbs at hd
  split at hd
  · obtain ⟨x, ws, rfl, r1, rs⟩ := rs.uncons
    cases rs.unnil
    cases r1
    exact ⟨_, rfl, o _ _ F H M (Ext.refl F) R (.int _) hd⟩
  · exact hd.elim⟩
theorem sqInts {K : PySem.W.Frag} {Z F H : Hp} {M : MH} {x : V} {a : Dat} {ns : List Int} (R : RelM K Z F H M) (r : Rep K F x a) (h : lsR M a = some (ns.map Dat.int)) : ∃ p, x = .ref p ∧ SqL K H p (ns.map V.int) := by
  obtain ⟨p, xs, e, q, r⟩ := lsR_rep R r h
  rw [r.ints] at q
  exact ⟨p, e, q⟩
/-- the greatest of two ints, of a list of ints -/
def rMaxD : List Dat → MH → VKD → Prop := fun ds M Q => match ds with
  | [.int i, .int j] => Q (.int (if j > i then j else i)) M
  | [x] => ∃ ns : List Int, lsR M x = some (ns.map Dat.int) ∧ 0 < ns.length ∧ ∀ m, m ∈ ns → (∀ y, y ∈ ns → y ≤ m) → Q (.int m) M
  | _ => False
theorem cd_max (hc : X.calm = true) : CallD X (.builtin "max") rMaxD := ⟨_, CallR.or (call_max2 hc) (cr_max hc), fun Z F H M vs ds Q QD R rs hd o => by
  unfold rMaxD at hd
  split at hd
  · obtain ⟨x, ws, rfl, r1, rs⟩ := rs.uncons
    obtain ⟨y, ws, rfl, r2, rs⟩ := rs.uncons
    cases rs.unnil
    cases r1
    cases r2
    exact .inl ⟨_, _, rfl, o _ _ F H M (Ext.refl F) R (.int _) hd⟩
  · obtain ⟨ns, h1, h2, h3⟩ := hd
    obtain ⟨x, ws, rfl, r1, rs⟩ := rs.uncons
    cases rs.unnil
    obtain ⟨p, rfl, q⟩ := sqInts R r1 h1
    exact .inr ⟨p, ns, rfl, q, h2, fun m hm hle => o _ _ F H M (Ext.refl F) R (.int _) (h3 m hm hle)⟩
  · exact hd.elim⟩
def rMinD : List Dat → MH → VKD → Prop := fun ds M Q => match ds with
  | [.int i, .int j] => Q (.int (if j < i then j else i)) M
  | [x] => ∃ ns : List Int, lsR M x = some (ns.map Dat.int) ∧ 0 < ns.length ∧ ∀ m, m ∈ ns → (∀ y, y ∈ ns → m ≤ y) → Q (.int m) M
  | _ => False
theorem cd_min (hc : X.calm = true) : CallD X (.builtin "min") rMinD := ⟨_, CallR.or (call_min2 hc) (cr_min hc), fun Z F H M vs ds Q QD R rs hd o => by
  unfold rMinD at hd
  split at hd
  · obtain ⟨x, ws, rfl, r1, rs⟩ := rs.uncons
    obtain ⟨y, ws, rfl, r2, rs⟩ := rs.uncons
    cases rs.unnil
    cases r1
    cases r2
    exact .inl ⟨_, _, rfl, o _ _ F H M (Ext.refl F) R (.int _) hd⟩
  · obtain ⟨ns, h1, h2, h3⟩ := hd
    obtain ⟨x, ws, rfl, r1, rs⟩ := rs.uncons
    cases rs.unnil
    obtain ⟨p, rfl, q⟩ := sqInts R r1 h1
    exact .inr ⟨p, ns, rfl, q, h2, fun m hm hle => o _ _ F H M (Ext.refl F) R (.int _) (h3 m hm hle)⟩
  · exact hd.elim⟩
def rSumD : List Dat → MH → VKD → Prop := fun ds M Q => match ds with
  | [x] => ∃ ns : List Int, lsR M x = some (ns.map Dat.int) ∧ Q (.int ns.sum) M
  | _ => False
theorem cd_sum (hc : X.calm = true) : CallD X (.builtin "sum") rSumD := ⟨_, cr_sum hc, fun Z F H M vs ds Q QD R rs hd o => by
  unfold rSumD at hd
  split at hd
  · obtain ⟨ns, h1, h3⟩ := hd
    obtain ⟨x, ws, rfl, r1, rs⟩ := rs.uncons
    cases rs.unnil
    obtain ⟨p, rfl, q⟩ := sqInts R r1 h1
    exact ⟨p, ns, rfl, q, o _ _ F H M (Ext.refl F) R (.int _) h3⟩
  · exact hd.elim⟩
def rAllD : List Dat → MH → VKD → Prop := fun ds M Q => match ds with
  | [x] => ∃ bs : List Bool, lsR M x = some (bs.map Dat.bl) ∧ Q (.bl (bs.all _root_.id)) M
  | _ => False
def rAnyD : List Dat → MH → VKD → Prop := fun ds M Q => match ds with
  | [x] => ∃ bs : List Bool, lsR M x = some (bs.map Dat.bl) ∧ Q (.bl (bs.any _root_.id)) M
  | _ => False
theorem cd_all (hc : X.calm = true) : CallD X (.builtin "all") rAllD := ⟨_, cr_all hc, fun Z F H M vs ds Q QD R rs hd o => by
  unfold rAllD at hd
  split at hd
  · obtain ⟨ns, h1, h3⟩ := hd
    obtain ⟨x, ws, rfl, r1, rs⟩ := rs.uncons
    cases rs.unnil
    obtain ⟨p, xs, rfl, q, r⟩ := lsR_rep R r1 h1
    rw [r.bls] at q
    exact ⟨p, ns, rfl, q, o _ _ F H M (Ext.refl F) R (.bl _) h3⟩
  · exact hd.elim⟩
theorem cd_any (hc : X.calm = true) : CallD X (.builtin "any") rAnyD := ⟨_, cr_any hc, fun Z F H M vs ds Q QD R rs hd o => by
  unfold rAnyD at hd
  split at hd
  · obtain ⟨ns, h1, h3⟩ := hd
    obtain ⟨x, ws, rfl, r1, rs⟩ := rs.uncons
    cases rs.unnil
    obtain ⟨p, xs, rfl, q, r⟩ := lsR_rep R r1 h1
    rw [r.bls] at q
    exact ⟨p, ns, rfl, q, o _ _ F H M (Ext.refl F) R (.bl _) h3⟩
  · exact hd.elim⟩
def rLenD : List Dat → MH → VKD → Prop := fun ds M Q => match ds with
  | [x] => ∃ ys, itemsR M x = some ys ∧ Q (.int (ys.length : Int)) M
  | _ => False
theorem cd_len : CallD X (.builtin "len") rLenD := ⟨_, call_len_seq, fun Z F H M vs ds Q QD R rs hd o => by
  unfold rLenD at hd
  split at hd
  · obtain ⟨ys, h1, h3⟩ := hd
    obtain ⟨x, ws, rfl, r1, rs⟩ := rs.uncons
    cases rs.unnil
    obtain ⟨p, xs, rfl, q, r⟩ := itemsR_rep R r1 h1
    refine ⟨p, xs, rfl, q, ?_⟩
    rw [r.length]
    exact o _ _ F H M (Ext.refl F) R (.int _) h3
  · exact hd.elim⟩
def rIntD : List Dat → MH → VKD → Prop := fun ds M Q => match ds with
  | [.int i] => Q (.int i) M
  | [.bl b] => Q (.int (if b then 1 else 0)) M
  | _ => False
theorem cd_int : CallD X (.type "int") rIntD := ⟨_, call_int1, fun Z F H M vs ds Q QD R rs hd o => by
  unfold rIntD at hd
  split at hd
  · obtain ⟨x, ws, rfl, r1, rs⟩ := rs.uncons
    cases rs.unnil
    cases r1
    exact .inl ⟨_, rfl, o _ _ F H M (Ext.refl F) R (.int _) hd⟩
  · obtain ⟨x, ws, rfl, r1, rs⟩ := rs.uncons
    cases rs.unnil
    cases r1
    exact .inr ⟨_, rfl, o _ _ F H M (Ext.refl F) R (.int _) hd⟩
  · exact hd.elim⟩
def rDivmodD : List Dat → MH → VKD → Prop := fun ds M Q => match ds with
  | [.int i, .int j] => CDivP i j ∧ Q (.tup [.int (i / j), .int (i % j)]) M
  | _ => False
theorem cd_divmod : CallD X (.builtin "divmod") rDivmodD := ⟨_, call_divmodW, fun Z F H M vs ds Q QD R rs hd o => by
  unfold rDivmodD at hd
  split at hd
  · obtain ⟨x, ws, rfl, r1, rs⟩ := rs.uncons
    obtain ⟨y, ws, rfl, r2, rs⟩ := rs.uncons
    cases rs.unnil
    cases r1
    cases r2
    refine ⟨_, _, rfl, hd.1, fun p hp => ?_⟩
    obtain ⟨R4, e4⟩ := R.newF (o := .tup _) hp
    exact o _ _ _ _ M e4 R4 (.tup (SqT.of upd_same) (.two (.int _) (.int _))) hd.2
  · exact hd.elim⟩
/-- sorted of ints -/
def rSortedD (mk : Bool) : List Dat → MH → VKD → Prop := fun ds M Q => match ds with
  | [x] => ∃ ns : List Int, lsR M x = some (ns.map Dat.int) ∧ ∀ ns' : List Int, ns'.Perm ns → ns'.Pairwise (· ≤ ·) → newL mk (ns'.map Dat.int) M Q
  | _ => False
theorem cd_sorted (mk : Bool) : CallD X (.builtin "sorted") (rSortedD mk) := ⟨_, cr_sortedI, fun Z F H M vs ds Q QD R rs hd o => by
  unfold rSortedD at hd
  split at hd
  · obtain ⟨ns, h1, h3⟩ := hd
    obtain ⟨x, ws, rfl, r1, rs⟩ := rs.uncons
    cases rs.unnil
    obtain ⟨p, rfl, q⟩ := sqInts R r1 h1
    exact ⟨p, ns, rfl, q, fun ns' p2 h4 h5 hp => sim_new R (reps_ints ns') (h3 ns' h4 h5) o hp⟩
  · exact hd.elim⟩
/-- list(xs) -/
def rListD (mk : Bool) : List Dat → MH → VKD → Prop := fun ds M Q => match ds with
  | [x] => ∃ ys, itemsR M x = some ys ∧ newL mk ys M Q
  | _ => False
theorem cd_list (mk : Bool) : CallD X (.type "list") (rListD mk) := ⟨_, call_list_of, fun Z F H M vs ds Q QD R rs hd o => by
  unfold rListD at hd
  split at hd
  · obtain ⟨ys, h1, h3⟩ := hd
    obtain ⟨x, ws, rfl, r1, rs⟩ := rs.uncons
    cases rs.unnil
    obtain ⟨p, xs, rfl, q, r⟩ := itemsR_rep R r1 h1
    exact ⟨p, xs, rfl, q, fun l hl => sim_new R r h3 o hl⟩
  · exact hd.elim⟩
/-- n.bit_length() -/
def dBits (da : TED) : TED := fun ρ M Q => da ρ M fun x M1 => match x with
  | .int i => Q (.int (Builtin.Int.intBits i : Nat)) M1
  | _ => False
theorem de_bits {o : Expr} {apos : Pos} {da : TED} (ho : DE X o da) (hbase : attributeBase o "bit_length" X.env (eval o X.env) = eval o X.env := by rfl) (hline : (apos.endLine == pos.line) = true := by rfl) : DE X (.Call (.Attribute o "bit_length" apos) [] [] pos) (dBits da) :=
  pe_w (pe_bits ho hbase hline) fun σ H Q ⟨Z, F, M, ρ, QD, R, h, o⟩ => by
    refine ⟨Z, F, M, ρ, _, R, h, fun x a F1 H1 M1 e1 R1 r1 h1 => ?_⟩
    split at h1
    · exact ⟨_, r1.toInt, o _ _ F1 H1 M1 e1 R1 (.int _) h1⟩
    · exact h1.elim
end
end DL
namespace DL
open PySem PySem.Spec PyProof.Rows L2
/-! ### blocks and small statements -/
section
variable {X : Cx} {st : Stmt} {rest : List Stmt} {t u : TSD} {e c a b : Expr} {es : List Expr} {de da db : TED} {dA : TAD} {tc : TTD} {pos : Pos}
def dNext : TSD := fun D ρ M => D.nx ρ M
def dSeq (t u : TSD) : TSD := fun D ρ M => t { D with nx := u D } ρ M
theorem dss_nil : DSs X [] dNext := pss_w pss_nil fun D σ H ⟨Z, F, M, ρ, DD, R, h, o⟩ => o.nx _ _ _ _ _ (Ext.refl F) R h
theorem dss_cons (h1 : DS X st t) (h2 : DSs X rest u) : DSs X (st :: rest) (dSeq t u) := pss_w (pss_cons h1 h2) fun D σ H ⟨Z, F, M, ρ, DD, R, h, o⟩ =>
  ⟨Z, F, M, ρ, _, R, h, ⟨fun σ' ρ' F' H' M' e R' q => ⟨Z, F', M', ρ', DD, R', q, o.mono e⟩, o.rt, o.bk, o.ct⟩⟩
theorem dss_one (h1 : DS X st t) : DSs X [st] t := pss_one h1
/-- a word between a statement and what follows: what follows is shown once -/
def dCut (t u : TSD) : TSD := fun D ρ M => ∃ Mid : EnvD → MH → Prop, t { D with nx := Mid } ρ M ∧ ∀ ρ' M', Mid ρ' M' → u D ρ' M'
theorem dss_cut (h1 : DS X st t) (h2 : DSs X rest u) : DSs X (st :: rest) (dCut t u) := pss_w (pss_cons h1 h2) fun D σ H ⟨Z, F, M, ρ, DD, R, ⟨Mid, h, k⟩, o⟩ =>
  ⟨Z, F, M, ρ, { DD with nx := Mid }, R, h, ⟨fun σ' ρ' F' H' M' e R' q => ⟨Z, F', M', ρ', DD, R', k _ _ q, o.mono e⟩, o.rt, o.bk, o.ct⟩⟩
/-- a slot's list never changes from here on -/
def dFrz (i : Nat) (t : TSD) : TSD := fun D ρ M => match atD ρ i with
  | some (.ref a) => ∃ ds, M a = some (.lst ds) ∧ t D (setD ρ i (some (.lst ds))) (delM M a)
  | _ => False
theorem RelE.reset {K : PySem.W.Frag} {F : Hp} {σ : L2.St} {ρ : EnvD} {v : V} {d d0 : Dat} {i : Nat} (r : RelE K F σ ρ) (h0 : atD ρ i = some d0) (hv : ∀ w, Rep K F w d0 → Rep K F w d) : RelE K F σ (setD ρ i (some d)) := by
  rw [setD_set]
  refine ⟨by rw [List.length_set]; exact r.len, fun j x q => ?_⟩
  by_cases e : i = j
  · subst e
    have hi : i < ρ.length := (List.getElem?_eq_some_iff.mp (atD_get h0)).1
    rw [List.getElem?_set_self hi] at q
    cases q
    obtain ⟨w, q1, g⟩ := r.at_ i d0 (atD_get h0)
    exact ⟨w, q1, hv w g⟩
  · rw [List.getElem?_set_ne e] at q
    exact r.at_ j x q
theorem dss_frz (i : Nat) {sts : List Stmt} (h : DSs X sts t) : DSs X sts (dFrz i t) := pss_w h fun D σ H ⟨Z, F, M, ρ, DD, R, h, o⟩ => by
  unfold dFrz at h
  split at h
  · rename_i a e
    obtain ⟨ds, h1, h2⟩ := h
    obtain ⟨xs, q, r⟩ := (R.m.chg a _ h1).2
    obtain ⟨R2, e2⟩ := R.m.frz h1 q
    refine ⟨Z, _, _, _, DD, ⟨R2, RelE.reset (v := .ref a) (R.e.mono e2) e fun w g => ?_⟩, h2, o.mono e2⟩
    cases g
    exact .lst upd_same (r.mono e2)
  · exact h.elim
def dBreak : TSD := fun D ρ M => D.bk ρ M
def dCont : TSD := fun D ρ M => D.ct ρ M
theorem ds_pass : DS X (.Pass pos) dNext := ps_w ps_pass fun D σ H ⟨Z, F, M, ρ, DD, R, h, o⟩ => o.nx _ _ _ _ _ (Ext.refl F) R h
theorem ds_break : DS X (.Break pos) dBreak := ps_w ps_break fun D σ H ⟨Z, F, M, ρ, DD, R, h, o⟩ => o.bk _ _ _ _ _ (Ext.refl F) R h
theorem ds_cont : DS X (.Continue pos) dCont := ps_w ps_continue fun D σ H ⟨Z, F, M, ρ, DD, R, h, o⟩ => o.ct _ _ _ _ _ (Ext.refl F) R h
def dDrop (de : TED) : TSD := fun D ρ M => de ρ M fun _ M1 => D.nx ρ M1
theorem ds_expr (he : DE X e de) (hs : swapsWith e none pos.line X.env = pure false := by rfl) : DS X (.Expr e pos) (dDrop de) := ps_w (ps_expr he hs) fun D σ H ⟨Z, F, M, ρ, DD, R, h, o⟩ =>
  ⟨Z, F, M, ρ, _, R, h, fun v d F1 H1 M1 e1 R1 r1 h1 => o.nx _ _ _ _ _ e1 (R.ext e1 R1) h1⟩
def dRet (de : TED) : TSD := fun D ρ M => de ρ M D.rt
theorem ds_ret (he : DE X e de) : DS X (.Return (some e) pos) (dRet de) := ps_w (ps_ret he) fun D σ H ⟨Z, F, M, ρ, DD, R, h, o⟩ => ⟨Z, F, M, ρ, _, R, h, o.rt⟩
def dRetN : TSD := fun D _ M => D.rt .non M
theorem ds_retN : DS X (.Return none pos) dRetN := ps_w ps_retN fun D σ H ⟨Z, F, M, ρ, DD, R, h, o⟩ => o.rt _ _ _ _ _ (Ext.refl F) R.m .non h
def dIfS (c : TTD) (t u : TSD) : TSD := fun D ρ M => c ρ M fun b M1 => if b = true then t D ρ M1 else u D ρ M1
theorem ds_if {p q : List Stmt} (hc : DT X c tc) (ha : DSs X p t) (hb : DSs X q u) : DS X (.If c p q pos) (dIfS tc t u) := ps_w (ps_if hc ha hb) fun D σ H ⟨Z, F, M, ρ, DD, R, h, o⟩ => by
  refine ⟨Z, F, M, ρ, _, R, h, fun k F1 H1 M1 e1 R1 h1 => ?_⟩
  cases k with
  | true =>
    rw [if_pos rfl] at h1 ⊢
    exact ⟨Z, F1, M1, ρ, DD, R.ext e1 R1, h1, o.mono e1⟩
  | false =>
    rw [if_neg Bool.false_ne_true] at h1 ⊢
    exact ⟨Z, F1, M1, ρ, DD, R.ext e1 R1, h1, o.mono e1⟩
def dNever : TSD := fun _ _ _ => False
theorem ds_never : DS X st dNever := ps_w ps_never fun D σ H ⟨Z, F, M, ρ, DD, R, h, o⟩ => h.elim
theorem dss_never {sts : List Stmt} : DSs X sts dNever := pss_w pss_never fun D σ H ⟨Z, F, M, ρ, DD, R, h, o⟩ => h.elim
/-! ### targets -/
/-- a target that stores slots among vs alone -/
def upGo (K : PySem.W.Frag) (vs : List Nat) (d : TGD) : TG := fun v σ H Q => ∃ Z F M ρ x QD, Rel K Z F H M σ ρ ∧ Rep K F v x ∧ d x ρ M QD ∧ (∀ σ' ρ' F' H' M', Ext F F' → Rel K Z F' H' M' σ' ρ' → wipe σ' vs = wipe σ vs → QD ρ' M' → Q σ' H')
abbrev DGo (X : Cx) (tg : Expr) (vs : List Nat) (d : TGD) : Prop := PG X tg (upGo X.K vs d)
theorem DGo.dg {tg : Expr} {vs : List Nat} {d : TGD} (h : DGo X tg vs d) : DG X tg d := pg_w h fun v σ H Q ⟨Z, F, M, ρ, x, QD, R, r, h, o⟩ => ⟨Z, F, M, ρ, x, QD, R, r, h, fun σ' ρ' F' H' M' e R' _ q => o σ' ρ' F' H' M' e R' q⟩
theorem wipe_get (σ : L2.St) : ∀ (vs : List Nat) (j : Nat), (wipe σ vs)[j]? = if j ∈ vs ∧ j < σ.length then some none else σ[j]?
  | [], j => by simp [wipe]
  | v :: vs, j => by
    unfold wipe
    by_cases e : v = j
    · subst e
      by_cases hl : v < σ.length
      · rw [List.getElem?_set_self (by rw [wipe_length]; exact hl), if_pos ⟨List.mem_cons_self .., hl⟩]
      · rw [List.getElem?_eq_none (by rw [List.length_set, wipe_length]; omega), if_neg (fun h => hl h.2), List.getElem?_eq_none (by omega)]
    · rw [List.getElem?_set_ne e, wipe_get σ vs j]
      have : (j ∈ v :: vs) ↔ j ∈ vs := by simp [Ne.symm e]
      simp only [this]
theorem wipe_ext {σ τ : L2.St} {vs : List Nat} (hl : σ.length = τ.length) (h : ∀ j, j ∉ vs → σ[j]? = τ[j]?) : wipe σ vs = wipe τ vs := by
  apply List.ext_getElem?
  intro j
  rw [wipe_get, wipe_get, hl]
  by_cases hj : j ∈ vs ∧ j < τ.length
  · rw [if_pos hj, if_pos hj]
  · rw [if_neg hj, if_neg hj]
    by_cases hv : j ∈ vs
    · have : ¬ j < τ.length := fun z => hj ⟨hv, z⟩
      rw [List.getElem?_eq_none (by omega), List.getElem?_eq_none (by omega)]
    · exact h j hv
theorem wipe_set {σ : L2.St} {vs : List Nat} {i : Nat} {v : Option V} (hi : i ∈ vs) : wipe (σ.set i v) vs = wipe σ vs :=
  wipe_ext (List.length_set ..) fun j hj => List.getElem?_set_ne (fun e : i = j => hj (by rw [← e]; exact hi))
theorem wipe_wipe {σ : L2.St} {vs : List Nat} : wipe (wipe σ vs) vs = wipe σ vs := wipe_ext (wipe_length ..) fun j hj => by
  rw [wipe_get, if_neg fun h => hj h.1]
def dgN (i : Nat) : TGD := fun x ρ M Q => Q (setD ρ i (some x)) M
theorem dgo_name {i : Nat} {x : Str} {vs : List Nat} (hm : i ∈ vs) (hN : X.N.Nodup) (hi : X.N[i]? = some x) (hx : Loc X.env.scope x := by first | exact Or.inl rfl | exact Or.inr rfl) (hf : X.fn x = true ∨ X.env.scope.names.lookup x = some .local := by first | exact .inl rfl | exact .inr rfl | assumption) : DGo X (.Name x pos) vs (dgN i) :=
  pg_w (pg_name hN hi hx hf) fun v σ H Q ⟨Z, F, M, ρ, x, QD, R, r, h, o⟩ => by
    refine o _ _ F H M (Ext.refl F) ⟨R.m, ?_⟩ (wipe_set hm) h
    rw [setD_set]
    exact R.e.set r i
theorem dg_name {i : Nat} {x : Str} (hN : X.N.Nodup) (hi : X.N[i]? = some x := by rfl) (hx : Loc X.env.scope x := by first | exact Or.inl rfl | exact Or.inr rfl) (hf : X.fn x = true ∨ X.env.scope.names.lookup x = some .local := by first | exact .inl rfl | exact .inr rfl | assumption) : DG X (.Name x pos) (dgN i) :=
  (dgo_name (vs := [i]) (List.mem_singleton.mpr rfl) hN hi hx hf).dg
/-- several targets -/
abbrev TGsD := List Dat → EnvD → MH → (EnvD → MH → Prop) → Prop
def upGs (K : PySem.W.Frag) (vs : List Nat) (d : TGsD) : TGs := fun v σ H Q => ∃ Z F M ρ x QD, Rel K Z F H M σ ρ ∧ Reps K F v x ∧ d x ρ M QD ∧ (∀ σ' ρ' F' H' M', Ext F F' → Rel K Z F' H' M' σ' ρ' → wipe σ' vs = wipe σ vs → QD ρ' M' → Q σ' H')
abbrev DGs (X : Cx) (ts : List Expr) (vs : List Nat) (d : TGsD) : Prop := PGs X ts (upGs X.K vs d)
theorem pgs_w {ts : List Expr} {t u : TGs} (h : PGs X ts t) (w : ∀ v σ H Q, u v σ H Q → t v σ H Q) : PGs X ts u := ⟨fun pins s σ H vs us Q I r q => h.run pins s σ H vs us Q I r (w vs σ H Q q)⟩
def dgNil : TGsD := fun xs ρ M Q => match xs with
  | [] => Q ρ M
  | _ => False
def dgCons (t : TGD) (u : TGsD) : TGsD := fun xs ρ M Q => match xs with
  | x :: r => t x ρ M fun ρ' M' => u r ρ' M' Q
  | _ => False
theorem dgs_nil {vs : List Nat} : DGs X [] vs dgNil := pgs_w pgs_nil fun v σ H Q ⟨Z, F, M, ρ, x, QD, R, r, h, o⟩ => by
  unfold dgNil at h
  split at h
  · exact ⟨r.unnil, o _ _ F H M (Ext.refl F) R rfl h⟩
  · exact h.elim
theorem dgs_cons {vs : List Nat} {t : TGD} {u : TGsD} (h1 : DGo X e vs t) (h2 : DGs X es vs u) (hs : (assignEach (e :: es) X.env).map (·.2) = assign e X.env :: (assignEach es X.env).map (·.2) := by rfl) : DGs X (e :: es) vs (dgCons t u) :=
  pgs_w (pgs_cons h1 h2 hs) fun v σ H Q ⟨Z, F, M, ρ, x, QD, R, r, h, o⟩ => by
    unfold dgCons at h
    split at h
    · obtain ⟨w, ws, rfl, r1, r2⟩ := r.uncons
      refine ⟨w, ws, rfl, Z, F, M, ρ, _, _, R, r1, h, fun σ' ρ' F' H' M' e1 R1 w1 h1 => ?_⟩
      exact ⟨Z, F', M', ρ', _, QD, R1, r2.mono e1, h1, fun σ2 ρ2 F2 H2 M2 e2 R2 w2 h2 => o σ2 ρ2 F2 H2 M2 (e1.trans e2) R2 (w2.trans w1) h2⟩
    · exact h.elim
def dgT (n : Nat) (t : TGsD) : TGD := fun x ρ M Q => match x with
  | .tup ds => ds.length = n ∧ t ds ρ M Q
  | _ => False
theorem dgo_tup {k n : Nat} {vs : List Nat} {t : TGsD} (h : DGs X es vs t) (hc : X.calm = true := by rfl)
    (hn : (assignEach es X.env).length = n := by rfl) (hst : (assignEach es X.env).findIdx? (·.1) = none := by rfl) : DGo X (.Tuple es k pos) vs (dgT n t) :=
  pg_w (pg_tup hc h hn hst) fun v σ H Q ⟨Z, F, M, ρ, x, QD, R, r, h, o⟩ => by
    unfold dgT at h
    split at h
    · cases r with
      | tup q r => exact ⟨_, _, rfl, ext_t R.m.sub q, by rw [r.length]; exact h.1, Z, F, M, ρ, _, QD, R, r, h.2, o⟩
    · exact h.elim
/-- o[i] = .. of a list that changes -/
def dgSub (do_ di : TED) : TGD := fun x ρ M Q => do_ ρ M fun o M1 => di ρ M1 fun i M2 => match o with
  | .ref a => (match i with
    | .int k => ∃ ds j, M2 a = some (.lst ds) ∧ ixN ds.length k = some j ∧ Q ρ (updM M2 a (.lst (ds.set j x)))
    | _ => False)
  | _ => False
theorem dg_sub {o i : Expr} {do_ di : TED} (ho : DE X o do_) (hi : DE X i di)
    (ha : ∀ v, assign (.Subscript o i pos) X.env v = (do
      let ov ← holding [v] (eval o X.env)
      let iv ← holding [v, ov] (eval i X.env)
      standAt pos
      holding [v, ov, iv] (setItem ov iv v)
      release [v, ov, iv] []) := by intro _; rfl) : DG X (.Subscript o i pos) (dgSub do_ di) :=
  pg_w (pg_sub ho hi set_list ha) fun v σ H Q ⟨Z, F, M, ρ, x, QD, R, r, h, o⟩ => by
    refine ⟨Z, F, M, ρ, _, R, h, fun w a F1 H1 M1 e1 R1 r1 h1 => ?_⟩
    refine ⟨Z, F1, M1, ρ, _, R.ext e1 R1, h1, fun w2 b F2 H2 M2 e2 R2 r2 h2 => ?_⟩
    split at h2
    · rename_i p
      split at h2
      · rename_i k
        obtain ⟨ds, j, q1, q2, q3⟩ := h2
        cases r1
        obtain ⟨xs, q4, r4⟩ := (R2.chg p _ q1).2
        refine ⟨p, xs, k, j, rfl, r2.toInt, q4, by rw [r4.length]; exact q2, ?_⟩
        have R3 := R2.write (o := .lst (xs.set j v)) (m := .lst (ds.set j x)) q1 ⟨_, upd_same, r4.set (r.mono (e1.trans e2)) j⟩
        exact o _ _ _ _ _ (e1.trans e2) (R.ext (e1.trans e2) R3) q3
      · exact h2.elim
    · exact h2.elim
def dAsg (de : TED) (g : TGD) : TSD := fun D ρ M => de ρ M fun x M1 => g x ρ M1 D.nx
theorem up_asg {K : PySem.W.Frag} {g : TGD} {D : Ends} {σ : L2.St} {H : Hp} (h : upS K (dAsg de g) D σ H) : tAsg (up K de) (upG K g) D σ H := by
  obtain ⟨Z, F, M, ρ, DD, R, h, o⟩ := h
  refine ⟨Z, F, M, ρ, _, R, h, fun v d F1 H1 M1 e1 R1 r1 h1 => ?_⟩
  exact ⟨Z, F1, M1, ρ, d, _, R.ext e1 R1, r1, h1, o.nx.mono e1⟩
theorem ds_asg {tg : Expr} {g : TGD} (he : DE X e de) (hg : DG X tg g) (hs : swapsWithSole [tg] e pos.line X.env = pure false := by rfl) (hw : swappedStores [tg] e X.env = pure none := by rfl)
    (h1 : (assignEach [tg] X.env).map (·.2) = [assign tg X.env] := by rfl) : DS X (.Assign [tg] e pos) (dAsg de g) := ps_w (ps_asg he hg hs hw h1) fun D σ H h => up_asg h
theorem ds_set {i : Nat} {x : Str} {pos' : Pos} (hN : X.N.Nodup) (he : DE X e de) (hi : X.N[i]? = some x := by rfl) (hx : Loc X.env.scope x := by first | exact Or.inl rfl | exact Or.inr rfl) (hs : swapsWith e (some (.Name x pos')) pos.line X.env = pure false := by rfl) (hf : X.fn x = true ∨ X.env.scope.names.lookup x = some .local := by first | exact .inl rfl | exact .inr rfl | assumption) :
    DS X (.Assign [.Name x pos'] e pos) (dAsg de (dgN i)) := ps_w (ps_set hN hi hx he hs hf) fun D σ H ⟨Z, F, M, ρ, DD, R, h, o⟩ => by
  refine ⟨Z, F, M, ρ, _, R, h, fun v d F1 H1 M1 e1 R1 r1 h1 => ?_⟩
  refine o.nx _ _ _ _ _ e1 ⟨R1, ?_⟩ h1
  rw [setD_set]
  exact (R.e.mono e1).set r1 i
/-- a, b = x, y and a, b, c = x, y, z of plain local names -/
def dPar (i j : Nat) (dA : TAD) : TSD := fun D ρ M => dA ρ M fun xs M1 => match xs with
  | [x, y] => D.nx (setD (setD ρ i (some x)) j (some y)) M1
  | _ => False
theorem ds_par {i j : Nat} {x y : Str} {px py pt : Pos} {kt k2 pt2} (hN : X.N.Nodup) (ha : DA X [a, b] dA) (hi : X.N[i]? = some x := by rfl) (hj : X.N[j]? = some y := by rfl) (hij : i ≠ j := by decide)
    (hx : X.env.scope.names.lookup x = some .local := by rfl) (hy : X.env.scope.names.lookup y = some .local := by rfl)
    (hw : swappedStores [.Tuple [.Name x px, .Name y py] kt pt] (.Tuple [a, b] k2 pt2) X.env = pure (some [x, y]) := by rfl) (hc : X.calm = true := by rfl)
    (hs : swapsWithSole [.Tuple [.Name x px, .Name y py] kt pt] (.Tuple [a, b] k2 pt2) pos.line X.env = pure false := by rfl) :
    DS X (.Assign [.Tuple [.Name x px, .Name y py] kt pt] (.Tuple [a, b] k2 pt2) pos) (dPar i j dA) := ps_w (ps_par hc hN hi hj hij hx hy ha hw hs) fun D σ H ⟨Z, F, M, ρ, DD, R, h, o⟩ => by
  refine ⟨Z, F, M, ρ, _, R, h, fun vs ds F1 H1 M1 e1 R1 r1 h1 => ?_⟩
  split at h1
  · obtain ⟨v, ws, rfl, q1, r1⟩ := r1.uncons
    obtain ⟨w, ws, rfl, q2, r1⟩ := r1.uncons
    cases r1.unnil
    refine ⟨v, w, rfl, o.nx _ _ _ _ _ e1 ⟨R1, ?_⟩ h1⟩
    rw [setD_set, setD_set]
    exact ((R.e.mono e1).set q1 i).set q2 j
  · exact h1.elim
def dPar3 (i j l : Nat) (dA : TAD) : TSD := fun D ρ M => dA ρ M fun xs M1 => match xs with
  | [x, y, z] => D.nx (setD (setD (setD ρ i (some x)) j (some y)) l (some z)) M1
  | _ => False
theorem ds_par3 {i j l : Nat} {x y z : Str} {px py pz pt : Pos} {kt k2 pt2} (hN : X.N.Nodup) (ha : DA X [a, b, c] dA) (hi : X.N[i]? = some x := by rfl) (hj : X.N[j]? = some y := by rfl) (hl : X.N[l]? = some z := by rfl) (hij : i ≠ j := by decide) (hil : i ≠ l := by decide) (hjl : j ≠ l := by decide)
    (hx : X.env.scope.names.lookup x = some .local := by rfl) (hy : X.env.scope.names.lookup y = some .local := by rfl) (hz : X.env.scope.names.lookup z = some .local := by rfl)
    (hw : swappedStores [.Tuple [.Name x px, .Name y py, .Name z pz] kt pt] (.Tuple [a, b, c] k2 pt2) X.env = pure (some [x, y, z]) := by rfl) (hc : X.calm = true := by rfl)
    (hs : swapsWithSole [.Tuple [.Name x px, .Name y py, .Name z pz] kt pt] (.Tuple [a, b, c] k2 pt2) pos.line X.env = pure false := by rfl) :
    DS X (.Assign [.Tuple [.Name x px, .Name y py, .Name z pz] kt pt] (.Tuple [a, b, c] k2 pt2) pos) (dPar3 i j l dA) := ps_w (ps_par3 hc hN hi hj hl hij hil hjl hx hy hz ha hw hs) fun D σ H ⟨Z, F, M, ρ, DD, R, h, o⟩ => by
  refine ⟨Z, F, M, ρ, _, R, h, fun vs ds F1 H1 M1 e1 R1 r1 h1 => ?_⟩
  split at h1
  · obtain ⟨v, ws, rfl, q1, r1⟩ := r1.uncons
    obtain ⟨w, ws, rfl, q2, r1⟩ := r1.uncons
    obtain ⟨w3, ws, rfl, q3, r1⟩ := r1.uncons
    cases r1.unnil
    refine ⟨v, w, w3, rfl, o.nx _ _ _ _ _ e1 ⟨R1, ?_⟩ h1⟩
    rw [setD_set, setD_set, setD_set]
    exact (((R.e.mono e1).set q1 i).set q2 j).set q3 l
  · exact h1.elim
/-! ### a field stored -/
def putD (f : Str) (d : Dat) : List (Str × Dat) → List (Str × Dat)
  | [] => [(f, d)]
  | (g, x) :: r => if g = f then (g, d) :: r else (g, x) :: putD f d r
theorem put_rep {K : PySem.W.Frag} {F : Hp} {f : Str} {v : V} {d : Dat} (r : Rep K F v d) {fs : List (Str × V)} {gs : List (Str × Dat)} (q : RepF K F fs gs) : RepF K F (putF f v fs) (putD f d gs) := by
  induction fs generalizing gs with
  | nil =>
    cases q
    exact .cons r .nil
  | cons p fs ih =>
    cases q with
    | @cons g w vs d' ds r1 r2 =>
      unfold putF putD
      by_cases e : g = f
      · rw [if_pos e, if_pos e]
        exact .cons r r2
      · rw [if_neg e, if_neg e]
        exact .cons r1 (ih r2)
theorem put_nodup {f : Str} {v : V} : ∀ {fs : List (Str × V)}, (fs.map (·.1)).Nodup → ((putF f v fs).map (·.1)).Nodup := by
  have mem : ∀ {fs : List (Str × V)} {g : Str}, g ∈ (putF f v fs).map (·.1) → g = f ∨ g ∈ fs.map (·.1) := by
    intro fs g
    induction fs with
    | nil =>
      intro h
      unfold putF at h
      simp at h
      exact .inl h
    | cons p fs ih =>
      obtain ⟨k, w⟩ := p
      intro h
      unfold putF at h
      by_cases e : k = f
      · rw [if_pos e] at h
        exact .inr h
      · rw [if_neg e] at h
        rw [List.map_cons] at h ⊢
        rcases List.mem_cons.mp h with h | h
        · exact .inr (by rw [h]; exact List.mem_cons_self ..)
        · rcases ih h with h | h
          · exact .inl h
          · exact .inr (List.mem_cons_of_mem _ h)
  intro fs
  induction fs with
  | nil =>
    intro _
    unfold putF
    simp
  | cons p fs ih =>
    obtain ⟨k, w⟩ := p
    intro h
    unfold putF
    by_cases e : k = f
    · rw [if_pos e]
      exact h
    · rw [if_neg e]
      rw [List.map_cons, List.nodup_cons] at h ⊢
      exact ⟨fun z => (mem z).elim e h.1, ih h.2⟩
def dSetF (C : Addr) (f : Str) (da dv : TED) : TSD := fun D ρ M => dv ρ M fun y M1 => da ρ M1 fun x M2 => match x with
  | .ref a => ∃ gs, M2 a = some (.ins C gs) ∧ gs.length < 1000 ∧ D.nx ρ (updM M2 a (.ins C (putD f y gs)))
  | _ => False
theorem repF_len {K : PySem.W.Frag} {F : Hp} {fs : List (Str × V)} {gs : List (Str × Dat)} (q : RepF K F fs gs) : fs.length = gs.length := by
  induction fs generalizing gs with
  | nil =>
    cases q
    rfl
  | cons p fs ih =>
    cases q with
    | cons r1 r2 => exact congrArg Nat.succ (ih r2)
theorem ds_setF {C : Addr} {f : Str} {o value : Expr} {da dv : TED} {pos' : Pos} (cl : Cls X.K C) (nf : NoAttr X.K C f) (ha : DE X o da) (hv : DE X value dv) (hs : swapsWith value (some (.Attribute o f pos')) pos.line X.env = pure false := by rfl) :
    DS X (.Assign [.Attribute o f pos'] value pos) (dSetF C f da dv) := ps_w (ps_fld ha hv hs) fun D σ H ⟨Z, F, M, ρ, DD, R, h, o⟩ => by
  refine ⟨Z, F, M, ρ, _, R, h, fun y d F1 H1 M1 e1 R1 r1 h1 => ?_⟩
  refine ⟨Z, F1, M1, ρ, _, R.ext e1 R1, h1, fun x b F2 H2 M2 e2 R2 r2 h2 => ?_⟩
  split at h2
  · rename_i p
    obtain ⟨gs, q1, q2, q3⟩ := h2
    cases r2
    obtain ⟨dx, fs, q4, q5, q6⟩ := (R2.chg p _ q1).2
    refine ⟨p, C, dx, fs, rfl, q4, cl, nf, by rw [repF_len q5]; exact q2, ?_⟩
    have R3 := R2.write (o := .ins C dx (putF f y fs)) (m := .ins C (putD f d gs)) q1 ⟨_, _, upd_same, put_rep (r1.mono e2) q5, put_nodup q6⟩
    exact o.nx _ _ _ _ _ (e1.trans e2) (R.ext (e1.trans e2) R3) q3
  · exact h2.elim
/-! ### methods of a list that changes -/
/-- o.m(..), a built-in's: a reading of the object and the arguments -/
def dMt (r : Dat → List Dat → MH → VKD → Prop) (do_ : TED) (dA : TAD) : TED := fun ρ M Q => do_ ρ M fun x M1 => (∃ ds, lsR M1 x = some ds) ∧ dA ρ M1 fun xs M2 => r x xs M2 Q
def MtD (X : Cx) (id : String) (d : Dat → List Dat → MH → VKD → Prop) : Prop := ∃ r, MtM X id r ∧ ∀ Z F H M x xs a as Q QD, RelM X.K Z F H M → Rep X.K F x a → Reps X.K F xs as → d a as M QD → OkV X.K Z F Q QD → r x xs H Q
variable {o : Expr} {do_ : TED} {name : Str} {apos : Pos} {id : String} {r : Dat → List Dat → MH → VKD → Prop}
theorem de_mt (slot : Slot "list" name id) (hty : typeOf (.builtin id) = pure (.type "method_descriptor")) (hm : MtD X id r) (ho : DE X o do_) (ha : DA X (e :: es) dA)
    (hbase : attributeBase o name X.env (eval o X.env) = eval o X.env := by rfl)
    (hfew : ((backTo pos (starEach (e :: es) X.env)).all (fun x => !x.1) && (backToKw pos (keywordEach [] X.env)).all (fun x => x.1.isSome)
      && decide ((e :: es).length + ([] : List Keyword).length + (if ([] : List Keyword).isEmpty then 0 else 1) < 30)) = true := by rfl)
    (hline : (apos.endLine == pos.line) = true := by rfl) (hs : starEach (e :: es) X.env = (false, eval e X.env) :: starEach es X.env := by rfl) (hplain : (backTo pos (starEach es X.env)).any (·.1) = false := by rfl) :
    DE X (.Call (.Attribute o name apos) (e :: es) [] pos) (dMt r do_ dA) := by
  obtain ⟨t, ht, hsim⟩ := hm
  refine pe_w (pe_bm PySem.F.plainAttrs_list slot hty ht ho ha hbase hfew hline hs hplain) fun σ H Q ⟨Z, F, M, ρ, QD, R, h, o⟩ => ?_
  refine ⟨Z, F, M, ρ, _, R, h, fun x a F1 H1 M1 e1 R1 r1 h1 => ?_⟩
  obtain ⟨⟨ds, q1⟩, h1⟩ := h1
  obtain ⟨p, xs, rfl, q, rr⟩ := lsR_rep R1 r1 q1
  refine ⟨.inl ⟨rfl, xs, q⟩, Z, F1, M1, ρ, _, R.ext e1 R1, h1, fun ys bs F2 H2 M2 e2 R2 r2 h2 => ?_⟩
  exact hsim Z F2 H2 M2 _ _ _ _ Q QD R2 (r1.mono e2) r2 h2 (o.mono (e1.trans e2))
theorem de_mt0 (slot : Slot "list" name id) (hty : typeOf (.builtin id) = pure (.type "method_descriptor")) (hm : MtD X id r) (ho : DE X o do_)
    (hbase : attributeBase o name X.env (eval o X.env) = eval o X.env := by rfl) (hline : (apos.endLine == pos.line) = true := by rfl) :
    DE X (.Call (.Attribute o name apos) [] [] pos) (dMt r do_ dNil) := by
  obtain ⟨t, ht, hsim⟩ := hm
  refine pe_w (pe_bm0 PySem.F.plainAttrs_list slot hty ht ho hbase hline) fun σ H Q ⟨Z, F, M, ρ, QD, R, h, o⟩ => ?_
  refine ⟨Z, F, M, ρ, _, R, h, fun x a F1 H1 M1 e1 R1 r1 h1 => ?_⟩
  obtain ⟨⟨ds, q1⟩, h1⟩ := h1
  obtain ⟨p, xs, rfl, q, rr⟩ := lsR_rep R1 r1 q1
  exact ⟨.inl ⟨rfl, xs, q⟩, hsim Z F1 H1 M1 _ _ _ _ Q QD R1 r1 .nil h1 (o.mono e1)⟩
def rAppendD : Dat → List Dat → MH → VKD → Prop := fun x as M Q => match x with
  | .ref a => (match as with
    | [d] => ∃ ds, M a = some (.lst ds) ∧ ds.length < sizeLine ∧ Q .non (updM M a (.lst (ds ++ [d])))
    | _ => False)
  | _ => False
theorem md_append : MtD X "list.append" rAppendD := ⟨_, mt_append, fun Z F H M x xs a as Q QD R ra rs hd o => by
  unfold rAppendD at hd
  split at hd
  · rename_i p
    split at hd
    · rename_i d
      obtain ⟨ds, q1, q2, q3⟩ := hd
      cases ra
      obtain ⟨v, ws, rfl, r1, rs⟩ := rs.uncons
      cases rs.unnil
      obtain ⟨ys, q4, r4⟩ := (R.chg p _ q1).2
      refine ⟨p, ys, v, rfl, rfl, q4, by rw [r4.length]; exact q2, ?_⟩
      have R3 := R.write (o := .lst (ys ++ [v])) (m := .lst (ds ++ [d])) q1 ⟨_, upd_same, r4.app (.one r1)⟩
      exact o _ _ F _ _ (Ext.refl F) R3 .non q3
    · exact hd.elim
  · exact hd.elim⟩
def rPopD : Dat → List Dat → MH → VKD → Prop := fun x as M Q => match x with
  | .ref a => (match as with
    | [] => ∃ ds d, M a = some (.lst ds) ∧ ds[ds.length - 1]? = some d ∧ Q d (updM M a (.lst ds.dropLast))
    | _ => False)
  | _ => False
theorem md_pop : MtD X "list.pop" rPopD := ⟨_, mt_pop, fun Z F H M x xs a as Q QD R ra rs hd o => by
  unfold rPopD at hd
  split at hd
  · rename_i p
    split at hd
    · obtain ⟨ds, d, q1, q2, q3⟩ := hd
      cases ra
      cases rs.unnil
      obtain ⟨ys, q4, r4⟩ := (R.chg p _ q1).2
      obtain ⟨v, q5, r5⟩ := r4.get q2
      refine ⟨p, ys, v, rfl, rfl, q4, by rw [r4.length]; exact q5, ?_⟩
      have R3 := R.write (o := .lst ys.dropLast) (m := .lst ds.dropLast) q1 ⟨_, upd_same, r4.dropLast⟩
      exact o _ _ F _ _ (Ext.refl F) R3 r5 q3
    · exact hd.elim
  · exact hd.elim⟩
/-- xs.extend(ys) -/
def rExtendD : Dat → List Dat → MH → VKD → Prop := fun x as M Q => match x with
  | .ref a => (match as with
    | [d] => ∃ ds es, M a = some (.lst ds) ∧ lsT M d = some es ∧ ds.length + es.length ≤ sizeLine ∧ Q .non (updM M a (.lst (ds ++ es)))
    | _ => False)
  | _ => False
theorem md_extend : MtD X "list.extend" rExtendD := ⟨_, mt_extend, fun Z F H M x xs a as Q QD R ra rs hd o => by
  unfold rExtendD at hd
  split at hd
  · rename_i p
    split at hd
    · rename_i d
      obtain ⟨ds, es, q1, q2, q3, q4⟩ := hd
      cases ra
      obtain ⟨v, ws, rfl, r1, rs⟩ := rs.uncons
      cases rs.unnil
      obtain ⟨ys, q5, r5⟩ := (R.chg p _ q1).2
      obtain ⟨p2, zs, rfl, q6, r6⟩ := lsT_rep R r1 q2
      refine ⟨p, p2, ys, zs, rfl, rfl, q5, q6, by rw [r5.length, r6.length]; exact q3, ?_⟩
      have R3 := R.write (o := .lst (ys ++ zs)) (m := .lst (ds ++ es)) q1 ⟨_, upd_same, r5.app r6⟩
      exact o _ _ F _ _ (Ext.refl F) R3 .non q4
    · exact hd.elim
  · exact hd.elim⟩
end
end DL
namespace DL
open PySem PySem.Spec PyProof.Rows L2
/-! ### what a def promises, over data -/
abbrev SpD := List Dat → MH → VKD → Prop
def toSp (K : PySem.W.Frag) (sp : SpD) : Sp := fun vs H Q _ => ∃ Z F M ds QD, RelM K Z F H M ∧ Reps K F vs ds ∧ sp ds M QD ∧ OkV K Z F Q QD
/-- a def stands in the text -/
structure HasFn (K : PySem.W.Frag) (mg : Str → Option Value) (x qual : Str) (st : Stmt) (ps : List Str) : Prop where
  ex : ∃ f fd, Fun K x qual st f fd ∧ mg x = some (.ref f) ∧ Binds K fd ps []
/-- .. and keeps a promise -/
structure FnD (P : Program) (w : World) (K : PySem.W.Frag) (mg : Str → Option Value) (base : Heap) (k : Nat) (x : Str) (st : Stmt) (ps : List Str) (sp : SpD) : Prop where
  ex : ∃ f fd, Fun K x x st f fd ∧ mg x = some (.ref f) ∧ Binds K fd ps [] ∧ FnOk P w K mg base CX0 k f fd ps (toSp K sp)
/-- a method of the class at C -/
structure HasMt (K : PySem.W.Frag) (C : Addr) (m qual : Str) (st : Stmt) (ps : List Str) : Prop where
  ex : ∃ f fd, Fun K m qual st f fd ∧ Meth K C m f ∧ Binds K fd ps []
structure MtdD (P : Program) (w : World) (K : PySem.W.Frag) (mg : Str → Option Value) (base : Heap) (k : Nat) (C : Addr) (m : Str) (st : Stmt) (ps : List Str) (sp : SpD) : Prop where
  ex : ∃ qual f fd, Fun K m qual st f fd ∧ Meth K C m f ∧ Binds K fd ps [] ∧ FnOk P w K mg base CX0 k f fd ps (toSp K sp)
/-- the class at C and its __init__ -/
structure HasCl (K : PySem.W.Frag) (mg : Str → Option Value) (x : Str) (C : Addr) (qual : Str) (st : Stmt) (ps : List Str) : Prop where
  ex : ∃ f fd, Fun K "__init__" qual st f fd ∧ mg x = some (.ref C) ∧ Mk K C f ∧ Binds K fd ps []
structure ClD (P : Program) (w : World) (K : PySem.W.Frag) (mg : Str → Option Value) (base : Heap) (k : Nat) (x : Str) (C : Addr) (st : Stmt) (ps : List Str) (sp : SpD) : Prop where
  ex : ∃ qual f fd, Fun K "__init__" qual st f fd ∧ mg x = some (.ref C) ∧ Mk K C f ∧ Binds K fd ps [] ∧ FnOk P w K mg base CX0 k f fd ps (toSp K sp)
def endD (Q : VKD) : VKD := fun d M' => ∃ M0, LeM M0 M' ∧ Q d M0
def startD : Nat → List Dat → EnvD
  | 0, _ => []
  | n + 1, [] => none :: startD n []
  | n + 1, d :: ds => some d :: startD n ds
theorem startD_rep {K : PySem.W.Frag} {F : Hp} : ∀ (n : Nat) {vs : List V} {ds : List Dat}, Reps K F vs ds → ds.length ≤ n → RelE K F (vs.map some ++ List.replicate (n - vs.length) none) (startD n ds)
  | 0, vs, ds, r, h => by
    have e : ds = [] := List.length_eq_zero_iff.mp (by omega)
    subst e
    cases r
    exact ⟨rfl, fun i d q => by cases q⟩
  | n + 1, vs, [], r, h => by
    cases r
    have ih := startD_rep (K := K) (F := F) n (vs := []) (ds := []) .nil (Nat.zero_le _)
    refine ⟨congrArg Nat.succ ih.len, fun i d q => ?_⟩
    cases i with
    | zero => cases q
    | succ i => exact ih.at_ i d q
  | n + 1, vs, d :: ds, r, h => by
    obtain ⟨v, ws, rfl, r1, r2⟩ := r.uncons
    have ih := startD_rep (K := K) (F := F) n r2 (by rw [List.length_cons] at h; omega)
    have el : n + 1 - (v :: ws).length = n - ws.length := by rw [List.length_cons]; omega
    rw [el]
    refine ⟨congrArg Nat.succ ih.len, fun i x q => ?_⟩
    cases i with
    | zero =>
      have e := Option.some.inj q
      cases e
      exact ⟨v, rfl, r1⟩
    | succ i => exact ih.at_ i x q
section
variable {P : Program} {w : World} {K : PySem.W.Frag} {mg : Str → Option Value} {base : Heap}
/-- a def's promise by its body -/
theorem fnok_of {x qual : Str} {st : Stmt} {f : Addr} {fd : FuncData} {N ps : List Str} {k : Nat} {sp : SpD} (F : Fun K x qual st f fd) (S : FnScope N ps (defScope st)) (n : Nat) (hn : N.length = n) (len : ∀ ds M Q, sp ds M Q → ds.length = ps.length)
    (body : ∀ (cdv : Value) (A : Around) (outer : List Env) (s : Shared) (H : Hp) (E : XK), Room k (A.deeper (envOfC qual (defScope st) s.heap.objs.size f cdv)) →
      ∃ d, DSs (cxOf CX0 P w K mg base N qual (defScope st) f cdv A outer s H E).nox (defBody st) d ∧ ∀ ds M Q, sp ds M Q → d { nx := fun _ M' => endD Q .non M', rt := endD Q } (startD n ds) M) : FnOk P w K mg base CX0 (k + 1) f fd ps (toSp K sp) := by
  refine F.ok S (fun vs H Q E h => ?_) (fun cdv A outer s H vs Q E hr h => ?_)
  · obtain ⟨Z, F, M, ds, QD, R, r, h, o⟩ := h
    rw [r.length]
    exact len ds M QD h
  · obtain ⟨d, hd, hb⟩ := body cdv A outer s H E hr
    obtain ⟨Z, F, M, ds, QD, R, r, h, o⟩ := h
    refine ⟨_, hd, Z, F, M, startD n ds, { nx := fun _ M' => endD QD .non M', rt := endD QD }, ⟨R, ?_⟩, hb ds M QD h, ⟨?_, ?_, ?_, ?_⟩⟩
    · have hl := len ds M QD h
      have hp : ps.length ≤ N.length := by
        have := congrArg List.length S.pre
        rw [List.length_take] at this
        omega
      unfold L2.start
      rw [← hn]
      exact startD_rep N.length r (by omega)
    · intro σ' ρ' F' H' M' e R' q
      obtain ⟨M0, l, q⟩ := q
      exact o _ _ F' H' M0 e (R'.m.le l) .non q
    · intro v d F' H' M' e R' rr q
      obtain ⟨M0, l, q⟩ := q
      exact o _ _ F' H' M0 e (R'.le l) rr q
    · intro σ' ρ' F' H' M' e R' q
      exact q.elim
    · intro σ' ρ' F' H' M' e R' q
      exact q.elim
theorem fn_mk {x : Str} {st : Stmt} {N ps : List Str} {k : Nat} {sp : SpD} (h : HasFn K mg x x st ps) (S : FnScope N ps (defScope st)) (n : Nat) (hn : N.length = n) (len : ∀ ds M Q, sp ds M Q → ds.length = ps.length)
    (body : ∀ (f : Addr) (cdv : Value) (A : Around) (outer : List Env) (s : Shared) (H : Hp) (E : XK), Room k (A.deeper (envOfC x (defScope st) s.heap.objs.size f cdv)) →
      ∃ d, DSs (cxOf CX0 P w K mg base N x (defScope st) f cdv A outer s H E).nox (defBody st) d ∧ ∀ ds M Q, sp ds M Q → d { nx := fun _ M' => endD Q .non M', rt := endD Q } (startD n ds) M) : FnD P w K mg base (k + 1) x st ps sp := by
  obtain ⟨f, fd, F, hm, hb⟩ := h.ex
  exact ⟨f, fd, F, hm, hb, fnok_of F S n hn len (body f)⟩
theorem mt_mk {C : Addr} {m qual : Str} {st : Stmt} {N ps : List Str} {k : Nat} {sp : SpD} (h : HasMt K C m qual st ps) (S : FnScope N ps (defScope st)) (n : Nat) (hn : N.length = n) (len : ∀ ds M Q, sp ds M Q → ds.length = ps.length)
    (body : ∀ (f : Addr) (cdv : Value) (A : Around) (outer : List Env) (s : Shared) (H : Hp) (E : XK), Room k (A.deeper (envOfC qual (defScope st) s.heap.objs.size f cdv)) →
      ∃ d, DSs (cxOf CX0 P w K mg base N qual (defScope st) f cdv A outer s H E).nox (defBody st) d ∧ ∀ ds M Q, sp ds M Q → d { nx := fun _ M' => endD Q .non M', rt := endD Q } (startD n ds) M) : MtdD P w K mg base (k + 1) C m st ps sp := by
  obtain ⟨f, fd, F, hm, hb⟩ := h.ex
  exact ⟨qual, f, fd, F, hm, hb, fnok_of F S n hn len (body f)⟩
theorem cl_mk {C : Addr} {x qual : Str} {st : Stmt} {N ps : List Str} {k : Nat} {sp : SpD} (h : HasCl K mg x C qual st ps) (S : FnScope N ps (defScope st)) (n : Nat) (hn : N.length = n) (len : ∀ ds M Q, sp ds M Q → ds.length = ps.length)
    (body : ∀ (f : Addr) (cdv : Value) (A : Around) (outer : List Env) (s : Shared) (H : Hp) (E : XK), Room k (A.deeper (envOfC qual (defScope st) s.heap.objs.size f cdv)) →
      ∃ d, DSs (cxOf CX0 P w K mg base N qual (defScope st) f cdv A outer s H E).nox (defBody st) d ∧ ∀ ds M Q, sp ds M Q → d { nx := fun _ M' => endD Q .non M', rt := endD Q } (startD n ds) M) : ClD P w K mg base (k + 1) x C st ps sp := by
  obtain ⟨f, fd, F, hm, mk, hb⟩ := h.ex
  exact ⟨qual, f, fd, F, hm, mk, hb, fnok_of F S n hn len (body f)⟩
end
/-! ### calls -/
section
variable {X : Cx} {k k2 : Nat} {x m : Str} {st : Stmt} {ps : List Str} {sp : SpD} {e o : Expr} {es : List Expr} {p pos apos : Pos} {dA dK : TAD} {do_ : TED} {C : Addr}
def dCall (sp : SpD) (dA : TAD) : TED := fun ρ M Q => dA ρ M fun ds M1 => sp ds M1 Q
theorem up_call {K : PySem.W.Frag} {σ : L2.St} {H : Hp} {Q : VK} (h : up K (dCall sp dA) σ H Q) : tCall (toSp K sp) [] E0 (upA K dA) σ H Q := by
  obtain ⟨Z, F, M, ρ, QD, R, h, o⟩ := h
  refine ⟨Z, F, M, ρ, _, R, h, fun vs ds F1 H1 M1 e1 R1 r1 h1 => ?_⟩
  show toSp K sp (vs ++ []) H1 Q E0
  rw [List.append_nil]
  exact ⟨Z, F1, M1, ds, QD, R1, r1, h1, o.mono e1⟩
theorem de_call (F : FnD X.prog X.w X.K X.mg X.base k x st ps sp) (hr : Room k2 X.A) (ha : DA X (e :: es) dA) (hk : k ≤ k2 := by decide) (hg : Gl X x := by rfl) (hdb : (x == ("__debug__" : Str)) = false := by decide)
    (he : starEach (e :: es) X.env = (false, eval e X.env) :: starEach es X.env := by rfl) (hpl : (backTo pos (starEach es X.env)).any (·.1) = false := by rfl) : DE X (.Call (.Name x p) (e :: es) [] pos) (dCall sp dA) := by
  obtain ⟨f, fd, F, hm, hb, ok⟩ := F.ex
  exact pe_w (pe_call ok (hr.mono hk) hg hm F.kp hb .nil pass0 ha hdb he hpl) fun σ H Q h => up_call h
theorem de_call0 (F : FnD X.prog X.w X.K X.mg X.base k x st ps sp) (hr : Room k2 X.A) (hk : k ≤ k2 := by decide) (hg : Gl X x := by rfl) (hdb : (x == ("__debug__" : Str)) = false := by decide) : DE X (.Call (.Name x p) [] [] pos) (dCall sp dNil) := by
  obtain ⟨f, fd, F, hm, hb, ok⟩ := F.ex
  refine pe_w (pe_call0 ok (hr.mono hk) hg hm F.kp hb .nil pass0 hdb) fun σ H Q h => ?_
  obtain ⟨Z, F, M, ρ, QD, R, h, o⟩ := h
  exact ⟨Z, F, M, [], QD, R.m, .nil, h, o⟩
/-- keywords, from the left -/
abbrev DK (X : Cx) (kws : List Keyword) (d : TAD) : Prop := PK X kws (upA X.K d)
theorem pk_w {kws : List Keyword} {t u : TA} (h : PK X kws t) (w : ∀ σ H Q, u σ H Q → t σ H Q) : PK X kws u := ⟨fun pos pins s σ H Q I q => h.run pos pins s σ H Q I (w σ H Q q)⟩
theorem dk_nil : DK X [] dNil := pk_w pk_nil fun σ H Q ⟨Z, F, M, ρ, QD, R, h, o⟩ => o [] [] F H M (Ext.refl F) R.m .nil h
theorem dk_cons {de : TED} {nm : Option Str} {kpos : Pos} {kws : List Keyword} (ha : DE X e de) (hr : DK X kws dK) : DK X (⟨nm, e, kpos⟩ :: kws) (dCons de dK) := pk_w (pk_cons ha hr) fun σ H Q ⟨Z, F, M, ρ, QD, R, h, o⟩ => by
  refine ⟨Z, F, M, ρ, _, R, h, fun x a F1 H1 M1 e1 R1 r1 h1 => ?_⟩
  refine ⟨Z, F1, M1, ρ, _, R.ext e1 R1, h1, fun xs as F2 H2 M2 e2 R2 r2 h2 => ?_⟩
  exact o _ _ F2 H2 M2 (e1.trans e2) R2 (.cons (r1.mono e2) r2) h2
/-- f(.., k = v, ..): g puts all in the parameters' order -/
def dCallK (n m : Nat) (g : List Dat → List Dat → List Dat) (sp : SpD) (dA dK : TAD) : TED := fun ρ M Q => dA ρ M fun ds M1 => dK ρ M1 fun es M2 => ds.length = n ∧ es.length = m ∧ sp (g ds es) M2 Q
/-- how such a call binds -/
structure KwB (x : Str) (st : Stmt) (ps : List Str) (n : Nat) (ks : List Str) (g : {α : Type} → List α → List α → List α) : Prop where
  to : ∀ (kV doc pm : Value) (an : Option Addr) (cdv ct : Value) (us ws : List Value), us.length = n → ws.length = ks.length →
    bindArgs (PySem.W.fnOf x x (defArgs st) (defBody st) (defScope st) .none kV doc pm an cdv ct) ⟨us, ks.zip ws⟩ = pure (ps.zip (g us ws))
  vals : ∀ {vs : List V} {us : List Value} {zs : List V} {ws : List Value}, Vals vs us → Vals zs ws → Vals (g vs zs) (g us ws)
  reps : ∀ {K : PySem.W.Frag} {F : Hp} {vs zs : List V} {ds es : List Dat}, vs.length = n → zs.length = ks.length → Reps K F vs ds → Reps K F zs es → Reps K F (g vs zs) (g ds es)
theorem pe_callN0 {CX : CXT} {f : Addr} {fd : FuncData} {ks : List Str} {sp : Sp} {E : XK} {kws : List Keyword} {tk : TA} {g : List Value → List Value → List Value} {gV : List V → List V → List V} (F : FnOk X.prog X.w X.K X.mg X.base CX k f fd ps sp) (hr : Room k X.A) (hg : Gl X x) (hm : X.mg x = some (.ref f)) (hk : PySem.W.keepIn X.K (.ref f) = true) (hb : KBn X.K fd ps 0 ks g gV) (hx : Passes CX X E)
    (hkw : PK X kws tk) (hall : (backToKw pos (keywordEach kws X.env)).all (·.1.isSome) = true) (hks : (backToKw pos (keywordEach kws X.env)).filterMap (·.1) = ks) (hdb : (x == ("__debug__" : Str)) = false)
    (hpl : ((backTo pos (starEach [] X.env)).any (·.1) || (backToKw pos (keywordEach kws X.env)).any (·.1.isNone)) = false) :
    PE X (.Call (.Name x p) [] kws pos) (tCallN 0 ks.length sp gV E tNil tk) := by
  refine ⟨fun pins s σ H Q I h => ?_⟩
  refine wpAny_Call_Name_kw (ld_glob I hg hm ?_ hdb)
  refine PySem.W.callWith_KW0 (h₀ := X.base) I.ok.mod.kin hk hall (thn (hkw.run pos pins s σ H _ I h) fun ws s2 ⟨zs, H2, I2, rz, l1, l2, q2⟩ => ⟨I2.kIn, ?_⟩) hpl
  rw [hks]
  exact run_fnN F hr hb hx I2 (us := []) .nil rz l1 l2 q2
theorem up_callK {K : PySem.W.Frag} {n m : Nat} {g : List Dat → List Dat → List Dat} {gV : List V → List V → List V} (hg : ∀ {F : Hp} {vs zs : List V} {ds es : List Dat}, vs.length = n → zs.length = m → Reps K F vs ds → Reps K F zs es → Reps K F (gV vs zs) (g ds es)) {σ : L2.St} {H : Hp} {Q : VK} (h : up K (dCallK n m g sp dA dK) σ H Q) :
    tCallN n m (toSp K sp) gV E0 (upA K dA) (upA K dK) σ H Q := by
  obtain ⟨Z, F, M, ρ, QD, R, h, o⟩ := h
  refine ⟨Z, F, M, ρ, _, R, h, fun vs ds F1 H1 M1 e1 R1 r1 h1 => ?_⟩
  refine ⟨Z, F1, M1, ρ, _, R.ext e1 R1, h1, fun zs es F2 H2 M2 e2 R2 r2 h2 => ?_⟩
  obtain ⟨l1, l2, h2⟩ := h2
  have k1 : vs.length = n := r1.length.trans l1
  have k2 : zs.length = m := r2.length.trans l2
  exact ⟨k1, k2, Z, F2, M2, _, QD, R2, hg k1 k2 (r1.mono e2) r2, h2, o.mono (e1.trans e2)⟩
theorem kbn_of {f : Addr} {fd : FuncData} {n : Nat} {ks : List Str} {g : {α : Type} → List α → List α → List α} (F : Fun X.K x x st f fd) (B : KwB x st ps n ks g) : KBn X.K fd ps n ks g g := by
  obtain ⟨oc, od, kV, doc, pm, an, cdv, ct, osl, rfl, lk, hcd⟩ := F.ex
  exact ⟨fun s us ws _ l1 l2 => .of_eq (B.to kV doc pm an cdv ct us ws l1 l2), fun r q => B.vals r q⟩
theorem de_callK0 {ks : List Str} {kws : List Keyword} (g : {α : Type} → List α → List α → List α) (F : FnD X.prog X.w X.K X.mg X.base k x st ps sp) (B : KwB x st ps 0 ks g) (hr : Room k2 X.A) (hkw : DK X kws dK) (hk : k ≤ k2 := by decide) (hg : Gl X x := by rfl)
    (hall : (backToKw pos (keywordEach kws X.env)).all (·.1.isSome) = true := by rfl) (hks : (backToKw pos (keywordEach kws X.env)).filterMap (·.1) = ks := by rfl) (hdb : (x == ("__debug__" : Str)) = false := by decide)
    (hpl : ((backTo pos (starEach [] X.env)).any (·.1) || (backToKw pos (keywordEach kws X.env)).any (·.1.isNone)) = false := by rfl) : DE X (.Call (.Name x p) [] kws pos) (dCallK 0 ks.length g sp dNil dK) := by
  obtain ⟨f, fd, F, hm, hb, ok⟩ := F.ex
  refine pe_w (pe_callN0 ok (hr.mono hk) hg hm F.kp (kbn_of F B) pass0 hkw hall hks hdb hpl) fun σ H Q h => ?_
  obtain ⟨Z, F, M, ρ, QD, R, h, o⟩ := h
  have h' : dK ρ M (fun es M2 => ([] : List Dat).length = 0 ∧ es.length = ks.length ∧ sp (g [] es) M2 QD) := h
  refine ⟨Z, F, M, ρ, _, R, h', fun zs es F2 H2 M2 e2 R2 r2 h2 => ?_⟩
  obtain ⟨l1, l2, h2⟩ := h2
  have k2 : zs.length = ks.length := r2.length.trans l2
  exact ⟨rfl, k2, Z, F2, M2, _, QD, R2, B.reps rfl k2 .nil r2, h2, o.mono e2⟩
theorem de_callK {n : Nat} {ks : List Str} {kws : List Keyword} (g : {α : Type} → List α → List α → List α) (F : FnD X.prog X.w X.K X.mg X.base k x st ps sp) (B : KwB x st ps n ks g) (hr : Room k2 X.A) (ha : DA X (e :: es) dA) (hkw : DK X kws dK) (hk : k ≤ k2 := by decide) (hg : Gl X x := by rfl)
    (hall : (backToKw pos (keywordEach kws X.env)).all (·.1.isSome) = true := by rfl) (hks : (backToKw pos (keywordEach kws X.env)).filterMap (·.1) = ks := by rfl) (hdb : (x == ("__debug__" : Str)) = false := by decide)
    (he : starEach (e :: es) X.env = (false, eval e X.env) :: starEach es X.env := by rfl)
    (hpl : ((backTo pos (starEach (e :: es) X.env)).any (·.1) || (backToKw pos (keywordEach kws X.env)).any (·.1.isNone)) = false := by rfl) : DE X (.Call (.Name x p) (e :: es) kws pos) (dCallK n ks.length g sp dA dK) := by
  obtain ⟨f, fd, F, hm, hb, ok⟩ := F.ex
  exact pe_w (pe_callN ok (hr.mono hk) hg hm F.kp (kbn_of F B) pass0 ha hkw hall hks hdb he hpl) fun σ H Q h => up_callK (fun l1 l2 r q => B.reps l1 l2 r q) h
/-- o.m(..) of an instance -/
def dMeth (C : Addr) (m : Str) (sp : SpD) (do_ : TED) (dA : TAD) : TED := fun ρ M Q => do_ ρ M fun x M1 => (∃ gs, fieldsOf M1 x = some (C, gs) ∧ (gs.map (·.1)).contains m = false) ∧ dA ρ M1 fun ds M2 => sp (x :: ds) M2 Q
theorem repF_none {K : PySem.W.Frag} {F : Hp} {m : Str} {fs : List (Str × V)} {gs : List (Str × Dat)} (r : RepF K F fs gs) (h : (gs.map (·.1)).contains m = false) : fs.lookup m = none := by
  induction fs generalizing gs with
  | nil => rfl
  | cons q fs ih =>
    cases r with
    | @cons g v vs d ds r1 r2 =>
      rw [List.map_cons, List.contains_cons, Bool.or_eq_false_iff] at h
      simp only [List.lookup, h.1]
      exact ih r2 h.2
theorem de_meth {pl : Sem Bool} (F : MtdD X.prog X.w X.K X.mg X.base k C m st ps sp) (cl : Cls X.K C) (hr : Room k2 X.A) (ho : DE X o do_) (ha : DA X (e :: es) dA) (hk : k ≤ k2 := by decide)
    (hst : starEach (e :: es) X.env = (false, eval e X.env) :: starEach es X.env := by rfl) (hpl : (backTo pos (starEach es X.env)).any (·.1) = false := by rfl)
    (ht : eval (.Call (.Attribute o m apos) (e :: es) [] pos) X.env = (do
      let ov ← eval o X.env
      standAt apos.atName
      let (f, first) ← holding [ov] (getMethod ov m pl)
      callWith pos f first (backTo pos (starEach (e :: es) X.env)) (backToKw pos (keywordEach [] X.env))) := by rfl) : DE X (.Call (.Attribute o m apos) (e :: es) [] pos) (dMeth C m sp do_ dA) := by
  obtain ⟨qual, f, fd, F, hm, hb, ok⟩ := F.ex
  refine pe_w (pe_meth ho cl hm ok (hr.mono hk) hb .nil pass0 ha hst hpl ht) fun σ H Q ⟨Z, F, M, ρ, QD, R, h, o⟩ => ?_
  refine ⟨Z, F, M, ρ, _, R, h, fun x a F1 H1 M1 e1 R1 r1 h1 => ?_⟩
  obtain ⟨⟨gs, q1, q2⟩, h1⟩ := h1
  obtain ⟨pp, dx, fs, rfl, q3, q4, q5⟩ := fieldsOf_rep R1 r1 q1
  refine ⟨pp, dx, fs, rfl, q3, repF_none q4 q2, Z, F1, M1, ρ, _, R.ext e1 R1, h1, fun vs ds F2 H2 M2 e2 R2 r2 h2 => ?_⟩
  show toSp X.K sp (V.ref pp :: (vs ++ [])) H2 Q E0
  rw [List.append_nil]
  exact ⟨Z, F2, M2, _, QD, R2, .cons (r1.mono e2) r2, h2, o.mono (e1.trans e2)⟩
theorem de_meth0 {pl : Sem Bool} (F : MtdD X.prog X.w X.K X.mg X.base k C m st ps sp) (cl : Cls X.K C) (hr : Room k2 X.A) (ho : DE X o do_) (hk : k ≤ k2 := by decide)
    (ht : eval (.Call (.Attribute o m apos) [] [] pos) X.env = (do
      let ov ← eval o X.env
      standAt apos.atName
      let (f, first) ← holding [ov] (getMethod ov m pl)
      callWith pos f first (backTo pos (starEach [] X.env)) (backToKw pos (keywordEach [] X.env))) := by rfl) : DE X (.Call (.Attribute o m apos) [] [] pos) (dMeth C m sp do_ dNil) := by
  obtain ⟨qual, f, fd, F, hm, hb, ok⟩ := F.ex
  refine pe_w (pe_meth0 ho cl hm ok (hr.mono hk) hb .nil pass0 ht) fun σ H Q ⟨Z, F, M, ρ, QD, R, h, o⟩ => ?_
  refine ⟨Z, F, M, ρ, _, R, h, fun x a F1 H1 M1 e1 R1 r1 h1 => ?_⟩
  obtain ⟨⟨gs, q1, q2⟩, h1⟩ := h1
  obtain ⟨pp, dx, fs, rfl, q3, q4, q5⟩ := fieldsOf_rep R1 r1 q1
  refine ⟨pp, dx, fs, rfl, q3, repF_none q4 q2, ?_⟩
  exact ⟨Z, F1, M1, _, QD, R1, .one r1, h1, o.mono e1⟩
/-- C(..): an instance that never changes behind its __init__; one that may -/
def dMake (mk : Bool) (C : Addr) (sp : SpD) (dA : TAD) : TED := fun ρ M Q => dA ρ M fun ds M1 => ∀ a, M1 a = none → sp (.ref a :: ds) (updM M1 a (.ins C [])) fun r M2 => r = .non ∧ (match mk with
  | true => Q (.ref a) M2
  | false => ∃ gs, M2 a = some (.ins C gs) ∧ Q (.ins C gs) (delM M2 a))
theorem upd2_sub {F H : Hp} {a dx C : Addr} {x : Addr} (s : Ext F H) (h1 : H a = none) (h2 : H dx = none) : Ext F (upd (upd H dx (.own x)) a (.ins C dx [])) := fun b u q => by
  rw [upd_ne (ne_of_none (s b u q) h1), upd_ne (ne_of_none (s b u q) h2)]
  exact s b u q
theorem relM_made {K : PySem.W.Frag} {Z F H : Hp} {M : MH} {a dx C : Addr} (R : RelM K Z F H M) (h1 : H a = none) (h2 : H dx = none) (hne : dx ≠ a) : RelM K Z F (upd (upd H dx (.own a)) a (.ins C dx [])) (updM M a (.ins C [])) := by
  have keep : ∀ b u, H b = some u → (upd (upd H dx (.own a)) a (.ins C dx [])) b = some u := fun b u q => by
    rw [upd_ne (ne_of_none q h1), upd_ne (ne_of_none q h2)]
    exact q
  refine ⟨upd2_sub R.sub h1 h2, fun b u q => ?_, fun b m q => ?_⟩
  · obtain ⟨q1, q2, q3⟩ := R.hid b u q
    exact ⟨keep b u q1, q2, by rw [updM_ne (ne_of_none q1 h1)]; exact q3⟩
  · by_cases hb : b = a
    · subst hb
      rw [updM_same] at q
      cases q
      exact ⟨(R.fresh h1).1, dx, [], upd_same, .nil, List.nodup_nil⟩
    · rw [updM_ne hb] at q
      obtain ⟨q1, q2⟩ := R.chg b m q
      obtain ⟨u, hu⟩ := q2.some
      exact ⟨q1, q2.mono (Ext.refl _) (by rw [keep b u hu, hu])⟩
theorem up_make {K : PySem.W.Frag} {mk : Bool} {σ : L2.St} {H : Hp} {Q : VK} (h : up K (dMake mk C sp dA) σ H Q) : tMake C (toSp K sp) [] E0 (upA K dA) σ H Q := by
  obtain ⟨Z, F, M, ρ, QD, R, h, o⟩ := h
  refine ⟨Z, F, M, ρ, _, R, h, fun vs ds F1 H1 M1 e1 R1 r1 h1 => ?_⟩
  intro a dx ha hdx hne
  rw [List.append_nil]
  refine ⟨Z, F1, _, _, _, relM_made R1 ha hdx hne, .cons (.ref a) r1, h1 a (R1.fresh ha).2, fun v d F2 H2 M2 e2 R2 r2 h2 => ?_⟩
  obtain ⟨q1, q2⟩ := h2
  subst q1
  refine ⟨r2.toNon, ?_⟩
  cases mk with
  | true => exact o _ _ F2 H2 M2 (e1.trans e2) R2 (.ref a) q2
  | false =>
    obtain ⟨gs, q3, q4⟩ := q2
    obtain ⟨dx2, fs, q5, q6, q7⟩ := (R2.chg a _ q3).2
    obtain ⟨R3, e3⟩ := R2.frz q3 q5
    exact o _ _ _ H2 _ ((e1.trans e2).trans e3) R3 (.ins upd_same (q6.mono e3) q7) q4
theorem de_make (mk : Bool) (F : ClD X.prog X.w X.K X.mg X.base k x C st ps sp) (hr : Room k2 X.A) (ha : DA X (e :: es) dA) (hk : k + 1 ≤ k2 := by decide) (hg : Gl X x := by rfl) (hdb : (x == ("__debug__" : Str)) = false := by decide)
    (he : starEach (e :: es) X.env = (false, eval e X.env) :: starEach es X.env := by rfl) (hpl : (backTo pos (starEach es X.env)).any (·.1) = false := by rfl) : DE X (.Call (.Name x p) (e :: es) [] pos) (dMake mk C sp dA) := by
  obtain ⟨qual, f, fd, F, hm, M, hb, ok⟩ := F.ex
  exact pe_w (pe_make M ok (hr.mono hk) hg hm hb .nil pass0 ha hdb he hpl) fun σ H Q h => up_make h
end
/-! ### loops -/
section
variable {X : Cx} {c e : Expr} {tc : TTD} {tb : TSD} {body : List Stmt} {pos : Pos} {g : TGD} {tg iter : Expr}
/-- the word W with its measure -/
def dWhile (c : TTD) (tb : TSD) : TSD := fun D ρ M => ∃ W : Nat → EnvD → MH → Prop, (∃ m, W m ρ M) ∧ ∀ m ρ M, W m ρ M →
  c ρ M fun b M1 => if b = true then tb { D with nx := fun ρ' M' => ∃ m', m' < m ∧ W m' ρ' M', ct := fun ρ' M' => ∃ m', m' < m ∧ W m' ρ' M', bk := D.nx } ρ M1 else D.nx ρ M1
theorem ds_while (hc : DT X c tc) (hb : DSs X body tb) (hp : PassesOwn (model X.prog X.w) X.A X.env X.xe := by exact PassesOwn.never) : DS X (.While c body [] pos) (dWhile tc tb) := ps_w (ps_while hp hc hb) fun D σ H ⟨Z, F, M, ρ, DD, R, ⟨W, ⟨m0, w0⟩, turn⟩, o⟩ => by
  refine ⟨fun m σ H => ∃ F' M ρ, Ext F F' ∧ Rel X.K Z F' H M σ ρ ∧ W m ρ M, ⟨m0, F, M, ρ, Ext.refl F, R, w0⟩, ?_⟩
  rintro m σ1 H1 ⟨F1, M1, ρ1, e1, R1, w1⟩
  refine ⟨Z, F1, M1, ρ1, _, R1, turn m ρ1 M1 w1, fun b F2 H2 M2 e2 R2 h2 => ?_⟩
  cases b with
  | true =>
    rw [if_pos rfl] at h2 ⊢
    refine ⟨_, fun _ _ n => n, Z, F2, M2, ρ1, _, R1.ext e2 R2, h2, ⟨?_, o.rt.mono (e1.trans e2), o.nx.mono (e1.trans e2), ?_⟩⟩
    · rintro σ3 ρ3 F3 H3 M3 e3 R3 ⟨m', l, w3⟩
      exact ⟨m', l, F3, M3, ρ3, (e1.trans e2).trans e3, R3, w3⟩
    · rintro σ3 ρ3 F3 H3 M3 e3 R3 ⟨m', l, w3⟩
      exact ⟨m', l, F3, M3, ρ3, (e1.trans e2).trans e3, R3, w3⟩
  | false =>
    rw [if_neg Bool.false_ne_true] at h2 ⊢
    exact o.nx _ _ F2 H2 M2 (e1.trans e2) (R1.ext e2 R2) h2
/-- what an iterator gives -/
structure WalkD (K : PySem.W.Frag) (F : Hp) (J : It) (ds : List Dat) : Prop where
  go : ∀ Z i F' H M, Ext F F' → RelM K Z F' H M → i < ds.length → J.go i H
  stop : ∀ Z F' H M, Ext F F' → RelM K Z F' H M → J.stop ds.length H
  yld : ∀ Z i F' H M x H' d, Ext F F' → RelM K Z F' H M → J.yld i H x H' → ds[i]? = some d → ∃ F'', Ext F' F'' ∧ RelM K Z F'' H' M ∧ Rep K F'' x d
abbrev TID := EnvD → MH → (List Dat → MH → Prop) → Prop
def upI (K : PySem.W.Frag) (d : TID) : TI := fun σ H R => ∃ Z F M ρ RD, Rel K Z F H M σ ρ ∧ d ρ M RD ∧ (∀ ds J F' H' M', Ext F F' → RelM K Z F' H' M' → WalkD K F' J ds → RD ds M' → R J H')
abbrev DI (X : Cx) (tg e : Expr) (d : TID) : Prop := PI X tg e (upI X.K d)
theorem pi_w {wi wu : TI} (h : PI X tg e wi) (w : ∀ σ H R, wu σ H R → wi σ H R) : PI X tg e wu := ⟨fun pins s σ H R I q => h.run pins s σ H R I (w σ H R q)⟩
def dLoop (g : TGD) (tb : TSD) : List Dat → TSD
  | [] => fun D ρ M => D.nx ρ M
  | x :: r => fun D ρ M => g x ρ M fun ρ' M' => tb { D with nx := dLoop g tb r D, ct := dLoop g tb r D, bk := D.nx } ρ' M'
def dFor (di : TID) (g : TGD) (tb : TSD) : TSD := fun D ρ M => di ρ M fun ds M1 => dLoop g tb ds D ρ M1
theorem ds_for {di : TID} (hi : DI X tg iter di) (hg : DG X tg g) (hb : DSs X body tb) (hc : X.calm = true := by rfl) (hp : PassesOwn (model X.prog X.w) X.A X.env X.xe := by exact PassesOwn.never)
    (hs : ∀ x, foldedSetIterable iter X.env x = pure x := by intro _; rfl) : DS X (.For tg iter body [] pos) (dFor di g tb) := ps_w (ps_for hp hc hi hg hb hs) fun D σ H ⟨Z, F, M, ρ, DD, R, h, o⟩ => by
  refine ⟨Z, F, M, ρ, _, R, h, fun ds J F1 H1 M1 e1 R1 w1 h1 => ?_⟩
  refine ⟨fun i m σ H => m = ds.length - i ∧ i ≤ ds.length ∧ ∃ F' M ρ, Ext F1 F' ∧ Rel X.K Z F' H M σ ρ ∧ dLoop g tb (ds.drop i) DD ρ M, ⟨ds.length, by simp, Nat.zero_le _, F1, M1, ρ, Ext.refl _, R.ext e1 R1, h1⟩, ?_⟩
  rintro i m σ2 H2 ⟨rfl, hi, F2, M2, ρ2, e2, R2, h2⟩
  by_cases hlt : i < ds.length
  · obtain ⟨d, hd⟩ : ∃ d, ds[i]? = some d := ⟨ds[i], List.getElem?_eq_getElem hlt⟩
    have hdr : ds.drop i = d :: ds.drop (i + 1) := by
      obtain ⟨h5, h6⟩ := List.getElem?_eq_some_iff.mp hd
      rw [List.drop_eq_getElem_cons h5, h6]
    rw [hdr] at h2
    unfold dLoop at h2
    refine .inr ⟨w1.go Z i F2 H2 M2 e2 R2.m hlt, fun σ' H' => ∃ F' M ρ, Ext F1 F' ∧ Rel X.K Z F' H' M σ' ρ ∧ dLoop g tb (ds.drop (i + 1)) DD ρ M, fun σ' H' n => ⟨ds.length - (i + 1), by omega, rfl, hlt, n⟩, fun x H' y => ?_⟩
    obtain ⟨F3, e3, R3, r3⟩ := w1.yld Z i F2 H2 M2 x H' d e2 R2.m y hd
    refine ⟨Z, F3, M2, ρ2, d, _, R2.ext e3 R3, r3, h2, fun σ4 ρ4 F4 H4 M4 e4 R4 h4 => ?_⟩
    have e14 := (e2.trans e3).trans e4
    refine ⟨Z, F4, M4, ρ4, _, R4, h4, ⟨?_, o.rt.mono (e1.trans e14), o.nx.mono (e1.trans e14), ?_⟩⟩
    · intro σ5 ρ5 F5 H5 M5 e5 R5 h5
      exact ⟨F5, M5, ρ5, e14.trans e5, R5, h5⟩
    · intro σ5 ρ5 F5 H5 M5 e5 R5 h5
      exact ⟨F5, M5, ρ5, e14.trans e5, R5, h5⟩
  · have e : i = ds.length := by omega
    subst e
    rw [List.drop_length] at h2
    exact .inl ⟨w1.stop Z F2 H2 M2 e2 R2.m, o.nx _ _ F2 H2 M2 (e1.trans e2) R2 h2⟩
/-- a list that never changes -/
def lsF : Dat → Option (List Dat)
  | .lst ds => some ds
  | .frl ds => some ds
  | _ => none
theorem lsF_rep {K : PySem.W.Frag} {F : Hp} {x : V} {a : Dat} {ds : List Dat} (r : Rep K F x a) (h : lsF a = some ds) : ∃ p xs, x = .ref p ∧ SqL K F p xs ∧ Reps K F xs ds := by
  unfold lsF at h
  split at h
  · cases h
    cases r with
    | lst q r => exact ⟨_, _, rfl, SqL.of q, r⟩
  · cases h
    cases r with
    | frl q r => exact ⟨_, _, rfl, q, r⟩
  · cases h
theorem walk_lst {K : PySem.W.Frag} {F : Hp} {p : Addr} {xs : List V} {ds : List Dat} (q : SqL K F p xs) (r : Reps K F xs ds) : WalkD K F (Itl K p) ds := by
  refine ⟨fun Z i F' H M e R h => ?_, fun Z F' H M e R => ⟨xs, ext_l (e.trans R.sub) q, by rw [r.length]; exact Nat.le_refl _⟩, fun Z i F' H M x H' d e R y hd => ?_⟩
  · obtain ⟨v, hv, _⟩ := r.get (List.getElem?_eq_getElem h)
    exact ⟨xs, v, ext_l (e.trans R.sub) q, hv⟩
  · obtain ⟨rfl, y⟩ := y
    obtain ⟨v, hv, rv⟩ := r.get hd
    have e2 := (y xs (ext_l (e.trans R.sub) q)).symm.trans hv
    cases e2
    exact ⟨F', Ext.refl _, R, rv.mono e⟩
def dIL (de : TED) : TID := fun ρ M R => de ρ M fun x M1 => ∃ ds, lsF x = some ds ∧ R ds M1
theorem di_lst {de : TED} (he : DE X e de) : DI X tg e (dIL de) := pi_w (pi_list he) fun σ H R ⟨Z, F, M, ρ, RD, R0, h, o⟩ => by
  refine ⟨Z, F, M, ρ, _, R0, h, fun x a F1 H1 M1 e1 R1 r1 h1 => ?_⟩
  obtain ⟨ds, h2, h3⟩ := h1
  obtain ⟨p, xs, rfl, q, r⟩ := lsF_rep r1 h2
  exact ⟨p, rfl, ⟨xs, ext_l R1.sub q⟩, o ds _ F1 H1 M1 e1 R1 (walk_lst q r) h3⟩
def dIT (de : TED) : TID := fun ρ M R => de ρ M fun x M1 => match x with
  | .tup ds => R ds M1
  | _ => False
theorem walk_tupD {K : PySem.W.Frag} {F : Hp} {p : Addr} {xs : List V} {ds : List Dat} (q : SqT K F p xs) (r : Reps K F xs ds) : WalkD K F (Itt K p) ds := by
  refine ⟨fun Z i F' H M e R h => ?_, fun Z F' H M e R => ⟨xs, ext_t (e.trans R.sub) q, by rw [r.length]; exact Nat.le_refl _⟩, fun Z i F' H M x H' d e R y hd => ?_⟩
  · obtain ⟨v, hv, _⟩ := r.get (List.getElem?_eq_getElem h)
    exact ⟨xs, v, ext_t (e.trans R.sub) q, hv⟩
  · obtain ⟨rfl, y⟩ := y
    obtain ⟨v, hv, rv⟩ := r.get hd
    have e2 := (y xs (ext_t (e.trans R.sub) q)).symm.trans hv
    cases e2
    exact ⟨F', Ext.refl _, R, rv.mono e⟩
theorem di_tup {de : TED} (he : DE X e de) : DI X tg e (dIT de) := pi_w (pi_tup he) fun σ H R ⟨Z, F, M, ρ, RD, R0, h, o⟩ => by
  refine ⟨Z, F, M, ρ, _, R0, h, fun x a F1 H1 M1 e1 R1 r1 h1 => ?_⟩
  split at h1
  · cases r1 with
    | tup q r => exact ⟨_, rfl, ⟨_, ext_t R1.sub q⟩, o _ _ F1 H1 M1 e1 R1 (walk_tupD q r) h1⟩
  · exact h1.elim
/-- lo, lo + 1, .. -/
def rngD (lo : Int) (n : Nat) : List Dat := (List.range n).map fun k => Dat.int (lo + (k : Nat))
theorem rngD_at {lo : Int} {n i : Nat} {d : Dat} (h : (rngD lo n)[i]? = some d) : i < n ∧ d = .int (lo + (i : Nat)) := by
  unfold rngD at h
  rw [List.getElem?_map] at h
  cases q : (List.range n)[i]? with
  | none =>
    rw [q] at h
    cases h
  | some k =>
    rw [q] at h
    have h1 := List.getElem?_eq_some_iff.mp q
    obtain ⟨h2, h3⟩ := h1
    rw [List.length_range] at h2
    rw [List.getElem_range] at h3
    subst h3
    exact ⟨h2, (Option.some.inj h).symm⟩
theorem walk_rng {K : PySem.W.Frag} {F : Hp} {lo : Int} {n : Nat} : WalkD K F (Itr lo n) (rngD lo n) := by
  have hl : (rngD lo n).length = n := by
    unfold rngD
    rw [List.length_map, List.length_range]
  refine ⟨fun Z i F' H M e R h => by rw [hl] at h; exact h, fun Z F' H M e R => by rw [hl]; exact Nat.le_refl _, fun Z i F' H M x H' d e R y hd => ?_⟩
  obtain ⟨rfl, rfl⟩ := y
  obtain ⟨_, rfl⟩ := rngD_at hd
  exact ⟨F', Ext.refl _, R, .int _⟩
def dIR1 (dA : TAD) : TID := fun ρ M R => dA ρ M fun xs M1 => match xs with
  | [.int j] => -(2 ^ 62) ≤ j ∧ j < 2 ^ 62 ∧ R (rngD 0 j.toNat) M1
  | _ => False
def dIR2 (dA : TAD) : TID := fun ρ M R => dA ρ M fun xs M1 => match xs with
  | [.int i, .int j] => (-(2 ^ 62) ≤ i ∧ i < 2 ^ 62 ∧ -(2 ^ 62) ≤ j ∧ j < 2 ^ 62) ∧ R (rngD i (j - i).toNat) M1
  | _ => False
variable {a b : Expr} {dA : TAD} {p : Pos}
theorem di_rng1 (hm : X.mg "range" = none) (ha : DA X [a] dA) (hg : Gl X "range" := by rfl) (hs : starEach [a] X.env = [(false, eval a X.env)] := by rfl) : DI X tg (.Call (.Name "range" p) [a] [] pos) (dIR1 dA) := pi_w (pi_range1 hg hm ha hs) fun σ H R ⟨Z, F, M, ρ, RD, R0, h, o⟩ => by
  refine ⟨Z, F, M, ρ, _, R0, h, fun xs as F1 H1 M1 e1 R1 r1 h1 => ?_⟩
  split at h1
  · obtain ⟨v, ws, rfl, q1, r1⟩ := r1.uncons
    cases r1.unnil
    cases q1
    exact ⟨_, rfl, h1.1, h1.2.1, o _ _ F1 H1 M1 e1 R1 walk_rng h1.2.2⟩
  · exact h1.elim
theorem di_rng2 (hm : X.mg "range" = none) (ha : DA X [a, b] dA) (hg : Gl X "range" := by rfl) (hs : starEach [a, b] X.env = [(false, eval a X.env), (false, eval b X.env)] := by rfl) (hs2 : starEach [b] X.env = [(false, eval b X.env)] := by rfl) : DI X tg (.Call (.Name "range" p) [a, b] [] pos) (dIR2 dA) := pi_w (pi_range2 hg hm ha hs hs2) fun σ H R ⟨Z, F, M, ρ, RD, R0, h, o⟩ => by
  refine ⟨Z, F, M, ρ, _, R0, h, fun xs as F1 H1 M1 e1 R1 r1 h1 => ?_⟩
  split at h1
  · obtain ⟨v, ws, rfl, q1, r1⟩ := r1.uncons
    obtain ⟨v2, ws, rfl, q2, r1⟩ := r1.uncons
    cases r1.unnil
    cases q1
    cases q2
    exact ⟨_, _, rfl, h1.1, o _ _ F1 H1 M1 e1 R1 walk_rng h1.2⟩
  · exact h1.elim
/-- enumerate(xs), zip(xs, ys) -/
def enumD (ds : List Dat) : List Dat := (List.range ds.length).map fun k => .tup [.int (k : Nat), ds.getD k .non]
def zipD (ds es : List Dat) : List Dat := (ds.zip es).map fun q => .tup [q.1, q.2]
theorem enumD_at {ds : List Dat} {i : Nat} {d : Dat} (h : (enumD ds)[i]? = some d) : ∃ x, ds[i]? = some x ∧ d = .tup [.int (i : Nat), x] := by
  unfold enumD at h
  rw [List.getElem?_map] at h
  cases q : (List.range ds.length)[i]? with
  | none =>
    rw [q] at h
    cases h
  | some k =>
    rw [q] at h
    obtain ⟨h2, h3⟩ := List.getElem?_eq_some_iff.mp q
    rw [List.length_range] at h2
    rw [List.getElem_range] at h3
    subst h3
    refine ⟨ds[i], List.getElem?_eq_getElem h2, ?_⟩
    have e := (Option.some.inj h).symm
    rw [e]
    show Dat.tup [.int (i : Nat), ds.getD i .non] = _
    rw [List.getD_eq_getElem?_getD, List.getElem?_eq_getElem h2]
    rfl
theorem walk_enumD {K : PySem.W.Frag} {F : Hp} {p : Addr} {xs : List V} {ds : List Dat} (q : SqL K F p xs) (r : Reps K F xs ds) : WalkD K F (Ite K p) (enumD ds) := by
  have hl : (enumD ds).length = ds.length := by
    unfold enumD
    rw [List.length_map, List.length_range]
  refine ⟨fun Z i F' H M e R h => ?_, fun Z F' H M e R => ⟨xs, ext_l (e.trans R.sub) q, by rw [r.length, hl]; exact Nat.le_refl _⟩, fun Z i F' H M x H' d e R y hd => ?_⟩
  · rw [hl] at h
    obtain ⟨v, hv, _⟩ := r.get (List.getElem?_eq_getElem h)
    exact ⟨xs, v, ext_l (e.trans R.sub) q, hv⟩
  · obtain ⟨T, z, rfl, nT, rfl, y⟩ := y
    obtain ⟨d2, hd2, rfl⟩ := enumD_at hd
    obtain ⟨v, hv, rv⟩ := r.get hd2
    have e2 := (y xs (ext_l (e.trans R.sub) q)).symm.trans hv
    cases e2
    obtain ⟨R4, e4⟩ := R.newF (o := .tup _) nT
    exact ⟨_, e4, R4, .tup (SqT.of upd_same) (.two (.int _) (rv.mono (e.trans e4)))⟩
theorem zipD_at {ds es : List Dat} {i : Nat} {d : Dat} (h : (zipD ds es)[i]? = some d) : ∃ x y, ds[i]? = some x ∧ es[i]? = some y ∧ d = .tup [x, y] := by
  unfold zipD at h
  rw [List.getElem?_map] at h
  cases q : (ds.zip es)[i]? with
  | none =>
    rw [q] at h
    cases h
  | some k =>
    rw [q] at h
    obtain ⟨h1, h2⟩ := List.getElem?_zip_eq_some.mp q
    exact ⟨k.1, k.2, h1, h2, (Option.some.inj h).symm⟩
theorem walk_zipD {K : PySem.W.Frag} {F : Hp} {p p2 : Addr} {xs ys : List V} {ds es : List Dat} (q : SqL K F p xs) (r : Reps K F xs ds) (q2 : SqL K F p2 ys) (r2 : Reps K F ys es) : WalkD K F (Itz K p p2) (zipD ds es) := by
  have hl : (zipD ds es).length = min ds.length es.length := by
    unfold zipD
    rw [List.length_map, List.length_zip]
  refine ⟨fun Z i F' H M e R h => ?_, fun Z F' H M e R => ⟨xs, ys, ext_l (e.trans R.sub) q, ext_l (e.trans R.sub) q2, ?_⟩, fun Z i F' H M x H' d e R y hd => ?_⟩
  · rw [hl] at h
    obtain ⟨v, hv, _⟩ := r.get (List.getElem?_eq_getElem (show i < ds.length by omega))
    obtain ⟨v2, hv2, _⟩ := r2.get (List.getElem?_eq_getElem (show i < es.length by omega))
    exact ⟨xs, ys, v, v2, ext_l (e.trans R.sub) q, ext_l (e.trans R.sub) q2, hv, hv2⟩
  · rw [r.length, r2.length, hl]
    omega
  · obtain ⟨T, z, z2, rfl, nT, rfl, y, y2⟩ := y
    obtain ⟨d1, d2, hd1, hd2, rfl⟩ := zipD_at hd
    obtain ⟨v, hv, rv⟩ := r.get hd1
    obtain ⟨v2, hv2, rv2⟩ := r2.get hd2
    have e2 := (y xs (ext_l (e.trans R.sub) q)).symm.trans hv
    cases e2
    have e3 := (y2 ys (ext_l (e.trans R.sub) q2)).symm.trans hv2
    cases e3
    obtain ⟨R4, e4⟩ := R.newF (o := .tup _) nT
    exact ⟨_, e4, R4, .tup (SqT.of upd_same) (.two (rv.mono (e.trans e4)) (rv2.mono (e.trans e4)))⟩
def dIE (dA : TAD) : TID := fun ρ M R => dA ρ M fun xs M1 => match xs with
  | [x] => ∃ ds, lsF x = some ds ∧ R (enumD ds) M1
  | _ => False
def dIZ (dA : TAD) : TID := fun ρ M R => dA ρ M fun xs M1 => match xs with
  | [x, y] => ∃ ds es, lsF x = some ds ∧ lsF y = some es ∧ R (zipD ds es) M1
  | _ => False
variable {elts : List Expr} {kk : Nat} {tpos : Pos}
theorem di_enum (hm : X.mg "enumerate" = none) (ha : DA X [a] dA) (hg : Gl X "enumerate" := by rfl) (hs : starEach [a] X.env = [(false, eval a X.env)] := by rfl) : DI X (.Tuple elts kk tpos) (.Call (.Name "enumerate" p) [a] [] pos) (dIE dA) := pi_w (pi_enum hg hm ha hs) fun σ H R ⟨Z, F, M, ρ, RD, R0, h, o⟩ => by
  refine ⟨Z, F, M, ρ, _, R0, h, fun xs as F1 H1 M1 e1 R1 r1 h1 => ?_⟩
  split at h1
  · obtain ⟨v, ws, rfl, q1, r1⟩ := r1.uncons
    cases r1.unnil
    obtain ⟨ds, h2, h3⟩ := h1
    obtain ⟨p, xs, rfl, q, r⟩ := lsF_rep q1 h2
    exact ⟨p, xs, rfl, ext_l R1.sub q, o _ _ F1 H1 M1 e1 R1 (walk_enumD q r) h3⟩
  · exact h1.elim
theorem di_zip (hm : X.mg "zip" = none) (ha : DA X [a, b] dA) (hg : Gl X "zip" := by rfl) (hs : starEach [a, b] X.env = (false, eval a X.env) :: starEach [b] X.env := by rfl) (hpl : (backTo pos (starEach [b] X.env)).any (·.1) = false := by rfl) : DI X (.Tuple elts kk tpos) (.Call (.Name "zip" p) [a, b] [] pos) (dIZ dA) := pi_w (pi_zip hg hm ha hs hpl) fun σ H R ⟨Z, F, M, ρ, RD, R0, h, o⟩ => by
  refine ⟨Z, F, M, ρ, _, R0, h, fun xs as F1 H1 M1 e1 R1 r1 h1 => ?_⟩
  split at h1
  · obtain ⟨v, ws, rfl, q1, r1⟩ := r1.uncons
    obtain ⟨v2, ws, rfl, q2, r1⟩ := r1.uncons
    cases r1.unnil
    obtain ⟨ds, es, h2, h4, h3⟩ := h1
    obtain ⟨p, xs, rfl, q, r⟩ := lsF_rep q1 h2
    obtain ⟨p2, ys, rfl, q3, r3⟩ := lsF_rep q2 h4
    exact ⟨p, p2, xs, ys, rfl, ext_l R1.sub q, ext_l R1.sub q3, o _ _ F1 H1 M1 e1 R1 (walk_zipD q r q3 r3) h3⟩
  · exact h1.elim
end
/-! ### comprehensions -/
section
variable {X : Cx}
def wipeD (ρ : EnvD) : List Nat → EnvD
  | [] => ρ
  | v :: vs => setD (wipeD ρ vs) v none
theorem wipeD_rep {K : PySem.W.Frag} {F : Hp} {σ : L2.St} {ρ : EnvD} (r : RelE K F σ ρ) : ∀ vs, RelE K F (wipe σ vs) (wipeD ρ vs)
  | [] => r
  | v :: vs => by
    unfold wipe wipeD
    rw [setD_set]
    exact (wipeD_rep r vs).unset v
abbrev DTs (X : Cx) (ifs : List Expr) (d : TTD) : Prop := PTs X ifs (upT X.K d)
theorem pts_w {ifs : List Expr} {t u : TT} (h : PTs X ifs t) (w : ∀ σ H Q, u σ H Q → t σ H Q) : PTs X ifs u := ⟨fun pins s σ H Q I q => h.run pins s σ H Q I (w σ H Q q)⟩
def dYes : TTD := fun _ M Q => Q true M
theorem dts_nil : DTs X [] dYes := pts_w pts_nil fun σ H Q ⟨Z, F, M, ρ, QD, R, h, o⟩ => o true F H M (Ext.refl F) R.m h
theorem dts_one {c : Expr} {t : TTD} (h : DT X c t) : DTs X [c] t := pts_one h
def lcGo (g : TGD) (tt : TTD) (te : TED) (ρ : EnvD) (mk : Bool) (Q : VKD) : List Dat → List Dat → MH → Prop
  | [], acc, M => newL mk acc M Q
  | x :: r, acc, M => g x ρ M fun ρ2 M2 => tt ρ2 M2 fun b M3 => if b = true then te ρ2 M3 fun y M4 => lcGo g tt te ρ mk Q r (acc ++ [y]) M4 else lcGo g tt te ρ mk Q r acc M3
def dLc (mk : Bool) (vs : List Nat) (di : TID) (g : TGD) (tt : TTD) (te : TED) : TED := fun ρ M Q => di ρ M fun ds M1 => ds.length ≤ sizeLine ∧ lcGo g tt te (wipeD ρ vs) mk Q ds [] M1
theorem up_lc {K : PySem.W.Frag} {mk : Bool} {vs : List Nat} {di : TID} {g : TGD} {tt : TTD} {te : TED} {σ : L2.St} {H : Hp} {Q : VK} (h : up K (dLc mk vs di g tt te) σ H Q) : tLc (upI K di) (upGo K vs g) (upT K tt) (up K te) vs σ H Q := by
  obtain ⟨Z, F, M, ρ, QD, R, h, o⟩ := h
  refine ⟨Z, F, M, ρ, _, R, h, fun ds J F1 H1 M1 e1 R1 w1 h1 => ?_⟩
  obtain ⟨hz, h1⟩ := h1
  intro D hD
  have hidD : ∀ {F : Hp} {H : Hp} {M : MH} {accv : List V}, RelM K (upd Z D (.lst accv)) F H M → H D = some (.lst accv) ∧ F D = none ∧ M D = none := fun R => R.hid D _ upd_same
  -- the hidden list, put away and taken up
  have hide : ∀ {F H : Hp} {M : MH} {accv : List V}, RelM K Z F H M → H D = some (.lst accv) → F D = none → M D = none → RelM K (upd Z D (.lst accv)) F H M := fun {F H M accv} R hH hF hM =>
    ⟨R.sub, fun b u q => by
      by_cases hb : b = D
      · subst hb
        rw [upd_same] at q
        cases q
        exact ⟨hH, hF, hM⟩
      · rw [upd_ne hb] at q
        exact R.hid b u q, R.chg⟩
  have hZD : Z D = none := by
    cases q : Z D with
    | none => rfl
    | some u =>
      rw [(R1.hid D u q).1] at hD
      cases hD
  have bare : ∀ {F H : Hp} {M : MH} {accv : List V}, RelM K (upd Z D (.lst accv)) F H M → RelM K Z F H M := fun {F H M accv} R =>
    ⟨R.sub, fun b u q => R.hid b u (by rw [upd_ne (ne_of_none q hZD)]; exact q), R.chg⟩
  refine ⟨fun i m H => m = ds.length - i ∧ i ≤ ds.length ∧ ∃ F' M accv acc, Ext F1 F' ∧ RelM K Z F' H M ∧ H D = some (.lst accv) ∧ F' D = none ∧ M D = none ∧ Reps K F' accv acc ∧ acc.length ≤ i ∧ lcGo g tt te (wipeD ρ vs) mk QD (ds.drop i) acc M,
    ⟨ds.length, by simp, Nat.zero_le _, F1, M1, [], [], Ext.refl _, ⟨fun b u q => ?_, fun b u q => ?_, fun b m q => ?_⟩, upd_same, (R1.fresh hD).1, (R1.fresh hD).2, .nil, Nat.le_refl _, h1⟩, ?_⟩
  · rw [upd_ne (ne_of_none (R1.sub b u q) hD)]
    exact R1.sub b u q
  · obtain ⟨q1, q2, q3⟩ := R1.hid b u q
    exact ⟨by rw [upd_ne (ne_of_none q1 hD)]; exact q1, q2, q3⟩
  · obtain ⟨q1, q2⟩ := R1.chg b m q
    exact ⟨q1, q2.mono (Ext.refl _) (upd_ne (R1.ne hD q))⟩
  rintro i m H2 ⟨rfl, hi, F2, M2, accv, acc, e2, R2, a1, a2, a3, a4, a5, h2⟩
  by_cases hlt : i < ds.length
  · obtain ⟨d, hd⟩ : ∃ d, ds[i]? = some d := ⟨ds[i], List.getElem?_eq_getElem hlt⟩
    have hdr : ds.drop i = d :: ds.drop (i + 1) := by
      obtain ⟨h5, h6⟩ := List.getElem?_eq_some_iff.mp hd
      rw [List.drop_eq_getElem_cons h5, h6]
    rw [hdr] at h2
    unfold lcGo at h2
    refine .inr ⟨w1.go Z i F2 H2 M2 e2 R2 hlt, fun H' => ∃ F' M accv acc, Ext F1 F' ∧ RelM K Z F' H' M ∧ H' D = some (.lst accv) ∧ F' D = none ∧ M D = none ∧ Reps K F' accv acc ∧ acc.length ≤ i + 1 ∧ lcGo g tt te (wipeD ρ vs) mk QD (ds.drop (i + 1)) acc M,
      fun H' n => ⟨ds.length - (i + 1), by omega, rfl, hlt, n⟩, fun x H' y => ?_⟩
    have R2h := hide R2 a1 a2 a3
    · obtain ⟨F3, e3, R3, r3⟩ := w1.yld (upd Z D (.lst accv)) i F2 H2 M2 x H' d e2 R2h y hd
      have R0 : Rel K (upd Z D (.lst accv)) F3 H' M2 (wipe σ vs) (wipeD ρ vs) := ⟨R3, (wipeD_rep R.e vs).mono ((e1.trans e2).trans e3)⟩
      refine ⟨upd Z D (.lst accv), F3, M2, wipeD ρ vs, d, _, R0, r3, h2, fun σ4 ρ4 F4 H4 M4 e4 R4 wp h4 => ⟨wp.trans wipe_wipe, ?_⟩⟩
      refine ⟨upd Z D (.lst accv), F4, M4, ρ4, _, R4, h4, fun b F5 H5 M5 e5 R5 h5 => ?_⟩
      have e15 := ((e2.trans e3).trans e4).trans e5
      cases b with
      | true =>
        dsimp only at h5 ⊢
        rw [if_pos rfl] at h5 ⊢
        refine ⟨upd Z D (.lst accv), F5, M5, ρ4, _, R4.ext e5 R5, h5, fun yv yd F6 H6 M6 e6 R6 r6 h6 => ?_⟩
        obtain ⟨b1, b2, b3⟩ := hidD R6
        refine ⟨accv, b1, by have := a4.length; omega, F6, M6, accv ++ [yv], acc ++ [yd], e15.trans e6, ⟨fun b u q => ?_, fun b u q => ?_, fun b m q => ?_⟩, upd_same, b2, b3, (a4.mono (((e3.trans e4).trans e5).trans e6)).app (.one r6), by rw [List.length_append, List.length_singleton]; omega, h6⟩
        · rw [upd_ne (ne_of_none q b2)]
          exact R6.sub b u q
        · obtain ⟨q1, q2, q3⟩ := (bare R6).hid b u q
          exact ⟨by rw [upd_ne (ne_of_none q hZD)]; exact q1, q2, q3⟩
        · obtain ⟨q1, q2⟩ := R6.chg b m q
          exact ⟨q1, q2.mono (Ext.refl _) (upd_ne (ne_dom q b3))⟩
      | false =>
        dsimp only at h5 ⊢
        rw [if_neg Bool.false_ne_true] at h5 ⊢
        obtain ⟨b1, b2, b3⟩ := hidD R5
        exact ⟨F5, M5, accv, acc, e15, bare R5, b1, b2, b3, a4.mono ((e3.trans e4).trans e5), by omega, h5⟩
  · have e : i = ds.length := by omega
    subst e
    rw [List.drop_length] at h2
    unfold lcGo at h2
    refine .inl ⟨w1.stop Z F2 H2 M2 e2 R2, ?_⟩
    cases mk with
    | false =>
      have h2' : QD (.lst acc) M2 := h2
      have ee := Ext.new (o := .lst accv) a2
      refine o _ _ (upd F2 D (.lst accv)) H2 M2 ((e1.trans e2).trans ee) ⟨fun b u q => ?_, fun b u q => ?_, fun b m q => ?_⟩ (.lst upd_same (a4.mono ee)) h2'
      · by_cases hb : b = D
        · subst hb
          rw [upd_same] at q
          cases q
          exact a1
        · rw [upd_ne hb] at q
          exact R2.sub b u q
      · obtain ⟨q1, q2, q3⟩ := R2.hid b u q
        exact ⟨q1, by rw [upd_ne (ne_of_none q hZD)]; exact q2, q3⟩
      · obtain ⟨q1, q2⟩ := R2.chg b m q
        exact ⟨by rw [upd_ne (ne_dom q a3)]; exact q1, q2.mono ee rfl⟩
    | true =>
      have h2' := (show ∀ a, M2 a = none → QD (.ref a) (updM M2 a (.lst acc)) from h2) D a3
      refine o _ _ F2 H2 (updM M2 D (.lst acc)) (e1.trans e2) ⟨R2.sub, fun b u q => ?_, fun b m q => ?_⟩ (.ref D) h2'
      · obtain ⟨q1, q2, q3⟩ := R2.hid b u q
        exact ⟨q1, q2, by rw [updM_ne (ne_of_none q hZD)]; exact q3⟩
      · by_cases hb : b = D
        · subst hb
          rw [updM_same] at q
          cases q
          exact ⟨a2, accv, a1, a4⟩
        · rw [updM_ne hb] at q
          exact R2.chg b m q
end
end DL
namespace DL
open PySem PySem.Spec PyProof.Rows L2
section
variable {X : Cx}
/-- [elt for target in iter if ..] -/
theorem de_lc (mk : Bool) {elt tg iter : Expr} {ifs : List Expr} {scope : Scope} {own : List (Str × Nat)} {pos : Pos} {di : TID} {g : TGD} {tt : TTD} {te : TED} (hN : X.N.Nodup) (hi : DI X tg iter di) (ok : BlkOk X.N X.env.scope scope own)
    (hg : ∀ (s : Shared) (H : Hp) (C : Addr) (cl : List (Str × Addr)) (fp : List Addr), DGo (X.blk s H scope (compEnvC scope cl C X.env) fp) tg (own.map (·.2)) g) (ht : ∀ (s : Shared) (H : Hp) (C : Addr) (cl : List (Str × Addr)) (fp : List Addr), DTs (X.blk s H scope (compEnvC scope cl C X.env) fp) ifs tt)
    (he : ∀ (s : Shared) (H : Hp) (C : Addr) (cl : List (Str × Addr)) (fp : List Addr), DE (X.blk s H scope (compEnvC scope cl C X.env) fp) elt te) (hc : X.calm = true := by rfl) (hs : ∀ x, foldedSetIterable iter X.env x = pure x := by intro _; rfl) :
    DE X (.ListComp elt [⟨tg, iter, ifs, 0⟩] scope pos) (dLc mk (own.map (·.2)) di g tt te) := pe_w (pe_lc hc hN hi ok hg ht he hs) fun σ H Q h => up_lc h
theorem ds_setLc {i : Nat} (mk : Bool) {y : Str} {py : Pos} {elt tg iter : Expr} {ifs : List Expr} {scope : Scope} {own : List (Str × Nat)} {pos spos : Pos} {di : TID} {g : TGD} {tt : TTD} {te : TED} (hN : X.N.Nodup) (hi : DI X tg iter di) (ok : BlkOk X.N X.env.scope scope own)
    (hg : ∀ (s : Shared) (H : Hp) (C : Addr) (cl : List (Str × Addr)) (fp : List Addr), DGo (X.blk s H scope (compEnvC scope cl C X.env) fp) tg (own.map (·.2)) g) (ht : ∀ (s : Shared) (H : Hp) (C : Addr) (cl : List (Str × Addr)) (fp : List Addr), DTs (X.blk s H scope (compEnvC scope cl C X.env) fp) ifs tt)
    (he : ∀ (s : Shared) (H : Hp) (C : Addr) (cl : List (Str × Addr)) (fp : List Addr), DE (X.blk s H scope (compEnvC scope cl C X.env) fp) elt te) (hy : X.N[i]? = some y := by rfl) (hyl : X.env.scope.names.lookup y = some .local := by rfl)
    (hsw : swapsWith (.ListComp elt [⟨tg, iter, ifs, 0⟩] scope pos) (some (.Name y py)) spos.line X.env = pure true := by exact sw_true rfl rfl rfl (by decide +kernel)) (hc : X.calm = true := by rfl) (hs : ∀ x, foldedSetIterable iter X.env x = pure x := by intro _; rfl) :
    DS X (.Assign [.Name y py] (.ListComp elt [⟨tg, iter, ifs, 0⟩] scope pos) spos) (dAsg (dLc mk (own.map (·.2)) di g tt te) (dgN i)) := ps_w (ps_setLc hc hN hy hyl hsw hi ok hg ht he hs) fun D σ H ⟨Z, F, M, ρ, DD, R, h, o⟩ => by
  refine up_lc (Q := fun x H1 => gName i x σ H1 D.nx) ⟨Z, F, M, ρ, _, R, h, fun v d F1 H1 M1 e1 R1 r1 h1 => ?_⟩
  refine o.nx _ _ _ _ _ e1 ⟨R1, ?_⟩ h1
  rw [setD_set]
  exact (R.e.mono e1).set r1 i
def dDic0 : TED := fun _ M Q => Q (.dic []) M
theorem de_dic0 {pos : Pos} : DE X (.Dict [] [] pos) dDic0 := pe_w pe_dnewK fun σ H Q ⟨Z, F, M, ρ, QD, R, h, o⟩ => by
  intro p hp
  obtain ⟨R2, e2⟩ := R.m.newF (o := .dK []) hp
  exact o _ _ _ _ M e2 R2 (.dic upd_same .nil) h
end
theorem same_fun {K : PySem.W.Frag} {x x2 q q2 : Str} {st st2 : Stmt} {f : Addr} {fd fd2 : FuncData} (F : Fun K x q st f fd) (G : Fun K x2 q2 st2 f fd2) : fd = fd2 := by
  obtain ⟨oc, od, kV, doc, pm, an, cdv, ct, osl, e, lk, hcd⟩ := F.ex
  obtain ⟨oc2, od2, kV2, doc2, pm2, an2, cdv2, ct2, osl2, e2, lk2, hcd2⟩ := G.ex
  rw [lk] at lk2
  have h := Option.some.inj lk2
  injection h with _ _ h3 _
  injection h3
/-- the law's def: a list of ints, True -/
def spLaw : SpD := fun ds M Q => ∃ ns : List Int, ds = [.frl (ns.map Dat.int)] ∧ ns.length ≤ 63 ∧ ∀ M', Q (.bl true) M'
theorem law_in {K : PySem.W.Frag} {H : Hp} {a : Addr} {ns : List Int} (hl : ns.length ≤ 63) (hS : SqL K H a (ns.map V.int)) : toSp K spLaw [.ref a] H (fun v _ => v = .bl true) (fun _ _ _ => False) := by
  refine ⟨fun _ => none, H, fun _ => none, [.frl (ns.map Dat.int)], fun d _ => d = .bl true, ⟨Ext.refl H, fun _ _ h => (by cases h), fun _ _ h => (by cases h)⟩, .one (.frl hS (reps_ints ns)), ⟨ns, rfl, hl, fun _ => rfl⟩, ?_⟩
  intro v d F' H' M' _ _ r h
  subst h
  exact r.toBl
end DL
namespace DL
open PySem PySem.Spec PyProof.Rows L2
theorem endD_of {Q : VKD} {d : Dat} {M : MH} (h : Q d M) : endD Q d M := ⟨M, LeM.refl M, h⟩
theorem endD_le {Q : VKD} {d : Dat} {M M0 : MH} (l : LeM M0 M) (h : Q d M0) : endD Q d M := ⟨M0, l, h⟩
/-! ### loops by what holds before each round -/
theorem loop_by {g : TGD} {tb : TSD} {D : EndsD} (I : List Dat → EnvD → MH → Prop) (hend : ∀ ρ M, I [] ρ M → D.nx ρ M)
    (step : ∀ d r ρ M (k : EnvD → MH → Prop), I (d :: r) ρ M → (∀ ρ M, I r ρ M → k ρ M) → g d ρ M fun ρ' M' => tb { D with nx := k, ct := k, bk := D.nx } ρ' M') : ∀ ds ρ M, I ds ρ M → dLoop g tb ds D ρ M
  | [], ρ, M, h => hend ρ M h
  | d :: r, ρ, M, h => step d r ρ M _ h fun ρ M h => loop_by I hend step r ρ M h
theorem lc_by {g : TGD} {tt : TTD} {te : TED} {ρ : EnvD} {mk : Bool} {Q : VKD} (I : List Dat → List Dat → MH → Prop) (hend : ∀ acc M, I [] acc M → newL mk acc M Q)
    (step : ∀ x r acc M (k : List Dat → MH → Prop), I (x :: r) acc M → (∀ acc M, I r acc M → k acc M) → g x ρ M fun ρ2 M2 => tt ρ2 M2 fun b M3 => if b = true then te ρ2 M3 fun y M4 => k (acc ++ [y]) M4 else k acc M3) : ∀ ds acc M, I ds acc M → lcGo g tt te ρ mk Q ds acc M
  | [], acc, M, h => hend acc M h
  | x :: r, acc, M, h => step x r acc M (fun acc M => lcGo g tt te ρ mk Q r acc M) h fun acc M h => lc_by I hend step r acc M h
/-- .. where only the round's number counts -/
theorem loop_n {g : TGD} {tb : TSD} {D : EndsD} {lo : Int} {n : Nat} {ρ : EnvD} {M : MH} (I : Nat → EnvD → MH → Prop) (h0 : I 0 ρ M) (hend : ∀ ρ M, I n ρ M → D.nx ρ M)
    (step : ∀ i ρ M (k : EnvD → MH → Prop), i < n → I i ρ M → (∀ ρ M, I (i + 1) ρ M → k ρ M) → g (.int (lo + (i : Nat))) ρ M fun ρ' M' => tb { D with nx := k, ct := k, bk := D.nx } ρ' M') : dLoop g tb (rngD lo n) D ρ M := by
  refine loop_by (fun r ρ M => ∃ i, r = (rngD lo n).drop i ∧ i ≤ n ∧ I i ρ M) ?_ ?_ _ _ _ ⟨0, rfl, Nat.zero_le _, h0⟩
  · rintro ρ M ⟨i, hr, hi, h⟩
    have : i = n := by
      have := congrArg List.length hr
      rw [List.length_drop] at this
      unfold rngD at this
      rw [List.length_map, List.length_range, List.length_nil] at this
      omega
    subst this
    exact hend ρ M h
  · rintro d r ρ M k ⟨i, hr, hi, h⟩ hk
    have hl : (rngD lo n).length = n := by unfold rngD; rw [List.length_map, List.length_range]
    have hlt : i < n := by
      rcases Nat.lt_or_ge i n with h | h
      · exact h
      · rw [List.drop_eq_nil_of_le (by omega)] at hr
        cases hr
    have hd : (rngD lo n).drop i = .int (lo + (i : Nat)) :: (rngD lo n).drop (i + 1) := by
      rw [List.drop_eq_getElem_cons (by omega)]
      congr 1
      unfold rngD
      rw [List.getElem_map, List.getElem_range]
    rw [hd] at hr
    injection hr with h1 h2
    subst h1
    exact step i ρ M k hlt h fun ρ M q => hk ρ M ⟨i + 1, h2, by omega, q⟩
theorem lc_n {g : TGD} {tt : TTD} {te : TED} {ρ : EnvD} {mk : Bool} {Q : VKD} {lo : Int} {n : Nat} {M : MH} (I : Nat → List Dat → MH → Prop) (h0 : I 0 [] M) (hend : ∀ acc M, I n acc M → newL mk acc M Q)
    (step : ∀ i acc M (k : List Dat → MH → Prop), i < n → I i acc M → (∀ acc M, I (i + 1) acc M → k acc M) → g (.int (lo + (i : Nat))) ρ M fun ρ2 M2 => tt ρ2 M2 fun b M3 => if b = true then te ρ2 M3 fun y M4 => k (acc ++ [y]) M4 else k acc M3) : lcGo g tt te ρ mk Q (rngD lo n) [] M := by
  refine lc_by (fun r acc M => ∃ i, r = (rngD lo n).drop i ∧ i ≤ n ∧ I i acc M) ?_ ?_ _ _ _ ⟨0, rfl, Nat.zero_le _, h0⟩
  · rintro acc M ⟨i, hr, hi, h⟩
    have : i = n := by
      have := congrArg List.length hr
      rw [List.length_drop] at this
      unfold rngD at this
      rw [List.length_map, List.length_range, List.length_nil] at this
      omega
    subst this
    exact hend acc M h
  · rintro d r acc M k ⟨i, hr, hi, h⟩ hk
    have hl : (rngD lo n).length = n := by unfold rngD; rw [List.length_map, List.length_range]
    have hlt : i < n := by
      rcases Nat.lt_or_ge i n with h | h
      · exact h
      · rw [List.drop_eq_nil_of_le (by omega)] at hr
        cases hr
    have hd : (rngD lo n).drop i = .int (lo + (i : Nat)) :: (rngD lo n).drop (i + 1) := by
      rw [List.drop_eq_getElem_cons (by omega)]
      congr 1
      unfold rngD
      rw [List.getElem_map, List.getElem_range]
    rw [hd] at hr
    injection hr with h1 h2
    subst h1
    exact step i acc M k hlt h fun acc M q => hk acc M ⟨i + 1, h2, by omega, q⟩
/-! ### the numbers -/
theorem fdivP {i j : Int} (h : 0 < j) : i.fdiv j = i / j := Int.fdiv_eq_ediv_of_nonneg i (by omega)
theorem fmodP {i j : Int} (h : 0 < j) : i.fmod j = i % j := Int.fmod_eq_emod_of_nonneg i (by omega)
theorem mulOk_l {a b : Int} (h : a.natAbs < 2 ^ 64) : IntMulOk a b := IntMulOk.of_left (PyProof.Rows.intBits_le h)
theorem mulOk_r {a b : Int} (h : b.natAbs < 2 ^ 64) : IntMulOk a b := IntMulOk.of_right (PyProof.Rows.intBits_le h)
theorem mulOk_b {a b : Int} {m n : Nat} (ha : a.natAbs < 2 ^ m) (hb : b.natAbs < 2 ^ n) (hm : m ≤ 2 ^ 20) (hn : n ≤ 2 ^ 20) : IntMulOk a b :=
  IntMulOk.of_bits (Nat.le_trans (PyProof.Rows.intBits_le ha) hm) (Nat.le_trans (PyProof.Rows.intBits_le hb) hn)
theorem divOk_b {i j : Int} (h0 : 0 < j) (h : j < 2 ^ 9000) : DivOk i j := by
  refine ⟨by omega, PyProof.noPylong_of_log2 ?_⟩
  rw [Nat.log2_lt (by omega)]
  omega
theorem shlOk {i : Int} {j : Nat} (h : i.natAbs < 2 ^ 64) (hn : j ≤ 100000000) : CShl i (j : Int) := shl_ok (n := 64) h (by omega)
theorem shl1 {j : Int} (h0 : 0 ≤ j) (h : j ≤ 100000000) : CShl 1 j := by
  obtain ⟨n, rfl⟩ := Int.eq_ofNat_of_zero_le h0
  exact shlOk (by decide) (by omega)
theorem bits_lt {i : Int} {n : Nat} (h : i.natAbs < 2 ^ n) : Builtin.Int.intBits i ≤ n := PyProof.Rows.intBits_le h
/-! ### isinstance -/
def isIntD : Dat → Bool
  | .int _ => true
  | _ => false
theorem isI_int {x : Dat} : (if isiR x (.ty .int) = true then !isiR x (.ty .bool) else false) = isIntD x := by
  cases x <;> rfl
theorem cd_isiK {X : Cx} (K : PySem.W.Frag) (h : X.K = K) : CallD X (.builtin "isinstance") (rIsiD K) := by
  subst h
  exact cd_isi
/-! ### a condition, a value, by what it is -/
section
variable {X : Cx} {e : Expr}
def dtCut (t : TTD) : TTD := fun ρ M Q => ∃ B : Bool → MH → Prop, t ρ M B ∧ ∀ b M', B b M' → Q b M'
def deCut (t : TED) : TED := fun ρ M Q => ∃ B : VKD, t ρ M B ∧ ∀ d M', B d M' → Q d M'
theorem dt_cut {t : TTD} (h : DT X e t) : DT X e (dtCut t) := pt_w h fun σ H Q ⟨Z, F, M, ρ, QD, R, ⟨B, h, k⟩, o⟩ =>
  ⟨Z, F, M, ρ, B, R, h, fun b F1 H1 M1 e1 R1 h1 => o b F1 H1 M1 e1 R1 (k b M1 h1)⟩
theorem de_cut {t : TED} (h : DE X e t) : DE X e (deCut t) := pe_w h fun σ H Q ⟨Z, F, M, ρ, QD, R, ⟨B, h, k⟩, o⟩ =>
  ⟨Z, F, M, ρ, B, R, h, fun v d F1 H1 M1 e1 R1 r h1 => o v d F1 H1 M1 e1 R1 r (k d M1 h1)⟩
theorem cut_is {t : TTD} {ρ : EnvD} {M : MH} {Q : Bool → MH → Prop} (v : Bool) (h : t ρ M fun b M1 => b = v ∧ M1 = M) (q : Q v M) : dtCut t ρ M Q := ⟨_, h, by
  rintro _ _ ⟨rfl, rfl⟩
  exact q⟩
theorem cutE_is {t : TED} {ρ : EnvD} {M : MH} {Q : VKD} (v : Dat) (h : t ρ M fun b M1 => b = v ∧ M1 = M) (q : Q v M) : deCut t ρ M Q := ⟨_, h, by
  rintro _ _ ⟨rfl, rfl⟩
  exact q⟩
end
/-! ### the readings, each as a row to rewrite by -/
section
variable {ρ : EnvD} {M : MH} {Q : VKD} {i j : Int} {x y : Dat} {s t : Str} {a b : Bool} {mk : Bool} {xs ys : List Dat}
def asBl (x : Dat) (k : Bool → Prop) : Prop := match x with
  | .bl b => k b
  | _ => False
theorem asBl_bl {k : Bool → Prop} : asBl (.bl b) k = k b := rfl
def asInt (x : Dat) (k : Int → Prop) : Prop := match x with
  | .int b => k b
  | _ => False
theorem asInt_int {k : Int → Prop} : asInt (.int i) k = k i := rfl
def asTup (x : Dat) (k : List Dat → Prop) : Prop := match x with
  | .tup b => k b
  | _ => False
theorem asTup_tup {k : List Dat → Prop} : asTup (.tup xs) k = k xs := rfl
theorem w_test {d : TED} {Q : Bool → MH → Prop} : dTest d ρ M Q = d ρ M fun x M1 => asBl x fun b => Q b M1 := rfl
theorem w_chain {r r' : R2D} {da db dc : TED} : dChain r r' da db dc ρ M Q = da ρ M fun x M1 => db ρ M1 fun y M2 => r x y M2 fun z M3 => asBl z fun k => if k = true then dc ρ M3 fun w M4 => r' y w M4 Q else Q (.bl false) M3 := rfl
theorem w_andV {da db : TED} : dAndV da db ρ M Q = da ρ M fun x M1 => asBl x fun k => if k = true then db ρ M1 Q else Q (.bl false) M1 := rfl
theorem w_orV {da db : TED} : dOrV da db ρ M Q = da ρ M fun x M1 => asBl x fun k => if k = true then Q (.bl true) M1 else db ρ M1 Q := rfl
theorem w_notV {da : TED} : dNotV da ρ M Q = da ρ M fun x M1 => asBl x fun k => Q (.bl (!k)) M1 := rfl
theorem w_neg : dNeg x M Q = asInt x fun i => Q (.int (-i)) M := rfl
theorem w_sub : rSub (.int i) (.int j) M Q = Q (.int (i - j)) M := rfl
theorem w_div : rDiv (.int i) (.int j) M Q = (DivOk i j ∧ Q (.int (i.fdiv j)) M) := rfl
theorem w_mod : rMod (.int i) (.int j) M Q = (j ≠ 0 ∧ Q (.int (i.fmod j)) M) := rfl
theorem w_pow : rPow (.int i) (.int j) M Q = (PowOk i j ∧ Q (.int (i ^ j.toNat)) M) := rfl
theorem w_shl : rShl (.int i) (.int j) M Q = (CShl i j ∧ Q (.int (i * 2 ^ j.toNat)) M) := rfl
theorem w_shr : rShr (.int i) (.int j) M Q = (0 ≤ j ∧ Q (.int (i / 2 ^ j.toNat)) M) := rfl
theorem w_and : rAnd (.int i) (.int j) M Q = Q (.int (Builtin.bitAnd i j)) M := rfl
theorem w_or : rOr (.int i) (.int j) M Q = Q (.int (Builtin.bitOr i j)) M := rfl
theorem w_xor : rXor (.int i) (.int j) M Q = Q (.int (Builtin.bitXor i j)) M := rfl
theorem w_lt : rLt (.int i) (.int j) M Q = Q (.bl (decide (i < j))) M := rfl
theorem w_le : rLe (.int i) (.int j) M Q = Q (.bl (decide (i ≤ j))) M := rfl
theorem w_gt : rGt (.int i) (.int j) M Q = Q (.bl (decide (j < i))) M := rfl
theorem w_ge : rGe (.int i) (.int j) M Q = Q (.bl (decide (j ≤ i))) M := rfl
theorem w_add : rAdd mk (.int i) (.int j) M Q = Q (.int (i + j)) M := rfl
theorem w_addS : rAdd mk (.str s) (.str t) M Q = (s.length + t.length ≤ sizeLine ∧ Q (.str (s ++ t)) M) := rfl
theorem w_addT : rAdd mk (.tup xs) (.tup ys) M Q = (xs ≠ [] ∧ ys ≠ [] ∧ xs.length + ys.length ≤ sizeLine ∧ Q (.tup (xs ++ ys)) M) := rfl
theorem w_addL : rAdd mk (.lst xs) y M Q = ∃ i j, lsT M (.lst xs) = some i ∧ lsT M y = some j ∧ i.length + j.length ≤ sizeLine ∧ newL mk (i ++ j) M Q := rfl
theorem w_addF : rAdd mk (.frl xs) y M Q = ∃ i j, lsT M (.frl xs) = some i ∧ lsT M y = some j ∧ i.length + j.length ≤ sizeLine ∧ newL mk (i ++ j) M Q := rfl
theorem w_addR {a : Addr} : rAdd mk (.ref a) y M Q = ∃ i j, lsT M (.ref a) = some i ∧ lsT M y = some j ∧ i.length + j.length ≤ sizeLine ∧ newL mk (i ++ j) M Q := rfl
theorem w_mul : rMul mk (.int i) (.int j) M Q = (IntMulOk i j ∧ Q (.int (i * j)) M) := rfl
theorem w_mulL : rMul mk (.lst xs) y M Q = ∃ ds k, lsT M (.lst xs) = some ds ∧ y = .int k ∧ -(2 ^ 63) ≤ k ∧ k < 2 ^ 63 ∧ ds.length * k.toNat ≤ sizeLine ∧ newL mk (List.replicate k.toNat ds).flatten M Q := rfl
theorem w_eq : rEqD (.int i) (.int j) M Q = Q (.bl (decide (i = j))) M := rfl
theorem w_ne : rNeD (.int i) (.int j) M Q = Q (.bl (!decide (i = j))) M := rfl
/-- .. of two other data -/
theorem eqv_comm1 {i : Int} (h : shp 64 y = true) (hy : ∀ j, y ≠ .int j) (q : Q (.bl (eqD (.int i) y)) M) (hd : deref M y = y) : rEqD (.int i) y M Q := by
  cases y with
  | int j => exact absurd rfl (hy j)
  | _ => exact ⟨by rw [hd]; exact h, by rw [hd]; exact q⟩
theorem w_isN : rIs x .non M Q = Q (.bl (isN x)) M := rfl
theorem w_isB : rIs (.bl a) (.bl b) M Q = Q (.bl (decide (a = b))) M := rfl
theorem w_isntN : rIsNot x .non M Q = Q (.bl (!isN x)) M := rfl
theorem w_isntB : rIsNot (.bl a) (.bl b) M Q = Q (.bl (!decide (a = b))) M := rfl
theorem w_ix : rIxD x (.int i) M Q = ∃ ds d, itemsR M x = some ds ∧ atI ds i = some d ∧ Q d M := rfl
theorem w_isi {K : PySem.W.Frag} : rIsiD K [x, y] M Q = (IsiOk K x y ∧ Q (.bl (isiR x y)) M) := rfl
theorem w_abs : rAbs [.int i] M Q = Q (.int (if i < 0 then -i else i)) M := rfl
theorem w_max2 : rMaxD [.int i, .int j] M Q = Q (.int (if j > i then j else i)) M := rfl
theorem w_min2 : rMinD [.int i, .int j] M Q = Q (.int (if j < i then j else i)) M := rfl
theorem w_max1L : rMaxD [.lst xs] M Q = ∃ ns : List Int, lsR M (.lst xs) = some (ns.map Dat.int) ∧ 0 < ns.length ∧ ∀ m, m ∈ ns → (∀ y, y ∈ ns → y ≤ m) → Q (.int m) M := rfl
theorem w_min1L : rMinD [.lst xs] M Q = ∃ ns : List Int, lsR M (.lst xs) = some (ns.map Dat.int) ∧ 0 < ns.length ∧ ∀ m, m ∈ ns → (∀ y, y ∈ ns → m ≤ y) → Q (.int m) M := rfl
theorem w_sum : rSumD [x] M Q = ∃ ns : List Int, lsR M x = some (ns.map Dat.int) ∧ Q (.int ns.sum) M := rfl
theorem w_all : rAllD [x] M Q = ∃ bs : List Bool, lsR M x = some (bs.map Dat.bl) ∧ Q (.bl (bs.all _root_.id)) M := rfl
theorem w_any : rAnyD [x] M Q = ∃ bs : List Bool, lsR M x = some (bs.map Dat.bl) ∧ Q (.bl (bs.any _root_.id)) M := rfl
theorem w_len : rLenD [x] M Q = ∃ ys, itemsR M x = some ys ∧ Q (.int (ys.length : Int)) M := rfl
theorem w_int : rIntD [.int i] M Q = Q (.int i) M := rfl
theorem w_intB : rIntD [.bl b] M Q = Q (.int (if b then 1 else 0)) M := rfl
theorem w_divmod : rDivmodD [.int i, .int j] M Q = (CDivP i j ∧ Q (.tup [.int (i / j), .int (i % j)]) M) := rfl
theorem w_sorted : rSortedD mk [x] M Q = ∃ ns : List Int, lsR M x = some (ns.map Dat.int) ∧ ∀ ns' : List Int, ns'.Perm ns → ns'.Pairwise (· ≤ ·) → newL mk (ns'.map Dat.int) M Q := rfl
theorem w_list : rListD mk [x] M Q = ∃ ys, itemsR M x = some ys ∧ newL mk ys M Q := rfl
theorem w_bits {da : TED} : dBits da ρ M Q = da ρ M fun x M1 => asInt x fun i => Q (.int (Builtin.Int.intBits i : Nat)) M1 := rfl
def slK (mk : Bool) (lo hi : Option Int) (x : Dat) (M3 : MH) (Q : VKD) : Prop := match x with
  | .tup ds => ¬ (HT.sIx ds.length 0 lo = 0 ∧ HT.sIx ds.length ds.length hi = ds.length) ∧ Q (.tup (cutD ds lo hi)) M3
  | x => ∃ ds, lsR M3 x = some ds ∧ newL mk (cutD ds lo hi) M3 Q
theorem w_sl {da : TED} {dl dh : TOD} : dSl mk da dl dh ρ M Q = da ρ M fun x M1 => dl ρ M1 fun lo M2 => dh ρ M2 fun hi M3 => slK mk lo hi x M3 Q := rfl
theorem w_slL {lo hi : Option Int} : slK mk lo hi (.lst xs) M Q = ∃ ds, lsR M (.lst xs) = some ds ∧ newL mk (cutD ds lo hi) M Q := rfl
theorem w_slF {lo hi : Option Int} : slK mk lo hi (.frl xs) M Q = ∃ ds, lsR M (.frl xs) = some ds ∧ newL mk (cutD ds lo hi) M Q := rfl
theorem w_slR {lo hi : Option Int} {a : Addr} : slK mk lo hi (.ref a) M Q = ∃ ds, lsR M (.ref a) = some ds ∧ newL mk (cutD ds lo hi) M Q := rfl
theorem w_slT {lo hi : Option Int} : slK mk lo hi (.tup xs) M Q = (¬ (HT.sIx xs.length 0 lo = 0 ∧ HT.sIx xs.length xs.length hi = xs.length) ∧ Q (.tup (cutD xs lo hi)) M) := rfl
theorem w_newF : newL false xs M Q = Q (.lst xs) M := rfl
theorem w_newT : newL true xs M Q = ∀ a, M a = none → Q (.ref a) (updM M a (.lst xs)) := rfl
theorem w_eqL : rEqD (.lst xs) y M Q = (shp 64 (.lst xs) = true ∧ shp 64 (deref M y) = true ∧ Q (.bl (eqD (.lst xs) (deref M y))) M) := rfl
theorem w_eqT : rEqD (.tup xs) y M Q = (shp 64 (.tup xs) = true ∧ shp 64 (deref M y) = true ∧ Q (.bl (eqD (.tup xs) (deref M y))) M) := rfl
theorem v_eqB : rEqD (.bl a) y M Q = (shp 64 (.bl a) = true ∧ shp 64 (deref M y) = true ∧ Q (.bl (eqD (.bl a) (deref M y))) M) := rfl
theorem v_eqS : rEqD (.str s) y M Q = (shp 64 (.str s) = true ∧ shp 64 (deref M y) = true ∧ Q (.bl (eqD (.str s) (deref M y))) M) := rfl
theorem w_eqR {c : Addr} : rEqD (.ref c) y M Q = (shp 64 (deref M (.ref c)) = true ∧ shp 64 (deref M y) = true ∧ Q (.bl (eqD (deref M (.ref c)) (deref M y))) M) := rfl
theorem v_eqN : rEqD .non y M Q = (shp 64 .non = true ∧ shp 64 (deref M y) = true ∧ Q (.bl (eqD .non (deref M y))) M) := rfl
theorem w_neL : rNeD (.lst xs) y M Q = (shp 64 (.lst xs) = true ∧ shp 64 (deref M y) = true ∧ Q (.bl (!eqD (.lst xs) (deref M y))) M) := rfl
theorem w_neT : rNeD (.tup xs) y M Q = (shp 64 (.tup xs) = true ∧ shp 64 (deref M y) = true ∧ Q (.bl (!eqD (.tup xs) (deref M y))) M) := rfl
theorem v_neB : rNeD (.bl a) y M Q = (shp 64 (.bl a) = true ∧ shp 64 (deref M y) = true ∧ Q (.bl (!eqD (.bl a) (deref M y))) M) := rfl
theorem v_neS : rNeD (.str s) y M Q = (shp 64 (.str s) = true ∧ shp 64 (deref M y) = true ∧ Q (.bl (!eqD (.str s) (deref M y))) M) := rfl
theorem w_neR {c : Addr} : rNeD (.ref c) y M Q = (shp 64 (deref M (.ref c)) = true ∧ shp 64 (deref M y) = true ∧ Q (.bl (!eqD (deref M (.ref c)) (deref M y))) M) := rfl
theorem v_neN : rNeD .non y M Q = (shp 64 .non = true ∧ shp 64 (deref M y) = true ∧ Q (.bl (!eqD .non (deref M y))) M) := rfl
theorem w_eqSS (h1 : shp 64 (.str s) = true) (h2 : shp 64 (.str t) = true) : rEqD (.str s) (.str t) M Q = Q (.bl (eqD (.str s) (.str t))) M := propext ⟨fun h => h.2.2, fun h => ⟨h1, h2, h⟩⟩
theorem w_eqBB : rEqD (.bl a) (.bl b) M Q = Q (.bl (eqD (.bl a) (.bl b))) M := propext ⟨fun h => h.2.2, fun h => ⟨rfl, rfl, h⟩⟩
theorem w_neSS (h1 : shp 64 (.str s) = true) (h2 : shp 64 (.str t) = true) : rNeD (.str s) (.str t) M Q = Q (.bl (!eqD (.str s) (.str t))) M := propext ⟨fun h => h.2.2, fun h => ⟨h1, h2, h⟩⟩
theorem w_neBB : rNeD (.bl a) (.bl b) M Q = Q (.bl (!eqD (.bl a) (.bl b))) M := propext ⟨fun h => h.2.2, fun h => ⟨rfl, rfl, h⟩⟩
theorem w_eqBI : rEqD (.bl a) (.int i) M Q = Q (.bl (eqD (.bl a) (.int i))) M := propext ⟨fun h => h.2.2, fun h => ⟨rfl, rfl, h⟩⟩
theorem w_eqIN : rEqD (.int i) .non M Q = Q (.bl (eqD (.int i) .non)) M := propext ⟨fun h => h.2, fun h => ⟨rfl, h⟩⟩
theorem w_neIN : rNeD (.int i) .non M Q = Q (.bl (!eqD (.int i) .non)) M := propext ⟨fun h => h.2, fun h => ⟨rfl, h⟩⟩
theorem w_eqNI : rEqD .non (.int i) M Q = Q (.bl (eqD .non (.int i))) M := propext ⟨fun h => h.2.2, fun h => ⟨rfl, rfl, h⟩⟩
theorem w_neNI : rNeD .non (.int i) M Q = Q (.bl (!eqD .non (.int i))) M := propext ⟨fun h => h.2.2, fun h => ⟨rfl, rfl, h⟩⟩
theorem w_eqNN : rEqD .non .non M Q = Q (.bl (eqD .non .non)) M := propext ⟨fun h => h.2.2, fun h => ⟨rfl, rfl, h⟩⟩
theorem w_neNN : rNeD .non .non M Q = Q (.bl (!eqD .non .non)) M := propext ⟨fun h => h.2.2, fun h => ⟨rfl, rfl, h⟩⟩
theorem w_NN : eqD .non .non = true := rfl
theorem w_NI : eqD .non (.int i) = false := rfl
theorem w_IN : eqD (.int i) .non = false := rfl
theorem w_dgT {n : Nat} {t : TGsD} {R : EnvD → MH → Prop} : dgT n t (.tup xs) ρ M R = (xs.length = n ∧ t xs ρ M R) := rfl
theorem w_derL : deref M (.lst xs) = .lst xs := rfl
theorem w_derT : deref M (.tup xs) = .tup xs := rfl
theorem w_derB : deref M (.bl a) = .bl a := rfl
theorem w_derI : deref M (.int i) = .int i := rfl
theorem w_derN : deref M .non = .non := rfl
theorem w_derS : deref M (.str s) = .str s := rfl
theorem eqD_bl : eqD (.bl a) (.bl b) = decide (a = b) := by cases a <;> cases b <;> rfl
theorem eqD_int : eqD (.int i) (.int j) = decide (i = j) := by
  show (i == j) = _
  by_cases h : i = j <;> simp [h]
def eqDs (xs ys : List Dat) : Bool := PyData.eqvAll (toPys xs) (toPys ys)
theorem eqD_tup : eqD (.tup xs) (.tup ys) = eqDs xs ys := by
  unfold eqD eqDs
  simp only [toPy, PyData.eqv]
theorem eqD_lst : eqD (.lst xs) (.lst ys) = eqDs xs ys := by
  unfold eqD eqDs
  simp only [toPy, PyData.eqv]
theorem eqDs_nil : eqDs [] [] = true := rfl
theorem eqDs_nc : eqDs [] (y :: ys) = false := rfl
theorem eqDs_cn : eqDs (x :: xs) [] = false := rfl
theorem eqDs_cons : eqDs (x :: xs) (y :: ys) = (eqD x y && eqDs xs ys) := by
  unfold eqD eqDs
  simp only [toPys, PyData.eqvAll]
theorem eqDs_ints (ns ms : List Int) : eqDs (ns.map Dat.int) (ms.map Dat.int) = decide (ns = ms) := by
  induction ns generalizing ms with
  | nil => cases ms <;> simp [eqDs_nil, eqDs_nc]
  | cons n ns ih =>
    cases ms with
    | nil => simp [eqDs_cn]
    | cons m ms =>
      rw [List.map_cons, List.map_cons, eqDs_cons, eqD_int, ih]
      by_cases h : n = m <;> simp [h]
theorem eqD_str : eqD (.str s) (.str t) = decide (s = t) := by
  unfold eqD
  simp only [toPy, PyData.eqv]
  by_cases h : s = t <;> simp [h]
end
theorem ne_no {α : Type} [DecidableEq α] {a x : α} {A B : Prop} (h : a = x) (q : B) : (if (!decide (a = x)) = true then A else B) := by
  rw [decide_eq_true h]
  exact q
theorem eq_yes {α : Type} [DecidableEq α] {a x : α} {A B : Prop} (h : a = x) (q : A) : (if decide (a = x) = true then A else B) := by
  rw [decide_eq_true h]
  exact q
theorem if_yes {v : Bool} {A B : Prop} (h : v = true) (q : A) : (if v = true then A else B) := by
  rw [h]
  exact q
theorem if_no {v : Bool} {A B : Prop} (h : v = false) (q : B) : (if v = true then A else B) := by
  rw [h]
  exact q
theorem not_no {v : Bool} {A B : Prop} (h : v = true) (q : B) : (if (!v) = true then A else B) := by
  rw [h]
  exact q
theorem not_yes {v : Bool} {A B : Prop} (h : v = false) (q : A) : (if (!v) = true then A else B) := by
  rw [h]
  exact q
theorem strT {a : Str} : decide (a = a) = true := decide_eq_true rfl
theorem strF {a b : Str} (h : a ≠ b) : decide (a = b) = false := decide_eq_false h
theorem inDT {a : Dat} {ds : List Dat} (h : inD a ds = true) : inD a ds = true := h
theorem inDF {a : Dat} {ds : List Dat} (h : inD a ds = false) : inD a ds = false := h
theorem dec_self {i : Int} : decide (i = i) = true := decide_eq_true rfl
theorem or_self2 {Q : VKD} {M : MH} {b : Bool} {d : Dat} (h : b = false) (q : Q d M) : (if b = true then False else Q d M) := by
  rw [h]
  exact q
/-! ### items, slices -/
section
variable {xs : List Dat} {ns : List Int}
theorem atI_ex {α : Type} {xs : List α} {r : Int} (h0 : 0 ≤ r) (h1 : r < xs.length) : ∃ d, atI xs r = some d ∧ d ∈ xs := by
  obtain ⟨n, rfl⟩ := Int.eq_ofNat_of_zero_le h0
  have hn : n < xs.length := by omega
  exact ⟨xs[n], atI_nat (List.getElem?_eq_getElem hn), List.getElem_mem hn⟩
theorem cutD_sub {lo hi : Option Int} {d : Dat} (h : d ∈ cutD xs lo hi) : d ∈ xs := List.mem_of_mem_drop (List.mem_of_mem_take h)
theorem cutD_len {lo hi : Option Int} : (cutD xs lo hi).length ≤ xs.length := by
  unfold cutD
  rw [List.length_take, List.length_drop]
  omega
theorem cutD_take {n : Nat} : cutD xs none (some (n : Int)) = xs.take n := by
  unfold cutD
  rw [HT.sIx_nat, HT.sIx_none, List.drop_zero, Nat.sub_zero]
  rw [Nat.min_def]
  split
  · rfl
  · rw [List.take_of_length_le (Nat.le_refl _), List.take_of_length_le (by omega)]
theorem cutD_drop {n : Nat} : cutD xs (some (n : Int)) none = xs.drop n := by
  unfold cutD
  rw [HT.sIx_nat, HT.sIx_none]
  rw [List.take_of_length_le (by rw [List.length_drop]; exact Nat.le_refl _), Nat.min_def]
  split
  · rfl
  · rw [List.drop_eq_nil_of_le (Nat.le_refl _), List.drop_eq_nil_of_le (by omega)]
theorem cutD_ints (lo hi : Option Int) : ∃ ms : List Int, cutD (ns.map Dat.int) lo hi = ms.map Dat.int ∧ ms.length ≤ ns.length := by
  refine ⟨(ns.drop (HT.sIx ns.length 0 lo)).take (HT.sIx ns.length ns.length hi - HT.sIx ns.length 0 lo), ?_, ?_⟩
  · unfold cutD
    rw [List.length_map, List.map_take, List.map_drop]
  · rw [List.length_take, List.length_drop]
    omega
theorem rngD_len {lo : Int} {n : Nat} : (rngD lo n).length = n := by
  unfold rngD
  rw [List.length_map, List.length_range]
theorem lit_len {n : Nat} (h : n ≤ 1000) : n ≤ sizeLine := by
  rw [sizeLine_eq]
  omega
end
end DL
namespace DL
open PySem PySem.Spec PyProof.Rows L2
/-! ### dicts with keys ints and texts -/
def valD (kvs : List (Key × Dat)) (k : Key) : Option Dat := (kvs.find? fun kv => decide (kv.1 = k)).map (·.2)
def putKD (kvs : List (Key × Dat)) (k : Key) (v : Dat) : List (Key × Dat) :=
  if (kvs.any fun kv => decide (kv.1 = k)) = true then kvs.map (fun kv => if kv.1 = k then (kv.1, v) else kv) else kvs ++ [(k, v)]
def mergeD (kvs more : List (Key × Dat)) : List (Key × Dat) := more.foldl (fun acc kv => putKD acc kv.1 kv.2) kvs
def keyD : Dat → Option Key
  | .int i => some (.inl i)
  | .str s => some (.inr s)
  | _ => none
def kD : Key → Dat
  | .inl i => .int i
  | .inr s => .str s
theorem keyD_rep {K : PySem.W.Frag} {F : Hp} {y : V} {d : Dat} {k : Key} (r : Rep K F y d) (h : keyD d = some k) : y = kV k := by
  cases d <;> first | (cases h; done) | skip
  · cases h
    exact r.toInt
  · cases h
    exact r.toStr
theorem kD_rep {K : PySem.W.Frag} {F : Hp} {y : V} {k : Key} (r : Rep K F y (kD k)) : y = kV k := by
  cases k with
  | inl i => exact r.toInt
  | inr s => exact r.toStr
section
variable {K : PySem.W.Frag} {F : Hp}
theorem RepK.len {vs : List (Key × V)} {ds : List (Key × Dat)} (r : RepK K F vs ds) : vs.length = ds.length := by
  induction ds generalizing vs with
  | nil => cases r; rfl
  | cons d ds ih =>
    cases r with
    | cons r1 r2 => rw [List.length_cons, List.length_cons, ih r2]
theorem RepK.val {vs : List (Key × V)} {ds : List (Key × Dat)} (r : RepK K F vs ds) (k : Key) : match valD ds k with
    | some d => ∃ v, valV vs k = some v ∧ Rep K F v d
    | none => valV vs k = none := by
  induction ds generalizing vs with
  | nil =>
    cases r
    exact valV_nil
  | cons d ds ih =>
    cases r with
    | @cons k2 v vs d ds r1 r2 =>
      by_cases h : k2 = k
      · have e : valD ((k2, d) :: ds) k = some d := by simp [valD, List.find?_cons, h]
        rw [e]
        exact ⟨v, valV_pos h, r1⟩
      · have e : valD ((k2, d) :: ds) k = valD ds k := by simp [valD, List.find?_cons, h]
        rw [e, valV_neg h]
        exact ih r2
theorem RepK.any {vs : List (Key × V)} {ds : List (Key × Dat)} (r : RepK K F vs ds) (k : Key) : (vs.any fun kv => decide (kv.1 = k)) = (ds.any fun kv => decide (kv.1 = k)) := by
  induction ds generalizing vs with
  | nil => cases r; rfl
  | cons d ds ih =>
    cases r with
    | cons r1 r2 => rw [List.any_cons, List.any_cons, ih r2]
theorem RepK.app {vs ws : List (Key × V)} {ds es : List (Key × Dat)} (r : RepK K F vs ds) (q : RepK K F ws es) : RepK K F (vs ++ ws) (ds ++ es) := by
  induction ds generalizing vs with
  | nil => cases r; exact q
  | cons d ds ih =>
    cases r with
    | cons r1 r2 => exact .cons r1 (ih r2)
theorem RepK.over {v : V} {d : Dat} (h : Rep K F v d) (k : Key) : ∀ {vs : List (Key × V)} {ds : List (Key × Dat)}, RepK K F vs ds → RepK K F (vs.map fun kv => if kv.1 = k then (kv.1, v) else kv) (ds.map fun kv => if kv.1 = k then (kv.1, d) else kv) := by
  intro vs ds r
  induction ds generalizing vs with
  | nil => cases r; exact .nil
  | cons e ds ih =>
    cases r with
    | @cons k2 u vs e ds r1 r2 =>
      rw [List.map_cons, List.map_cons]
      by_cases q : k2 = k
      · simp only [q, if_true]
        exact .cons h (ih r2)
      · simp only [q, if_false]
        exact .cons r1 (ih r2)
theorem RepK.put {v : V} {d : Dat} (h : Rep K F v d) {vs : List (Key × V)} {ds : List (Key × Dat)} (r : RepK K F vs ds) (k : Key) : RepK K F (putK vs k v) (putKD ds k d) := by
  unfold putK putKD
  rw [r.any k]
  split
  · exact r.over h k
  · exact r.app (.cons h .nil)
theorem RepK.merge {more : List (Key × V)} {dm : List (Key × Dat)} (q : RepK K F more dm) {vs : List (Key × V)} {ds : List (Key × Dat)} (r : RepK K F vs ds) : RepK K F (mergeK vs more) (mergeD ds dm) := by
  induction dm generalizing more vs ds with
  | nil => cases q; exact r
  | cons e dm ih =>
    cases q with
    | cons r1 r2 => exact ih r2 (r.put r1 _)
end
def dicR (M : MH) : Dat → Option (List (Key × Dat))
  | .dic kvs => some kvs
  | .ref a => match M a with
    | some (.dic kvs) => some kvs
    | _ => none
  | _ => none
theorem dicR_rep {K : PySem.W.Frag} {Z F H : Hp} {M : MH} {x : V} {d : Dat} {kvs : List (Key × Dat)} (R : RelM K Z F H M) (r : Rep K F x d) (h : dicR M d = some kvs) : ∃ p vs, x = .ref p ∧ H p = some (.dK vs) ∧ RepK K F vs kvs := by
  unfold dicR at h
  split at h
  · cases h
    cases r with
    | dic q r => exact ⟨_, _, rfl, R.sub _ _ q, r⟩
  · rename_i a
    split at h
    · rename_i ks e
      cases h
      cases r
      obtain ⟨_, vs, q1, q2⟩ := R.chg _ _ e
      exact ⟨_, _, rfl, q1, q2⟩
    · cases h
  · cases h
section
variable {X : Cx} {o i e f value : Expr} {pos pos' apos cpos : Pos} {dd dy dv dx : TED}
/-- d[y] -/
def dDGet (dd dy : TED) : TED := fun ρ M Q => dd ρ M fun x M1 => dy ρ M1 fun y M2 => ∃ kvs k d, dicR M2 x = some kvs ∧ keyD y = some k ∧ valD kvs k = some d ∧ Q d M2
theorem de_dget (hu : X.A.units + 64 < cLine) (ho : DE X o dd) (hi : DE X i dy) (hs : NoSl i := by exact fun _ _ => rfl) : DE X (.Subscript o i pos) (dDGet dd dy) := pe_w (pe_dget (by omega) ho hi hs) fun σ H Q ⟨Z, F, M, ρ, QD, R, h, o⟩ => by
  refine ⟨Z, F, M, ρ, _, R, h, fun x a F1 H1 M1 e1 R1 r1 h1 => ?_⟩
  refine ⟨Z, F1, M1, ρ, _, R.ext e1 R1, h1, fun y b F2 H2 M2 e2 R2 r2 h2 => ?_⟩
  obtain ⟨kvs, k, d, q1, q2, q3, q4⟩ := h2
  obtain ⟨p, vs, rfl, q5, q6⟩ := dicR_rep R2 (r1.mono e2) q1
  have := q6.val k
  rw [q3] at this
  obtain ⟨v, q7, q8⟩ := this
  refine ⟨p, v, rfl, ?_, o v d F2 H2 M2 (e1.trans e2) R2 q8 q4⟩
  rw [keyD_rep r2 q2, ← q7]
  exact .k q5
/-- d.get(y), d.get(y, x) -/
def dDGet1 (dd dy : TED) : TED := fun ρ M Q => dd ρ M fun x M1 => (∃ kvs, dicR M1 x = some kvs) ∧ dy ρ M1 fun y M2 => ∃ kvs k, dicR M2 x = some kvs ∧ keyD y = some k ∧ Q ((valD kvs k).getD .non) M2
def dDGet2 (dd dy dx : TED) : TED := fun ρ M Q => dd ρ M fun x M1 => (∃ kvs, dicR M1 x = some kvs) ∧ dy ρ M1 fun y M2 => dx ρ M2 fun z M3 => ∃ kvs k, dicR M3 x = some kvs ∧ keyD y = some k ∧ Q ((valD kvs k).getD z) M3
theorem de_dget1 (hu : X.A.units + 64 < cLine) (ho : DE X o dd) (he : DE X e dy) (m : M1 X o "get" apos e cpos := by exact ⟨rfl, rfl, rfl, rfl⟩) : DE X (.Call (.Attribute o "get" apos) [e] [] cpos) (dDGet1 dd dy) := pe_w (pe_dget1 (by omega) ho he m) fun σ H Q ⟨Z, F, M, ρ, QD, R, h, o⟩ => by
  refine ⟨Z, F, M, ρ, _, R, h, fun x a F1 H1 M1 e1 R1 r1 h1 => ?_⟩
  obtain ⟨⟨ks, q0⟩, h1⟩ := h1
  obtain ⟨p, vs, rfl, q5, q6⟩ := dicR_rep R1 r1 q0
  refine ⟨p, rfl, .inl ⟨vs, .inl q5⟩, Z, F1, M1, ρ, _, R.ext e1 R1, h1, fun y b F2 H2 M2 e2 R2 r2 h2 => ?_⟩
  obtain ⟨kvs, k, q1, q2, q4⟩ := h2
  obtain ⟨p, vs, e, q5, q6⟩ := dicR_rep R2 (r1.mono e2) q1
  cases e
  have := q6.val k
  refine ⟨valV vs k, ?_, ?_⟩
  · rw [keyD_rep r2 q2]
    exact .k q5
  · cases q : valD kvs k with
    | none =>
      rw [q] at this q4
      rw [this]
      exact o _ _ F2 H2 M2 (e1.trans e2) R2 .non q4
    | some d =>
      rw [q] at this q4
      obtain ⟨v, q7, q8⟩ := this
      rw [q7]
      exact o v d F2 H2 M2 (e1.trans e2) R2 q8 q4
theorem de_dget2 (hu : X.A.units + 64 < cLine) (ho : DE X o dd) (he : DE X e dy) (hf : DE X f dx) (m : M2 X o "get" apos e f cpos := by exact ⟨rfl, rfl, rfl, rfl⟩) : DE X (.Call (.Attribute o "get" apos) [e, f] [] cpos) (dDGet2 dd dy dx) := pe_w (pe_dget2 (by omega) ho he hf m) fun σ H Q ⟨Z, F, M, ρ, QD, R, h, o⟩ => by
  refine ⟨Z, F, M, ρ, _, R, h, fun x a F1 H1 M1 e1 R1 r1 h1 => ?_⟩
  obtain ⟨⟨ks, q0⟩, h1⟩ := h1
  obtain ⟨p, vs, rfl, q5, q6⟩ := dicR_rep R1 r1 q0
  refine ⟨p, rfl, .inl ⟨vs, .inl q5⟩, Z, F1, M1, ρ, _, R.ext e1 R1, h1, fun y b F2 H2 M2 e2 R2 r2 h2 => ?_⟩
  refine ⟨Z, F2, M2, ρ, _, R.ext (e1.trans e2) R2, h2, fun z c F3 H3 M3 e3 R3 r3 h3 => ?_⟩
  obtain ⟨kvs, k, q1, q2, q4⟩ := h3
  obtain ⟨p, vs, e, q5, q6⟩ := dicR_rep R3 (r1.mono (e2.trans e3)) q1
  cases e
  have := q6.val k
  refine ⟨valV vs k, ?_, ?_⟩
  · rw [keyD_rep r2 q2]
    exact .k q5
  · cases q : valD kvs k with
    | none =>
      rw [q] at this q4
      rw [this]
      exact o _ _ F3 H3 M3 ((e1.trans e2).trans e3) R3 r3 q4
    | some d =>
      rw [q] at this q4
      obtain ⟨v, q7, q8⟩ := this
      rw [q7]
      exact o v d F3 H3 M3 ((e1.trans e2).trans e3) R3 q8 q4
/-- d[y] = v -/
def dDPut (dd dy dv : TED) : TSD := fun D ρ M => dv ρ M fun v M1 => dd ρ M1 fun x M2 => dy ρ M2 fun y M3 => ∃ a kvs k, x = .ref a ∧ M3 a = some (.dic kvs) ∧ keyD y = some k ∧ kvs.length < sizeLine ∧ D.nx ρ (updM M3 a (.dic (putKD kvs k v)))
theorem ds_dput (hu : X.A.units + 64 < cLine) (ho : DE X o dd) (hi : DE X i dy) (hv : DE X value dv) (hs : swapsWith value (some (.Subscript o i pos')) pos.line X.env = pure false := by rfl) : DS X (.Assign [.Subscript o i pos'] value pos) (dDPut dd dy dv) := ps_w (ps_dput (by omega) ho hi hv hs) fun D σ H ⟨Z, F, M, ρ, DD, R, h, o⟩ => by
  refine ⟨Z, F, M, ρ, _, R, h, fun v d F1 H1 M1 e1 R1 r1 h1 => ?_⟩
  refine ⟨Z, F1, M1, ρ, _, R.ext e1 R1, h1, fun x a F2 H2 M2 e2 R2 r2 h2 => ?_⟩
  refine ⟨Z, F2, M2, ρ, _, R.ext (e1.trans e2) R2, h2, fun y b F3 H3 M3 e3 R3 r3 h3 => ?_⟩
  obtain ⟨a, kvs, k, rfl, q1, q2, q3, q4⟩ := h3
  cases r2
  obtain ⟨q5, vs, q6, q7⟩ := R3.chg _ _ q1
  refine ⟨a, upd H3 a (.dK (putK vs k v)), rfl, ?_, ?_⟩
  · rw [keyD_rep r3 q2]
    exact .k (v := v) q6 (by rw [q7.len]; exact q3)
  · refine o.nx _ _ _ _ _ ((e1.trans e2).trans e3) ⟨R3.write (m := .dic (putKD kvs k d)) q1 ⟨_, upd_same, q7.put (r1.mono (e2.trans e3)) k⟩, (R.e.mono ((e1.trans e2).trans e3))⟩ q4
/-! ### displays -/
def dPairs : List (TED × TED) → EnvD → MH → (List (Dat × Dat) → MH → Prop) → Prop
  | [], _, M, Q => Q [] M
  | (dk, dv) :: r, ρ, M, Q => dk ρ M fun x M1 => dv ρ M1 fun y M2 => dPairs r ρ M2 fun ps M3 => Q ((x, y) :: ps) M3
def newD (mk : Bool) (kvs : List (Key × Dat)) (M : MH) (Q : VKD) : Prop := match mk with
  | false => Q (.dic kvs) M
  | true => ∀ a, M a = none → Q (.ref a) (updM M a (.dic kvs))
def dDisp (mk : Bool) (trs : List (TED × TED)) : TED := fun ρ M Q => dPairs trs ρ M fun ps M1 => ∃ kvs : List (Key × Dat), ps = kvs.map (fun kv => (kD kv.1, kv.2)) ∧ kvs.length ≤ 15 ∧ newD mk (mergeD [] kvs) M1 Q
def upP (K : PySem.W.Frag) (trs : List (TED × TED)) : List (TE × TE) := trs.map fun q => (up K q.1, up K q.2)
abbrev DPs (X : Cx) (pos : Pos) (keys : List (Option Expr)) (values : List Expr) (trs : List (TED × TED)) : Prop := PPs X pos keys values (upP X.K trs)
theorem dps_nil : DPs X pos [] [] [] := pps_nil
theorem dps_cons {k v : Expr} {ks : List (Option Expr)} {vs : List Expr} {dk dv : TED} {trs : List (TED × TED)} (hk : DE X k dk) (hv : DE X v dv) (hr : DPs X pos ks vs trs) : DPs X pos (some k :: ks) (v :: vs) ((dk, dv) :: trs) := pps_cons hk hv hr
theorem up_pairs {K : PySem.W.Frag} {Z : Hp} {σ : L2.St} : ∀ {trs : List (TED × TED)} {F H : Hp} {M : MH} {ρ : EnvD} {Q : List (V × V) → Hp → Prop} {QD : List (Dat × Dat) → MH → Prop}, Rel K Z F H M σ ρ → dPairs trs ρ M QD →
    (∀ ps ds F' H' M', Ext F F' → RelM K Z F' H' M' → Reps K F' (ps.map (·.1)) (ds.map (·.1)) → Reps K F' (ps.map (·.2)) (ds.map (·.2)) → QD ds M' → Q ps H') → tPairs (upP K trs) σ H Q
  | [], F, H, M, ρ, Q, QD, R, h, o => o [] [] F H M (Ext.refl F) R.m .nil .nil h
  | (dk, dv) :: r, F, H, M, ρ, Q, QD, R, h, o => by
    refine ⟨Z, F, M, ρ, _, R, h, fun x a F1 H1 M1 e1 R1 r1 h1 => ?_⟩
    refine ⟨Z, F1, M1, ρ, _, R.ext e1 R1, h1, fun y b F2 H2 M2 e2 R2 r2 h2 => ?_⟩
    refine up_pairs (R.ext (e1.trans e2) R2) h2 fun ps ds F3 H3 M3 e3 R3 p1 p2 h3 => ?_
    exact o ((x, y) :: ps) ((a, b) :: ds) F3 H3 M3 ((e1.trans e2).trans e3) R3 (.cons (r1.mono (e2.trans e3)) p1) (.cons (r2.mono e3) p2) h3
theorem keyed {K : PySem.W.Frag} {F : Hp} : ∀ {kvs : List (Key × Dat)} {ps : List (V × V)}, Reps K F (ps.map (·.1)) (kvs.map fun kv => kD kv.1) → Reps K F (ps.map (·.2)) (kvs.map (·.2)) → ∃ vs, ps = vs.map (fun kv => (kV kv.1, kv.2)) ∧ RepK K F vs kvs
  | [], [], _, _ => ⟨[], rfl, .nil⟩
  | [], p :: ps, r, _ => by cases r
  | kv :: kvs, [], r, _ => by cases r
  | kv :: kvs, p :: ps, r, q => by
    obtain ⟨v, ws, e1, r1, r2⟩ := r.uncons
    obtain ⟨u, us, e2, q1, q2⟩ := q.uncons
    injection e1 with e3 e4
    injection e2 with e5 e6
    subst e3 e4 e5 e6
    obtain ⟨vs, rfl, g⟩ := keyed r2 q2
    refine ⟨(kv.1, p.2) :: vs, ?_, .cons q1 g⟩
    have := kD_rep r1
    rw [List.map_cons, ← this]
theorem de_disp (mk : Bool) {keys : List (Option Expr)} {values : List Expr} {trs : List (TED × TED)} (h : DPs X pos keys values trs) (hall : keys.all (·.isSome) = true := by rfl) (hl : keys.length = values.length := by rfl) (h0 : keys ≠ [] := by exact List.cons_ne_nil _ _)
    (h15 : keys.length ≤ 15 := by exact Nat.le_of_ble_eq_true rfl) : DE X (.Dict keys values pos) (dDisp mk trs) := pe_w (pe_disp h hall hl h0 h15) fun σ H Q ⟨Z, F, M, ρ, QD, R, h, o⟩ => by
  intro p hp
  have hZ : Z p = none := by
    cases q : Z p with
    | none => rfl
    | some u =>
      have := (R.m.hid p u q).1
      rw [hp] at this
      cases this
  obtain ⟨hF, hM⟩ := R.m.fresh hp
  have R0 : Rel X.K (upd Z p (.dK [])) F (upd H p (.dK [])) M σ ρ := ⟨⟨fun b u q => by
      rw [upd_ne (ne_of_none (R.m.sub b u q) hp)]
      exact R.m.sub b u q, fun b u q => by
      by_cases hb : b = p
      · subst hb
        rw [upd_same] at q
        cases q
        exact ⟨upd_same, hF, hM⟩
      · rw [upd_ne hb] at q ⊢
        exact R.m.hid b u q, fun b m q => by
      obtain ⟨q1, q2⟩ := R.m.chg b m q
      exact ⟨q1, q2.mono (Ext.refl _) (upd_ne (R.m.ne hp q))⟩⟩, R.e⟩
  refine up_pairs R0 h fun ps ds F2 H2 M2 e2 R2 p1 p2 h2 => ?_
  obtain ⟨kvs, rfl, hk, h2⟩ := h2
  obtain ⟨b1, b2, b3⟩ := R2.hid p _ upd_same
  rw [List.map_map] at p1 p2
  obtain ⟨vs, rfl, rk⟩ := keyed p1 p2
  refine ⟨b1, vs, rfl, by rw [rk.len]; exact hk, ?_⟩
  have rm := rk.merge (.nil : RepK X.K F2 [] [])
  cases mk with
  | false =>
    have h2' : QD (.dic (mergeD [] kvs)) M2 := h2
    have ee := Ext.new (o := .dK (mergeK [] vs)) b2
    refine o _ _ (upd F2 p (.dK (mergeK [] vs))) (upd H2 p (.dK (mergeK [] vs))) M2 (e2.trans ee) ⟨fun b u q => ?_, fun b u q => ?_, fun b m q => ?_⟩ (.dic upd_same (rm.mono ee)) h2'
    · by_cases hb : b = p
      · subst hb
        rw [upd_same] at q ⊢
        exact q
      · rw [upd_ne hb] at q ⊢
        exact R2.sub b u q
    · have hb := ne_of_none q hZ
      obtain ⟨q1, q2, q3⟩ := R2.hid b u (by rw [upd_ne hb]; exact q)
      exact ⟨by rw [upd_ne hb]; exact q1, by rw [upd_ne hb]; exact q2, q3⟩
    · have hb := ne_dom q b3
      obtain ⟨q1, q2⟩ := R2.chg b m q
      exact ⟨by rw [upd_ne hb]; exact q1, q2.mono ee (upd_ne hb)⟩
  | true =>
    have h2' := (show ∀ a, M2 a = none → QD (.ref a) (updM M2 a (.dic (mergeD [] kvs))) from h2) p b3
    refine o _ _ F2 (upd H2 p (.dK (mergeK [] vs))) (updM M2 p (.dic (mergeD [] kvs))) e2 ⟨fun b u q => ?_, fun b u q => ?_, fun b m q => ?_⟩ (.ref p) h2'
    · rw [upd_ne (ne_of_none q b2)]
      exact R2.sub b u q
    · have hb := ne_of_none q hZ
      obtain ⟨q1, q2, q3⟩ := R2.hid b u (by rw [upd_ne hb]; exact q)
      exact ⟨by rw [upd_ne hb]; exact q1, q2, by rw [updM_ne hb]; exact q3⟩
    · by_cases hb : b = p
      · subst hb
        rw [updM_same] at q
        cases q
        exact ⟨b2, _, upd_same, rm⟩
      · rw [updM_ne hb] at q
        obtain ⟨q1, q2⟩ := R2.chg b m q
        exact ⟨q1, q2.mono (Ext.refl _) (upd_ne hb)⟩
end
section
variable {M : MH} {Q : VKD} {kvs : List (Key × Dat)}
def toKvs : List (Dat × Dat) → Option (List (Key × Dat))
  | [] => some []
  | (k, v) :: r => match keyD k, toKvs r with
    | some k, some r => some ((k, v) :: r)
    | _, _ => none
theorem kD_of {d : Dat} {k : Key} (h : keyD d = some k) : d = kD k := by
  cases d <;> first | (cases h; done) | skip
  · cases h; rfl
  · cases h; rfl
theorem keyD_kD (k : Key) : keyD (kD k) = some k := by cases k <;> rfl
theorem toKvs_iff : ∀ {ps : List (Dat × Dat)} {kvs : List (Key × Dat)}, (ps = kvs.map fun kv => (kD kv.1, kv.2)) = (toKvs ps = some kvs)
  | [], [] => by simp [toKvs]
  | [], kv :: kvs => by simp [toKvs]
  | p :: ps, [] => by
    obtain ⟨k, v⟩ := p
    refine propext ⟨fun h => (by cases h), fun h => ?_⟩
    unfold toKvs at h
    split at h <;> cases h
  | p :: ps, kv :: kvs => by
    obtain ⟨k, v⟩ := p
    refine propext ⟨fun h => ?_, fun h => ?_⟩
    · injection h with h1 h2
      injection h1 with h3 h4
      subst h3 h4
      unfold toKvs
      rw [toKvs_iff] at h2
      rw [keyD_kD, h2]
    · unfold toKvs at h
      split at h
      · rename_i k2 r e1 e2
        cases h
        have e3 := (toKvs_iff (ps := ps) (kvs := kvs)).mpr e2
        rw [List.map_cons, ← kD_of e1, ← e3]
      · cases h
theorem w_disp {mk : Bool} {trs : List (TED × TED)} {ρ : EnvD} : dDisp mk trs ρ M Q = dPairs trs ρ M fun ps M1 => ∃ kvs : List (Key × Dat), toKvs ps = some kvs ∧ kvs.length ≤ 15 ∧ newD mk (mergeD [] kvs) M1 Q := by
  unfold dDisp
  simp only [toKvs_iff]
theorem w_newDF : newD false kvs M Q = Q (.dic kvs) M := rfl
theorem w_newDT : newD true kvs M Q = ∀ a, M a = none → Q (.ref a) (updM M a (.dic kvs)) := rfl
end
end DL
namespace DL
open PySem PySem.Spec PyProof.Rows L2
section
variable {X : Cx} {es : List Expr} {pos : Pos}
/-- a, b, .. = a list -/
def dgU (n : Nat) (t : TGsD) : TGD := fun x ρ M Q => ∃ ds, lsR M x = some ds ∧ ds.length = n ∧ t ds ρ M Q
theorem dgo_unl {k n : Nat} {vs : List Nat} {t : TGsD} (h : DGs X es vs t) (hc : X.calm = true := by rfl)
    (hn : (assignEach es X.env).length = n := by rfl) (hst : (assignEach es X.env).findIdx? (·.1) = none := by rfl) : DGo X (.Tuple es k pos) vs (dgU n t) :=
  pg_w (pg_unl hc h hn hst) fun v σ H Q ⟨Z, F, M, ρ, x, QD, R, r, h, o⟩ => by
    obtain ⟨ds, h1, h2, h3⟩ := h
    obtain ⟨p, xs, rfl, q, r2⟩ := lsR_rep R.m r h1
    exact ⟨p, xs, rfl, q, by rw [r2.length]; exact h2, Z, F, M, ρ, _, QD, R, r2, h3, o⟩
end
end DL
namespace DL
open PySem PySem.Spec PyProof.Rows L2
section
variable {X : Cx} {a : Expr} {da : TED} {p q pos ps : Pos}
theorem reps_rg {K : PySem.W.Frag} {F : Hp} (f : Nat → Int) : ∀ l : List Nat, Reps K F (l.map fun i => V.int (f i)) (l.map fun i => Dat.int (f i))
  | [] => .nil
  | i :: l => .cons (.int (f i)) (reps_rg f l)
/-- list(range(n)) -/
def rLRg (mk : Bool) : Dat → MH → VKD → Prop := fun x M Q => match x with
  | .int n => RgOk 0 n ∧ newL mk (rngD 0 n.toNat) M Q
  | _ => False
theorem w_lrg {mk : Bool} {i : Int} {M : MH} {Q : VKD} : rLRg mk (.int i) M Q = (RgOk 0 i ∧ newL mk (rngD 0 i.toNat) M Q) := rfl
theorem de_lrg1 (mk : Bool) (hl : X.mg "list" = none) (hm : X.mg "range" = none) (ha : DE X a da) (gl : Gl X "list" := by rfl) (gr : Gl X "range" := by rfl) (hc : X.calm = true := by rfl)
    (na : starEach [a] X.env = (false, eval a X.env) :: starEach [] X.env := by rfl) (ne : starEach [.Call (.Name "range" p) [a] [] pos] X.env = (false, eval (.Call (.Name "range" p) [a] [] pos) X.env) :: starEach [] X.env := by rfl) :
    DE X (.Call (.Name "list" q) [.Call (.Name "range" p) [a] [] pos] [] ps) (dUn (rLRg mk) da) :=
  pe_w (pe_listRg hc gl hl (prg_1 gr hm ha na) ne) fun σ H Q ⟨Z, F, M, ρ, QD, R, h, o⟩ => by
    refine ⟨Z, F, M, ρ, _, R, h, fun x d F1 H1 M1 e1 R1 r1 h1 => ?_⟩
    unfold rLRg at h1
    split at h1
    · rename_i n
      refine ⟨n, r1.toInt, h1.1, fun q hq => ?_⟩
      refine sim_new R1 ?_ h1.2 (o.mono e1) hq
      unfold rgV rngD
      rw [Int.sub_zero]
      exact reps_rg _ _
    · exact h1.elim
end
end DL
namespace DL
open PySem PySem.Spec PyProof.Rows L2
section
/-- two readings, held where rewriting does not go -/
class Held where
  a : TSD
  b : TSD
variable {X : Cx} {st : Stmt} {rest : List Stmt} {t u : TSD} {D : EndsD} {ρ : EnvD} {M : MH}
/-- a cut that the rows do not open: the rest waits -/
def dStop [h : Held] : TSD := dCut h.a h.b
theorem dss_stop (h1 : DS X st t) (h2 : DSs X rest u) : DSs X (st :: rest) (@dStop ⟨t, u⟩) := dss_cut h1 h2
theorem stop_by (R : EnvD → MH → Prop) (h1 : t { D with nx := R } ρ M) (h2 : ∀ ρ' M', R ρ' M' → u D ρ' M') : @dStop ⟨t, u⟩ D ρ M := ⟨R, h1, h2⟩
/-- .. where the state behind is one -/
theorem stop_is (ρ1 : EnvD) (M1 : MH) (h1 : t { D with nx := fun ρ' M' => ρ' = ρ1 ∧ M' = M1 } ρ M) (h2 : u D ρ1 M1) : @dStop ⟨t, u⟩ D ρ M := ⟨_, h1, by
  rintro _ _ ⟨rfl, rfl⟩
  exact h2⟩
/-- .. where what stands behind goes on at once -/
theorem stop_to (h1 : t { D with nx := u D } ρ M) : @dStop ⟨t, u⟩ D ρ M := ⟨_, h1, fun _ _ h => h⟩
end
end DL
namespace DL
open PySem PySem.Spec PyProof.Rows L2
section
variable {X : Cx}
/-- xs.index(i), a list of ints -/
def rIndexD : Dat → List Dat → MH → VKD → Prop := fun x as M Q => match as with
  | [.int i] => ∃ (ns : List Int) (j : Nat), lsR M x = some (ns.map Dat.int) ∧ ns[j]? = some i ∧ (∀ m, m < j → ns[m]? ≠ some i) ∧ Q (.int (j : Nat)) M
  | _ => False
theorem md_index : MtD X "list.index" rIndexD := ⟨_, mt_index, fun Z F H M x xs a as Q QD R ra rs hd o => by
  unfold rIndexD at hd
  split at hd
  · rename_i i
    obtain ⟨ns, j, q1, q2, q3, q4⟩ := hd
    obtain ⟨v, ws, rfl, r1, rs⟩ := rs.uncons
    cases rs.unnil
    cases r1.toInt
    obtain ⟨p, ys, rfl, q, rr⟩ := lsR_rep R ra q1
    have e := rr.ints
    subst e
    refine ⟨p, _, _, j, .int i, rfl, rfl, q, rfl, ?_, ?_, ?_, ?_, ?_⟩
    · simp [List.all_map, flatV]
    · rw [List.getElem?_map, q2]
      rfl
    · simp [eqV]
    · intro m z' hm hz
      rw [List.getElem?_map] at hz
      cases hn : ns[m]? with
      | none =>
        rw [hn] at hz
        cases hz
      | some k =>
        rw [hn] at hz
        cases hz
        have : k ≠ i := fun h => q3 m hm (by rw [hn, h])
        simpa [eqV] using this
    · exact o _ _ F H M (Ext.refl F) R (.int _) q4
  · exact hd.elim⟩
theorem w_index {x : Dat} {i : Int} {M : MH} {Q : VKD} : rIndexD x [.int i] M Q = ∃ (ns : List Int) (j : Nat), lsR M x = some (ns.map Dat.int) ∧ ns[j]? = some i ∧ (∀ m, m < j → ns[m]? ≠ some i) ∧ Q (.int (j : Nat)) M := rfl
end
end DL
namespace DL
open PySem PySem.Spec PyProof.Rows L2
/-! ### sorted(a list of pairs of ints) -/
/-- at x stands the pair q -/
def PairAt (K : PySem.W.Frag) (H : Hp) (x : V) (q : Int × Int) : Prop := ∃ t : Addr, x = V.ref t ∧ SqT K H t [V.int q.1, V.int q.2]
abbrev lexLe (p q : Int × Int) : Prop := p.1 < q.1 ∨ (p.1 = q.1 ∧ p.2 ≤ q.2)
def rSortQ (K : PySem.W.Frag) : List V → Hp → VK → Prop := fun vs H Q => ∃ (b : Addr) (zs : List V), vs = [V.ref b] ∧ SqL K H b zs ∧ (∀ z ∈ zs, ∃ q, PairAt K H z q) ∧
  ∀ (ws : List V) (g : V → Int × Int) (c : Addr), (∀ z q, PairAt K H z q → g z = q) → ws.Perm zs → (ws.map g).Pairwise lexLe → H c = none → Q (V.ref c) (upd H c (HO.lst ws))
section
variable {X : Cx}
open Classical in
theorem cr_sortQ : CallR X (.builtin "sorted") (rSortQ X.K) := by
  intro pins s σ H vs us Q I rel hyp
  obtain ⟨b, zs, hvs, hb, hall, hq⟩ := hyp
  subst hvs
  obtain ⟨its, hits, hlist, hsize⟩ := I.list hb
  obtain ⟨u0, hu0, hrel⟩ := vals1 rel
  subst hu0
  have hu1 : u0 = Value.ref b := hrel
  subst hu1
  have one : ∀ z q q', PairAt X.K H z q → PairAt X.K H z q' → q = q' := by
    intro z q q' ⟨t, e, h1⟩ ⟨t', e', h2⟩
    rw [e] at e'
    cases e'
    have := I.tuple_inj h1 h2
    injection this with i1 i2
    injection i2 with i3
    injection i1 with i4
    injection i3 with i5
    exact Prod.ext i4 i5
  let g : V → Int × Int := fun z => if h : ∃ q, PairAt X.K H z q then h.choose else (0, 0)
  have hg : ∀ z q, PairAt X.K H z q → g z = q := by
    intro z q h
    have hex : ∃ q, PairAt X.K H z q := ⟨q, h⟩
    show (if h : ∃ q, PairAt X.K H z q then h.choose else (0, 0)) = q
    rw [dif_pos hex]
    exact one z _ _ hex.choose_spec h
  have hrefs := refs_back hits (fun z hz => by
    obtain ⟨q, t, e, _⟩ := hall z hz
    exact ⟨t, e⟩)
  refine SrtO.sorted_pairsO (k := fun v => g (backV v)) hlist.isList ?_ ?_ ?_
  · rw [← hits.length]
    exact hsize
  · intro v hv
    obtain ⟨t, rfl⟩ := hrefs.2 v hv
    have hin : V.ref t ∈ zs := by
      rw [hrefs.1]
      exact List.mem_map.mpr ⟨Value.ref t, hv, rfl⟩
    obtain ⟨q, hpq⟩ := hall _ hin
    have hgq : g (backV (Value.ref t)) = q := hg _ _ hpq
    obtain ⟨t', e, hsq⟩ := hpq
    cases e
    obtain ⟨its2, hv2, ⟨o, ho1, ho2, n, ho3⟩, _⟩ := I.tuple hsq
    obtain ⟨x1, x2, e2, r1, r2⟩ := vals2 hv2
    obtain ⟨k1, rfl⟩ := r1
    obtain ⟨k2, rfl⟩ := r2
    subst e2
    rw [hgq]
    exact ⟨t, o, k1, k2, n, rfl, ho1, ho2, ho3⟩
  · intro h' d out hsorted hstable hkeep hd hnew
    have hperm : out.Perm its := hstable.perm
    have hout : ∀ v ∈ out, ∃ a, v = Value.ref a := fun v hv => hrefs.2 v (hperm.mem_iff.mp hv)
    obtain ⟨n, hn⟩ := hnew
    have hp2 : (out.map backV).Perm zs := by
      rw [hrefs.1]
      exact hperm.map backV
    have hlen : (out.map backV).length = zs.length := hp2.length_eq
    refine ⟨V.ref d, upd H d (HO.lst (out.map backV)), I.laid (t' := s.toks) hkeep hd ⟨by rw [hlen]; exact hsize, out, n, vals_back hout, hn⟩, rfl, ?_⟩
    refine hq (out.map backV) g d hg hp2 ?_ (I.hok.fresh hd)
    rw [List.map_map, List.pairwise_map]
    refine List.Pairwise.imp (fun {v u} hvu => ?_) hsorted
    have := SrtO.lexB_no.mp hvu
    show lexLe (g (backV v)) (g (backV u))
    unfold lexLe
    omega
/-- pairs of ints, as data -/
abbrev prD (q : Int × Int) : Dat := .tup [.int q.1, .int q.2]
def rSortQD (mk : Bool) : List Dat → MH → VKD → Prop := fun ds M Q => match ds with
  | [x] => ∃ ps : List (Int × Int), lsR M x = some (ps.map prD) ∧ ∀ ps' : List (Int × Int), ps'.Perm ps → ps'.Pairwise lexLe → newL mk (ps'.map prD) M Q
  | _ => False
theorem rep_pr {K : PySem.W.Frag} {F : Hp} {v : V} {q : Int × Int} (r : Rep K F v (prD q)) : PairAt K F v q := by
  cases r with
  | tup h rs =>
    have e := rs.ints (ns := [q.1, q.2])
    subst e
    exact ⟨_, rfl, h⟩
theorem reps_mem {K : PySem.W.Frag} {F : Hp} : ∀ {vs : List V} {ps : List (Int × Int)}, Reps K F vs (ps.map prD) → ∀ v ∈ vs, ∃ q, Rep K F v (prD q)
  | [], _, _, v, h => absurd h List.not_mem_nil
  | w :: vs, [], r, _, _ => by cases r
  | w :: vs, q :: ps, r, v, h => by
    cases r with
    | cons r1 rs =>
      rcases List.mem_cons.mp h with e | e
      · exact ⟨q, by rw [e]; exact r1⟩
      · exact reps_mem rs v e
theorem reps_key {K : PySem.W.Frag} {F : Hp} {g : V → Int × Int} (hg : ∀ v q, Rep K F v (prD q) → g v = q) : ∀ {vs : List V} {ps : List (Int × Int)}, Reps K F vs (ps.map prD) → vs.map g = ps
  | [], [], _ => rfl
  | [], _ :: _, r => by cases r
  | _ :: _, [], r => by cases r
  | w :: vs, q :: ps, r => by
    cases r with
    | cons r1 rs =>
      rw [List.map_cons, hg w q r1, reps_key hg rs]
theorem reps_of {K : PySem.W.Frag} {F : Hp} {g : V → Int × Int} : ∀ {vs : List V}, (∀ v ∈ vs, Rep K F v (prD (g v))) → Reps K F vs ((vs.map g).map prD)
  | [], _ => .nil
  | v :: vs, h => .cons (h v (by simp)) (reps_of fun w hw => h w (by simp [hw]))
theorem cd_sortQ (mk : Bool) : CallD X (.builtin "sorted") (rSortQD mk) := ⟨_, cr_sortQ, fun Z F H M vs ds Q QD R rs hd o => by
  unfold rSortQD at hd
  split at hd
  · rename_i x
    obtain ⟨ps, q1, q2⟩ := hd
    obtain ⟨v, ws, rfl, r1, rs⟩ := rs.uncons
    cases rs.unnil
    obtain ⟨p, xs, rfl, q, rr⟩ := lsR_rep R r1 q1
    have up : ∀ {v : V} {q : Int × Int}, PairAt X.K F v q → PairAt X.K H v q := fun ⟨t, e, h⟩ => ⟨t, e, ext_t R.sub h⟩
    refine ⟨p, xs, rfl, q, fun z hz => ?_, fun ys g c hg hperm hs hc => ?_⟩
    · obtain ⟨q, hq⟩ := reps_mem rr z hz
      exact ⟨q, up (rep_pr hq)⟩
    · have hg2 : ∀ v q, Rep X.K F v (prD q) → g v = q := fun v q h => hg v q (up (rep_pr h))
      have hk := reps_key hg2 rr
      have hys : Reps X.K F ys ((ys.map g).map prD) := reps_of fun v hv => by
        obtain ⟨q, hq⟩ := reps_mem rr v (hperm.mem_iff.mp hv)
        rw [hg2 v q hq]
        exact hq
      exact sim_new R hys (q2 _ (by rw [← hk]; exact hperm.map g) hs) o hc
  · exact hd.elim⟩
theorem w_sortQ {mk : Bool} {x : Dat} {M : MH} {Q : VKD} : rSortQD mk [x] M Q = ∃ ps : List (Int × Int), lsR M x = some (ps.map prD) ∧ ∀ ps' : List (Int × Int), ps'.Perm ps → ps'.Pairwise lexLe → newL mk (ps'.map prD) M Q := rfl
end
end DL
namespace DL
open PySem PySem.Spec PyProof.Rows L2 L2.DX
/-! ### sorted(d.items()), a dict of ints by ints -/
theorem RelM.more {K : PySem.W.Frag} {Z F H H' : Hp} {M : MH} (r : RelM K Z F H M) (e : Ext H H') : RelM K Z F H' M := ⟨r.sub.trans e, fun a o h => ⟨e a o (r.hid a o h).1, (r.hid a o h).2⟩, fun a m h => ⟨(r.chg a m h).1, by
  have q := (r.chg a m h).2
  obtain ⟨o, ho⟩ := q.some
  exact q.mono (Ext.refl F) ((e a o ho).trans ho.symm)⟩⟩
abbrev entI (q : Int × Int) : L2.Key × V := (Sum.inl q.1, V.int q.2)
def adr : Value → Addr
  | .ref a => a
  | _ => 0
theorem pairs_nth {prog : Program} {w : World} {κ : Type} [DecidableEq κ] {knd : PySem.KeyKind prog w κ} {es : List DictEntry} {kvs : List (κ × Value)} (h : PySem.Pairs knd es kvs) : ∀ {j : Nat} {e : DictEntry}, es[j]? = some e → ∃ kv, kvs[j]? = some kv ∧ knd.is kv.1 e.key = true ∧ e.val = kv.2 := by
  induction h with
  | nil =>
    intro j e h
    simp at h
  | @cons e0 kv es kvs h1 h2 _ ih =>
    intro j e h
    cases j with
    | zero =>
      cases h
      exact ⟨kv, rfl, h1, h2⟩
    | succ j => exact ih h
theorem kv_nth {κ : Type} {l : List (κ × V)} {m : List (κ × Value)} (h : KV l m) : ∀ {j : Nat} {q : κ × Value}, m[j]? = some q → ∃ p, l[j]? = some p ∧ p.1 = q.1 ∧ RelV p.2 q.2 := by
  intro j q hq
  obtain ⟨y, h1, h2⟩ := pget h hq
  exact ⟨y, h1, h2⟩
theorem isPair_one {h : Heap} {v : Value} {x y x' y' : Int} (a : Srt.IsPair h v x y) (b : Srt.IsPair h v x' y') : x = x' ∧ y = y' := by
  obtain ⟨a1, o1, t1, u1, n1, e1, g1, c1, d1⟩ := a
  obtain ⟨a2, o2, t2, u2, n2, e2, g2, c2, d2⟩ := b
  rw [e1] at e2
  cases e2
  rw [g1] at g2
  cases g2
  rw [d1] at d2
  injection d2 with d3
  simp at d3
  exact ⟨d3.1.1, d3.2.1⟩
section
variable {X : Cx}
def rItemsK : V → List V → Hp → VK → Prop := fun x xs H Q => ∃ (d : Addr) (ps : List (L2.Key × V)), x = .ref d ∧ xs = [] ∧ H d = some (.dK ps) ∧ ∀ c, H c = none → Q (.ref c) (upd H c (itemsO c d))
theorem mt_itemsK : MtR X "dict.items" rItemsK := by
  intro pins s σ H x xs v us Q I rx rxs hyp
  obtain ⟨d, ps, hx, hxs, hd, hq⟩ := hyp
  subst hx
  subst hxs
  cases rx
  cases rxs
  obtain ⟨hz, hsys, ws, hkv, o, es, ep, ho, hex, hdat, hrest⟩ := dk_of I.hok hd
  refine DT.callItems (es := es) (ep := ep) hsys ⟨o, ho, hex, hdat⟩ ?_
  have hnew : H s.heap.objs.size = none := I.hok.fresh (Nat.le_refl _)
  refine ⟨V.ref s.heap.objs.size, upd H s.heap.objs.size (itemsO s.heap.objs.size d), ?_, rfl, hq _ hnew⟩
  exact I.laid (t' := s.toks) (fun b u eb => Heap.get?_push_of_some _ eb) (Nat.le_refl _) (itemsO_ok (Heap.get?_push_size _ rfl))
def rSortIK : List V → Hp → VK → Prop := fun vs H Q => ∃ (c d : Addr) (ps : List (Int × Int)), vs = [.ref c] ∧ H c = some (itemsO c d) ∧ H d = some (.dK (ps.map entI)) ∧
  ∀ (H' : Hp) (l : Addr) (ts : List Addr) (qs : List (Int × Int)), Ext H H' → qs.Perm ps → qs.Pairwise lexLe → H l = none → (∀ t ∈ ts, H t = none) → H' l = some (.lst (ts.map V.ref)) → ts.length = qs.length →
    (∀ (j : Nat) (t : Addr) (q : Int × Int), ts[j]? = some t → qs[j]? = some q → H' t = some (.tup [V.int q.1, V.int q.2])) → Q (.ref l) H'
open Classical in
theorem cr_sortIK (hc : X.calm = true) : CallR X (.builtin "sorted") rSortIK := by
  intro pins s σ H xs us Q I rel hyp
  obtain ⟨c, d, ps, hvs, hcv, hdv, hq⟩ := hyp
  subst hvs
  cases Vals.ref1 rel
  have view : s.heap.IsItemsView c d := (show ObjOk X.prog X.w H s.heap c (itemsO c d) from I.hok c _ hcv).1
  obtain ⟨hz, hsys, ws, hkv, o, es, ep, ho, hex, hdat, hkeys, hprs, hnd⟩ := dk_of I.hok hdv
  have hlen : es.size = ps.length := by
    have h1 := hprs.length
    have h2 := Paired.length hkv
    rw [List.length_map] at h2
    rw [← Array.length_toList, h1, ← h2]
  have hzp : ps.length ≤ sizeLine := by rw [List.length_map] at hz; exact hz
  refine DT.sortedI (es := es) (ep := ep) (I.ok.hd hc) view ⟨o, ho, hex, hdat⟩ (by rw [hlen]; exact hzp) fun h' tk as hk hlt hl hG => ?_
  have lak : as.length = ps.length := by omega
  have nd : as.Nodup := List.Pairwise.imp (fun h => Nat.ne_of_lt h) hG.rise
  -- the pairs that were made
  have made : ∀ (j : Nat) (b : Addr), as[j]? = some b → ∃ q, ps[j]? = some q ∧ Srt.IsPair h' (.ref b) q.1 q.2 := by
    intro j b hj
    obtain ⟨en, he, hg⟩ := hG.pairs j b hj
    rw [← Array.getElem?_toList] at he
    obtain ⟨kv, hkv1, hkv2, hkv3⟩ := pairs_nth hprs he
    obtain ⟨p, hp1, hp2, hp3⟩ := kv_nth hkv hkv1
    rw [List.getElem?_map] at hp1
    cases hpj : ps[j]? with
    | none =>
      rw [hpj] at hp1
      cases hp1
    | some q =>
      rw [hpj] at hp1
      cases hp1
      rw [← hp2] at hkv2
      obtain ⟨t1, ht1⟩ : RelV (kV (Sum.inl q.1)) en.key := keyIs_rel hkv2
      obtain ⟨t2, ht2⟩ : RelV (V.int q.2) kv.2 := hp3
      refine ⟨q, rfl, b, _, t1, t2, 0, rfl, hg, rfl, ?_⟩
      rw [hkv3, ht1, ht2]
  -- the list that is sorted
  have hob : (h'.push { cls := .type "list", data := .seq (as.map Value.ref).toArray }).get? h'.objs.size = some (seqObj "list" (as.map Value.ref).toArray 0) := Heap.get?_push_size _ rfl
  have up : ∀ b u, h'.get? b = some u → (h'.push { cls := .type "list", data := .seq (as.map Value.ref).toArray }).get? b = some u := fun b u e => Heap.get?_push_of_some _ e
  have ne0 : ∀ b u, h'.get? b = some u → b ≠ h'.objs.size := fun b u e => Nat.ne_of_lt (Heap.lt_size e)
  generalize hh2 : h'.push { cls := .type "list", data := .seq (as.map Value.ref).toArray } = h2 at hob up ⊢
  have made2 : ∀ (j : Nat) (b : Addr), as[j]? = some b → ∃ q, ps[j]? = some q ∧ Srt.IsPair h2 (Value.ref b) q.1 q.2 := fun j b hj => by
    obtain ⟨q, hq1, a0, o0, t0, u0, n0, e0, g0, c0, d0⟩ := made j b hj
    exact ⟨q, hq1, a0, o0, t0, u0, n0, e0, up _ _ g0, c0, d0⟩
  let key : Value → Int × Int := fun v => if h : ∃ q : Int × Int, Srt.IsPair h2 v q.1 q.2 then h.choose else (0, 0)
  have hkey : ∀ (v : Value) (q : Int × Int), Srt.IsPair h2 v q.1 q.2 → key v = q := fun v q h => by
    have hex2 : ∃ q : Int × Int, Srt.IsPair h2 v q.1 q.2 := ⟨q, h⟩
    show (if h : ∃ q : Int × Int, Srt.IsPair h2 v q.1 q.2 then h.choose else (0, 0)) = q
    rw [dif_pos hex2]
    obtain ⟨e1, e2⟩ := isPair_one hex2.choose_spec h
    exact Prod.ext e1 e2
  have hall : ∀ v ∈ as.map Value.ref, Srt.IsPair h2 v (key v).1 (key v).2 := fun v hv => by
    obtain ⟨b, hb, rfl⟩ := List.mem_map.mp hv
    obtain ⟨j, hj⟩ := List.mem_iff_getElem?.mp hb
    obtain ⟨q, _, hq2⟩ := made2 j b hj
    rw [hkey _ q hq2]
    exact hq2
  have hvz : (as.map Value.ref).length ≤ sizeLine := by rw [List.length_map, lak]; exact hzp
  refine wpAny_call_entry PyProof.Rows.slot_list_sort ⟨_, hob, rfl⟩ PyProof.Rows.entry_list_sort (SrtO.list_sort_ord (s := { s with heap := h2, toks := tk }) (ltv := fun v u => SrtO.lexB (key v) (key u)) (SrtO.swo_lex key) hob hvz
    (fun h2v => SrtO.pairs_sortableO (by omega) hall fun u eu => ?_) fun out hsort hstab => ⟨_, rfl, ?_⟩) (PyProof.Rows.args_list_sort _)
  · have e : some (seqObj "list" (as.map Value.ref).toArray 0) = some u := hob.symm.trans eu
    cases e
    intro z
    exact absurd (Value.type.inj z) (by decide)
  -- behind the sort
  have hperm : out.Perm (as.map Value.ref) := hstab.perm
  have houtref : ∀ v ∈ out, ∃ b, v = Value.ref b ∧ b ∈ as := fun v hv => by
    obtain ⟨b, hb, e⟩ := List.mem_map.mp (hperm.mem_iff.mp hv)
    exact ⟨b, e.symm, hb⟩
  have hout : out = (out.map adr).map Value.ref := by
    rw [List.map_map]
    conv => lhs; rw [← List.map_id out]
    refine List.map_congr_left fun v hv => ?_
    obtain ⟨b, rfl, _⟩ := houtref v hv
    rfl
  have htperm : (out.map adr).Perm as := by
    have := hperm.map adr
    rw [List.map_map] at this
    have e : as.map (adr ∘ Value.ref) = as := by
      conv => rhs; rw [← List.map_id as]
      exact List.map_congr_left fun _ _ => rfl
    rw [e] at this
    exact this
  have hps : as.map (fun t => key (.ref t)) = ps := by
    refine List.ext_getElem? fun j => ?_
    rw [List.getElem?_map]
    cases hj : as[j]? with
    | none =>
      have : ps.length ≤ j := by rw [← lak]; exact List.getElem?_eq_none_iff.mp hj
      rw [List.getElem?_eq_none this]
      rfl
    | some b =>
      obtain ⟨q, hq1, hq2⟩ := made2 j b hj
      rw [hq1]
      show some (key (.ref b)) = some q
      rw [hkey _ q hq2]
  generalize hts : out.map adr = ts at hout htperm
  have old : ∀ b u, b ≠ h'.objs.size → h2.get? b = some u → (sortedHeap h2 h'.objs.size (as.map Value.ref) out.toArray).get? b = some u := fun b u hb e => (PyProof.Rows.sortedHeap_old hb (Heap.lt_size e)).trans e
  have oldS : ∀ b u, s.heap.get? b = some u → (sortedHeap h2 h'.objs.size (as.map Value.ref) out.toArray).get? b = some u := fun b u e => old b u (ne0 _ _ (hk b u e)) (up b u (hk b u e))
  obtain ⟨n3, hn3⟩ := PyProof.Rows.sortedHeap_at (vs := as.map Value.ref) (out := out.toArray) hob
  generalize sortedHeap h2 h'.objs.size (as.map Value.ref) out.toArray = h3 at old oldS hn3 ⊢
  have I1 : Inv X pins σ H { s with heap := h3, toks := tk } := I.kept (t' := tk) oldS
  have hn0 : H h'.objs.size = none := I.hok.fresh (Nat.le_of_lt hlt)
  have hlents : ts.length = ps.length := htperm.length_eq.trans lak
  have hvals : Vals (ts.map V.ref) out := by
    rw [hout]
    exact vals_refs ts
  have I2 : Inv X pins σ (upd H h'.objs.size (.lst (ts.map V.ref))) { s with heap := h3, toks := tk } :=
    I1.take (h' := h3) (t' := tk) (fun b u _ e => e) (I.fpOk (Nat.le_of_lt hlt) hn0) ⟨by rw [List.length_map, hlents]; exact hzp, out, n3, hvals, hn3⟩
  obtain ⟨H2, I3, hgr, htup⟩ := takeT (P := fun b zs => zs = [V.int (key (.ref b)).1, V.int (key (.ref b)).2]) I as _ I2 nd fun b hb => by
    obtain ⟨j, hj⟩ := List.mem_iff_getElem?.mp hb
    obtain ⟨q, _, hq2⟩ := made2 j b hj
    have hkq := hkey _ q hq2
    obtain ⟨a0, o0, t0, u0, n0, e0, g0, c0, d0⟩ := hq2
    cases e0
    have hsz : s.heap.objs.size ≤ b := Nat.le_of_lt (hG.above b hb)
    have hb0 : b ≠ h'.objs.size := Nat.ne_of_lt (hG.there hb)
    refine ⟨hsz, by rw [upd_ne hb0]; exact I.hok.fresh hsz, _, rfl, fun H3 => ⟨?_, [Value.int q.1 t0, Value.int q.2 u0], ?_, o0, old _ _ hb0 g0, c0, n0, d0⟩⟩
    · rw [sizeLine_eq]
      show 2 ≤ _
      decide
    · rw [hkq]
      exact .cons ⟨t0, rfl⟩ (.cons ⟨u0, rfl⟩ .nil)
  refine ⟨V.ref h'.objs.size, H2, I3, rfl, hq H2 h'.objs.size ts (ts.map fun t => key (.ref t)) (fun b u e => hgr b u (by rw [upd_ne (ne_of_none e hn0)]; exact e)) ?_ ?_ hn0 (fun t ht => I.hok.fresh (Nat.le_of_lt (hG.above t (htperm.mem_iff.mp ht)))) (hgr _ _ upd_same) (by rw [List.length_map]) fun j t q hj hqj => ?_⟩
  · rw [← hps]
    exact htperm.map _
  · have hsort2 : (ts.map Value.ref).Pairwise fun x y => SrtO.lexB (key y) (key x) = false := by
      rw [← hout]
      exact hsort
    rw [List.pairwise_map] at hsort2
    rw [List.pairwise_map]
    refine List.Pairwise.imp (fun {v u} hvu => ?_) hsort2
    have := SrtO.lexB_no.mp hvu
    show lexLe (key (.ref v)) (key (.ref u))
    unfold lexLe
    omega
  · rw [List.getElem?_map, hj] at hqj
    cases hqj
    obtain ⟨zs, hz1, hz2⟩ := htup t (htperm.mem_iff.mp (List.mem_of_getElem? hj))
    rw [hz2, hz1]
/-- what is new, never changes from now on -/
def nwF (F H' : Hp) (as : List Addr) : Hp := fun b => if b ∈ as then H' b else F b
theorem nwF_in {F H' : Hp} {as : List Addr} {a : Addr} (h : a ∈ as) : nwF F H' as a = H' a := if_pos h
theorem nwF_ext {F H H' : Hp} {as : List Addr} (hs : Ext F H) (hn : ∀ a ∈ as, H a = none) : Ext F (nwF F H' as) := fun b o h => by
  have : b ∉ as := fun hb => by
    have h1 := hn b hb
    rw [hs b o h] at h1
    cases h1
  show (if b ∈ as then H' b else F b) = some o
  rw [if_neg this]
  exact h
theorem RelM.news {K : PySem.W.Frag} {Z F H H' : Hp} {M : MH} (r : RelM K Z F H M) (e : Ext H H') {as : List Addr} (hn : ∀ a ∈ as, H a = none) : RelM K Z (nwF F H' as) H' M := by
  have r2 := r.more e
  have hout : ∀ b o, H b = some o → b ∉ as := fun b o h hb => by
    have h1 := hn b hb
    rw [h] at h1
    cases h1
  refine ⟨fun b o h => ?_, fun b o h => ?_, fun b m h => ?_⟩
  · by_cases hb : b ∈ as
    · rw [nwF_in hb] at h
      exact h
    · rw [show nwF F H' as b = F b from if_neg hb] at h
      exact r2.sub b o h
  · obtain ⟨q1, q2, q3⟩ := r.hid b o h
    exact ⟨e b o q1, by rw [show nwF F H' as b = F b from if_neg (hout b o q1)]; exact q2, q3⟩
  · obtain ⟨q1, q2⟩ := r.chg b m h
    obtain ⟨o, ho⟩ := q2.some
    refine ⟨by rw [show nwF F H' as b = F b from if_neg (hout b o ho)]; exact q1, (r2.chg b m h).2.mono (nwF_ext r.sub hn) rfl⟩
theorem reps_prs {K : PySem.W.Frag} {F : Hp} : ∀ {ts : List Addr} {qs : List (Int × Int)}, ts.length = qs.length → (∀ (j : Nat) (t : Addr) (q : Int × Int), ts[j]? = some t → qs[j]? = some q → F t = some (.tup [V.int q.1, V.int q.2])) → Reps K F (ts.map V.ref) (qs.map prD)
  | [], [], _, _ => .nil
  | t :: ts, q :: qs, hl, h => .cons (.tup (SqT.of (h 0 t q rfl rfl)) (.cons (.int _) (.cons (.int _) .nil))) (reps_prs (by simpa using hl) fun j t q h1 h2 => h (j + 1) t q h1 h2)
  | [], _ :: _, hl, _ => by cases hl
  | _ :: _, [], hl, _ => by cases hl
abbrev entD (q : Int × Int) : Key × Dat := (Sum.inl q.1, .int q.2)
theorem repK_ents {K : PySem.W.Frag} {F : Hp} : ∀ {vs : List (Key × V)} {ps : List (Int × Int)}, RepK K F vs (ps.map entD) → vs = ps.map entI
  | _, [], r => by
    cases r
    rfl
  | _, p :: ps, r => by
    cases r with
    | cons r1 r2 => rw [r1.toInt, repK_ents r2]; rfl
variable {d e : Expr} {da : TED} {pos p apos cpos : Pos}
/-- sorted(d.items()) -/
def dSortI (da : TED) : TED := fun ρ M Q => da ρ M fun x M1 => ∃ ps : List (Int × Int), dicR M1 x = some (ps.map entD) ∧ ∀ qs : List (Int × Int), qs.Perm ps → qs.Pairwise lexLe → Q (.lst (qs.map prD)) M1
theorem de_sortItems (hc : X.calm = true) (ho : DE X d da) (hg : Gl X "sorted") (hm : X.mg "sorted" = none) (hbase : attributeBase d "items" X.env (eval d X.env) = eval d X.env := by rfl) (hline : (apos.endLine == cpos.line) = true := by rfl)
    (he : starEach [.Call (.Attribute d "items" apos) [] [] cpos] X.env = (false, eval (.Call (.Attribute d "items" apos) [] [] cpos) X.env) :: starEach [] X.env := by rfl) : DE X (.Call (.Name "sorted" p) [.Call (.Attribute d "items" apos) [] [] cpos] [] pos) (dSortI da) :=
  pe_w (pe_callB (cr_sortIK hc) hg hm rfl (pa_cons (pe_bm0 PySem.F.plainAttrs_dict PySem.F.slot_dict_items PySem.F.type_dict_items mt_itemsK ho hbase hline) pa_nil he) (by decide) (by decide) he rfl) fun σ H Q ⟨Z, F, M, ρ, QD, R, h, o⟩ => by
    refine ⟨Z, F, M, ρ, _, R, h, fun x a F1 H1 M1 e1 R1 r1 h1 => ?_⟩
    obtain ⟨ps, q1, q2⟩ := h1
    obtain ⟨dd, vs, rfl, q5, q6⟩ := dicR_rep R1 r1 q1
    cases repK_ents q6
    refine ⟨Or.inr (Or.inr (Or.inl ⟨rfl, Or.inl ⟨_, q5⟩⟩)), dd, _, rfl, rfl, q5, fun c hc => ?_⟩
    have hcd : dd ≠ c := ne_of_none q5 hc
    refine ⟨c, dd, ps, rfl, upd_same, by rw [upd_ne hcd]; exact q5, fun H' l ts qs x1 hp hs hl hts hl' hlen hall => ?_⟩
    have R2 := R1.more (Ext.new (o := itemsO c dd) hc)
    have hn : ∀ a ∈ l :: ts, upd H1 c (itemsO c dd) a = none := fun a ha => by
      rcases List.mem_cons.mp ha with h | h
      · rw [h]
        exact hl
      · exact hts a h
    have R3 := R2.news x1 hn
    have x2 := nwF_ext (H' := H') R2.sub hn
    refine o _ _ _ _ M1 (e1.trans x2) R3 (.lst (xs := ts.map V.ref) ?_ (reps_prs hlen fun j t q h1 h2 => ?_)) (q2 qs hp hs)
    · rw [nwF_in (List.mem_cons_self ..)]
      exact hl'
    · rw [nwF_in (List.mem_cons_of_mem _ (List.mem_of_getElem? h1))]
      exact hall j t q h1 h2
end
end DL
namespace DL
open PySem PySem.Spec PyProof.Rows L2 L2.DX
/-! ### for k, v in d.items(), where d is not used afterwards -/
def tLockV (t : TE) : TE := fun σ H Q => t σ H fun x H1 => ∃ d u, x = .ref d ∧ H1 d = some u ∧ Mut (some u) ∧ ∀ od, Q x (upd H1 d (.frz od u))
theorem pe_lockV {X : Cx} {e : Expr} {t : TE} (h : PE X e t) : PE X e (tLockV t) := by
  refine ⟨fun pins s σ H Q I hw => ?_⟩
  refine thn (h.run pins s σ H _ I hw) fun v s1 ⟨x, H1, I1, r, d, u, ex, hd, mu, q⟩ => ?_
  obtain ⟨od, I2⟩ := I1.lock hd mu
  exact ⟨x, _, I2, r, q od⟩
theorem RelM.lockD {K : PySem.W.Frag} {Z F H : Hp} {M : MH} {p : Addr} {m : MO} {o : HO} (r : RelM K Z F H M) (h : M p = some m) : RelM K Z (upd F p o) (upd H p o) (delM M p) ∧ Ext F (upd F p o) := by
  have hf := (r.chg p m h).1
  have e := Ext.new (o := o) hf
  refine ⟨⟨fun b u q => ?_, fun b u q => ?_, fun b n q => ?_⟩, e⟩
  · by_cases hb : b = p
    · subst hb
      rw [upd_same] at q ⊢
      exact q
    · rw [upd_ne hb] at q ⊢
      exact r.sub b u q
  · obtain ⟨q1, q2, q3⟩ := r.hid b u q
    have hb : b ≠ p := (ne_dom h q3).symm
    exact ⟨by rw [upd_ne hb]; exact q1, by rw [upd_ne hb]; exact q2, by rw [delM_ne hb]; exact q3⟩
  · by_cases hb : b = p
    · subst hb
      rw [delM_same] at q
      cases q
    · rw [delM_ne hb] at q
      obtain ⟨q1, q2⟩ := r.chg b n q
      exact ⟨by rw [upd_ne hb]; exact q1, q2.mono e (upd_ne hb)⟩
def itemsD (kvs : List (Key × Dat)) : List Dat := kvs.map fun e => .tup [kD e.1, e.2]
theorem kD_repV {K : PySem.W.Frag} {F : Hp} (k : Key) : Rep K F (kV k) (kD k) := by
  cases k with
  | inl i => exact .int i
  | inr s => exact .str s
theorem RepK.get {K : PySem.W.Frag} {F : Hp} : ∀ {vs : List (Key × V)} {ds : List (Key × Dat)}, RepK K F vs ds → ∀ {i : Nat} {e : Key × Dat}, ds[i]? = some e → ∃ v, vs[i]? = some (e.1, v) ∧ Rep K F v e.2
  | _, [], _, _, _, h => by simp at h
  | _, d :: ds, r, i, e, h => by
    cases r with
    | cons r1 r2 =>
      cases i with
      | zero =>
        cases h
        exact ⟨_, rfl, r1⟩
      | succ i => exact RepK.get r2 h
theorem walk_items {K : PySem.W.Frag} {F : Hp} {d : Addr} {o : Obj} {vs : List (Key × V)} {kvs : List (Key × Dat)} (q : F d = some (.frz o (.dK vs))) (r : RepK K F vs kvs) : WalkD K F (Iti d o vs) (itemsD kvs) := by
  have hl : (itemsD kvs).length = vs.length := by
    unfold itemsD
    rw [List.length_map, r.len]
  refine ⟨fun Z i F' H M e R h => ⟨(e.trans R.sub) _ _ q, by omega⟩, fun Z F' H M e R => ⟨(e.trans R.sub) _ _ q, by omega⟩, fun Z i F' H M x H' dd e R y hd => ?_⟩
  obtain ⟨T, k, v, h1, rfl, nT, rfl⟩ := y
  unfold itemsD at hd
  rw [List.getElem?_map] at hd
  cases h2 : kvs[i]? with
  | none =>
    rw [h2] at hd
    cases hd
  | some en =>
    rw [h2] at hd
    cases hd
    obtain ⟨v2, h3, rv⟩ := r.get h2
    rw [h1] at h3
    cases h3
    obtain ⟨R4, e4⟩ := R.newF (o := .tup [kV en.1, v]) nT
    exact ⟨_, e4, R4, .tup (SqT.of upd_same) (.two (kD_repV _) (rv.mono (e.trans e4)))⟩
section
variable {X : Cx} {e : Expr} {elts : List Expr} {kk : Nat} {tpos apos cpos : Pos}
def dIItems (de : TED) : TID := fun ρ M R => de ρ M fun x M1 => ∃ a kvs, x = .ref a ∧ M1 a = some (.dic kvs) ∧ R (itemsD kvs) (delM M1 a)
theorem di_items {de : TED} (he : DE X e de) (hbase : attributeBase e "items" X.env (eval e X.env) = eval e X.env := by rfl) (hline : (apos.endLine == cpos.line) = true := by rfl) :
    DI X (.Tuple elts kk tpos) (.Call (.Attribute e "items" apos) [] [] cpos) (dIItems de) := pi_w (pi_items (pe_lockV he) hbase hline) fun σ H R ⟨Z, F, M, ρ, RD, R0, h, o⟩ => by
  refine ⟨Z, F, M, ρ, _, R0, h, fun x a F1 H1 M1 e1 R1 r1 h1 => ?_⟩
  obtain ⟨p, kvs, rfl, q1, q2⟩ := h1
  cases r1
  obtain ⟨q3, vs, q4, q5⟩ := R1.chg _ _ q1
  refine ⟨p, _, rfl, q4, trivial, fun od => ⟨p, od, vs, rfl, upd_same, ?_⟩⟩
  obtain ⟨R2, e2⟩ := R1.lockD (o := .frz od (.dK vs)) q1
  exact o _ _ _ _ _ (e1.trans e2) R2 (walk_items upd_same (q5.mono e2)) q2
end
end DL
namespace DL
open PySem PySem.Spec PyProof.Rows L2 L2.DX
/-! ### dict comprehensions -/
def dcGo (g : TGD) (tt : TTD) (tk tv : TED) (ρ : EnvD) (mk : Bool) (Q : VKD) : List Dat → List (Key × Dat) → MH → Prop
  | [], acc, M => newD mk acc M Q
  | x :: r, acc, M => g x ρ M fun ρ2 M2 => tt ρ2 M2 fun b M3 => if b = true then tk ρ2 M3 fun y M4 => tv ρ2 M4 fun z M5 => ∃ k, keyD y = some k ∧ dcGo g tt tk tv ρ mk Q r (putKD acc k z) M5 else dcGo g tt tk tv ρ mk Q r acc M3
def dDc (mk : Bool) (vs : List Nat) (di : TID) (g : TGD) (tt : TTD) (tk tv : TED) : TED := fun ρ M Q => di ρ M fun ds M1 => ds.length ≤ sizeLine ∧ dcGo g tt tk tv (wipeD ρ vs) mk Q ds [] M1
theorem putKD_len (ds : List (Key × Dat)) (k : Key) (v : Dat) : (putKD ds k v).length ≤ ds.length + 1 := by
  unfold putKD
  split
  · rw [List.length_map]
    omega
  · rw [List.length_append, List.length_singleton]
    omega
theorem up_dc {K : PySem.W.Frag} {mk : Bool} {vs : List Nat} {di : TID} {g : TGD} {tt : TTD} {tk tv : TED} {σ : L2.St} {H : Hp} {Q : VK} (h : up K (dDc mk vs di g tt tk tv) σ H Q) : tDc (upI K di) (upGo K vs g) (upT K tt) (up K tk) (up K tv) vs σ H Q := by
  obtain ⟨Z, F, M, ρ, QD, R, h, o⟩ := h
  refine ⟨Z, F, M, ρ, _, R, h, fun ds J F1 H1 M1 e1 R1 w1 h1 => ?_⟩
  obtain ⟨hz, h1⟩ := h1
  intro D hD
  have hidD : ∀ {F : Hp} {H : Hp} {M : MH} {accv : List (Key × V)}, RelM K (upd Z D (.dK accv)) F H M → H D = some (.dK accv) ∧ F D = none ∧ M D = none := fun R => R.hid D _ upd_same
  -- the hidden list, put away and taken up
  have hide : ∀ {F H : Hp} {M : MH} {accv : List (Key × V)}, RelM K Z F H M → H D = some (.dK accv) → F D = none → M D = none → RelM K (upd Z D (.dK accv)) F H M := fun {F H M accv} R hH hF hM =>
    ⟨R.sub, fun b u q => by
      by_cases hb : b = D
      · subst hb
        rw [upd_same] at q
        cases q
        exact ⟨hH, hF, hM⟩
      · rw [upd_ne hb] at q
        exact R.hid b u q, R.chg⟩
  have hZD : Z D = none := by
    cases q : Z D with
    | none => rfl
    | some u =>
      rw [(R1.hid D u q).1] at hD
      cases hD
  have bare : ∀ {F H : Hp} {M : MH} {accv : List (Key × V)}, RelM K (upd Z D (.dK accv)) F H M → RelM K Z F H M := fun {F H M accv} R =>
    ⟨R.sub, fun b u q => R.hid b u (by rw [upd_ne (ne_of_none q hZD)]; exact q), R.chg⟩
  refine ⟨fun i m H => m = ds.length - i ∧ i ≤ ds.length ∧ ∃ F' M accv acc, Ext F1 F' ∧ RelM K Z F' H M ∧ H D = some (.dK accv) ∧ F' D = none ∧ M D = none ∧ RepK K F' accv acc ∧ acc.length ≤ i ∧ dcGo g tt tk tv (wipeD ρ vs) mk QD (ds.drop i) acc M,
    ⟨ds.length, by simp, Nat.zero_le _, F1, M1, [], [], Ext.refl _, ⟨fun b u q => ?_, fun b u q => ?_, fun b m q => ?_⟩, upd_same, (R1.fresh hD).1, (R1.fresh hD).2, .nil, Nat.le_refl _, h1⟩, ?_⟩
  · rw [upd_ne (ne_of_none (R1.sub b u q) hD)]
    exact R1.sub b u q
  · obtain ⟨q1, q2, q3⟩ := R1.hid b u q
    exact ⟨by rw [upd_ne (ne_of_none q1 hD)]; exact q1, q2, q3⟩
  · obtain ⟨q1, q2⟩ := R1.chg b m q
    exact ⟨q1, q2.mono (Ext.refl _) (upd_ne (R1.ne hD q))⟩
  rintro i m H2 ⟨rfl, hi, F2, M2, accv, acc, e2, R2, a1, a2, a3, a4, a5, h2⟩
  by_cases hlt : i < ds.length
  · obtain ⟨d, hd⟩ : ∃ d, ds[i]? = some d := ⟨ds[i], List.getElem?_eq_getElem hlt⟩
    have hdr : ds.drop i = d :: ds.drop (i + 1) := by
      obtain ⟨h5, h6⟩ := List.getElem?_eq_some_iff.mp hd
      rw [List.drop_eq_getElem_cons h5, h6]
    rw [hdr] at h2
    unfold dcGo at h2
    refine .inr ⟨w1.go Z i F2 H2 M2 e2 R2 hlt, fun H' => ∃ F' M accv acc, Ext F1 F' ∧ RelM K Z F' H' M ∧ H' D = some (.dK accv) ∧ F' D = none ∧ M D = none ∧ RepK K F' accv acc ∧ acc.length ≤ i + 1 ∧ dcGo g tt tk tv (wipeD ρ vs) mk QD (ds.drop (i + 1)) acc M,
      fun H' n => ⟨ds.length - (i + 1), by omega, rfl, hlt, n⟩, fun x H' y => ?_⟩
    have R2h := hide R2 a1 a2 a3
    · obtain ⟨F3, e3, R3, r3⟩ := w1.yld (upd Z D (.dK accv)) i F2 H2 M2 x H' d e2 R2h y hd
      have R0 : Rel K (upd Z D (.dK accv)) F3 H' M2 (wipe σ vs) (wipeD ρ vs) := ⟨R3, (wipeD_rep R.e vs).mono ((e1.trans e2).trans e3)⟩
      refine ⟨upd Z D (.dK accv), F3, M2, wipeD ρ vs, d, _, R0, r3, h2, fun σ4 ρ4 F4 H4 M4 e4 R4 wp h4 => ⟨wp.trans wipe_wipe, ?_⟩⟩
      refine ⟨upd Z D (.dK accv), F4, M4, ρ4, _, R4, h4, fun b F5 H5 M5 e5 R5 h5 => ?_⟩
      have e15 := ((e2.trans e3).trans e4).trans e5
      cases b with
      | true =>
        dsimp only at h5 ⊢
        rw [if_pos rfl] at h5 ⊢
        refine ⟨upd Z D (.dK accv), F5, M5, ρ4, _, R4.ext e5 R5, h5, fun yv yd F7 H7 M7 e7 R7 r7 h7 => ?_⟩
        refine ⟨upd Z D (.dK accv), F7, M7, ρ4, _, (R4.ext e5 R5).ext e7 R7, h7, fun zv zd F6 H6 M6 e6 R6 r6 h6 => ?_⟩
        obtain ⟨k, hk, h6⟩ := h6
        obtain ⟨b1, b2, b3⟩ := hidD R6
        refine ⟨accv, k, keyD_rep r7 hk, b1, by have := a4.len; omega, F6, M6, putK accv k zv, putKD acc k zd, (e15.trans e7).trans e6, ⟨fun b u q => ?_, fun b u q => ?_, fun b m q => ?_⟩, upd_same, b2, b3, (a4.mono ((((e3.trans e4).trans e5).trans e7).trans e6)).put r6 k, by have := putKD_len acc k zd; omega, h6⟩
        · rw [upd_ne (ne_of_none q b2)]
          exact R6.sub b u q
        · obtain ⟨q1, q2, q3⟩ := (bare R6).hid b u q
          exact ⟨by rw [upd_ne (ne_of_none q hZD)]; exact q1, q2, q3⟩
        · obtain ⟨q1, q2⟩ := R6.chg b m q
          exact ⟨q1, q2.mono (Ext.refl _) (upd_ne (ne_dom q b3))⟩
      | false =>
        dsimp only at h5 ⊢
        rw [if_neg Bool.false_ne_true] at h5 ⊢
        obtain ⟨b1, b2, b3⟩ := hidD R5
        exact ⟨F5, M5, accv, acc, e15, bare R5, b1, b2, b3, a4.mono ((e3.trans e4).trans e5), by omega, h5⟩
  · have e : i = ds.length := by omega
    subst e
    rw [List.drop_length] at h2
    unfold dcGo at h2
    refine .inl ⟨w1.stop Z F2 H2 M2 e2 R2, ?_⟩
    cases mk with
    | false =>
      have h2' : QD (.dic acc) M2 := h2
      have ee := Ext.new (o := .dK accv) a2
      refine o _ _ (upd F2 D (.dK accv)) H2 M2 ((e1.trans e2).trans ee) ⟨fun b u q => ?_, fun b u q => ?_, fun b m q => ?_⟩ (.dic upd_same (a4.mono ee)) h2'
      · by_cases hb : b = D
        · subst hb
          rw [upd_same] at q
          cases q
          exact a1
        · rw [upd_ne hb] at q
          exact R2.sub b u q
      · obtain ⟨q1, q2, q3⟩ := R2.hid b u q
        exact ⟨q1, by rw [upd_ne (ne_of_none q hZD)]; exact q2, q3⟩
      · obtain ⟨q1, q2⟩ := R2.chg b m q
        exact ⟨by rw [upd_ne (ne_dom q a3)]; exact q1, q2.mono ee rfl⟩
    | true =>
      have h2' := (show ∀ a, M2 a = none → QD (.ref a) (updM M2 a (.dic acc)) from h2) D a3
      refine o _ _ F2 H2 (updM M2 D (.dic acc)) (e1.trans e2) ⟨R2.sub, fun b u q => ?_, fun b m q => ?_⟩ (.ref D) h2'
      · obtain ⟨q1, q2, q3⟩ := R2.hid b u q
        exact ⟨q1, q2, by rw [updM_ne (ne_of_none q hZD)]; exact q3⟩
      · by_cases hb : b = D
        · subst hb
          rw [updM_same] at q
          cases q
          exact ⟨a2, accv, a1, a4⟩
        · rw [updM_ne hb] at q
          exact R2.chg b m q
section
variable {X : Cx}
theorem de_dc (mk : Bool) {kx vx tg iter : Expr} {ifs : List Expr} {scope : Scope} {own : List (Str × Nat)} {pos : Pos} {di : TID} {g : TGD} {tt : TTD} {tk tv : TED} (hN : X.N.Nodup) (hi : DI X tg iter di) (ok : BlkOk X.N X.env.scope scope own)
    (hg : ∀ (s : Shared) (H : Hp) (C : Addr) (cl : List (Str × Addr)) (fp : List Addr), DGo (X.blk s H scope (compEnvC scope cl C X.env) fp) tg (own.map (·.2)) g) (ht : ∀ (s : Shared) (H : Hp) (C : Addr) (cl : List (Str × Addr)) (fp : List Addr), DTs (X.blk s H scope (compEnvC scope cl C X.env) fp) ifs tt)
    (hk : ∀ (s : Shared) (H : Hp) (C : Addr) (cl : List (Str × Addr)) (fp : List Addr), DE (X.blk s H scope (compEnvC scope cl C X.env) fp) kx tk)
    (he : ∀ (s : Shared) (H : Hp) (C : Addr) (cl : List (Str × Addr)) (fp : List Addr), DE (X.blk s H scope (compEnvC scope cl C X.env) fp) vx tv) (hc : X.calm = true := by rfl) (hs : ∀ x, foldedSetIterable iter X.env x = pure x := by intro _; rfl) :
    DE X (.DictComp kx vx [⟨tg, iter, ifs, 0⟩] scope pos) (dDc mk (own.map (·.2)) di g tt tk tv) := pe_w (pe_dc hc hN hi ok hg ht hk he hs) fun σ H Q h => up_dc h
theorem swd_true {kx vx : Expr} {gs : List Comprehension} {scope : Scope} {pos py : Pos} {y : Str} {l : Nat} {env : Env} (hk : env.scope.kind = .function) (hy : env.scope.names.lookup y = some .local) (hl : (py.line == pos.line) = true)
    (ha : (scope.names.any fun (n, k) => n == y && (k == .local || k == .cell)) = false) : swapsWith (.DictComp kx vx gs scope pos) (some (.Name y py)) l env = pure true := by
  have ky : env.kindOf y = some .local := hy
  have hb : env.blockKind = .function := by unfold Env.blockKind; rw [hk]; rfl
  unfold swapsWith
  simp only [hb, ky, ha, Expr.pos, hl]
  rfl
theorem ps_setDc {i : Nat} {y : Str} {py : Pos} {kx vx tg iter : Expr} {ifs : List Expr} {scope : Scope} {own : List (Str × Nat)} {pos spos : Pos} {wi : TI} {g : TG} {tt : TT} {tk tv : TE} (hc : X.calm = true) (hN : X.N.Nodup) (hy : X.N[i]? = some y) (hyl : X.env.scope.names.lookup y = some .local)
    (hsw : swapsWith (.DictComp kx vx [⟨tg, iter, ifs, 0⟩] scope pos) (some (.Name y py)) spos.line X.env = pure true) (hi : PI X tg iter wi) (ok : BlkOk X.N X.env.scope scope own)
    (hg : ∀ (s : Shared) (H : Hp) (C : Addr) (cl : List (Str × Addr)) (fp : List Addr), PG (X.blk s H scope (compEnvC scope cl C X.env) fp) tg g) (ht : ∀ (s : Shared) (H : Hp) (C : Addr) (cl : List (Str × Addr)) (fp : List Addr), PTs (X.blk s H scope (compEnvC scope cl C X.env) fp) ifs tt)
    (hk : ∀ (s : Shared) (H : Hp) (C : Addr) (cl : List (Str × Addr)) (fp : List Addr), PE (X.blk s H scope (compEnvC scope cl C X.env) fp) kx tk)
    (he : ∀ (s : Shared) (H : Hp) (C : Addr) (cl : List (Str × Addr)) (fp : List Addr), PE (X.blk s H scope (compEnvC scope cl C X.env) fp) vx tv) (hs : ∀ x, foldedSetIterable iter X.env x = pure x := by intro _; rfl) :
    PS X (.Assign [.Name y py] (.DictComp kx vx [⟨tg, iter, ifs, 0⟩] scope pos) spos) (tAsg (tDc wi g tt tk tv (own.map (·.2))) (gName i)) := by
  refine ⟨fun pins s σ H D I h => ?_⟩
  rw [exec_Assign_Name_used _ _ _ _ hsw]
  refine wpAny_bind (wpAny_standAt (wpAny_bind ?_))
  show wpAny _ X.A (do let _ ← comprehension (.DictComp kx vx [⟨tg, iter, ifs, 0⟩] scope pos) scope X.env (firstIterPos [⟨tg, iter, ifs, 0⟩] pos) newDict false (eval iter X.env) (some (assign (.Name y py) X.env))) _ _ s
  have h : tDc wi g tt tk tv (own.map (·.2)) σ H (fun x H1 => gName i x σ H1 D.nx) := h
  refine wpAny_bind (thn (dc_core (Qf := fun _ s' => SP X pins D .next s') hc hN I hi ok hg ht hk he hs h fun L C s' m H' I' q hn f => ?_) fun _ s' hq => wpAny_pure (wpAny_pure hq))
  show wpAny _ _ (assign (.Name y py) X.env (.ref L)) _ _ _
  refine wpAny_assign_Name (store_ok2 (v := V.ref L) I' hN hy (.inl hyl) rfl (fun s2 I2 ⟨a, sb, ha⟩ => ?_) (.inr hyl))
  obtain ⟨f0, f1, f2, f3, f4, f5⟩ := f
  have haC : C ≠ a := by
    rcases ha with z | z
    · rw [z]; exact f1
    · exact fun e => f4 y a z e.symm
  refine ⟨m, hn.sameBut sb haC, fun h3 sb3 => ?_⟩
  exact ⟨_, H', I2.turned (t' := s2.toks) (fun b o hb e => (sb3.2 b hb).trans e) f0 f1 f3 f4 f5, q⟩
theorem ds_setDc {i : Nat} (mk : Bool) {y : Str} {py : Pos} {kx vx tg iter : Expr} {ifs : List Expr} {scope : Scope} {own : List (Str × Nat)} {pos spos : Pos} {di : TID} {g : TGD} {tt : TTD} {tk tv : TED} (hN : X.N.Nodup) (hi : DI X tg iter di) (ok : BlkOk X.N X.env.scope scope own)
    (hg : ∀ (s : Shared) (H : Hp) (C : Addr) (cl : List (Str × Addr)) (fp : List Addr), DGo (X.blk s H scope (compEnvC scope cl C X.env) fp) tg (own.map (·.2)) g) (ht : ∀ (s : Shared) (H : Hp) (C : Addr) (cl : List (Str × Addr)) (fp : List Addr), DTs (X.blk s H scope (compEnvC scope cl C X.env) fp) ifs tt)
    (hk : ∀ (s : Shared) (H : Hp) (C : Addr) (cl : List (Str × Addr)) (fp : List Addr), DE (X.blk s H scope (compEnvC scope cl C X.env) fp) kx tk)
    (he : ∀ (s : Shared) (H : Hp) (C : Addr) (cl : List (Str × Addr)) (fp : List Addr), DE (X.blk s H scope (compEnvC scope cl C X.env) fp) vx tv) (hy : X.N[i]? = some y := by rfl) (hyl : X.env.scope.names.lookup y = some .local := by rfl)
    (hsw : swapsWith (.DictComp kx vx [⟨tg, iter, ifs, 0⟩] scope pos) (some (.Name y py)) spos.line X.env = pure true := by exact swd_true rfl rfl rfl (by decide +kernel)) (hc : X.calm = true := by rfl) (hs : ∀ x, foldedSetIterable iter X.env x = pure x := by intro _; rfl) :
    DS X (.Assign [.Name y py] (.DictComp kx vx [⟨tg, iter, ifs, 0⟩] scope pos) spos) (dAsg (dDc mk (own.map (·.2)) di g tt tk tv) (dgN i)) := ps_w (ps_setDc hc hN hy hyl hsw hi ok hg ht hk he hs) fun D σ H ⟨Z, F, M, ρ, DD, R, h, o⟩ => by
  refine up_dc (Q := fun x H1 => gName i x σ H1 D.nx) ⟨Z, F, M, ρ, _, R, h, fun v d F1 H1 M1 e1 R1 r1 h1 => ?_⟩
  refine o.nx _ _ _ _ _ e1 ⟨R1, ?_⟩ h1
  rw [setD_set]
  exact (R.e.mono e1).set r1 i
end
def dDicM : TED := fun _ M Q => ∀ a, M a = none → Q (.ref a) (updM M a (.dic []))
theorem de_dicM {X : Cx} {pos : Pos} : DE X (.Dict [] [] pos) dDicM := pe_w pe_dnewK fun σ H Q ⟨Z, F, M, ρ, QD, R, h, o⟩ => by
  intro p hp
  have R2 := R.m.newM (o := .dK []) (m := .dic []) hp ⟨[], upd_same, .nil⟩
  exact o _ _ F _ _ (Ext.refl F) R2 (.ref p) (h p (R.m.fresh hp).2)
theorem dc_by {g : TGD} {tt : TTD} {tk tv : TED} {ρ : EnvD} {mk : Bool} {Q : VKD} (I : List Dat → List (Key × Dat) → MH → Prop) (hend : ∀ acc M, I [] acc M → newD mk acc M Q)
    (step : ∀ x r acc M (k : List (Key × Dat) → MH → Prop), I (x :: r) acc M → (∀ acc M, I r acc M → k acc M) → g x ρ M fun ρ2 M2 => tt ρ2 M2 fun b M3 => if b = true then tk ρ2 M3 fun y M4 => tv ρ2 M4 fun z M5 => ∃ kk, keyD y = some kk ∧ k (putKD acc kk z) M5 else k acc M3) : ∀ ds acc M, I ds acc M → dcGo g tt tk tv ρ mk Q ds acc M
  | [], acc, M, h => hend acc M h
  | x :: r, acc, M, h => step x r acc M (fun acc M => dcGo g tt tk tv ρ mk Q r acc M) h fun acc M h => dc_by I hend step r acc M h
theorem dc_n {g : TGD} {tt : TTD} {tk tv : TED} {ρ : EnvD} {mk : Bool} {Q : VKD} {lo : Int} {n : Nat} {M : MH} (I : Nat → List (Key × Dat) → MH → Prop) (h0 : I 0 [] M) (hend : ∀ acc M, I n acc M → newD mk acc M Q)
    (step : ∀ i acc M (k : List (Key × Dat) → MH → Prop), i < n → I i acc M → (∀ acc M, I (i + 1) acc M → k acc M) → g (.int (lo + (i : Nat))) ρ M fun ρ2 M2 => tt ρ2 M2 fun b M3 => if b = true then tk ρ2 M3 fun y M4 => tv ρ2 M4 fun z M5 => ∃ kk, keyD y = some kk ∧ k (putKD acc kk z) M5 else k acc M3) : dcGo g tt tk tv ρ mk Q (rngD lo n) [] M := by
  refine dc_by (fun r acc M => ∃ i, r = (rngD lo n).drop i ∧ i ≤ n ∧ I i acc M) ?_ ?_ _ _ _ ⟨0, rfl, Nat.zero_le _, h0⟩
  · rintro acc M ⟨i, hr, hi, h⟩
    have : i = n := by
      have := congrArg List.length hr
      rw [List.length_drop] at this
      unfold rngD at this
      rw [List.length_map, List.length_range, List.length_nil] at this
      omega
    subst this
    exact hend acc M h
  · rintro d r acc M k ⟨i, hr, hi, h⟩ hk
    have hl : (rngD lo n).length = n := by unfold rngD; rw [List.length_map, List.length_range]
    have hlt : i < n := by
      rcases Nat.lt_or_ge i n with h | h
      · exact h
      · rw [List.drop_eq_nil_of_le (by omega)] at hr
        cases hr
    have hd : (rngD lo n).drop i = .int (lo + (i : Nat)) :: (rngD lo n).drop (i + 1) := by
      rw [List.drop_eq_getElem_cons (by omega)]
      congr 1
      unfold rngD
      rw [List.getElem_map, List.getElem_range]
    rw [hd] at hr
    injection hr with h1 h2
    subst h1
    exact step i acc M k hlt h fun acc M q => hk acc M ⟨i + 1, h2, by omega, q⟩
theorem putKD_new {ds : List (Key × Dat)} {k : Key} {v : Dat} (h : ∀ e ∈ ds, e.1 ≠ k) : putKD ds k v = ds ++ [(k, v)] := by
  unfold putKD
  rw [if_neg]
  rw [List.any_eq_true]
  rintro ⟨e, he, h2⟩
  exact h e he (of_decide_eq_true h2)
/-- a dict of ints by ints, as pairs -/
def putP (ps : List (Int × Int)) (k v : Int) : List (Int × Int) := if (ps.any fun q => decide (q.1 = k)) = true then ps.map (fun q => if q.1 = k then (q.1, v) else q) else ps ++ [(k, v)]
def getP (ps : List (Int × Int)) (k : Int) : Int := match ps.find? (fun q => decide (q.1 = k)) with
  | some q => q.2
  | none => 0
theorem putKD_ents (ps : List (Int × Int)) (k v : Int) : putKD (ps.map entD) (.inl k) (.int v) = (putP ps k v).map entD := by
  have e : ∀ q : Int × Int, decide ((entD q).1 = Sum.inl k) = decide (q.1 = k) := fun q => by
    by_cases h : q.1 = k
    · rw [decide_eq_true h, decide_eq_true (by show Sum.inl q.1 = Sum.inl k; rw [h])]
    · rw [decide_eq_false h, decide_eq_false (fun h2 => h (Sum.inl.inj h2))]
  unfold putKD putP
  rw [List.any_map, show ((fun kv : Key × Dat => decide (kv.1 = Sum.inl k)) ∘ entD) = fun q => decide (q.1 = k) from funext e]
  split
  · rw [List.map_map, List.map_map]
    refine List.map_congr_left fun q _ => ?_
    show (if (entD q).1 = Sum.inl k then ((entD q).1, Dat.int v) else entD q) = entD (if q.1 = k then (q.1, v) else q)
    by_cases h : q.1 = k
    · rw [if_pos h, if_pos (by show Sum.inl q.1 = Sum.inl k; rw [h])]
    · rw [if_neg h, if_neg (fun h2 => h (Sum.inl.inj h2))]
  · rw [List.map_append]
    rfl
theorem getKD_ents (ps : List (Int × Int)) (k : Int) : (valD (ps.map entD) (.inl k)).getD (.int 0) = .int (getP ps k) := by
  unfold valD getP
  rw [List.find?_map]
  rw [show ((fun kv : Key × Dat => decide (kv.1 = Sum.inl k)) ∘ entD) = fun q => decide (q.1 = k) from funext fun q => by
    by_cases h : q.1 = k
    · show decide (Sum.inl q.1 = (Sum.inl k : Key)) = _
      rw [decide_eq_true h, h, decide_eq_true rfl]
    · show decide (Sum.inl q.1 = (Sum.inl k : Key)) = _
      rw [decide_eq_false h, decide_eq_false (fun h2 => h (Sum.inl.inj h2))]]
  cases ps.find? fun q => decide (q.1 = k) <;> rfl
end DL
namespace DL
open PySem PySem.Spec PyProof.Rows L2 L2.DX
/-! ### len(set(xs)), distinct ints -/
section
variable {X : Cx}
def tLenSetB (K : PySem.W.Frag) (ta : TE) : TE := fun σ H Q => ta σ H fun x H1 => ∃ (l : Addr) (ns : List Int), x = V.ref l ∧ SqL K H1 l (ns.map V.int) ∧ ns.length < 4000 ∧ ns.Nodup ∧ Q (.int ns.length) H1
theorem pe_lenSetB {a : Expr} {ta : TE} {p p2 q pos : Pos} (hc : X.calm = true) (hg : Gl X "len") (hm : X.mg "len" = none) (hg2 : Gl X "set") (hm2 : X.mg "set" = none) (ha : PE X a ta)
    (na : starEach [a] X.env = (false, eval a X.env) :: starEach [] X.env := by rfl) : PE X (.Call (.Name "len" p) [.Call (.Name "set" p2) [a] [] q] [] pos) (tLenSetB X.K ta) := by
  refine ⟨fun pins s σ H Q I h => ?_⟩
  refine Call_ (ld_blt I hg hm PySem.boot_len ?_)
  refine PyProof.Rows.callWith_builtin1 (PyProof.Rows.args_cons ?_ rfl) rfl rfl
  refine Call_ (ld_blt I hg2 hm2 PyProof.Rows.boot_set ?_)
  refine PyProof.Rows.callWith_type1 (PyProof.Rows.args_cons (thn (ha.run pins s σ H _ I h) fun v s1 ⟨x, H1, I1, r1, q1⟩ => PyProof.Rows.args_nil ?_) na) na rfl
  obtain ⟨l, ns, rfl, hq, h1, hnd, q1⟩ := q1
  cases r1
  obtain ⟨its, r, pl, hz⟩ := I1.list hq
  have hl : its.toArray.size = ns.length := by rw [List.size_toArray, ← r.length, List.length_map]
  refine call_set_list (I1.ok.hd hc) pl.isList (ns := ns) (by simpa using r.ints) (by unfold scanBound; omega) fun h' tk hS hk => ?_
  rw [hl, firstMet_nodup ns hnd ns.length (Nat.le_refl _), List.take_length] at hS
  refine PyProof.Rows.args_nil ?_
  obtain ⟨o, es, ep, t, ho, hex, hd, _, _, _, hf, hn⟩ := hS
  have I2 : Inv X pins σ H1 { s1 with heap := h', toks := tk } := I1.kept fun b o e => hk b o (Heap.lt_size e) e
  refine call_len_set ho hex hd hf (by rw [hn] <;> omega) ⟨.int ns.length, H1, I2.tok _, ⟨_, by rw [hn]⟩, q1⟩
def dLenSet (da : TED) : TED := fun ρ M Q => da ρ M fun x M1 => ∃ ns : List Int, lsR M1 x = some (ns.map Dat.int) ∧ ns.length < 4000 ∧ ns.Nodup ∧ Q (.int (ns.length : Nat)) M1
theorem de_lenSet {a : Expr} {da : TED} {p p2 q pos : Pos} (hc : X.calm = true) (ha : DE X a da) (hg : Gl X "len") (hm : X.mg "len" = none) (hg2 : Gl X "set") (hm2 : X.mg "set" = none)
    (na : starEach [a] X.env = (false, eval a X.env) :: starEach [] X.env := by rfl) : DE X (.Call (.Name "len" p) [.Call (.Name "set" p2) [a] [] q] [] pos) (dLenSet da) :=
  pe_w (pe_lenSetB hc hg hm hg2 hm2 ha na) fun σ H Q ⟨Z, F, M, ρ, QD, R, h, o⟩ => by
    refine ⟨Z, F, M, ρ, _, R, h, fun x a F1 H1 M1 e1 R1 r1 h1 => ?_⟩
    obtain ⟨ns, q1, q2, q3, q4⟩ := h1
    obtain ⟨p, xs, rfl, q, rr⟩ := lsR_rep R1 r1 q1
    have e := rr.ints
    subst e
    exact ⟨p, ns, rfl, q, q2, q3, o _ _ F1 H1 M1 e1 R1 (.int _) q4⟩
end
end DL
namespace DL
open PySem PySem.Spec PyProof.Rows L2 LamX NdefX
/-! ### lambdas -/
/-- the words of a lambda -/
structure LamC where
  params : Arguments
  body : Expr
  scope : Scope
/-- .. and what its making gave: its name, its cells, its code object -/
structure LF where
  L : LamC
  qual : Str
  cl : List (Str × Addr)
  c : Addr
abbrev LF.nf (F : LF) : NF := ⟨"<lambda>", F.qual, F.L.params, [], F.L.scope, F.cl, F.c⟩
abbrev LF.fd (F : LF) (pm ctv : Value) : FuncData := PySem.W.kla_fn "<lambda>" F.qual F.L.params F.L.body F.L.scope F.cl pm (.ref F.c) ctv
/-- the object at f is the lambda F -/
def LamO (f : Addr) (F : LF) : HO := .ext fun h => ∃ (od : Option Addr) (sl : Array (Option Value)) (pm ctv : Value), h.get? f = some (⟨.type "function", od, .func (F.fd pm ctv), sl⟩ : Obj)
theorem lamO_at {P : Program} {w : World} {H : Hp} {h : Heap} {f : Addr} {F : LF} (hok : HOk P w H h) (e : H f = some (LamO f F)) : ∃ (od : Option Addr) (sl : Array (Option Value)) (pm ctv : Value), h.get? f = some (⟨.type "function", od, .func (F.fd pm ctv), sl⟩ : Obj) := by
  obtain ⟨z, _, _⟩ := hok f _ e
  exact z
/-- what a lambda promises: fr its captured names, ws what their cells hold at the call -/
structure LOk (P : Program) (w : World) (K : PySem.W.Frag) (mg : Str → Option Value) (base : Heap) (CX : CXT) (k : Nat) (F : LF) (ps fr : List Str) (sp : List (Option V) → Sp) : Prop where
  run : ∀ (A : Around) (outer : List Env) (s : Shared) (H : Hp) (f : Addr) (us : List Value) (vs : List V) (ws : List (Option V)) (Q : VK) (E : XK), Room k A → Env0 P w K mg base A outer s H → H f = some (LamO f F) → H F.c = some (CodeO F.c F.qual) →
    CellsAt F.cl fr ws s.heap H → Vals vs us → sp ws vs H Q E → codeAny (model P w) A (.call (.ref f) ⟨us, []⟩) (CR CX outer P w H s Q E) s
section
variable {CX : CXT} {P : Program} {w : World} {K : PySem.W.Frag} {mg : Str → Option Value} {base : Heap} {N ps fr : List Str} {F : LF} {k : Nat} {sp : List (Option V) → Sp}
theorem lok_of (S : NScope N ps fr F.L.scope) (hb : ∀ (pm ctv : Value) (us : List Value), us.length = ps.length → bindArgs (F.fd pm ctv) ⟨us, []⟩ = pure (ps.zip us)) (len : ∀ ws vs H Q E, ws.length = fr.length → sp ws vs H Q E → vs.length = ps.length)
    (hbody : ∀ (f : Addr) (A : Around) (outer : List Env) (s : Shared) (H : Hp) (vs : List V) (ws : List (Option V)) (Q : VK) (E : XK), Room k (A.deeper (envF F.nf f s.heap.objs.size)) → ws.length = fr.length → sp ws vs H Q E →
      ∃ t, PE (ncx CX P w K mg base N F.nf f A outer s H E) F.L.body t ∧ t (startF N vs ws) H Q) :
    LOk P w K mg base CX (k + 1) F ps fr sp := by
  refine ⟨fun A outer s H f us vs ws Q E hr e0 hf hc C r hsp => ?_⟩
  have hl := len _ _ _ _ _ C.len hsp
  have lim : s.heap.NoLimit := e0.mod.nolimit.keeps fun b o e => (e0.bs b o e).1
  obtain ⟨od, sl, pm, ctv, ho⟩ := lamO_at e0.hok hf
  refine PySem.W.kla_callFunE hr.depth ho rfl S.co S.gen rfl (codeO_at e0.hok hc) ?_
  rw [hb pm ctv us (by rw [← r.length]; exact hl)]
  refine wpAny_pure (wpAny_newFunctionEnv S.nocell (fun ⟨n, _⟩ hy => S.par n (List.of_mem_zip hy).1) (fun h₁ hns hsb => ⟨lim.fresh _ hsb, ?_⟩) S.kind)
  show codeAny _ _ (.expr F.L.body (envF F.nf f s.heap.objs.size)) _ _
  have kp : ∀ b o, s.heap.get? b = some o → h₁.get? b = some o := fun b o e => hsb.extBut b o (Nat.ne_of_lt (Heap.lt_size e)) (Heap.get?_push_of_some _ e)
  obtain ⟨t, ht, hq⟩ := hbody f A outer s H vs ws Q E (hr.deeper _) C.len hsp
  have I : Inv (ncx CX P w K mg base N F.nf f A outer s H E) [] (startF N vs ws) H { s with heap := h₁, toks := s.toks + (ps.zip us).length } := inv_startN S hr.hd e0 hl r C hns kp
  refine PySem.W.kla_codeExpr (wpAny_mono (ht.run [] _ (startF N vs ws) H Q I hq) (fun v s' hs => ?_) fun e s' hs => hs)
  obtain ⟨v', H', J, rv, q⟩ := hs
  exact ⟨v', H', J.os, J.bare, J.base, J.hok, rv, q⟩
end
/-! ### .. over data -/
def toSpL (K : PySem.W.Frag) (sp : SpD) : List (Option V) → Sp := fun ws vs H Q _ => ∃ Z F M ds cs QD ws', RelM K Z F H M ∧ Reps K F vs ds ∧ ws = ws'.map some ∧ Reps K F ws' cs ∧ sp (ds ++ cs) M QD ∧ OkV K Z F Q QD
/-- the lambda with these words keeps a promise of its arguments and captured values, wherever it is made -/
structure LamD (P : Program) (w : World) (K : PySem.W.Frag) (mg : Str → Option Value) (base : Heap) (k : Nat) (L : LamC) (ps fr : List Str) (sp : SpD) : Prop where
  ok : ∀ (qual : Str) (cl : List (Str × Addr)) (c : Addr), LOk P w K mg base CX0 k ⟨L, qual, cl, c⟩ ps fr (toSpL K sp)
section
variable {P : Program} {w : World} {K : PySem.W.Frag} {mg : Str → Option Value} {base : Heap} {N ps fr : List Str} {k : Nat} {L : LamC}
theorem lam_mk {sp : SpD} (S : NScope N ps fr L.scope) (n : Nat) (hn : N.length = n) (hb : ∀ (qual : Str) (cl : List (Str × Addr)) (c : Addr) (pm ctv : Value) (us : List Value), us.length = ps.length → bindArgs ((⟨L, qual, cl, c⟩ : LF).fd pm ctv) ⟨us, []⟩ = pure (ps.zip us)) (len : ∀ ds M Q, sp ds M Q → ds.length = ps.length + fr.length)
    (body : ∀ (qual : Str) (cl : List (Str × Addr)) (c f : Addr) (A : Around) (outer : List Env) (s : Shared) (H : Hp) (E : XK), Room k (A.deeper (envF (⟨L, qual, cl, c⟩ : LF).nf f s.heap.objs.size)) →
      ∃ d, DE (ncx CX0 P w K mg base N (⟨L, qual, cl, c⟩ : LF).nf f A outer s H E) L.body d ∧ ∀ ds M Q, sp ds M Q → d (startD n ds) M (endD Q)) : LamD P w K mg base (k + 1) L ps fr sp := by
  have hnl : ps.length + fr.length ≤ n := by
    have := congrArg List.length S.pre
    rw [List.length_take, List.length_append] at this
    omega
  refine ⟨fun qual cl c => lok_of S (hb qual cl c) (fun ws vs H Q E hw h => ?_) fun f A outer s H vs ws Q E hr hw h => ?_⟩
  · obtain ⟨Z, F, M, ds, cs, QD, ws', R, r1, rfl, r2, h, o⟩ := h
    have h1 := len _ _ _ h
    rw [List.length_append] at h1
    rw [List.length_map] at hw
    have h2 := r2.length
    rw [r1.length]
    omega
  · obtain ⟨d, hd, hb2⟩ := body qual cl c f A outer s H E hr
    obtain ⟨Z, F, M, ds, cs, QD, ws', R, r1, rfl, r2, h, o⟩ := h
    refine ⟨_, hd, Z, F, M, startD n (ds ++ cs), endD QD, ⟨R, ?_⟩, hb2 _ M QD h, ?_⟩
    · have h1 := len _ _ _ h
      have h2 := startD_rep (K := K) (F := F) n (r1.app r2) (by rw [h1]; exact hnl)
      unfold startF
      rw [List.map_append, List.append_assoc, List.length_append] at h2
      rw [hn, List.length_map, Nat.sub_sub]
      exact h2
    · intro v d F' H' M' e R' rr q
      obtain ⟨M0, l, q⟩ := q
      exact o _ _ F' H' M0 e (R'.le l) rr q
/-! ### a def that is handed a closure -/
/-- what is known of the closure at fc while the frames outer wait: φ tells it in M, C is its promise -/
structure Clo (P : Program) (w : World) (K : PySem.W.Frag) (mg : Str → Option Value) (base : Heap) (kc : Nat) (outer : List Env) (s : Shared) (H : Hp) (fc : Addr) (φ : OthR) (C : SpD) : Prop where
  isL : ∀ F o, φ.rel F o → ∃ LF, o = LamO fc LF
  run : ∀ (A' : Around) (outer' : List Env) (s1 : Shared) (HZ : Hp) (us : List Value) (vs : List V) (Q : VK) (E : XK), Room kc A' → Env0 P w K mg base A' outer' s1 HZ → Un (frs outer) [] H HZ s.heap s1.heap → Vals vs us →
    toSp K (fun ds M QD => M fc = some (.oth φ) ∧ C ds M QD) vs HZ Q E → codeAny (model P w) A' (.call (.ref fc) ⟨us, []⟩) (CR CX0 outer' P w HZ s1 Q E) s1
abbrev GSp := Addr → OthR → SpD → SpD
structure GnD (P : Program) (w : World) (K : PySem.W.Frag) (mg : Str → Option Value) (base : Heap) (k kc : Nat) (x : Str) (st : Stmt) (ps : List Str) (G : GSp) : Prop where
  ex : ∃ f fd, Fun K x x st f fd ∧ mg x = some (.ref f) ∧ Binds K fd ps [] ∧ (∀ fc φ C ds M Q, G fc φ C ds M Q → ds.length = ps.length) ∧
    ∀ (A : Around) (outer : List Env) (s : Shared) (H : Hp) (fc : Addr) (φ : OthR) (C : SpD) (args : Args) (us : List Value) (vs : List V) (Q : VK) (E : XK), Clo P w K mg base kc outer s H fc φ C → Room k A → Env0 P w K mg base A outer s H →
      BindsTo s fd args (ps.zip us) → Vals vs us → toSp K (G fc φ C) vs H Q E → codeAny (model P w) A (.call (.ref f) args) (CR CX0 outer P w H s Q E) s
theorem gn_mk {kc : Nat} {x : Str} {st : Stmt} {N ps : List Str} {k : Nat} {G : GSp} (h : HasFn K mg x x st ps) (S : FnScope N ps (defScope st)) (n : Nat) (hn : N.length = n) (len : ∀ fc φ C ds M Q, G fc φ C ds M Q → ds.length = ps.length)
    (body : ∀ (f : Addr) (cdv : Value) (A : Around) (outer : List Env) (s : Shared) (H : Hp) (E : XK), Room k (A.deeper (envOfC x (defScope st) s.heap.objs.size f cdv)) → ∀ (fc : Addr) (φ : OthR) (C : SpD), Clo P w K mg base kc outer s H fc φ C →
      ∃ d, DSs (cxOf CX0 P w K mg base N x (defScope st) f cdv A outer s H E).nox (defBody st) d ∧ ∀ ds M Q, G fc φ C ds M Q → d { nx := fun _ M' => endD Q .non M', rt := endD Q } (startD n ds) M) : GnD P w K mg base (k + 1) kc x st ps G := by
  obtain ⟨f, fd, F, hm, hb⟩ := h.ex
  refine ⟨f, fd, F, hm, hb, len, fun A outer s H fc φ C args us vs Q E hC hr e0 hbd r h => ?_⟩
  obtain ⟨oc, od, kV, doc, pm, an, cdv, ct, osl, rfl, lk, hcd⟩ := F.ex
  obtain ⟨Z, F1, M, ds, QD, R, rr, h, o⟩ := h
  have hl := len _ _ _ _ _ _ h
  refine run_ofS (N := N) (ps := ps) (us := us) (vs := vs) lk hcd S hr e0 hbd r (by rw [rr.length]; exact hl) fun hr' => ?_
  obtain ⟨d, hd, hb⟩ := body f cdv A outer s H E hr' fc φ C hC
  refine ⟨_, hd.nox, Z, F1, M, startD n ds, { nx := fun _ M' => endD QD .non M', rt := endD QD }, ⟨R, ?_⟩, hb ds M QD h, ⟨?_, ?_, ?_, ?_⟩⟩
  · have hp : ps.length ≤ N.length := by
      have := congrArg List.length S.pre
      rw [List.length_take] at this
      omega
    unfold L2.start
    rw [← hn]
    exact startD_rep N.length rr (by omega)
  · intro σ' ρ' F' H' M' e R' q
    obtain ⟨M0, l, q⟩ := q
    exact o _ _ F' H' M0 e (R'.m.le l) .non q
  · intro v d F' H' M' e R' rr q
    obtain ⟨M0, l, q⟩ := q
    exact o _ _ F' H' M0 e (R'.le l) rr q
  · intro σ' ρ' F' H' M' e R' q
    exact q.elim
  · intro σ' ρ' F' H' M' e R' q
    exact q.elim
end
/-! ### the closure called -/
def dCallC (i : Nat) (fc : Addr) (φ : OthR) (C : SpD) (dA : TAD) : TED := fun ρ M Q => (∃ d, atD ρ i = some d ∧ d = .ref fc) ∧ M fc = some (.oth φ) ∧ dA ρ M fun ds M1 => M1 fc = some (.oth φ) ∧ C ds M1 Q
section
variable {X : Cx} {kc k2 i : Nat} {fc : Addr} {φ : OthR} {C : SpD} {x : Str} {p pos : Pos} {e : Expr} {es : List Expr} {dA : TAD}
theorem clo_fnAt {P : Program} {w : World} {K : PySem.W.Frag} {Z F H : Hp} {M : MH} {h : Heap} (hL : ∀ F o, φ.rel F o → ∃ LF, o = LamO fc LF) (R : RelM K Z F H M) (hok : HOk P w H h) (hM : M fc = some (.oth φ)) : PySem.W.FnAt fc h := by
  obtain ⟨o, h1, h2⟩ := (R.chg fc _ hM).2
  obtain ⟨LF, rfl⟩ := hL F o h2
  obtain ⟨od, sl, pm, ctv, ho⟩ := lamO_at hok h1
  exact ⟨_, od, _, sl, ho⟩
theorem run_clo {pins : List (Addr × Obj)} {σ : L2.St} {H : Hp} {s : Shared} {Q : VK} {us : List Value} {vs : List V} (hC : Clo X.prog X.w X.K X.mg X.base kc X.outer X.s_0 X.H_0 fc φ C) (hr : Room kc X.A) (hex : X.ex = []) (I : Inv X pins σ H s) (r : Vals vs us)
    (q : toSp X.K (fun ds M QD => M fc = some (.oth φ) ∧ C ds M QD) vs H Q E0) : wpAny (model X.prog X.w) X.A (call (.ref fc) us) (EP X pins σ Q) X.xe s := by
  have un : Un (frs X.outer) [] X.H_0 H X.s_0.heap s.heap := by
    have := I.base
    rw [hex] at this
    exact this
  refine wpAny_call (codeAny_mono (hC.run X.A X.stack s H us vs Q E0 hr I.env0 un r q) fun r s' hq => ?_)
  cases r with
  | error e => exact (show False from hq).elim
  | ok fl =>
    cases fl with
    | ret u => exact I.after hq
    | next => exact False.elim hq
    | brk => exact False.elim hq
    | cont => exact False.elim hq
theorem de_callC (hC : Clo X.prog X.w X.K X.mg X.base kc X.outer X.s_0 X.H_0 fc φ C) (hr : Room k2 X.A) (ha : DA X (e :: es) dA) (hk : kc ≤ k2 := by decide) (hN : X.N[i]? = some x := by rfl) (hv : Vis X.env.scope x := by first | exact Or.inl rfl | exact Or.inr (Or.inl rfl) | exact Or.inr (Or.inr rfl)) (hex : X.ex = [] := by rfl)
    (hdb : (x == ("__debug__" : Str)) = false := by decide) (hcd : (x == ("__classdict__" : Str)) = false := by decide)
    (he : starEach (e :: es) X.env = (false, eval e X.env) :: starEach es X.env := by rfl) (hpl : (backTo pos (starEach es X.env)).any (·.1) = false := by rfl) : DE X (.Call (.Name x p) (e :: es) [] pos) (dCallC i fc φ C dA) := by
  refine ⟨fun pins s σ H Q I h => ?_⟩
  obtain ⟨Z, F, M, ρ, QD, R, ⟨⟨d, h1, rfl⟩, hM, h⟩, o⟩ := h
  obtain ⟨v, q, r⟩ := R.e.at_ i _ (atD_get h1)
  cases r
  refine wpAny_Call_Name_kw (thn ((pe_var (pos := p) hN hv hdb hcd).run pins s σ H (fun v H1 => v = .ref fc ∧ H1 = H) I ⟨.ref fc, q, rfl, rfl⟩) fun u s1 ⟨v, H1, I1, r1, q1⟩ => ?_)
  obtain ⟨rfl, rfl⟩ := q1
  cases r1
  refine PySem.W.callWith_F (first := []) (clo_fnAt hC.isL R.m I1.hok hM) (thn (ha.run pos pins s1 σ _ (fun vs H2 => ∃ Z F M ds QD, RelM X.K Z F H2 M ∧ Reps X.K F vs ds ∧ (M fc = some (.oth φ) ∧ C ds M QD) ∧ OkV X.K Z F Q QD) I1 ⟨Z, F, M, ρ, _, R, h, fun vs ds F' H' M' e R' rr hh => ⟨Z, F', M', ds, QD, R', rr, hh, o.mono e⟩⟩) fun us s2 ⟨vs, H2, I2, r, q⟩ => ?_) he hpl
  obtain ⟨Z2, F2, M2, ds2, QD2, R2, rr2, hh2, o2⟩ := q
  exact ⟨clo_fnAt hC.isL R2 I2.hok hh2.1, run_clo hC (hr.mono hk) hex I2 r ⟨Z2, F2, M2, ds2, QD2, R2, rr2, hh2, o2⟩⟩
theorem de_callC0 (hC : Clo X.prog X.w X.K X.mg X.base kc X.outer X.s_0 X.H_0 fc φ C) (hr : Room k2 X.A) (hk : kc ≤ k2 := by decide) (hN : X.N[i]? = some x := by rfl) (hv : Vis X.env.scope x := by first | exact Or.inl rfl | exact Or.inr (Or.inl rfl) | exact Or.inr (Or.inr rfl)) (hex : X.ex = [] := by rfl)
    (hdb : (x == ("__debug__" : Str)) = false := by decide) (hcd : (x == ("__classdict__" : Str)) = false := by decide) : DE X (.Call (.Name x p) [] [] pos) (dCallC i fc φ C dNil) := by
  refine ⟨fun pins s σ H Q I h => ?_⟩
  obtain ⟨Z, F, M, ρ, QD, R, ⟨⟨d, h1, rfl⟩, hM, h⟩, o⟩ := h
  obtain ⟨v, q, r⟩ := R.e.at_ i _ (atD_get h1)
  cases r
  refine wpAny_Call_Name_kw (thn ((pe_var (pos := p) hN hv hdb hcd).run pins s σ H (fun v H1 => v = .ref fc ∧ H1 = H) I ⟨.ref fc, q, rfl, rfl⟩) fun u s1 ⟨v, H1, I1, r1, q1⟩ => ?_)
  obtain ⟨rfl, rfl⟩ := q1
  cases r1
  exact PySem.W.callWith_F0 (first := []) (clo_fnAt hC.isL R.m I1.hok hM) (run_clo hC (hr.mono hk) hex I1 .nil ⟨Z, F, M, [], QD, R.m, .nil, h, o⟩)
end
end DL
namespace DL
open PySem PySem.Spec PyProof.Rows L2 LamX NdefX
/-! ### a lambda made, and handed on -/
/-- the table of the code objects of a def's lambdas, all of the name q -/
def tblR (q : Str) : OthR := ⟨fun F o => ∃ ps : Array Value, o = .tbl ps ∧ TriplesOk ps.toList ∧ ∀ (pos : Pos) (cv : Value), codeAmong pos ps.toList = some cv → ∃ c, cv = .ref c ∧ F c = some (CodeO c q),
  fun F F' o e ⟨ps, h1, h2, h3⟩ => ⟨ps, h1, h2, fun pos cv h => by
    obtain ⟨c, h4, h5⟩ := h3 pos cv h
    exact ⟨c, h4, e _ _ h5⟩⟩⟩
/-- the lambda F at fc, with what it captured -/
def cloR (K : PySem.W.Frag) (F : LF) (fc : Addr) (ws : List V) (cs : List Dat) : OthR := ⟨fun Fz o => o = LamO fc F ∧ Fz F.c = some (CodeO F.c F.qual) ∧ Reps K Fz ws cs, fun Fz F' o e ⟨h1, h2, h3⟩ => ⟨h1, e _ _ h2, h3.mono e⟩⟩
theorem tblR_nil (F : Hp) (q : Str) : (tblR q).rel F (.tbl #[]) := ⟨#[], rfl, True.intro, fun pos cv hc => by
  have z : codeAmong pos [] = some cv := hc
  simp [codeAmong] at z⟩
section
variable {X : Cx} {pins : List (Addr × Obj)} {σ : L2.St} {H : Hp} {s : Shared}
/-- a lambda's object just made is known from now on -/
theorem inv_lam {F : LF} {o : Obj} {t' : Nat} {pm ctv : Value} (I : Inv X pins σ H s) (ho : o = { cls := .type "function", data := .func (F.fd pm ctv) }) :
    Inv X pins σ (upd H s.heap.objs.size (LamO s.heap.objs.size F)) { s with heap := s.heap.push o, toks := t' } := by
  subst ho
  refine I.laid (a := s.heap.objs.size) (fun b u e => Heap.get?_push_of_some _ e) (Nat.le_refl _) ?_
  have e : (s.heap.push ({ cls := .type "function", data := .func (F.fd pm ctv) } : Obj)).get? s.heap.objs.size = some ({ cls := .type "function", data := .func (F.fd pm ctv) } : Obj) := Heap.get?_push_size _ rfl
  exact ⟨⟨_, _, pm, ctv, e⟩, ⟨_, e⟩, fun h1 h2 ⟨od, sl, p, t, z⟩ st => ⟨od, sl, p, t, st _ z⟩⟩
/-- the lambda's object is made: its code object is new, or found in the table -/
theorem lam_make3 {c P : Addr} {L : LamC} {pos : Pos} {E : Value → Shared → Prop} {Q : Value → Shared → Prop} {ps : Array Value} (I : Inv X pins σ H s) (TB : TabB X.base X.mg c P) (hcode : X.env.code = .ref c)
    (hP : H P = some (.tbl ps)) (ht : TriplesOk ps.toList) (hdef : defaultsOf L.params X.env = ([], [])) (hfree : ∀ y ∈ L.scope.names, y.2 = .free → ∃ c, X.env.cells.lookup y.1 = some c)
    (hnew : codeAmong pos ps.toList = none → ∀ (f c' : Addr) (s' : Shared), f ≠ c' → H c' = none → H f = none → H P = some (.tbl ps) →
      Inv X pins σ (upd (upd (upd H P (.tbl (ps ++ #[rawInt pos.line, rawInt pos.col, .ref c']))) c' (CodeO c' (X.env.qual ++ "<lambda>"))) f (LamO f ⟨L, X.env.qual ++ "<lambda>", cloFrom X.env.cells L.scope.names [], c'⟩)) s' → Q (.ref f) s')
    (hhit : ∀ cv, codeAmong pos ps.toList = some cv → ∃ c', cv = .ref c' ∧ ∀ (f : Addr) (s' : Shared), H f = none → Inv X pins σ (upd H f (LamO f ⟨L, X.env.qual ++ "<lambda>", cloFrom X.env.cells L.scope.names [], c'⟩)) s' → Q (.ref f) s') :
    wpAny (model X.prog X.w) X.A (eval (.Lambda L.params L.body L.scope pos) X.env) Q E s := by
  refine PySem.W.kla_eval hdef ?_
  have bP : s.heap.BuiltinsAt X.mg P := TB.bm.keeps I.bk
  have hP' : s.heap.get? P = some { cls := .none, data := .fields ps } := I.hok P _ hP
  cases hc : codeAmong pos ps.toList with
  | none =>
    refine PySem.W.kla_makeFunction (mg := X.mg) (c := c) (P := P) (ps := ps) (closure_ok hfree) I.ok.glob (I.mod.glob.keeps I.bk) hcode (TB.code.keeps I.bk) hP' ht hc TB.gP bP fun c' ctv h' tk hx hge hlt hrec htb => ?_
    obtain ⟨c2, oc, vs, t, e2, hoc, hd, hv⟩ := hrec
    cases e2
    have nC : H c' = none := I.hok.fresh hge
    have I1 := inv_table (t' := tk) (more := #[rawInt pos.line, rawInt pos.col, .ref c']) (h' := h') I hP (fun b o hb e => hx b o hb e) htb hge ⟨oc, vs, t, hoc, hd, hv⟩
    have nF := I1.hok.fresh (Nat.le_refl _)
    have I2 := inv_lam (F := ⟨L, X.env.qual ++ "<lambda>", cloFrom X.env.cells L.scope.names [], c'⟩) (t' := tk) (pm := (X.mg "__name__").getD .none) (ctv := ctv) I1 rfl
    exact hnew hc _ _ _ (fun z => absurd (show c' < h'.objs.size from hlt) (by rw [← z]; exact Nat.lt_irrefl _)) nC (upd_none (upd_none nF)) hP I2
  | some cv =>
    obtain ⟨c', e, hh⟩ := hhit cv hc
    subst e
    refine PySem.W.kla_makeFunctionHit (mg := X.mg) (c := c) (P := P) (ps := ps) (closure_ok hfree) I.ok.glob (I.mod.glob.keeps I.bk) hcode (TB.code.keeps I.bk) hP' ht hc bP fun ctv h' tk hx hsz => ?_
    have I1 : Inv X pins σ H { s with heap := h', toks := tk } := I.kept hx
    have nF : H h'.objs.size = none := I1.hok.fresh (Nat.le_refl _)
    have I2 := inv_lam (F := ⟨L, X.env.qual ++ "<lambda>", cloFrom X.env.cells L.scope.names [], c'⟩) (t' := tk) (pm := (X.mg "__name__").getD .none) (ctv := ctv) I1 rfl
    exact hh _ _ nF I2
end
section
variable {K : PySem.W.Frag} {Z F H : Hp} {M : MH}
theorem relM_hit {f : Addr} {L : LF} {ws : List V} {cs : List Dat} (R : RelM K Z F H M) (nf : H f = none) (hc : F L.c = some (CodeO L.c L.qual)) (r : Reps K F ws cs) : RelM K Z F (upd H f (LamO f L)) (updM M f (.oth (cloR K L f ws cs))) :=
  R.newM nf ⟨_, upd_same, rfl, hc, r⟩
theorem relM_new {f c P : Addr} {L : LF} {ws : List V} {cs : List Dat} {ps more : Array Value} (R : RelM K Z F H M) (nf : H f = none) (nc : H L.c = none) (hne : f ≠ L.c) (hP : H P = some (.tbl ps)) (hMP : M P = some (.oth (tblR L.qual)))
    (ht : TriplesOk (ps ++ more).toList) (hin : ∀ (pos : Pos) (cv : Value), codeAmong pos (ps ++ more).toList = some cv → (∃ c, cv = .ref c ∧ F c = some (CodeO c L.qual)) ∨ cv = .ref L.c) (r : Reps K F ws cs) :
    RelM K Z (upd F L.c (CodeO L.c L.qual)) (upd (upd (upd H P (.tbl (ps ++ more))) L.c (CodeO L.c L.qual)) f (LamO f L)) (updM M f (.oth (cloR K L f ws cs))) ∧ Ext F (upd F L.c (CodeO L.c L.qual)) := by
  have e := Ext.new (o := CodeO L.c L.qual) (R.fresh nc).1
  have hPf : P ≠ f := ne_of_none hP nf
  have hPc : P ≠ L.c := ne_of_none hP nc
  have hFP : F P = none := (R.chg P _ hMP).1
  have at_ : ∀ b, b ≠ P → b ≠ L.c → b ≠ f → (upd (upd (upd H P (.tbl (ps ++ more))) L.c (CodeO L.c L.qual)) f (LamO f L)) b = H b := fun b h1 h2 h3 => by
    rw [upd_ne h3, upd_ne h2, upd_ne h1]
  refine ⟨⟨fun b u q => ?_, fun b u q => ?_, fun b m q => ?_⟩, e⟩
  · by_cases hb : b = L.c
    · subst hb
      rw [upd_same] at q
      cases q
      rw [upd_ne (Ne.symm hne), upd_same]
    · rw [upd_ne hb] at q
      have hbH := R.sub b u q
      have hbP : b ≠ P := fun z => by
        rw [z, hFP] at q
        cases q
      rw [at_ b hbP hb (ne_of_none hbH nf)]
      exact hbH
  · obtain ⟨q1, q2, q3⟩ := R.hid b u q
    have hbP : b ≠ P := fun z => by
      rw [z, hMP] at q3
      cases q3
    have hbc := ne_of_none q1 nc
    have hbf := ne_of_none q1 nf
    exact ⟨by rw [at_ b hbP hbc hbf]; exact q1, by rw [upd_ne hbc]; exact q2, by rw [updM_ne hbf]; exact q3⟩
  · by_cases hb : b = f
    · subst hb
      rw [updM_same] at q
      cases q
      refine ⟨?_, _, upd_same, rfl, upd_same, r.mono e⟩
      rw [upd_ne hne]
      exact (R.fresh nf).1
    · rw [updM_ne hb] at q
      obtain ⟨q1, q2⟩ := R.chg b m q
      have hbc : b ≠ L.c := R.ne nc q
      refine ⟨by rw [upd_ne hbc]; exact q1, ?_⟩
      by_cases hbP : b = P
      · subst hbP
        rw [hMP] at q
        cases q
        refine ⟨.tbl (ps ++ more), by rw [upd_ne hb, upd_ne hbc, upd_same], ps ++ more, rfl, ht, fun pos cv hcv => ?_⟩
        rcases hin pos cv hcv with ⟨c0, h1, h2⟩ | h1
        · exact ⟨c0, h1, e _ _ h2⟩
        · exact ⟨L.c, h1, upd_same⟩
      · exact q2.mono e (at_ b hbP hbc hb)
end
/-! ### arguments, one of them a lambda -/
abbrev TADL := EnvD → MH → (List Dat → Addr → OthR → List Dat → MH → Prop) → Prop
/-- the slots of the captured names -/
def atDs (ρ : EnvD) : List Nat → Option (List Dat)
  | [] => some []
  | j :: js => match atD ρ j, atDs ρ js with
    | some d, some ds => some (d :: ds)
    | _, _ => none
theorem atDs_rep {K : PySem.W.Frag} {F : Hp} {σ : L2.St} {ρ : EnvD} (r : RelE K F σ ρ) : ∀ {js : List Nat} {cs : List Dat}, atDs ρ js = some cs → ∃ ws : List V, js.map (slotAt σ) = ws.map some ∧ Reps K F ws cs
  | [], cs, h => by
    cases h
    exact ⟨[], rfl, .nil⟩
  | j :: js, cs, h => by
    unfold atDs at h
    split at h
    · rename_i d ds h1 h2
      cases h
      obtain ⟨ws, e, rr⟩ := atDs_rep r h2
      obtain ⟨v, hv, rv⟩ := r.at_ j d (atD_get h1)
      exact ⟨v :: ws, by rw [List.map_cons, List.map_cons, e, slotAt_of hv], .cons rv rr⟩
    · cases h
structure DAL (X : Cx) (es : List Expr) (L : LamC) (js : List Nat) (d : TADL) : Prop where
  run : ∀ (pos : Pos) (pins : List (Addr × Obj)) (s : Shared) (σ : L2.St) (H : Hp) (Z F : Hp) (M : MH) (ρ : EnvD) (QD : List Dat → Addr → OthR → List Dat → MH → Prop) (Q : List V → LF → Hp → Prop), Inv X pins σ H s → Rel X.K Z F H M σ ρ → d ρ M QD →
    (∀ (vs : List V) (ds : List Dat) (fc : Addr) (G : LF) (ws : List V) (cs : List Dat) (F' H' : Hp) (M' : MH), Ext F F' → RelM X.K Z F' H' M' → Reps X.K F' vs ds → G.L = L → G.cl = cloFrom X.env.cells L.scope.names [] → js.map (slotAt σ) = ws.map some → QD ds fc (cloR X.K G fc ws cs) cs M' → Q vs G H') →
    wpAny (model X.prog X.w) X.A (spliced (backTo pos (starEach es X.env))) (fun us s' => ∃ vs G H', Inv X pins σ H' s' ∧ Vals vs us ∧ Q vs G H') X.xe s
def dConsL (da : TED) (dr : TADL) : TADL := fun ρ M Q => da ρ M fun x M1 => dr ρ M1 fun xs fc φ cs M2 => Q (x :: xs) fc φ cs M2
def dLam (P : Addr) (q : Str) (js : List Nat) (dr : TAD) : TADL := fun ρ M Q => M P = some (.oth (tblR q)) ∧ ∃ cs, atDs ρ js = some cs ∧ ∀ fc φ, M fc = none → dr ρ (updM M fc (.oth φ)) fun xs M2 => Q (.ref fc :: xs) fc φ cs M2
section
variable {X : Cx} {L : LamC} {js : List Nat} {e : Expr} {es : List Expr}
theorem dal_cons {de : TED} {dr : TADL} (ha : DE X e de) (hr : DAL X es L js dr) (hs : starEach (e :: es) X.env = (false, eval e X.env) :: starEach es X.env := by rfl) : DAL X (e :: es) L js (dConsL de dr) := by
  refine ⟨fun pos pins s σ H Z F M ρ QD Q I R h o => ?_⟩
  rw [hs]
  show wpAny _ _ (spliced ((false, eval e X.env) :: backTo pos (starEach es X.env))) _ _ _
  refine Calls.spliced_cons (wpAny_mono (ha.run pins s σ H (fun v H1 => ∃ F1 M1 d, Ext F F1 ∧ Rel X.K Z F1 H1 M1 σ ρ ∧ Rep X.K F1 v d ∧ dr ρ M1 fun xs fc φ cs M2 => QD (d :: xs) fc φ cs M2) I ⟨Z, F, M, ρ, _, R, h, fun v d F' H' M' e' R' r' h' => ⟨F', M', d, e', R.ext e' R', r', h'⟩⟩) (fun u s1 h1 => ?_) fun _ _ h => h)
  obtain ⟨v, H1, I1, r1, F1, M1, d, e1, R1, rd, h1⟩ := h1
  refine wpAny_mono (hr.run pos pins s1 σ H1 Z F1 M1 ρ _ (fun vs G H' => Q (v :: vs) G H') I1 R1 h1 fun vs ds fc G ws cs F' H' M' e' R' rr a1 a2 a3 h' => o (v :: vs) (d :: ds) fc G ws cs F' H' M' (e1.trans e') R' (.cons (rd.mono e') rr) a1 a2 a3 h') (fun us s2 h2 => ?_) fun _ _ h => h
  obtain ⟨vs, G, H', I2, r2, q⟩ := h2
  exact ⟨v :: vs, G, H', I2, .cons r1 r2, q⟩
theorem dal_lam {c P : Addr} {dr : TAD} {pos' : Pos} {params : Arguments} {body : Expr} {scope : Scope} (TB : TabB X.base X.mg c P) (hcode : X.env.code = .ref c) (hr : DA X es dr) (hp : params = L.params) (hbd : body = L.body) (hsc : scope = L.scope) (hdef : defaultsOf L.params X.env = ([], []))
    (hfree : ∀ y ∈ L.scope.names, y.2 = .free → X.env.scope.names.lookup y.1 = some .cell ∨ X.env.scope.names.lookup y.1 = some .free) (hs : starEach (.Lambda params body scope pos' :: es) X.env = (false, eval (.Lambda params body scope pos') X.env) :: starEach es X.env := by rfl) :
    DAL X (.Lambda params body scope pos' :: es) L js (dLam P (X.env.qual ++ "<lambda>") js dr) := by
  subst hp hbd hsc
  refine ⟨fun pos pins s σ H Z F M ρ QD Q I R h o => ?_⟩
  obtain ⟨hMP, cs, hcs, h⟩ := h
  obtain ⟨ws, hws, rws⟩ := atDs_rep R.e hcs
  obtain ⟨oP, hP, ps, rfl, ht, hin⟩ := (R.m.chg P _ hMP).2
  have hfr : ∀ y ∈ L.scope.names, y.2 = .free → ∃ c, X.env.cells.lookup y.1 = some c := fun y hy e => (hfree y hy e).elim (fun z => I.ok.has _ (.inl z)) fun z => I.ok.has _ (.inr z)
  rw [hs]
  show wpAny _ _ (spliced ((false, eval (.Lambda L.params L.body L.scope pos') X.env) :: backTo pos (starEach es X.env))) _ _ _
  have fin : ∀ (G : LF) (f : Addr) (F1 H1 : Hp) (s1 : Shared), Ext F F1 → RelM X.K Z F1 H1 (updM M f (.oth (cloR X.K G f ws cs))) → M f = none → G.L = L → G.cl = cloFrom X.env.cells L.scope.names [] → Inv X pins σ H1 s1 →
      wpAny (model X.prog X.w) X.A (spliced (backTo pos (starEach es X.env))) (fun vs s₂ => ∃ vs_1 G H', Inv X pins σ H' s₂ ∧ Vals vs_1 (.ref f :: vs) ∧ Q vs_1 G H') X.xe s1 := by
    intro G f F1 H1 s1 e1 R1 nf a1 a2 I1
    refine wpAny_mono (hr.run pos pins s1 σ H1 (fun vs H' => Q (.ref f :: vs) G H') I1 ⟨Z, F1, _, ρ, _, R.ext e1 R1, h f _ nf, fun vs ds F' H' M' e' R' rr h' => o (.ref f :: vs) (.ref f :: ds) f G ws cs F' H' M' (e1.trans e') R' (.cons (.ref f) rr) a1 a2 hws h'⟩) (fun us s2 h2 => ?_) fun _ _ h => h
    obtain ⟨vs, H', I2, r2, q⟩ := h2
    exact ⟨.ref f :: vs, G, H', I2, .cons rfl r2, q⟩
  refine Calls.spliced_cons (lam_make3 (c := c) (P := P) (L := L) I TB hcode hP ht hdef hfr (fun hno f c' s' hne nc nf _ I1 => ?_) fun cv hcv => ?_)
  · have eL : (ps ++ #[rawInt pos'.line, rawInt pos'.col, .ref c']).toList = ps.toList ++ [rawInt pos'.line, rawInt pos'.col, .ref c'] := by simp
    obtain ⟨R1, e1⟩ := relM_new (c := c') (L := ⟨L, X.env.qual ++ "<lambda>", cloFrom X.env.cells L.scope.names [], c'⟩) (more := #[rawInt pos'.line, rawInt pos'.col, .ref c']) R.m nf nc hne hP hMP (by rw [eL]; exact PySem.TriplesOk_snoc _ _ _ _ ht) (fun p' cv hcv => by
      rw [eL] at hcv
      rcases among_app _ ht hcv with z | z
      · exact .inl (hin p' cv z)
      · exact .inr z) rws
    exact fin _ f _ _ s' e1 R1 (R.m.fresh nf).2 rfl rfl I1
  · obtain ⟨c', rfl, hc'⟩ := hin pos' cv hcv
    exact ⟨c', rfl, fun f s' nf I1 => fin ⟨L, X.env.qual ++ "<lambda>", cloFrom X.env.cells L.scope.names [], c'⟩ f F _ s' (Ext.refl F) (relM_hit R.m nf hc' rws) (R.m.fresh nf).2 rfl rfl I1⟩
end
/-! ### the call -/
def dCallG (G : GSp) (sp : SpD) (dAL : TADL) : TED := fun ρ M Q => dAL ρ M fun ds fc φ cs M1 => M1 fc = some (.oth φ) ∧ G fc φ (fun es M' Q' => sp (es ++ cs) M' Q') ds M1 Q
section
variable {X : Cx} {L : LamC} {js : List Nat} {pl fr : List Str} {k kc kl k2 : Nat} {x : Str} {st : Stmt} {ps : List Str} {G : GSp} {sp : SpD} {dAL : TADL} {e : Expr} {es : List Expr} {p pos : Pos}
theorem clo_of {pins : List (Addr × Obj)} {σ : L2.St} {H Z F : Hp} {M : MH} {s : Shared} {fc : Addr} {Gf : LF} {ws : List V} {cs : List Dat} (ld : LamD X.prog X.w X.K X.mg X.base kl L pl fr sp) (hk : kl ≤ kc) (I : Inv X pins σ H s) (h1 : Gf.L = L) (h2 : Gf.cl = cloFrom X.env.cells L.scope.names []) (h3 : js.map (slotAt σ) = ws.map some)
    (hcap : X.Ok → Caps X (cloFrom X.env.cells L.scope.names []) fr js) : Clo X.prog X.w X.K X.mg X.base kc X.stack s H fc (cloR X.K Gf fc ws cs) (fun es M' Q' => sp (es ++ cs) M' Q') := by
  obtain ⟨L', qual, cl, c⟩ := Gf
  have h1 : L' = L := h1
  have h2 : cl = cloFrom X.env.cells L.scope.names [] := h2
  subst h1
  subst h2
  refine ⟨fun F o h => ⟨_, h.1⟩, fun A' outer' s1 HZ us vs Q E hr e0 un r h => ?_⟩
  obtain ⟨Z2, F2, M2, ds, QD, R2, rr, ⟨hM, hsp⟩, o⟩ := h
  obtain ⟨ob, hob, hL, hc, rws⟩ := (R2.chg fc _ hM).2
  subst hL
  have C := cells_of I (hcap I.ok)
  have C2 : CellsAt (cloFrom X.env.cells L'.scope.names []) fr (js.map (slotAt σ)) s1.heap HZ := by
    have kp : ∀ y c, (cloFrom X.env.cells L'.scope.names []).lookup y = some c → ∀ v, s.heap.IsCell c v → s1.heap.IsCell c v := fun y c e v ⟨o, ho, hd⟩ => by
      obtain ⟨sl, q⟩ := un.any ho (C.all y c e).1 (by simp)
      exact ⟨_, q, hd⟩
    refine ⟨C.len, fun y c e => ?_, C.inj, fun i y e => ?_⟩
    · obtain ⟨n, v, z⟩ := C.all y c e
      refine ⟨?_, v, kp y c e v z⟩
      obtain ⟨o, ho, _⟩ := z
      exact un.free c o ho n (by simp)
    · obtain ⟨c, hc, hv⟩ := C.has i y e
      refine ⟨c, hc, fun v ev => ?_⟩
      obtain ⟨u, r, z⟩ := hv v ev
      exact ⟨u, r, kp y c hc _ z⟩
  rw [h3] at C2
  exact (ld.ok qual _ c).run A' outer' s1 HZ fc us vs (ws.map some) Q E (hr.mono hk) e0 hob (R2.sub _ _ hc) C2 r ⟨Z2, F2, M2, ds, cs, QD, ws, R2, rr, rfl, rws, hsp, o⟩
theorem de_callG (Gd : GnD X.prog X.w X.K X.mg X.base k kc x st ps G) (ld : LamD X.prog X.w X.K X.mg X.base kl L pl fr sp) (hkl : kl ≤ kc) (hr : Room k2 X.A) (ha : DAL X (e :: es) L js dAL) (hk : k ≤ k2) (hcap : X.Ok → Caps X (cloFrom X.env.cells L.scope.names []) fr js) (hg : Gl X x := by rfl) (hdb : (x == ("__debug__" : Str)) = false := by decide)
    (he : starEach (e :: es) X.env = (false, eval e X.env) :: starEach es X.env := by rfl) (hpl : (backTo pos (starEach es X.env)).any (·.1) = false := by rfl) : DE X (.Call (.Name x p) (e :: es) [] pos) (dCallG G sp dAL) := by
  obtain ⟨f, fd, F, hm, hb, len, run⟩ := Gd.ex
  refine ⟨fun pins s σ H Q I h => ?_⟩
  obtain ⟨Z, F0, M, ρ, QD, R, h, o⟩ := h
  refine wpAny_Call_Name_kw (ld_glob I hg hm ?_ hdb)
  refine PySem.W.callWith_K (h₀ := X.base) I.ok.mod.kin F.kp (wpAny_mono (ha.run pos pins s σ H Z F0 M ρ _ (fun vs Gf H' => ∃ ds fc ws cs F' M', Ext F0 F' ∧ RelM X.K Z F' H' M' ∧ Reps X.K F' vs ds ∧ Gf.L = L ∧ Gf.cl = cloFrom X.env.cells L.scope.names [] ∧ js.map (slotAt σ) = ws.map some ∧
      G fc (cloR X.K Gf fc ws cs) (fun es M' Q' => sp (es ++ cs) M' Q') ds M' QD) I R h fun vs ds fc Gf ws cs F' H' M' e' R' rr a1 a2 a3 h' => ⟨ds, fc, ws, cs, F', M', e', R', rr, a1, a2, a3, h'.2⟩) (fun us s1 h1 => ?_) fun _ _ h => h) he hpl
  obtain ⟨vs, Gf, H1, I1, r1, ds, fc, ws, cs, F1, M1, e1, R1, rr, a1, a2, a3, hG⟩ := h1
  refine ⟨I1.kIn, ?_⟩
  have hl : us.length = ps.length := by rw [← r1.length, rr.length]; exact len _ _ _ _ _ _ hG
  have hb1 := hb s1 us I1.kIn (by rw [List.append_nil]; exact hl)
  rw [List.append_nil] at hb1
  refine wpAny_call (codeAny_mono (run X.A X.stack s1 H1 fc _ _ ⟨us, []⟩ us vs Q E0 (clo_of (F := F1) (M := M1) (Z := Z) ld hkl I1 a1 a2 a3 hcap) (hr.mono hk) I1.env0 hb1 r1 ⟨Z, F1, M1, ds, QD, R1, rr, hG, o.mono e1⟩) fun r s' hq => ?_)
  cases r with
  | error e => exact (show False from hq).elim
  | ok fl =>
    cases fl with
    | ret u => exact I1.after hq
    | next => exact False.elim hq
    | brk => exact False.elim hq
    | cont => exact False.elim hq
end
end DL
namespace DL
open PySem PySem.Spec PyProof.Rows L2 LamX NdefX
/-! ### parts of a text -/
def exK (e : Expr) (i : Nat) : Expr := match e, i with
  | .IfExp c _ _ _, 0 => c
  | .IfExp _ a _ _, 1 => a
  | .IfExp _ _ b _, _ => b
  | .Call f _ _ _, 0 => f
  | .Call _ as _ _, n + 1 => as.getD n e
  | .Tuple es _ _, n => es.getD n e
  | .List es _, n => es.getD n e
  | .BinOp a _ _ _, 0 => a
  | .BinOp _ _ b _, _ => b
  | .Compare a _ _ _, 0 => a
  | .Compare _ _ bs _, n + 1 => bs.getD n e
  | .BoolOp _ es _, n => es.getD n e
  | .UnaryOp _ a _, _ => a
  | .ListComp a _ _ _, 0 => a
  | .ListComp _ gs _ _, _ => (match gs with
    | ⟨_, _, c :: _, _⟩ :: _ => c
    | _ => e)
  | e, _ => e
def stE (d : Expr) : Stmt → Expr
  | .Return (some e) _ => e
  | .Assign _ e _ => e
  | .Expr e _ => e
  | .If t _ _ _ => t
  | .While t _ _ _ => t
  | .For _ i _ _ _ => i
  | _ => d
def stB : Stmt → List Stmt
  | .If _ b _ _ => b
  | .While _ b _ _ => b
  | .For _ _ b _ _ => b
  | .Try b _ _ _ _ => b
  | _ => []
def stO : Stmt → List Stmt
  | .If _ _ b _ => b
  | _ => []
def lamW (st : Stmt) : Expr → LamC
  | .Lambda p b s _ => ⟨p, b, s⟩
  | e => ⟨defArgs st, e, defScope st⟩
abbrev noE : Expr := .Constant .none 0 ⟨0, 0, 0, 0⟩
def nthS (l : List Stmt) (i : Nat) : Stmt := l.getD i (.Pass ⟨0, 0, 0, 0⟩)
/-! ### a def that makes lambdas: its code object is told -/
structure HasFnC (K : PySem.W.Frag) (mg : Str → Option Value) (x qual : Str) (st : Stmt) (ps : List Str) (c : Addr) : Prop where
  ex : ∃ (f : Addr) (oc : Value) (od : Option Addr) (kV doc pm : Value) (an : Option Addr) (ct : Value) (osl : Array (Option Value)),
    K.lookup f = some ⟨oc, od, .func (PySem.W.fnOf x qual (defArgs st) (defBody st) (defScope st) .none kV doc pm an (.ref c) ct), osl⟩ ∧ PySem.W.codeIn K (.ref c) qual = true ∧ PySem.W.keepIn K (.ref f) = true ∧ mg x = some (.ref f) ∧
    Binds K (PySem.W.fnOf x qual (defArgs st) (defBody st) (defScope st) .none kV doc pm an (.ref c) ct) ps []
section
variable {P : Program} {w : World} {K : PySem.W.Frag} {mg : Str → Option Value} {base : Heap}
theorem fn_mkC {x : Str} {st : Stmt} {N ps : List Str} {k : Nat} {sp : SpD} {c : Addr} (h : HasFnC K mg x x st ps c) (S : FnScope N ps (defScope st)) (n : Nat) (hn : N.length = n) (len : ∀ ds M Q, sp ds M Q → ds.length = ps.length)
    (body : ∀ (f : Addr) (A : Around) (outer : List Env) (s : Shared) (H : Hp) (E : XK), Room k (A.deeper (envOfC x (defScope st) s.heap.objs.size f (.ref c))) →
      ∃ d, DSs (cxOf CX0 P w K mg base N x (defScope st) f (.ref c) A outer s H E).nox (defBody st) d ∧ ∀ ds M Q, sp ds M Q → d { nx := fun _ M' => endD Q .non M', rt := endD Q } (startD n ds) M) : FnD P w K mg base (k + 1) x st ps sp := by
  obtain ⟨f, oc, od, kV, doc, pm, an, ct, osl, lk, hcd, hk, hm, hb⟩ := h.ex
  refine ⟨f, _, ⟨⟨oc, od, kV, doc, pm, an, .ref c, ct, osl, rfl, lk, hcd⟩, hk⟩, hm, hb, ?_⟩
  refine fn_of lk hcd S (fun vs H Q E h => ?_) (fun A outer s H vs Q E hr h => ?_)
  · obtain ⟨Z, F, M, ds, QD, R, r, h, o⟩ := h
    rw [r.length]
    exact len ds M QD h
  · obtain ⟨d, hd, hb⟩ := body f A outer s H E hr
    obtain ⟨Z, F, M, ds, QD, R, r, h, o⟩ := h
    refine ⟨_, hd.nox, Z, F, M, startD n ds, { nx := fun _ M' => endD QD .non M', rt := endD QD }, ⟨R, ?_⟩, hb ds M QD h, ⟨?_, ?_, ?_, ?_⟩⟩
    · have hl := len ds M QD h
      have hp : ps.length ≤ N.length := by
        have := congrArg List.length S.pre
        rw [List.length_take] at this
        omega
      unfold L2.start
      rw [← hn]
      exact startD_rep N.length r (by omega)
    · intro σ' ρ' F' H' M' e R' q
      obtain ⟨M0, l, q⟩ := q
      exact o _ _ F' H' M0 e (R'.m.le l) .non q
    · intro v d F' H' M' e R' rr q
      obtain ⟨M0, l, q⟩ := q
      exact o _ _ F' H' M0 e (R'.le l) rr q
    · intro σ' ρ' F' H' M' e R' q
      exact q.elim
    · intro σ' ρ' F' H' M' e R' q
      exact q.elim
end
/-- the table of the def x's lambdas stands at P -/
def lamQ (x : Str) : Str := x ++ ".<locals>." ++ "<lambda>"
abbrev Tb (P : Addr) (x : Str) (M : MH) : Prop := M P = some (.oth (tblR (lamQ x)))
/-! ### defs as values -/
section
variable {P : Program} {w : World} {K : PySem.W.Frag} {mg : Str → Option Value} {base : Heap} {k : Nat} {x : Str} {st : Stmt} {ps : List Str} {sp : SpD}
noncomputable def FnD.addr (F : FnD P w K mg base k x st ps sp) : Addr := F.ex.choose
theorem FnD.at_addr (F : FnD P w K mg base k x st ps sp) : ∃ fd, Fun K x x st F.addr fd ∧ mg x = some (.ref F.addr) ∧ Binds K fd ps [] ∧ FnOk P w K mg base CX0 k F.addr fd ps (toSp K sp) := F.ex.choose_spec
end
def dCallV (i : Nat) (fs : List (Addr × SpD)) (dA : TAD) : TED := fun ρ M Q => ∃ d, atD ρ i = some d ∧ ∃ q ∈ fs, d = .cls q.1 ∧ dA ρ M fun ds M1 => q.2 ds M1 Q
section
variable {X : Cx} {k k2 i : Nat} {x y : Str} {st : Stmt} {ps : List Str} {sp : SpD} {e : Expr} {es : List Expr} {p pos : Pos} {dA : TAD} {fs : List (Addr × SpD)}
theorem de_fnv (F : FnD X.prog X.w X.K X.mg X.base k x st ps sp) (hg : Gl X x := by rfl) (hd : (x == ("__debug__" : Str)) = false := by decide) : DE X (.Name x pos) (dC (.cls F.addr)) := by
  obtain ⟨fd, h1, h2, _⟩ := F.at_addr
  exact de_c (v := .ref F.addr) (pe_glob hg h2 rfl hd) fun _ => .cls _
/-- a def that a name may hold -/
structure HeldD (P : Program) (w : World) (K : PySem.W.Frag) (mg : Str → Option Value) (base : Heap) (k : Nat) (f : Addr) (sp : SpD) : Prop where
  ex : ∃ (fd : FuncData) (ps : List Str), FnOk P w K mg base CX0 k f fd ps (toSp K sp) ∧ PySem.W.keepIn K (.ref f) = true ∧ Binds K fd ps []
theorem FnD.held {P : Program} {w : World} {K : PySem.W.Frag} {mg : Str → Option Value} {base : Heap} {j : Nat} (F : FnD P w K mg base j x st ps sp) (h : j ≤ k := by decide) : HeldD P w K mg base k F.addr sp := by
  obtain ⟨fd, h1, h2, h3, h4⟩ := F.at_addr
  exact ⟨fd, ps, h4.mono h, h1.kp, h3⟩
theorem de_callV (hs : ∀ q ∈ fs, HeldD X.prog X.w X.K X.mg X.base k2 q.1 q.2) (hr : Room k2 X.A) (ha : DA X (e :: es) dA) (hN : X.N[i]? = some y := by rfl) (hv : Vis X.env.scope y := by first | exact Or.inl rfl | exact Or.inr (Or.inl rfl) | exact Or.inr (Or.inr rfl))
    (hdb : (y == ("__debug__" : Str)) = false := by decide) (hcd : (y == ("__classdict__" : Str)) = false := by decide)
    (he : starEach (e :: es) X.env = (false, eval e X.env) :: starEach es X.env := by rfl) (hpl : (backTo pos (starEach es X.env)).any (·.1) = false := by rfl) : DE X (.Call (.Name y p) (e :: es) [] pos) (dCallV i fs dA) := by
  refine ⟨fun pins s σ H Q I h => ?_⟩
  obtain ⟨Z, F, M, ρ, QD, R, ⟨d, h1, q, hq, rfl, h⟩, o⟩ := h
  obtain ⟨v, hv1, r⟩ := R.e.at_ i _ (atD_get h1)
  cases r
  obtain ⟨fd, ps, ok, hk, hb⟩ := (hs q hq).ex
  refine (pe_callL (i := i) (E := E0) ok hr hN hv hk hb .nil pass0 ha hdb hcd he hpl).run pins s σ H Q I ⟨hv1, Z, F, M, ρ, _, R, h, fun vs ds F1 H1 M1 e1 R1 r1 h1 => ?_⟩
  show toSp X.K q.2 (vs ++ []) H1 Q E0
  rw [List.append_nil]
  exact ⟨Z, F1, M1, ds, QD, R1, r1, h1, o.mono e1⟩
end
/-! ### the law's entry, with tables -/
def spLawT (T : List (Addr × Str)) : SpD := fun ds M Q => ∃ ns : List Int, ds = [.frl (ns.map Dat.int)] ∧ ns.length ≤ 63 ∧ (∀ p ∈ T, Tb p.1 p.2 M) ∧ ∀ M', Q (.bl true) M'
def tabM (T : List (Addr × Str)) : MH := fun a => match T.find? (fun p => decide (p.1 = a)) with
  | some p => some (.oth (tblR (lamQ p.2)))
  | none => none
theorem tabM_at {T : List (Addr × Str)} (hn : (T.map (·.1)).Nodup) {p : Addr × Str} (h : p ∈ T) : Tb p.1 p.2 (tabM T) := by
  unfold Tb tabM
  have : T.find? (fun q => decide (q.1 = p.1)) = some p := by
    induction T with
    | nil => cases h
    | cons t T ih =>
      rw [List.map_cons, List.nodup_cons] at hn
      rw [List.find?_cons]
      rcases List.mem_cons.mp h with rfl | g
      · rw [decide_eq_true rfl]
      · rw [decide_eq_false (fun z => hn.1 (List.mem_map.mpr ⟨p, g, z.symm⟩))]
        exact ih hn.2 g
  rw [this]
theorem law_inT {K : PySem.W.Frag} {T : List (Addr × Str)} {H : Hp} {a : Addr} {ns : List Int} (hn : (T.map (·.1)).Nodup) (hl : ns.length ≤ 63) (hT : ∀ p ∈ T, H p.1 = some (.tbl #[])) (hS : SqL K H a (ns.map V.int)) : toSp K (spLawT T) [.ref a] H (fun v _ => v = .bl true) (fun _ _ _ => False) := by
  have hM : ∀ b m, tabM T b = some m → ∃ q : Str, m = .oth (tblR q) ∧ H b = some (.tbl #[]) := fun b m h => by
    unfold tabM at h
    split at h
    · rename_i p hp
      cases h
      have h1 := List.find?_some hp
      have h2 := List.mem_of_find?_eq_some hp
      have h3 : p.1 = b := of_decide_eq_true h1
      exact ⟨_, rfl, by rw [← h3]; exact hT p h2⟩
    · cases h
  rcases hS with hS | hS
  · have hne : ∀ b, H b = some (.tbl #[]) → b ≠ a := fun b hb z => by
      rw [z] at hb
      rcases hS with h | ⟨o, h⟩
      · rw [hb] at h
        cases h
      · rw [hb] at h
        cases h
    have e : (fun b => if b = a then H a else none) a = H a := if_pos rfl
    refine ⟨fun _ => none, fun b => if b = a then H a else none, tabM T, [.frl (ns.map Dat.int)], fun d _ => d = .bl true, ⟨fun b o h => ?_, fun _ _ h => (by cases h), fun b m h => ?_⟩, .one (.frl (.inl ?_) (reps_ints ns)), ⟨ns, rfl, hl, fun p hp => tabM_at hn hp, fun _ => rfl⟩, ?_⟩
    · by_cases hb : b = a
      · rw [if_pos hb] at h
        rw [hb]
        exact h
      · rw [if_neg hb] at h
        cases h
    · obtain ⟨q, rfl, hH⟩ := hM b m h
      exact ⟨if_neg (hne b hH), .tbl #[], hH, tblR_nil _ q⟩
    · rcases hS with h | ⟨o, h⟩
      · exact .inl (e.trans h)
      · exact .inr ⟨o, e.trans h⟩
    · intro v d F' H' M' _ _ r h
      subst h
      exact r.toBl
  · refine ⟨fun _ => none, fun _ => none, tabM T, [.frl (ns.map Dat.int)], fun d _ => d = .bl true, ⟨fun b o h => (by cases h), fun _ _ h => (by cases h), fun b m h => ?_⟩, .one (.frl (.inr hS) (reps_ints ns)), ⟨ns, rfl, hl, fun p hp => tabM_at hn hp, fun _ => rfl⟩, ?_⟩
    · obtain ⟨q, rfl, hH⟩ := hM b m h
      exact ⟨rfl, .tbl #[], hH, tblR_nil _ q⟩
    · intro v d F' H' M' _ _ r h
      subst h
      exact r.toBl
end DL
namespace DL
open PySem PySem.Spec PyProof.Rows L2 LamX NdefX
/-! ### ranges of great integers -/
theorem turn_long {P : Program} {w : World} {K : PySem.W.Frag} {tg : Expr} (it : Addr) (lo : Int) (n : Nat) : Turn P w K tg (Itr lo n) [it] it (fun i h => IsLongIter h it (lo + (i : Nat) * 1) ((n : Int) - (i : Nat)) 1) := by
  refine ⟨by simp, fun i h st b hb => ?_, fun i h h' st k => k it (by simp) _ st, ?_, ?_, fun _ _ _ _ _ st h => wpAny_pyIter_longiter st h⟩
  · obtain rfl : b = it := by simpa using hb
    exact ⟨_, st, fun v z => by
      have z' : Data.fields _ = Data.cell v := z
      cases z'⟩
  · rintro X rfl rfl rfl hc i pins s σ H E I hf st hg
    obtain ⟨f0, f1, f2, f3, f4, f5⟩ := hf it (by simp)
    refine (Walks.longrange (prog := X.prog) (w := X.w) (I.ok.hd hc) it lo 1 n).item i s _ _ hg st fun v h' tk ⟨t, ht⟩ st' kk => ?_
    subst ht
    have I1 : Inv X pins σ H { s with heap := h', toks := tk } := I.turned (fun b o hb e => kk b o (by simpa using hb) e) f0 f1 f3 f4 f5
    exact ⟨_, rfl, go_of (s := { s with heap := h', toks := tk }) (n := "longrange_iterator") st' rfl rfl (by decide) ⟨.int (lo + i), H, I1, ⟨t, by rw [Int.mul_one]⟩, ⟨rfl, rfl⟩, st', fun b hb => (hf b hb).1⟩⟩
  · rintro X rfl rfl rfl hc i pins s σ H E I hf st hg
    obtain ⟨f0, f1, f2, f3, f4, f5⟩ := hf it (by simp)
    have hn : n ≤ i := hg
    exact wpAny_pyNext_long_end (I.ok.hd hc) st (by omega) fun h' eb => ⟨rfl, I.turned (t' := s.toks) (fun b o hb e => eb b o hb e) f0 f1 f3 f4 f5⟩
section
variable {X : Cx} {tg : Expr}
theorem range_itL {pins : List (Addr × Obj)} {σ : L2.St} {H : Hp} {s : Shared} {R : It → Hp → Prop} {E : Value → Shared → Prop} {lo hi : Int} {t u v : Tok} {tk : Nat} (I : Inv X pins σ H s)
    (q : R (Itr lo (hi - lo).toNat) H) : wpAny (model X.prog X.w) X.A (pyIter (.ref s.heap.objs.size)) (PIE X pins σ tg R) E { s with heap := s.heap.push { cls := .type "range", data := .fields #[.int lo t, .int hi u, .int 1 v] }, toks := tk } := by
  have e1 : lo + ((0 : Nat) : Int) * 1 = lo := by simp
  have e2 : (((hi - lo).toNat : Nat) : Int) - ((0 : Nat) : Int) = Builtin.Range.rangeSize lo hi 1 := by rw [rangeSize_one]; split <;> omega
  have I1 : Inv X pins σ H { s with heap := s.heap.push { cls := .type "range", data := .fields #[.int lo t, .int hi u, .int 1 v] }, toks := tk } := I.kept fun b o e => Heap.get?_push_of_some _ e
  cases hs : Builtin.Range.small lo hi 1 with
  | true =>
    refine wpAny_pyIter_range (IsRange.new ..) hs ?_
    refine ⟨(s.heap.push { cls := .type "range", data := .fields #[.int lo t, .int hi u, .int 1 v] }).objs.size, [(s.heap.push { cls := .type "range", data := .fields #[.int lo t, .int hi u, .int 1 v] }).objs.size], _, _, H, rfl,
      I1.kept (t' := tk) fun b o e => Heap.get?_push_of_some _ e, turn_range _ lo (hi - lo).toNat, ?_, fun b hb => ?_, q⟩
    · show IsRangeIter _ _ (lo + ((0 : Nat) : Int) * 1) ((((hi - lo).toNat : Nat) : Int) - ((0 : Nat) : Int)) 1
      rw [e1, e2]
      exact Heap.get?_push_size _ rfl
    · obtain rfl : b = (s.heap.push { cls := .type "range", data := .fields #[.int lo t, .int hi u, .int 1 v] }).objs.size := by simpa using hb
      exact I1.fpOk (Nat.le_refl _) (I1.hok.fresh (Nat.le_refl _))
  | false =>
    refine wpAny_pyIter_longrange (IsRange.new ..) hs ?_
    refine ⟨(s.heap.push { cls := .type "range", data := .fields #[.int lo t, .int hi u, .int 1 v] }).objs.size, [(s.heap.push { cls := .type "range", data := .fields #[.int lo t, .int hi u, .int 1 v] }).objs.size], _, _, H, rfl,
      I1.kept (t' := tk) fun b o e => Heap.get?_push_of_some _ e, turn_long _ lo (hi - lo).toNat, ?_, fun b hb => ?_, q⟩
    · show IsLongIter _ _ (lo + ((0 : Nat) : Int) * 1) ((((hi - lo).toNat : Nat) : Int) - ((0 : Nat) : Int)) 1
      rw [e1, e2]
      exact Heap.get?_push_size _ rfl
    · obtain rfl : b = (s.heap.push { cls := .type "range", data := .fields #[.int lo t, .int hi u, .int 1 v] }).objs.size := by simpa using hb
      exact I1.fpOk (Nat.le_refl _) (I1.hok.fresh (Nat.le_refl _))
def iRngL (ta : TA) : TI := fun σ H R => ta σ H fun vs H1 => ∃ i j : Int, vs = [.int i, .int j] ∧ R (Itr i (j - i).toNat) H1
theorem pi_rangeL {a b : Expr} {ta : TA} {p pos : Pos} (hg : Gl X "range") (hm : X.mg "range" = none) (ha : PA X [a, b] ta) (hs : starEach [a, b] X.env = [(false, eval a X.env), (false, eval b X.env)] := by rfl) (hs2 : starEach [b] X.env = [(false, eval b X.env)] := by rfl) :
    PI X tg (.Call (.Name "range" p) [a, b] [] pos) (iRngL ta) := by
  refine ⟨fun pins s σ H R I h => Call_ (ld_blt I hg hm boot_range (PyProof.Rows.callWith_type1 (thn (ha.run pos pins s σ H _ I h) fun us s1 ⟨vs, H1, I1, r1, i, j, e, q⟩ => ?_) (by rw [hs, hs2]) (by rw [hs2]; rfl)))⟩
  subst e
  cases r1 with
  | cons r rr =>
    cases rr with
    | cons r' rr =>
      cases rr
      obtain ⟨t, rfl⟩ := r
      obtain ⟨t', rfl⟩ := r'
      exact call_range_2 (range_itL I1 q)
def dIRL (dA : TAD) : TID := fun ρ M R => dA ρ M fun xs M1 => match xs with
  | [.int i, .int j] => R (rngD i (j - i).toNat) M1
  | _ => False
theorem di_rngL {a b : Expr} {dA : TAD} {p pos : Pos} (hm : X.mg "range" = none) (ha : DA X [a, b] dA) (hg : Gl X "range" := by rfl) (hs : starEach [a, b] X.env = [(false, eval a X.env), (false, eval b X.env)] := by rfl) (hs2 : starEach [b] X.env = [(false, eval b X.env)] := by rfl) : DI X tg (.Call (.Name "range" p) [a, b] [] pos) (dIRL dA) := pi_w (pi_rangeL hg hm ha hs hs2) fun σ H R ⟨Z, F, M, ρ, RD, R0, h, o⟩ => by
  refine ⟨Z, F, M, ρ, _, R0, h, fun xs as F1 H1 M1 e1 R1 r1 h1 => ?_⟩
  split at h1
  · obtain ⟨v, ws, rfl, q1, r1⟩ := r1.uncons
    obtain ⟨v2, ws, rfl, q2, r1⟩ := r1.uncons
    cases r1.unnil
    cases q1
    cases q2
    exact ⟨_, _, rfl, o _ _ F1 H1 M1 e1 R1 walk_rng h1⟩
  · exact h1.elim
end
end DL
namespace DL
open PySem PySem.Spec PyProof.Rows L2 LamX NdefX
/-! ### a key in a dict -/
def rInDic : R2D := fun y x M Q => ∃ kvs k, dicR M x = some kvs ∧ keyD y = some k ∧ Q (.bl (valD kvs k).isSome) M
def rNotInDic : R2D := fun y x M Q => ∃ kvs k, dicR M x = some kvs ∧ keyD y = some k ∧ Q (.bl (!(valD kvs k).isSome)) M
section
variable {X : Cx}
def rvInDic (f : Bool → Bool) : R2 := fun y x H Q => ∃ a o, x = .ref a ∧ DGet H a y o ∧ Q (.bl (f o.isSome)) H
theorem op_inDic (hu : X.A.units + 1 < cLine) : OpR X (compareOp .In) (rvInDic fun b => b) := by
  intro pins s σ H y x iv u Q I ry rx h
  obtain ⟨a, o, rfl, g, q⟩ := h
  cases rx
  exact d_in hu I g ry fun s3 I3 => ⟨.bl o.isSome, H, I3, rfl, q⟩
theorem op_notInDic (hu : X.A.units + 1 < cLine) : OpR X (compareOp .NotIn) (rvInDic fun b => !b) := by
  intro pins s σ H y x iv u Q I ry rx h
  obtain ⟨a, o, rfl, g, q⟩ := h
  cases rx
  exact d_notIn hu I g ry fun s3 I3 => ⟨.bl (!o.isSome), H, I3, rfl, q⟩
theorem inDic_get {K : PySem.W.Frag} {F H : Hp} {y : V} {vs : List (Key × V)} {kvs : List (Key × Dat)} {k : Key} {a : Addr} (q5 : H a = some (.dK vs)) (r : RepK K F vs kvs) (e : y = kV k) : ∃ o : Option V, DGet H a y o ∧ o.isSome = (valD kvs k).isSome := by
  subst e
  refine ⟨valV vs k, .k q5, ?_⟩
  have := r.val k
  split at this
  · rename_i d h
    obtain ⟨v, h1, _⟩ := this
    rw [h1, h]
    rfl
  · rename_i h
    rw [this, h]
    rfl
theorem od_inDic (hu : X.A.units + 64 < cLine) : OpD X (compareOp .In) rInDic := ⟨_, op_inDic (by omega), fun Z F H M y x a b Q QD R ra rb hd o => by
  obtain ⟨kvs, k, h1, h2, h3⟩ := hd
  obtain ⟨p, vs, rfl, q5, q6⟩ := dicR_rep R rb h1
  obtain ⟨ov, g1, g2⟩ := inDic_get q5 q6 (keyD_rep ra h2)
  refine ⟨p, ov, rfl, g1, ?_⟩
  rw [g2]
  exact o _ _ F H M (Ext.refl F) R (.bl _) h3⟩
theorem od_notInDic (hu : X.A.units + 64 < cLine) : OpD X (compareOp .NotIn) rNotInDic := ⟨_, op_notInDic (by omega), fun Z F H M y x a b Q QD R ra rb hd o => by
  obtain ⟨kvs, k, h1, h2, h3⟩ := hd
  obtain ⟨p, vs, rfl, q5, q6⟩ := dicR_rep R rb h1
  obtain ⟨ov, g1, g2⟩ := inDic_get q5 q6 (keyD_rep ra h2)
  refine ⟨p, ov, rfl, g1, ?_⟩
  rw [g2]
  exact o _ _ F H M (Ext.refl F) R (.bl _) h3⟩
end
end DL
namespace DL
open PySem PySem.Spec PyProof.Rows L2 LamX NdefX
open PySem.W (DatumOrd Datum Holds HoldAll minOf)
/-! ### min(xs, default=d): ints, pairs of ints -/
section
variable {α : Type} [DecidableEq α] [DatumOrd α]
theorem holds_one {h : Heap} {v : Value} {x y : α} (a : Holds h v x) (b : Holds h v y) : x = y := by
  obtain ⟨as, ra⟩ := a
  obtain ⟨bs, rb⟩ := b
  have e := PySem.SeqAt.plain_unique _ _ v as bs (Datum.plain x) ra rb
  have h1 := Datum.eqv x y
  rw [← e, Datum.eqv x x, decide_eq_true rfl] at h1
  exact of_decide_eq_true h1.symm
/-- the least one is the least -/
def LeastOk (α : Type) [DecidableEq α] [DatumOrd α] : Prop := ∀ (y : α) (ys : List α), ∀ p ∈ y :: ys, DatumOrd.lt p (minOf y ys) = false
def rMinV (K : PySem.W.Frag) (At : Hp → V → α → Prop) : List V → List V → Hp → VK → Prop := fun vs zs H Q => ∃ (b : Addr) (xs : List V) (qs : List α) (d : V), vs = [V.ref b] ∧ zs = [d] ∧ SqL K H b xs ∧ Paired (At H) xs qs ∧
  (qs = [] → Q d H) ∧ ∀ (i : Nat) (v : V) (q : α), xs[i]? = some v → qs[i]? = some q → (∀ p ∈ qs, DatumOrd.lt p q = false) → Q v H
theorem paired_at {β γ : Type} {R : β → γ → Prop} : ∀ {xs : List β} {ys : List γ}, Paired R xs ys → ∀ {i : Nat} {x : β}, xs[i]? = some x → ∃ y, ys[i]? = some y ∧ R x y
  | _, _, .nil, i, x, h => by simp at h
  | _, _, .cons r rs, 0, x, h => by
    cases Option.some.inj (show some _ = some x from h)
    exact ⟨_, rfl, r⟩
  | _, _, .cons r rs, i + 1, x, h => paired_at rs (i := i) (by simpa using h)
theorem paired_to {β γ : Type} {R : β → γ → Prop} : ∀ {xs : List β} {ys : List γ}, Paired R xs ys → ∀ {i : Nat} {y : γ}, ys[i]? = some y → ∃ x, xs[i]? = some x ∧ R x y
  | _, _, .nil, i, x, h => by simp at h
  | _, _, .cons r rs, 0, x, h => by
    cases Option.some.inj (show some _ = some x from h)
    exact ⟨_, rfl, r⟩
  | _, _, .cons r rs, i + 1, x, h => paired_to rs (i := i) (by simpa using h)
theorem hold_all {h : Heap} {R : V → α → Prop} : ∀ {xs : List V} {us : List Value} {qs : List α}, (∀ v u q, R v q → RelV v u → Holds h u q) → Vals xs us → Paired R xs qs → HoldAll h us qs
  | _, _, _, _, .nil, .nil => ⟨_, .nil⟩
  | _, _, _, f, .cons r rs, .cons p ps => by
    obtain ⟨as, ra⟩ := f _ _ _ p r
    obtain ⟨bs, rb⟩ := hold_all f rs ps
    exact ⟨_, .cons ra rb⟩
variable {X : Cx}
theorem cr_minDef (At : Hp → V → α → Prop) (hAt : ∀ (pins : List (Addr × Obj)) (σ : L2.St) (H : Hp) (s : Shared) (v : V) (u : Value) (q : α), Inv X pins σ H s → At H v q → RelV v u → Holds s.heap u q) (hmin : LeastOk α) (hc : X.calm = true)
    (hu : X.A.units + 1 + Datum.depth α < cLine) : CallRK X (.builtin "min") [Str.ofString "default"] (rMinV X.K At) := by
  intro pins s σ H vs zs us ws Q I r rz h
  obtain ⟨b, xs, qs, d, rfl, rfl, hb, hp, h0, h1⟩ := h
  obtain rfl := Vals.ref1 r
  obtain ⟨wd, rfl, ed⟩ := vals1 rz
  obtain ⟨its, rv, hl, hz⟩ := I.list hb
  have hall : HoldAll s.heap its qs := hold_all (fun v u q a e => hAt pins σ H s v u q I a e) rv hp
  show wpAny _ _ (call (.builtin "min") [.ref b] [(Str.ofString "default", wd)]) _ _ _
  refine PySem.W.min_list_datum_default (I.ok.hd hc) hl.isList (by simpa using hall) hu (fun e h' tk k => ?_) fun y ys i v h' tk e hi hv k => ?_
  · exact ⟨d, H, I.kept (t' := tk) k, ed, h0 e⟩
  · have hi' : its[i]? = some v := by simpa using hi
    obtain ⟨x, hx, hxv⟩ := paired_to rv hi'
    obtain ⟨q, hq, hxq⟩ := paired_at hp hx
    have hq2 := holds_one ((hAt pins σ H s x v q I hxq hxv).keeps k) hv
    refine ⟨x, H, I.kept (t' := tk) k, hxv, h1 i x q hx hq fun p hpm => ?_⟩
    rw [hq2]
    rw [e] at hpm
    exact hmin y ys p hpm
end
theorem least_ints : LeastOk Int := by
  have key : ∀ (ys : List Int) (y : Int), (minOf y ys ≤ y) ∧ ∀ p ∈ ys, minOf y ys ≤ p := by
    intro ys
    induction ys with
    | nil => exact fun y => ⟨Int.le_refl _, fun p h => by cases h⟩
    | cons z ys ih =>
      intro y
      have e : minOf y (z :: ys) = minOf (if DatumOrd.lt z y = true then z else y) ys := rfl
      rw [e]
      have hlt : (DatumOrd.lt z y = true) ↔ z < y := by
        show decide (z < y) = true ↔ _
        exact decide_eq_true_iff
      obtain ⟨a, b⟩ := ih (if DatumOrd.lt z y = true then z else y)
      by_cases g : DatumOrd.lt z y = true
      · rw [if_pos g] at a b ⊢
        have := hlt.mp g
        exact ⟨by omega, fun p hp => by
          rcases List.mem_cons.mp hp with rfl | hp
          · exact a
          · exact b p hp⟩
      · rw [if_neg g] at a b ⊢
        have : ¬ z < y := fun h => g (hlt.mpr h)
        exact ⟨a, fun p hp => by
          rcases List.mem_cons.mp hp with rfl | hp
          · omega
          · exact b p hp⟩
  intro y ys p hp
  show decide (p < minOf y ys) = false
  refine decide_eq_false ?_
  rcases List.mem_cons.mp hp with rfl | hp
  · have := (key ys p).1
    omega
  · have := (key ys y).2 p hp
    omega
theorem lt_pair {p q : Int × Int} : (DatumOrd.lt p q = false) ↔ lexLe q p := by
  show (if p.1 = q.1 then decide (p.2 < q.2) else decide (p.1 < q.1)) = false ↔ (q.1 < p.1 ∨ (q.1 = p.1 ∧ q.2 ≤ p.2))
  by_cases h : p.1 = q.1
  · rw [if_pos h, decide_eq_false_iff_not]
    omega
  · rw [if_neg h, decide_eq_false_iff_not]
    omega
theorem least_pairs : LeastOk (Int × Int) := by
  have tr : ∀ {p q r : Int × Int}, lexLe p q → lexLe q r → lexLe p r := by
    intro p q r h1 h2
    unfold lexLe at *
    omega
  have key : ∀ (ys : List (Int × Int)) (y : Int × Int), lexLe (minOf y ys) y ∧ ∀ p ∈ ys, lexLe (minOf y ys) p := by
    intro ys
    induction ys with
    | nil => exact fun y => ⟨Or.inr ⟨rfl, Int.le_refl _⟩, fun p h => by cases h⟩
    | cons z ys ih =>
      intro y
      have e : minOf y (z :: ys) = minOf (if DatumOrd.lt z y = true then z else y) ys := rfl
      rw [e]
      obtain ⟨a, b⟩ := ih (if DatumOrd.lt z y = true then z else y)
      by_cases g : DatumOrd.lt z y = true
      · rw [if_pos g] at a b ⊢
        have hzy : lexLe z y := by
          have : ¬ lexLe y z := fun h => by
            rw [lt_pair.mpr h] at g
            cases g
          unfold lexLe at *
          omega
        exact ⟨tr a hzy, fun p hp => by
          rcases List.mem_cons.mp hp with rfl | hp
          · exact a
          · exact b p hp⟩
      · rw [if_neg g] at a b ⊢
        have hyz : lexLe y z := lt_pair.mp (by simpa using g)
        exact ⟨a, fun p hp => by
          rcases List.mem_cons.mp hp with rfl | hp
          · exact tr a hyz
          · exact b p hp⟩
  intro y ys p hp
  refine lt_pair.mpr ?_
  rcases List.mem_cons.mp hp with rfl | hp
  · exact (key ys p).1
  · exact (key ys y).2 p hp
section
variable {X : Cx} {e : Expr} {kws : List Keyword} {pos p : Pos} {dA dK : TAD}
/-- over data: α's values are shown by D, the lesser one stands first by le -/
def dMinDef {α : Type} (D : α → Dat) (le : α → α → Prop) (dA dK : TAD) : TED := fun ρ M Q => dA ρ M fun ds M1 => dK ρ M1 fun es M2 => ∃ (x d : Dat) (qs : List α), ds = [x] ∧ es = [d] ∧ lsR M2 x = some (qs.map D) ∧
  (qs = [] → Q d M2) ∧ ∀ q ∈ qs, (∀ p ∈ qs, le q p) → Q (D q) M2
theorem de_minDefG {α : Type} [DecidableEq α] [DatumOrd α] (D : α → Dat) (le : α → α → Prop) (hle : ∀ p q : α, DatumOrd.lt p q = false → le q p) (hmin : LeastOk α) (At : Hp → V → α → Prop)
    (hRep : ∀ F H v q, Ext F H → Rep X.K F v (D q) → At H v q) (hAt : ∀ (pins : List (Addr × Obj)) (σ : L2.St) (H : Hp) (s : Shared) (v : V) (u : Value) (q : α), Inv X pins σ H s → At H v q → RelV v u → Holds s.heap u q)
    (hc : X.calm = true) (hu : X.A.units + 1 + Datum.depth α < cLine) (hg : Gl X "min") (hm : X.mg "min" = none) (ha : DA X [e] dA) (hk : DK X kws dK)
    (he : backTo pos (starEach [e] X.env) = (false, eval e X.env) :: backTo pos (starEach [] X.env)) (hpl : (backTo pos (starEach [e] X.env)).any (·.1) = false)
    (hall : (backToKw pos (keywordEach kws X.env)).all (·.1.isSome) = true) (hnone : (backToKw pos (keywordEach kws X.env)).any (·.1.isNone) = false) (hks : (backToKw pos (keywordEach kws X.env)).filterMap (·.1) = [Str.ofString "default"]) :
    DE X (.Call (.Name "min" p) [e] kws pos) (dMinDef D le dA dK) :=
  pe_w (pe_callBK (cr_minDef At hAt hmin hc hu) hg hm (by decide +kernel) ha hk (by decide) (by decide) he hpl hall hnone hks) fun σ H Q ⟨Z, F, M, ρ, QD, R, h, o⟩ => by
    refine ⟨Z, F, M, ρ, _, R, h, fun vs ds F1 H1 M1 e1 R1 r1 h1 => ?_⟩
    refine ⟨Z, F1, M1, ρ, _, R.ext e1 R1, h1, fun zs es F2 H2 M2 e2 R2 r2 h2 => ?_⟩
    obtain ⟨x, d, qs, rfl, rfl, q1, q2, q3⟩ := h2
    obtain ⟨vx, ws, rfl, rx, rs⟩ := (r1.mono e2).uncons
    cases rs.unnil
    obtain ⟨vd, ws, rfl, rd, rs⟩ := r2.uncons
    cases rs.unnil
    obtain ⟨pp, xs, rfl, hq, rr⟩ := lsR_rep R2 rx q1
    have pr : ∀ {xs : List V} {qs : List α}, Reps X.K F2 xs (qs.map D) → Paired (At H2) xs qs := by
      intro xs
      induction xs with
      | nil =>
        intro qs r
        cases qs with
        | nil => exact .nil
        | cons q qs => cases r
      | cons v xs ih =>
        intro qs r
        cases qs with
        | nil => cases r
        | cons q qs =>
          cases r with
          | cons r1 rs => exact .cons (hRep F2 H2 v q R2.sub r1) (ih rs)
    refine ⟨pp, xs, qs, vd, rfl, rfl, hq, pr rr, fun h => o _ _ F2 H2 M2 (e1.trans e2) R2 rd (q2 h), fun i v q h3 h4 h5 => ?_⟩
    obtain ⟨v', h6, h7⟩ := rr.get (i := i) (d := D q) (by rw [List.getElem?_map, h4]; rfl)
    rw [h3] at h6
    cases h6
    exact o _ _ F2 H2 M2 (e1.trans e2) R2 h7 (q3 q (List.mem_of_getElem? h4) fun p hp => hle p q (h5 p hp))
theorem de_minDefI (hu : X.A.units + 64 < cLine) (ha : DA X [e] dA) (hk : DK X kws dK) (hm : X.mg "min" = none) (hc : X.calm = true := by rfl) (hg : Gl X "min" := by rfl)
    (he : backTo pos (starEach [e] X.env) = (false, eval e X.env) :: backTo pos (starEach [] X.env) := by rfl) (hpl : (backTo pos (starEach [e] X.env)).any (·.1) = false := by rfl)
    (hall : (backToKw pos (keywordEach kws X.env)).all (·.1.isSome) = true := by rfl) (hnone : (backToKw pos (keywordEach kws X.env)).any (·.1.isNone) = false := by rfl) (hks : (backToKw pos (keywordEach kws X.env)).filterMap (·.1) = [Str.ofString "default"] := by rfl) :
    DE X (.Call (.Name "min" p) [e] kws pos) (dMinDef Dat.int (· ≤ ·) dA dK) :=
  de_minDefG Dat.int (· ≤ ·) (fun p q h => by
    have : ¬ p < q := of_decide_eq_false h
    omega) least_ints (fun _ v q => v = .int q) (fun F H v q _ r => r.toInt) (fun pins σ H s v u q I e r => by
      subst e
      obtain ⟨t, rfl⟩ := r
      exact PySem.W.holds_int q t) hc (by show _ + 1 + 0 < _; omega) hg hm ha hk he hpl hall hnone hks
theorem de_minDefQ (hu : X.A.units + 64 < cLine) (ha : DA X [e] dA) (hk : DK X kws dK) (hm : X.mg "min" = none) (hc : X.calm = true := by rfl) (hg : Gl X "min" := by rfl)
    (he : backTo pos (starEach [e] X.env) = (false, eval e X.env) :: backTo pos (starEach [] X.env) := by rfl) (hpl : (backTo pos (starEach [e] X.env)).any (·.1) = false := by rfl)
    (hall : (backToKw pos (keywordEach kws X.env)).all (·.1.isSome) = true := by rfl) (hnone : (backToKw pos (keywordEach kws X.env)).any (·.1.isNone) = false := by rfl) (hks : (backToKw pos (keywordEach kws X.env)).filterMap (·.1) = [Str.ofString "default"] := by rfl) :
    DE X (.Call (.Name "min" p) [e] kws pos) (dMinDef prD lexLe dA dK) :=
  de_minDefG prD lexLe (fun p q h => lt_pair.mp h) least_pairs (PairAt X.K) (fun F H v q e r => by
    obtain ⟨t, e1, h⟩ := rep_pr r
    exact ⟨t, e1, ext_t e h⟩) (fun pins σ H s v u q I e r => by
      obtain ⟨t, rfl, h⟩ := e
      cases r
      obtain ⟨its, rv, ht, _⟩ := I.tuple h
      obtain ⟨x1, x2, e2, r1, r2⟩ := vals2 rv
      obtain ⟨k1, rfl⟩ := r1
      obtain ⟨k2, rfl⟩ := r2
      subst e2
      exact PySem.W.holds_pair ht (PySem.W.holds_int _ _) (PySem.W.holds_int _ _)) hc (by show _ + 1 + (1 + max 0 0) < _; simp; omega) hg hm ha hk he hpl hall hnone hks
end
section
variable {X : Cx}
def rReverseD : Dat → List Dat → MH → VKD → Prop := fun x as M Q => match x with
  | .ref a => (match as with
    | [] => ∃ ds, M a = some (.lst ds) ∧ Q .non (updM M a (.lst ds.reverse))
    | _ => False)
  | _ => False
theorem md_reverse : MtD X "list.reverse" rReverseD := ⟨_, mt_reverse, fun Z F H M x xs a as Q QD R ra rs hd o => by
  unfold rReverseD at hd
  split at hd
  · rename_i p
    split at hd
    · obtain ⟨ds, q1, q3⟩ := hd
      cases ra
      cases rs.unnil
      obtain ⟨ys, q4, r4⟩ := (R.chg p _ q1).2
      have R3 := R.write (o := .lst ys.reverse) (m := .lst ds.reverse) q1 ⟨_, upd_same, r4.rev⟩
      exact ⟨p, ys, rfl, rfl, q4, o _ _ F _ _ (Ext.refl F) R3 .non q3⟩
    · exact hd.elim
  · exact hd.elim⟩
end
/-! ### isinstance of a list that may change -/
section
variable {X : Cx}
def rIsiM (K : PySem.W.Frag) : List Dat → MH → VKD → Prop := fun ds M Q => match ds with
  | [.ref a, .ty n] => ∃ l, M a = some (.lst l) ∧ Q (.bl (subB .lst n)) M
  | _ => rIsiD K ds M Q
theorem cd_isiM (K : PySem.W.Frag) (h : X.K = K) : CallD X (.builtin "isinstance") (rIsiM K) := by
  subst h
  have main : ∃ r, CallR X (.builtin "isinstance") r ∧ r = rIsi X.K := ⟨_, call_isi, rfl⟩
  obtain ⟨r0, h0, hs0⟩ := cd_isi (X := X)
  refine ⟨fun vs H Q => rIsi X.K vs H Q ∨ r0 vs H Q, CallR.or call_isi h0, fun Z F H M vs ds Q QD R rs hd o => ?_⟩
  unfold rIsiM at hd
  split at hd
  · rename_i a n
    obtain ⟨l, q1, q2⟩ := hd
    obtain ⟨v, ws, rfl, r1, rs⟩ := rs.uncons
    obtain ⟨y, ws, rfl, r2, rs⟩ := rs.uncons
    cases rs.unnil
    cases r1
    cases r2
    obtain ⟨xs, q3, _⟩ := (R.chg a _ q1).2
    exact .inl ⟨.ref a, _, _, _, _, rfl, .ty _, .base (.lst q3), kit_sub .lst n, o _ _ F H M (Ext.refl F) R (.bl _) q2⟩
  · exact .inr (hs0 Z F H M vs ds Q QD R rs hd o)
theorem w_isiM {K : PySem.W.Frag} {a : Addr} {n : BT} {M : MH} {Q : VKD} : rIsiM K [.ref a, .ty n] M Q = ∃ l, M a = some (.lst l) ∧ Q (.bl (subB .lst n)) M := rfl
end
/-! ### comprehensions over a list that may change, but does not meanwhile -/
section
def lcGoM (p : Addr) (all : List Dat) (g : TGD) (tt : TTD) (te : TED) (ρ : EnvD) (mk : Bool) (Q : VKD) : List Dat → List Dat → MH → Prop
  | [], acc, M => M p = some (.lst all) ∧ newL mk acc M Q
  | x :: r, acc, M => M p = some (.lst all) ∧ g x ρ M fun ρ2 M2 => tt ρ2 M2 fun b M3 => if b = true then te ρ2 M3 fun y M4 => lcGoM p all g tt te ρ mk Q r (acc ++ [y]) M4 else lcGoM p all g tt te ρ mk Q r acc M3
def dLcM (mk : Bool) (vs : List Nat) (de : TED) (g : TGD) (tt : TTD) (te : TED) : TED := fun ρ M Q => de ρ M fun x M1 => ∃ (p : Addr) (ds : List Dat), x = .ref p ∧ M1 p = some (.lst ds) ∧ ds.length ≤ sizeLine ∧ lcGoM p ds g tt te (wipeD ρ vs) mk Q ds [] M1
theorem lcM_by {p : Addr} {all : List Dat} {g : TGD} {tt : TTD} {te : TED} {ρ : EnvD} {mk : Bool} {Q : VKD} (I : List Dat → List Dat → MH → Prop) (hend : ∀ acc M, I [] acc M → M p = some (.lst all) ∧ newL mk acc M Q)
    (step : ∀ x r acc M (k : List Dat → MH → Prop), I (x :: r) acc M → (∀ acc M, I r acc M → k acc M) → M p = some (.lst all) ∧ g x ρ M fun ρ2 M2 => tt ρ2 M2 fun b M3 => if b = true then te ρ2 M3 fun y M4 => k (acc ++ [y]) M4 else k acc M3) : ∀ ds acc M, I ds acc M → lcGoM p all g tt te ρ mk Q ds acc M
  | [], acc, M, h => hend acc M h
  | x :: r, acc, M, h => step x r acc M (fun acc M => lcGoM p all g tt te ρ mk Q r acc M) h fun acc M h => lcM_by I hend step r acc M h
theorem up_lcM {K : PySem.W.Frag} {mk : Bool} {vs : List Nat} {de : TED} {g : TGD} {tt : TTD} {te : TED} {σ : L2.St} {H : Hp} {Q : VK} (h : up K (dLcM mk vs de g tt te) σ H Q) : tLc (iList K (up K de)) (upGo K vs g) (upT K tt) (up K te) vs σ H Q := by
  obtain ⟨Z, F, M, ρ, QD, R, h, o⟩ := h
  refine ⟨Z, F, M, ρ, _, R, h, fun xv xd F1 H1 M1 e1 R1 rx h1 => ?_⟩
  obtain ⟨p, ds, rfl, hp1, hz, h1⟩ := h1
  cases rx
  have atp : ∀ {F' H' : Hp} {M' : MH}, RelM K Z F' H' M' → M' p = some (.lst ds) → ∃ xs, H' p = some (.lst xs) ∧ Reps K F' xs ds := fun R q => (R.chg p _ q).2
  refine ⟨p, rfl, ?_, ?_⟩
  · obtain ⟨xs, q, _⟩ := atp R1 hp1
    exact ⟨xs, SqL.of q⟩
  intro D hD
  have hidD : ∀ {F : Hp} {H : Hp} {M : MH} {accv : List V}, RelM K (upd Z D (.lst accv)) F H M → H D = some (.lst accv) ∧ F D = none ∧ M D = none := fun R => R.hid D _ upd_same
  -- the hidden list, put away and taken up
  have hide : ∀ {F H : Hp} {M : MH} {accv : List V}, RelM K Z F H M → H D = some (.lst accv) → F D = none → M D = none → RelM K (upd Z D (.lst accv)) F H M := fun {F H M accv} R hH hF hM =>
    ⟨R.sub, fun b u q => by
      by_cases hb : b = D
      · subst hb
        rw [upd_same] at q
        cases q
        exact ⟨hH, hF, hM⟩
      · rw [upd_ne hb] at q
        exact R.hid b u q, R.chg⟩
  have hZD : Z D = none := by
    cases q : Z D with
    | none => rfl
    | some u =>
      rw [(R1.hid D u q).1] at hD
      cases hD
  have bare : ∀ {F H : Hp} {M : MH} {accv : List V}, RelM K (upd Z D (.lst accv)) F H M → RelM K Z F H M := fun {F H M accv} R =>
    ⟨R.sub, fun b u q => R.hid b u (by rw [upd_ne (ne_of_none q hZD)]; exact q), R.chg⟩
  refine ⟨fun i m H => m = ds.length - i ∧ i ≤ ds.length ∧ ∃ F' M accv acc, Ext F1 F' ∧ RelM K Z F' H M ∧ H D = some (.lst accv) ∧ F' D = none ∧ M D = none ∧ Reps K F' accv acc ∧ acc.length ≤ i ∧ lcGoM p ds g tt te (wipeD ρ vs) mk QD (ds.drop i) acc M,
    ⟨ds.length, by simp, Nat.zero_le _, F1, M1, [], [], Ext.refl _, ⟨fun b u q => ?_, fun b u q => ?_, fun b m q => ?_⟩, upd_same, (R1.fresh hD).1, (R1.fresh hD).2, .nil, Nat.le_refl _, h1⟩, ?_⟩
  · rw [upd_ne (ne_of_none (R1.sub b u q) hD)]
    exact R1.sub b u q
  · obtain ⟨q1, q2, q3⟩ := R1.hid b u q
    exact ⟨by rw [upd_ne (ne_of_none q1 hD)]; exact q1, q2, q3⟩
  · obtain ⟨q1, q2⟩ := R1.chg b m q
    exact ⟨q1, q2.mono (Ext.refl _) (upd_ne (R1.ne hD q))⟩
  rintro i m H2 ⟨rfl, hi, F2, M2, accv, acc, e2, R2, a1, a2, a3, a4, a5, h2⟩
  by_cases hlt : i < ds.length
  · obtain ⟨d, hd⟩ : ∃ d, ds[i]? = some d := ⟨ds[i], List.getElem?_eq_getElem hlt⟩
    have hdr : ds.drop i = d :: ds.drop (i + 1) := by
      obtain ⟨h5, h6⟩ := List.getElem?_eq_some_iff.mp hd
      rw [List.drop_eq_getElem_cons h5, h6]
    rw [hdr] at h2
    unfold lcGoM at h2
    obtain ⟨hp2, h2⟩ := h2
    obtain ⟨xs2, q2, r2⟩ := atp R2 hp2
    obtain ⟨v2, hv2, rv2⟩ := r2.get hd
    refine .inr ⟨⟨xs2, v2, SqL.of q2, hv2⟩, fun H' => ∃ F' M accv acc, Ext F1 F' ∧ RelM K Z F' H' M ∧ H' D = some (.lst accv) ∧ F' D = none ∧ M D = none ∧ Reps K F' accv acc ∧ acc.length ≤ i + 1 ∧ lcGoM p ds g tt te (wipeD ρ vs) mk QD (ds.drop (i + 1)) acc M,
      fun H' n => ⟨ds.length - (i + 1), by omega, rfl, hlt, n⟩, fun x H' y => ?_⟩
    have R2h := hide R2 a1 a2 a3
    · obtain ⟨rfl, y⟩ := y
      have ex2 := (y xs2 (SqL.of q2)).symm.trans hv2
      cases ex2
      obtain ⟨F3, e3, R3, r3⟩ : ∃ F'', Ext F2 F'' ∧ RelM K (upd Z D (.lst accv)) F'' _ M2 ∧ Rep K F'' _ d := ⟨F2, Ext.refl _, R2h, rv2⟩
      have R0 : Rel K (upd Z D (.lst accv)) F3 H' M2 (wipe σ vs) (wipeD ρ vs) := ⟨R3, (wipeD_rep R.e vs).mono ((e1.trans e2).trans e3)⟩
      refine ⟨upd Z D (.lst accv), F3, M2, wipeD ρ vs, d, _, R0, r3, h2, fun σ4 ρ4 F4 H4 M4 e4 R4 wp h4 => ⟨wp.trans wipe_wipe, ?_⟩⟩
      refine ⟨upd Z D (.lst accv), F4, M4, ρ4, _, R4, h4, fun b F5 H5 M5 e5 R5 h5 => ?_⟩
      have e15 := ((e2.trans e3).trans e4).trans e5
      cases b with
      | true =>
        dsimp only at h5 ⊢
        rw [if_pos rfl] at h5 ⊢
        refine ⟨upd Z D (.lst accv), F5, M5, ρ4, _, R4.ext e5 R5, h5, fun yv yd F6 H6 M6 e6 R6 r6 h6 => ?_⟩
        obtain ⟨b1, b2, b3⟩ := hidD R6
        refine ⟨accv, b1, by have := a4.length; omega, F6, M6, accv ++ [yv], acc ++ [yd], e15.trans e6, ⟨fun b u q => ?_, fun b u q => ?_, fun b m q => ?_⟩, upd_same, b2, b3, (a4.mono (((e3.trans e4).trans e5).trans e6)).app (.one r6), by rw [List.length_append, List.length_singleton]; omega, h6⟩
        · rw [upd_ne (ne_of_none q b2)]
          exact R6.sub b u q
        · obtain ⟨q1, q2, q3⟩ := (bare R6).hid b u q
          exact ⟨by rw [upd_ne (ne_of_none q hZD)]; exact q1, q2, q3⟩
        · obtain ⟨q1, q2⟩ := R6.chg b m q
          exact ⟨q1, q2.mono (Ext.refl _) (upd_ne (ne_dom q b3))⟩
      | false =>
        dsimp only at h5 ⊢
        rw [if_neg Bool.false_ne_true] at h5 ⊢
        obtain ⟨b1, b2, b3⟩ := hidD R5
        exact ⟨F5, M5, accv, acc, e15, bare R5, b1, b2, b3, a4.mono ((e3.trans e4).trans e5), by omega, h5⟩
  · have e : i = ds.length := by omega
    subst e
    rw [List.drop_length] at h2
    unfold lcGoM at h2
    obtain ⟨hp2, h2⟩ := h2
    obtain ⟨xs2, q2, r2⟩ := atp R2 hp2
    refine .inl ⟨⟨xs2, SqL.of q2, by rw [r2.length]; exact Nat.le_refl _⟩, ?_⟩
    cases mk with
    | false =>
      have h2' : QD (.lst acc) M2 := h2
      have ee := Ext.new (o := .lst accv) a2
      refine o _ _ (upd F2 D (.lst accv)) H2 M2 ((e1.trans e2).trans ee) ⟨fun b u q => ?_, fun b u q => ?_, fun b m q => ?_⟩ (.lst upd_same (a4.mono ee)) h2'
      · by_cases hb : b = D
        · subst hb
          rw [upd_same] at q
          cases q
          exact a1
        · rw [upd_ne hb] at q
          exact R2.sub b u q
      · obtain ⟨q1, q2, q3⟩ := R2.hid b u q
        exact ⟨q1, by rw [upd_ne (ne_of_none q hZD)]; exact q2, q3⟩
      · obtain ⟨q1, q2⟩ := R2.chg b m q
        exact ⟨by rw [upd_ne (ne_dom q a3)]; exact q1, q2.mono ee rfl⟩
    | true =>
      have h2' := (show ∀ a, M2 a = none → QD (.ref a) (updM M2 a (.lst acc)) from h2) D a3
      refine o _ _ F2 H2 (updM M2 D (.lst acc)) (e1.trans e2) ⟨R2.sub, fun b u q => ?_, fun b m q => ?_⟩ (.ref D) h2'
      · obtain ⟨q1, q2, q3⟩ := R2.hid b u q
        exact ⟨q1, q2, by rw [updM_ne (ne_of_none q hZD)]; exact q3⟩
      · by_cases hb : b = D
        · subst hb
          rw [updM_same] at q
          cases q
          exact ⟨a2, accv, a1, a4⟩
        · rw [updM_ne hb] at q
          exact R2.chg b m q
variable {X : Cx}
theorem de_lcM (mk : Bool) {elt tg iter : Expr} {ifs : List Expr} {scope : Scope} {own : List (Str × Nat)} {pos : Pos} {de : TED} {g : TGD} {tt : TTD} {te : TED} (hN : X.N.Nodup) (hi : DE X iter de) (ok : BlkOk X.N X.env.scope scope own)
    (hg : ∀ (s : Shared) (H : Hp) (C : Addr) (cl : List (Str × Addr)) (fp : List Addr), DGo (X.blk s H scope (compEnvC scope cl C X.env) fp) tg (own.map (·.2)) g) (ht : ∀ (s : Shared) (H : Hp) (C : Addr) (cl : List (Str × Addr)) (fp : List Addr), DTs (X.blk s H scope (compEnvC scope cl C X.env) fp) ifs tt)
    (he : ∀ (s : Shared) (H : Hp) (C : Addr) (cl : List (Str × Addr)) (fp : List Addr), DE (X.blk s H scope (compEnvC scope cl C X.env) fp) elt te) (hc : X.calm = true := by rfl) (hs : ∀ x, foldedSetIterable iter X.env x = pure x := by intro _; rfl) :
    DE X (.ListComp elt [⟨tg, iter, ifs, 0⟩] scope pos) (dLcM mk (own.map (·.2)) de g tt te) := pe_w (pe_lc hc hN (pi_list hi) ok hg ht he hs) fun σ H Q h => up_lcM h
theorem ds_setLcM {i : Nat} (mk : Bool) {y : Str} {py : Pos} {elt tg iter : Expr} {ifs : List Expr} {scope : Scope} {own : List (Str × Nat)} {pos spos : Pos} {de : TED} {g : TGD} {tt : TTD} {te : TED} (hN : X.N.Nodup) (hi : DE X iter de) (ok : BlkOk X.N X.env.scope scope own)
    (hg : ∀ (s : Shared) (H : Hp) (C : Addr) (cl : List (Str × Addr)) (fp : List Addr), DGo (X.blk s H scope (compEnvC scope cl C X.env) fp) tg (own.map (·.2)) g) (ht : ∀ (s : Shared) (H : Hp) (C : Addr) (cl : List (Str × Addr)) (fp : List Addr), DTs (X.blk s H scope (compEnvC scope cl C X.env) fp) ifs tt)
    (he : ∀ (s : Shared) (H : Hp) (C : Addr) (cl : List (Str × Addr)) (fp : List Addr), DE (X.blk s H scope (compEnvC scope cl C X.env) fp) elt te) (hy : X.N[i]? = some y := by rfl) (hyl : X.env.scope.names.lookup y = some .local := by rfl)
    (hsw : swapsWith (.ListComp elt [⟨tg, iter, ifs, 0⟩] scope pos) (some (.Name y py)) spos.line X.env = pure true := by exact sw_true rfl rfl rfl (by decide +kernel)) (hc : X.calm = true := by rfl) (hs : ∀ x, foldedSetIterable iter X.env x = pure x := by intro _; rfl) :
    DS X (.Assign [.Name y py] (.ListComp elt [⟨tg, iter, ifs, 0⟩] scope pos) spos) (dAsg (dLcM mk (own.map (·.2)) de g tt te) (dgN i)) := ps_w (ps_setLc hc hN hy hyl hsw (pi_list hi) ok hg ht he hs) fun D σ H ⟨Z, F, M, ρ, DD, R, h, o⟩ => by
  refine up_lcM (Q := fun x H1 => gName i x σ H1 D.nx) ⟨Z, F, M, ρ, _, R, h, fun v d F1 H1 M1 e1 R1 r1 h1 => ?_⟩
  refine o.nx _ _ _ _ _ e1 ⟨R1, ?_⟩ h1
  rw [setD_set]
  exact (R.e.mono e1).set r1 i
end
end DL
namespace LW
open PySem PySem.Spec PyProof.Rows L2 LamX NdefX DL
def topS (i : Nat) : Stmt := PySem.Challenge.pw_farwrap_k48_values_first_met.main.body.getD i (.Pass ⟨0, 0, 0, 0⟩)
abbrev s_is_integer : Stmt := topS 5
abbrev s_is_between : Stmt := topS 6
abbrev s_check_between : Stmt := topS 7
abbrev s_check_kind : Stmt := topS 11
abbrev s_size_of : Stmt := topS 12
abbrev s_low_of : Stmt := topS 13
abbrev s_placed : Stmt := topS 14
abbrev s_check_value : Stmt := topS 15
abbrev s_is_value : Stmt := topS 16
abbrev s_inverse_of : Stmt := topS 17
abbrev s_twos_in : Stmt := topS 18
abbrev s_check_generator : Stmt := topS 20
abbrev s_line_of : Stmt := topS 21
abbrev s_value_behind : Stmt := topS 22
abbrev s_back_of : Stmt := topS 23
abbrev s_stepped : Stmt := topS 24
abbrev s_move_of : Stmt := topS 25
abbrev s_length_of : Stmt := topS 26
abbrev s_still_value : Stmt := topS 27
abbrev s_lead_of : Stmt := topS 28
abbrev s_sum_of_powers : Stmt := topS 31
abbrev s_least_even_course : Stmt := topS 32
abbrev s_odd_course : Stmt := topS 33
abbrev s_short_course : Stmt := topS 34
abbrev s_course : Stmt := topS 35
abbrev s_check_course : Stmt := topS 36
abbrev s_all_steps : Stmt := topS 37
abbrev s_steps_between : Stmt := topS 38
abbrev s_first_met : Stmt := topS 39
abbrev s__law_source_of : Stmt := topS 41
abbrev s__law_next : Stmt := topS 42
abbrev s__law_one : Stmt := topS 43
abbrev s__law_cell_at : Stmt := topS 44
abbrev s__law_wide : Stmt := topS 45
abbrev s__law_draw_kind : Stmt := topS 46
abbrev s__law_value : Stmt := topS 47
abbrev s__law_put : Stmt := topS 48
abbrev s__law_draw_pair : Stmt := topS 49
abbrev s__law_right : Stmt := topS 50
abbrev s_law : Stmt := topS 51
abbrev s_Kind_init : Stmt := inClass (topS 10) 0
abbrev s_Kind_eq : Stmt := inClass (topS 10) 1
abbrev s_Kind_parts : Stmt := inClass (topS 10) 2
theorem sc_is_integer : FnScope ["value"] ["value"] (defScope s_is_integer) := ⟨rfl, rfl, rfl, by decide +kernel, rfl, by decide +kernel, by decide +kernel⟩
theorem sc_is_between : FnScope ["value", "low", "high"] ["value", "low", "high"] (defScope s_is_between) := ⟨rfl, rfl, rfl, by decide +kernel, rfl, by decide +kernel, by decide +kernel⟩
theorem sc_check_between : FnScope ["argument", "value", "low", "high"] ["argument", "value", "low", "high"] (defScope s_check_between) := ⟨rfl, rfl, rfl, by decide +kernel, rfl, by decide +kernel, by decide +kernel⟩
theorem sc_check_kind : FnScope ["value"] ["value"] (defScope s_check_kind) := ⟨rfl, rfl, rfl, by decide +kernel, rfl, by decide +kernel, by decide +kernel⟩
theorem sc_size_of : FnScope ["kind"] ["kind"] (defScope s_size_of) := ⟨rfl, rfl, rfl, by decide +kernel, rfl, by decide +kernel, by decide +kernel⟩
theorem sc_low_of : FnScope ["kind"] ["kind"] (defScope s_low_of) := ⟨rfl, rfl, rfl, by decide +kernel, rfl, by decide +kernel, by decide +kernel⟩
theorem sc_placed : FnScope ["kind", "n"] ["kind", "n"] (defScope s_placed) := ⟨rfl, rfl, rfl, by decide +kernel, rfl, by decide +kernel, by decide +kernel⟩
theorem sc_check_value : FnScope ["kind", "argument", "value"] ["kind", "argument", "value"] (defScope s_check_value) := ⟨rfl, rfl, rfl, by decide +kernel, rfl, by decide +kernel, by decide +kernel⟩
theorem sc_is_value : FnScope ["kind", "x"] ["kind", "x"] (defScope s_is_value) := ⟨rfl, rfl, rfl, by decide +kernel, rfl, by decide +kernel, by decide +kernel⟩
theorem sc_inverse_of : FnScope ["n", "bits", "found", "known"] ["n", "bits"] (defScope s_inverse_of) := ⟨rfl, rfl, rfl, by decide +kernel, rfl, by decide +kernel, by decide +kernel⟩
theorem sc_twos_in : FnScope ["n", "most"] ["n", "most"] (defScope s_twos_in) := ⟨rfl, rfl, rfl, by decide +kernel, rfl, by decide +kernel, by decide +kernel⟩
theorem sc_check_generator : FnScope ["kind", "value"] ["kind", "value"] (defScope s_check_generator) := ⟨rfl, rfl, rfl, by decide +kernel, rfl, by decide +kernel, by decide +kernel⟩
theorem sc_line_of : FnScope ["generator", "n", "bits", "size", "a", "c", "slope", "shift"] ["generator", "n", "bits"] (defScope s_line_of) := ⟨rfl, rfl, rfl, by decide +kernel, rfl, by decide +kernel, by decide +kernel⟩
theorem sc_value_behind : FnScope ["generator", "x", "n", "bits", "slope", "shift"] ["generator", "x", "n", "bits"] (defScope s_value_behind) := ⟨rfl, rfl, rfl, by decide +kernel, rfl, by decide +kernel, by decide +kernel⟩
theorem sc_back_of : FnScope ["generator", "bits", "a"] ["generator", "bits"] (defScope s_back_of) := ⟨rfl, rfl, rfl, by decide +kernel, rfl, by decide +kernel, by decide +kernel⟩
theorem sc_stepped : FnScope ["kind", "generator", "x", "n"] ["kind", "generator", "x", "n"] (defScope s_stepped) := ⟨rfl, rfl, rfl, by decide +kernel, rfl, by decide +kernel, by decide +kernel⟩
theorem sc_move_of : FnScope ["generator", "x", "bits"] ["generator", "x", "bits"] (defScope s_move_of) := ⟨rfl, rfl, rfl, by decide +kernel, rfl, by decide +kernel, by decide +kernel⟩
theorem sc_length_of : FnScope ["a", "move", "bits", "size", "length", "whole", "slope"] ["a", "move", "bits"] (defScope s_length_of) := ⟨rfl, rfl, rfl, by decide +kernel, rfl, by decide +kernel, by decide +kernel⟩
theorem sc_still_value : FnScope ["generator", "bits"] ["generator", "bits"] (defScope s_still_value) := ⟨rfl, rfl, rfl, by decide +kernel, rfl, by decide +kernel, by decide +kernel⟩
theorem sc_lead_of : FnScope ["generator", "x", "bits", "missing", "each"] ["generator", "x", "bits"] (defScope s_lead_of) := ⟨rfl, rfl, rfl, by decide +kernel, rfl, by decide +kernel, by decide +kernel⟩
theorem sc_sum_of_powers : FnScope ["a", "n", "bits"] ["a", "n", "bits"] (defScope s_sum_of_powers) := ⟨rfl, rfl, rfl, by decide +kernel, rfl, by decide +kernel, by decide +kernel⟩
theorem sc_least_even_course : FnScope ["a", "c", "x", "y", "bits", "size", "move", "twos", "way", "left", "goal", "n", "k"] ["a", "c", "x", "y", "bits"] (defScope s_least_even_course) := ⟨rfl, rfl, rfl, by decide +kernel, rfl, by decide +kernel, by decide +kernel⟩
theorem sc_odd_course : FnScope ["generator", "x", "y", "bits", "a", "c", "some", "half", "begin", "at", "one"] ["generator", "x", "y", "bits"] (defScope s_odd_course) := ⟨rfl, rfl, rfl, by decide +kernel, rfl, by decide +kernel, by decide +kernel⟩
theorem sc_short_course : FnScope ["generator", "x", "y", "bits", "still", "size", "more", "each"] ["generator", "x", "y", "bits"] (defScope s_short_course) := ⟨rfl, rfl, rfl, by decide +kernel, rfl, by decide +kernel, by decide +kernel⟩
theorem sc_course : FnScope ["generator", "x", "y", "bits"] ["generator", "x", "y", "bits"] (defScope s_course) := ⟨rfl, rfl, rfl, by decide +kernel, rfl, by decide +kernel, by decide +kernel⟩
theorem sc_check_course : FnScope ["kind", "generator", "x", "y"] ["kind", "generator", "x", "y"] (defScope s_check_course) := ⟨rfl, rfl, rfl, by decide +kernel, rfl, by decide +kernel, by decide +kernel⟩
theorem sc_all_steps : FnScope ["kind", "generator", "x", "y"] ["kind", "generator", "x", "y"] (defScope s_all_steps) := ⟨rfl, rfl, rfl, by decide +kernel, rfl, by decide +kernel, by decide +kernel⟩
theorem sc_steps_between : FnScope ["kind", "generator", "x", "y", "found"] ["kind", "generator", "x", "y"] (defScope s_steps_between) := ⟨rfl, rfl, rfl, by decide +kernel, rfl, by decide +kernel, by decide +kernel⟩
theorem sc_first_met : FnScope ["kind", "generator", "x", "some", "found", "y", "steps"] ["kind", "generator", "x", "some"] (defScope s_first_met) := ⟨rfl, rfl, rfl, by decide +kernel, rfl, by decide +kernel, by decide +kernel⟩
theorem sc__law_source_of : FnScope ["_law_cell"] ["_law_cell"] (defScope s__law_source_of) := ⟨rfl, rfl, rfl, by decide +kernel, rfl, by decide +kernel, by decide +kernel⟩
theorem sc__law_next : FnScope ["_law_source", "_law_many", "_law_found", "_law_prime", "_law_number_here"] ["_law_source", "_law_many"] (defScope s__law_next) := ⟨rfl, rfl, rfl, by decide +kernel, rfl, by decide +kernel, by decide +kernel⟩
theorem sc__law_one : FnScope ["_law_source", "_law_some"] ["_law_source", "_law_some"] (defScope s__law_one) := ⟨rfl, rfl, rfl, by decide +kernel, rfl, by decide +kernel, by decide +kernel⟩
theorem sc__law_cell_at : FnScope ["_law_script", "_law_index"] ["_law_script", "_law_index"] (defScope s__law_cell_at) := ⟨rfl, rfl, rfl, by decide +kernel, rfl, by decide +kernel, by decide +kernel⟩
theorem sc__law_wide : FnScope ["_law_source", "_law_m", "_law_found", "_law_k"] ["_law_source", "_law_m"] (defScope s__law_wide) := ⟨rfl, rfl, rfl, by decide +kernel, rfl, by decide +kernel, by decide +kernel⟩
theorem sc__law_draw_kind : FnScope ["_law_source", "_law_most", "_law_bits", "_law_is_signed", "_law_size"] ["_law_source", "_law_most"] (defScope s__law_draw_kind) := ⟨rfl, rfl, rfl, by decide +kernel, rfl, by decide +kernel, by decide +kernel⟩
theorem sc__law_value : FnScope ["_law_source", "_law_low", "_law_size", "_law_near", "_law_far"] ["_law_source", "_law_low", "_law_size"] (defScope s__law_value) := ⟨rfl, rfl, rfl, by decide +kernel, rfl, by decide +kernel, by decide +kernel⟩
theorem sc__law_put : FnScope ["_law_n", "_law_low", "_law_size"] ["_law_n", "_law_low", "_law_size"] (defScope s__law_put) := ⟨rfl, rfl, rfl, by decide +kernel, rfl, by decide +kernel, by decide +kernel⟩
theorem sc__law_draw_pair : FnScope ["_law_source", "_law_low", "_law_size", "_law_k", "_law_near", "_law_a", "_law_c"] ["_law_source", "_law_low", "_law_size"] (defScope s__law_draw_pair) := ⟨rfl, rfl, rfl, by decide +kernel, rfl, by decide +kernel, by decide +kernel⟩
theorem sc__law_right : FnScope ["_law_source", "_law_kind", "_law_low", "_law_size", "_law_pair", "_law_x", "_law_some", "_law_turn", "_law_n", "_law_again", "_law_kept", "_law_rows", "_law_y", "_law_row"] ["_law_source"] (defScope s__law_right) := ⟨rfl, rfl, rfl, by decide +kernel, rfl, by decide +kernel, by decide +kernel⟩
theorem sc_law : FnScope ["_law_script", "_law_cell", "_law_source", "_law_turn"] ["_law_script"] (defScope s_law) := ⟨rfl, rfl, rfl, by decide +kernel, rfl, by decide +kernel, by decide +kernel⟩
theorem sc_Kind_init : FnScope ["self", "bits", "is_signed"] ["self", "bits", "is_signed"] (defScope s_Kind_init) := ⟨rfl, rfl, rfl, by decide +kernel, rfl, by decide +kernel, by decide +kernel⟩
theorem sc_Kind_eq : FnScope ["self", "other"] ["self", "other"] (defScope s_Kind_eq) := ⟨rfl, rfl, rfl, by decide +kernel, rfl, by decide +kernel, by decide +kernel⟩
theorem sc_Kind_parts : FnScope ["self"] ["self"] (defScope s_Kind_parts) := ⟨rfl, rfl, rfl, by decide +kernel, rfl, by decide +kernel, by decide +kernel⟩
/-- what the top has written -/
structure Txt (K : PySem.W.Frag) (mg : Str → Option Value) (C_Kind : Addr) : Prop where
  h_is_integer : HasFn K mg "is_integer" "is_integer" s_is_integer ["value"]
  h_is_between : HasFn K mg "is_between" "is_between" s_is_between ["value", "low", "high"]
  h_check_between : HasFn K mg "check_between" "check_between" s_check_between ["argument", "value", "low", "high"]
  h_check_kind : HasFn K mg "check_kind" "check_kind" s_check_kind ["value"]
  h_size_of : HasFn K mg "size_of" "size_of" s_size_of ["kind"]
  h_low_of : HasFn K mg "low_of" "low_of" s_low_of ["kind"]
  h_placed : HasFn K mg "placed" "placed" s_placed ["kind", "n"]
  h_check_value : HasFn K mg "check_value" "check_value" s_check_value ["kind", "argument", "value"]
  h_is_value : HasFn K mg "is_value" "is_value" s_is_value ["kind", "x"]
  h_inverse_of : HasFn K mg "inverse_of" "inverse_of" s_inverse_of ["n", "bits"]
  h_twos_in : HasFn K mg "twos_in" "twos_in" s_twos_in ["n", "most"]
  h_check_generator : HasFn K mg "check_generator" "check_generator" s_check_generator ["kind", "value"]
  h_line_of : HasFn K mg "line_of" "line_of" s_line_of ["generator", "n", "bits"]
  h_value_behind : HasFn K mg "value_behind" "value_behind" s_value_behind ["generator", "x", "n", "bits"]
  h_back_of : HasFn K mg "back_of" "back_of" s_back_of ["generator", "bits"]
  h_stepped : HasFn K mg "stepped" "stepped" s_stepped ["kind", "generator", "x", "n"]
  h_move_of : HasFn K mg "move_of" "move_of" s_move_of ["generator", "x", "bits"]
  h_length_of : HasFn K mg "length_of" "length_of" s_length_of ["a", "move", "bits"]
  h_still_value : HasFn K mg "still_value" "still_value" s_still_value ["generator", "bits"]
  h_lead_of : HasFn K mg "lead_of" "lead_of" s_lead_of ["generator", "x", "bits"]
  h_sum_of_powers : HasFn K mg "sum_of_powers" "sum_of_powers" s_sum_of_powers ["a", "n", "bits"]
  h_least_even_course : HasFn K mg "least_even_course" "least_even_course" s_least_even_course ["a", "c", "x", "y", "bits"]
  h_odd_course : HasFn K mg "odd_course" "odd_course" s_odd_course ["generator", "x", "y", "bits"]
  h_short_course : HasFn K mg "short_course" "short_course" s_short_course ["generator", "x", "y", "bits"]
  h_course : HasFn K mg "course" "course" s_course ["generator", "x", "y", "bits"]
  h_check_course : HasFn K mg "check_course" "check_course" s_check_course ["kind", "generator", "x", "y"]
  h_all_steps : HasFn K mg "all_steps" "all_steps" s_all_steps ["kind", "generator", "x", "y"]
  h_steps_between : HasFn K mg "steps_between" "steps_between" s_steps_between ["kind", "generator", "x", "y"]
  h_first_met : HasFn K mg "first_met" "first_met" s_first_met ["kind", "generator", "x", "some"]
  h__law_source_of : HasFn K mg "_law_source_of" "_law_source_of" s__law_source_of ["_law_cell"]
  h__law_next : HasFn K mg "_law_next" "_law_next" s__law_next ["_law_source", "_law_many"]
  h__law_one : HasFn K mg "_law_one" "_law_one" s__law_one ["_law_source", "_law_some"]
  h__law_cell_at : HasFn K mg "_law_cell_at" "_law_cell_at" s__law_cell_at ["_law_script", "_law_index"]
  h__law_wide : HasFn K mg "_law_wide" "_law_wide" s__law_wide ["_law_source", "_law_m"]
  h__law_draw_kind : HasFn K mg "_law_draw_kind" "_law_draw_kind" s__law_draw_kind ["_law_source", "_law_most"]
  h__law_value : HasFn K mg "_law_value" "_law_value" s__law_value ["_law_source", "_law_low", "_law_size"]
  h__law_put : HasFn K mg "_law_put" "_law_put" s__law_put ["_law_n", "_law_low", "_law_size"]
  h__law_draw_pair : HasFn K mg "_law_draw_pair" "_law_draw_pair" s__law_draw_pair ["_law_source", "_law_low", "_law_size"]
  h__law_right : HasFn K mg "_law_right" "_law_right" s__law_right ["_law_source"]
  h_law : HasFn K mg "law" "law" s_law ["_law_script"]
  mg_Kind : mg "Kind" = some (.ref C_Kind)
  cl_Kind : Cls K C_Kind
  nf_Kind_bits : NoAttr K C_Kind "bits"
  nf_Kind_is_signed : NoAttr K C_Kind "is_signed"
  h_Kind_init : HasCl K mg "Kind" C_Kind "Kind.__init__" s_Kind_init ["self", "bits", "is_signed"]
  h_Kind_eq : HasMt K C_Kind "__eq__" "Kind.__eq__" s_Kind_eq ["self", "other"]
  h_Kind_parts : HasMt K C_Kind "parts" "Kind.parts" s_Kind_parts ["self"]
  ck_Kind : ClsK K C_Kind
  b_all : mg "all" = none
  b_bool : mg "bool" = none
  b_enumerate : mg "enumerate" = none
  b_int : mg "int" = none
  b_isinstance : mg "isinstance" = none
  b_len : mg "len" = none
  b_list : mg "list" = none
  b_max : mg "max" = none
  b_min : mg "min" = none
  b_range : mg "range" = none
  b_sorted : mg "sorted" = none
  b_tuple : mg "tuple" = none
  g_MOST_BITS : ∃ t, mg "MOST_BITS" = some (.int 128 t)
  g_MOST_VALUES : ∃ t, mg "MOST_VALUES" = some (.int 20 t)
/-! ### kinds: the numbers -/
abbrev kindD (C : Addr) (b : Nat) (s : Bool) : Dat := .ins C [("bits", .int (b : Nat)), ("is_signed", .bl s)]
abbrev Wd (b : Nat) : Prop := 1 ≤ b ∧ b ≤ 128
def lowZ (b : Nat) (s : Bool) : Int := if s = true then -(2 ^ (b - 1)) else 0
def placedZ (b : Nat) (s : Bool) (n : Int) : Int := lowZ b s + (n - lowZ b s) % 2 ^ b
theorem two_pos (n : Nat) : (0 : Int) < 2 ^ n := Int.pow_pos (by decide)
theorem placed_in (b : Nat) (s : Bool) (n : Int) : lowZ b s ≤ placedZ b s n ∧ placedZ b s n < lowZ b s + 2 ^ b := by
  have h := two_pos b
  have h1 := Int.emod_nonneg (n - lowZ b s) (show (2 : Int) ^ b ≠ 0 by omega)
  have h2 := Int.emod_lt_of_pos (n - lowZ b s) h
  unfold placedZ
  omega
theorem placed_same {b : Nat} {s : Bool} {x : Int} (h1 : lowZ b s ≤ x) (h2 : x < lowZ b s + 2 ^ b) : placedZ b s x = x := by
  unfold placedZ
  rw [Int.emod_eq_of_lt (by omega) (by omega)]
  omega
section
variable {P : Program} {w : World} {K : PySem.W.Frag} {mg : Str → Option Value} {base : Heap} {C_Kind : Addr}
abbrev sp_isint (C : Addr) : SpD := fun ds M Q => ∃ x, ds = [x] ∧ OneC C x ∧ Q (.bl (isIntD x)) M
theorem ok_is_integer (T : Txt K mg C_Kind) : FnD P w K mg base 1 "is_integer" s_is_integer ["value"] (sp_isint C_Kind) := by
  refine fn_mk T.h_is_integer sc_is_integer 1 rfl (by intro ds M Q h; first | (obtain ⟨rfl, _⟩ := h; rfl) | (obtain ⟨_, rfl, _⟩ := h; rfl) | (obtain ⟨_, _, rfl, _⟩ := h; rfl) | (obtain ⟨_, _, _, rfl, _⟩ := h; rfl) | (obtain ⟨_, _, _, _, rfl, _⟩ := h; rfl) | (obtain ⟨_, _, _, _, _, rfl, _⟩ := h; rfl) | (obtain ⟨_, _, _, _, _, _, rfl, _⟩ := h; rfl) | (obtain ⟨_, _, _, _, _, _, _, rfl, _⟩ := h; rfl) | (obtain ⟨_, _, _, _, _, _, _, _, rfl, _⟩ := h; rfl) | (obtain ⟨_, _, _, _, _, _, _, _, _, rfl, _⟩ := h; rfl) | (obtain ⟨_, _, _, _, _, _, _, _, _, _, rfl, _⟩ := h; rfl) | (obtain ⟨_, _, _, _, _, _, _, _, _, _, _, rfl, _⟩ := h; rfl) | (obtain ⟨_, _, _, _, _, _, _, _, _, _, _, _, rfl, _⟩ := h; rfl)) (fun f cdv A outer s H E hr => ⟨_, (dss_one (ds_ret (de_and (de_cb ((cd_isiK K rfl)) (by rfl) T.b_isinstance (by decide +kernel) (da_cons (dv 0) (da_cons (de_ty .int (by rfl) T.b_int (by decide +kernel)) da_nil))) (de_one (de_not (de_cb ((cd_isiK K rfl)) (by rfl) T.b_isinstance (by decide +kernel) (da_cons (dv 0) (da_cons (de_ty .bool (by rfl) T.b_bool (by decide +kernel)) da_nil)))))))), ?_⟩)
  rintro ds M Q ⟨x, rfl, hx, hQ⟩
  (try simp only [dLcM, w_isiM, rReverseD, dMinDef, rInDic, rNotInDic, dIRL, dCallC, dCallG, dConsL, dLam, atDs, dCallV, dgU, dSortI, dIItems, dDicM, dDc, dLenSet, itemsD, w_lrg, w_index, w_sortQ, dCut, dDGet, dDGet1, dDGet2, dDPut, dPairs, w_disp, w_newDF, w_newDT, dec_self, List.map_cons, List.map_nil, eqD_bl, eqD_int, eqD_str, eqD_tup, eqD_lst, eqDs_nil, eqDs_nc, eqDs_cn, eqDs_cons, reduceIte, Bool.false_eq_true, Bool.not_true, Bool.not_false, decide_true, decide_false, dVar, atD, setD, startD, dC, dOp, dAnd, dOr, dNot, dIf, dUn, dNil, dCons, dTup, dLst, rInD, rNotInD, dNoPart, dPart, dRev, dFld, DL.fieldsOf, dCB, dNext, dSeq, dBreak, dCont, dDrop, dRet, dRetN, dIfS, dNever, dgN, dgNil, dgCons, dgSub, dAsg, dPar, dPar3, putD, dSetF, dMt, rAppendD, rPopD, rExtendD, lsT, lsR, lsF, itemsR, dFrz, dCall, dCallK, dMeth, dMake, dFor, dIL, dIT, dIR1, dIR2, dIE, dIZ, wipeD, dYes, dLc, dDic0, updM_same, cxOf, asBl_bl, asInt_int, asTup_tup, isN, w_test, w_chain, w_andV, w_orV, w_notV, w_neg, w_sub, w_div, w_mod, w_pow, w_shl, w_shr, w_and, w_or, w_xor, w_lt, w_le, w_gt, w_ge, w_add, w_addS, w_addT, w_addL, w_addF, w_addR, w_mul, w_mulL, w_eq, w_ne, w_isN, w_isB, w_isntN, w_isntB, w_ix, w_isi, w_abs, w_max2, w_min2, w_max1L, w_min1L, w_sum, w_all, w_any, w_len, w_int, w_intB, w_divmod, w_sorted, w_list, w_bits, w_sl, w_slL, w_slF, w_slR, w_slT, w_newF, w_newT, w_eqL, w_eqT, w_eqR, w_neL, w_neT, w_neR, w_dgT, w_derL, w_derT, w_derB, w_derI, w_derN, w_derS, w_eqSS, w_eqBB, w_neSS, w_neBB, w_eqBI, w_eqIN, w_neIN, w_eqNI, w_neNI, w_eqNN, w_neNN, w_NN, w_NI, w_IN])
  refine ⟨isi_ty T.ck_Kind hx _, ?_⟩
  have e := isI_int (x := x)
  cases h : isiR x (.ty .int) with
  | true =>
    rw [h, if_pos rfl] at e
    rw [if_pos rfl, e]
    exact ⟨isi_ty T.ck_Kind hx _, endD_of hQ⟩
  | false =>
    rw [h, if_neg Bool.false_ne_true] at e
    rw [if_neg Bool.false_ne_true, e]
    exact endD_of hQ
abbrev betw (x : Dat) (lo hi : Int) : Bool := match x with
  | .int i => decide (lo ≤ i ∧ i ≤ hi)
  | _ => false
abbrev sp_between (C : Addr) : SpD := fun ds M Q => ∃ x lo hi, ds = [x, .int lo, .int hi] ∧ OneC C x ∧ Q (.bl (betw x lo hi)) M
theorem ok_is_between (T : Txt K mg C_Kind) (F_is_integer : FnD P w K mg base 1 "is_integer" s_is_integer ["value"] (sp_isint C_Kind)) : FnD P w K mg base 2 "is_between" s_is_between ["value", "low", "high"] (sp_between C_Kind) := by
  refine fn_mk T.h_is_between sc_is_between 3 rfl (by intro ds M Q h; first | (obtain ⟨rfl, _⟩ := h; rfl) | (obtain ⟨_, rfl, _⟩ := h; rfl) | (obtain ⟨_, _, rfl, _⟩ := h; rfl) | (obtain ⟨_, _, _, rfl, _⟩ := h; rfl) | (obtain ⟨_, _, _, _, rfl, _⟩ := h; rfl) | (obtain ⟨_, _, _, _, _, rfl, _⟩ := h; rfl) | (obtain ⟨_, _, _, _, _, _, rfl, _⟩ := h; rfl) | (obtain ⟨_, _, _, _, _, _, _, rfl, _⟩ := h; rfl) | (obtain ⟨_, _, _, _, _, _, _, _, rfl, _⟩ := h; rfl) | (obtain ⟨_, _, _, _, _, _, _, _, _, rfl, _⟩ := h; rfl) | (obtain ⟨_, _, _, _, _, _, _, _, _, _, rfl, _⟩ := h; rfl) | (obtain ⟨_, _, _, _, _, _, _, _, _, _, _, rfl, _⟩ := h; rfl) | (obtain ⟨_, _, _, _, _, _, _, _, _, _, _, _, rfl, _⟩ := h; rfl)) (fun f cdv A outer s H E hr => ⟨_, (dss_one (ds_ret (de_and (de_call F_is_integer hr (da_cons (dv 0) da_nil)) (de_one (de_chain od_le od_le (dv 1) (dv 0) (dv 2)))))), ?_⟩)
  rintro ds M Q ⟨x, lo, hi, rfl, hx, hQ⟩
  (try simp only [dLcM, w_isiM, rReverseD, dMinDef, rInDic, rNotInDic, dIRL, dCallC, dCallG, dConsL, dLam, atDs, dCallV, dgU, dSortI, dIItems, dDicM, dDc, dLenSet, itemsD, w_lrg, w_index, w_sortQ, dCut, dDGet, dDGet1, dDGet2, dDPut, dPairs, w_disp, w_newDF, w_newDT, dec_self, List.map_cons, List.map_nil, eqD_bl, eqD_int, eqD_str, eqD_tup, eqD_lst, eqDs_nil, eqDs_nc, eqDs_cn, eqDs_cons, reduceIte, Bool.false_eq_true, Bool.not_true, Bool.not_false, decide_true, decide_false, dVar, atD, setD, startD, dC, dOp, dAnd, dOr, dNot, dIf, dUn, dNil, dCons, dTup, dLst, rInD, rNotInD, dNoPart, dPart, dRev, dFld, DL.fieldsOf, dCB, dNext, dSeq, dBreak, dCont, dDrop, dRet, dRetN, dIfS, dNever, dgN, dgNil, dgCons, dgSub, dAsg, dPar, dPar3, putD, dSetF, dMt, rAppendD, rPopD, rExtendD, lsT, lsR, lsF, itemsR, dFrz, dCall, dCallK, dMeth, dMake, dFor, dIL, dIT, dIR1, dIR2, dIE, dIZ, wipeD, dYes, dLc, dDic0, updM_same, cxOf, asBl_bl, asInt_int, asTup_tup, isN, w_test, w_chain, w_andV, w_orV, w_notV, w_neg, w_sub, w_div, w_mod, w_pow, w_shl, w_shr, w_and, w_or, w_xor, w_lt, w_le, w_gt, w_ge, w_add, w_addS, w_addT, w_addL, w_addF, w_addR, w_mul, w_mulL, w_eq, w_ne, w_isN, w_isB, w_isntN, w_isntB, w_ix, w_isi, w_abs, w_max2, w_min2, w_max1L, w_min1L, w_sum, w_all, w_any, w_len, w_int, w_intB, w_divmod, w_sorted, w_list, w_bits, w_sl, w_slL, w_slF, w_slR, w_slT, w_newF, w_newT, w_eqL, w_eqT, w_eqR, w_neL, w_neT, w_neR, w_dgT, w_derL, w_derT, w_derB, w_derI, w_derN, w_derS, w_eqSS, w_eqBB, w_neSS, w_neBB, w_eqBI, w_eqIN, w_neIN, w_eqNI, w_neNI, w_eqNN, w_neNN, w_NN, w_NI, w_IN])
  refine ⟨x, rfl, hx, ?_⟩
  cases x with
  | int i =>
    simp only [isIntD]
    (try simp only [dLcM, w_isiM, rReverseD, dMinDef, rInDic, rNotInDic, dIRL, dCallC, dCallG, dConsL, dLam, atDs, dCallV, dgU, dSortI, dIItems, dDicM, dDc, dLenSet, itemsD, w_lrg, w_index, w_sortQ, dCut, dDGet, dDGet1, dDGet2, dDPut, dPairs, w_disp, w_newDF, w_newDT, dec_self, List.map_cons, List.map_nil, eqD_bl, eqD_int, eqD_str, eqD_tup, eqD_lst, eqDs_nil, eqDs_nc, eqDs_cn, eqDs_cons, reduceIte, Bool.false_eq_true, Bool.not_true, Bool.not_false, decide_true, decide_false, dVar, atD, setD, startD, dC, dOp, dAnd, dOr, dNot, dIf, dUn, dNil, dCons, dTup, dLst, rInD, rNotInD, dNoPart, dPart, dRev, dFld, DL.fieldsOf, dCB, dNext, dSeq, dBreak, dCont, dDrop, dRet, dRetN, dIfS, dNever, dgN, dgNil, dgCons, dgSub, dAsg, dPar, dPar3, putD, dSetF, dMt, rAppendD, rPopD, rExtendD, lsT, lsR, lsF, itemsR, dFrz, dCall, dCallK, dMeth, dMake, dFor, dIL, dIT, dIR1, dIR2, dIE, dIZ, wipeD, dYes, dLc, dDic0, updM_same, cxOf, asBl_bl, asInt_int, asTup_tup, isN, w_test, w_chain, w_andV, w_orV, w_notV, w_neg, w_sub, w_div, w_mod, w_pow, w_shl, w_shr, w_and, w_or, w_xor, w_lt, w_le, w_gt, w_ge, w_add, w_addS, w_addT, w_addL, w_addF, w_addR, w_mul, w_mulL, w_eq, w_ne, w_isN, w_isB, w_isntN, w_isntB, w_ix, w_isi, w_abs, w_max2, w_min2, w_max1L, w_min1L, w_sum, w_all, w_any, w_len, w_int, w_intB, w_divmod, w_sorted, w_list, w_bits, w_sl, w_slL, w_slF, w_slR, w_slT, w_newF, w_newT, w_eqL, w_eqT, w_eqR, w_neL, w_neT, w_neR, w_dgT, w_derL, w_derT, w_derB, w_derI, w_derN, w_derS, w_eqSS, w_eqBB, w_neSS, w_neBB, w_eqBI, w_eqIN, w_neIN, w_eqNI, w_neNI, w_eqNN, w_neNN, w_NN, w_NI, w_IN])
    by_cases h : lo ≤ i
    · simp only [h]
      (try simp only [dLcM, w_isiM, rReverseD, dMinDef, rInDic, rNotInDic, dIRL, dCallC, dCallG, dConsL, dLam, atDs, dCallV, dgU, dSortI, dIItems, dDicM, dDc, dLenSet, itemsD, w_lrg, w_index, w_sortQ, dCut, dDGet, dDGet1, dDGet2, dDPut, dPairs, w_disp, w_newDF, w_newDT, dec_self, List.map_cons, List.map_nil, eqD_bl, eqD_int, eqD_str, eqD_tup, eqD_lst, eqDs_nil, eqDs_nc, eqDs_cn, eqDs_cons, reduceIte, Bool.false_eq_true, Bool.not_true, Bool.not_false, decide_true, decide_false, dVar, atD, setD, startD, dC, dOp, dAnd, dOr, dNot, dIf, dUn, dNil, dCons, dTup, dLst, rInD, rNotInD, dNoPart, dPart, dRev, dFld, DL.fieldsOf, dCB, dNext, dSeq, dBreak, dCont, dDrop, dRet, dRetN, dIfS, dNever, dgN, dgNil, dgCons, dgSub, dAsg, dPar, dPar3, putD, dSetF, dMt, rAppendD, rPopD, rExtendD, lsT, lsR, lsF, itemsR, dFrz, dCall, dCallK, dMeth, dMake, dFor, dIL, dIT, dIR1, dIR2, dIE, dIZ, wipeD, dYes, dLc, dDic0, updM_same, cxOf, asBl_bl, asInt_int, asTup_tup, isN, w_test, w_chain, w_andV, w_orV, w_notV, w_neg, w_sub, w_div, w_mod, w_pow, w_shl, w_shr, w_and, w_or, w_xor, w_lt, w_le, w_gt, w_ge, w_add, w_addS, w_addT, w_addL, w_addF, w_addR, w_mul, w_mulL, w_eq, w_ne, w_isN, w_isB, w_isntN, w_isntB, w_ix, w_isi, w_abs, w_max2, w_min2, w_max1L, w_min1L, w_sum, w_all, w_any, w_len, w_int, w_intB, w_divmod, w_sorted, w_list, w_bits, w_sl, w_slL, w_slF, w_slR, w_slT, w_newF, w_newT, w_eqL, w_eqT, w_eqR, w_neL, w_neT, w_neR, w_dgT, w_derL, w_derT, w_derB, w_derI, w_derN, w_derS, w_eqSS, w_eqBB, w_neSS, w_neBB, w_eqBI, w_eqIN, w_neIN, w_eqNI, w_neNI, w_eqNN, w_neNN, w_NN, w_NI, w_IN])
      refine endD_of ?_
      simpa [betw, h] using hQ
    · simp only [h]
      (try simp only [dLcM, w_isiM, rReverseD, dMinDef, rInDic, rNotInDic, dIRL, dCallC, dCallG, dConsL, dLam, atDs, dCallV, dgU, dSortI, dIItems, dDicM, dDc, dLenSet, itemsD, w_lrg, w_index, w_sortQ, dCut, dDGet, dDGet1, dDGet2, dDPut, dPairs, w_disp, w_newDF, w_newDT, dec_self, List.map_cons, List.map_nil, eqD_bl, eqD_int, eqD_str, eqD_tup, eqD_lst, eqDs_nil, eqDs_nc, eqDs_cn, eqDs_cons, reduceIte, Bool.false_eq_true, Bool.not_true, Bool.not_false, decide_true, decide_false, dVar, atD, setD, startD, dC, dOp, dAnd, dOr, dNot, dIf, dUn, dNil, dCons, dTup, dLst, rInD, rNotInD, dNoPart, dPart, dRev, dFld, DL.fieldsOf, dCB, dNext, dSeq, dBreak, dCont, dDrop, dRet, dRetN, dIfS, dNever, dgN, dgNil, dgCons, dgSub, dAsg, dPar, dPar3, putD, dSetF, dMt, rAppendD, rPopD, rExtendD, lsT, lsR, lsF, itemsR, dFrz, dCall, dCallK, dMeth, dMake, dFor, dIL, dIT, dIR1, dIR2, dIE, dIZ, wipeD, dYes, dLc, dDic0, updM_same, cxOf, asBl_bl, asInt_int, asTup_tup, isN, w_test, w_chain, w_andV, w_orV, w_notV, w_neg, w_sub, w_div, w_mod, w_pow, w_shl, w_shr, w_and, w_or, w_xor, w_lt, w_le, w_gt, w_ge, w_add, w_addS, w_addT, w_addL, w_addF, w_addR, w_mul, w_mulL, w_eq, w_ne, w_isN, w_isB, w_isntN, w_isntB, w_ix, w_isi, w_abs, w_max2, w_min2, w_max1L, w_min1L, w_sum, w_all, w_any, w_len, w_int, w_intB, w_divmod, w_sorted, w_list, w_bits, w_sl, w_slL, w_slF, w_slR, w_slT, w_newF, w_newT, w_eqL, w_eqT, w_eqR, w_neL, w_neT, w_neR, w_dgT, w_derL, w_derT, w_derB, w_derI, w_derN, w_derS, w_eqSS, w_eqBB, w_neSS, w_neBB, w_eqBI, w_eqIN, w_neIN, w_eqNI, w_neNI, w_eqNN, w_neNN, w_NN, w_NI, w_IN])
      refine endD_of ?_
      simpa [betw, h] using hQ
  | _ => exact endD_of hQ
abbrev sp_chk : SpD := fun ds M Q => ∃ d n, ds = [d, .int n] ∧ Q .non M
abbrev sp_init (C : Addr) : SpD := fun ds M Q => ∃ (a : Addr) (b : Nat) (s : Bool), ds = [.ref a, .int (b : Nat), .bl s] ∧ Wd b ∧ M a = some (.ins C []) ∧ Q .non (updM M a (.ins C [("bits", .int (b : Nat)), ("is_signed", .bl s)]))
theorem ok_Kind_init (T : Txt K mg C_Kind) (F_is_between : FnD P w K mg base 2 "is_between" s_is_between ["value", "low", "high"] (sp_between C_Kind)) : ClD P w K mg base 3 "Kind" C_Kind s_Kind_init ["self", "bits", "is_signed"] (sp_init C_Kind) := by
  refine cl_mk T.h_Kind_init sc_Kind_init 3 rfl (by intro ds M Q h; first | (obtain ⟨rfl, _⟩ := h; rfl) | (obtain ⟨_, rfl, _⟩ := h; rfl) | (obtain ⟨_, _, rfl, _⟩ := h; rfl) | (obtain ⟨_, _, _, rfl, _⟩ := h; rfl) | (obtain ⟨_, _, _, _, rfl, _⟩ := h; rfl) | (obtain ⟨_, _, _, _, _, rfl, _⟩ := h; rfl) | (obtain ⟨_, _, _, _, _, _, rfl, _⟩ := h; rfl) | (obtain ⟨_, _, _, _, _, _, _, rfl, _⟩ := h; rfl) | (obtain ⟨_, _, _, _, _, _, _, _, rfl, _⟩ := h; rfl) | (obtain ⟨_, _, _, _, _, _, _, _, _, rfl, _⟩ := h; rfl) | (obtain ⟨_, _, _, _, _, _, _, _, _, _, rfl, _⟩ := h; rfl) | (obtain ⟨_, _, _, _, _, _, _, _, _, _, _, rfl, _⟩ := h; rfl) | (obtain ⟨_, _, _, _, _, _, _, _, _, _, _, _, rfl, _⟩ := h; rfl)) (fun f cdv A outer s H E hr => ⟨_, (dss_cons (ds_if (dt_not (dt_val (de_call F_is_between hr (da_cons (dv 1) (da_cons de_int (da_cons (de_gint (by rfl) T.g_MOST_BITS) da_nil))))))
    (dss_one ds_never)
    dss_nil)
    (dss_cons (ds_if (dt_not (dt_val (de_cb ((cd_isiK K rfl)) (by rfl) T.b_isinstance (by decide +kernel) (da_cons (dv 2) (da_cons (de_ty .bool (by rfl) T.b_bool (by decide +kernel)) da_nil)))))
    (dss_one ds_never)
    dss_nil)
    (dss_cons (ds_setF (C := C_Kind) T.cl_Kind T.nf_Kind_bits (dv 0) (dv 1))
    (dss_one (ds_setF (C := C_Kind) T.cl_Kind T.nf_Kind_is_signed (dv 0) (dv 2)))))), ?_⟩)
  rintro ds M Q ⟨a, b, s, rfl, hb, hM, hQ⟩
  (try simp only [dLcM, w_isiM, rReverseD, dMinDef, rInDic, rNotInDic, dIRL, dCallC, dCallG, dConsL, dLam, atDs, dCallV, dgU, dSortI, dIItems, dDicM, dDc, dLenSet, itemsD, w_lrg, w_index, w_sortQ, dCut, dDGet, dDGet1, dDGet2, dDPut, dPairs, w_disp, w_newDF, w_newDT, dec_self, List.map_cons, List.map_nil, eqD_bl, eqD_int, eqD_str, eqD_tup, eqD_lst, eqDs_nil, eqDs_nc, eqDs_cn, eqDs_cons, reduceIte, Bool.false_eq_true, Bool.not_true, Bool.not_false, decide_true, decide_false, dVar, atD, setD, startD, dC, dOp, dAnd, dOr, dNot, dIf, dUn, dNil, dCons, dTup, dLst, rInD, rNotInD, dNoPart, dPart, dRev, dFld, DL.fieldsOf, dCB, dNext, dSeq, dBreak, dCont, dDrop, dRet, dRetN, dIfS, dNever, dgN, dgNil, dgCons, dgSub, dAsg, dPar, dPar3, putD, dSetF, dMt, rAppendD, rPopD, rExtendD, lsT, lsR, lsF, itemsR, dFrz, dCall, dCallK, dMeth, dMake, dFor, dIL, dIT, dIR1, dIR2, dIE, dIZ, wipeD, dYes, dLc, dDic0, updM_same, cxOf, asBl_bl, asInt_int, asTup_tup, isN, w_test, w_chain, w_andV, w_orV, w_notV, w_neg, w_sub, w_div, w_mod, w_pow, w_shl, w_shr, w_and, w_or, w_xor, w_lt, w_le, w_gt, w_ge, w_add, w_addS, w_addT, w_addL, w_addF, w_addR, w_mul, w_mulL, w_eq, w_ne, w_isN, w_isB, w_isntN, w_isntB, w_ix, w_isi, w_abs, w_max2, w_min2, w_max1L, w_min1L, w_sum, w_all, w_any, w_len, w_int, w_intB, w_divmod, w_sorted, w_list, w_bits, w_sl, w_slL, w_slF, w_slR, w_slT, w_newF, w_newT, w_eqL, w_eqT, w_eqR, w_neL, w_neT, w_neR, w_dgT, w_derL, w_derT, w_derB, w_derI, w_derN, w_derS, w_eqSS, w_eqBB, w_neSS, w_neBB, w_eqBI, w_eqIN, w_neIN, w_eqNI, w_neNI, w_eqNN, w_neNN, w_NN, w_NI, w_IN])
  refine ⟨_, _, _, rfl, trivial, ?_⟩
  have e : betw (.int (b : Nat)) 1 128 = true := by simp only [betw]; exact decide_eq_true (by omega)
  rw [e]
  (try simp only [dLcM, w_isiM, rReverseD, dMinDef, rInDic, rNotInDic, dIRL, dCallC, dCallG, dConsL, dLam, atDs, dCallV, dgU, dSortI, dIItems, dDicM, dDc, dLenSet, itemsD, w_lrg, w_index, w_sortQ, dCut, dDGet, dDGet1, dDGet2, dDPut, dPairs, w_disp, w_newDF, w_newDT, dec_self, List.map_cons, List.map_nil, eqD_bl, eqD_int, eqD_str, eqD_tup, eqD_lst, eqDs_nil, eqDs_nc, eqDs_cn, eqDs_cons, reduceIte, Bool.false_eq_true, Bool.not_true, Bool.not_false, decide_true, decide_false, dVar, atD, setD, startD, dC, dOp, dAnd, dOr, dNot, dIf, dUn, dNil, dCons, dTup, dLst, rInD, rNotInD, dNoPart, dPart, dRev, dFld, DL.fieldsOf, dCB, dNext, dSeq, dBreak, dCont, dDrop, dRet, dRetN, dIfS, dNever, dgN, dgNil, dgCons, dgSub, dAsg, dPar, dPar3, putD, dSetF, dMt, rAppendD, rPopD, rExtendD, lsT, lsR, lsF, itemsR, dFrz, dCall, dCallK, dMeth, dMake, dFor, dIL, dIT, dIR1, dIR2, dIE, dIZ, wipeD, dYes, dLc, dDic0, updM_same, cxOf, asBl_bl, asInt_int, asTup_tup, isN, w_test, w_chain, w_andV, w_orV, w_notV, w_neg, w_sub, w_div, w_mod, w_pow, w_shl, w_shr, w_and, w_or, w_xor, w_lt, w_le, w_gt, w_ge, w_add, w_addS, w_addT, w_addL, w_addF, w_addR, w_mul, w_mulL, w_eq, w_ne, w_isN, w_isB, w_isntN, w_isntB, w_ix, w_isi, w_abs, w_max2, w_min2, w_max1L, w_min1L, w_sum, w_all, w_any, w_len, w_int, w_intB, w_divmod, w_sorted, w_list, w_bits, w_sl, w_slL, w_slF, w_slR, w_slT, w_newF, w_newT, w_eqL, w_eqT, w_eqR, w_neL, w_neT, w_neR, w_dgT, w_derL, w_derT, w_derB, w_derI, w_derN, w_derS, w_eqSS, w_eqBB, w_neSS, w_neBB, w_eqBI, w_eqIN, w_neIN, w_eqNI, w_neNI, w_eqNN, w_neNN, w_NN, w_NI, w_IN])
  refine ⟨isi_ty T.ck_Kind (x := .bl s) trivial _, ?_⟩
  rw [show isiR (.bl s) (.ty .bool) = true by rfl]
  (try simp only [dLcM, w_isiM, rReverseD, dMinDef, rInDic, rNotInDic, dIRL, dCallC, dCallG, dConsL, dLam, atDs, dCallV, dgU, dSortI, dIItems, dDicM, dDc, dLenSet, itemsD, w_lrg, w_index, w_sortQ, dCut, dDGet, dDGet1, dDGet2, dDPut, dPairs, w_disp, w_newDF, w_newDT, dec_self, List.map_cons, List.map_nil, eqD_bl, eqD_int, eqD_str, eqD_tup, eqD_lst, eqDs_nil, eqDs_nc, eqDs_cn, eqDs_cons, reduceIte, Bool.false_eq_true, Bool.not_true, Bool.not_false, decide_true, decide_false, dVar, atD, setD, startD, dC, dOp, dAnd, dOr, dNot, dIf, dUn, dNil, dCons, dTup, dLst, rInD, rNotInD, dNoPart, dPart, dRev, dFld, DL.fieldsOf, dCB, dNext, dSeq, dBreak, dCont, dDrop, dRet, dRetN, dIfS, dNever, dgN, dgNil, dgCons, dgSub, dAsg, dPar, dPar3, putD, dSetF, dMt, rAppendD, rPopD, rExtendD, lsT, lsR, lsF, itemsR, dFrz, dCall, dCallK, dMeth, dMake, dFor, dIL, dIT, dIR1, dIR2, dIE, dIZ, wipeD, dYes, dLc, dDic0, updM_same, cxOf, asBl_bl, asInt_int, asTup_tup, isN, w_test, w_chain, w_andV, w_orV, w_notV, w_neg, w_sub, w_div, w_mod, w_pow, w_shl, w_shr, w_and, w_or, w_xor, w_lt, w_le, w_gt, w_ge, w_add, w_addS, w_addT, w_addL, w_addF, w_addR, w_mul, w_mulL, w_eq, w_ne, w_isN, w_isB, w_isntN, w_isntB, w_ix, w_isi, w_abs, w_max2, w_min2, w_max1L, w_min1L, w_sum, w_all, w_any, w_len, w_int, w_intB, w_divmod, w_sorted, w_list, w_bits, w_sl, w_slL, w_slF, w_slR, w_slT, w_newF, w_newT, w_eqL, w_eqT, w_eqR, w_neL, w_neT, w_neR, w_dgT, w_derL, w_derT, w_derB, w_derI, w_derN, w_derS, w_eqSS, w_eqBB, w_neSS, w_neBB, w_eqBI, w_eqIN, w_neIN, w_eqNI, w_neNI, w_eqNN, w_neNN, w_NN, w_NI, w_IN])
  refine ⟨_, hM, by decide, _, rfl, (by decide : 1 < 1000), endD_of ?_⟩
  (try simp only [dLcM, w_isiM, rReverseD, dMinDef, rInDic, rNotInDic, dIRL, dCallC, dCallG, dConsL, dLam, atDs, dCallV, dgU, dSortI, dIItems, dDicM, dDc, dLenSet, itemsD, w_lrg, w_index, w_sortQ, dCut, dDGet, dDGet1, dDGet2, dDPut, dPairs, w_disp, w_newDF, w_newDT, dec_self, List.map_cons, List.map_nil, eqD_bl, eqD_int, eqD_str, eqD_tup, eqD_lst, eqDs_nil, eqDs_nc, eqDs_cn, eqDs_cons, reduceIte, Bool.false_eq_true, Bool.not_true, Bool.not_false, decide_true, decide_false, dVar, atD, setD, startD, dC, dOp, dAnd, dOr, dNot, dIf, dUn, dNil, dCons, dTup, dLst, rInD, rNotInD, dNoPart, dPart, dRev, dFld, DL.fieldsOf, dCB, dNext, dSeq, dBreak, dCont, dDrop, dRet, dRetN, dIfS, dNever, dgN, dgNil, dgCons, dgSub, dAsg, dPar, dPar3, putD, dSetF, dMt, rAppendD, rPopD, rExtendD, lsT, lsR, lsF, itemsR, dFrz, dCall, dCallK, dMeth, dMake, dFor, dIL, dIT, dIR1, dIR2, dIE, dIZ, wipeD, dYes, dLc, dDic0, updM_same, cxOf, asBl_bl, asInt_int, asTup_tup, isN, w_test, w_chain, w_andV, w_orV, w_notV, w_neg, w_sub, w_div, w_mod, w_pow, w_shl, w_shr, w_and, w_or, w_xor, w_lt, w_le, w_gt, w_ge, w_add, w_addS, w_addT, w_addL, w_addF, w_addR, w_mul, w_mulL, w_eq, w_ne, w_isN, w_isB, w_isntN, w_isntB, w_ix, w_isi, w_abs, w_max2, w_min2, w_max1L, w_min1L, w_sum, w_all, w_any, w_len, w_int, w_intB, w_divmod, w_sorted, w_list, w_bits, w_sl, w_slL, w_slF, w_slR, w_slT, w_newF, w_newT, w_eqL, w_eqT, w_eqR, w_neL, w_neT, w_neR, w_dgT, w_derL, w_derT, w_derB, w_derI, w_derN, w_derS, w_eqSS, w_eqBB, w_neSS, w_neBB, w_eqBI, w_eqIN, w_neIN, w_eqNI, w_neNI, w_eqNN, w_neNN, w_NN, w_NI, w_IN])
  rw [updM_updM]
  exact hQ
abbrev sp_parts (C : Addr) : SpD := fun ds M Q => ∃ (b : Nat) (s : Bool), ds = [kindD C b s] ∧ Q (.tup [.int (b : Nat), .bl s]) M
theorem ok_Kind_parts (T : Txt K mg C_Kind) : MtdD P w K mg base 1 C_Kind "parts" s_Kind_parts ["self"] (sp_parts C_Kind) := by
  refine mt_mk T.h_Kind_parts sc_Kind_parts 1 rfl (by intro ds M Q h; first | (obtain ⟨rfl, _⟩ := h; rfl) | (obtain ⟨_, rfl, _⟩ := h; rfl) | (obtain ⟨_, _, rfl, _⟩ := h; rfl) | (obtain ⟨_, _, _, rfl, _⟩ := h; rfl) | (obtain ⟨_, _, _, _, rfl, _⟩ := h; rfl) | (obtain ⟨_, _, _, _, _, rfl, _⟩ := h; rfl) | (obtain ⟨_, _, _, _, _, _, rfl, _⟩ := h; rfl) | (obtain ⟨_, _, _, _, _, _, _, rfl, _⟩ := h; rfl) | (obtain ⟨_, _, _, _, _, _, _, _, rfl, _⟩ := h; rfl) | (obtain ⟨_, _, _, _, _, _, _, _, _, rfl, _⟩ := h; rfl) | (obtain ⟨_, _, _, _, _, _, _, _, _, _, rfl, _⟩ := h; rfl) | (obtain ⟨_, _, _, _, _, _, _, _, _, _, _, rfl, _⟩ := h; rfl) | (obtain ⟨_, _, _, _, _, _, _, _, _, _, _, _, rfl, _⟩ := h; rfl)) (fun f cdv A outer s H E hr => ⟨_, (dss_one (ds_ret (de_tup (da_cons (de_fld C_Kind 0 T.cl_Kind T.nf_Kind_bits (dv 0)) (da_cons (de_fld C_Kind 1 T.cl_Kind T.nf_Kind_is_signed (dv 0)) da_nil))))), ?_⟩)
  rintro ds M Q ⟨b, s, rfl, hQ⟩
  (try simp only [dLcM, w_isiM, rReverseD, dMinDef, rInDic, rNotInDic, dIRL, dCallC, dCallG, dConsL, dLam, atDs, dCallV, dgU, dSortI, dIItems, dDicM, dDc, dLenSet, itemsD, w_lrg, w_index, w_sortQ, dCut, dDGet, dDGet1, dDGet2, dDPut, dPairs, w_disp, w_newDF, w_newDT, dec_self, List.map_cons, List.map_nil, eqD_bl, eqD_int, eqD_str, eqD_tup, eqD_lst, eqDs_nil, eqDs_nc, eqDs_cn, eqDs_cons, reduceIte, Bool.false_eq_true, Bool.not_true, Bool.not_false, decide_true, decide_false, dVar, atD, setD, startD, dC, dOp, dAnd, dOr, dNot, dIf, dUn, dNil, dCons, dTup, dLst, rInD, rNotInD, dNoPart, dPart, dRev, dFld, DL.fieldsOf, dCB, dNext, dSeq, dBreak, dCont, dDrop, dRet, dRetN, dIfS, dNever, dgN, dgNil, dgCons, dgSub, dAsg, dPar, dPar3, putD, dSetF, dMt, rAppendD, rPopD, rExtendD, lsT, lsR, lsF, itemsR, dFrz, dCall, dCallK, dMeth, dMake, dFor, dIL, dIT, dIR1, dIR2, dIE, dIZ, wipeD, dYes, dLc, dDic0, updM_same, cxOf, asBl_bl, asInt_int, asTup_tup, isN, w_test, w_chain, w_andV, w_orV, w_notV, w_neg, w_sub, w_div, w_mod, w_pow, w_shl, w_shr, w_and, w_or, w_xor, w_lt, w_le, w_gt, w_ge, w_add, w_addS, w_addT, w_addL, w_addF, w_addR, w_mul, w_mulL, w_eq, w_ne, w_isN, w_isB, w_isntN, w_isntB, w_ix, w_isi, w_abs, w_max2, w_min2, w_max1L, w_min1L, w_sum, w_all, w_any, w_len, w_int, w_intB, w_divmod, w_sorted, w_list, w_bits, w_sl, w_slL, w_slF, w_slR, w_slT, w_newF, w_newT, w_eqL, w_eqT, w_eqR, w_neL, w_neT, w_neR, w_dgT, w_derL, w_derT, w_derB, w_derI, w_derN, w_derS, w_eqSS, w_eqBB, w_neSS, w_neBB, w_eqBI, w_eqIN, w_neIN, w_eqNI, w_neNI, w_eqNN, w_neNN, w_NN, w_NI, w_IN])
  exact ⟨_, _, rfl, rfl, _, _, rfl, rfl, by show 2 ≤ _; decide, endD_of hQ⟩
abbrev sp_eq (C : Addr) : SpD := fun ds M Q => ∃ (b : Nat) (s : Bool) (b2 : Nat) (s2 : Bool), ds = [kindD C b s, kindD C b2 s2] ∧ Q (.bl (decide (b = b2 ∧ s = s2))) M
theorem ok_Kind_eq (T : Txt K mg C_Kind) (F_Kind_parts : MtdD P w K mg base 1 C_Kind "parts" s_Kind_parts ["self"] (sp_parts C_Kind)) : MtdD P w K mg base 2 C_Kind "__eq__" s_Kind_eq ["self", "other"] (sp_eq C_Kind) := by
  refine mt_mk T.h_Kind_eq sc_Kind_eq 2 rfl (by intro ds M Q h; first | (obtain ⟨rfl, _⟩ := h; rfl) | (obtain ⟨_, rfl, _⟩ := h; rfl) | (obtain ⟨_, _, rfl, _⟩ := h; rfl) | (obtain ⟨_, _, _, rfl, _⟩ := h; rfl) | (obtain ⟨_, _, _, _, rfl, _⟩ := h; rfl) | (obtain ⟨_, _, _, _, _, rfl, _⟩ := h; rfl) | (obtain ⟨_, _, _, _, _, _, rfl, _⟩ := h; rfl) | (obtain ⟨_, _, _, _, _, _, _, rfl, _⟩ := h; rfl) | (obtain ⟨_, _, _, _, _, _, _, _, rfl, _⟩ := h; rfl) | (obtain ⟨_, _, _, _, _, _, _, _, _, rfl, _⟩ := h; rfl) | (obtain ⟨_, _, _, _, _, _, _, _, _, _, rfl, _⟩ := h; rfl) | (obtain ⟨_, _, _, _, _, _, _, _, _, _, _, rfl, _⟩ := h; rfl) | (obtain ⟨_, _, _, _, _, _, _, _, _, _, _, _, rfl, _⟩ := h; rfl)) (fun f cdv A outer s H E hr => ⟨_, (dss_one (ds_ret (de_and (de_cb ((cd_isiK K rfl)) (by rfl) T.b_isinstance (by decide +kernel) (da_cons (dv 1) (da_cons (de_cls (by rfl) T.mg_Kind) da_nil))) (de_one (de_cmp (od_eq hr.units) (de_meth0 F_Kind_parts T.cl_Kind hr (dv 0)) (de_meth0 F_Kind_parts T.cl_Kind hr (dv 1))))))), ?_⟩)
  rintro ds M Q ⟨b, s, b2, s2, rfl, hQ⟩
  (try simp only [dLcM, w_isiM, rReverseD, dMinDef, rInDic, rNotInDic, dIRL, dCallC, dCallG, dConsL, dLam, atDs, dCallV, dgU, dSortI, dIItems, dDicM, dDc, dLenSet, itemsD, w_lrg, w_index, w_sortQ, dCut, dDGet, dDGet1, dDGet2, dDPut, dPairs, w_disp, w_newDF, w_newDT, dec_self, List.map_cons, List.map_nil, eqD_bl, eqD_int, eqD_str, eqD_tup, eqD_lst, eqDs_nil, eqDs_nc, eqDs_cn, eqDs_cons, reduceIte, Bool.false_eq_true, Bool.not_true, Bool.not_false, decide_true, decide_false, dVar, atD, setD, startD, dC, dOp, dAnd, dOr, dNot, dIf, dUn, dNil, dCons, dTup, dLst, rInD, rNotInD, dNoPart, dPart, dRev, dFld, DL.fieldsOf, dCB, dNext, dSeq, dBreak, dCont, dDrop, dRet, dRetN, dIfS, dNever, dgN, dgNil, dgCons, dgSub, dAsg, dPar, dPar3, putD, dSetF, dMt, rAppendD, rPopD, rExtendD, lsT, lsR, lsF, itemsR, dFrz, dCall, dCallK, dMeth, dMake, dFor, dIL, dIT, dIR1, dIR2, dIE, dIZ, wipeD, dYes, dLc, dDic0, updM_same, cxOf, asBl_bl, asInt_int, asTup_tup, isN, w_test, w_chain, w_andV, w_orV, w_notV, w_neg, w_sub, w_div, w_mod, w_pow, w_shl, w_shr, w_and, w_or, w_xor, w_lt, w_le, w_gt, w_ge, w_add, w_addS, w_addT, w_addL, w_addF, w_addR, w_mul, w_mulL, w_eq, w_ne, w_isN, w_isB, w_isntN, w_isntB, w_ix, w_isi, w_abs, w_max2, w_min2, w_max1L, w_min1L, w_sum, w_all, w_any, w_len, w_int, w_intB, w_divmod, w_sorted, w_list, w_bits, w_sl, w_slL, w_slF, w_slR, w_slT, w_newF, w_newT, w_eqL, w_eqT, w_eqR, w_neL, w_neT, w_neR, w_dgT, w_derL, w_derT, w_derB, w_derI, w_derN, w_derS, w_eqSS, w_eqBB, w_neSS, w_neBB, w_eqBI, w_eqIN, w_neIN, w_eqNI, w_neNI, w_eqNN, w_neNN, w_NN, w_NI, w_IN])
  refine ⟨isi_cls T.ck_Kind rfl, ?_⟩
  simp only [isiR]
  (try simp only [dLcM, w_isiM, rReverseD, dMinDef, rInDic, rNotInDic, dIRL, dCallC, dCallG, dConsL, dLam, atDs, dCallV, dgU, dSortI, dIItems, dDicM, dDc, dLenSet, itemsD, w_lrg, w_index, w_sortQ, dCut, dDGet, dDGet1, dDGet2, dDPut, dPairs, w_disp, w_newDF, w_newDT, dec_self, List.map_cons, List.map_nil, eqD_bl, eqD_int, eqD_str, eqD_tup, eqD_lst, eqDs_nil, eqDs_nc, eqDs_cn, eqDs_cons, reduceIte, Bool.false_eq_true, Bool.not_true, Bool.not_false, decide_true, decide_false, dVar, atD, setD, startD, dC, dOp, dAnd, dOr, dNot, dIf, dUn, dNil, dCons, dTup, dLst, rInD, rNotInD, dNoPart, dPart, dRev, dFld, DL.fieldsOf, dCB, dNext, dSeq, dBreak, dCont, dDrop, dRet, dRetN, dIfS, dNever, dgN, dgNil, dgCons, dgSub, dAsg, dPar, dPar3, putD, dSetF, dMt, rAppendD, rPopD, rExtendD, lsT, lsR, lsF, itemsR, dFrz, dCall, dCallK, dMeth, dMake, dFor, dIL, dIT, dIR1, dIR2, dIE, dIZ, wipeD, dYes, dLc, dDic0, updM_same, cxOf, asBl_bl, asInt_int, asTup_tup, isN, w_test, w_chain, w_andV, w_orV, w_notV, w_neg, w_sub, w_div, w_mod, w_pow, w_shl, w_shr, w_and, w_or, w_xor, w_lt, w_le, w_gt, w_ge, w_add, w_addS, w_addT, w_addL, w_addF, w_addR, w_mul, w_mulL, w_eq, w_ne, w_isN, w_isB, w_isntN, w_isntB, w_ix, w_isi, w_abs, w_max2, w_min2, w_max1L, w_min1L, w_sum, w_all, w_any, w_len, w_int, w_intB, w_divmod, w_sorted, w_list, w_bits, w_sl, w_slL, w_slF, w_slR, w_slT, w_newF, w_newT, w_eqL, w_eqT, w_eqR, w_neL, w_neT, w_neR, w_dgT, w_derL, w_derT, w_derB, w_derI, w_derN, w_derS, w_eqSS, w_eqBB, w_neSS, w_neBB, w_eqBI, w_eqIN, w_neIN, w_eqNI, w_neNI, w_eqNN, w_neNN, w_NN, w_NI, w_IN])
  refine ⟨⟨_, rfl, by rfl⟩, b, s, rfl, ⟨_, rfl, by rfl⟩, b2, s2, rfl, ?_⟩
  (try simp only [dLcM, w_isiM, rReverseD, dMinDef, rInDic, rNotInDic, dIRL, dCallC, dCallG, dConsL, dLam, atDs, dCallV, dgU, dSortI, dIItems, dDicM, dDc, dLenSet, itemsD, w_lrg, w_index, w_sortQ, dCut, dDGet, dDGet1, dDGet2, dDPut, dPairs, w_disp, w_newDF, w_newDT, dec_self, List.map_cons, List.map_nil, eqD_bl, eqD_int, eqD_str, eqD_tup, eqD_lst, eqDs_nil, eqDs_nc, eqDs_cn, eqDs_cons, reduceIte, Bool.false_eq_true, Bool.not_true, Bool.not_false, decide_true, decide_false, dVar, atD, setD, startD, dC, dOp, dAnd, dOr, dNot, dIf, dUn, dNil, dCons, dTup, dLst, rInD, rNotInD, dNoPart, dPart, dRev, dFld, DL.fieldsOf, dCB, dNext, dSeq, dBreak, dCont, dDrop, dRet, dRetN, dIfS, dNever, dgN, dgNil, dgCons, dgSub, dAsg, dPar, dPar3, putD, dSetF, dMt, rAppendD, rPopD, rExtendD, lsT, lsR, lsF, itemsR, dFrz, dCall, dCallK, dMeth, dMake, dFor, dIL, dIT, dIR1, dIR2, dIE, dIZ, wipeD, dYes, dLc, dDic0, updM_same, cxOf, asBl_bl, asInt_int, asTup_tup, isN, w_test, w_chain, w_andV, w_orV, w_notV, w_neg, w_sub, w_div, w_mod, w_pow, w_shl, w_shr, w_and, w_or, w_xor, w_lt, w_le, w_gt, w_ge, w_add, w_addS, w_addT, w_addL, w_addF, w_addR, w_mul, w_mulL, w_eq, w_ne, w_isN, w_isB, w_isntN, w_isntB, w_ix, w_isi, w_abs, w_max2, w_min2, w_max1L, w_min1L, w_sum, w_all, w_any, w_len, w_int, w_intB, w_divmod, w_sorted, w_list, w_bits, w_sl, w_slL, w_slF, w_slR, w_slT, w_newF, w_newT, w_eqL, w_eqT, w_eqR, w_neL, w_neT, w_neR, w_dgT, w_derL, w_derT, w_derB, w_derI, w_derN, w_derS, w_eqSS, w_eqBB, w_neSS, w_neBB, w_eqBI, w_eqIN, w_neIN, w_eqNI, w_neNI, w_eqNN, w_neNN, w_NN, w_NI, w_IN])
  refine ⟨by rfl, by rfl, endD_of ?_⟩
  have e : (decide ((b : Int) = (b2 : Int)) && (decide (s = s2) && true)) = decide (b = b2 ∧ s = s2) := by
    by_cases h1 : b = b2
    · subst h1
      by_cases h2 : s = s2 <;> simp [h2]
    · have : ¬ (b : Int) = (b2 : Int) := by omega
      simp [h1, this]
  rw [e]
  exact hQ
abbrev sp_chkk (C : Addr) : SpD := fun ds M Q => ∃ gs, ds = [.ins C gs] ∧ Q .non M
theorem ok_check_kind (T : Txt K mg C_Kind) : FnD P w K mg base 1 "check_kind" s_check_kind ["value"] (sp_chkk C_Kind) := by
  refine fn_mk T.h_check_kind sc_check_kind 1 rfl (by intro ds M Q h; first | (obtain ⟨rfl, _⟩ := h; rfl) | (obtain ⟨_, rfl, _⟩ := h; rfl) | (obtain ⟨_, _, rfl, _⟩ := h; rfl) | (obtain ⟨_, _, _, rfl, _⟩ := h; rfl) | (obtain ⟨_, _, _, _, rfl, _⟩ := h; rfl) | (obtain ⟨_, _, _, _, _, rfl, _⟩ := h; rfl) | (obtain ⟨_, _, _, _, _, _, rfl, _⟩ := h; rfl) | (obtain ⟨_, _, _, _, _, _, _, rfl, _⟩ := h; rfl) | (obtain ⟨_, _, _, _, _, _, _, _, rfl, _⟩ := h; rfl) | (obtain ⟨_, _, _, _, _, _, _, _, _, rfl, _⟩ := h; rfl) | (obtain ⟨_, _, _, _, _, _, _, _, _, _, rfl, _⟩ := h; rfl) | (obtain ⟨_, _, _, _, _, _, _, _, _, _, _, rfl, _⟩ := h; rfl) | (obtain ⟨_, _, _, _, _, _, _, _, _, _, _, _, rfl, _⟩ := h; rfl)) (fun f cdv A outer s H E hr => ⟨_, (dss_one (ds_if (dt_not (dt_val (de_cb ((cd_isiK K rfl)) (by rfl) T.b_isinstance (by decide +kernel) (da_cons (dv 0) (da_cons (de_cls (by rfl) T.mg_Kind) da_nil)))))
    (dss_one ds_never)
    dss_nil)), ?_⟩)
  rintro ds M Q ⟨gs, rfl, hQ⟩
  (try simp only [dLcM, w_isiM, rReverseD, dMinDef, rInDic, rNotInDic, dIRL, dCallC, dCallG, dConsL, dLam, atDs, dCallV, dgU, dSortI, dIItems, dDicM, dDc, dLenSet, itemsD, w_lrg, w_index, w_sortQ, dCut, dDGet, dDGet1, dDGet2, dDPut, dPairs, w_disp, w_newDF, w_newDT, dec_self, List.map_cons, List.map_nil, eqD_bl, eqD_int, eqD_str, eqD_tup, eqD_lst, eqDs_nil, eqDs_nc, eqDs_cn, eqDs_cons, reduceIte, Bool.false_eq_true, Bool.not_true, Bool.not_false, decide_true, decide_false, dVar, atD, setD, startD, dC, dOp, dAnd, dOr, dNot, dIf, dUn, dNil, dCons, dTup, dLst, rInD, rNotInD, dNoPart, dPart, dRev, dFld, DL.fieldsOf, dCB, dNext, dSeq, dBreak, dCont, dDrop, dRet, dRetN, dIfS, dNever, dgN, dgNil, dgCons, dgSub, dAsg, dPar, dPar3, putD, dSetF, dMt, rAppendD, rPopD, rExtendD, lsT, lsR, lsF, itemsR, dFrz, dCall, dCallK, dMeth, dMake, dFor, dIL, dIT, dIR1, dIR2, dIE, dIZ, wipeD, dYes, dLc, dDic0, updM_same, cxOf, asBl_bl, asInt_int, asTup_tup, isN, w_test, w_chain, w_andV, w_orV, w_notV, w_neg, w_sub, w_div, w_mod, w_pow, w_shl, w_shr, w_and, w_or, w_xor, w_lt, w_le, w_gt, w_ge, w_add, w_addS, w_addT, w_addL, w_addF, w_addR, w_mul, w_mulL, w_eq, w_ne, w_isN, w_isB, w_isntN, w_isntB, w_ix, w_isi, w_abs, w_max2, w_min2, w_max1L, w_min1L, w_sum, w_all, w_any, w_len, w_int, w_intB, w_divmod, w_sorted, w_list, w_bits, w_sl, w_slL, w_slF, w_slR, w_slT, w_newF, w_newT, w_eqL, w_eqT, w_eqR, w_neL, w_neT, w_neR, w_dgT, w_derL, w_derT, w_derB, w_derI, w_derN, w_derS, w_eqSS, w_eqBB, w_neSS, w_neBB, w_eqBI, w_eqIN, w_neIN, w_eqNI, w_neNI, w_eqNN, w_neNN, w_NN, w_NI, w_IN])
  refine ⟨isi_cls T.ck_Kind rfl, ?_⟩
  simp only [isiR, decide_true, Bool.not_true, if_false]
  exact endD_of hQ
abbrev sp_size (C : Addr) : SpD := fun ds M Q => ∃ (b : Nat) (s : Bool), ds = [kindD C b s] ∧ Wd b ∧ Q (.int (2 ^ b)) M
theorem ok_size_of (T : Txt K mg C_Kind) : FnD P w K mg base 1 "size_of" s_size_of ["kind"] (sp_size C_Kind) := by
  refine fn_mk T.h_size_of sc_size_of 1 rfl (by intro ds M Q h; first | (obtain ⟨rfl, _⟩ := h; rfl) | (obtain ⟨_, rfl, _⟩ := h; rfl) | (obtain ⟨_, _, rfl, _⟩ := h; rfl) | (obtain ⟨_, _, _, rfl, _⟩ := h; rfl) | (obtain ⟨_, _, _, _, rfl, _⟩ := h; rfl) | (obtain ⟨_, _, _, _, _, rfl, _⟩ := h; rfl) | (obtain ⟨_, _, _, _, _, _, rfl, _⟩ := h; rfl) | (obtain ⟨_, _, _, _, _, _, _, rfl, _⟩ := h; rfl) | (obtain ⟨_, _, _, _, _, _, _, _, rfl, _⟩ := h; rfl) | (obtain ⟨_, _, _, _, _, _, _, _, _, rfl, _⟩ := h; rfl) | (obtain ⟨_, _, _, _, _, _, _, _, _, _, rfl, _⟩ := h; rfl) | (obtain ⟨_, _, _, _, _, _, _, _, _, _, _, rfl, _⟩ := h; rfl) | (obtain ⟨_, _, _, _, _, _, _, _, _, _, _, _, rfl, _⟩ := h; rfl)) (fun f cdv A outer s H E hr => ⟨_, (dss_one (ds_ret (de_op od_shl de_int (de_fld C_Kind 0 T.cl_Kind T.nf_Kind_bits (dv 0))))), ?_⟩)
  rintro ds M Q ⟨b, s, rfl, hb, hQ⟩
  (try simp only [dLcM, w_isiM, rReverseD, dMinDef, rInDic, rNotInDic, dIRL, dCallC, dCallG, dConsL, dLam, atDs, dCallV, dgU, dSortI, dIItems, dDicM, dDc, dLenSet, itemsD, w_lrg, w_index, w_sortQ, dCut, dDGet, dDGet1, dDGet2, dDPut, dPairs, w_disp, w_newDF, w_newDT, dec_self, List.map_cons, List.map_nil, eqD_bl, eqD_int, eqD_str, eqD_tup, eqD_lst, eqDs_nil, eqDs_nc, eqDs_cn, eqDs_cons, reduceIte, Bool.false_eq_true, Bool.not_true, Bool.not_false, decide_true, decide_false, dVar, atD, setD, startD, dC, dOp, dAnd, dOr, dNot, dIf, dUn, dNil, dCons, dTup, dLst, rInD, rNotInD, dNoPart, dPart, dRev, dFld, DL.fieldsOf, dCB, dNext, dSeq, dBreak, dCont, dDrop, dRet, dRetN, dIfS, dNever, dgN, dgNil, dgCons, dgSub, dAsg, dPar, dPar3, putD, dSetF, dMt, rAppendD, rPopD, rExtendD, lsT, lsR, lsF, itemsR, dFrz, dCall, dCallK, dMeth, dMake, dFor, dIL, dIT, dIR1, dIR2, dIE, dIZ, wipeD, dYes, dLc, dDic0, updM_same, cxOf, asBl_bl, asInt_int, asTup_tup, isN, w_test, w_chain, w_andV, w_orV, w_notV, w_neg, w_sub, w_div, w_mod, w_pow, w_shl, w_shr, w_and, w_or, w_xor, w_lt, w_le, w_gt, w_ge, w_add, w_addS, w_addT, w_addL, w_addF, w_addR, w_mul, w_mulL, w_eq, w_ne, w_isN, w_isB, w_isntN, w_isntB, w_ix, w_isi, w_abs, w_max2, w_min2, w_max1L, w_min1L, w_sum, w_all, w_any, w_len, w_int, w_intB, w_divmod, w_sorted, w_list, w_bits, w_sl, w_slL, w_slF, w_slR, w_slT, w_newF, w_newT, w_eqL, w_eqT, w_eqR, w_neL, w_neT, w_neR, w_dgT, w_derL, w_derT, w_derB, w_derI, w_derN, w_derS, w_eqSS, w_eqBB, w_neSS, w_neBB, w_eqBI, w_eqIN, w_neIN, w_eqNI, w_neNI, w_eqNN, w_neNN, w_NN, w_NI, w_IN])
  refine ⟨_, _, rfl, rfl, shl1 (by omega) (by omega), endD_of ?_⟩
  simpa using hQ
abbrev sp_low (C : Addr) : SpD := fun ds M Q => ∃ (b : Nat) (s : Bool), ds = [kindD C b s] ∧ Wd b ∧ Q (.int (lowZ b s)) M
theorem ok_low_of (T : Txt K mg C_Kind) : FnD P w K mg base 1 "low_of" s_low_of ["kind"] (sp_low C_Kind) := by
  refine fn_mk T.h_low_of sc_low_of 1 rfl (by intro ds M Q h; first | (obtain ⟨rfl, _⟩ := h; rfl) | (obtain ⟨_, rfl, _⟩ := h; rfl) | (obtain ⟨_, _, rfl, _⟩ := h; rfl) | (obtain ⟨_, _, _, rfl, _⟩ := h; rfl) | (obtain ⟨_, _, _, _, rfl, _⟩ := h; rfl) | (obtain ⟨_, _, _, _, _, rfl, _⟩ := h; rfl) | (obtain ⟨_, _, _, _, _, _, rfl, _⟩ := h; rfl) | (obtain ⟨_, _, _, _, _, _, _, rfl, _⟩ := h; rfl) | (obtain ⟨_, _, _, _, _, _, _, _, rfl, _⟩ := h; rfl) | (obtain ⟨_, _, _, _, _, _, _, _, _, rfl, _⟩ := h; rfl) | (obtain ⟨_, _, _, _, _, _, _, _, _, _, rfl, _⟩ := h; rfl) | (obtain ⟨_, _, _, _, _, _, _, _, _, _, _, rfl, _⟩ := h; rfl) | (obtain ⟨_, _, _, _, _, _, _, _, _, _, _, _, rfl, _⟩ := h; rfl)) (fun f cdv A outer s H E hr => ⟨_, (dss_one (ds_ret (de_if (dt_val (de_fld C_Kind 1 T.cl_Kind T.nf_Kind_is_signed (dv 0))) (de_op od_sub de_int (de_op od_shl de_int (de_op od_sub (de_fld C_Kind 0 T.cl_Kind T.nf_Kind_bits (dv 0)) de_int))) de_int))), ?_⟩)
  rintro ds M Q ⟨b, s, rfl, hb, hQ⟩
  (try simp only [dLcM, w_isiM, rReverseD, dMinDef, rInDic, rNotInDic, dIRL, dCallC, dCallG, dConsL, dLam, atDs, dCallV, dgU, dSortI, dIItems, dDicM, dDc, dLenSet, itemsD, w_lrg, w_index, w_sortQ, dCut, dDGet, dDGet1, dDGet2, dDPut, dPairs, w_disp, w_newDF, w_newDT, dec_self, List.map_cons, List.map_nil, eqD_bl, eqD_int, eqD_str, eqD_tup, eqD_lst, eqDs_nil, eqDs_nc, eqDs_cn, eqDs_cons, reduceIte, Bool.false_eq_true, Bool.not_true, Bool.not_false, decide_true, decide_false, dVar, atD, setD, startD, dC, dOp, dAnd, dOr, dNot, dIf, dUn, dNil, dCons, dTup, dLst, rInD, rNotInD, dNoPart, dPart, dRev, dFld, DL.fieldsOf, dCB, dNext, dSeq, dBreak, dCont, dDrop, dRet, dRetN, dIfS, dNever, dgN, dgNil, dgCons, dgSub, dAsg, dPar, dPar3, putD, dSetF, dMt, rAppendD, rPopD, rExtendD, lsT, lsR, lsF, itemsR, dFrz, dCall, dCallK, dMeth, dMake, dFor, dIL, dIT, dIR1, dIR2, dIE, dIZ, wipeD, dYes, dLc, dDic0, updM_same, cxOf, asBl_bl, asInt_int, asTup_tup, isN, w_test, w_chain, w_andV, w_orV, w_notV, w_neg, w_sub, w_div, w_mod, w_pow, w_shl, w_shr, w_and, w_or, w_xor, w_lt, w_le, w_gt, w_ge, w_add, w_addS, w_addT, w_addL, w_addF, w_addR, w_mul, w_mulL, w_eq, w_ne, w_isN, w_isB, w_isntN, w_isntB, w_ix, w_isi, w_abs, w_max2, w_min2, w_max1L, w_min1L, w_sum, w_all, w_any, w_len, w_int, w_intB, w_divmod, w_sorted, w_list, w_bits, w_sl, w_slL, w_slF, w_slR, w_slT, w_newF, w_newT, w_eqL, w_eqT, w_eqR, w_neL, w_neT, w_neR, w_dgT, w_derL, w_derT, w_derB, w_derI, w_derN, w_derS, w_eqSS, w_eqBB, w_neSS, w_neBB, w_eqBI, w_eqIN, w_neIN, w_eqNI, w_neNI, w_eqNN, w_neNN, w_NN, w_NI, w_IN])
  refine ⟨_, _, rfl, rfl, ?_⟩
  cases s with
  | true =>
    (try simp only [dLcM, w_isiM, rReverseD, dMinDef, rInDic, rNotInDic, dIRL, dCallC, dCallG, dConsL, dLam, atDs, dCallV, dgU, dSortI, dIItems, dDicM, dDc, dLenSet, itemsD, w_lrg, w_index, w_sortQ, dCut, dDGet, dDGet1, dDGet2, dDPut, dPairs, w_disp, w_newDF, w_newDT, dec_self, List.map_cons, List.map_nil, eqD_bl, eqD_int, eqD_str, eqD_tup, eqD_lst, eqDs_nil, eqDs_nc, eqDs_cn, eqDs_cons, reduceIte, Bool.false_eq_true, Bool.not_true, Bool.not_false, decide_true, decide_false, dVar, atD, setD, startD, dC, dOp, dAnd, dOr, dNot, dIf, dUn, dNil, dCons, dTup, dLst, rInD, rNotInD, dNoPart, dPart, dRev, dFld, DL.fieldsOf, dCB, dNext, dSeq, dBreak, dCont, dDrop, dRet, dRetN, dIfS, dNever, dgN, dgNil, dgCons, dgSub, dAsg, dPar, dPar3, putD, dSetF, dMt, rAppendD, rPopD, rExtendD, lsT, lsR, lsF, itemsR, dFrz, dCall, dCallK, dMeth, dMake, dFor, dIL, dIT, dIR1, dIR2, dIE, dIZ, wipeD, dYes, dLc, dDic0, updM_same, cxOf, asBl_bl, asInt_int, asTup_tup, isN, w_test, w_chain, w_andV, w_orV, w_notV, w_neg, w_sub, w_div, w_mod, w_pow, w_shl, w_shr, w_and, w_or, w_xor, w_lt, w_le, w_gt, w_ge, w_add, w_addS, w_addT, w_addL, w_addF, w_addR, w_mul, w_mulL, w_eq, w_ne, w_isN, w_isB, w_isntN, w_isntB, w_ix, w_isi, w_abs, w_max2, w_min2, w_max1L, w_min1L, w_sum, w_all, w_any, w_len, w_int, w_intB, w_divmod, w_sorted, w_list, w_bits, w_sl, w_slL, w_slF, w_slR, w_slT, w_newF, w_newT, w_eqL, w_eqT, w_eqR, w_neL, w_neT, w_neR, w_dgT, w_derL, w_derT, w_derB, w_derI, w_derN, w_derS, w_eqSS, w_eqBB, w_neSS, w_neBB, w_eqBI, w_eqIN, w_neIN, w_eqNI, w_neNI, w_eqNN, w_neNN, w_NN, w_NI, w_IN])
    refine ⟨_, _, rfl, rfl, shl1 (by omega) (by omega), endD_of ?_⟩
    rw [show ((b : Int) - 1).toNat = b - 1 by omega]
    have e : lowZ b true = 0 - 1 * 2 ^ (b - 1) := by
      simp only [lowZ, if_true]
      omega
    rw [e] at hQ
    exact hQ
  | false => exact endD_of hQ
abbrev sp_placed (C : Addr) : SpD := fun ds M Q => ∃ (b : Nat) (s : Bool) (n : Int), ds = [kindD C b s, .int n] ∧ Wd b ∧ Q (.int (placedZ b s n)) M
theorem ok_placed (T : Txt K mg C_Kind) (F_low_of : FnD P w K mg base 1 "low_of" s_low_of ["kind"] (sp_low C_Kind)) (F_size_of : FnD P w K mg base 1 "size_of" s_size_of ["kind"] (sp_size C_Kind)) : FnD P w K mg base 2 "placed" s_placed ["kind", "n"] (sp_placed C_Kind) := by
  refine fn_mk T.h_placed sc_placed 2 rfl (by intro ds M Q h; first | (obtain ⟨rfl, _⟩ := h; rfl) | (obtain ⟨_, rfl, _⟩ := h; rfl) | (obtain ⟨_, _, rfl, _⟩ := h; rfl) | (obtain ⟨_, _, _, rfl, _⟩ := h; rfl) | (obtain ⟨_, _, _, _, rfl, _⟩ := h; rfl) | (obtain ⟨_, _, _, _, _, rfl, _⟩ := h; rfl) | (obtain ⟨_, _, _, _, _, _, rfl, _⟩ := h; rfl) | (obtain ⟨_, _, _, _, _, _, _, rfl, _⟩ := h; rfl) | (obtain ⟨_, _, _, _, _, _, _, _, rfl, _⟩ := h; rfl) | (obtain ⟨_, _, _, _, _, _, _, _, _, rfl, _⟩ := h; rfl) | (obtain ⟨_, _, _, _, _, _, _, _, _, _, rfl, _⟩ := h; rfl) | (obtain ⟨_, _, _, _, _, _, _, _, _, _, _, rfl, _⟩ := h; rfl) | (obtain ⟨_, _, _, _, _, _, _, _, _, _, _, _, rfl, _⟩ := h; rfl)) (fun f cdv A outer s H E hr => ⟨_, (dss_one (ds_ret (de_op (od_add false) (de_call F_low_of hr (da_cons (dv 0) da_nil)) (de_op od_mod (de_op od_sub (dv 1) (de_call F_low_of hr (da_cons (dv 0) da_nil))) (de_call F_size_of hr (da_cons (dv 0) da_nil)))))), ?_⟩)
  rintro ds M Q ⟨b, s, n, rfl, hb, hQ⟩
  (try simp only [dLcM, w_isiM, rReverseD, dMinDef, rInDic, rNotInDic, dIRL, dCallC, dCallG, dConsL, dLam, atDs, dCallV, dgU, dSortI, dIItems, dDicM, dDc, dLenSet, itemsD, w_lrg, w_index, w_sortQ, dCut, dDGet, dDGet1, dDGet2, dDPut, dPairs, w_disp, w_newDF, w_newDT, dec_self, List.map_cons, List.map_nil, eqD_bl, eqD_int, eqD_str, eqD_tup, eqD_lst, eqDs_nil, eqDs_nc, eqDs_cn, eqDs_cons, reduceIte, Bool.false_eq_true, Bool.not_true, Bool.not_false, decide_true, decide_false, dVar, atD, setD, startD, dC, dOp, dAnd, dOr, dNot, dIf, dUn, dNil, dCons, dTup, dLst, rInD, rNotInD, dNoPart, dPart, dRev, dFld, DL.fieldsOf, dCB, dNext, dSeq, dBreak, dCont, dDrop, dRet, dRetN, dIfS, dNever, dgN, dgNil, dgCons, dgSub, dAsg, dPar, dPar3, putD, dSetF, dMt, rAppendD, rPopD, rExtendD, lsT, lsR, lsF, itemsR, dFrz, dCall, dCallK, dMeth, dMake, dFor, dIL, dIT, dIR1, dIR2, dIE, dIZ, wipeD, dYes, dLc, dDic0, updM_same, cxOf, asBl_bl, asInt_int, asTup_tup, isN, w_test, w_chain, w_andV, w_orV, w_notV, w_neg, w_sub, w_div, w_mod, w_pow, w_shl, w_shr, w_and, w_or, w_xor, w_lt, w_le, w_gt, w_ge, w_add, w_addS, w_addT, w_addL, w_addF, w_addR, w_mul, w_mulL, w_eq, w_ne, w_isN, w_isB, w_isntN, w_isntB, w_ix, w_isi, w_abs, w_max2, w_min2, w_max1L, w_min1L, w_sum, w_all, w_any, w_len, w_int, w_intB, w_divmod, w_sorted, w_list, w_bits, w_sl, w_slL, w_slF, w_slR, w_slT, w_newF, w_newT, w_eqL, w_eqT, w_eqR, w_neL, w_neT, w_neR, w_dgT, w_derL, w_derT, w_derB, w_derI, w_derN, w_derS, w_eqSS, w_eqBB, w_neSS, w_neBB, w_eqBI, w_eqIN, w_neIN, w_eqNI, w_neNI, w_eqNN, w_neNN, w_NN, w_NI, w_IN])
  refine ⟨b, s, rfl, hb, ?_⟩
  refine ⟨b, s, rfl, hb, ?_⟩
  refine ⟨b, s, rfl, hb, ?_⟩
  have h := two_pos b
  (try simp only [dLcM, w_isiM, rReverseD, dMinDef, rInDic, rNotInDic, dIRL, dCallC, dCallG, dConsL, dLam, atDs, dCallV, dgU, dSortI, dIItems, dDicM, dDc, dLenSet, itemsD, w_lrg, w_index, w_sortQ, dCut, dDGet, dDGet1, dDGet2, dDPut, dPairs, w_disp, w_newDF, w_newDT, dec_self, List.map_cons, List.map_nil, eqD_bl, eqD_int, eqD_str, eqD_tup, eqD_lst, eqDs_nil, eqDs_nc, eqDs_cn, eqDs_cons, reduceIte, Bool.false_eq_true, Bool.not_true, Bool.not_false, decide_true, decide_false, dVar, atD, setD, startD, dC, dOp, dAnd, dOr, dNot, dIf, dUn, dNil, dCons, dTup, dLst, rInD, rNotInD, dNoPart, dPart, dRev, dFld, DL.fieldsOf, dCB, dNext, dSeq, dBreak, dCont, dDrop, dRet, dRetN, dIfS, dNever, dgN, dgNil, dgCons, dgSub, dAsg, dPar, dPar3, putD, dSetF, dMt, rAppendD, rPopD, rExtendD, lsT, lsR, lsF, itemsR, dFrz, dCall, dCallK, dMeth, dMake, dFor, dIL, dIT, dIR1, dIR2, dIE, dIZ, wipeD, dYes, dLc, dDic0, updM_same, cxOf, asBl_bl, asInt_int, asTup_tup, isN, w_test, w_chain, w_andV, w_orV, w_notV, w_neg, w_sub, w_div, w_mod, w_pow, w_shl, w_shr, w_and, w_or, w_xor, w_lt, w_le, w_gt, w_ge, w_add, w_addS, w_addT, w_addL, w_addF, w_addR, w_mul, w_mulL, w_eq, w_ne, w_isN, w_isB, w_isntN, w_isntB, w_ix, w_isi, w_abs, w_max2, w_min2, w_max1L, w_min1L, w_sum, w_all, w_any, w_len, w_int, w_intB, w_divmod, w_sorted, w_list, w_bits, w_sl, w_slL, w_slF, w_slR, w_slT, w_newF, w_newT, w_eqL, w_eqT, w_eqR, w_neL, w_neT, w_neR, w_dgT, w_derL, w_derT, w_derB, w_derI, w_derN, w_derS, w_eqSS, w_eqBB, w_neSS, w_neBB, w_eqBI, w_eqIN, w_neIN, w_eqNI, w_neNI, w_eqNN, w_neNN, w_NN, w_NI, w_IN])
  rw [fmodP h]
  exact ⟨by omega, endD_of hQ⟩
abbrev sp_least (C : Addr) : SpD := sp_low C
abbrev sp_greatest (C : Addr) : SpD := fun ds M Q => ∃ (b : Nat) (s : Bool), ds = [kindD C b s] ∧ Wd b ∧ Q (.int (lowZ b s + 2 ^ b - 1)) M
abbrev sp_isvalue (C : Addr) : SpD := fun ds M Q => ∃ (b : Nat) (s : Bool) (x : Dat), ds = [kindD C b s, x] ∧ Wd b ∧ OneC C x ∧ Q (.bl (betw x (lowZ b s) (lowZ b s + 2 ^ b - 1))) M
theorem ok_is_value (T : Txt K mg C_Kind) (F_check_kind : FnD P w K mg base 1 "check_kind" s_check_kind ["value"] (sp_chkk C_Kind)) (F_is_between : FnD P w K mg base 2 "is_between" s_is_between ["value", "low", "high"] (sp_between C_Kind)) (F_low_of : FnD P w K mg base 1 "low_of" s_low_of ["kind"] (sp_low C_Kind)) (F_size_of : FnD P w K mg base 1 "size_of" s_size_of ["kind"] (sp_size C_Kind)) : FnD P w K mg base 3 "is_value" s_is_value ["kind", "x"] (sp_isvalue C_Kind) := by
  refine fn_mk T.h_is_value sc_is_value 2 rfl (by intro ds M Q h; first | (obtain ⟨rfl, _⟩ := h; rfl) | (obtain ⟨_, rfl, _⟩ := h; rfl) | (obtain ⟨_, _, rfl, _⟩ := h; rfl) | (obtain ⟨_, _, _, rfl, _⟩ := h; rfl) | (obtain ⟨_, _, _, _, rfl, _⟩ := h; rfl) | (obtain ⟨_, _, _, _, _, rfl, _⟩ := h; rfl) | (obtain ⟨_, _, _, _, _, _, rfl, _⟩ := h; rfl) | (obtain ⟨_, _, _, _, _, _, _, rfl, _⟩ := h; rfl) | (obtain ⟨_, _, _, _, _, _, _, _, rfl, _⟩ := h; rfl) | (obtain ⟨_, _, _, _, _, _, _, _, _, rfl, _⟩ := h; rfl) | (obtain ⟨_, _, _, _, _, _, _, _, _, _, rfl, _⟩ := h; rfl) | (obtain ⟨_, _, _, _, _, _, _, _, _, _, _, rfl, _⟩ := h; rfl) | (obtain ⟨_, _, _, _, _, _, _, _, _, _, _, _, rfl, _⟩ := h; rfl)) (fun f cdv A outer s H E hr => ⟨_, (dss_cons (ds_expr (de_call F_check_kind hr (da_cons (dv 0) da_nil)))
    (dss_one (ds_ret (de_call F_is_between hr (da_cons (dv 1) (da_cons (de_call F_low_of hr (da_cons (dv 0) da_nil)) (da_cons (de_op od_sub (de_op (od_add false) (de_call F_low_of hr (da_cons (dv 0) da_nil)) (de_call F_size_of hr (da_cons (dv 0) da_nil))) de_int) da_nil))))))), ?_⟩)
  rintro ds M Q ⟨b, s, x, rfl, hb, hx, hQ⟩
  (try simp only [dLcM, w_isiM, rReverseD, dMinDef, rInDic, rNotInDic, dIRL, dCallC, dCallG, dConsL, dLam, atDs, dCallV, dgU, dSortI, dIItems, dDicM, dDc, dLenSet, itemsD, w_lrg, w_index, w_sortQ, dCut, dDGet, dDGet1, dDGet2, dDPut, dPairs, w_disp, w_newDF, w_newDT, dec_self, List.map_cons, List.map_nil, eqD_bl, eqD_int, eqD_str, eqD_tup, eqD_lst, eqDs_nil, eqDs_nc, eqDs_cn, eqDs_cons, reduceIte, Bool.false_eq_true, Bool.not_true, Bool.not_false, decide_true, decide_false, dVar, atD, setD, startD, dC, dOp, dAnd, dOr, dNot, dIf, dUn, dNil, dCons, dTup, dLst, rInD, rNotInD, dNoPart, dPart, dRev, dFld, DL.fieldsOf, dCB, dNext, dSeq, dBreak, dCont, dDrop, dRet, dRetN, dIfS, dNever, dgN, dgNil, dgCons, dgSub, dAsg, dPar, dPar3, putD, dSetF, dMt, rAppendD, rPopD, rExtendD, lsT, lsR, lsF, itemsR, dFrz, dCall, dCallK, dMeth, dMake, dFor, dIL, dIT, dIR1, dIR2, dIE, dIZ, wipeD, dYes, dLc, dDic0, updM_same, cxOf, asBl_bl, asInt_int, asTup_tup, isN, w_test, w_chain, w_andV, w_orV, w_notV, w_neg, w_sub, w_div, w_mod, w_pow, w_shl, w_shr, w_and, w_or, w_xor, w_lt, w_le, w_gt, w_ge, w_add, w_addS, w_addT, w_addL, w_addF, w_addR, w_mul, w_mulL, w_eq, w_ne, w_isN, w_isB, w_isntN, w_isntB, w_ix, w_isi, w_abs, w_max2, w_min2, w_max1L, w_min1L, w_sum, w_all, w_any, w_len, w_int, w_intB, w_divmod, w_sorted, w_list, w_bits, w_sl, w_slL, w_slF, w_slR, w_slT, w_newF, w_newT, w_eqL, w_eqT, w_eqR, w_neL, w_neT, w_neR, w_dgT, w_derL, w_derT, w_derB, w_derI, w_derN, w_derS, w_eqSS, w_eqBB, w_neSS, w_neBB, w_eqBI, w_eqIN, w_neIN, w_eqNI, w_neNI, w_eqNN, w_neNN, w_NN, w_NI, w_IN])
  refine ⟨_, rfl, b, s, rfl, hb, b, s, rfl, hb, b, s, rfl, hb, ?_⟩
  exact ⟨x, _, _, rfl, hx, endD_of hQ⟩
abbrev sp_wrapped (C : Addr) : SpD := sp_placed C
/-- one kind behind the other -/
def castZ : List (Nat × Bool) → Int → Int
  | [], n => n
  | (b, s) :: r, n => castZ r (placedZ b s n)
abbrev kindsD (C : Addr) (ks : List (Nat × Bool)) : List Dat := ks.map fun q => kindD C q.1 q.2
abbrev sp_cast (C : Addr) : SpD := fun ds M Q => ∃ (ks : List (Nat × Bool)) (n : Int), ds = [.lst (kindsD C ks), .int n] ∧ (∀ q ∈ ks, Wd q.1) ∧ 1 ≤ ks.length ∧ ks.length ≤ 20 ∧ Q (.int (castZ ks n)) M
/-! ### numbers modulo a power of two -/
abbrev InK (b : Nat) (s : Bool) (x : Int) : Prop := lowZ b s ≤ x ∧ x < lowZ b s + 2 ^ b
theorem pow_mono {a b : Nat} (h : a ≤ b) : (2 : Int) ^ a ≤ 2 ^ b := by
  have := Nat.pow_le_pow_right (show 0 < 2 by decide) h
  have e1 : ((2 ^ a : Nat) : Int) = 2 ^ a := by simp
  have e2 : ((2 ^ b : Nat) : Int) = 2 ^ b := by simp
  rw [← e1, ← e2]
  omega
theorem two_succ {b : Nat} (h : 1 ≤ b) : (2 : Int) ^ b = 2 * 2 ^ (b - 1) := by
  obtain ⟨c, rfl⟩ : ∃ c, b = c + 1 := ⟨b - 1, by omega⟩
  rw [Nat.add_sub_cancel, Int.pow_succ, Int.mul_comm]
theorem low_abs (b : Nat) (s : Bool) : -(2 ^ b) ≤ lowZ b s ∧ lowZ b s ≤ 0 := by
  have h1 := two_pos b
  have h2 := two_pos (b - 1)
  have h3 := pow_mono (show b - 1 ≤ b by omega)
  unfold lowZ
  split <;> omega
theorem in_small {b : Nat} {s : Bool} {x : Int} (hb : Wd b) (h : InK b s x) : x.natAbs < 2 ^ 200 := by
  have h1 := low_abs b s
  have h2 := pow_mono hb.2
  have h3 : (2 : Int) ^ 128 + 2 ^ 128 < 2 ^ 200 := by decide +kernel
  obtain ⟨h4, h5⟩ := h
  omega
theorem mod_cong (m a : Int) : m ∣ a % m - a := ⟨-(a / m), by rw [Int.emod_def]; grind⟩
theorem placed_congr {b : Nat} {s : Bool} {x y : Int} (h : (2 : Int) ^ b ∣ x - y) : placedZ b s x = placedZ b s y := by
  obtain ⟨c, hc⟩ := h
  have e : x = y + 2 ^ b * c := by omega
  subst e
  unfold placedZ
  rw [show y + 2 ^ b * c - lowZ b s = (y - lowZ b s) + 2 ^ b * c by omega, Int.add_mul_emod_self_left]
theorem placed_cong (b : Nat) (s : Bool) (x : Int) : (2 : Int) ^ b ∣ placedZ b s x - x := by
  obtain ⟨c, hc⟩ := mod_cong (2 ^ b) (x - lowZ b s)
  exact ⟨c, by unfold placedZ; omega⟩
theorem in_unique {b : Nat} {s : Bool} {x y : Int} (hx : InK b s x) (hy : InK b s y) (h : (2 : Int) ^ b ∣ x - y) : x = y := by
  rw [← placed_same hx.1 hx.2, ← placed_same hy.1 hy.2]
  exact placed_congr h
theorem placed_inK (b : Nat) (s : Bool) (x : Int) : InK b s (placedZ b s x) := placed_in b s x
theorem placed_iff {b : Nat} {s : Bool} {x y : Int} : placedZ b s x = placedZ b s y ↔ (2 : Int) ^ b ∣ x - y := by
  refine ⟨fun h => ?_, placed_congr⟩
  obtain ⟨c, hc⟩ := placed_cong b s x
  obtain ⟨d, hd⟩ := placed_cong b s y
  exact ⟨d - c, by rw [Int.mul_sub]; omega⟩
theorem dvd_mul_l {m a : Int} (c : Int) (h : m ∣ a) : m ∣ c * a := by
  obtain ⟨d, rfl⟩ := h
  exact ⟨c * d, by grind⟩
theorem dvd_mul_r {m a : Int} (c : Int) (h : m ∣ a) : m ∣ a * c := by
  obtain ⟨d, rfl⟩ := h
  exact ⟨d * c, by grind⟩
theorem dvd_add' {m a b : Int} (h : m ∣ a) (g : m ∣ b) : m ∣ a + b := by
  obtain ⟨d, rfl⟩ := h
  obtain ⟨e, rfl⟩ := g
  exact ⟨d + e, by grind⟩
theorem dvd_pow2 {a b : Nat} (h : a ≤ b) : (2 : Int) ^ a ∣ 2 ^ b := by
  obtain ⟨c, rfl⟩ := Nat.exists_eq_add_of_le h
  exact ⟨2 ^ c, by rw [Int.pow_add]⟩
theorem mod_uniq {m a b : Int} (hm : 0 < m) (ha : 0 ≤ a ∧ a < m) (hb : 0 ≤ b ∧ b < m) (h : m ∣ a - b) : a = b := by
  obtain ⟨c, hc⟩ := h
  have e : a = b + m * c := by omega
  rw [← Int.emod_eq_of_lt ha.1 ha.2, e, Int.add_mul_emod_self_left, Int.emod_eq_of_lt hb.1 hb.2]
theorem mod_congr {m a b : Int} (h : m ∣ a - b) : a % m = b % m := by
  obtain ⟨c, hc⟩ := h
  rw [show a = b + m * c by omega, Int.add_mul_emod_self_left]
theorem dvd_of_mod {m a b : Int} (h : a % m = b % m) : m ∣ a - b := by
  have h1 := Int.emod_add_mul_ediv a m
  have h2 := Int.emod_add_mul_ediv b m
  exact ⟨a / m - b / m, by grind⟩
theorem odd_cases (x : Int) : x % 2 = 0 ∨ x % 2 = 1 := by omega
/-- an odd factor does not matter -/
theorem odd_dvd {x y : Int} (hx : x % 2 = 1) : ∀ {k : Nat}, (2 : Int) ^ k ∣ x * y → (2 : Int) ^ k ∣ y
  | 0, _ => ⟨y, by simp⟩
  | k + 1, h => by
    obtain ⟨c, hc⟩ := odd_dvd hx (k := k) (by
      obtain ⟨d, hd⟩ := h
      exact ⟨2 * d, by rw [hd, Int.pow_succ]; grind⟩)
    obtain ⟨d, hd⟩ := h
    subst hc
    have hp := two_pos k
    have e : x * c = 2 * d := by
      have : (2 : Int) ^ k * (x * c) = 2 ^ k * (2 * d) := by rw [Int.pow_succ] at hd; grind
      exact Int.eq_of_mul_eq_mul_left (by omega) this
    have hc2 : c % 2 = 0 := by
      rcases odd_cases c with h | h
      · exact h
      · have : x * c % 2 = 1 := by rw [Int.mul_emod, hx, h]; rfl
        omega
    exact ⟨c / 2, by rw [Int.pow_succ]; have : c = 2 * (c / 2) := by omega
                     grind⟩
theorem newton {n f : Int} {k l : Nat} (hl : l ≤ 2 * k) (h : (2 : Int) ^ k ∣ n * f - 1) : (2 : Int) ^ l ∣ n * ((f * (2 - n * f)) % 2 ^ l) - 1 := by
  obtain ⟨c, hc⟩ := h
  obtain ⟨d, hd⟩ := mod_cong (2 ^ l) (f * (2 - n * f))
  obtain ⟨e, he⟩ := dvd_pow2 hl
  have h2 : (2 : Int) ^ (2 * k) = 2 ^ k * 2 ^ k := by rw [Nat.two_mul, Int.pow_add]
  exact ⟨n * d - e * (c * c), by grind⟩
theorem pl_eq {b : Nat} {s : Bool} {n x : Int} (hx : InK b s x) (h : (2 : Int) ^ b ∣ n - x) : placedZ b s n = x := by
  rw [← placed_same hx.1 hx.2]
  rw [placed_same hx.1 hx.2]
  exact (placed_congr h).trans (placed_same hx.1 hx.2)
def absZ (i : Int) : Int := if i < 0 then -i else i
theorem abs_nat (x : Int) : absZ x = x.natAbs := by
  unfold absZ
  split <;> omega
abbrev sp_chkb (C : Addr) : SpD := fun ds M Q => ∃ (d : Dat) (v lo hi : Int), ds = [d, .int v, .int lo, .int hi] ∧ lo ≤ v ∧ v ≤ hi ∧ Q .non M
theorem ok_check_between (T : Txt K mg C_Kind) (F_is_between : FnD P w K mg base 2 "is_between" s_is_between ["value", "low", "high"] (sp_between C_Kind)) : FnD P w K mg base 3 "check_between" s_check_between ["argument", "value", "low", "high"] (sp_chkb C_Kind) := by
  refine fn_mk T.h_check_between sc_check_between 4 rfl (by intro ds M Q h; first | (obtain ⟨rfl, _⟩ := h; rfl) | (obtain ⟨_, rfl, _⟩ := h; rfl) | (obtain ⟨_, _, rfl, _⟩ := h; rfl) | (obtain ⟨_, _, _, rfl, _⟩ := h; rfl) | (obtain ⟨_, _, _, _, rfl, _⟩ := h; rfl) | (obtain ⟨_, _, _, _, _, rfl, _⟩ := h; rfl) | (obtain ⟨_, _, _, _, _, _, rfl, _⟩ := h; rfl) | (obtain ⟨_, _, _, _, _, _, _, rfl, _⟩ := h; rfl) | (obtain ⟨_, _, _, _, _, _, _, _, rfl, _⟩ := h; rfl) | (obtain ⟨_, _, _, _, _, _, _, _, _, rfl, _⟩ := h; rfl) | (obtain ⟨_, _, _, _, _, _, _, _, _, _, rfl, _⟩ := h; rfl) | (obtain ⟨_, _, _, _, _, _, _, _, _, _, _, rfl, _⟩ := h; rfl) | (obtain ⟨_, _, _, _, _, _, _, _, _, _, _, _, rfl, _⟩ := h; rfl)) (fun f cdv A outer s H E hr => ⟨_, (dss_one (ds_if (dt_not (dt_val (de_call F_is_between hr (da_cons (dv 1) (da_cons (dv 2) (da_cons (dv 3) da_nil))))))
    (dss_one ds_never)
    dss_nil)), ?_⟩)
  rintro ds M Q ⟨d, v, lo, hi, rfl, h1, h2, hQ⟩
  (try simp only [dLcM, w_isiM, rReverseD, dMinDef, rInDic, rNotInDic, dIRL, dCallC, dCallG, dConsL, dLam, atDs, dCallV, dgU, dSortI, dIItems, dDicM, dDc, dLenSet, itemsD, w_lrg, w_index, w_sortQ, dCut, dDGet, dDGet1, dDGet2, dDPut, dPairs, w_disp, w_newDF, w_newDT, dec_self, List.map_cons, List.map_nil, eqD_bl, eqD_int, eqD_str, eqD_tup, eqD_lst, eqDs_nil, eqDs_nc, eqDs_cn, eqDs_cons, reduceIte, Bool.false_eq_true, Bool.not_true, Bool.not_false, decide_true, decide_false, dVar, atD, setD, startD, dC, dOp, dAnd, dOr, dNot, dIf, dUn, dNil, dCons, dTup, dLst, rInD, rNotInD, dNoPart, dPart, dRev, dFld, DL.fieldsOf, dCB, dNext, dSeq, dBreak, dCont, dDrop, dRet, dRetN, dIfS, dNever, dgN, dgNil, dgCons, dgSub, dAsg, dPar, dPar3, putD, dSetF, dMt, rAppendD, rPopD, rExtendD, lsT, lsR, lsF, itemsR, dFrz, dCall, dCallK, dMeth, dMake, dFor, dIL, dIT, dIR1, dIR2, dIE, dIZ, wipeD, dYes, dLc, dDic0, updM_same, cxOf, asBl_bl, asInt_int, asTup_tup, isN, w_test, w_chain, w_andV, w_orV, w_notV, w_neg, w_sub, w_div, w_mod, w_pow, w_shl, w_shr, w_and, w_or, w_xor, w_lt, w_le, w_gt, w_ge, w_add, w_addS, w_addT, w_addL, w_addF, w_addR, w_mul, w_mulL, w_eq, w_ne, w_isN, w_isB, w_isntN, w_isntB, w_ix, w_isi, w_abs, w_max2, w_min2, w_max1L, w_min1L, w_sum, w_all, w_any, w_len, w_int, w_intB, w_divmod, w_sorted, w_list, w_bits, w_sl, w_slL, w_slF, w_slR, w_slT, w_newF, w_newT, w_eqL, w_eqT, w_eqR, w_neL, w_neT, w_neR, w_dgT, w_derL, w_derT, w_derB, w_derI, w_derN, w_derS, w_eqSS, w_eqBB, w_neSS, w_neBB, w_eqBI, w_eqIN, w_neIN, w_eqNI, w_neNI, w_eqNN, w_neNN, w_NN, w_NI, w_IN])
  refine ⟨.int v, lo, hi, rfl, trivial, ?_⟩
  rw [show betw (.int v) lo hi = true from decide_eq_true ⟨h1, h2⟩]
  (try simp only [dLcM, w_isiM, rReverseD, dMinDef, rInDic, rNotInDic, dIRL, dCallC, dCallG, dConsL, dLam, atDs, dCallV, dgU, dSortI, dIItems, dDicM, dDc, dLenSet, itemsD, w_lrg, w_index, w_sortQ, dCut, dDGet, dDGet1, dDGet2, dDPut, dPairs, w_disp, w_newDF, w_newDT, dec_self, List.map_cons, List.map_nil, eqD_bl, eqD_int, eqD_str, eqD_tup, eqD_lst, eqDs_nil, eqDs_nc, eqDs_cn, eqDs_cons, reduceIte, Bool.false_eq_true, Bool.not_true, Bool.not_false, decide_true, decide_false, dVar, atD, setD, startD, dC, dOp, dAnd, dOr, dNot, dIf, dUn, dNil, dCons, dTup, dLst, rInD, rNotInD, dNoPart, dPart, dRev, dFld, DL.fieldsOf, dCB, dNext, dSeq, dBreak, dCont, dDrop, dRet, dRetN, dIfS, dNever, dgN, dgNil, dgCons, dgSub, dAsg, dPar, dPar3, putD, dSetF, dMt, rAppendD, rPopD, rExtendD, lsT, lsR, lsF, itemsR, dFrz, dCall, dCallK, dMeth, dMake, dFor, dIL, dIT, dIR1, dIR2, dIE, dIZ, wipeD, dYes, dLc, dDic0, updM_same, cxOf, asBl_bl, asInt_int, asTup_tup, isN, w_test, w_chain, w_andV, w_orV, w_notV, w_neg, w_sub, w_div, w_mod, w_pow, w_shl, w_shr, w_and, w_or, w_xor, w_lt, w_le, w_gt, w_ge, w_add, w_addS, w_addT, w_addL, w_addF, w_addR, w_mul, w_mulL, w_eq, w_ne, w_isN, w_isB, w_isntN, w_isntB, w_ix, w_isi, w_abs, w_max2, w_min2, w_max1L, w_min1L, w_sum, w_all, w_any, w_len, w_int, w_intB, w_divmod, w_sorted, w_list, w_bits, w_sl, w_slL, w_slF, w_slR, w_slT, w_newF, w_newT, w_eqL, w_eqT, w_eqR, w_neL, w_neT, w_neR, w_dgT, w_derL, w_derT, w_derB, w_derI, w_derN, w_derS, w_eqSS, w_eqBB, w_neSS, w_neBB, w_eqBI, w_eqIN, w_neIN, w_eqNI, w_neNI, w_eqNN, w_neNN, w_NN, w_NI, w_IN])
  exact endD_of hQ
abbrev sp_chkv (C : Addr) : SpD := fun ds M Q => ∃ (b : Nat) (s : Bool) (d : Dat) (v : Int), ds = [kindD C b s, d, .int v] ∧ Wd b ∧ InK b s v ∧ Q .non M
theorem ok_check_value (T : Txt K mg C_Kind) (F_check_between : FnD P w K mg base 3 "check_between" s_check_between ["argument", "value", "low", "high"] (sp_chkb C_Kind)) (F_low_of : FnD P w K mg base 1 "low_of" s_low_of ["kind"] (sp_low C_Kind)) (F_size_of : FnD P w K mg base 1 "size_of" s_size_of ["kind"] (sp_size C_Kind)) : FnD P w K mg base 4 "check_value" s_check_value ["kind", "argument", "value"] (sp_chkv C_Kind) := by
  refine fn_mk T.h_check_value sc_check_value 3 rfl (by intro ds M Q h; first | (obtain ⟨rfl, _⟩ := h; rfl) | (obtain ⟨_, rfl, _⟩ := h; rfl) | (obtain ⟨_, _, rfl, _⟩ := h; rfl) | (obtain ⟨_, _, _, rfl, _⟩ := h; rfl) | (obtain ⟨_, _, _, _, rfl, _⟩ := h; rfl) | (obtain ⟨_, _, _, _, _, rfl, _⟩ := h; rfl) | (obtain ⟨_, _, _, _, _, _, rfl, _⟩ := h; rfl) | (obtain ⟨_, _, _, _, _, _, _, rfl, _⟩ := h; rfl) | (obtain ⟨_, _, _, _, _, _, _, _, rfl, _⟩ := h; rfl) | (obtain ⟨_, _, _, _, _, _, _, _, _, rfl, _⟩ := h; rfl) | (obtain ⟨_, _, _, _, _, _, _, _, _, _, rfl, _⟩ := h; rfl) | (obtain ⟨_, _, _, _, _, _, _, _, _, _, _, rfl, _⟩ := h; rfl) | (obtain ⟨_, _, _, _, _, _, _, _, _, _, _, _, rfl, _⟩ := h; rfl)) (fun f cdv A outer s H E hr => ⟨_, (dss_one (ds_expr (de_call F_check_between hr (da_cons (dv 1) (da_cons (dv 2) (da_cons (de_call F_low_of hr (da_cons (dv 0) da_nil)) (da_cons (de_op od_sub (de_op (od_add false) (de_call F_low_of hr (da_cons (dv 0) da_nil)) (de_call F_size_of hr (da_cons (dv 0) da_nil))) de_int) da_nil))))))), ?_⟩)
  rintro ds M Q ⟨b, s, d, v, rfl, hb, h, hQ⟩
  (try simp only [dLcM, w_isiM, rReverseD, dMinDef, rInDic, rNotInDic, dIRL, dCallC, dCallG, dConsL, dLam, atDs, dCallV, dgU, dSortI, dIItems, dDicM, dDc, dLenSet, itemsD, w_lrg, w_index, w_sortQ, dCut, dDGet, dDGet1, dDGet2, dDPut, dPairs, w_disp, w_newDF, w_newDT, dec_self, List.map_cons, List.map_nil, eqD_bl, eqD_int, eqD_str, eqD_tup, eqD_lst, eqDs_nil, eqDs_nc, eqDs_cn, eqDs_cons, reduceIte, Bool.false_eq_true, Bool.not_true, Bool.not_false, decide_true, decide_false, dVar, atD, setD, startD, dC, dOp, dAnd, dOr, dNot, dIf, dUn, dNil, dCons, dTup, dLst, rInD, rNotInD, dNoPart, dPart, dRev, dFld, DL.fieldsOf, dCB, dNext, dSeq, dBreak, dCont, dDrop, dRet, dRetN, dIfS, dNever, dgN, dgNil, dgCons, dgSub, dAsg, dPar, dPar3, putD, dSetF, dMt, rAppendD, rPopD, rExtendD, lsT, lsR, lsF, itemsR, dFrz, dCall, dCallK, dMeth, dMake, dFor, dIL, dIT, dIR1, dIR2, dIE, dIZ, wipeD, dYes, dLc, dDic0, updM_same, cxOf, asBl_bl, asInt_int, asTup_tup, isN, w_test, w_chain, w_andV, w_orV, w_notV, w_neg, w_sub, w_div, w_mod, w_pow, w_shl, w_shr, w_and, w_or, w_xor, w_lt, w_le, w_gt, w_ge, w_add, w_addS, w_addT, w_addL, w_addF, w_addR, w_mul, w_mulL, w_eq, w_ne, w_isN, w_isB, w_isntN, w_isntB, w_ix, w_isi, w_abs, w_max2, w_min2, w_max1L, w_min1L, w_sum, w_all, w_any, w_len, w_int, w_intB, w_divmod, w_sorted, w_list, w_bits, w_sl, w_slL, w_slF, w_slR, w_slT, w_newF, w_newT, w_eqL, w_eqT, w_eqR, w_neL, w_neT, w_neR, w_dgT, w_derL, w_derT, w_derB, w_derI, w_derN, w_derS, w_eqSS, w_eqBB, w_neSS, w_neBB, w_eqBI, w_eqIN, w_neIN, w_eqNI, w_neNI, w_eqNN, w_neNN, w_NN, w_NI, w_IN])
  refine ⟨b, s, rfl, hb, b, s, rfl, hb, b, s, rfl, hb, ?_⟩
  (try simp only [dLcM, w_isiM, rReverseD, dMinDef, rInDic, rNotInDic, dIRL, dCallC, dCallG, dConsL, dLam, atDs, dCallV, dgU, dSortI, dIItems, dDicM, dDc, dLenSet, itemsD, w_lrg, w_index, w_sortQ, dCut, dDGet, dDGet1, dDGet2, dDPut, dPairs, w_disp, w_newDF, w_newDT, dec_self, List.map_cons, List.map_nil, eqD_bl, eqD_int, eqD_str, eqD_tup, eqD_lst, eqDs_nil, eqDs_nc, eqDs_cn, eqDs_cons, reduceIte, Bool.false_eq_true, Bool.not_true, Bool.not_false, decide_true, decide_false, dVar, atD, setD, startD, dC, dOp, dAnd, dOr, dNot, dIf, dUn, dNil, dCons, dTup, dLst, rInD, rNotInD, dNoPart, dPart, dRev, dFld, DL.fieldsOf, dCB, dNext, dSeq, dBreak, dCont, dDrop, dRet, dRetN, dIfS, dNever, dgN, dgNil, dgCons, dgSub, dAsg, dPar, dPar3, putD, dSetF, dMt, rAppendD, rPopD, rExtendD, lsT, lsR, lsF, itemsR, dFrz, dCall, dCallK, dMeth, dMake, dFor, dIL, dIT, dIR1, dIR2, dIE, dIZ, wipeD, dYes, dLc, dDic0, updM_same, cxOf, asBl_bl, asInt_int, asTup_tup, isN, w_test, w_chain, w_andV, w_orV, w_notV, w_neg, w_sub, w_div, w_mod, w_pow, w_shl, w_shr, w_and, w_or, w_xor, w_lt, w_le, w_gt, w_ge, w_add, w_addS, w_addT, w_addL, w_addF, w_addR, w_mul, w_mulL, w_eq, w_ne, w_isN, w_isB, w_isntN, w_isntB, w_ix, w_isi, w_abs, w_max2, w_min2, w_max1L, w_min1L, w_sum, w_all, w_any, w_len, w_int, w_intB, w_divmod, w_sorted, w_list, w_bits, w_sl, w_slL, w_slF, w_slR, w_slT, w_newF, w_newT, w_eqL, w_eqT, w_eqR, w_neL, w_neT, w_neR, w_dgT, w_derL, w_derT, w_derB, w_derI, w_derN, w_derS, w_eqSS, w_eqBB, w_neSS, w_neBB, w_eqBI, w_eqIN, w_neIN, w_eqNI, w_neNI, w_eqNN, w_neNN, w_NN, w_NI, w_IN])
  exact ⟨d, v, _, _, rfl, h.1, by omega, endD_of hQ⟩
/-! ### the source of numbers -/
abbrev srcD (x y z : Int) : MO := .lst [.int x, .int y, .int z]
abbrev SrcOk (x y z : Int) : Prop := 0 ≤ x ∧ 0 ≤ y ∧ 0 ≤ z
/-- a source stands at a -/
def Src (M : MH) (a : Addr) : Prop := ∃ x y z : Int, M a = some (srcD x y z) ∧ SrcOk x y z
/-- .. and M' is M but for the numbers of the source at a -/
def SrcTo (a : Addr) (M M' : MH) : Prop := ∃ x y z : Int, M' = updM M a (srcD x y z) ∧ SrcOk x y z
theorem SrcTo.src {a : Addr} {M M' : MH} (h : SrcTo a M M') : Src M' a := by
  obtain ⟨x, y, z, rfl, h⟩ := h
  exact ⟨x, y, z, updM_same, h⟩
theorem SrcTo.trans {a : Addr} {M M1 M2 : MH} (h : SrcTo a M M1) (g : SrcTo a M1 M2) : SrcTo a M M2 := by
  obtain ⟨x, y, z, rfl, h⟩ := h
  obtain ⟨x2, y2, z2, rfl, h2⟩ := g
  exact ⟨x2, y2, z2, updM_updM, h2⟩
theorem SrcTo.at {a b : Addr} {M M' : MH} (h : SrcTo a M M') (n : b ≠ a) : M' b = M b := by
  obtain ⟨x, y, z, rfl, h⟩ := h
  exact updM_ne n
theorem Src.refl {a : Addr} {M : MH} (h : Src M a) : SrcTo a M M := by
  obtain ⟨x, y, z, e, h⟩ := h
  refine ⟨x, y, z, ?_, h⟩
  funext b
  by_cases q : b = a
  · subst q
    rw [updM_same, e]
  · rw [updM_ne q]
abbrev sp_source_of : SpD := fun ds M Q => ∃ n : Int, ds = [.int n] ∧ ∀ a x y z, M a = none → SrcOk x y z → Q (.ref a) (updM M a (srcD x y z))
theorem ok__law_source_of (T : Txt K mg C_Kind) : FnD P w K mg base 1 "_law_source_of" s__law_source_of ["_law_cell"] (sp_source_of) := by
  refine fn_mk T.h__law_source_of sc__law_source_of 1 rfl (by intro ds M Q h; first | (obtain ⟨rfl, _⟩ := h; rfl) | (obtain ⟨_, rfl, _⟩ := h; rfl) | (obtain ⟨_, _, rfl, _⟩ := h; rfl) | (obtain ⟨_, _, _, rfl, _⟩ := h; rfl) | (obtain ⟨_, _, _, _, rfl, _⟩ := h; rfl) | (obtain ⟨_, _, _, _, _, rfl, _⟩ := h; rfl) | (obtain ⟨_, _, _, _, _, _, rfl, _⟩ := h; rfl) | (obtain ⟨_, _, _, _, _, _, _, rfl, _⟩ := h; rfl) | (obtain ⟨_, _, _, _, _, _, _, _, rfl, _⟩ := h; rfl) | (obtain ⟨_, _, _, _, _, _, _, _, _, rfl, _⟩ := h; rfl) | (obtain ⟨_, _, _, _, _, _, _, _, _, _, rfl, _⟩ := h; rfl) | (obtain ⟨_, _, _, _, _, _, _, _, _, _, _, rfl, _⟩ := h; rfl) | (obtain ⟨_, _, _, _, _, _, _, _, _, _, _, _, rfl, _⟩ := h; rfl)) (fun f cdv A outer s H E hr => ⟨_, (dss_cons (ds_set (i := 0) sc__law_source_of.nd (de_cut (de_if (dt_cmp od_ge (dv 0) de_int) (dv 0) (de_op od_sub (de_op od_sub de_int (de_op (od_mul false) de_int (dv 0))) de_int))))
    (dss_one (ds_ret (de_lst true (da_cons (de_op (od_mul false) (dv 0) (de_ct cd_int (by rfl) T.b_int (by decide +kernel) (da_cons (de_cmp od_ge (dv 0) (de_op od_pow de_int de_int)) da_nil))) (da_cons (de_op od_mod (de_ct cd_int (by rfl) T.b_int (by decide +kernel) (da_cons (dv 0) da_nil)) de_int) (da_cons de_int da_nil))))))), ?_⟩)
  rintro ds M Q ⟨n, rfl, hQ⟩
  (try simp only [dLcM, w_isiM, rReverseD, dMinDef, rInDic, rNotInDic, dIRL, dCallC, dCallG, dConsL, dLam, atDs, dCallV, dgU, dSortI, dIItems, dDicM, dDc, dLenSet, itemsD, w_lrg, w_index, w_sortQ, dCut, dDGet, dDGet1, dDGet2, dDPut, dPairs, w_disp, w_newDF, w_newDT, dec_self, List.map_cons, List.map_nil, eqD_bl, eqD_int, eqD_str, eqD_tup, eqD_lst, eqDs_nil, eqDs_nc, eqDs_cn, eqDs_cons, reduceIte, Bool.false_eq_true, Bool.not_true, Bool.not_false, decide_true, decide_false, dVar, atD, setD, startD, dC, dOp, dAnd, dOr, dNot, dIf, dUn, dNil, dCons, dTup, dLst, rInD, rNotInD, dNoPart, dPart, dRev, dFld, DL.fieldsOf, dCB, dNext, dSeq, dBreak, dCont, dDrop, dRet, dRetN, dIfS, dNever, dgN, dgNil, dgCons, dgSub, dAsg, dPar, dPar3, putD, dSetF, dMt, rAppendD, rPopD, rExtendD, lsT, lsR, lsF, itemsR, dFrz, dCall, dCallK, dMeth, dMake, dFor, dIL, dIT, dIR1, dIR2, dIE, dIZ, wipeD, dYes, dLc, dDic0, updM_same, cxOf, asBl_bl, asInt_int, asTup_tup, isN, w_test, w_chain, w_andV, w_orV, w_notV, w_neg, w_sub, w_div, w_mod, w_pow, w_shl, w_shr, w_and, w_or, w_xor, w_lt, w_le, w_gt, w_ge, w_add, w_addS, w_addT, w_addL, w_addF, w_addR, w_mul, w_mulL, w_eq, w_ne, w_isN, w_isB, w_isntN, w_isntB, w_ix, w_isi, w_abs, w_max2, w_min2, w_max1L, w_min1L, w_sum, w_all, w_any, w_len, w_int, w_intB, w_divmod, w_sorted, w_list, w_bits, w_sl, w_slL, w_slF, w_slR, w_slT, w_newF, w_newT, w_eqL, w_eqT, w_eqR, w_neL, w_neT, w_neR, w_dgT, w_derL, w_derT, w_derB, w_derI, w_derN, w_derS, w_eqSS, w_eqBB, w_neSS, w_neBB, w_eqBI, w_eqIN, w_neIN, w_eqNI, w_neNI, w_eqNN, w_neNN, w_NN, w_NI, w_IN])
  obtain ⟨c, hc, hn⟩ : ∃ c : Int, 0 ≤ c ∧ (if 0 ≤ n then n else 0 - 3 * n - 1) = c := by
    refine ⟨_, ?_, rfl⟩
    split <;> omega
  refine cutE_is (.int c) ?_ ?_
  · (try simp only [dLcM, w_isiM, rReverseD, dMinDef, rInDic, rNotInDic, dIRL, dCallC, dCallG, dConsL, dLam, atDs, dCallV, dgU, dSortI, dIItems, dDicM, dDc, dLenSet, itemsD, w_lrg, w_index, w_sortQ, dCut, dDGet, dDGet1, dDGet2, dDPut, dPairs, w_disp, w_newDF, w_newDT, dec_self, List.map_cons, List.map_nil, eqD_bl, eqD_int, eqD_str, eqD_tup, eqD_lst, eqDs_nil, eqDs_nc, eqDs_cn, eqDs_cons, reduceIte, Bool.false_eq_true, Bool.not_true, Bool.not_false, decide_true, decide_false, dVar, atD, setD, startD, dC, dOp, dAnd, dOr, dNot, dIf, dUn, dNil, dCons, dTup, dLst, rInD, rNotInD, dNoPart, dPart, dRev, dFld, DL.fieldsOf, dCB, dNext, dSeq, dBreak, dCont, dDrop, dRet, dRetN, dIfS, dNever, dgN, dgNil, dgCons, dgSub, dAsg, dPar, dPar3, putD, dSetF, dMt, rAppendD, rPopD, rExtendD, lsT, lsR, lsF, itemsR, dFrz, dCall, dCallK, dMeth, dMake, dFor, dIL, dIT, dIR1, dIR2, dIE, dIZ, wipeD, dYes, dLc, dDic0, updM_same, cxOf, asBl_bl, asInt_int, asTup_tup, isN, w_test, w_chain, w_andV, w_orV, w_notV, w_neg, w_sub, w_div, w_mod, w_pow, w_shl, w_shr, w_and, w_or, w_xor, w_lt, w_le, w_gt, w_ge, w_add, w_addS, w_addT, w_addL, w_addF, w_addR, w_mul, w_mulL, w_eq, w_ne, w_isN, w_isB, w_isntN, w_isntB, w_ix, w_isi, w_abs, w_max2, w_min2, w_max1L, w_min1L, w_sum, w_all, w_any, w_len, w_int, w_intB, w_divmod, w_sorted, w_list, w_bits, w_sl, w_slL, w_slF, w_slR, w_slT, w_newF, w_newT, w_eqL, w_eqT, w_eqR, w_neL, w_neT, w_neR, w_dgT, w_derL, w_derT, w_derB, w_derI, w_derN, w_derS, w_eqSS, w_eqBB, w_neSS, w_neBB, w_eqBI, w_eqIN, w_neIN, w_eqNI, w_neNI, w_eqNN, w_neNN, w_NN, w_NI, w_IN])
    by_cases h : 0 ≤ n
    · rw [if_pos h] at hn
      simp only [h]
      (try simp only [dLcM, w_isiM, rReverseD, dMinDef, rInDic, rNotInDic, dIRL, dCallC, dCallG, dConsL, dLam, atDs, dCallV, dgU, dSortI, dIItems, dDicM, dDc, dLenSet, itemsD, w_lrg, w_index, w_sortQ, dCut, dDGet, dDGet1, dDGet2, dDPut, dPairs, w_disp, w_newDF, w_newDT, dec_self, List.map_cons, List.map_nil, eqD_bl, eqD_int, eqD_str, eqD_tup, eqD_lst, eqDs_nil, eqDs_nc, eqDs_cn, eqDs_cons, reduceIte, Bool.false_eq_true, Bool.not_true, Bool.not_false, decide_true, decide_false, dVar, atD, setD, startD, dC, dOp, dAnd, dOr, dNot, dIf, dUn, dNil, dCons, dTup, dLst, rInD, rNotInD, dNoPart, dPart, dRev, dFld, DL.fieldsOf, dCB, dNext, dSeq, dBreak, dCont, dDrop, dRet, dRetN, dIfS, dNever, dgN, dgNil, dgCons, dgSub, dAsg, dPar, dPar3, putD, dSetF, dMt, rAppendD, rPopD, rExtendD, lsT, lsR, lsF, itemsR, dFrz, dCall, dCallK, dMeth, dMake, dFor, dIL, dIT, dIR1, dIR2, dIE, dIZ, wipeD, dYes, dLc, dDic0, updM_same, cxOf, asBl_bl, asInt_int, asTup_tup, isN, w_test, w_chain, w_andV, w_orV, w_notV, w_neg, w_sub, w_div, w_mod, w_pow, w_shl, w_shr, w_and, w_or, w_xor, w_lt, w_le, w_gt, w_ge, w_add, w_addS, w_addT, w_addL, w_addF, w_addR, w_mul, w_mulL, w_eq, w_ne, w_isN, w_isB, w_isntN, w_isntB, w_ix, w_isi, w_abs, w_max2, w_min2, w_max1L, w_min1L, w_sum, w_all, w_any, w_len, w_int, w_intB, w_divmod, w_sorted, w_list, w_bits, w_sl, w_slL, w_slF, w_slR, w_slT, w_newF, w_newT, w_eqL, w_eqT, w_eqR, w_neL, w_neT, w_neR, w_dgT, w_derL, w_derT, w_derB, w_derI, w_derN, w_derS, w_eqSS, w_eqBB, w_neSS, w_neBB, w_eqBI, w_eqIN, w_neIN, w_eqNI, w_neNI, w_eqNN, w_neNN, w_NN, w_NI, w_IN])
      rw [hn]
      trivial
    · rw [if_neg h] at hn
      simp only [h]
      (try simp only [dLcM, w_isiM, rReverseD, dMinDef, rInDic, rNotInDic, dIRL, dCallC, dCallG, dConsL, dLam, atDs, dCallV, dgU, dSortI, dIItems, dDicM, dDc, dLenSet, itemsD, w_lrg, w_index, w_sortQ, dCut, dDGet, dDGet1, dDGet2, dDPut, dPairs, w_disp, w_newDF, w_newDT, dec_self, List.map_cons, List.map_nil, eqD_bl, eqD_int, eqD_str, eqD_tup, eqD_lst, eqDs_nil, eqDs_nc, eqDs_cn, eqDs_cons, reduceIte, Bool.false_eq_true, Bool.not_true, Bool.not_false, decide_true, decide_false, dVar, atD, setD, startD, dC, dOp, dAnd, dOr, dNot, dIf, dUn, dNil, dCons, dTup, dLst, rInD, rNotInD, dNoPart, dPart, dRev, dFld, DL.fieldsOf, dCB, dNext, dSeq, dBreak, dCont, dDrop, dRet, dRetN, dIfS, dNever, dgN, dgNil, dgCons, dgSub, dAsg, dPar, dPar3, putD, dSetF, dMt, rAppendD, rPopD, rExtendD, lsT, lsR, lsF, itemsR, dFrz, dCall, dCallK, dMeth, dMake, dFor, dIL, dIT, dIR1, dIR2, dIE, dIZ, wipeD, dYes, dLc, dDic0, updM_same, cxOf, asBl_bl, asInt_int, asTup_tup, isN, w_test, w_chain, w_andV, w_orV, w_notV, w_neg, w_sub, w_div, w_mod, w_pow, w_shl, w_shr, w_and, w_or, w_xor, w_lt, w_le, w_gt, w_ge, w_add, w_addS, w_addT, w_addL, w_addF, w_addR, w_mul, w_mulL, w_eq, w_ne, w_isN, w_isB, w_isntN, w_isntB, w_ix, w_isi, w_abs, w_max2, w_min2, w_max1L, w_min1L, w_sum, w_all, w_any, w_len, w_int, w_intB, w_divmod, w_sorted, w_list, w_bits, w_sl, w_slL, w_slF, w_slR, w_slT, w_newF, w_newT, w_eqL, w_eqT, w_eqR, w_neL, w_neT, w_neR, w_dgT, w_derL, w_derT, w_derB, w_derI, w_derN, w_derS, w_eqSS, w_eqBB, w_neSS, w_neBB, w_eqBI, w_eqIN, w_neIN, w_eqNI, w_neNI, w_eqNN, w_neNN, w_NN, w_NI, w_IN])
      refine ⟨mulOk_l (by decide), ?_⟩
      (try simp only [dLcM, w_isiM, rReverseD, dMinDef, rInDic, rNotInDic, dIRL, dCallC, dCallG, dConsL, dLam, atDs, dCallV, dgU, dSortI, dIItems, dDicM, dDc, dLenSet, itemsD, w_lrg, w_index, w_sortQ, dCut, dDGet, dDGet1, dDGet2, dDPut, dPairs, w_disp, w_newDF, w_newDT, dec_self, List.map_cons, List.map_nil, eqD_bl, eqD_int, eqD_str, eqD_tup, eqD_lst, eqDs_nil, eqDs_nc, eqDs_cn, eqDs_cons, reduceIte, Bool.false_eq_true, Bool.not_true, Bool.not_false, decide_true, decide_false, dVar, atD, setD, startD, dC, dOp, dAnd, dOr, dNot, dIf, dUn, dNil, dCons, dTup, dLst, rInD, rNotInD, dNoPart, dPart, dRev, dFld, DL.fieldsOf, dCB, dNext, dSeq, dBreak, dCont, dDrop, dRet, dRetN, dIfS, dNever, dgN, dgNil, dgCons, dgSub, dAsg, dPar, dPar3, putD, dSetF, dMt, rAppendD, rPopD, rExtendD, lsT, lsR, lsF, itemsR, dFrz, dCall, dCallK, dMeth, dMake, dFor, dIL, dIT, dIR1, dIR2, dIE, dIZ, wipeD, dYes, dLc, dDic0, updM_same, cxOf, asBl_bl, asInt_int, asTup_tup, isN, w_test, w_chain, w_andV, w_orV, w_notV, w_neg, w_sub, w_div, w_mod, w_pow, w_shl, w_shr, w_and, w_or, w_xor, w_lt, w_le, w_gt, w_ge, w_add, w_addS, w_addT, w_addL, w_addF, w_addR, w_mul, w_mulL, w_eq, w_ne, w_isN, w_isB, w_isntN, w_isntB, w_ix, w_isi, w_abs, w_max2, w_min2, w_max1L, w_min1L, w_sum, w_all, w_any, w_len, w_int, w_intB, w_divmod, w_sorted, w_list, w_bits, w_sl, w_slL, w_slF, w_slR, w_slT, w_newF, w_newT, w_eqL, w_eqT, w_eqR, w_neL, w_neT, w_neR, w_dgT, w_derL, w_derT, w_derB, w_derI, w_derN, w_derS, w_eqSS, w_eqBB, w_neSS, w_neBB, w_eqBI, w_eqIN, w_neIN, w_eqNI, w_neNI, w_eqNN, w_neNN, w_NN, w_NI, w_IN])
      rw [hn]
      trivial
  (try simp only [dLcM, w_isiM, rReverseD, dMinDef, rInDic, rNotInDic, dIRL, dCallC, dCallG, dConsL, dLam, atDs, dCallV, dgU, dSortI, dIItems, dDicM, dDc, dLenSet, itemsD, w_lrg, w_index, w_sortQ, dCut, dDGet, dDGet1, dDGet2, dDPut, dPairs, w_disp, w_newDF, w_newDT, dec_self, List.map_cons, List.map_nil, eqD_bl, eqD_int, eqD_str, eqD_tup, eqD_lst, eqDs_nil, eqDs_nc, eqDs_cn, eqDs_cons, reduceIte, Bool.false_eq_true, Bool.not_true, Bool.not_false, decide_true, decide_false, dVar, atD, setD, startD, dC, dOp, dAnd, dOr, dNot, dIf, dUn, dNil, dCons, dTup, dLst, rInD, rNotInD, dNoPart, dPart, dRev, dFld, DL.fieldsOf, dCB, dNext, dSeq, dBreak, dCont, dDrop, dRet, dRetN, dIfS, dNever, dgN, dgNil, dgCons, dgSub, dAsg, dPar, dPar3, putD, dSetF, dMt, rAppendD, rPopD, rExtendD, lsT, lsR, lsF, itemsR, dFrz, dCall, dCallK, dMeth, dMake, dFor, dIL, dIT, dIR1, dIR2, dIE, dIZ, wipeD, dYes, dLc, dDic0, updM_same, cxOf, asBl_bl, asInt_int, asTup_tup, isN, w_test, w_chain, w_andV, w_orV, w_notV, w_neg, w_sub, w_div, w_mod, w_pow, w_shl, w_shr, w_and, w_or, w_xor, w_lt, w_le, w_gt, w_ge, w_add, w_addS, w_addT, w_addL, w_addF, w_addR, w_mul, w_mulL, w_eq, w_ne, w_isN, w_isB, w_isntN, w_isntB, w_ix, w_isi, w_abs, w_max2, w_min2, w_max1L, w_min1L, w_sum, w_all, w_any, w_len, w_int, w_intB, w_divmod, w_sorted, w_list, w_bits, w_sl, w_slL, w_slF, w_slR, w_slT, w_newF, w_newT, w_eqL, w_eqT, w_eqR, w_neL, w_neT, w_neR, w_dgT, w_derL, w_derT, w_derB, w_derI, w_derN, w_derS, w_eqSS, w_eqBB, w_neSS, w_neBB, w_eqBI, w_eqIN, w_neIN, w_eqNI, w_neNI, w_eqNN, w_neNN, w_NN, w_NI, w_IN])
  refine ⟨⟨by decide, by decide +kernel⟩, ?_⟩
  (try simp only [dLcM, w_isiM, rReverseD, dMinDef, rInDic, rNotInDic, dIRL, dCallC, dCallG, dConsL, dLam, atDs, dCallV, dgU, dSortI, dIItems, dDicM, dDc, dLenSet, itemsD, w_lrg, w_index, w_sortQ, dCut, dDGet, dDGet1, dDGet2, dDPut, dPairs, w_disp, w_newDF, w_newDT, dec_self, List.map_cons, List.map_nil, eqD_bl, eqD_int, eqD_str, eqD_tup, eqD_lst, eqDs_nil, eqDs_nc, eqDs_cn, eqDs_cons, reduceIte, Bool.false_eq_true, Bool.not_true, Bool.not_false, decide_true, decide_false, dVar, atD, setD, startD, dC, dOp, dAnd, dOr, dNot, dIf, dUn, dNil, dCons, dTup, dLst, rInD, rNotInD, dNoPart, dPart, dRev, dFld, DL.fieldsOf, dCB, dNext, dSeq, dBreak, dCont, dDrop, dRet, dRetN, dIfS, dNever, dgN, dgNil, dgCons, dgSub, dAsg, dPar, dPar3, putD, dSetF, dMt, rAppendD, rPopD, rExtendD, lsT, lsR, lsF, itemsR, dFrz, dCall, dCallK, dMeth, dMake, dFor, dIL, dIT, dIR1, dIR2, dIE, dIZ, wipeD, dYes, dLc, dDic0, updM_same, cxOf, asBl_bl, asInt_int, asTup_tup, isN, w_test, w_chain, w_andV, w_orV, w_notV, w_neg, w_sub, w_div, w_mod, w_pow, w_shl, w_shr, w_and, w_or, w_xor, w_lt, w_le, w_gt, w_ge, w_add, w_addS, w_addT, w_addL, w_addF, w_addR, w_mul, w_mulL, w_eq, w_ne, w_isN, w_isB, w_isntN, w_isntB, w_ix, w_isi, w_abs, w_max2, w_min2, w_max1L, w_min1L, w_sum, w_all, w_any, w_len, w_int, w_intB, w_divmod, w_sorted, w_list, w_bits, w_sl, w_slL, w_slF, w_slR, w_slT, w_newF, w_newT, w_eqL, w_eqT, w_eqR, w_neL, w_neT, w_neR, w_dgT, w_derL, w_derT, w_derB, w_derI, w_derN, w_derS, w_eqSS, w_eqBB, w_neSS, w_neBB, w_eqBI, w_eqIN, w_neIN, w_eqNI, w_neNI, w_eqNN, w_neNN, w_NN, w_NI, w_IN])
  refine ⟨mulOk_r (by split <;> decide), ?_⟩
  (try simp only [dLcM, w_isiM, rReverseD, dMinDef, rInDic, rNotInDic, dIRL, dCallC, dCallG, dConsL, dLam, atDs, dCallV, dgU, dSortI, dIItems, dDicM, dDc, dLenSet, itemsD, w_lrg, w_index, w_sortQ, dCut, dDGet, dDGet1, dDGet2, dDPut, dPairs, w_disp, w_newDF, w_newDT, dec_self, List.map_cons, List.map_nil, eqD_bl, eqD_int, eqD_str, eqD_tup, eqD_lst, eqDs_nil, eqDs_nc, eqDs_cn, eqDs_cons, reduceIte, Bool.false_eq_true, Bool.not_true, Bool.not_false, decide_true, decide_false, dVar, atD, setD, startD, dC, dOp, dAnd, dOr, dNot, dIf, dUn, dNil, dCons, dTup, dLst, rInD, rNotInD, dNoPart, dPart, dRev, dFld, DL.fieldsOf, dCB, dNext, dSeq, dBreak, dCont, dDrop, dRet, dRetN, dIfS, dNever, dgN, dgNil, dgCons, dgSub, dAsg, dPar, dPar3, putD, dSetF, dMt, rAppendD, rPopD, rExtendD, lsT, lsR, lsF, itemsR, dFrz, dCall, dCallK, dMeth, dMake, dFor, dIL, dIT, dIR1, dIR2, dIE, dIZ, wipeD, dYes, dLc, dDic0, updM_same, cxOf, asBl_bl, asInt_int, asTup_tup, isN, w_test, w_chain, w_andV, w_orV, w_notV, w_neg, w_sub, w_div, w_mod, w_pow, w_shl, w_shr, w_and, w_or, w_xor, w_lt, w_le, w_gt, w_ge, w_add, w_addS, w_addT, w_addL, w_addF, w_addR, w_mul, w_mulL, w_eq, w_ne, w_isN, w_isB, w_isntN, w_isntB, w_ix, w_isi, w_abs, w_max2, w_min2, w_max1L, w_min1L, w_sum, w_all, w_any, w_len, w_int, w_intB, w_divmod, w_sorted, w_list, w_bits, w_sl, w_slL, w_slF, w_slR, w_slT, w_newF, w_newT, w_eqL, w_eqT, w_eqR, w_neL, w_neT, w_neR, w_dgT, w_derL, w_derT, w_derB, w_derI, w_derN, w_derS, w_eqSS, w_eqBB, w_neSS, w_neBB, w_eqBI, w_eqIN, w_neIN, w_eqNI, w_neNI, w_eqNN, w_neNN, w_NN, w_NI, w_IN])
  refine ⟨by decide, ?_⟩
  (try simp only [dLcM, w_isiM, rReverseD, dMinDef, rInDic, rNotInDic, dIRL, dCallC, dCallG, dConsL, dLam, atDs, dCallV, dgU, dSortI, dIItems, dDicM, dDc, dLenSet, itemsD, w_lrg, w_index, w_sortQ, dCut, dDGet, dDGet1, dDGet2, dDPut, dPairs, w_disp, w_newDF, w_newDT, dec_self, List.map_cons, List.map_nil, eqD_bl, eqD_int, eqD_str, eqD_tup, eqD_lst, eqDs_nil, eqDs_nc, eqDs_cn, eqDs_cons, reduceIte, Bool.false_eq_true, Bool.not_true, Bool.not_false, decide_true, decide_false, dVar, atD, setD, startD, dC, dOp, dAnd, dOr, dNot, dIf, dUn, dNil, dCons, dTup, dLst, rInD, rNotInD, dNoPart, dPart, dRev, dFld, DL.fieldsOf, dCB, dNext, dSeq, dBreak, dCont, dDrop, dRet, dRetN, dIfS, dNever, dgN, dgNil, dgCons, dgSub, dAsg, dPar, dPar3, putD, dSetF, dMt, rAppendD, rPopD, rExtendD, lsT, lsR, lsF, itemsR, dFrz, dCall, dCallK, dMeth, dMake, dFor, dIL, dIT, dIR1, dIR2, dIE, dIZ, wipeD, dYes, dLc, dDic0, updM_same, cxOf, asBl_bl, asInt_int, asTup_tup, isN, w_test, w_chain, w_andV, w_orV, w_notV, w_neg, w_sub, w_div, w_mod, w_pow, w_shl, w_shr, w_and, w_or, w_xor, w_lt, w_le, w_gt, w_ge, w_add, w_addS, w_addT, w_addL, w_addF, w_addR, w_mul, w_mulL, w_eq, w_ne, w_isN, w_isB, w_isntN, w_isntB, w_ix, w_isi, w_abs, w_max2, w_min2, w_max1L, w_min1L, w_sum, w_all, w_any, w_len, w_int, w_intB, w_divmod, w_sorted, w_list, w_bits, w_sl, w_slL, w_slF, w_slR, w_slT, w_newF, w_newT, w_eqL, w_eqT, w_eqR, w_neL, w_neT, w_neR, w_dgT, w_derL, w_derT, w_derB, w_derI, w_derN, w_derS, w_eqSS, w_eqBB, w_neSS, w_neBB, w_eqBI, w_eqIN, w_neIN, w_eqNI, w_neNI, w_eqNN, w_neNN, w_NN, w_NI, w_IN])
  refine ⟨by show 3 ≤ _; decide, fun a ha => endD_of ?_⟩
  refine hQ a _ _ _ ha ⟨?_, ?_, by decide⟩
  · split
    · omega
    · omega
  · rw [fmodP (by decide)]
    exact Int.emod_nonneg _ (by decide)
abbrev sp_next : SpD := fun ds M Q => ∃ (a : Addr) (m : Int), ds = [.ref a, .int m] ∧ Src M a ∧ 0 < m ∧ m < 2 ^ 9000 ∧ ∀ (r : Int) M', 0 ≤ r → r < m → SrcTo a M M' → Q (.int r) M'
theorem ok__law_next (T : Txt K mg C_Kind) : FnD P w K mg base 1 "_law_next" s__law_next ["_law_source", "_law_many"] (sp_next) := by
  refine fn_mk T.h__law_next sc__law_next 5 rfl (by intro ds M Q h; first | (obtain ⟨rfl, _⟩ := h; rfl) | (obtain ⟨_, rfl, _⟩ := h; rfl) | (obtain ⟨_, _, rfl, _⟩ := h; rfl) | (obtain ⟨_, _, _, rfl, _⟩ := h; rfl) | (obtain ⟨_, _, _, _, rfl, _⟩ := h; rfl) | (obtain ⟨_, _, _, _, _, rfl, _⟩ := h; rfl) | (obtain ⟨_, _, _, _, _, _, rfl, _⟩ := h; rfl) | (obtain ⟨_, _, _, _, _, _, _, rfl, _⟩ := h; rfl) | (obtain ⟨_, _, _, _, _, _, _, _, rfl, _⟩ := h; rfl) | (obtain ⟨_, _, _, _, _, _, _, _, _, rfl, _⟩ := h; rfl) | (obtain ⟨_, _, _, _, _, _, _, _, _, _, rfl, _⟩ := h; rfl) | (obtain ⟨_, _, _, _, _, _, _, _, _, _, _, rfl, _⟩ := h; rfl) | (obtain ⟨_, _, _, _, _, _, _, _, _, _, _, _, rfl, _⟩ := h; rfl)) (fun f cdv A outer s H E hr => ⟨_, (dss_cons (ds_if (dt_cmp od_gt (de_ix (dv 0) de_int) de_int)
    (dss_cons (ds_set (i := 2) sc__law_next.nd (de_op od_mod (de_ct cd_int (by rfl) T.b_int (by decide +kernel) (da_cons (de_ix (dv 0) de_int) da_nil)) (dv 1)))
    (dss_cons (ds_asg (de_op od_div (de_ix (dv 0) de_int) (dv 1)) (dg_sub (dv 0) de_int))
    (dss_one (ds_ret (dv 2)))))
    dss_nil)
    (dss_cons (ds_asg (de_op (od_add false) (de_ix (dv 0) de_int) de_int) (dg_sub (dv 0) de_int))
    (dss_cons (ds_set (i := 3) sc__law_next.nd de_int)
    (dss_cons (ds_set (i := 4) sc__law_next.nd (de_op od_mod (de_ct cd_int (by rfl) T.b_int (by decide +kernel) (da_cons (de_op (od_add false) (de_op (od_add false) (de_ix (dv 0) de_int) (de_op (od_mul false) de_int (de_ix (dv 0) de_int))) de_int) da_nil)) (dv 3)))
    (dss_cons (ds_set (i := 4) sc__law_next.nd (de_op od_mod (de_ct cd_int (by rfl) T.b_int (by decide +kernel) (da_cons (de_op (od_mul false) (dv 4) de_int) da_nil)) (dv 3)))
    (dss_cons (ds_set (i := 4) sc__law_next.nd (de_op od_mod (de_ct cd_int (by rfl) T.b_int (by decide +kernel) (da_cons (de_op (od_mul false) (dv 4) (de_op (od_add false) (de_op od_div (dv 4) de_int) de_int)) da_nil)) (dv 3)))
    (dss_cons (ds_set (i := 4) sc__law_next.nd (de_op od_mod (de_ct cd_int (by rfl) T.b_int (by decide +kernel) (da_cons (de_op (od_mul false) (dv 4) (de_op (od_add false) (de_op od_div (dv 4) de_int) de_int)) da_nil)) de_int))
    (dss_one (ds_ret (de_op od_mod (de_ct cd_int (by rfl) T.b_int (by decide +kernel) (da_cons (de_op od_div (dv 4) de_int) da_nil)) (dv 1))))))))))), ?_⟩)
  rintro ds M Q ⟨a, m, rfl, ⟨x, y, z, hM, hx, hy, hz⟩, hm, hb, hQ⟩
  (try simp only [dLcM, w_isiM, rReverseD, dMinDef, rInDic, rNotInDic, dIRL, dCallC, dCallG, dConsL, dLam, atDs, dCallV, dgU, dSortI, dIItems, dDicM, dDc, dLenSet, itemsD, w_lrg, w_index, w_sortQ, dCut, dDGet, dDGet1, dDGet2, dDPut, dPairs, w_disp, w_newDF, w_newDT, dec_self, List.map_cons, List.map_nil, eqD_bl, eqD_int, eqD_str, eqD_tup, eqD_lst, eqDs_nil, eqDs_nc, eqDs_cn, eqDs_cons, reduceIte, Bool.false_eq_true, Bool.not_true, Bool.not_false, decide_true, decide_false, dVar, atD, setD, startD, dC, dOp, dAnd, dOr, dNot, dIf, dUn, dNil, dCons, dTup, dLst, rInD, rNotInD, dNoPart, dPart, dRev, dFld, DL.fieldsOf, dCB, dNext, dSeq, dBreak, dCont, dDrop, dRet, dRetN, dIfS, dNever, dgN, dgNil, dgCons, dgSub, dAsg, dPar, dPar3, putD, dSetF, dMt, rAppendD, rPopD, rExtendD, lsT, lsR, lsF, itemsR, dFrz, dCall, dCallK, dMeth, dMake, dFor, dIL, dIT, dIR1, dIR2, dIE, dIZ, wipeD, dYes, dLc, dDic0, updM_same, cxOf, asBl_bl, asInt_int, asTup_tup, isN, w_test, w_chain, w_andV, w_orV, w_notV, w_neg, w_sub, w_div, w_mod, w_pow, w_shl, w_shr, w_and, w_or, w_xor, w_lt, w_le, w_gt, w_ge, w_add, w_addS, w_addT, w_addL, w_addF, w_addR, w_mul, w_mulL, w_eq, w_ne, w_isN, w_isB, w_isntN, w_isntB, w_ix, w_isi, w_abs, w_max2, w_min2, w_max1L, w_min1L, w_sum, w_all, w_any, w_len, w_int, w_intB, w_divmod, w_sorted, w_list, w_bits, w_sl, w_slL, w_slF, w_slR, w_slT, w_newF, w_newT, w_eqL, w_eqT, w_eqR, w_neL, w_neT, w_neR, w_dgT, w_derL, w_derT, w_derB, w_derI, w_derN, w_derS, w_eqSS, w_eqBB, w_neSS, w_neBB, w_eqBI, w_eqIN, w_neIN, w_eqNI, w_neNI, w_eqNN, w_neNN, w_NN, w_NI, w_IN])
  refine ⟨_, _, by rw [hM], rfl, ?_⟩
  (try simp only [dLcM, w_isiM, rReverseD, dMinDef, rInDic, rNotInDic, dIRL, dCallC, dCallG, dConsL, dLam, atDs, dCallV, dgU, dSortI, dIItems, dDicM, dDc, dLenSet, itemsD, w_lrg, w_index, w_sortQ, dCut, dDGet, dDGet1, dDGet2, dDPut, dPairs, w_disp, w_newDF, w_newDT, dec_self, List.map_cons, List.map_nil, eqD_bl, eqD_int, eqD_str, eqD_tup, eqD_lst, eqDs_nil, eqDs_nc, eqDs_cn, eqDs_cons, reduceIte, Bool.false_eq_true, Bool.not_true, Bool.not_false, decide_true, decide_false, dVar, atD, setD, startD, dC, dOp, dAnd, dOr, dNot, dIf, dUn, dNil, dCons, dTup, dLst, rInD, rNotInD, dNoPart, dPart, dRev, dFld, DL.fieldsOf, dCB, dNext, dSeq, dBreak, dCont, dDrop, dRet, dRetN, dIfS, dNever, dgN, dgNil, dgCons, dgSub, dAsg, dPar, dPar3, putD, dSetF, dMt, rAppendD, rPopD, rExtendD, lsT, lsR, lsF, itemsR, dFrz, dCall, dCallK, dMeth, dMake, dFor, dIL, dIT, dIR1, dIR2, dIE, dIZ, wipeD, dYes, dLc, dDic0, updM_same, cxOf, asBl_bl, asInt_int, asTup_tup, isN, w_test, w_chain, w_andV, w_orV, w_notV, w_neg, w_sub, w_div, w_mod, w_pow, w_shl, w_shr, w_and, w_or, w_xor, w_lt, w_le, w_gt, w_ge, w_add, w_addS, w_addT, w_addL, w_addF, w_addR, w_mul, w_mulL, w_eq, w_ne, w_isN, w_isB, w_isntN, w_isntB, w_ix, w_isi, w_abs, w_max2, w_min2, w_max1L, w_min1L, w_sum, w_all, w_any, w_len, w_int, w_intB, w_divmod, w_sorted, w_list, w_bits, w_sl, w_slL, w_slF, w_slR, w_slT, w_newF, w_newT, w_eqL, w_eqT, w_eqR, w_neL, w_neT, w_neR, w_dgT, w_derL, w_derT, w_derB, w_derI, w_derN, w_derS, w_eqSS, w_eqBB, w_neSS, w_neBB, w_eqBI, w_eqIN, w_neIN, w_eqNI, w_neNI, w_eqNN, w_neNN, w_NN, w_NI, w_IN])
  have hmod : ∀ i : Int, 0 ≤ i.fmod m ∧ i.fmod m < m := fun i => by
    rw [fmodP hm]
    exact ⟨Int.emod_nonneg _ (by omega), Int.emod_lt_of_pos _ hm⟩
  by_cases h : 0 < x
  · simp only [h]
    (try simp only [dLcM, w_isiM, rReverseD, dMinDef, rInDic, rNotInDic, dIRL, dCallC, dCallG, dConsL, dLam, atDs, dCallV, dgU, dSortI, dIItems, dDicM, dDc, dLenSet, itemsD, w_lrg, w_index, w_sortQ, dCut, dDGet, dDGet1, dDGet2, dDPut, dPairs, w_disp, w_newDF, w_newDT, dec_self, List.map_cons, List.map_nil, eqD_bl, eqD_int, eqD_str, eqD_tup, eqD_lst, eqDs_nil, eqDs_nc, eqDs_cn, eqDs_cons, reduceIte, Bool.false_eq_true, Bool.not_true, Bool.not_false, decide_true, decide_false, dVar, atD, setD, startD, dC, dOp, dAnd, dOr, dNot, dIf, dUn, dNil, dCons, dTup, dLst, rInD, rNotInD, dNoPart, dPart, dRev, dFld, DL.fieldsOf, dCB, dNext, dSeq, dBreak, dCont, dDrop, dRet, dRetN, dIfS, dNever, dgN, dgNil, dgCons, dgSub, dAsg, dPar, dPar3, putD, dSetF, dMt, rAppendD, rPopD, rExtendD, lsT, lsR, lsF, itemsR, dFrz, dCall, dCallK, dMeth, dMake, dFor, dIL, dIT, dIR1, dIR2, dIE, dIZ, wipeD, dYes, dLc, dDic0, updM_same, cxOf, asBl_bl, asInt_int, asTup_tup, isN, w_test, w_chain, w_andV, w_orV, w_notV, w_neg, w_sub, w_div, w_mod, w_pow, w_shl, w_shr, w_and, w_or, w_xor, w_lt, w_le, w_gt, w_ge, w_add, w_addS, w_addT, w_addL, w_addF, w_addR, w_mul, w_mulL, w_eq, w_ne, w_isN, w_isB, w_isntN, w_isntB, w_ix, w_isi, w_abs, w_max2, w_min2, w_max1L, w_min1L, w_sum, w_all, w_any, w_len, w_int, w_intB, w_divmod, w_sorted, w_list, w_bits, w_sl, w_slL, w_slF, w_slR, w_slT, w_newF, w_newT, w_eqL, w_eqT, w_eqR, w_neL, w_neT, w_neR, w_dgT, w_derL, w_derT, w_derB, w_derI, w_derN, w_derS, w_eqSS, w_eqBB, w_neSS, w_neBB, w_eqBI, w_eqIN, w_neIN, w_eqNI, w_neNI, w_eqNN, w_neNN, w_NN, w_NI, w_IN])
    refine ⟨_, _, by rw [hM], rfl, ?_⟩
    (try simp only [dLcM, w_isiM, rReverseD, dMinDef, rInDic, rNotInDic, dIRL, dCallC, dCallG, dConsL, dLam, atDs, dCallV, dgU, dSortI, dIItems, dDicM, dDc, dLenSet, itemsD, w_lrg, w_index, w_sortQ, dCut, dDGet, dDGet1, dDGet2, dDPut, dPairs, w_disp, w_newDF, w_newDT, dec_self, List.map_cons, List.map_nil, eqD_bl, eqD_int, eqD_str, eqD_tup, eqD_lst, eqDs_nil, eqDs_nc, eqDs_cn, eqDs_cons, reduceIte, Bool.false_eq_true, Bool.not_true, Bool.not_false, decide_true, decide_false, dVar, atD, setD, startD, dC, dOp, dAnd, dOr, dNot, dIf, dUn, dNil, dCons, dTup, dLst, rInD, rNotInD, dNoPart, dPart, dRev, dFld, DL.fieldsOf, dCB, dNext, dSeq, dBreak, dCont, dDrop, dRet, dRetN, dIfS, dNever, dgN, dgNil, dgCons, dgSub, dAsg, dPar, dPar3, putD, dSetF, dMt, rAppendD, rPopD, rExtendD, lsT, lsR, lsF, itemsR, dFrz, dCall, dCallK, dMeth, dMake, dFor, dIL, dIT, dIR1, dIR2, dIE, dIZ, wipeD, dYes, dLc, dDic0, updM_same, cxOf, asBl_bl, asInt_int, asTup_tup, isN, w_test, w_chain, w_andV, w_orV, w_notV, w_neg, w_sub, w_div, w_mod, w_pow, w_shl, w_shr, w_and, w_or, w_xor, w_lt, w_le, w_gt, w_ge, w_add, w_addS, w_addT, w_addL, w_addF, w_addR, w_mul, w_mulL, w_eq, w_ne, w_isN, w_isB, w_isntN, w_isntB, w_ix, w_isi, w_abs, w_max2, w_min2, w_max1L, w_min1L, w_sum, w_all, w_any, w_len, w_int, w_intB, w_divmod, w_sorted, w_list, w_bits, w_sl, w_slL, w_slF, w_slR, w_slT, w_newF, w_newT, w_eqL, w_eqT, w_eqR, w_neL, w_neT, w_neR, w_dgT, w_derL, w_derT, w_derB, w_derI, w_derN, w_derS, w_eqSS, w_eqBB, w_neSS, w_neBB, w_eqBI, w_eqIN, w_neIN, w_eqNI, w_neNI, w_eqNN, w_neNN, w_NN, w_NI, w_IN])
    refine ⟨by omega, ?_⟩
    (try simp only [dLcM, w_isiM, rReverseD, dMinDef, rInDic, rNotInDic, dIRL, dCallC, dCallG, dConsL, dLam, atDs, dCallV, dgU, dSortI, dIItems, dDicM, dDc, dLenSet, itemsD, w_lrg, w_index, w_sortQ, dCut, dDGet, dDGet1, dDGet2, dDPut, dPairs, w_disp, w_newDF, w_newDT, dec_self, List.map_cons, List.map_nil, eqD_bl, eqD_int, eqD_str, eqD_tup, eqD_lst, eqDs_nil, eqDs_nc, eqDs_cn, eqDs_cons, reduceIte, Bool.false_eq_true, Bool.not_true, Bool.not_false, decide_true, decide_false, dVar, atD, setD, startD, dC, dOp, dAnd, dOr, dNot, dIf, dUn, dNil, dCons, dTup, dLst, rInD, rNotInD, dNoPart, dPart, dRev, dFld, DL.fieldsOf, dCB, dNext, dSeq, dBreak, dCont, dDrop, dRet, dRetN, dIfS, dNever, dgN, dgNil, dgCons, dgSub, dAsg, dPar, dPar3, putD, dSetF, dMt, rAppendD, rPopD, rExtendD, lsT, lsR, lsF, itemsR, dFrz, dCall, dCallK, dMeth, dMake, dFor, dIL, dIT, dIR1, dIR2, dIE, dIZ, wipeD, dYes, dLc, dDic0, updM_same, cxOf, asBl_bl, asInt_int, asTup_tup, isN, w_test, w_chain, w_andV, w_orV, w_notV, w_neg, w_sub, w_div, w_mod, w_pow, w_shl, w_shr, w_and, w_or, w_xor, w_lt, w_le, w_gt, w_ge, w_add, w_addS, w_addT, w_addL, w_addF, w_addR, w_mul, w_mulL, w_eq, w_ne, w_isN, w_isB, w_isntN, w_isntB, w_ix, w_isi, w_abs, w_max2, w_min2, w_max1L, w_min1L, w_sum, w_all, w_any, w_len, w_int, w_intB, w_divmod, w_sorted, w_list, w_bits, w_sl, w_slL, w_slF, w_slR, w_slT, w_newF, w_newT, w_eqL, w_eqT, w_eqR, w_neL, w_neT, w_neR, w_dgT, w_derL, w_derT, w_derB, w_derI, w_derN, w_derS, w_eqSS, w_eqBB, w_neSS, w_neBB, w_eqBI, w_eqIN, w_neIN, w_eqNI, w_neNI, w_eqNN, w_neNN, w_NN, w_NI, w_IN])
    refine ⟨_, _, by rw [hM], rfl, ?_⟩
    (try simp only [dLcM, w_isiM, rReverseD, dMinDef, rInDic, rNotInDic, dIRL, dCallC, dCallG, dConsL, dLam, atDs, dCallV, dgU, dSortI, dIItems, dDicM, dDc, dLenSet, itemsD, w_lrg, w_index, w_sortQ, dCut, dDGet, dDGet1, dDGet2, dDPut, dPairs, w_disp, w_newDF, w_newDT, dec_self, List.map_cons, List.map_nil, eqD_bl, eqD_int, eqD_str, eqD_tup, eqD_lst, eqDs_nil, eqDs_nc, eqDs_cn, eqDs_cons, reduceIte, Bool.false_eq_true, Bool.not_true, Bool.not_false, decide_true, decide_false, dVar, atD, setD, startD, dC, dOp, dAnd, dOr, dNot, dIf, dUn, dNil, dCons, dTup, dLst, rInD, rNotInD, dNoPart, dPart, dRev, dFld, DL.fieldsOf, dCB, dNext, dSeq, dBreak, dCont, dDrop, dRet, dRetN, dIfS, dNever, dgN, dgNil, dgCons, dgSub, dAsg, dPar, dPar3, putD, dSetF, dMt, rAppendD, rPopD, rExtendD, lsT, lsR, lsF, itemsR, dFrz, dCall, dCallK, dMeth, dMake, dFor, dIL, dIT, dIR1, dIR2, dIE, dIZ, wipeD, dYes, dLc, dDic0, updM_same, cxOf, asBl_bl, asInt_int, asTup_tup, isN, w_test, w_chain, w_andV, w_orV, w_notV, w_neg, w_sub, w_div, w_mod, w_pow, w_shl, w_shr, w_and, w_or, w_xor, w_lt, w_le, w_gt, w_ge, w_add, w_addS, w_addT, w_addL, w_addF, w_addR, w_mul, w_mulL, w_eq, w_ne, w_isN, w_isB, w_isntN, w_isntB, w_ix, w_isi, w_abs, w_max2, w_min2, w_max1L, w_min1L, w_sum, w_all, w_any, w_len, w_int, w_intB, w_divmod, w_sorted, w_list, w_bits, w_sl, w_slL, w_slF, w_slR, w_slT, w_newF, w_newT, w_eqL, w_eqT, w_eqR, w_neL, w_neT, w_neR, w_dgT, w_derL, w_derT, w_derB, w_derI, w_derN, w_derS, w_eqSS, w_eqBB, w_neSS, w_neBB, w_eqBI, w_eqIN, w_neIN, w_eqNI, w_neNI, w_eqNN, w_neNN, w_NN, w_NI, w_IN])
    refine ⟨divOk_b hm hb, ?_⟩
    (try simp only [dLcM, w_isiM, rReverseD, dMinDef, rInDic, rNotInDic, dIRL, dCallC, dCallG, dConsL, dLam, atDs, dCallV, dgU, dSortI, dIItems, dDicM, dDc, dLenSet, itemsD, w_lrg, w_index, w_sortQ, dCut, dDGet, dDGet1, dDGet2, dDPut, dPairs, w_disp, w_newDF, w_newDT, dec_self, List.map_cons, List.map_nil, eqD_bl, eqD_int, eqD_str, eqD_tup, eqD_lst, eqDs_nil, eqDs_nc, eqDs_cn, eqDs_cons, reduceIte, Bool.false_eq_true, Bool.not_true, Bool.not_false, decide_true, decide_false, dVar, atD, setD, startD, dC, dOp, dAnd, dOr, dNot, dIf, dUn, dNil, dCons, dTup, dLst, rInD, rNotInD, dNoPart, dPart, dRev, dFld, DL.fieldsOf, dCB, dNext, dSeq, dBreak, dCont, dDrop, dRet, dRetN, dIfS, dNever, dgN, dgNil, dgCons, dgSub, dAsg, dPar, dPar3, putD, dSetF, dMt, rAppendD, rPopD, rExtendD, lsT, lsR, lsF, itemsR, dFrz, dCall, dCallK, dMeth, dMake, dFor, dIL, dIT, dIR1, dIR2, dIE, dIZ, wipeD, dYes, dLc, dDic0, updM_same, cxOf, asBl_bl, asInt_int, asTup_tup, isN, w_test, w_chain, w_andV, w_orV, w_notV, w_neg, w_sub, w_div, w_mod, w_pow, w_shl, w_shr, w_and, w_or, w_xor, w_lt, w_le, w_gt, w_ge, w_add, w_addS, w_addT, w_addL, w_addF, w_addR, w_mul, w_mulL, w_eq, w_ne, w_isN, w_isB, w_isntN, w_isntB, w_ix, w_isi, w_abs, w_max2, w_min2, w_max1L, w_min1L, w_sum, w_all, w_any, w_len, w_int, w_intB, w_divmod, w_sorted, w_list, w_bits, w_sl, w_slL, w_slF, w_slR, w_slT, w_newF, w_newT, w_eqL, w_eqT, w_eqR, w_neL, w_neT, w_neR, w_dgT, w_derL, w_derT, w_derB, w_derI, w_derN, w_derS, w_eqSS, w_eqBB, w_neSS, w_neBB, w_eqBI, w_eqIN, w_neIN, w_eqNI, w_neNI, w_eqNN, w_neNN, w_NN, w_NI, w_IN])
    refine ⟨_, _, hM, rfl, endD_of ?_⟩
    refine hQ _ _ (hmod x).1 (hmod x).2 ⟨_, y, z, rfl, ?_, hy, hz⟩
    rw [fdivP hm]
    exact Int.ediv_nonneg hx (by omega)
  · simp only [h]
    (try simp only [dLcM, w_isiM, rReverseD, dMinDef, rInDic, rNotInDic, dIRL, dCallC, dCallG, dConsL, dLam, atDs, dCallV, dgU, dSortI, dIItems, dDicM, dDc, dLenSet, itemsD, w_lrg, w_index, w_sortQ, dCut, dDGet, dDGet1, dDGet2, dDPut, dPairs, w_disp, w_newDF, w_newDT, dec_self, List.map_cons, List.map_nil, eqD_bl, eqD_int, eqD_str, eqD_tup, eqD_lst, eqDs_nil, eqDs_nc, eqDs_cn, eqDs_cons, reduceIte, Bool.false_eq_true, Bool.not_true, Bool.not_false, decide_true, decide_false, dVar, atD, setD, startD, dC, dOp, dAnd, dOr, dNot, dIf, dUn, dNil, dCons, dTup, dLst, rInD, rNotInD, dNoPart, dPart, dRev, dFld, DL.fieldsOf, dCB, dNext, dSeq, dBreak, dCont, dDrop, dRet, dRetN, dIfS, dNever, dgN, dgNil, dgCons, dgSub, dAsg, dPar, dPar3, putD, dSetF, dMt, rAppendD, rPopD, rExtendD, lsT, lsR, lsF, itemsR, dFrz, dCall, dCallK, dMeth, dMake, dFor, dIL, dIT, dIR1, dIR2, dIE, dIZ, wipeD, dYes, dLc, dDic0, updM_same, cxOf, asBl_bl, asInt_int, asTup_tup, isN, w_test, w_chain, w_andV, w_orV, w_notV, w_neg, w_sub, w_div, w_mod, w_pow, w_shl, w_shr, w_and, w_or, w_xor, w_lt, w_le, w_gt, w_ge, w_add, w_addS, w_addT, w_addL, w_addF, w_addR, w_mul, w_mulL, w_eq, w_ne, w_isN, w_isB, w_isntN, w_isntB, w_ix, w_isi, w_abs, w_max2, w_min2, w_max1L, w_min1L, w_sum, w_all, w_any, w_len, w_int, w_intB, w_divmod, w_sorted, w_list, w_bits, w_sl, w_slL, w_slF, w_slR, w_slT, w_newF, w_newT, w_eqL, w_eqT, w_eqR, w_neL, w_neT, w_neR, w_dgT, w_derL, w_derT, w_derB, w_derI, w_derN, w_derS, w_eqSS, w_eqBB, w_neSS, w_neBB, w_eqBI, w_eqIN, w_neIN, w_eqNI, w_neNI, w_eqNN, w_neNN, w_NN, w_NI, w_IN])
    refine ⟨_, _, by rw [hM], rfl, ?_⟩
    (try simp only [dLcM, w_isiM, rReverseD, dMinDef, rInDic, rNotInDic, dIRL, dCallC, dCallG, dConsL, dLam, atDs, dCallV, dgU, dSortI, dIItems, dDicM, dDc, dLenSet, itemsD, w_lrg, w_index, w_sortQ, dCut, dDGet, dDGet1, dDGet2, dDPut, dPairs, w_disp, w_newDF, w_newDT, dec_self, List.map_cons, List.map_nil, eqD_bl, eqD_int, eqD_str, eqD_tup, eqD_lst, eqDs_nil, eqDs_nc, eqDs_cn, eqDs_cons, reduceIte, Bool.false_eq_true, Bool.not_true, Bool.not_false, decide_true, decide_false, dVar, atD, setD, startD, dC, dOp, dAnd, dOr, dNot, dIf, dUn, dNil, dCons, dTup, dLst, rInD, rNotInD, dNoPart, dPart, dRev, dFld, DL.fieldsOf, dCB, dNext, dSeq, dBreak, dCont, dDrop, dRet, dRetN, dIfS, dNever, dgN, dgNil, dgCons, dgSub, dAsg, dPar, dPar3, putD, dSetF, dMt, rAppendD, rPopD, rExtendD, lsT, lsR, lsF, itemsR, dFrz, dCall, dCallK, dMeth, dMake, dFor, dIL, dIT, dIR1, dIR2, dIE, dIZ, wipeD, dYes, dLc, dDic0, updM_same, cxOf, asBl_bl, asInt_int, asTup_tup, isN, w_test, w_chain, w_andV, w_orV, w_notV, w_neg, w_sub, w_div, w_mod, w_pow, w_shl, w_shr, w_and, w_or, w_xor, w_lt, w_le, w_gt, w_ge, w_add, w_addS, w_addT, w_addL, w_addF, w_addR, w_mul, w_mulL, w_eq, w_ne, w_isN, w_isB, w_isntN, w_isntB, w_ix, w_isi, w_abs, w_max2, w_min2, w_max1L, w_min1L, w_sum, w_all, w_any, w_len, w_int, w_intB, w_divmod, w_sorted, w_list, w_bits, w_sl, w_slL, w_slF, w_slR, w_slT, w_newF, w_newT, w_eqL, w_eqT, w_eqR, w_neL, w_neT, w_neR, w_dgT, w_derL, w_derT, w_derB, w_derI, w_derN, w_derS, w_eqSS, w_eqBB, w_neSS, w_neBB, w_eqBI, w_eqIN, w_neIN, w_eqNI, w_neNI, w_eqNN, w_neNN, w_NN, w_NI, w_IN])
    refine ⟨_, _, hM, rfl, ?_⟩
    refine ⟨_, _, rfl, rfl, _, _, rfl, rfl, ?_⟩
    (try simp only [dLcM, w_isiM, rReverseD, dMinDef, rInDic, rNotInDic, dIRL, dCallC, dCallG, dConsL, dLam, atDs, dCallV, dgU, dSortI, dIItems, dDicM, dDc, dLenSet, itemsD, w_lrg, w_index, w_sortQ, dCut, dDGet, dDGet1, dDGet2, dDPut, dPairs, w_disp, w_newDF, w_newDT, dec_self, List.map_cons, List.map_nil, eqD_bl, eqD_int, eqD_str, eqD_tup, eqD_lst, eqDs_nil, eqDs_nc, eqDs_cn, eqDs_cons, reduceIte, Bool.false_eq_true, Bool.not_true, Bool.not_false, decide_true, decide_false, dVar, atD, setD, startD, dC, dOp, dAnd, dOr, dNot, dIf, dUn, dNil, dCons, dTup, dLst, rInD, rNotInD, dNoPart, dPart, dRev, dFld, DL.fieldsOf, dCB, dNext, dSeq, dBreak, dCont, dDrop, dRet, dRetN, dIfS, dNever, dgN, dgNil, dgCons, dgSub, dAsg, dPar, dPar3, putD, dSetF, dMt, rAppendD, rPopD, rExtendD, lsT, lsR, lsF, itemsR, dFrz, dCall, dCallK, dMeth, dMake, dFor, dIL, dIT, dIR1, dIR2, dIE, dIZ, wipeD, dYes, dLc, dDic0, updM_same, cxOf, asBl_bl, asInt_int, asTup_tup, isN, w_test, w_chain, w_andV, w_orV, w_notV, w_neg, w_sub, w_div, w_mod, w_pow, w_shl, w_shr, w_and, w_or, w_xor, w_lt, w_le, w_gt, w_ge, w_add, w_addS, w_addT, w_addL, w_addF, w_addR, w_mul, w_mulL, w_eq, w_ne, w_isN, w_isB, w_isntN, w_isntB, w_ix, w_isi, w_abs, w_max2, w_min2, w_max1L, w_min1L, w_sum, w_all, w_any, w_len, w_int, w_intB, w_divmod, w_sorted, w_list, w_bits, w_sl, w_slL, w_slF, w_slR, w_slT, w_newF, w_newT, w_eqL, w_eqT, w_eqR, w_neL, w_neT, w_neR, w_dgT, w_derL, w_derT, w_derB, w_derI, w_derN, w_derS, w_eqSS, w_eqBB, w_neSS, w_neBB, w_eqBI, w_eqIN, w_neIN, w_eqNI, w_neNI, w_eqNN, w_neNN, w_NN, w_NI, w_IN])
    refine ⟨mulOk_l (by decide), ?_⟩
    (try simp only [dLcM, w_isiM, rReverseD, dMinDef, rInDic, rNotInDic, dIRL, dCallC, dCallG, dConsL, dLam, atDs, dCallV, dgU, dSortI, dIItems, dDicM, dDc, dLenSet, itemsD, w_lrg, w_index, w_sortQ, dCut, dDGet, dDGet1, dDGet2, dDPut, dPairs, w_disp, w_newDF, w_newDT, dec_self, List.map_cons, List.map_nil, eqD_bl, eqD_int, eqD_str, eqD_tup, eqD_lst, eqDs_nil, eqDs_nc, eqDs_cn, eqDs_cons, reduceIte, Bool.false_eq_true, Bool.not_true, Bool.not_false, decide_true, decide_false, dVar, atD, setD, startD, dC, dOp, dAnd, dOr, dNot, dIf, dUn, dNil, dCons, dTup, dLst, rInD, rNotInD, dNoPart, dPart, dRev, dFld, DL.fieldsOf, dCB, dNext, dSeq, dBreak, dCont, dDrop, dRet, dRetN, dIfS, dNever, dgN, dgNil, dgCons, dgSub, dAsg, dPar, dPar3, putD, dSetF, dMt, rAppendD, rPopD, rExtendD, lsT, lsR, lsF, itemsR, dFrz, dCall, dCallK, dMeth, dMake, dFor, dIL, dIT, dIR1, dIR2, dIE, dIZ, wipeD, dYes, dLc, dDic0, updM_same, cxOf, asBl_bl, asInt_int, asTup_tup, isN, w_test, w_chain, w_andV, w_orV, w_notV, w_neg, w_sub, w_div, w_mod, w_pow, w_shl, w_shr, w_and, w_or, w_xor, w_lt, w_le, w_gt, w_ge, w_add, w_addS, w_addT, w_addL, w_addF, w_addR, w_mul, w_mulL, w_eq, w_ne, w_isN, w_isB, w_isntN, w_isntB, w_ix, w_isi, w_abs, w_max2, w_min2, w_max1L, w_min1L, w_sum, w_all, w_any, w_len, w_int, w_intB, w_divmod, w_sorted, w_list, w_bits, w_sl, w_slL, w_slF, w_slR, w_slT, w_newF, w_newT, w_eqL, w_eqT, w_eqR, w_neL, w_neT, w_neR, w_dgT, w_derL, w_derT, w_derB, w_derI, w_derN, w_derS, w_eqSS, w_eqBB, w_neSS, w_neBB, w_eqBI, w_eqIN, w_neIN, w_eqNI, w_neNI, w_eqNN, w_neNN, w_NN, w_NI, w_IN])
    refine ⟨by decide, ?_⟩
    (try simp only [dLcM, w_isiM, rReverseD, dMinDef, rInDic, rNotInDic, dIRL, dCallC, dCallG, dConsL, dLam, atDs, dCallV, dgU, dSortI, dIItems, dDicM, dDc, dLenSet, itemsD, w_lrg, w_index, w_sortQ, dCut, dDGet, dDGet1, dDGet2, dDPut, dPairs, w_disp, w_newDF, w_newDT, dec_self, List.map_cons, List.map_nil, eqD_bl, eqD_int, eqD_str, eqD_tup, eqD_lst, eqDs_nil, eqDs_nc, eqDs_cn, eqDs_cons, reduceIte, Bool.false_eq_true, Bool.not_true, Bool.not_false, decide_true, decide_false, dVar, atD, setD, startD, dC, dOp, dAnd, dOr, dNot, dIf, dUn, dNil, dCons, dTup, dLst, rInD, rNotInD, dNoPart, dPart, dRev, dFld, DL.fieldsOf, dCB, dNext, dSeq, dBreak, dCont, dDrop, dRet, dRetN, dIfS, dNever, dgN, dgNil, dgCons, dgSub, dAsg, dPar, dPar3, putD, dSetF, dMt, rAppendD, rPopD, rExtendD, lsT, lsR, lsF, itemsR, dFrz, dCall, dCallK, dMeth, dMake, dFor, dIL, dIT, dIR1, dIR2, dIE, dIZ, wipeD, dYes, dLc, dDic0, updM_same, cxOf, asBl_bl, asInt_int, asTup_tup, isN, w_test, w_chain, w_andV, w_orV, w_notV, w_neg, w_sub, w_div, w_mod, w_pow, w_shl, w_shr, w_and, w_or, w_xor, w_lt, w_le, w_gt, w_ge, w_add, w_addS, w_addT, w_addL, w_addF, w_addR, w_mul, w_mulL, w_eq, w_ne, w_isN, w_isB, w_isntN, w_isntB, w_ix, w_isi, w_abs, w_max2, w_min2, w_max1L, w_min1L, w_sum, w_all, w_any, w_len, w_int, w_intB, w_divmod, w_sorted, w_list, w_bits, w_sl, w_slL, w_slF, w_slR, w_slT, w_newF, w_newT, w_eqL, w_eqT, w_eqR, w_neL, w_neT, w_neR, w_dgT, w_derL, w_derT, w_derB, w_derI, w_derN, w_derS, w_eqSS, w_eqBB, w_neSS, w_neBB, w_eqBI, w_eqIN, w_neIN, w_eqNI, w_neNI, w_eqNN, w_neNN, w_NN, w_NI, w_IN])
    obtain ⟨q1, h1, l1⟩ : ∃ q : Int, (y + 104729 * (z + 1) + 7919).fmod 2147483647 = q ∧ 0 ≤ q ∧ q < 2147483647 := by
      refine ⟨_, rfl, ?_⟩
      rw [fmodP (by decide)]
      omega
    rw [h1]
    refine ⟨mulOk_r (by decide), ?_⟩
    (try simp only [dLcM, w_isiM, rReverseD, dMinDef, rInDic, rNotInDic, dIRL, dCallC, dCallG, dConsL, dLam, atDs, dCallV, dgU, dSortI, dIItems, dDicM, dDc, dLenSet, itemsD, w_lrg, w_index, w_sortQ, dCut, dDGet, dDGet1, dDGet2, dDPut, dPairs, w_disp, w_newDF, w_newDT, dec_self, List.map_cons, List.map_nil, eqD_bl, eqD_int, eqD_str, eqD_tup, eqD_lst, eqDs_nil, eqDs_nc, eqDs_cn, eqDs_cons, reduceIte, Bool.false_eq_true, Bool.not_true, Bool.not_false, decide_true, decide_false, dVar, atD, setD, startD, dC, dOp, dAnd, dOr, dNot, dIf, dUn, dNil, dCons, dTup, dLst, rInD, rNotInD, dNoPart, dPart, dRev, dFld, DL.fieldsOf, dCB, dNext, dSeq, dBreak, dCont, dDrop, dRet, dRetN, dIfS, dNever, dgN, dgNil, dgCons, dgSub, dAsg, dPar, dPar3, putD, dSetF, dMt, rAppendD, rPopD, rExtendD, lsT, lsR, lsF, itemsR, dFrz, dCall, dCallK, dMeth, dMake, dFor, dIL, dIT, dIR1, dIR2, dIE, dIZ, wipeD, dYes, dLc, dDic0, updM_same, cxOf, asBl_bl, asInt_int, asTup_tup, isN, w_test, w_chain, w_andV, w_orV, w_notV, w_neg, w_sub, w_div, w_mod, w_pow, w_shl, w_shr, w_and, w_or, w_xor, w_lt, w_le, w_gt, w_ge, w_add, w_addS, w_addT, w_addL, w_addF, w_addR, w_mul, w_mulL, w_eq, w_ne, w_isN, w_isB, w_isntN, w_isntB, w_ix, w_isi, w_abs, w_max2, w_min2, w_max1L, w_min1L, w_sum, w_all, w_any, w_len, w_int, w_intB, w_divmod, w_sorted, w_list, w_bits, w_sl, w_slL, w_slF, w_slR, w_slT, w_newF, w_newT, w_eqL, w_eqT, w_eqR, w_neL, w_neT, w_neR, w_dgT, w_derL, w_derT, w_derB, w_derI, w_derN, w_derS, w_eqSS, w_eqBB, w_neSS, w_neBB, w_eqBI, w_eqIN, w_neIN, w_eqNI, w_neNI, w_eqNN, w_neNN, w_NN, w_NI, w_IN])
    refine ⟨by decide, ?_⟩
    (try simp only [dLcM, w_isiM, rReverseD, dMinDef, rInDic, rNotInDic, dIRL, dCallC, dCallG, dConsL, dLam, atDs, dCallV, dgU, dSortI, dIItems, dDicM, dDc, dLenSet, itemsD, w_lrg, w_index, w_sortQ, dCut, dDGet, dDGet1, dDGet2, dDPut, dPairs, w_disp, w_newDF, w_newDT, dec_self, List.map_cons, List.map_nil, eqD_bl, eqD_int, eqD_str, eqD_tup, eqD_lst, eqDs_nil, eqDs_nc, eqDs_cn, eqDs_cons, reduceIte, Bool.false_eq_true, Bool.not_true, Bool.not_false, decide_true, decide_false, dVar, atD, setD, startD, dC, dOp, dAnd, dOr, dNot, dIf, dUn, dNil, dCons, dTup, dLst, rInD, rNotInD, dNoPart, dPart, dRev, dFld, DL.fieldsOf, dCB, dNext, dSeq, dBreak, dCont, dDrop, dRet, dRetN, dIfS, dNever, dgN, dgNil, dgCons, dgSub, dAsg, dPar, dPar3, putD, dSetF, dMt, rAppendD, rPopD, rExtendD, lsT, lsR, lsF, itemsR, dFrz, dCall, dCallK, dMeth, dMake, dFor, dIL, dIT, dIR1, dIR2, dIE, dIZ, wipeD, dYes, dLc, dDic0, updM_same, cxOf, asBl_bl, asInt_int, asTup_tup, isN, w_test, w_chain, w_andV, w_orV, w_notV, w_neg, w_sub, w_div, w_mod, w_pow, w_shl, w_shr, w_and, w_or, w_xor, w_lt, w_le, w_gt, w_ge, w_add, w_addS, w_addT, w_addL, w_addF, w_addR, w_mul, w_mulL, w_eq, w_ne, w_isN, w_isB, w_isntN, w_isntB, w_ix, w_isi, w_abs, w_max2, w_min2, w_max1L, w_min1L, w_sum, w_all, w_any, w_len, w_int, w_intB, w_divmod, w_sorted, w_list, w_bits, w_sl, w_slL, w_slF, w_slR, w_slT, w_newF, w_newT, w_eqL, w_eqT, w_eqR, w_neL, w_neT, w_neR, w_dgT, w_derL, w_derT, w_derB, w_derI, w_derN, w_derS, w_eqSS, w_eqBB, w_neSS, w_neBB, w_eqBI, w_eqIN, w_neIN, w_eqNI, w_neNI, w_eqNN, w_neNN, w_NN, w_NI, w_IN])
    obtain ⟨q2, h2, l2⟩ : ∃ q : Int, (q1 * 48271).fmod 2147483647 = q ∧ 0 ≤ q ∧ q < 2147483647 := by
      refine ⟨_, rfl, ?_⟩
      rw [fmodP (by decide)]
      omega
    rw [h2]
    refine ⟨divOk_b (by decide) (by decide +kernel), ?_⟩
    (try simp only [dLcM, w_isiM, rReverseD, dMinDef, rInDic, rNotInDic, dIRL, dCallC, dCallG, dConsL, dLam, atDs, dCallV, dgU, dSortI, dIItems, dDicM, dDc, dLenSet, itemsD, w_lrg, w_index, w_sortQ, dCut, dDGet, dDGet1, dDGet2, dDPut, dPairs, w_disp, w_newDF, w_newDT, dec_self, List.map_cons, List.map_nil, eqD_bl, eqD_int, eqD_str, eqD_tup, eqD_lst, eqDs_nil, eqDs_nc, eqDs_cn, eqDs_cons, reduceIte, Bool.false_eq_true, Bool.not_true, Bool.not_false, decide_true, decide_false, dVar, atD, setD, startD, dC, dOp, dAnd, dOr, dNot, dIf, dUn, dNil, dCons, dTup, dLst, rInD, rNotInD, dNoPart, dPart, dRev, dFld, DL.fieldsOf, dCB, dNext, dSeq, dBreak, dCont, dDrop, dRet, dRetN, dIfS, dNever, dgN, dgNil, dgCons, dgSub, dAsg, dPar, dPar3, putD, dSetF, dMt, rAppendD, rPopD, rExtendD, lsT, lsR, lsF, itemsR, dFrz, dCall, dCallK, dMeth, dMake, dFor, dIL, dIT, dIR1, dIR2, dIE, dIZ, wipeD, dYes, dLc, dDic0, updM_same, cxOf, asBl_bl, asInt_int, asTup_tup, isN, w_test, w_chain, w_andV, w_orV, w_notV, w_neg, w_sub, w_div, w_mod, w_pow, w_shl, w_shr, w_and, w_or, w_xor, w_lt, w_le, w_gt, w_ge, w_add, w_addS, w_addT, w_addL, w_addF, w_addR, w_mul, w_mulL, w_eq, w_ne, w_isN, w_isB, w_isntN, w_isntB, w_ix, w_isi, w_abs, w_max2, w_min2, w_max1L, w_min1L, w_sum, w_all, w_any, w_len, w_int, w_intB, w_divmod, w_sorted, w_list, w_bits, w_sl, w_slL, w_slF, w_slR, w_slT, w_newF, w_newT, w_eqL, w_eqT, w_eqR, w_neL, w_neT, w_neR, w_dgT, w_derL, w_derT, w_derB, w_derI, w_derN, w_derS, w_eqSS, w_eqBB, w_neSS, w_neBB, w_eqBI, w_eqIN, w_neIN, w_eqNI, w_neNI, w_eqNN, w_neNN, w_NN, w_NI, w_IN])
    obtain ⟨q3, h3, l3⟩ : ∃ q : Int, q2.fdiv 1009 = q ∧ 0 ≤ q ∧ q < 2147483647 := by
      refine ⟨_, rfl, ?_⟩
      rw [fdivP (by decide)]
      omega
    rw [h3]
    refine ⟨mulOk_r (by omega), by decide, ?_⟩
    obtain ⟨q4, h4, l4⟩ : ∃ q : Int, (q2 * (q3 + 69621)).fmod 2147483647 = q ∧ 0 ≤ q ∧ q < 2147483647 := by
      refine ⟨_, rfl, ?_⟩
      rw [fmodP (by decide)]
      exact ⟨Int.emod_nonneg _ (by decide), Int.emod_lt_of_pos _ (by decide)⟩
    rw [h4]
    refine ⟨divOk_b (by decide) (by decide +kernel), ?_⟩
    obtain ⟨q5, h5, l5⟩ : ∃ q : Int, q4.fdiv 2003 = q ∧ 0 ≤ q ∧ q < 2147483647 := by
      refine ⟨_, rfl, ?_⟩
      rw [fdivP (by decide)]
      omega
    rw [h5]
    refine ⟨mulOk_r (by omega), by decide, divOk_b (by decide) (by decide +kernel), by omega, endD_of ?_⟩
    refine hQ _ _ (hmod _).1 (hmod _).2 ⟨x, y, z + 1, rfl, hx, hy, by omega⟩
abbrev sp_one : SpD := fun ds M Q => ∃ (a : Addr) (xs : List Dat), ds = [.ref a, .lst xs] ∧ Src M a ∧ 0 < xs.length ∧ xs.length < 1000 ∧ ∀ d M', d ∈ xs → SrcTo a M M' → Q d M'
theorem ok__law_one (T : Txt K mg C_Kind) (F__law_next : FnD P w K mg base 1 "_law_next" s__law_next ["_law_source", "_law_many"] (sp_next)) : FnD P w K mg base 2 "_law_one" s__law_one ["_law_source", "_law_some"] (sp_one) := by
  refine fn_mk T.h__law_one sc__law_one 2 rfl (by intro ds M Q h; first | (obtain ⟨rfl, _⟩ := h; rfl) | (obtain ⟨_, rfl, _⟩ := h; rfl) | (obtain ⟨_, _, rfl, _⟩ := h; rfl) | (obtain ⟨_, _, _, rfl, _⟩ := h; rfl) | (obtain ⟨_, _, _, _, rfl, _⟩ := h; rfl) | (obtain ⟨_, _, _, _, _, rfl, _⟩ := h; rfl) | (obtain ⟨_, _, _, _, _, _, rfl, _⟩ := h; rfl) | (obtain ⟨_, _, _, _, _, _, _, rfl, _⟩ := h; rfl) | (obtain ⟨_, _, _, _, _, _, _, _, rfl, _⟩ := h; rfl) | (obtain ⟨_, _, _, _, _, _, _, _, _, rfl, _⟩ := h; rfl) | (obtain ⟨_, _, _, _, _, _, _, _, _, _, rfl, _⟩ := h; rfl) | (obtain ⟨_, _, _, _, _, _, _, _, _, _, _, rfl, _⟩ := h; rfl) | (obtain ⟨_, _, _, _, _, _, _, _, _, _, _, _, rfl, _⟩ := h; rfl)) (fun f cdv A outer s H E hr => ⟨_, (dss_one (ds_ret (de_ix (dv 1) (de_call F__law_next hr (da_cons (dv 0) (da_cons (de_cb (cd_len) (by rfl) T.b_len PySem.boot_len (da_cons (dv 1) da_nil)) da_nil)))))), ?_⟩)
  rintro ds M Q ⟨a, xs, rfl, hM, h0, hl, hQ⟩
  (try simp only [dLcM, w_isiM, rReverseD, dMinDef, rInDic, rNotInDic, dIRL, dCallC, dCallG, dConsL, dLam, atDs, dCallV, dgU, dSortI, dIItems, dDicM, dDc, dLenSet, itemsD, w_lrg, w_index, w_sortQ, dCut, dDGet, dDGet1, dDGet2, dDPut, dPairs, w_disp, w_newDF, w_newDT, dec_self, List.map_cons, List.map_nil, eqD_bl, eqD_int, eqD_str, eqD_tup, eqD_lst, eqDs_nil, eqDs_nc, eqDs_cn, eqDs_cons, reduceIte, Bool.false_eq_true, Bool.not_true, Bool.not_false, decide_true, decide_false, dVar, atD, setD, startD, dC, dOp, dAnd, dOr, dNot, dIf, dUn, dNil, dCons, dTup, dLst, rInD, rNotInD, dNoPart, dPart, dRev, dFld, DL.fieldsOf, dCB, dNext, dSeq, dBreak, dCont, dDrop, dRet, dRetN, dIfS, dNever, dgN, dgNil, dgCons, dgSub, dAsg, dPar, dPar3, putD, dSetF, dMt, rAppendD, rPopD, rExtendD, lsT, lsR, lsF, itemsR, dFrz, dCall, dCallK, dMeth, dMake, dFor, dIL, dIT, dIR1, dIR2, dIE, dIZ, wipeD, dYes, dLc, dDic0, updM_same, cxOf, asBl_bl, asInt_int, asTup_tup, isN, w_test, w_chain, w_andV, w_orV, w_notV, w_neg, w_sub, w_div, w_mod, w_pow, w_shl, w_shr, w_and, w_or, w_xor, w_lt, w_le, w_gt, w_ge, w_add, w_addS, w_addT, w_addL, w_addF, w_addR, w_mul, w_mulL, w_eq, w_ne, w_isN, w_isB, w_isntN, w_isntB, w_ix, w_isi, w_abs, w_max2, w_min2, w_max1L, w_min1L, w_sum, w_all, w_any, w_len, w_int, w_intB, w_divmod, w_sorted, w_list, w_bits, w_sl, w_slL, w_slF, w_slR, w_slT, w_newF, w_newT, w_eqL, w_eqT, w_eqR, w_neL, w_neT, w_neR, w_dgT, w_derL, w_derT, w_derB, w_derI, w_derN, w_derS, w_eqSS, w_eqBB, w_neSS, w_neBB, w_eqBI, w_eqIN, w_neIN, w_eqNI, w_neNI, w_eqNN, w_neNN, w_NN, w_NI, w_IN])
  refine ⟨_, rfl, a, xs.length, rfl, hM, by omega, Int.lt_trans (show (xs.length : Int) < 1000 by omega) (by decide +kernel), fun r M' h1 h2 hs => ?_⟩
  (try simp only [dLcM, w_isiM, rReverseD, dMinDef, rInDic, rNotInDic, dIRL, dCallC, dCallG, dConsL, dLam, atDs, dCallV, dgU, dSortI, dIItems, dDicM, dDc, dLenSet, itemsD, w_lrg, w_index, w_sortQ, dCut, dDGet, dDGet1, dDGet2, dDPut, dPairs, w_disp, w_newDF, w_newDT, dec_self, List.map_cons, List.map_nil, eqD_bl, eqD_int, eqD_str, eqD_tup, eqD_lst, eqDs_nil, eqDs_nc, eqDs_cn, eqDs_cons, reduceIte, Bool.false_eq_true, Bool.not_true, Bool.not_false, decide_true, decide_false, dVar, atD, setD, startD, dC, dOp, dAnd, dOr, dNot, dIf, dUn, dNil, dCons, dTup, dLst, rInD, rNotInD, dNoPart, dPart, dRev, dFld, DL.fieldsOf, dCB, dNext, dSeq, dBreak, dCont, dDrop, dRet, dRetN, dIfS, dNever, dgN, dgNil, dgCons, dgSub, dAsg, dPar, dPar3, putD, dSetF, dMt, rAppendD, rPopD, rExtendD, lsT, lsR, lsF, itemsR, dFrz, dCall, dCallK, dMeth, dMake, dFor, dIL, dIT, dIR1, dIR2, dIE, dIZ, wipeD, dYes, dLc, dDic0, updM_same, cxOf, asBl_bl, asInt_int, asTup_tup, isN, w_test, w_chain, w_andV, w_orV, w_notV, w_neg, w_sub, w_div, w_mod, w_pow, w_shl, w_shr, w_and, w_or, w_xor, w_lt, w_le, w_gt, w_ge, w_add, w_addS, w_addT, w_addL, w_addF, w_addR, w_mul, w_mulL, w_eq, w_ne, w_isN, w_isB, w_isntN, w_isntB, w_ix, w_isi, w_abs, w_max2, w_min2, w_max1L, w_min1L, w_sum, w_all, w_any, w_len, w_int, w_intB, w_divmod, w_sorted, w_list, w_bits, w_sl, w_slL, w_slF, w_slR, w_slT, w_newF, w_newT, w_eqL, w_eqT, w_eqR, w_neL, w_neT, w_neR, w_dgT, w_derL, w_derT, w_derB, w_derI, w_derN, w_derS, w_eqSS, w_eqBB, w_neSS, w_neBB, w_eqBI, w_eqIN, w_neIN, w_eqNI, w_neNI, w_eqNN, w_neNN, w_NN, w_NI, w_IN])
  obtain ⟨d, hd, hm⟩ := atI_ex (xs := xs) h1 h2
  exact ⟨xs, d, rfl, hd, endD_of (hQ _ _ hm hs)⟩
theorem cell_ints {c : Int} {ms : List Int} : ∀ d ∈ [Dat.int c] ++ ms.map Dat.int, ∃ n, d = .int n := by
  intro d hd
  rcases List.mem_append.mp hd with h | h
  · simp only [List.mem_singleton] at h
    exact ⟨_, h⟩
  · obtain ⟨n, _, e⟩ := List.mem_map.mp h
    exact ⟨n, e.symm⟩
abbrev sp_cell : SpD := fun ds M Q => ∃ (ns : List Int) (i : Nat), ds = [.frl (ns.map Dat.int), .int (i : Nat)] ∧ ns.length ≤ 63 ∧ ∀ n : Int, Q (.int n) M
theorem ok__law_cell_at (T : Txt K mg C_Kind) : FnD P w K mg base 1 "_law_cell_at" s__law_cell_at ["_law_script", "_law_index"] (sp_cell) := by
  refine fn_mk T.h__law_cell_at sc__law_cell_at 2 rfl (by intro ds M Q h; first | (obtain ⟨rfl, _⟩ := h; rfl) | (obtain ⟨_, rfl, _⟩ := h; rfl) | (obtain ⟨_, _, rfl, _⟩ := h; rfl) | (obtain ⟨_, _, _, rfl, _⟩ := h; rfl) | (obtain ⟨_, _, _, _, rfl, _⟩ := h; rfl) | (obtain ⟨_, _, _, _, _, rfl, _⟩ := h; rfl) | (obtain ⟨_, _, _, _, _, _, rfl, _⟩ := h; rfl) | (obtain ⟨_, _, _, _, _, _, _, rfl, _⟩ := h; rfl) | (obtain ⟨_, _, _, _, _, _, _, _, rfl, _⟩ := h; rfl) | (obtain ⟨_, _, _, _, _, _, _, _, _, rfl, _⟩ := h; rfl) | (obtain ⟨_, _, _, _, _, _, _, _, _, _, rfl, _⟩ := h; rfl) | (obtain ⟨_, _, _, _, _, _, _, _, _, _, _, rfl, _⟩ := h; rfl) | (obtain ⟨_, _, _, _, _, _, _, _, _, _, _, _, rfl, _⟩ := h; rfl)) (fun f cdv A outer s H E hr => ⟨_, (dss_one (ds_ret (de_ix (de_op (od_add false) (de_sl false (dv 0) (do_some (dv 1)) (do_some (de_op (od_add false) (dv 1) de_int))) (de_lst false (da_cons de_int da_nil))) de_int))), ?_⟩)
  rintro ds M Q ⟨ns, i, rfl, hl, hQ⟩
  (try simp only [dLcM, w_isiM, rReverseD, dMinDef, rInDic, rNotInDic, dIRL, dCallC, dCallG, dConsL, dLam, atDs, dCallV, dgU, dSortI, dIItems, dDicM, dDc, dLenSet, itemsD, w_lrg, w_index, w_sortQ, dCut, dDGet, dDGet1, dDGet2, dDPut, dPairs, w_disp, w_newDF, w_newDT, dec_self, List.map_cons, List.map_nil, eqD_bl, eqD_int, eqD_str, eqD_tup, eqD_lst, eqDs_nil, eqDs_nc, eqDs_cn, eqDs_cons, reduceIte, Bool.false_eq_true, Bool.not_true, Bool.not_false, decide_true, decide_false, dVar, atD, setD, startD, dC, dOp, dAnd, dOr, dNot, dIf, dUn, dNil, dCons, dTup, dLst, rInD, rNotInD, dNoPart, dPart, dRev, dFld, DL.fieldsOf, dCB, dNext, dSeq, dBreak, dCont, dDrop, dRet, dRetN, dIfS, dNever, dgN, dgNil, dgCons, dgSub, dAsg, dPar, dPar3, putD, dSetF, dMt, rAppendD, rPopD, rExtendD, lsT, lsR, lsF, itemsR, dFrz, dCall, dCallK, dMeth, dMake, dFor, dIL, dIT, dIR1, dIR2, dIE, dIZ, wipeD, dYes, dLc, dDic0, updM_same, cxOf, asBl_bl, asInt_int, asTup_tup, isN, w_test, w_chain, w_andV, w_orV, w_notV, w_neg, w_sub, w_div, w_mod, w_pow, w_shl, w_shr, w_and, w_or, w_xor, w_lt, w_le, w_gt, w_ge, w_add, w_addS, w_addT, w_addL, w_addF, w_addR, w_mul, w_mulL, w_eq, w_ne, w_isN, w_isB, w_isntN, w_isntB, w_ix, w_isi, w_abs, w_max2, w_min2, w_max1L, w_min1L, w_sum, w_all, w_any, w_len, w_int, w_intB, w_divmod, w_sorted, w_list, w_bits, w_sl, w_slL, w_slF, w_slR, w_slT, w_newF, w_newT, w_eqL, w_eqT, w_eqR, w_neL, w_neT, w_neR, w_dgT, w_derL, w_derT, w_derB, w_derI, w_derN, w_derS, w_eqSS, w_eqBB, w_neSS, w_neBB, w_eqBI, w_eqIN, w_neIN, w_eqNI, w_neNI, w_eqNN, w_neNN, w_NN, w_NI, w_IN])
  obtain ⟨ms, he, hm⟩ := cutD_ints (ns := ns) (some (i : Int)) (some ((i : Int) + 1))
  refine ⟨_, rfl, lit_len (n := 1) (by decide), _, _, rfl, rfl, ?_⟩
  rw [he]
  refine ⟨lit_len ?_, ?_⟩
  · rw [List.length_map]
    show ms.length + 1 ≤ 1000
    omega
  cases ms with
  | nil => exact ⟨_, .int 0, rfl, rfl, endD_of (hQ _)⟩
  | cons m ms => exact ⟨_, .int m, rfl, atI_nat (j := 0) rfl, endD_of (hQ _)⟩
abbrev sp_power : SpD := fun ds M Q => ∃ n : Int, ds = [.int n] ∧ -(2 ^ 62) ≤ n ∧ n < 2 ^ 62 ∧ Q (.int (2 ^ n.toNat)) M
abbrev sp_wide : SpD := sp_next
theorem ok__law_wide (T : Txt K mg C_Kind) (F__law_next : FnD P w K mg base 1 "_law_next" s__law_next ["_law_source", "_law_many"] (sp_next)) : FnD P w K mg base 2 "_law_wide" s__law_wide ["_law_source", "_law_m"] (sp_wide) := by
  refine fn_mk T.h__law_wide sc__law_wide 4 rfl (by intro ds M Q h; first | (obtain ⟨rfl, _⟩ := h; rfl) | (obtain ⟨_, rfl, _⟩ := h; rfl) | (obtain ⟨_, _, rfl, _⟩ := h; rfl) | (obtain ⟨_, _, _, rfl, _⟩ := h; rfl) | (obtain ⟨_, _, _, _, rfl, _⟩ := h; rfl) | (obtain ⟨_, _, _, _, _, rfl, _⟩ := h; rfl) | (obtain ⟨_, _, _, _, _, _, rfl, _⟩ := h; rfl) | (obtain ⟨_, _, _, _, _, _, _, rfl, _⟩ := h; rfl) | (obtain ⟨_, _, _, _, _, _, _, _, rfl, _⟩ := h; rfl) | (obtain ⟨_, _, _, _, _, _, _, _, _, rfl, _⟩ := h; rfl) | (obtain ⟨_, _, _, _, _, _, _, _, _, _, rfl, _⟩ := h; rfl) | (obtain ⟨_, _, _, _, _, _, _, _, _, _, _, rfl, _⟩ := h; rfl) | (obtain ⟨_, _, _, _, _, _, _, _, _, _, _, _, rfl, _⟩ := h; rfl)) (fun f cdv A outer s H E hr => ⟨_, (dss_cons (ds_set (i := 2) sc__law_wide.nd (de_call F__law_next hr (da_cons (dv 0) (da_cons (dv 1) da_nil))))
    (dss_cons (ds_for (di_rng1 T.b_range (da_cons (de_op od_div (de_bits (dv 1)) de_int) da_nil)) (dg_name (i := 3) sc__law_wide.nd)
    (dss_one (ds_set (i := 2) sc__law_wide.nd (de_op (od_add false) (de_op (od_mul false) (dv 2) de_int) (de_call F__law_next hr (da_cons (dv 0) (da_cons de_int da_nil)))))))
    (dss_one (ds_ret (de_op od_mod (de_ct cd_int (by rfl) T.b_int (by decide +kernel) (da_cons (dv 2) da_nil)) (dv 1)))))), ?_⟩)
  rintro ds M Q ⟨a, m, rfl, hM, hm, hb, hQ⟩
  (try simp only [dLcM, w_isiM, rReverseD, dMinDef, rInDic, rNotInDic, dIRL, dCallC, dCallG, dConsL, dLam, atDs, dCallV, dgU, dSortI, dIItems, dDicM, dDc, dLenSet, itemsD, w_lrg, w_index, w_sortQ, dCut, dDGet, dDGet1, dDGet2, dDPut, dPairs, w_disp, w_newDF, w_newDT, dec_self, List.map_cons, List.map_nil, eqD_bl, eqD_int, eqD_str, eqD_tup, eqD_lst, eqDs_nil, eqDs_nc, eqDs_cn, eqDs_cons, reduceIte, Bool.false_eq_true, Bool.not_true, Bool.not_false, decide_true, decide_false, dVar, atD, setD, startD, dC, dOp, dAnd, dOr, dNot, dIf, dUn, dNil, dCons, dTup, dLst, rInD, rNotInD, dNoPart, dPart, dRev, dFld, DL.fieldsOf, dCB, dNext, dSeq, dBreak, dCont, dDrop, dRet, dRetN, dIfS, dNever, dgN, dgNil, dgCons, dgSub, dAsg, dPar, dPar3, putD, dSetF, dMt, rAppendD, rPopD, rExtendD, lsT, lsR, lsF, itemsR, dFrz, dCall, dCallK, dMeth, dMake, dFor, dIL, dIT, dIR1, dIR2, dIE, dIZ, wipeD, dYes, dLc, dDic0, updM_same, cxOf, asBl_bl, asInt_int, asTup_tup, isN, w_test, w_chain, w_andV, w_orV, w_notV, w_neg, w_sub, w_div, w_mod, w_pow, w_shl, w_shr, w_and, w_or, w_xor, w_lt, w_le, w_gt, w_ge, w_add, w_addS, w_addT, w_addL, w_addF, w_addR, w_mul, w_mulL, w_eq, w_ne, w_isN, w_isB, w_isntN, w_isntB, w_ix, w_isi, w_abs, w_max2, w_min2, w_max1L, w_min1L, w_sum, w_all, w_any, w_len, w_int, w_intB, w_divmod, w_sorted, w_list, w_bits, w_sl, w_slL, w_slF, w_slR, w_slT, w_newF, w_newT, w_eqL, w_eqT, w_eqR, w_neL, w_neT, w_neR, w_dgT, w_derL, w_derT, w_derB, w_derI, w_derN, w_derS, w_eqSS, w_eqBB, w_neSS, w_neBB, w_eqBI, w_eqIN, w_neIN, w_eqNI, w_neNI, w_eqNN, w_neNN, w_NN, w_NI, w_IN])
  refine ⟨a, m, rfl, hM, hm, hb, fun f M1 f0 f1 hs => ?_⟩
  have hl : Builtin.Int.intBits m ≤ 9000 := bits_lt (by omega)
  refine ⟨divOk_b (by decide) (by decide +kernel), ?_⟩
  rw [fdivP (by decide)]
  refine ⟨by omega, by omega, ?_⟩
  refine loop_n (fun i ρ M2 => SrcTo a M M2 ∧ ∃ (f : Int) (x : Option Dat), ρ = [some (.ref a), some (.int m), some (.int f), x]) ⟨hs, f, _, rfl⟩ ?_ ?_
  · rintro ρ M2 ⟨hs, f, x, rfl⟩
    (try simp only [dLcM, w_isiM, rReverseD, dMinDef, rInDic, rNotInDic, dIRL, dCallC, dCallG, dConsL, dLam, atDs, dCallV, dgU, dSortI, dIItems, dDicM, dDc, dLenSet, itemsD, w_lrg, w_index, w_sortQ, dCut, dDGet, dDGet1, dDGet2, dDPut, dPairs, w_disp, w_newDF, w_newDT, dec_self, List.map_cons, List.map_nil, eqD_bl, eqD_int, eqD_str, eqD_tup, eqD_lst, eqDs_nil, eqDs_nc, eqDs_cn, eqDs_cons, reduceIte, Bool.false_eq_true, Bool.not_true, Bool.not_false, decide_true, decide_false, dVar, atD, setD, startD, dC, dOp, dAnd, dOr, dNot, dIf, dUn, dNil, dCons, dTup, dLst, rInD, rNotInD, dNoPart, dPart, dRev, dFld, DL.fieldsOf, dCB, dNext, dSeq, dBreak, dCont, dDrop, dRet, dRetN, dIfS, dNever, dgN, dgNil, dgCons, dgSub, dAsg, dPar, dPar3, putD, dSetF, dMt, rAppendD, rPopD, rExtendD, lsT, lsR, lsF, itemsR, dFrz, dCall, dCallK, dMeth, dMake, dFor, dIL, dIT, dIR1, dIR2, dIE, dIZ, wipeD, dYes, dLc, dDic0, updM_same, cxOf, asBl_bl, asInt_int, asTup_tup, isN, w_test, w_chain, w_andV, w_orV, w_notV, w_neg, w_sub, w_div, w_mod, w_pow, w_shl, w_shr, w_and, w_or, w_xor, w_lt, w_le, w_gt, w_ge, w_add, w_addS, w_addT, w_addL, w_addF, w_addR, w_mul, w_mulL, w_eq, w_ne, w_isN, w_isB, w_isntN, w_isntB, w_ix, w_isi, w_abs, w_max2, w_min2, w_max1L, w_min1L, w_sum, w_all, w_any, w_len, w_int, w_intB, w_divmod, w_sorted, w_list, w_bits, w_sl, w_slL, w_slF, w_slR, w_slT, w_newF, w_newT, w_eqL, w_eqT, w_eqR, w_neL, w_neT, w_neR, w_dgT, w_derL, w_derT, w_derB, w_derI, w_derN, w_derS, w_eqSS, w_eqBB, w_neSS, w_neBB, w_eqBI, w_eqIN, w_neIN, w_eqNI, w_neNI, w_eqNN, w_neNN, w_NN, w_NI, w_IN])
    refine ⟨by omega, endD_of (hQ _ _ ?_ ?_ hs)⟩
    · rw [fmodP hm]
      exact Int.emod_nonneg _ (by omega)
    · rw [fmodP hm]
      exact Int.emod_lt_of_pos _ hm
  · rintro i ρ M2 k hi ⟨hs, f, x, rfl⟩ hk
    (try simp only [dLcM, w_isiM, rReverseD, dMinDef, rInDic, rNotInDic, dIRL, dCallC, dCallG, dConsL, dLam, atDs, dCallV, dgU, dSortI, dIItems, dDicM, dDc, dLenSet, itemsD, w_lrg, w_index, w_sortQ, dCut, dDGet, dDGet1, dDGet2, dDPut, dPairs, w_disp, w_newDF, w_newDT, dec_self, List.map_cons, List.map_nil, eqD_bl, eqD_int, eqD_str, eqD_tup, eqD_lst, eqDs_nil, eqDs_nc, eqDs_cn, eqDs_cons, reduceIte, Bool.false_eq_true, Bool.not_true, Bool.not_false, decide_true, decide_false, dVar, atD, setD, startD, dC, dOp, dAnd, dOr, dNot, dIf, dUn, dNil, dCons, dTup, dLst, rInD, rNotInD, dNoPart, dPart, dRev, dFld, DL.fieldsOf, dCB, dNext, dSeq, dBreak, dCont, dDrop, dRet, dRetN, dIfS, dNever, dgN, dgNil, dgCons, dgSub, dAsg, dPar, dPar3, putD, dSetF, dMt, rAppendD, rPopD, rExtendD, lsT, lsR, lsF, itemsR, dFrz, dCall, dCallK, dMeth, dMake, dFor, dIL, dIT, dIR1, dIR2, dIE, dIZ, wipeD, dYes, dLc, dDic0, updM_same, cxOf, asBl_bl, asInt_int, asTup_tup, isN, w_test, w_chain, w_andV, w_orV, w_notV, w_neg, w_sub, w_div, w_mod, w_pow, w_shl, w_shr, w_and, w_or, w_xor, w_lt, w_le, w_gt, w_ge, w_add, w_addS, w_addT, w_addL, w_addF, w_addR, w_mul, w_mulL, w_eq, w_ne, w_isN, w_isB, w_isntN, w_isntB, w_ix, w_isi, w_abs, w_max2, w_min2, w_max1L, w_min1L, w_sum, w_all, w_any, w_len, w_int, w_intB, w_divmod, w_sorted, w_list, w_bits, w_sl, w_slL, w_slF, w_slR, w_slT, w_newF, w_newT, w_eqL, w_eqT, w_eqR, w_neL, w_neT, w_neR, w_dgT, w_derL, w_derT, w_derB, w_derI, w_derN, w_derS, w_eqSS, w_eqBB, w_neSS, w_neBB, w_eqBI, w_eqIN, w_neIN, w_eqNI, w_neNI, w_eqNN, w_neNN, w_NN, w_NI, w_IN])
    refine ⟨mulOk_r (by decide), a, 2147483648, rfl, hs.src, by decide, by decide +kernel, fun g M3 g0 g1 hs2 => ?_⟩
    (try simp only [dLcM, w_isiM, rReverseD, dMinDef, rInDic, rNotInDic, dIRL, dCallC, dCallG, dConsL, dLam, atDs, dCallV, dgU, dSortI, dIItems, dDicM, dDc, dLenSet, itemsD, w_lrg, w_index, w_sortQ, dCut, dDGet, dDGet1, dDGet2, dDPut, dPairs, w_disp, w_newDF, w_newDT, dec_self, List.map_cons, List.map_nil, eqD_bl, eqD_int, eqD_str, eqD_tup, eqD_lst, eqDs_nil, eqDs_nc, eqDs_cn, eqDs_cons, reduceIte, Bool.false_eq_true, Bool.not_true, Bool.not_false, decide_true, decide_false, dVar, atD, setD, startD, dC, dOp, dAnd, dOr, dNot, dIf, dUn, dNil, dCons, dTup, dLst, rInD, rNotInD, dNoPart, dPart, dRev, dFld, DL.fieldsOf, dCB, dNext, dSeq, dBreak, dCont, dDrop, dRet, dRetN, dIfS, dNever, dgN, dgNil, dgCons, dgSub, dAsg, dPar, dPar3, putD, dSetF, dMt, rAppendD, rPopD, rExtendD, lsT, lsR, lsF, itemsR, dFrz, dCall, dCallK, dMeth, dMake, dFor, dIL, dIT, dIR1, dIR2, dIE, dIZ, wipeD, dYes, dLc, dDic0, updM_same, cxOf, asBl_bl, asInt_int, asTup_tup, isN, w_test, w_chain, w_andV, w_orV, w_notV, w_neg, w_sub, w_div, w_mod, w_pow, w_shl, w_shr, w_and, w_or, w_xor, w_lt, w_le, w_gt, w_ge, w_add, w_addS, w_addT, w_addL, w_addF, w_addR, w_mul, w_mulL, w_eq, w_ne, w_isN, w_isB, w_isntN, w_isntB, w_ix, w_isi, w_abs, w_max2, w_min2, w_max1L, w_min1L, w_sum, w_all, w_any, w_len, w_int, w_intB, w_divmod, w_sorted, w_list, w_bits, w_sl, w_slL, w_slF, w_slR, w_slT, w_newF, w_newT, w_eqL, w_eqT, w_eqR, w_neL, w_neT, w_neR, w_dgT, w_derL, w_derT, w_derB, w_derI, w_derN, w_derS, w_eqSS, w_eqBB, w_neSS, w_neBB, w_eqBI, w_eqIN, w_neIN, w_eqNI, w_neNI, w_eqNN, w_neNN, w_NN, w_NI, w_IN])
    exact hk _ _ ⟨hs.trans hs2, _, _, rfl⟩
/-! ### inverses, twos -/
/-- an inverse modulo 2 ^ b -/
abbrev InvOf (n : Int) (b : Nat) (r : Int) : Prop := (0 ≤ r ∧ r < 2 ^ b) ∧ (2 : Int) ^ b ∣ n * r - 1
abbrev sp_invof : SpD := fun ds M Q => ∃ (n : Int) (b : Nat), ds = [.int n, .int (b : Nat)] ∧ n % 2 = 1 ∧ n.natAbs < 2 ^ 1000 ∧ 1 ≤ b ∧ b ≤ 1000 ∧ ∀ r, InvOf n b r → Q (.int r) M
theorem ok_inverse_of (T : Txt K mg C_Kind) : FnD P w K mg base 1 "inverse_of" s_inverse_of ["n", "bits"] (sp_invof) := by
  refine fn_mk T.h_inverse_of sc_inverse_of 4 rfl (by intro ds M Q h; first | (obtain ⟨rfl, _⟩ := h; rfl) | (obtain ⟨_, rfl, _⟩ := h; rfl) | (obtain ⟨_, _, rfl, _⟩ := h; rfl) | (obtain ⟨_, _, _, rfl, _⟩ := h; rfl) | (obtain ⟨_, _, _, _, rfl, _⟩ := h; rfl) | (obtain ⟨_, _, _, _, _, rfl, _⟩ := h; rfl) | (obtain ⟨_, _, _, _, _, _, rfl, _⟩ := h; rfl) | (obtain ⟨_, _, _, _, _, _, _, rfl, _⟩ := h; rfl) | (obtain ⟨_, _, _, _, _, _, _, _, rfl, _⟩ := h; rfl) | (obtain ⟨_, _, _, _, _, _, _, _, _, rfl, _⟩ := h; rfl) | (obtain ⟨_, _, _, _, _, _, _, _, _, _, rfl, _⟩ := h; rfl) | (obtain ⟨_, _, _, _, _, _, _, _, _, _, _, rfl, _⟩ := h; rfl) | (obtain ⟨_, _, _, _, _, _, _, _, _, _, _, _, rfl, _⟩ := h; rfl)) (fun f cdv A outer s H E hr => ⟨_, (dss_cons (ds_set (i := 2) sc_inverse_of.nd de_int)
    (dss_cons (ds_set (i := 3) sc_inverse_of.nd de_int)
    (dss_cons (ds_while (dt_cmp od_lt (dv 3) (dv 1))
    (dss_cons (ds_set (i := 3) sc_inverse_of.nd (de_op (od_mul false) de_int (dv 3)))
    (dss_one (ds_set (i := 2) sc_inverse_of.nd (de_op od_mod (de_op (od_mul false) (dv 2) (de_op od_sub de_int (de_op (od_mul false) (dv 0) (dv 2)))) (de_op od_shl de_int (dv 3)))))))
    (dss_one (ds_ret (de_op od_mod (dv 2) (de_op od_shl de_int (dv 1)))))))), ?_⟩)
  rintro ds M Q ⟨n, b, rfl, hn, hs, hb, hb2, hQ⟩
  (try simp only [dLcM, w_isiM, rReverseD, dMinDef, rInDic, rNotInDic, dIRL, dCallC, dCallG, dConsL, dLam, atDs, dCallV, dgU, dSortI, dIItems, dDicM, dDc, dLenSet, itemsD, w_lrg, w_index, w_sortQ, dCut, dDGet, dDGet1, dDGet2, dDPut, dPairs, w_disp, w_newDF, w_newDT, dec_self, List.map_cons, List.map_nil, eqD_bl, eqD_int, eqD_str, eqD_tup, eqD_lst, eqDs_nil, eqDs_nc, eqDs_cn, eqDs_cons, reduceIte, Bool.false_eq_true, Bool.not_true, Bool.not_false, decide_true, decide_false, dVar, atD, setD, startD, dC, dOp, dAnd, dOr, dNot, dIf, dUn, dNil, dCons, dTup, dLst, rInD, rNotInD, dNoPart, dPart, dRev, dFld, DL.fieldsOf, dCB, dNext, dSeq, dBreak, dCont, dDrop, dRet, dRetN, dIfS, dNever, dgN, dgNil, dgCons, dgSub, dAsg, dPar, dPar3, putD, dSetF, dMt, rAppendD, rPopD, rExtendD, lsT, lsR, lsF, itemsR, dFrz, dCall, dCallK, dMeth, dMake, dFor, dIL, dIT, dIR1, dIR2, dIE, dIZ, wipeD, dYes, dLc, dDic0, updM_same, cxOf, asBl_bl, asInt_int, asTup_tup, isN, w_test, w_chain, w_andV, w_orV, w_notV, w_neg, w_sub, w_div, w_mod, w_pow, w_shl, w_shr, w_and, w_or, w_xor, w_lt, w_le, w_gt, w_ge, w_add, w_addS, w_addT, w_addL, w_addF, w_addR, w_mul, w_mulL, w_eq, w_ne, w_isN, w_isB, w_isntN, w_isntB, w_ix, w_isi, w_abs, w_max2, w_min2, w_max1L, w_min1L, w_sum, w_all, w_any, w_len, w_int, w_intB, w_divmod, w_sorted, w_list, w_bits, w_sl, w_slL, w_slF, w_slR, w_slT, w_newF, w_newT, w_eqL, w_eqT, w_eqR, w_neL, w_neT, w_neR, w_dgT, w_derL, w_derT, w_derB, w_derI, w_derN, w_derS, w_eqSS, w_eqBB, w_neSS, w_neBB, w_eqBI, w_eqIN, w_neIN, w_eqNI, w_neNI, w_eqNN, w_neNN, w_NN, w_NI, w_IN])
  refine ⟨fun m ρ M' => M' = M ∧ ∃ (f : Int) (k : Nat), ρ = [some (.int n), some (.int (b : Nat)), some (.int f), some (.int (k : Nat))] ∧ 1 ≤ k ∧ k ≤ 2 * b ∧ (0 ≤ f ∧ f < 2 ^ k) ∧ (2 : Int) ^ k ∣ n * f - 1 ∧ m = b - k, ⟨b - 1, rfl, 1, 1, rfl, by omega, by omega, by decide, ⟨n / 2, by omega⟩, rfl⟩, ?_⟩
  rintro m ρ M' ⟨hM, f, k, rfl, hk, hk2, hf, hd, rfl⟩
  subst hM
  (try simp only [dLcM, w_isiM, rReverseD, dMinDef, rInDic, rNotInDic, dIRL, dCallC, dCallG, dConsL, dLam, atDs, dCallV, dgU, dSortI, dIItems, dDicM, dDc, dLenSet, itemsD, w_lrg, w_index, w_sortQ, dCut, dDGet, dDGet1, dDGet2, dDPut, dPairs, w_disp, w_newDF, w_newDT, dec_self, List.map_cons, List.map_nil, eqD_bl, eqD_int, eqD_str, eqD_tup, eqD_lst, eqDs_nil, eqDs_nc, eqDs_cn, eqDs_cons, reduceIte, Bool.false_eq_true, Bool.not_true, Bool.not_false, decide_true, decide_false, dVar, atD, setD, startD, dC, dOp, dAnd, dOr, dNot, dIf, dUn, dNil, dCons, dTup, dLst, rInD, rNotInD, dNoPart, dPart, dRev, dFld, DL.fieldsOf, dCB, dNext, dSeq, dBreak, dCont, dDrop, dRet, dRetN, dIfS, dNever, dgN, dgNil, dgCons, dgSub, dAsg, dPar, dPar3, putD, dSetF, dMt, rAppendD, rPopD, rExtendD, lsT, lsR, lsF, itemsR, dFrz, dCall, dCallK, dMeth, dMake, dFor, dIL, dIT, dIR1, dIR2, dIE, dIZ, wipeD, dYes, dLc, dDic0, updM_same, cxOf, asBl_bl, asInt_int, asTup_tup, isN, w_test, w_chain, w_andV, w_orV, w_notV, w_neg, w_sub, w_div, w_mod, w_pow, w_shl, w_shr, w_and, w_or, w_xor, w_lt, w_le, w_gt, w_ge, w_add, w_addS, w_addT, w_addL, w_addF, w_addR, w_mul, w_mulL, w_eq, w_ne, w_isN, w_isB, w_isntN, w_isntB, w_ix, w_isi, w_abs, w_max2, w_min2, w_max1L, w_min1L, w_sum, w_all, w_any, w_len, w_int, w_intB, w_divmod, w_sorted, w_list, w_bits, w_sl, w_slL, w_slF, w_slR, w_slT, w_newF, w_newT, w_eqL, w_eqT, w_eqR, w_neL, w_neT, w_neR, w_dgT, w_derL, w_derT, w_derB, w_derI, w_derN, w_derS, w_eqSS, w_eqBB, w_neSS, w_neBB, w_eqBI, w_eqIN, w_neIN, w_eqNI, w_neNI, w_eqNN, w_neNN, w_NN, w_NI, w_IN])
  by_cases h : (k : Int) < b
  · simp only [h]
    (try simp only [dLcM, w_isiM, rReverseD, dMinDef, rInDic, rNotInDic, dIRL, dCallC, dCallG, dConsL, dLam, atDs, dCallV, dgU, dSortI, dIItems, dDicM, dDc, dLenSet, itemsD, w_lrg, w_index, w_sortQ, dCut, dDGet, dDGet1, dDGet2, dDPut, dPairs, w_disp, w_newDF, w_newDT, dec_self, List.map_cons, List.map_nil, eqD_bl, eqD_int, eqD_str, eqD_tup, eqD_lst, eqDs_nil, eqDs_nc, eqDs_cn, eqDs_cons, reduceIte, Bool.false_eq_true, Bool.not_true, Bool.not_false, decide_true, decide_false, dVar, atD, setD, startD, dC, dOp, dAnd, dOr, dNot, dIf, dUn, dNil, dCons, dTup, dLst, rInD, rNotInD, dNoPart, dPart, dRev, dFld, DL.fieldsOf, dCB, dNext, dSeq, dBreak, dCont, dDrop, dRet, dRetN, dIfS, dNever, dgN, dgNil, dgCons, dgSub, dAsg, dPar, dPar3, putD, dSetF, dMt, rAppendD, rPopD, rExtendD, lsT, lsR, lsF, itemsR, dFrz, dCall, dCallK, dMeth, dMake, dFor, dIL, dIT, dIR1, dIR2, dIE, dIZ, wipeD, dYes, dLc, dDic0, updM_same, cxOf, asBl_bl, asInt_int, asTup_tup, isN, w_test, w_chain, w_andV, w_orV, w_notV, w_neg, w_sub, w_div, w_mod, w_pow, w_shl, w_shr, w_and, w_or, w_xor, w_lt, w_le, w_gt, w_ge, w_add, w_addS, w_addT, w_addL, w_addF, w_addR, w_mul, w_mulL, w_eq, w_ne, w_isN, w_isB, w_isntN, w_isntB, w_ix, w_isi, w_abs, w_max2, w_min2, w_max1L, w_min1L, w_sum, w_all, w_any, w_len, w_int, w_intB, w_divmod, w_sorted, w_list, w_bits, w_sl, w_slL, w_slF, w_slR, w_slT, w_newF, w_newT, w_eqL, w_eqT, w_eqR, w_neL, w_neT, w_neR, w_dgT, w_derL, w_derT, w_derB, w_derI, w_derN, w_derS, w_eqSS, w_eqBB, w_neSS, w_neBB, w_eqBI, w_eqIN, w_neIN, w_eqNI, w_neNI, w_eqNN, w_neNN, w_NN, w_NI, w_IN])
    have e1 : (2 : Int) * (k : Int) = ((2 * k : Nat) : Int) := by omega
    have e2 : (1 : Int) * 2 ^ ((2 : Int) * (k : Int)).toNat = 2 ^ (2 * k) := by
      rw [e1, Int.toNat_natCast, Int.one_mul]
    have hf2 : f.natAbs < 2 ^ 2000 := by
      have h1 := pow_mono (show k ≤ 2000 by omega)
      omega
    have hnf : (n * f).natAbs < 2 ^ 3000 := by
      rw [Int.natAbs_mul]
      refine Nat.lt_of_lt_of_le (Nat.mul_lt_mul'' hs hf2) ?_
      rw [← Nat.pow_add]
      exact Nat.le_refl _
    have hnf2 : (2 - n * f).natAbs < 2 ^ 4000 := by
      have h1 : (2 : Nat) ^ 3000 + 2 < 2 ^ 4000 := by decide +kernel
      omega
    rw [e2]
    have hp := two_pos (2 * k)
    refine ⟨mulOk_l (by decide), mulOk_b (m := 1000) (n := 2000) hs hf2 (by decide) (by decide), mulOk_b (m := 2000) (n := 4000) hf2 hnf2 (by decide) (by decide), shl1 (by omega) (by omega), by omega, b - 2 * k, by omega, trivial, _, 2 * k, rfl, by omega, by omega, ?_, ?_, rfl⟩
    · rw [fmodP hp]
      exact ⟨Int.emod_nonneg _ (by omega), Int.emod_lt_of_pos _ hp⟩
    · rw [fmodP hp]
      exact newton (Nat.le_refl _) hd
  · simp only [h]
    (try simp only [dLcM, w_isiM, rReverseD, dMinDef, rInDic, rNotInDic, dIRL, dCallC, dCallG, dConsL, dLam, atDs, dCallV, dgU, dSortI, dIItems, dDicM, dDc, dLenSet, itemsD, w_lrg, w_index, w_sortQ, dCut, dDGet, dDGet1, dDGet2, dDPut, dPairs, w_disp, w_newDF, w_newDT, dec_self, List.map_cons, List.map_nil, eqD_bl, eqD_int, eqD_str, eqD_tup, eqD_lst, eqDs_nil, eqDs_nc, eqDs_cn, eqDs_cons, reduceIte, Bool.false_eq_true, Bool.not_true, Bool.not_false, decide_true, decide_false, dVar, atD, setD, startD, dC, dOp, dAnd, dOr, dNot, dIf, dUn, dNil, dCons, dTup, dLst, rInD, rNotInD, dNoPart, dPart, dRev, dFld, DL.fieldsOf, dCB, dNext, dSeq, dBreak, dCont, dDrop, dRet, dRetN, dIfS, dNever, dgN, dgNil, dgCons, dgSub, dAsg, dPar, dPar3, putD, dSetF, dMt, rAppendD, rPopD, rExtendD, lsT, lsR, lsF, itemsR, dFrz, dCall, dCallK, dMeth, dMake, dFor, dIL, dIT, dIR1, dIR2, dIE, dIZ, wipeD, dYes, dLc, dDic0, updM_same, cxOf, asBl_bl, asInt_int, asTup_tup, isN, w_test, w_chain, w_andV, w_orV, w_notV, w_neg, w_sub, w_div, w_mod, w_pow, w_shl, w_shr, w_and, w_or, w_xor, w_lt, w_le, w_gt, w_ge, w_add, w_addS, w_addT, w_addL, w_addF, w_addR, w_mul, w_mulL, w_eq, w_ne, w_isN, w_isB, w_isntN, w_isntB, w_ix, w_isi, w_abs, w_max2, w_min2, w_max1L, w_min1L, w_sum, w_all, w_any, w_len, w_int, w_intB, w_divmod, w_sorted, w_list, w_bits, w_sl, w_slL, w_slF, w_slR, w_slT, w_newF, w_newT, w_eqL, w_eqT, w_eqR, w_neL, w_neT, w_neR, w_dgT, w_derL, w_derT, w_derB, w_derI, w_derN, w_derS, w_eqSS, w_eqBB, w_neSS, w_neBB, w_eqBI, w_eqIN, w_neIN, w_eqNI, w_neNI, w_eqNN, w_neNN, w_NN, w_NI, w_IN])
    have hp := two_pos b
    rw [Int.toNat_natCast, Int.one_mul, fmodP hp]
    refine ⟨shl1 (by omega) (by omega), by omega, endD_of (hQ _ ⟨⟨Int.emod_nonneg _ (by omega), Int.emod_lt_of_pos _ hp⟩, ?_⟩)⟩
    obtain ⟨c, hc⟩ := mod_cong (2 ^ b) f
    obtain ⟨d, hd⟩ := hd
    obtain ⟨e, he⟩ := dvd_pow2 (show b ≤ k by omega)
    exact ⟨n * c + e * d, by grind⟩
abbrev sp_inverse (C : Addr) : SpD := fun ds M Q => ∃ (b : Nat) (s : Bool) (x : Int), ds = [kindD C b s, .int x] ∧ Wd b ∧ InK b s x ∧ (x % 2 = 0 → Q .non M) ∧ (x % 2 = 1 → ∀ r, InK b s r → (2 : Int) ^ b ∣ x * r - 1 → Q (.int r) M)
/-- how often 2 divides n, at most m -/
abbrev TwosOf (n : Int) (m k : Nat) : Prop := k ≤ m ∧ (2 : Int) ^ k ∣ n ∧ (k < m → ¬ (2 : Int) ^ (k + 1) ∣ n)
theorem low_form : ∀ (n : Int), n ≠ 0 → ∃ (k : Nat) (a : Int), n = 2 ^ k * (2 * a + 1) := by
  intro n
  generalize h : n.natAbs = m
  induction m using Nat.strongRecOn generalizing n with
  | ind m ih =>
    intro h0
    rcases odd_cases n with h2 | h2
    · obtain ⟨k, a, e⟩ := ih (n / 2).natAbs (by omega) (n / 2) rfl (by omega)
      exact ⟨k + 1, a, by rw [Int.pow_succ]; grind⟩
    · exact ⟨0, n / 2, by rw [Int.pow_zero]; omega⟩
theorem bits_pow (k : Nat) : Builtin.Int.intBits (2 ^ k) = k + 1 := by
  have h := two_pos k
  have e : ((2 : Int) ^ k).natAbs = 2 ^ k := by
    rw [Int.natAbs_pow]
    rfl
  unfold Builtin.Int.intBits
  rw [if_neg (by simp; omega), e, Nat.log2_two_pow]
theorem twos_uniq {n : Int} {m k l : Nat} (h : TwosOf n m k) (g : TwosOf n m l) : k = l := by
  rcases Nat.lt_trichotomy k l with q | q | q
  · have := g.1
    exact absurd (Int.dvd_trans (dvd_pow2 q) g.2.1) (h.2.2 (by omega))
  · exact q
  · have := h.1
    exact absurd (Int.dvd_trans (dvd_pow2 q) h.2.1) (g.2.2 (by omega))
abbrev sp_twosin : SpD := fun ds M Q => ∃ (n : Int) (m : Nat), ds = [.int n, .int (m : Nat)] ∧ m ≤ 1000 ∧ ∀ k : Nat, TwosOf n m k → Q (.int (k : Nat)) M
theorem ok_twos_in (T : Txt K mg C_Kind) : FnD P w K mg base 1 "twos_in" s_twos_in ["n", "most"] (sp_twosin) := by
  refine fn_mk T.h_twos_in sc_twos_in 2 rfl (by intro ds M Q h; first | (obtain ⟨rfl, _⟩ := h; rfl) | (obtain ⟨_, rfl, _⟩ := h; rfl) | (obtain ⟨_, _, rfl, _⟩ := h; rfl) | (obtain ⟨_, _, _, rfl, _⟩ := h; rfl) | (obtain ⟨_, _, _, _, rfl, _⟩ := h; rfl) | (obtain ⟨_, _, _, _, _, rfl, _⟩ := h; rfl) | (obtain ⟨_, _, _, _, _, _, rfl, _⟩ := h; rfl) | (obtain ⟨_, _, _, _, _, _, _, rfl, _⟩ := h; rfl) | (obtain ⟨_, _, _, _, _, _, _, _, rfl, _⟩ := h; rfl) | (obtain ⟨_, _, _, _, _, _, _, _, _, rfl, _⟩ := h; rfl) | (obtain ⟨_, _, _, _, _, _, _, _, _, _, rfl, _⟩ := h; rfl) | (obtain ⟨_, _, _, _, _, _, _, _, _, _, _, rfl, _⟩ := h; rfl) | (obtain ⟨_, _, _, _, _, _, _, _, _, _, _, _, rfl, _⟩ := h; rfl)) (fun f cdv A outer s H E hr => ⟨_, (dss_cons (ds_set (i := 0) sc_twos_in.nd (de_op od_mod (dv 0) (de_op od_shl de_int (dv 1))))
    (dss_one (ds_ret (de_if (dt_cmp (od_eq hr.units) (dv 0) de_int) (dv 1) (de_op od_sub (de_bits (de_op od_and (dv 0) (de_op od_sub de_int (dv 0)))) de_int))))), ?_⟩)
  rintro ds M Q ⟨n, m, rfl, hm, hQ⟩
  (try simp only [dLcM, w_isiM, rReverseD, dMinDef, rInDic, rNotInDic, dIRL, dCallC, dCallG, dConsL, dLam, atDs, dCallV, dgU, dSortI, dIItems, dDicM, dDc, dLenSet, itemsD, w_lrg, w_index, w_sortQ, dCut, dDGet, dDGet1, dDGet2, dDPut, dPairs, w_disp, w_newDF, w_newDT, dec_self, List.map_cons, List.map_nil, eqD_bl, eqD_int, eqD_str, eqD_tup, eqD_lst, eqDs_nil, eqDs_nc, eqDs_cn, eqDs_cons, reduceIte, Bool.false_eq_true, Bool.not_true, Bool.not_false, decide_true, decide_false, dVar, atD, setD, startD, dC, dOp, dAnd, dOr, dNot, dIf, dUn, dNil, dCons, dTup, dLst, rInD, rNotInD, dNoPart, dPart, dRev, dFld, DL.fieldsOf, dCB, dNext, dSeq, dBreak, dCont, dDrop, dRet, dRetN, dIfS, dNever, dgN, dgNil, dgCons, dgSub, dAsg, dPar, dPar3, putD, dSetF, dMt, rAppendD, rPopD, rExtendD, lsT, lsR, lsF, itemsR, dFrz, dCall, dCallK, dMeth, dMake, dFor, dIL, dIT, dIR1, dIR2, dIE, dIZ, wipeD, dYes, dLc, dDic0, updM_same, cxOf, asBl_bl, asInt_int, asTup_tup, isN, w_test, w_chain, w_andV, w_orV, w_notV, w_neg, w_sub, w_div, w_mod, w_pow, w_shl, w_shr, w_and, w_or, w_xor, w_lt, w_le, w_gt, w_ge, w_add, w_addS, w_addT, w_addL, w_addF, w_addR, w_mul, w_mulL, w_eq, w_ne, w_isN, w_isB, w_isntN, w_isntB, w_ix, w_isi, w_abs, w_max2, w_min2, w_max1L, w_min1L, w_sum, w_all, w_any, w_len, w_int, w_intB, w_divmod, w_sorted, w_list, w_bits, w_sl, w_slL, w_slF, w_slR, w_slT, w_newF, w_newT, w_eqL, w_eqT, w_eqR, w_neL, w_neT, w_neR, w_dgT, w_derL, w_derT, w_derB, w_derI, w_derN, w_derS, w_eqSS, w_eqBB, w_neSS, w_neBB, w_eqBI, w_eqIN, w_neIN, w_eqNI, w_neNI, w_eqNN, w_neNN, w_NN, w_NI, w_IN])
  have hp := two_pos m
  rw [Int.toNat_natCast, Int.one_mul, fmodP hp]
  refine ⟨shl1 (by omega) (by omega), by omega, ?_⟩
  by_cases h : n % 2 ^ m = 0
  · simp only [h]
    (try simp only [dLcM, w_isiM, rReverseD, dMinDef, rInDic, rNotInDic, dIRL, dCallC, dCallG, dConsL, dLam, atDs, dCallV, dgU, dSortI, dIItems, dDicM, dDc, dLenSet, itemsD, w_lrg, w_index, w_sortQ, dCut, dDGet, dDGet1, dDGet2, dDPut, dPairs, w_disp, w_newDF, w_newDT, dec_self, List.map_cons, List.map_nil, eqD_bl, eqD_int, eqD_str, eqD_tup, eqD_lst, eqDs_nil, eqDs_nc, eqDs_cn, eqDs_cons, reduceIte, Bool.false_eq_true, Bool.not_true, Bool.not_false, decide_true, decide_false, dVar, atD, setD, startD, dC, dOp, dAnd, dOr, dNot, dIf, dUn, dNil, dCons, dTup, dLst, rInD, rNotInD, dNoPart, dPart, dRev, dFld, DL.fieldsOf, dCB, dNext, dSeq, dBreak, dCont, dDrop, dRet, dRetN, dIfS, dNever, dgN, dgNil, dgCons, dgSub, dAsg, dPar, dPar3, putD, dSetF, dMt, rAppendD, rPopD, rExtendD, lsT, lsR, lsF, itemsR, dFrz, dCall, dCallK, dMeth, dMake, dFor, dIL, dIT, dIR1, dIR2, dIE, dIZ, wipeD, dYes, dLc, dDic0, updM_same, cxOf, asBl_bl, asInt_int, asTup_tup, isN, w_test, w_chain, w_andV, w_orV, w_notV, w_neg, w_sub, w_div, w_mod, w_pow, w_shl, w_shr, w_and, w_or, w_xor, w_lt, w_le, w_gt, w_ge, w_add, w_addS, w_addT, w_addL, w_addF, w_addR, w_mul, w_mulL, w_eq, w_ne, w_isN, w_isB, w_isntN, w_isntB, w_ix, w_isi, w_abs, w_max2, w_min2, w_max1L, w_min1L, w_sum, w_all, w_any, w_len, w_int, w_intB, w_divmod, w_sorted, w_list, w_bits, w_sl, w_slL, w_slF, w_slR, w_slT, w_newF, w_newT, w_eqL, w_eqT, w_eqR, w_neL, w_neT, w_neR, w_dgT, w_derL, w_derT, w_derB, w_derI, w_derN, w_derS, w_eqSS, w_eqBB, w_neSS, w_neBB, w_eqBI, w_eqIN, w_neIN, w_eqNI, w_neNI, w_eqNN, w_neNN, w_NN, w_NI, w_IN])
    exact endD_of (hQ m ⟨Nat.le_refl _, Int.dvd_of_emod_eq_zero h, fun q => absurd q (Nat.lt_irrefl _)⟩)
  · simp only [h]
    (try simp only [dLcM, w_isiM, rReverseD, dMinDef, rInDic, rNotInDic, dIRL, dCallC, dCallG, dConsL, dLam, atDs, dCallV, dgU, dSortI, dIItems, dDicM, dDc, dLenSet, itemsD, w_lrg, w_index, w_sortQ, dCut, dDGet, dDGet1, dDGet2, dDPut, dPairs, w_disp, w_newDF, w_newDT, dec_self, List.map_cons, List.map_nil, eqD_bl, eqD_int, eqD_str, eqD_tup, eqD_lst, eqDs_nil, eqDs_nc, eqDs_cn, eqDs_cons, reduceIte, Bool.false_eq_true, Bool.not_true, Bool.not_false, decide_true, decide_false, dVar, atD, setD, startD, dC, dOp, dAnd, dOr, dNot, dIf, dUn, dNil, dCons, dTup, dLst, rInD, rNotInD, dNoPart, dPart, dRev, dFld, DL.fieldsOf, dCB, dNext, dSeq, dBreak, dCont, dDrop, dRet, dRetN, dIfS, dNever, dgN, dgNil, dgCons, dgSub, dAsg, dPar, dPar3, putD, dSetF, dMt, rAppendD, rPopD, rExtendD, lsT, lsR, lsF, itemsR, dFrz, dCall, dCallK, dMeth, dMake, dFor, dIL, dIT, dIR1, dIR2, dIE, dIZ, wipeD, dYes, dLc, dDic0, updM_same, cxOf, asBl_bl, asInt_int, asTup_tup, isN, w_test, w_chain, w_andV, w_orV, w_notV, w_neg, w_sub, w_div, w_mod, w_pow, w_shl, w_shr, w_and, w_or, w_xor, w_lt, w_le, w_gt, w_ge, w_add, w_addS, w_addT, w_addL, w_addF, w_addR, w_mul, w_mulL, w_eq, w_ne, w_isN, w_isB, w_isntN, w_isntB, w_ix, w_isi, w_abs, w_max2, w_min2, w_max1L, w_min1L, w_sum, w_all, w_any, w_len, w_int, w_intB, w_divmod, w_sorted, w_list, w_bits, w_sl, w_slL, w_slF, w_slR, w_slT, w_newF, w_newT, w_eqL, w_eqT, w_eqR, w_neL, w_neT, w_neR, w_dgT, w_derL, w_derT, w_derB, w_derI, w_derN, w_derS, w_eqSS, w_eqBB, w_neSS, w_neBB, w_eqBI, w_eqIN, w_neIN, w_eqNI, w_neNI, w_eqNN, w_neNN, w_NN, w_NI, w_IN])
    obtain ⟨k, a, hk⟩ := low_form (n % 2 ^ m) h
    rw [Int.zero_sub, hk, PySem.W.kbt_low, bits_pow]
    have hr := Int.emod_nonneg n (show (2 : Int) ^ m ≠ 0 by omega)
    have hr2 := Int.emod_lt_of_pos n hp
    obtain ⟨c, hc⟩ := mod_cong (2 ^ m) n
    have hkm : k < m := by
      rcases Nat.lt_or_ge k m with q | q
      · exact q
      · exfalso
        have h1 := pow_mono q
        have h2 : 0 ≤ a := by
          rcases Int.lt_or_le a 0 with g | g
          · have : (2 : Int) ^ k * (2 * a + 1) ≤ 2 ^ k * (-1) := Int.mul_le_mul_of_nonneg_left (by omega) (by omega)
            omega
          · exact g
        have h3 : (2 : Int) ^ k * 1 ≤ 2 ^ k * (2 * a + 1) := Int.mul_le_mul_of_nonneg_left (by omega) (by omega)
        omega
    have hs : ((k + 1 : Nat) : Int) - 1 = (k : Nat) := by omega
    rw [hs]
    refine endD_of (hQ k ⟨by omega, ?_, fun _ q => ?_⟩)
    · obtain ⟨e, he⟩ := dvd_pow2 (show k ≤ m by omega)
      exact ⟨2 * a + 1 - e * c, by grind⟩
    · obtain ⟨d, hd⟩ := q
      obtain ⟨e, he⟩ := dvd_pow2 (show k + 1 ≤ m by omega)
      have h2 : (2 : Int) ^ k * (2 * a + 1) = 2 ^ k * (2 * (d + e * c)) := by
        rw [Int.pow_succ] at hd he
        grind
      have := Int.eq_of_mul_eq_mul_left (show (2 : Int) ^ k ≠ 0 by have := two_pos k; omega) h2
      omega
abbrev sp_twos (C : Addr) : SpD := fun ds M Q => ∃ (b : Nat) (s : Bool) (x : Int), ds = [kindD C b s, .int x] ∧ Wd b ∧ InK b s x ∧ ∀ k : Nat, TwosOf x b k → Q (.int (k : Nat)) M
/-! ### generators: the numbers -/
/-- the sum of the powers of a ahead of number n -/
def sumP (a : Int) : Nat → Int
  | 0 => 0
  | n + 1 => a * sumP a n + 1
/-- n steps from x on -/
def itZ (a c x : Int) : Nat → Int
  | 0 => x
  | n + 1 => a * itZ a c x n + c
theorem sum_next (a : Int) : ∀ n : Nat, sumP a (n + 1) = sumP a n + a ^ n
  | 0 => by simp [sumP]
  | n + 1 => by
    show a * sumP a (n + 1) + 1 = (a * sumP a n + 1) + a ^ (n + 1)
    rw [sum_next a n, Int.pow_succ]
    grind
theorem sum_add (a : Int) (m : Nat) : ∀ n : Nat, sumP a (m + n) = sumP a m + a ^ m * sumP a n
  | 0 => by simp [sumP]
  | n + 1 => by
    rw [← Nat.add_assoc, sum_next, sum_add a m n, sum_next, Int.pow_add]
    grind
theorem sum_double (a : Int) : ∀ n : Nat, sumP a (2 * n) = sumP (a * a) n * (1 + a)
  | 0 => by simp [sumP]
  | n + 1 => by
    rw [show 2 * (n + 1) = (2 * n + 1) + 1 by omega]
    show a * (a * sumP a (2 * n) + 1) + 1 = (a * a * sumP (a * a) n + 1) * (1 + a)
    rw [sum_double a n]
    grind
theorem pow_double (a : Int) (n : Nat) : a ^ (2 * n) = (a * a) ^ n := by
  rw [Int.pow_mul, show a ^ 2 = a * a by rw [Int.pow_succ, Int.pow_succ, Int.pow_zero, Int.one_mul]]
theorem it_sum (a c x : Int) : ∀ n : Nat, itZ a c x n = x + sumP a n * (a * x + c - x)
  | 0 => by simp [itZ, sumP]
  | n + 1 => by
    show a * itZ a c x n + c = x + (a * sumP a n + 1) * _
    rw [it_sum a c x n]
    grind
theorem it_pow (a c x : Int) : ∀ n : Nat, itZ a c x n = a ^ n * x + sumP a n * c
  | 0 => by simp [itZ, sumP]
  | n + 1 => by
    show a * itZ a c x n + c = a ^ (n + 1) * x + (a * sumP a n + 1) * c
    rw [it_pow a c x n, Int.pow_succ]
    grind
theorem it_add (a c x : Int) (m : Nat) : ∀ n : Nat, itZ a c x (m + n) = itZ a c (itZ a c x m) n
  | 0 => rfl
  | n + 1 => by
    show a * itZ a c x (m + n) + c = a * itZ a c (itZ a c x m) n + c
    rw [it_add a c x m n]
theorem it_left (a c x : Int) (n : Nat) : itZ a c x (n + 1) = itZ a c (a * x + c) n := by
  rw [Nat.add_comm, it_add]
  rfl
theorem it_cong {m a c x a' c' x' : Int} (ha : m ∣ a - a') (hc : m ∣ c - c') (hx : m ∣ x - x') : ∀ n : Nat, m ∣ itZ a c x n - itZ a' c' x' n
  | 0 => hx
  | n + 1 => by
    obtain ⟨p, hp⟩ := it_cong ha hc hx n
    obtain ⟨q, hq⟩ := ha
    obtain ⟨r, hr⟩ := hc
    refine ⟨q * itZ a c x n + a' * p + r, ?_⟩
    show (a * itZ a c x n + c) - (a' * itZ a' c' x' n + c') = _
    grind
theorem sum_cong {m a a' : Int} (ha : m ∣ a - a') : ∀ n : Nat, m ∣ sumP a n - sumP a' n
  | 0 => ⟨0, by simp [sumP]⟩
  | n + 1 => by
    obtain ⟨p, hp⟩ := sum_cong ha n
    obtain ⟨q, hq⟩ := ha
    refine ⟨q * sumP a n + a' * p, ?_⟩
    show (a * sumP a n + 1) - (a' * sumP a' n + 1) = _
    grind
theorem pow_odd {a : Int} (h : a % 2 = 1) : ∀ n : Nat, a ^ n % 2 = 1
  | 0 => by simp
  | n + 1 => by
    rw [Int.pow_succ, Int.mul_emod, pow_odd h n, h]
    rfl
/-- a sum of odd powers is odd just if there are oddly many -/
theorem sum_mod2 {a : Int} (h : a % 2 = 1) : ∀ n : Nat, sumP a n % 2 = (n : Int) % 2
  | 0 => rfl
  | n + 1 => by
    rw [sum_next]
    have h1 := pow_odd h n
    have h2 := sum_mod2 h n
    omega
/-- the sum over m turns of q -/
theorem sum_mul (a : Int) (q : Nat) : ∀ m : Nat, sumP a (q * m) = sumP a q * sumP (a ^ q) m
  | 0 => by simp [sumP]
  | m + 1 => by
    rw [Nat.mul_succ, sum_add, sum_mul a q m, sum_next (a ^ q) m, ← Int.pow_mul]
    grind
/-- an odd number of turns does not matter -/
theorem sum_odd {a mv : Int} {b q m : Nat} (h : a % 2 = 1) (hm : m % 2 = 1) : (2 : Int) ^ b ∣ sumP a (q * m) * mv ↔ (2 : Int) ^ b ∣ sumP a q * mv := by
  rw [sum_mul]
  have ho : sumP (a ^ q) m % 2 = 1 := by
    have := sum_mod2 (pow_odd h q) m
    omega
  constructor
  · intro hd
    refine odd_dvd ho (k := b) ?_
    obtain ⟨z, hz⟩ := hd
    exact ⟨z, by rw [← hz]; grind⟩
  · rintro ⟨z, hz⟩
    exact ⟨sumP (a ^ q) m * z, by rw [show sumP a q * sumP (a ^ q) m * mv = sumP (a ^ q) m * (sumP a q * mv) by grind, hz]; grind⟩
theorem sum_two (a : Int) (q : Nat) : sumP a (2 * q) = sumP a q * (1 + a ^ q) := by
  rw [Nat.two_mul, sum_add]
  grind
theorem nat_form : ∀ (n : Nat), n ≠ 0 → ∃ (k m : Nat), n = 2 ^ k * m ∧ m % 2 = 1 := by
  intro n
  induction n using Nat.strongRecOn with
  | ind n ih =>
    intro h0
    by_cases h : n % 2 = 1
    · exact ⟨0, n, by simp, h⟩
    · obtain ⟨k, m, e, hm⟩ := ih (n / 2) (by omega) (by omega)
      exact ⟨k + 1, m, by rw [Nat.pow_succ]; rw [Nat.mul_right_comm, ← e]; omega, hm⟩
/-- two powers' sums: what is whole after 2 ^ j turns stays so -/
theorem sum_up {a mv : Int} {b j : Nat} (h : (2 : Int) ^ b ∣ sumP a (2 ^ j) * mv) : ∀ i : Nat, (2 : Int) ^ b ∣ sumP a (2 ^ (j + i)) * mv
  | 0 => h
  | i + 1 => by
    obtain ⟨z, hz⟩ := sum_up h i
    rw [← Nat.add_assoc, Nat.pow_succ, Nat.mul_comm, sum_two]
    exact ⟨z * (1 + a ^ 2 ^ (j + i)), by rw [show sumP a (2 ^ (j + i)) * (1 + a ^ 2 ^ (j + i)) * mv = sumP a (2 ^ (j + i)) * mv * (1 + a ^ 2 ^ (j + i)) by grind, hz]; grind⟩
/-- the length of a ring: all numbers of steps that lead back are its multiples -/
abbrev LenOf (a mv : Int) (b L : Nat) : Prop := ∀ n : Nat, (2 : Int) ^ b ∣ sumP a n * mv ↔ L ∣ n
theorem len_of {a mv : Int} {b j : Nat} (h : a % 2 = 1) (h1 : (2 : Int) ^ b ∣ sumP a (2 ^ j) * mv) (h2 : ∀ i, i < j → ¬ (2 : Int) ^ b ∣ sumP a (2 ^ i) * mv) : LenOf a mv b (2 ^ j) := by
  intro n
  by_cases h0 : n = 0
  · subst h0
    simp [sumP]
  obtain ⟨k, m, rfl, hm⟩ := nat_form n h0
  rw [sum_odd h hm]
  constructor
  · intro hd
    have hk : j ≤ k := by
      rcases Nat.lt_or_ge k j with g | g
      · exact absurd hd (h2 k g)
      · exact g
    exact Nat.dvd_trans (Nat.pow_dvd_pow 2 hk) ⟨m, rfl⟩
  · intro hd
    have hk : j ≤ k := by
      rcases Nat.lt_or_ge k j with g | g
      · exfalso
        obtain ⟨z, hz⟩ := hd
        obtain ⟨t, rfl⟩ := Nat.exists_eq_add_of_lt g
        have e : 2 ^ k * m = 2 ^ k * (2 ^ t * 2 * z) := by
          rw [hz, show k + t + 1 = k + (t + 1) by omega, Nat.pow_add, Nat.pow_succ]
          rw [Nat.mul_assoc]
        have := Nat.eq_of_mul_eq_mul_left (Nat.two_pow_pos k) e
        have e2 : 2 ^ t * 2 * z = 2 * (2 ^ t * z) := by rw [Nat.mul_comm (2 ^ t) 2, Nat.mul_assoc]
        omega
      · exact g
    obtain ⟨i, rfl⟩ := Nat.exists_eq_add_of_le hk
    exact sum_up h1 i
theorem len_exists {a mv : Int} (h : a % 2 = 1) (b : Nat) : (2 : Int) ^ b ∣ sumP a (2 ^ b) * mv := by
  have key : ∀ k : Nat, (2 : Int) ^ k ∣ sumP a (2 ^ k) := by
    intro k
    induction k with
    | zero => exact ⟨sumP a 1, by simp⟩
    | succ k ih =>
      obtain ⟨z, hz⟩ := ih
      rw [Nat.pow_succ, Nat.mul_comm, sum_two, hz]
      have h1 := pow_odd h (2 ^ k)
      obtain ⟨y, hy⟩ : ∃ y, 1 + a ^ 2 ^ k = 2 * y := ⟨(1 + a ^ 2 ^ k) / 2, by omega⟩
      rw [hy]
      exact ⟨z * y, by rw [Int.pow_succ]; grind⟩
  obtain ⟨z, hz⟩ := key b
  exact ⟨z * mv, by rw [hz]; grind⟩
/-- for multipliers that are 1 modulo 4 the sums tell all numbers of steps apart -/
theorem sum_four {a : Int} (h : a % 4 = 1) : ∀ k : Nat, ∃ y : Int, sumP a (2 ^ k) = 2 ^ k * (2 * y + 1)
  | 0 => ⟨0, by simp [sumP]⟩
  | k + 1 => by
    obtain ⟨y, hy⟩ := sum_four h k
    have h4 : a ^ 2 ^ k % 4 = 1 := by
      generalize 2 ^ k = n
      induction n with
      | zero => simp
      | succ n ih => rw [Int.pow_succ, Int.mul_emod, ih, h]; rfl
    obtain ⟨z, hz⟩ : ∃ z, 1 + a ^ 2 ^ k = 2 * (2 * z + 1) := ⟨(1 + a ^ 2 ^ k) / 4, by omega⟩
    rw [Nat.pow_succ, Nat.mul_comm, sum_two, hy, hz]
    exact ⟨2 * y * z + y + z, by rw [Int.pow_succ]; grind⟩
theorem sum_apart {a : Int} (h : a % 4 = 1) {k n : Nat} (hd : (2 : Int) ^ k ∣ sumP a n) : 2 ^ k ∣ n := by
  have l : LenOf a 1 k (2 ^ k) := len_of (by omega) (by
      obtain ⟨y, hy⟩ := sum_four h k
      exact ⟨2 * y + 1, by rw [hy]; grind⟩) fun i hi => by
    obtain ⟨y, hy⟩ := sum_four h i
    rw [hy]
    rintro ⟨z, hz⟩
    obtain ⟨t, rfl⟩ := Nat.exists_eq_add_of_lt hi
    have e : (2 : Int) ^ i * (2 * y + 1) = 2 ^ i * (2 * (2 ^ t * z)) := by
      rw [show i + t + 1 = i + (t + 1) by omega, Int.pow_add, Int.pow_succ] at hz
      grind
    have := Int.eq_of_mul_eq_mul_left (show (2 : Int) ^ i ≠ 0 by have := two_pos i; omega) e
    omega
  exact (l n).mp (by obtain ⟨z, hz⟩ := hd; exact ⟨z, by rw [hz]; grind⟩)
/-- .. all numbers of steps from x to y: a first one, and how many come between -/
abbrev StepsOf (a c x y : Int) (b : Nat) : Option (Nat × Nat) → Prop
  | none => ∀ m : Nat, ¬ (2 : Int) ^ b ∣ itZ a c x m - y
  | some (n, L) => ∀ m : Nat, (2 : Int) ^ b ∣ itZ a c x m - y ↔ ∃ t : Nat, m = n + t * L
theorem steps_uniq {a c x y : Int} {b : Nat} {r r' : Option (Nat × Nat)} (h : StepsOf a c x y b r) (h' : StepsOf a c x y b r') : r = r' := by
  cases r with
  | none =>
    cases r' with
    | none => rfl
    | some p => exact absurd ((h' p.1).mpr ⟨0, by simp⟩) (h p.1)
  | some p =>
    cases r' with
    | none => exact absurd ((h p.1).mpr ⟨0, by simp⟩) (h' p.1)
    | some q =>
      obtain ⟨n, L⟩ := p
      obtain ⟨n', L'⟩ := q
      have e : ∀ m, (∃ t, m = n + t * L) ↔ ∃ t, m = n' + t * L' := fun m => (h m).symm.trans (h' m)
      obtain ⟨t1, h1⟩ := (e n).mp ⟨0, by simp⟩
      obtain ⟨t2, h2⟩ := (e n').mpr ⟨0, by simp⟩
      have hn : n = n' := by
        have : 0 ≤ t1 * L' := Nat.zero_le _
        have : 0 ≤ t2 * L := Nat.zero_le _
        omega
      subst hn
      obtain ⟨t3, h3⟩ := (e (n + L)).mp ⟨1, by simp⟩
      obtain ⟨t4, h4⟩ := (e (n + L')).mpr ⟨1, by simp⟩
      have h3 : L = t3 * L' := by omega
      have h4 : L' = t4 * L := by omega
      have hL : L = L' := Nat.dvd_antisymm ⟨t4, by rw [Nat.mul_comm]; exact h4⟩ ⟨t3, by rw [Nat.mul_comm]; exact h3⟩
      rw [hL]
/-! ### generators: what is computed -/
abbrev genD (a c : Int) : Dat := .tup [.int a, .int c]
abbrev sp_chkg (C : Addr) : SpD := fun ds M Q => ∃ (b : Nat) (s : Bool) (a c : Int), ds = [kindD C b s, genD a c] ∧ Wd b ∧ InK b s a ∧ InK b s c ∧ Q .non M
theorem betw_in {b : Nat} {s : Bool} {x : Int} (h : InK b s x) : betw (.int x) (lowZ b s) (lowZ b s + 2 ^ b - 1) = true := by
  obtain ⟨h0, h1⟩ := h
  simp only [betw]
  exact decide_eq_true ⟨h0, by omega⟩
theorem ok_check_generator (T : Txt K mg C_Kind) (F_check_kind : FnD P w K mg base 1 "check_kind" s_check_kind ["value"] (sp_chkk C_Kind)) (F_is_value : FnD P w K mg base 3 "is_value" s_is_value ["kind", "x"] (sp_isvalue C_Kind)) : FnD P w K mg base 4 "check_generator" s_check_generator ["kind", "value"] (sp_chkg C_Kind) := by
  refine fn_mk T.h_check_generator sc_check_generator 2 rfl (by intro ds M Q h; first | (obtain ⟨rfl, _⟩ := h; rfl) | (obtain ⟨_, rfl, _⟩ := h; rfl) | (obtain ⟨_, _, rfl, _⟩ := h; rfl) | (obtain ⟨_, _, _, rfl, _⟩ := h; rfl) | (obtain ⟨_, _, _, _, rfl, _⟩ := h; rfl) | (obtain ⟨_, _, _, _, _, rfl, _⟩ := h; rfl) | (obtain ⟨_, _, _, _, _, _, rfl, _⟩ := h; rfl) | (obtain ⟨_, _, _, _, _, _, _, rfl, _⟩ := h; rfl) | (obtain ⟨_, _, _, _, _, _, _, _, rfl, _⟩ := h; rfl) | (obtain ⟨_, _, _, _, _, _, _, _, _, rfl, _⟩ := h; rfl) | (obtain ⟨_, _, _, _, _, _, _, _, _, _, rfl, _⟩ := h; rfl) | (obtain ⟨_, _, _, _, _, _, _, _, _, _, _, rfl, _⟩ := h; rfl) | (obtain ⟨_, _, _, _, _, _, _, _, _, _, _, _, rfl, _⟩ := h; rfl)) (fun f cdv A outer s H E hr => ⟨_, (dss_stop (ds_expr (de_call F_check_kind hr (da_cons (dv 0) da_nil)))
    (dss_stop (ds_if (dt_cut (dt_w (dw_or (dt_not (dt_val (de_cb ((cd_isiK K rfl)) (by rfl) T.b_isinstance (by decide +kernel) (da_cons (dv 1) (da_cons (de_ty .tup (by rfl) T.b_tuple (by decide +kernel)) da_nil))))) (dw_or1 (dt_cmp (od_ne hr.units) (de_cb (cd_len) (by rfl) T.b_len PySem.boot_len (da_cons (dv 1) da_nil)) de_int)))))
    (dss_one ds_never)
    dss_nil)
    (dss_one (ds_if (dt_cut (dt_w (dw_or (dt_not (dt_val (de_call F_is_value hr (da_cons (dv 0) (da_cons (de_ix (dv 1) de_int) da_nil))))) (dw_or1 (dt_not (dt_val (de_call F_is_value hr (da_cons (dv 0) (da_cons (de_ix (dv 1) de_int) da_nil)))))))))
    (dss_one ds_never)
    dss_nil)))), ?_⟩)
  rintro ds M Q ⟨b, s, a, c, rfl, hb, ha, hc, hQ⟩
  (refine stop_to ?_; (try simp only [dLcM, w_isiM, rReverseD, dMinDef, rInDic, rNotInDic, dIRL, dCallC, dCallG, dConsL, dLam, atDs, dCallV, dgU, dSortI, dIItems, dDicM, dDc, dLenSet, itemsD, w_lrg, w_index, w_sortQ, dCut, dDGet, dDGet1, dDGet2, dDPut, dPairs, w_disp, w_newDF, w_newDT, dec_self, List.map_cons, List.map_nil, eqD_bl, eqD_int, eqD_str, eqD_tup, eqD_lst, eqDs_nil, eqDs_nc, eqDs_cn, eqDs_cons, reduceIte, Bool.false_eq_true, Bool.not_true, Bool.not_false, decide_true, decide_false, dVar, atD, setD, startD, dC, dOp, dAnd, dOr, dNot, dIf, dUn, dNil, dCons, dTup, dLst, rInD, rNotInD, dNoPart, dPart, dRev, dFld, DL.fieldsOf, dCB, dNext, dSeq, dBreak, dCont, dDrop, dRet, dRetN, dIfS, dNever, dgN, dgNil, dgCons, dgSub, dAsg, dPar, dPar3, putD, dSetF, dMt, rAppendD, rPopD, rExtendD, lsT, lsR, lsF, itemsR, dFrz, dCall, dCallK, dMeth, dMake, dFor, dIL, dIT, dIR1, dIR2, dIE, dIZ, wipeD, dYes, dLc, dDic0, updM_same, cxOf, asBl_bl, asInt_int, asTup_tup, isN, w_test, w_chain, w_andV, w_orV, w_notV, w_neg, w_sub, w_div, w_mod, w_pow, w_shl, w_shr, w_and, w_or, w_xor, w_lt, w_le, w_gt, w_ge, w_add, w_addS, w_addT, w_addL, w_addF, w_addR, w_mul, w_mulL, w_eq, w_ne, w_isN, w_isB, w_isntN, w_isntB, w_ix, w_isi, w_abs, w_max2, w_min2, w_max1L, w_min1L, w_sum, w_all, w_any, w_len, w_int, w_intB, w_divmod, w_sorted, w_list, w_bits, w_sl, w_slL, w_slF, w_slR, w_slT, w_newF, w_newT, w_eqL, w_eqT, w_eqR, w_neL, w_neT, w_neR, w_dgT, w_derL, w_derT, w_derB, w_derI, w_derN, w_derS, w_eqSS, w_eqBB, w_neSS, w_neBB, w_eqBI, w_eqIN, w_neIN, w_eqNI, w_neNI, w_eqNN, w_neNN, w_NN, w_NI, w_IN]))
  refine ⟨_, rfl, ?_⟩
  (refine stop_to ?_; (try simp only [dLcM, w_isiM, rReverseD, dMinDef, rInDic, rNotInDic, dIRL, dCallC, dCallG, dConsL, dLam, atDs, dCallV, dgU, dSortI, dIItems, dDicM, dDc, dLenSet, itemsD, w_lrg, w_index, w_sortQ, dCut, dDGet, dDGet1, dDGet2, dDPut, dPairs, w_disp, w_newDF, w_newDT, dec_self, List.map_cons, List.map_nil, eqD_bl, eqD_int, eqD_str, eqD_tup, eqD_lst, eqDs_nil, eqDs_nc, eqDs_cn, eqDs_cons, reduceIte, Bool.false_eq_true, Bool.not_true, Bool.not_false, decide_true, decide_false, dVar, atD, setD, startD, dC, dOp, dAnd, dOr, dNot, dIf, dUn, dNil, dCons, dTup, dLst, rInD, rNotInD, dNoPart, dPart, dRev, dFld, DL.fieldsOf, dCB, dNext, dSeq, dBreak, dCont, dDrop, dRet, dRetN, dIfS, dNever, dgN, dgNil, dgCons, dgSub, dAsg, dPar, dPar3, putD, dSetF, dMt, rAppendD, rPopD, rExtendD, lsT, lsR, lsF, itemsR, dFrz, dCall, dCallK, dMeth, dMake, dFor, dIL, dIT, dIR1, dIR2, dIE, dIZ, wipeD, dYes, dLc, dDic0, updM_same, cxOf, asBl_bl, asInt_int, asTup_tup, isN, w_test, w_chain, w_andV, w_orV, w_notV, w_neg, w_sub, w_div, w_mod, w_pow, w_shl, w_shr, w_and, w_or, w_xor, w_lt, w_le, w_gt, w_ge, w_add, w_addS, w_addT, w_addL, w_addF, w_addR, w_mul, w_mulL, w_eq, w_ne, w_isN, w_isB, w_isntN, w_isntB, w_ix, w_isi, w_abs, w_max2, w_min2, w_max1L, w_min1L, w_sum, w_all, w_any, w_len, w_int, w_intB, w_divmod, w_sorted, w_list, w_bits, w_sl, w_slL, w_slF, w_slR, w_slT, w_newF, w_newT, w_eqL, w_eqT, w_eqR, w_neL, w_neT, w_neR, w_dgT, w_derL, w_derT, w_derB, w_derI, w_derN, w_derS, w_eqSS, w_eqBB, w_neSS, w_neBB, w_eqBI, w_eqIN, w_neIN, w_eqNI, w_neNI, w_eqNN, w_neNN, w_NN, w_NI, w_IN]))
  refine cut_is false ?_ ?_
  · (try simp only [dLcM, w_isiM, rReverseD, dMinDef, rInDic, rNotInDic, dIRL, dCallC, dCallG, dConsL, dLam, atDs, dCallV, dgU, dSortI, dIItems, dDicM, dDc, dLenSet, itemsD, w_lrg, w_index, w_sortQ, dCut, dDGet, dDGet1, dDGet2, dDPut, dPairs, w_disp, w_newDF, w_newDT, dec_self, List.map_cons, List.map_nil, eqD_bl, eqD_int, eqD_str, eqD_tup, eqD_lst, eqDs_nil, eqDs_nc, eqDs_cn, eqDs_cons, reduceIte, Bool.false_eq_true, Bool.not_true, Bool.not_false, decide_true, decide_false, dVar, atD, setD, startD, dC, dOp, dAnd, dOr, dNot, dIf, dUn, dNil, dCons, dTup, dLst, rInD, rNotInD, dNoPart, dPart, dRev, dFld, DL.fieldsOf, dCB, dNext, dSeq, dBreak, dCont, dDrop, dRet, dRetN, dIfS, dNever, dgN, dgNil, dgCons, dgSub, dAsg, dPar, dPar3, putD, dSetF, dMt, rAppendD, rPopD, rExtendD, lsT, lsR, lsF, itemsR, dFrz, dCall, dCallK, dMeth, dMake, dFor, dIL, dIT, dIR1, dIR2, dIE, dIZ, wipeD, dYes, dLc, dDic0, updM_same, cxOf, asBl_bl, asInt_int, asTup_tup, isN, w_test, w_chain, w_andV, w_orV, w_notV, w_neg, w_sub, w_div, w_mod, w_pow, w_shl, w_shr, w_and, w_or, w_xor, w_lt, w_le, w_gt, w_ge, w_add, w_addS, w_addT, w_addL, w_addF, w_addR, w_mul, w_mulL, w_eq, w_ne, w_isN, w_isB, w_isntN, w_isntB, w_ix, w_isi, w_abs, w_max2, w_min2, w_max1L, w_min1L, w_sum, w_all, w_any, w_len, w_int, w_intB, w_divmod, w_sorted, w_list, w_bits, w_sl, w_slL, w_slF, w_slR, w_slT, w_newF, w_newT, w_eqL, w_eqT, w_eqR, w_neL, w_neT, w_neR, w_dgT, w_derL, w_derT, w_derB, w_derI, w_derN, w_derS, w_eqSS, w_eqBB, w_neSS, w_neBB, w_eqBI, w_eqIN, w_neIN, w_eqNI, w_neNI, w_eqNN, w_neNN, w_NN, w_NI, w_IN])
    refine ⟨isi_ty (x := genD a c) T.ck_Kind trivial _, ?_⟩
    rw [show isiR (genD a c) (.ty .tup) = true by rfl]
    (try simp only [dLcM, w_isiM, rReverseD, dMinDef, rInDic, rNotInDic, dIRL, dCallC, dCallG, dConsL, dLam, atDs, dCallV, dgU, dSortI, dIItems, dDicM, dDc, dLenSet, itemsD, w_lrg, w_index, w_sortQ, dCut, dDGet, dDGet1, dDGet2, dDPut, dPairs, w_disp, w_newDF, w_newDT, dec_self, List.map_cons, List.map_nil, eqD_bl, eqD_int, eqD_str, eqD_tup, eqD_lst, eqDs_nil, eqDs_nc, eqDs_cn, eqDs_cons, reduceIte, Bool.false_eq_true, Bool.not_true, Bool.not_false, decide_true, decide_false, dVar, atD, setD, startD, dC, dOp, dAnd, dOr, dNot, dIf, dUn, dNil, dCons, dTup, dLst, rInD, rNotInD, dNoPart, dPart, dRev, dFld, DL.fieldsOf, dCB, dNext, dSeq, dBreak, dCont, dDrop, dRet, dRetN, dIfS, dNever, dgN, dgNil, dgCons, dgSub, dAsg, dPar, dPar3, putD, dSetF, dMt, rAppendD, rPopD, rExtendD, lsT, lsR, lsF, itemsR, dFrz, dCall, dCallK, dMeth, dMake, dFor, dIL, dIT, dIR1, dIR2, dIE, dIZ, wipeD, dYes, dLc, dDic0, updM_same, cxOf, asBl_bl, asInt_int, asTup_tup, isN, w_test, w_chain, w_andV, w_orV, w_notV, w_neg, w_sub, w_div, w_mod, w_pow, w_shl, w_shr, w_and, w_or, w_xor, w_lt, w_le, w_gt, w_ge, w_add, w_addS, w_addT, w_addL, w_addF, w_addR, w_mul, w_mulL, w_eq, w_ne, w_isN, w_isB, w_isntN, w_isntB, w_ix, w_isi, w_abs, w_max2, w_min2, w_max1L, w_min1L, w_sum, w_all, w_any, w_len, w_int, w_intB, w_divmod, w_sorted, w_list, w_bits, w_sl, w_slL, w_slF, w_slR, w_slT, w_newF, w_newT, w_eqL, w_eqT, w_eqR, w_neL, w_neT, w_neR, w_dgT, w_derL, w_derT, w_derB, w_derI, w_derN, w_derS, w_eqSS, w_eqBB, w_neSS, w_neBB, w_eqBI, w_eqIN, w_neIN, w_eqNI, w_neNI, w_eqNN, w_neNN, w_NN, w_NI, w_IN])
    exact ⟨_, rfl, rfl, trivial⟩
  (try simp only [dLcM, w_isiM, rReverseD, dMinDef, rInDic, rNotInDic, dIRL, dCallC, dCallG, dConsL, dLam, atDs, dCallV, dgU, dSortI, dIItems, dDicM, dDc, dLenSet, itemsD, w_lrg, w_index, w_sortQ, dCut, dDGet, dDGet1, dDGet2, dDPut, dPairs, w_disp, w_newDF, w_newDT, dec_self, List.map_cons, List.map_nil, eqD_bl, eqD_int, eqD_str, eqD_tup, eqD_lst, eqDs_nil, eqDs_nc, eqDs_cn, eqDs_cons, reduceIte, Bool.false_eq_true, Bool.not_true, Bool.not_false, decide_true, decide_false, dVar, atD, setD, startD, dC, dOp, dAnd, dOr, dNot, dIf, dUn, dNil, dCons, dTup, dLst, rInD, rNotInD, dNoPart, dPart, dRev, dFld, DL.fieldsOf, dCB, dNext, dSeq, dBreak, dCont, dDrop, dRet, dRetN, dIfS, dNever, dgN, dgNil, dgCons, dgSub, dAsg, dPar, dPar3, putD, dSetF, dMt, rAppendD, rPopD, rExtendD, lsT, lsR, lsF, itemsR, dFrz, dCall, dCallK, dMeth, dMake, dFor, dIL, dIT, dIR1, dIR2, dIE, dIZ, wipeD, dYes, dLc, dDic0, updM_same, cxOf, asBl_bl, asInt_int, asTup_tup, isN, w_test, w_chain, w_andV, w_orV, w_notV, w_neg, w_sub, w_div, w_mod, w_pow, w_shl, w_shr, w_and, w_or, w_xor, w_lt, w_le, w_gt, w_ge, w_add, w_addS, w_addT, w_addL, w_addF, w_addR, w_mul, w_mulL, w_eq, w_ne, w_isN, w_isB, w_isntN, w_isntB, w_ix, w_isi, w_abs, w_max2, w_min2, w_max1L, w_min1L, w_sum, w_all, w_any, w_len, w_int, w_intB, w_divmod, w_sorted, w_list, w_bits, w_sl, w_slL, w_slF, w_slR, w_slT, w_newF, w_newT, w_eqL, w_eqT, w_eqR, w_neL, w_neT, w_neR, w_dgT, w_derL, w_derT, w_derB, w_derI, w_derN, w_derS, w_eqSS, w_eqBB, w_neSS, w_neBB, w_eqBI, w_eqIN, w_neIN, w_eqNI, w_neNI, w_eqNN, w_neNN, w_NN, w_NI, w_IN])
  refine cut_is false ?_ ?_
  · (try simp only [dLcM, w_isiM, rReverseD, dMinDef, rInDic, rNotInDic, dIRL, dCallC, dCallG, dConsL, dLam, atDs, dCallV, dgU, dSortI, dIItems, dDicM, dDc, dLenSet, itemsD, w_lrg, w_index, w_sortQ, dCut, dDGet, dDGet1, dDGet2, dDPut, dPairs, w_disp, w_newDF, w_newDT, dec_self, List.map_cons, List.map_nil, eqD_bl, eqD_int, eqD_str, eqD_tup, eqD_lst, eqDs_nil, eqDs_nc, eqDs_cn, eqDs_cons, reduceIte, Bool.false_eq_true, Bool.not_true, Bool.not_false, decide_true, decide_false, dVar, atD, setD, startD, dC, dOp, dAnd, dOr, dNot, dIf, dUn, dNil, dCons, dTup, dLst, rInD, rNotInD, dNoPart, dPart, dRev, dFld, DL.fieldsOf, dCB, dNext, dSeq, dBreak, dCont, dDrop, dRet, dRetN, dIfS, dNever, dgN, dgNil, dgCons, dgSub, dAsg, dPar, dPar3, putD, dSetF, dMt, rAppendD, rPopD, rExtendD, lsT, lsR, lsF, itemsR, dFrz, dCall, dCallK, dMeth, dMake, dFor, dIL, dIT, dIR1, dIR2, dIE, dIZ, wipeD, dYes, dLc, dDic0, updM_same, cxOf, asBl_bl, asInt_int, asTup_tup, isN, w_test, w_chain, w_andV, w_orV, w_notV, w_neg, w_sub, w_div, w_mod, w_pow, w_shl, w_shr, w_and, w_or, w_xor, w_lt, w_le, w_gt, w_ge, w_add, w_addS, w_addT, w_addL, w_addF, w_addR, w_mul, w_mulL, w_eq, w_ne, w_isN, w_isB, w_isntN, w_isntB, w_ix, w_isi, w_abs, w_max2, w_min2, w_max1L, w_min1L, w_sum, w_all, w_any, w_len, w_int, w_intB, w_divmod, w_sorted, w_list, w_bits, w_sl, w_slL, w_slF, w_slR, w_slT, w_newF, w_newT, w_eqL, w_eqT, w_eqR, w_neL, w_neT, w_neR, w_dgT, w_derL, w_derT, w_derB, w_derI, w_derN, w_derS, w_eqSS, w_eqBB, w_neSS, w_neBB, w_eqBI, w_eqIN, w_neIN, w_eqNI, w_neNI, w_eqNN, w_neNN, w_NN, w_NI, w_IN])
    refine ⟨_, _, rfl, atI_nat (j := 0) rfl, b, s, .int a, rfl, hb, trivial, ?_⟩
    rw [betw_in ha]
    (try simp only [dLcM, w_isiM, rReverseD, dMinDef, rInDic, rNotInDic, dIRL, dCallC, dCallG, dConsL, dLam, atDs, dCallV, dgU, dSortI, dIItems, dDicM, dDc, dLenSet, itemsD, w_lrg, w_index, w_sortQ, dCut, dDGet, dDGet1, dDGet2, dDPut, dPairs, w_disp, w_newDF, w_newDT, dec_self, List.map_cons, List.map_nil, eqD_bl, eqD_int, eqD_str, eqD_tup, eqD_lst, eqDs_nil, eqDs_nc, eqDs_cn, eqDs_cons, reduceIte, Bool.false_eq_true, Bool.not_true, Bool.not_false, decide_true, decide_false, dVar, atD, setD, startD, dC, dOp, dAnd, dOr, dNot, dIf, dUn, dNil, dCons, dTup, dLst, rInD, rNotInD, dNoPart, dPart, dRev, dFld, DL.fieldsOf, dCB, dNext, dSeq, dBreak, dCont, dDrop, dRet, dRetN, dIfS, dNever, dgN, dgNil, dgCons, dgSub, dAsg, dPar, dPar3, putD, dSetF, dMt, rAppendD, rPopD, rExtendD, lsT, lsR, lsF, itemsR, dFrz, dCall, dCallK, dMeth, dMake, dFor, dIL, dIT, dIR1, dIR2, dIE, dIZ, wipeD, dYes, dLc, dDic0, updM_same, cxOf, asBl_bl, asInt_int, asTup_tup, isN, w_test, w_chain, w_andV, w_orV, w_notV, w_neg, w_sub, w_div, w_mod, w_pow, w_shl, w_shr, w_and, w_or, w_xor, w_lt, w_le, w_gt, w_ge, w_add, w_addS, w_addT, w_addL, w_addF, w_addR, w_mul, w_mulL, w_eq, w_ne, w_isN, w_isB, w_isntN, w_isntB, w_ix, w_isi, w_abs, w_max2, w_min2, w_max1L, w_min1L, w_sum, w_all, w_any, w_len, w_int, w_intB, w_divmod, w_sorted, w_list, w_bits, w_sl, w_slL, w_slF, w_slR, w_slT, w_newF, w_newT, w_eqL, w_eqT, w_eqR, w_neL, w_neT, w_neR, w_dgT, w_derL, w_derT, w_derB, w_derI, w_derN, w_derS, w_eqSS, w_eqBB, w_neSS, w_neBB, w_eqBI, w_eqIN, w_neIN, w_eqNI, w_neNI, w_eqNN, w_neNN, w_NN, w_NI, w_IN])
    refine ⟨_, _, rfl, atI_nat (j := 1) rfl, b, s, .int c, rfl, hb, trivial, ?_⟩
    rw [betw_in hc]
    (try simp only [dLcM, w_isiM, rReverseD, dMinDef, rInDic, rNotInDic, dIRL, dCallC, dCallG, dConsL, dLam, atDs, dCallV, dgU, dSortI, dIItems, dDicM, dDc, dLenSet, itemsD, w_lrg, w_index, w_sortQ, dCut, dDGet, dDGet1, dDGet2, dDPut, dPairs, w_disp, w_newDF, w_newDT, dec_self, List.map_cons, List.map_nil, eqD_bl, eqD_int, eqD_str, eqD_tup, eqD_lst, eqDs_nil, eqDs_nc, eqDs_cn, eqDs_cons, reduceIte, Bool.false_eq_true, Bool.not_true, Bool.not_false, decide_true, decide_false, dVar, atD, setD, startD, dC, dOp, dAnd, dOr, dNot, dIf, dUn, dNil, dCons, dTup, dLst, rInD, rNotInD, dNoPart, dPart, dRev, dFld, DL.fieldsOf, dCB, dNext, dSeq, dBreak, dCont, dDrop, dRet, dRetN, dIfS, dNever, dgN, dgNil, dgCons, dgSub, dAsg, dPar, dPar3, putD, dSetF, dMt, rAppendD, rPopD, rExtendD, lsT, lsR, lsF, itemsR, dFrz, dCall, dCallK, dMeth, dMake, dFor, dIL, dIT, dIR1, dIR2, dIE, dIZ, wipeD, dYes, dLc, dDic0, updM_same, cxOf, asBl_bl, asInt_int, asTup_tup, isN, w_test, w_chain, w_andV, w_orV, w_notV, w_neg, w_sub, w_div, w_mod, w_pow, w_shl, w_shr, w_and, w_or, w_xor, w_lt, w_le, w_gt, w_ge, w_add, w_addS, w_addT, w_addL, w_addF, w_addR, w_mul, w_mulL, w_eq, w_ne, w_isN, w_isB, w_isntN, w_isntB, w_ix, w_isi, w_abs, w_max2, w_min2, w_max1L, w_min1L, w_sum, w_all, w_any, w_len, w_int, w_intB, w_divmod, w_sorted, w_list, w_bits, w_sl, w_slL, w_slF, w_slR, w_slT, w_newF, w_newT, w_eqL, w_eqT, w_eqR, w_neL, w_neT, w_neR, w_dgT, w_derL, w_derT, w_derB, w_derI, w_derN, w_derS, w_eqSS, w_eqBB, w_neSS, w_neBB, w_eqBI, w_eqIN, w_neIN, w_eqNI, w_neNI, w_eqNN, w_neNN, w_NN, w_NI, w_IN])
    (first | exact ⟨rfl, rfl⟩ | exact ⟨rfl, True.intro⟩ | exact ⟨True.intro, rfl⟩ | exact ⟨True.intro, True.intro⟩)
  (try simp only [dLcM, w_isiM, rReverseD, dMinDef, rInDic, rNotInDic, dIRL, dCallC, dCallG, dConsL, dLam, atDs, dCallV, dgU, dSortI, dIItems, dDicM, dDc, dLenSet, itemsD, w_lrg, w_index, w_sortQ, dCut, dDGet, dDGet1, dDGet2, dDPut, dPairs, w_disp, w_newDF, w_newDT, dec_self, List.map_cons, List.map_nil, eqD_bl, eqD_int, eqD_str, eqD_tup, eqD_lst, eqDs_nil, eqDs_nc, eqDs_cn, eqDs_cons, reduceIte, Bool.false_eq_true, Bool.not_true, Bool.not_false, decide_true, decide_false, dVar, atD, setD, startD, dC, dOp, dAnd, dOr, dNot, dIf, dUn, dNil, dCons, dTup, dLst, rInD, rNotInD, dNoPart, dPart, dRev, dFld, DL.fieldsOf, dCB, dNext, dSeq, dBreak, dCont, dDrop, dRet, dRetN, dIfS, dNever, dgN, dgNil, dgCons, dgSub, dAsg, dPar, dPar3, putD, dSetF, dMt, rAppendD, rPopD, rExtendD, lsT, lsR, lsF, itemsR, dFrz, dCall, dCallK, dMeth, dMake, dFor, dIL, dIT, dIR1, dIR2, dIE, dIZ, wipeD, dYes, dLc, dDic0, updM_same, cxOf, asBl_bl, asInt_int, asTup_tup, isN, w_test, w_chain, w_andV, w_orV, w_notV, w_neg, w_sub, w_div, w_mod, w_pow, w_shl, w_shr, w_and, w_or, w_xor, w_lt, w_le, w_gt, w_ge, w_add, w_addS, w_addT, w_addL, w_addF, w_addR, w_mul, w_mulL, w_eq, w_ne, w_isN, w_isB, w_isntN, w_isntB, w_ix, w_isi, w_abs, w_max2, w_min2, w_max1L, w_min1L, w_sum, w_all, w_any, w_len, w_int, w_intB, w_divmod, w_sorted, w_list, w_bits, w_sl, w_slL, w_slF, w_slR, w_slT, w_newF, w_newT, w_eqL, w_eqT, w_eqR, w_neL, w_neT, w_neR, w_dgT, w_derL, w_derT, w_derB, w_derI, w_derN, w_derS, w_eqSS, w_eqBB, w_neSS, w_neBB, w_eqBI, w_eqIN, w_neIN, w_eqNI, w_neNI, w_eqNN, w_neNN, w_NN, w_NI, w_IN])
  exact endD_of hQ
/-- n steps together: their factor and addend -/
abbrev LineOf (a c : Int) (n b : Nat) (sl sh : Int) : Prop := (0 ≤ sl ∧ sl < 2 ^ b) ∧ (0 ≤ sh ∧ sh < 2 ^ b) ∧ (2 : Int) ^ b ∣ sl - a ^ n ∧ (2 : Int) ^ b ∣ sh - sumP a n * c
/-- what the loop keeps: exact numbers behind those that are told modulo 2 ^ b -/
def LineInv (a c : Int) (n b n2 : Nat) (a2 c2 sl sh : Int) : Prop := ((0 ≤ a2 ∧ a2 < 2 ^ b) ∧ (0 ≤ c2 ∧ c2 < 2 ^ b) ∧ (0 ≤ sl ∧ sl < 2 ^ b) ∧ (0 ≤ sh ∧ sh < 2 ^ b)) ∧
  ∃ a1 c1 sl1 sh1 : Int, (2 : Int) ^ b ∣ a2 - a1 ∧ (2 : Int) ^ b ∣ c2 - c1 ∧ (2 : Int) ^ b ∣ sl - sl1 ∧ (2 : Int) ^ b ∣ sh - sh1 ∧ a1 ^ n2 * sl1 = a ^ n ∧ a1 ^ n2 * sh1 + sumP a1 n2 * c1 = sumP a n * c
theorem em2 (b : Nat) (z : Int) : 0 ≤ z % 2 ^ b ∧ z % 2 ^ b < 2 ^ b := ⟨Int.emod_nonneg _ (by have := two_pos b; omega), Int.emod_lt_of_pos _ (two_pos b)⟩
theorem LineInv.begin {a c : Int} {n b : Nat} : LineInv a c n b n (a % 2 ^ b) (c % 2 ^ b) (1 % 2 ^ b) 0 := ⟨⟨em2 b _, em2 b _, em2 b _, Int.le_refl _, two_pos b⟩, a, c, 1, 0, mod_cong _ _, mod_cong _ _, mod_cong _ _, ⟨0, by simp⟩, by simp, by simp⟩
theorem LineInv.even {a c : Int} {n b n2 : Nat} {a2 c2 sl sh : Int} (h : LineInv a c n b n2 a2 c2 sl sh) (e : ¬ n2 % 2 = 1) : LineInv a c n b (n2 / 2) (a2 * a2 % 2 ^ b) ((a2 * c2 + c2) % 2 ^ b) sl sh := by
  obtain ⟨⟨h1, h2, h3, h4⟩, a1, c1, sl1, sh1, ⟨pa, hpa⟩, ⟨pc, hpc⟩, d1, d2, e1, e2⟩ := h
  obtain ⟨m, rfl⟩ : ∃ m, n2 = 2 * m := ⟨n2 / 2, by omega⟩
  rw [show 2 * m / 2 = m by omega]
  refine ⟨⟨em2 b _, em2 b _, h3, h4⟩, a1 * a1, (1 + a1) * c1, sl1, sh1, ?_, ?_, d1, d2, ?_, ?_⟩
  · obtain ⟨z, hz⟩ := mod_cong (2 ^ b) (a2 * a2)
    exact ⟨z + pa * a2 + a1 * pa, by grind⟩
  · obtain ⟨z, hz⟩ := mod_cong (2 ^ b) (a2 * c2 + c2)
    exact ⟨z + pa * c2 + a1 * pc + pc, by grind⟩
  · rw [← pow_double]
    exact e1
  · rw [← pow_double, ← e2, sum_double]
    grind
theorem LineInv.odd {a c : Int} {n b n2 : Nat} {a2 c2 sl sh : Int} (h : LineInv a c n b n2 a2 c2 sl sh) (e : n2 % 2 = 1) : LineInv a c n b (n2 / 2) (a2 * a2 % 2 ^ b) ((a2 * c2 + c2) % 2 ^ b) (a2 * sl % 2 ^ b) ((a2 * sh + c2) % 2 ^ b) := by
  obtain ⟨⟨h1, h2, h3, h4⟩, a1, c1, sl1, sh1, ⟨pa, hpa⟩, ⟨pc, hpc⟩, ⟨ps, hps⟩, ⟨pt, hpt⟩, e1, e2⟩ := h
  obtain ⟨m, rfl⟩ : ∃ m, n2 = 2 * m + 1 := ⟨n2 / 2, by omega⟩
  rw [show (2 * m + 1) / 2 = m by omega]
  refine ⟨⟨em2 b _, em2 b _, em2 b _, em2 b _⟩, a1 * a1, (1 + a1) * c1, a1 * sl1, a1 * sh1 + c1, ?_, ?_, ?_, ?_, ?_, ?_⟩
  · obtain ⟨z, hz⟩ := mod_cong (2 ^ b) (a2 * a2)
    exact ⟨z + pa * a2 + a1 * pa, by grind⟩
  · obtain ⟨z, hz⟩ := mod_cong (2 ^ b) (a2 * c2 + c2)
    exact ⟨z + pa * c2 + a1 * pc + pc, by grind⟩
  · obtain ⟨z, hz⟩ := mod_cong (2 ^ b) (a2 * sl)
    exact ⟨z + pa * sl + a1 * ps, by grind⟩
  · obtain ⟨z, hz⟩ := mod_cong (2 ^ b) (a2 * sh + c2)
    exact ⟨z + pa * sh + a1 * pt + pc, by grind⟩
  · rw [← pow_double, ← e1, Int.pow_succ]
    grind
  · rw [← pow_double, ← e2, sum_next, sum_double, Int.pow_succ]
    grind
theorem LineInv.done {a c : Int} {n b : Nat} {a2 c2 sl sh : Int} (h : LineInv a c n b 0 a2 c2 sl sh) : LineOf a c n b sl sh := by
  obtain ⟨⟨h1, h2, h3, h4⟩, a1, c1, sl1, sh1, d1, d2, d3, d4, e1, e2⟩ := h
  rw [Int.pow_zero, Int.one_mul] at e1 e2
  rw [show sumP a1 0 = 0 by rfl, Int.zero_mul, Int.add_zero] at e2
  exact ⟨h3, h4, by rw [← e1]; exact d3, by rw [← e2]; exact d4⟩
abbrev sp_line : SpD := fun ds M Q => ∃ (a c : Int) (n b : Nat), ds = [genD a c, .int (n : Nat), .int (b : Nat)] ∧ n < 2 ^ 8000 ∧ b ≤ 300 ∧ ∀ sl sh, LineOf a c n b sl sh → Q (.tup [.int sl, .int sh]) M
theorem ok_line_of (T : Txt K mg C_Kind) : FnD P w K mg base 1 "line_of" s_line_of ["generator", "n", "bits"] (sp_line) := by
  refine fn_mk T.h_line_of sc_line_of 8 rfl (by intro ds M Q h; first | (obtain ⟨rfl, _⟩ := h; rfl) | (obtain ⟨_, rfl, _⟩ := h; rfl) | (obtain ⟨_, _, rfl, _⟩ := h; rfl) | (obtain ⟨_, _, _, rfl, _⟩ := h; rfl) | (obtain ⟨_, _, _, _, rfl, _⟩ := h; rfl) | (obtain ⟨_, _, _, _, _, rfl, _⟩ := h; rfl) | (obtain ⟨_, _, _, _, _, _, rfl, _⟩ := h; rfl) | (obtain ⟨_, _, _, _, _, _, _, rfl, _⟩ := h; rfl) | (obtain ⟨_, _, _, _, _, _, _, _, rfl, _⟩ := h; rfl) | (obtain ⟨_, _, _, _, _, _, _, _, _, rfl, _⟩ := h; rfl) | (obtain ⟨_, _, _, _, _, _, _, _, _, _, rfl, _⟩ := h; rfl) | (obtain ⟨_, _, _, _, _, _, _, _, _, _, _, rfl, _⟩ := h; rfl) | (obtain ⟨_, _, _, _, _, _, _, _, _, _, _, _, rfl, _⟩ := h; rfl)) (fun f cdv A outer s H E hr => ⟨_, (dss_stop (ds_set (i := 3) sc_line_of.nd (de_op od_shl de_int (dv 2)))
    (dss_stop (ds_par (i := 4) (j := 5) sc_line_of.nd (da_cons (de_op od_mod (de_ix (dv 0) de_int) (dv 3)) (da_cons (de_op od_mod (de_ix (dv 0) de_int) (dv 3)) da_nil)))
    (dss_stop (ds_par (i := 6) (j := 7) sc_line_of.nd (da_cons (de_op od_mod de_int (dv 3)) (da_cons de_int da_nil)))
    (dss_stop (ds_while (dt_cmp od_gt (dv 1) de_int)
    (dss_stop (ds_if (dt_cmp (od_eq hr.units) (de_op od_mod (dv 1) de_int) de_int)
    (dss_one (ds_par (i := 6) (j := 7) sc_line_of.nd (da_cons (de_op od_mod (de_op (od_mul false) (dv 4) (dv 6)) (dv 3)) (da_cons (de_op od_mod (de_op (od_add false) (de_op (od_mul false) (dv 4) (dv 7)) (dv 5)) (dv 3)) da_nil))))
    dss_nil)
    (dss_stop (ds_par (i := 4) (j := 5) sc_line_of.nd (da_cons (de_op od_mod (de_op (od_mul false) (dv 4) (dv 4)) (dv 3)) (da_cons (de_op od_mod (de_op (od_add false) (de_op (od_mul false) (dv 4) (dv 5)) (dv 5)) (dv 3)) da_nil)))
    (dss_one (ds_set (i := 1) sc_line_of.nd (de_op od_div (dv 1) de_int))))))
    (dss_one (ds_ret (de_tup (da_cons (dv 6) (da_cons (dv 7) da_nil))))))))), ?_⟩)
  rintro ds M Q ⟨a, c, n, b, rfl, hn, hb, hQ⟩
  have hp := two_pos b
  have hpb : (2 : Int) ^ b ≤ 2 ^ 300 := pow_mono hb
  have mulb : ∀ u v : Int, (0 ≤ u ∧ u < 2 ^ b) → (0 ≤ v ∧ v < 2 ^ b) → IntMulOk u v := fun u v hu hv => mulOk_b (m := 301) (n := 301) (by omega) (by omega) (by decide) (by decide)
  (refine stop_to ?_; (try simp only [dLcM, w_isiM, rReverseD, dMinDef, rInDic, rNotInDic, dIRL, dCallC, dCallG, dConsL, dLam, atDs, dCallV, dgU, dSortI, dIItems, dDicM, dDc, dLenSet, itemsD, w_lrg, w_index, w_sortQ, dCut, dDGet, dDGet1, dDGet2, dDPut, dPairs, w_disp, w_newDF, w_newDT, dec_self, List.map_cons, List.map_nil, eqD_bl, eqD_int, eqD_str, eqD_tup, eqD_lst, eqDs_nil, eqDs_nc, eqDs_cn, eqDs_cons, reduceIte, Bool.false_eq_true, Bool.not_true, Bool.not_false, decide_true, decide_false, dVar, atD, setD, startD, dC, dOp, dAnd, dOr, dNot, dIf, dUn, dNil, dCons, dTup, dLst, rInD, rNotInD, dNoPart, dPart, dRev, dFld, DL.fieldsOf, dCB, dNext, dSeq, dBreak, dCont, dDrop, dRet, dRetN, dIfS, dNever, dgN, dgNil, dgCons, dgSub, dAsg, dPar, dPar3, putD, dSetF, dMt, rAppendD, rPopD, rExtendD, lsT, lsR, lsF, itemsR, dFrz, dCall, dCallK, dMeth, dMake, dFor, dIL, dIT, dIR1, dIR2, dIE, dIZ, wipeD, dYes, dLc, dDic0, updM_same, cxOf, asBl_bl, asInt_int, asTup_tup, isN, w_test, w_chain, w_andV, w_orV, w_notV, w_neg, w_sub, w_div, w_mod, w_pow, w_shl, w_shr, w_and, w_or, w_xor, w_lt, w_le, w_gt, w_ge, w_add, w_addS, w_addT, w_addL, w_addF, w_addR, w_mul, w_mulL, w_eq, w_ne, w_isN, w_isB, w_isntN, w_isntB, w_ix, w_isi, w_abs, w_max2, w_min2, w_max1L, w_min1L, w_sum, w_all, w_any, w_len, w_int, w_intB, w_divmod, w_sorted, w_list, w_bits, w_sl, w_slL, w_slF, w_slR, w_slT, w_newF, w_newT, w_eqL, w_eqT, w_eqR, w_neL, w_neT, w_neR, w_dgT, w_derL, w_derT, w_derB, w_derI, w_derN, w_derS, w_eqSS, w_eqBB, w_neSS, w_neBB, w_eqBI, w_eqIN, w_neIN, w_eqNI, w_neNI, w_eqNN, w_neNN, w_NN, w_NI, w_IN]))
  refine ⟨shl1 (by omega) (by omega), ?_⟩
  rw [Int.one_mul, Int.toNat_natCast]
  (refine stop_to ?_; (try simp only [dLcM, w_isiM, rReverseD, dMinDef, rInDic, rNotInDic, dIRL, dCallC, dCallG, dConsL, dLam, atDs, dCallV, dgU, dSortI, dIItems, dDicM, dDc, dLenSet, itemsD, w_lrg, w_index, w_sortQ, dCut, dDGet, dDGet1, dDGet2, dDPut, dPairs, w_disp, w_newDF, w_newDT, dec_self, List.map_cons, List.map_nil, eqD_bl, eqD_int, eqD_str, eqD_tup, eqD_lst, eqDs_nil, eqDs_nc, eqDs_cn, eqDs_cons, reduceIte, Bool.false_eq_true, Bool.not_true, Bool.not_false, decide_true, decide_false, dVar, atD, setD, startD, dC, dOp, dAnd, dOr, dNot, dIf, dUn, dNil, dCons, dTup, dLst, rInD, rNotInD, dNoPart, dPart, dRev, dFld, DL.fieldsOf, dCB, dNext, dSeq, dBreak, dCont, dDrop, dRet, dRetN, dIfS, dNever, dgN, dgNil, dgCons, dgSub, dAsg, dPar, dPar3, putD, dSetF, dMt, rAppendD, rPopD, rExtendD, lsT, lsR, lsF, itemsR, dFrz, dCall, dCallK, dMeth, dMake, dFor, dIL, dIT, dIR1, dIR2, dIE, dIZ, wipeD, dYes, dLc, dDic0, updM_same, cxOf, asBl_bl, asInt_int, asTup_tup, isN, w_test, w_chain, w_andV, w_orV, w_notV, w_neg, w_sub, w_div, w_mod, w_pow, w_shl, w_shr, w_and, w_or, w_xor, w_lt, w_le, w_gt, w_ge, w_add, w_addS, w_addT, w_addL, w_addF, w_addR, w_mul, w_mulL, w_eq, w_ne, w_isN, w_isB, w_isntN, w_isntB, w_ix, w_isi, w_abs, w_max2, w_min2, w_max1L, w_min1L, w_sum, w_all, w_any, w_len, w_int, w_intB, w_divmod, w_sorted, w_list, w_bits, w_sl, w_slL, w_slF, w_slR, w_slT, w_newF, w_newT, w_eqL, w_eqT, w_eqR, w_neL, w_neT, w_neR, w_dgT, w_derL, w_derT, w_derB, w_derI, w_derN, w_derS, w_eqSS, w_eqBB, w_neSS, w_neBB, w_eqBI, w_eqIN, w_neIN, w_eqNI, w_neNI, w_eqNN, w_neNN, w_NN, w_NI, w_IN]))
  refine ⟨_, _, rfl, atI_nat (j := 0) rfl, ?_⟩
  (try simp only [dLcM, w_isiM, rReverseD, dMinDef, rInDic, rNotInDic, dIRL, dCallC, dCallG, dConsL, dLam, atDs, dCallV, dgU, dSortI, dIItems, dDicM, dDc, dLenSet, itemsD, w_lrg, w_index, w_sortQ, dCut, dDGet, dDGet1, dDGet2, dDPut, dPairs, w_disp, w_newDF, w_newDT, dec_self, List.map_cons, List.map_nil, eqD_bl, eqD_int, eqD_str, eqD_tup, eqD_lst, eqDs_nil, eqDs_nc, eqDs_cn, eqDs_cons, reduceIte, Bool.false_eq_true, Bool.not_true, Bool.not_false, decide_true, decide_false, dVar, atD, setD, startD, dC, dOp, dAnd, dOr, dNot, dIf, dUn, dNil, dCons, dTup, dLst, rInD, rNotInD, dNoPart, dPart, dRev, dFld, DL.fieldsOf, dCB, dNext, dSeq, dBreak, dCont, dDrop, dRet, dRetN, dIfS, dNever, dgN, dgNil, dgCons, dgSub, dAsg, dPar, dPar3, putD, dSetF, dMt, rAppendD, rPopD, rExtendD, lsT, lsR, lsF, itemsR, dFrz, dCall, dCallK, dMeth, dMake, dFor, dIL, dIT, dIR1, dIR2, dIE, dIZ, wipeD, dYes, dLc, dDic0, updM_same, cxOf, asBl_bl, asInt_int, asTup_tup, isN, w_test, w_chain, w_andV, w_orV, w_notV, w_neg, w_sub, w_div, w_mod, w_pow, w_shl, w_shr, w_and, w_or, w_xor, w_lt, w_le, w_gt, w_ge, w_add, w_addS, w_addT, w_addL, w_addF, w_addR, w_mul, w_mulL, w_eq, w_ne, w_isN, w_isB, w_isntN, w_isntB, w_ix, w_isi, w_abs, w_max2, w_min2, w_max1L, w_min1L, w_sum, w_all, w_any, w_len, w_int, w_intB, w_divmod, w_sorted, w_list, w_bits, w_sl, w_slL, w_slF, w_slR, w_slT, w_newF, w_newT, w_eqL, w_eqT, w_eqR, w_neL, w_neT, w_neR, w_dgT, w_derL, w_derT, w_derB, w_derI, w_derN, w_derS, w_eqSS, w_eqBB, w_neSS, w_neBB, w_eqBI, w_eqIN, w_neIN, w_eqNI, w_neNI, w_eqNN, w_neNN, w_NN, w_NI, w_IN])
  refine ⟨by omega, _, _, rfl, atI_nat (j := 1) rfl, ?_⟩
  (try simp only [dLcM, w_isiM, rReverseD, dMinDef, rInDic, rNotInDic, dIRL, dCallC, dCallG, dConsL, dLam, atDs, dCallV, dgU, dSortI, dIItems, dDicM, dDc, dLenSet, itemsD, w_lrg, w_index, w_sortQ, dCut, dDGet, dDGet1, dDGet2, dDPut, dPairs, w_disp, w_newDF, w_newDT, dec_self, List.map_cons, List.map_nil, eqD_bl, eqD_int, eqD_str, eqD_tup, eqD_lst, eqDs_nil, eqDs_nc, eqDs_cn, eqDs_cons, reduceIte, Bool.false_eq_true, Bool.not_true, Bool.not_false, decide_true, decide_false, dVar, atD, setD, startD, dC, dOp, dAnd, dOr, dNot, dIf, dUn, dNil, dCons, dTup, dLst, rInD, rNotInD, dNoPart, dPart, dRev, dFld, DL.fieldsOf, dCB, dNext, dSeq, dBreak, dCont, dDrop, dRet, dRetN, dIfS, dNever, dgN, dgNil, dgCons, dgSub, dAsg, dPar, dPar3, putD, dSetF, dMt, rAppendD, rPopD, rExtendD, lsT, lsR, lsF, itemsR, dFrz, dCall, dCallK, dMeth, dMake, dFor, dIL, dIT, dIR1, dIR2, dIE, dIZ, wipeD, dYes, dLc, dDic0, updM_same, cxOf, asBl_bl, asInt_int, asTup_tup, isN, w_test, w_chain, w_andV, w_orV, w_notV, w_neg, w_sub, w_div, w_mod, w_pow, w_shl, w_shr, w_and, w_or, w_xor, w_lt, w_le, w_gt, w_ge, w_add, w_addS, w_addT, w_addL, w_addF, w_addR, w_mul, w_mulL, w_eq, w_ne, w_isN, w_isB, w_isntN, w_isntB, w_ix, w_isi, w_abs, w_max2, w_min2, w_max1L, w_min1L, w_sum, w_all, w_any, w_len, w_int, w_intB, w_divmod, w_sorted, w_list, w_bits, w_sl, w_slL, w_slF, w_slR, w_slT, w_newF, w_newT, w_eqL, w_eqT, w_eqR, w_neL, w_neT, w_neR, w_dgT, w_derL, w_derT, w_derB, w_derI, w_derN, w_derS, w_eqSS, w_eqBB, w_neSS, w_neBB, w_eqBI, w_eqIN, w_neIN, w_eqNI, w_neNI, w_eqNN, w_neNN, w_NN, w_NI, w_IN])
  refine ⟨by omega, ?_⟩
  rw [fmodP hp, fmodP hp]
  (refine stop_to ?_; (try simp only [dLcM, w_isiM, rReverseD, dMinDef, rInDic, rNotInDic, dIRL, dCallC, dCallG, dConsL, dLam, atDs, dCallV, dgU, dSortI, dIItems, dDicM, dDc, dLenSet, itemsD, w_lrg, w_index, w_sortQ, dCut, dDGet, dDGet1, dDGet2, dDPut, dPairs, w_disp, w_newDF, w_newDT, dec_self, List.map_cons, List.map_nil, eqD_bl, eqD_int, eqD_str, eqD_tup, eqD_lst, eqDs_nil, eqDs_nc, eqDs_cn, eqDs_cons, reduceIte, Bool.false_eq_true, Bool.not_true, Bool.not_false, decide_true, decide_false, dVar, atD, setD, startD, dC, dOp, dAnd, dOr, dNot, dIf, dUn, dNil, dCons, dTup, dLst, rInD, rNotInD, dNoPart, dPart, dRev, dFld, DL.fieldsOf, dCB, dNext, dSeq, dBreak, dCont, dDrop, dRet, dRetN, dIfS, dNever, dgN, dgNil, dgCons, dgSub, dAsg, dPar, dPar3, putD, dSetF, dMt, rAppendD, rPopD, rExtendD, lsT, lsR, lsF, itemsR, dFrz, dCall, dCallK, dMeth, dMake, dFor, dIL, dIT, dIR1, dIR2, dIE, dIZ, wipeD, dYes, dLc, dDic0, updM_same, cxOf, asBl_bl, asInt_int, asTup_tup, isN, w_test, w_chain, w_andV, w_orV, w_notV, w_neg, w_sub, w_div, w_mod, w_pow, w_shl, w_shr, w_and, w_or, w_xor, w_lt, w_le, w_gt, w_ge, w_add, w_addS, w_addT, w_addL, w_addF, w_addR, w_mul, w_mulL, w_eq, w_ne, w_isN, w_isB, w_isntN, w_isntB, w_ix, w_isi, w_abs, w_max2, w_min2, w_max1L, w_min1L, w_sum, w_all, w_any, w_len, w_int, w_intB, w_divmod, w_sorted, w_list, w_bits, w_sl, w_slL, w_slF, w_slR, w_slT, w_newF, w_newT, w_eqL, w_eqT, w_eqR, w_neL, w_neT, w_neR, w_dgT, w_derL, w_derT, w_derB, w_derI, w_derN, w_derS, w_eqSS, w_eqBB, w_neSS, w_neBB, w_eqBI, w_eqIN, w_neIN, w_eqNI, w_neNI, w_eqNN, w_neNN, w_NN, w_NI, w_IN]))
  refine ⟨by omega, ?_⟩
  rw [fmodP hp]
  (refine stop_to ?_; (try simp only [dLcM, w_isiM, rReverseD, dMinDef, rInDic, rNotInDic, dIRL, dCallC, dCallG, dConsL, dLam, atDs, dCallV, dgU, dSortI, dIItems, dDicM, dDc, dLenSet, itemsD, w_lrg, w_index, w_sortQ, dCut, dDGet, dDGet1, dDGet2, dDPut, dPairs, w_disp, w_newDF, w_newDT, dec_self, List.map_cons, List.map_nil, eqD_bl, eqD_int, eqD_str, eqD_tup, eqD_lst, eqDs_nil, eqDs_nc, eqDs_cn, eqDs_cons, reduceIte, Bool.false_eq_true, Bool.not_true, Bool.not_false, decide_true, decide_false, dVar, atD, setD, startD, dC, dOp, dAnd, dOr, dNot, dIf, dUn, dNil, dCons, dTup, dLst, rInD, rNotInD, dNoPart, dPart, dRev, dFld, DL.fieldsOf, dCB, dNext, dSeq, dBreak, dCont, dDrop, dRet, dRetN, dIfS, dNever, dgN, dgNil, dgCons, dgSub, dAsg, dPar, dPar3, putD, dSetF, dMt, rAppendD, rPopD, rExtendD, lsT, lsR, lsF, itemsR, dFrz, dCall, dCallK, dMeth, dMake, dFor, dIL, dIT, dIR1, dIR2, dIE, dIZ, wipeD, dYes, dLc, dDic0, updM_same, cxOf, asBl_bl, asInt_int, asTup_tup, isN, w_test, w_chain, w_andV, w_orV, w_notV, w_neg, w_sub, w_div, w_mod, w_pow, w_shl, w_shr, w_and, w_or, w_xor, w_lt, w_le, w_gt, w_ge, w_add, w_addS, w_addT, w_addL, w_addF, w_addR, w_mul, w_mulL, w_eq, w_ne, w_isN, w_isB, w_isntN, w_isntB, w_ix, w_isi, w_abs, w_max2, w_min2, w_max1L, w_min1L, w_sum, w_all, w_any, w_len, w_int, w_intB, w_divmod, w_sorted, w_list, w_bits, w_sl, w_slL, w_slF, w_slR, w_slT, w_newF, w_newT, w_eqL, w_eqT, w_eqR, w_neL, w_neT, w_neR, w_dgT, w_derL, w_derT, w_derB, w_derI, w_derN, w_derS, w_eqSS, w_eqBB, w_neSS, w_neBB, w_eqBI, w_eqIN, w_neIN, w_eqNI, w_neNI, w_eqNN, w_neNN, w_NN, w_NI, w_IN]))
  refine ⟨fun m ρ M' => M' = M ∧ m < 2 ^ 8000 ∧ ∃ a2 c2 sl sh : Int, ρ = [some (genD a c), some (.int (m : Nat)), some (.int (b : Nat)), some (.int (2 ^ b)), some (.int a2), some (.int c2), some (.int sl), some (.int sh)] ∧ LineInv a c n b m a2 c2 sl sh, ⟨n, rfl, hn, _, _, _, _, rfl, LineInv.begin⟩, ?_⟩
  rintro n2 ρ M' ⟨hM, hn2, a2, c2, sl, sh, rfl, hI⟩
  subst hM
  have ha2 := hI.1.1
  have hc2 := hI.1.2.1
  have hsl := hI.1.2.2.1
  have hsh := hI.1.2.2.2
  (try simp only [dLcM, w_isiM, rReverseD, dMinDef, rInDic, rNotInDic, dIRL, dCallC, dCallG, dConsL, dLam, atDs, dCallV, dgU, dSortI, dIItems, dDicM, dDc, dLenSet, itemsD, w_lrg, w_index, w_sortQ, dCut, dDGet, dDGet1, dDGet2, dDPut, dPairs, w_disp, w_newDF, w_newDT, dec_self, List.map_cons, List.map_nil, eqD_bl, eqD_int, eqD_str, eqD_tup, eqD_lst, eqDs_nil, eqDs_nc, eqDs_cn, eqDs_cons, reduceIte, Bool.false_eq_true, Bool.not_true, Bool.not_false, decide_true, decide_false, dVar, atD, setD, startD, dC, dOp, dAnd, dOr, dNot, dIf, dUn, dNil, dCons, dTup, dLst, rInD, rNotInD, dNoPart, dPart, dRev, dFld, DL.fieldsOf, dCB, dNext, dSeq, dBreak, dCont, dDrop, dRet, dRetN, dIfS, dNever, dgN, dgNil, dgCons, dgSub, dAsg, dPar, dPar3, putD, dSetF, dMt, rAppendD, rPopD, rExtendD, lsT, lsR, lsF, itemsR, dFrz, dCall, dCallK, dMeth, dMake, dFor, dIL, dIT, dIR1, dIR2, dIE, dIZ, wipeD, dYes, dLc, dDic0, updM_same, cxOf, asBl_bl, asInt_int, asTup_tup, isN, w_test, w_chain, w_andV, w_orV, w_notV, w_neg, w_sub, w_div, w_mod, w_pow, w_shl, w_shr, w_and, w_or, w_xor, w_lt, w_le, w_gt, w_ge, w_add, w_addS, w_addT, w_addL, w_addF, w_addR, w_mul, w_mulL, w_eq, w_ne, w_isN, w_isB, w_isntN, w_isntB, w_ix, w_isi, w_abs, w_max2, w_min2, w_max1L, w_min1L, w_sum, w_all, w_any, w_len, w_int, w_intB, w_divmod, w_sorted, w_list, w_bits, w_sl, w_slL, w_slF, w_slR, w_slT, w_newF, w_newT, w_eqL, w_eqT, w_eqR, w_neL, w_neT, w_neR, w_dgT, w_derL, w_derT, w_derB, w_derI, w_derN, w_derS, w_eqSS, w_eqBB, w_neSS, w_neBB, w_eqBI, w_eqIN, w_neIN, w_eqNI, w_neNI, w_eqNN, w_neNN, w_NN, w_NI, w_IN])
  by_cases h0 : (0 : Int) < n2
  · refine if_yes (decide_eq_true h0) ?_
    have hm2 : ((n2 : Int)).fmod 2 = ((n2 % 2 : Nat) : Int) := by rw [fmodP (by decide)]; omega
    have hd2 : ((n2 : Int)).fdiv 2 = ((n2 / 2 : Nat) : Int) := by rw [fdivP (by decide)]; omega
    have hlt : n2 / 2 < n2 := by omega
    refine stop_by (fun ρ' M2 => M2 = M' ∧ ∃ sl sh : Int, ρ' = [some (genD a c), some (.int (n2 : Nat)), some (.int (b : Nat)), some (.int (2 ^ b)), some (.int a2), some (.int c2), some (.int sl), some (.int sh)] ∧ LineInv a c n b (n2 / 2) (a2 * a2 % 2 ^ b) ((a2 * c2 + c2) % 2 ^ b) sl sh) ?_ ?_
    · (try simp only [dLcM, w_isiM, rReverseD, dMinDef, rInDic, rNotInDic, dIRL, dCallC, dCallG, dConsL, dLam, atDs, dCallV, dgU, dSortI, dIItems, dDicM, dDc, dLenSet, itemsD, w_lrg, w_index, w_sortQ, dCut, dDGet, dDGet1, dDGet2, dDPut, dPairs, w_disp, w_newDF, w_newDT, dec_self, List.map_cons, List.map_nil, eqD_bl, eqD_int, eqD_str, eqD_tup, eqD_lst, eqDs_nil, eqDs_nc, eqDs_cn, eqDs_cons, reduceIte, Bool.false_eq_true, Bool.not_true, Bool.not_false, decide_true, decide_false, dVar, atD, setD, startD, dC, dOp, dAnd, dOr, dNot, dIf, dUn, dNil, dCons, dTup, dLst, rInD, rNotInD, dNoPart, dPart, dRev, dFld, DL.fieldsOf, dCB, dNext, dSeq, dBreak, dCont, dDrop, dRet, dRetN, dIfS, dNever, dgN, dgNil, dgCons, dgSub, dAsg, dPar, dPar3, putD, dSetF, dMt, rAppendD, rPopD, rExtendD, lsT, lsR, lsF, itemsR, dFrz, dCall, dCallK, dMeth, dMake, dFor, dIL, dIT, dIR1, dIR2, dIE, dIZ, wipeD, dYes, dLc, dDic0, updM_same, cxOf, asBl_bl, asInt_int, asTup_tup, isN, w_test, w_chain, w_andV, w_orV, w_notV, w_neg, w_sub, w_div, w_mod, w_pow, w_shl, w_shr, w_and, w_or, w_xor, w_lt, w_le, w_gt, w_ge, w_add, w_addS, w_addT, w_addL, w_addF, w_addR, w_mul, w_mulL, w_eq, w_ne, w_isN, w_isB, w_isntN, w_isntB, w_ix, w_isi, w_abs, w_max2, w_min2, w_max1L, w_min1L, w_sum, w_all, w_any, w_len, w_int, w_intB, w_divmod, w_sorted, w_list, w_bits, w_sl, w_slL, w_slF, w_slR, w_slT, w_newF, w_newT, w_eqL, w_eqT, w_eqR, w_neL, w_neT, w_neR, w_dgT, w_derL, w_derT, w_derB, w_derI, w_derN, w_derS, w_eqSS, w_eqBB, w_neSS, w_neBB, w_eqBI, w_eqIN, w_neIN, w_eqNI, w_neNI, w_eqNN, w_neNN, w_NN, w_NI, w_IN])
      refine ⟨by omega, ?_⟩
      rw [hm2]
      by_cases hodd : n2 % 2 = 1
      · refine if_yes (decide_eq_true (by omega)) ⟨mulb _ _ ha2 hsl, by omega, mulb _ _ ha2 hsh, by omega, ?_⟩
        rw [fmodP hp, fmodP hp]
        exact ⟨True.intro, _, _, rfl, hI.odd hodd⟩
      · refine if_no (decide_eq_false (by omega)) ⟨True.intro, _, _, rfl, hI.even hodd⟩
    rintro _ M2 ⟨hM2, sl, sh, rfl, hI2⟩
    subst hM2
    (refine stop_to ?_; (try simp only [dLcM, w_isiM, rReverseD, dMinDef, rInDic, rNotInDic, dIRL, dCallC, dCallG, dConsL, dLam, atDs, dCallV, dgU, dSortI, dIItems, dDicM, dDc, dLenSet, itemsD, w_lrg, w_index, w_sortQ, dCut, dDGet, dDGet1, dDGet2, dDPut, dPairs, w_disp, w_newDF, w_newDT, dec_self, List.map_cons, List.map_nil, eqD_bl, eqD_int, eqD_str, eqD_tup, eqD_lst, eqDs_nil, eqDs_nc, eqDs_cn, eqDs_cons, reduceIte, Bool.false_eq_true, Bool.not_true, Bool.not_false, decide_true, decide_false, dVar, atD, setD, startD, dC, dOp, dAnd, dOr, dNot, dIf, dUn, dNil, dCons, dTup, dLst, rInD, rNotInD, dNoPart, dPart, dRev, dFld, DL.fieldsOf, dCB, dNext, dSeq, dBreak, dCont, dDrop, dRet, dRetN, dIfS, dNever, dgN, dgNil, dgCons, dgSub, dAsg, dPar, dPar3, putD, dSetF, dMt, rAppendD, rPopD, rExtendD, lsT, lsR, lsF, itemsR, dFrz, dCall, dCallK, dMeth, dMake, dFor, dIL, dIT, dIR1, dIR2, dIE, dIZ, wipeD, dYes, dLc, dDic0, updM_same, cxOf, asBl_bl, asInt_int, asTup_tup, isN, w_test, w_chain, w_andV, w_orV, w_notV, w_neg, w_sub, w_div, w_mod, w_pow, w_shl, w_shr, w_and, w_or, w_xor, w_lt, w_le, w_gt, w_ge, w_add, w_addS, w_addT, w_addL, w_addF, w_addR, w_mul, w_mulL, w_eq, w_ne, w_isN, w_isB, w_isntN, w_isntB, w_ix, w_isi, w_abs, w_max2, w_min2, w_max1L, w_min1L, w_sum, w_all, w_any, w_len, w_int, w_intB, w_divmod, w_sorted, w_list, w_bits, w_sl, w_slL, w_slF, w_slR, w_slT, w_newF, w_newT, w_eqL, w_eqT, w_eqR, w_neL, w_neT, w_neR, w_dgT, w_derL, w_derT, w_derB, w_derI, w_derN, w_derS, w_eqSS, w_eqBB, w_neSS, w_neBB, w_eqBI, w_eqIN, w_neIN, w_eqNI, w_neNI, w_eqNN, w_neNN, w_NN, w_NI, w_IN]))
    refine ⟨mulb _ _ ha2 ha2, by omega, mulb _ _ ha2 hc2, by omega, ?_⟩
    rw [fmodP hp, fmodP hp]
    (try simp only [dLcM, w_isiM, rReverseD, dMinDef, rInDic, rNotInDic, dIRL, dCallC, dCallG, dConsL, dLam, atDs, dCallV, dgU, dSortI, dIItems, dDicM, dDc, dLenSet, itemsD, w_lrg, w_index, w_sortQ, dCut, dDGet, dDGet1, dDGet2, dDPut, dPairs, w_disp, w_newDF, w_newDT, dec_self, List.map_cons, List.map_nil, eqD_bl, eqD_int, eqD_str, eqD_tup, eqD_lst, eqDs_nil, eqDs_nc, eqDs_cn, eqDs_cons, reduceIte, Bool.false_eq_true, Bool.not_true, Bool.not_false, decide_true, decide_false, dVar, atD, setD, startD, dC, dOp, dAnd, dOr, dNot, dIf, dUn, dNil, dCons, dTup, dLst, rInD, rNotInD, dNoPart, dPart, dRev, dFld, DL.fieldsOf, dCB, dNext, dSeq, dBreak, dCont, dDrop, dRet, dRetN, dIfS, dNever, dgN, dgNil, dgCons, dgSub, dAsg, dPar, dPar3, putD, dSetF, dMt, rAppendD, rPopD, rExtendD, lsT, lsR, lsF, itemsR, dFrz, dCall, dCallK, dMeth, dMake, dFor, dIL, dIT, dIR1, dIR2, dIE, dIZ, wipeD, dYes, dLc, dDic0, updM_same, cxOf, asBl_bl, asInt_int, asTup_tup, isN, w_test, w_chain, w_andV, w_orV, w_notV, w_neg, w_sub, w_div, w_mod, w_pow, w_shl, w_shr, w_and, w_or, w_xor, w_lt, w_le, w_gt, w_ge, w_add, w_addS, w_addT, w_addL, w_addF, w_addR, w_mul, w_mulL, w_eq, w_ne, w_isN, w_isB, w_isntN, w_isntB, w_ix, w_isi, w_abs, w_max2, w_min2, w_max1L, w_min1L, w_sum, w_all, w_any, w_len, w_int, w_intB, w_divmod, w_sorted, w_list, w_bits, w_sl, w_slL, w_slF, w_slR, w_slT, w_newF, w_newT, w_eqL, w_eqT, w_eqR, w_neL, w_neT, w_neR, w_dgT, w_derL, w_derT, w_derB, w_derI, w_derN, w_derS, w_eqSS, w_eqBB, w_neSS, w_neBB, w_eqBI, w_eqIN, w_neIN, w_eqNI, w_neNI, w_eqNN, w_neNN, w_NN, w_NI, w_IN])
    refine ⟨divOk_b (by decide) (by decide +kernel), ?_⟩
    rw [hd2]
    exact ⟨n2 / 2, hlt, True.intro, Nat.lt_trans hlt hn2, _, _, _, _, rfl, hI2⟩
  · refine if_no (decide_eq_false h0) ?_
    have : n2 = 0 := by omega
    subst this
    (try simp only [dLcM, w_isiM, rReverseD, dMinDef, rInDic, rNotInDic, dIRL, dCallC, dCallG, dConsL, dLam, atDs, dCallV, dgU, dSortI, dIItems, dDicM, dDc, dLenSet, itemsD, w_lrg, w_index, w_sortQ, dCut, dDGet, dDGet1, dDGet2, dDPut, dPairs, w_disp, w_newDF, w_newDT, dec_self, List.map_cons, List.map_nil, eqD_bl, eqD_int, eqD_str, eqD_tup, eqD_lst, eqDs_nil, eqDs_nc, eqDs_cn, eqDs_cons, reduceIte, Bool.false_eq_true, Bool.not_true, Bool.not_false, decide_true, decide_false, dVar, atD, setD, startD, dC, dOp, dAnd, dOr, dNot, dIf, dUn, dNil, dCons, dTup, dLst, rInD, rNotInD, dNoPart, dPart, dRev, dFld, DL.fieldsOf, dCB, dNext, dSeq, dBreak, dCont, dDrop, dRet, dRetN, dIfS, dNever, dgN, dgNil, dgCons, dgSub, dAsg, dPar, dPar3, putD, dSetF, dMt, rAppendD, rPopD, rExtendD, lsT, lsR, lsF, itemsR, dFrz, dCall, dCallK, dMeth, dMake, dFor, dIL, dIT, dIR1, dIR2, dIE, dIZ, wipeD, dYes, dLc, dDic0, updM_same, cxOf, asBl_bl, asInt_int, asTup_tup, isN, w_test, w_chain, w_andV, w_orV, w_notV, w_neg, w_sub, w_div, w_mod, w_pow, w_shl, w_shr, w_and, w_or, w_xor, w_lt, w_le, w_gt, w_ge, w_add, w_addS, w_addT, w_addL, w_addF, w_addR, w_mul, w_mulL, w_eq, w_ne, w_isN, w_isB, w_isntN, w_isntB, w_ix, w_isi, w_abs, w_max2, w_min2, w_max1L, w_min1L, w_sum, w_all, w_any, w_len, w_int, w_intB, w_divmod, w_sorted, w_list, w_bits, w_sl, w_slL, w_slF, w_slR, w_slT, w_newF, w_newT, w_eqL, w_eqT, w_eqR, w_neL, w_neT, w_neR, w_dgT, w_derL, w_derT, w_derB, w_derI, w_derN, w_derS, w_eqSS, w_eqBB, w_neSS, w_neBB, w_eqBI, w_eqIN, w_neIN, w_eqNI, w_neNI, w_eqNN, w_neNN, w_NN, w_NI, w_IN])
    exact ⟨lit_len (n := 2) (by decide), endD_of (hQ _ _ hI.done)⟩
abbrev sp_vb : SpD := fun ds M Q => ∃ (a c x : Int) (n b : Nat), ds = [genD a c, .int x, .int (n : Nat), .int (b : Nat)] ∧ x.natAbs < 2 ^ 600 ∧ n < 2 ^ 8000 ∧ b ≤ 300 ∧ ∀ r : Int, 0 ≤ r → r < 2 ^ b → (2 : Int) ^ b ∣ r - itZ a c x n → Q (.int r) M
theorem ok_value_behind (T : Txt K mg C_Kind) (F_line_of : FnD P w K mg base 1 "line_of" s_line_of ["generator", "n", "bits"] (sp_line)) : FnD P w K mg base 2 "value_behind" s_value_behind ["generator", "x", "n", "bits"] (sp_vb) := by
  refine fn_mk T.h_value_behind sc_value_behind 6 rfl (by intro ds M Q h; first | (obtain ⟨rfl, _⟩ := h; rfl) | (obtain ⟨_, rfl, _⟩ := h; rfl) | (obtain ⟨_, _, rfl, _⟩ := h; rfl) | (obtain ⟨_, _, _, rfl, _⟩ := h; rfl) | (obtain ⟨_, _, _, _, rfl, _⟩ := h; rfl) | (obtain ⟨_, _, _, _, _, rfl, _⟩ := h; rfl) | (obtain ⟨_, _, _, _, _, _, rfl, _⟩ := h; rfl) | (obtain ⟨_, _, _, _, _, _, _, rfl, _⟩ := h; rfl) | (obtain ⟨_, _, _, _, _, _, _, _, rfl, _⟩ := h; rfl) | (obtain ⟨_, _, _, _, _, _, _, _, _, rfl, _⟩ := h; rfl) | (obtain ⟨_, _, _, _, _, _, _, _, _, _, rfl, _⟩ := h; rfl) | (obtain ⟨_, _, _, _, _, _, _, _, _, _, _, rfl, _⟩ := h; rfl) | (obtain ⟨_, _, _, _, _, _, _, _, _, _, _, _, rfl, _⟩ := h; rfl)) (fun f cdv A outer s H E hr => ⟨_, (dss_stop (ds_asg (de_call F_line_of hr (da_cons (dv 0) (da_cons (dv 2) (da_cons (dv 3) da_nil)))) (DGo.dg (vs := [4, 5]) (dgo_tup (n := 2) (dgs_cons (dgo_name (i := 4) (by decide) sc_value_behind.nd rfl) (dgs_cons (dgo_name (i := 5) (by decide) sc_value_behind.nd rfl) dgs_nil)))))
    (dss_one (ds_ret (de_op od_mod (de_op (od_add false) (de_op (od_mul false) (dv 4) (dv 1)) (dv 5)) (de_op od_shl de_int (dv 3)))))), ?_⟩)
  rintro ds M Q ⟨a, c, x, n, b, rfl, hx, hn, hb, hQ⟩
  have hp := two_pos b
  have hpb : (2 : Int) ^ b ≤ 2 ^ 300 := pow_mono hb
  (refine stop_to ?_; (try simp only [dLcM, w_isiM, rReverseD, dMinDef, rInDic, rNotInDic, dIRL, dCallC, dCallG, dConsL, dLam, atDs, dCallV, dgU, dSortI, dIItems, dDicM, dDc, dLenSet, itemsD, w_lrg, w_index, w_sortQ, dCut, dDGet, dDGet1, dDGet2, dDPut, dPairs, w_disp, w_newDF, w_newDT, dec_self, List.map_cons, List.map_nil, eqD_bl, eqD_int, eqD_str, eqD_tup, eqD_lst, eqDs_nil, eqDs_nc, eqDs_cn, eqDs_cons, reduceIte, Bool.false_eq_true, Bool.not_true, Bool.not_false, decide_true, decide_false, dVar, atD, setD, startD, dC, dOp, dAnd, dOr, dNot, dIf, dUn, dNil, dCons, dTup, dLst, rInD, rNotInD, dNoPart, dPart, dRev, dFld, DL.fieldsOf, dCB, dNext, dSeq, dBreak, dCont, dDrop, dRet, dRetN, dIfS, dNever, dgN, dgNil, dgCons, dgSub, dAsg, dPar, dPar3, putD, dSetF, dMt, rAppendD, rPopD, rExtendD, lsT, lsR, lsF, itemsR, dFrz, dCall, dCallK, dMeth, dMake, dFor, dIL, dIT, dIR1, dIR2, dIE, dIZ, wipeD, dYes, dLc, dDic0, updM_same, cxOf, asBl_bl, asInt_int, asTup_tup, isN, w_test, w_chain, w_andV, w_orV, w_notV, w_neg, w_sub, w_div, w_mod, w_pow, w_shl, w_shr, w_and, w_or, w_xor, w_lt, w_le, w_gt, w_ge, w_add, w_addS, w_addT, w_addL, w_addF, w_addR, w_mul, w_mulL, w_eq, w_ne, w_isN, w_isB, w_isntN, w_isntB, w_ix, w_isi, w_abs, w_max2, w_min2, w_max1L, w_min1L, w_sum, w_all, w_any, w_len, w_int, w_intB, w_divmod, w_sorted, w_list, w_bits, w_sl, w_slL, w_slF, w_slR, w_slT, w_newF, w_newT, w_eqL, w_eqT, w_eqR, w_neL, w_neT, w_neR, w_dgT, w_derL, w_derT, w_derB, w_derI, w_derN, w_derS, w_eqSS, w_eqBB, w_neSS, w_neBB, w_eqBI, w_eqIN, w_neIN, w_eqNI, w_neNI, w_eqNN, w_neNN, w_NN, w_NI, w_IN]))
  refine ⟨a, c, n, b, rfl, hn, hb, fun sl sh ⟨h1, h2, ⟨p1, hp1⟩, ⟨p2, hp2⟩⟩ => ⟨rfl, ?_⟩⟩
  (try simp only [dLcM, w_isiM, rReverseD, dMinDef, rInDic, rNotInDic, dIRL, dCallC, dCallG, dConsL, dLam, atDs, dCallV, dgU, dSortI, dIItems, dDicM, dDc, dLenSet, itemsD, w_lrg, w_index, w_sortQ, dCut, dDGet, dDGet1, dDGet2, dDPut, dPairs, w_disp, w_newDF, w_newDT, dec_self, List.map_cons, List.map_nil, eqD_bl, eqD_int, eqD_str, eqD_tup, eqD_lst, eqDs_nil, eqDs_nc, eqDs_cn, eqDs_cons, reduceIte, Bool.false_eq_true, Bool.not_true, Bool.not_false, decide_true, decide_false, dVar, atD, setD, startD, dC, dOp, dAnd, dOr, dNot, dIf, dUn, dNil, dCons, dTup, dLst, rInD, rNotInD, dNoPart, dPart, dRev, dFld, DL.fieldsOf, dCB, dNext, dSeq, dBreak, dCont, dDrop, dRet, dRetN, dIfS, dNever, dgN, dgNil, dgCons, dgSub, dAsg, dPar, dPar3, putD, dSetF, dMt, rAppendD, rPopD, rExtendD, lsT, lsR, lsF, itemsR, dFrz, dCall, dCallK, dMeth, dMake, dFor, dIL, dIT, dIR1, dIR2, dIE, dIZ, wipeD, dYes, dLc, dDic0, updM_same, cxOf, asBl_bl, asInt_int, asTup_tup, isN, w_test, w_chain, w_andV, w_orV, w_notV, w_neg, w_sub, w_div, w_mod, w_pow, w_shl, w_shr, w_and, w_or, w_xor, w_lt, w_le, w_gt, w_ge, w_add, w_addS, w_addT, w_addL, w_addF, w_addR, w_mul, w_mulL, w_eq, w_ne, w_isN, w_isB, w_isntN, w_isntB, w_ix, w_isi, w_abs, w_max2, w_min2, w_max1L, w_min1L, w_sum, w_all, w_any, w_len, w_int, w_intB, w_divmod, w_sorted, w_list, w_bits, w_sl, w_slL, w_slF, w_slR, w_slT, w_newF, w_newT, w_eqL, w_eqT, w_eqR, w_neL, w_neT, w_neR, w_dgT, w_derL, w_derT, w_derB, w_derI, w_derN, w_derS, w_eqSS, w_eqBB, w_neSS, w_neBB, w_eqBI, w_eqIN, w_neIN, w_eqNI, w_neNI, w_eqNN, w_neNN, w_NN, w_NI, w_IN])
  refine ⟨mulOk_b (m := 301) (n := 600) (by omega) hx (by decide) (by decide), shl1 (by omega) (by omega), ?_⟩
  rw [Int.one_mul, Int.toNat_natCast, fmodP hp]
  refine ⟨by omega, endD_of (hQ _ (em2 b _).1 (em2 b _).2 ?_)⟩
  obtain ⟨z, hz⟩ := mod_cong (2 ^ b) (sl * x + sh)
  rw [it_pow]
  exact ⟨z + p1 * x + p2, by grind⟩
abbrev sp_back : SpD := fun ds M Q => ∃ (a c : Int) (b : Nat), ds = [genD a c, .int (b : Nat)] ∧ a % 2 = 1 ∧ a.natAbs < 2 ^ 600 ∧ c.natAbs < 2 ^ 600 ∧ 1 ≤ b ∧ b ≤ 300 ∧ ∀ r, InvOf a b r → Q (genD r (0 - r * c)) M
theorem ok_back_of (T : Txt K mg C_Kind) (F_inverse_of : FnD P w K mg base 1 "inverse_of" s_inverse_of ["n", "bits"] (sp_invof)) : FnD P w K mg base 2 "back_of" s_back_of ["generator", "bits"] (sp_back) := by
  refine fn_mk T.h_back_of sc_back_of 3 rfl (by intro ds M Q h; first | (obtain ⟨rfl, _⟩ := h; rfl) | (obtain ⟨_, rfl, _⟩ := h; rfl) | (obtain ⟨_, _, rfl, _⟩ := h; rfl) | (obtain ⟨_, _, _, rfl, _⟩ := h; rfl) | (obtain ⟨_, _, _, _, rfl, _⟩ := h; rfl) | (obtain ⟨_, _, _, _, _, rfl, _⟩ := h; rfl) | (obtain ⟨_, _, _, _, _, _, rfl, _⟩ := h; rfl) | (obtain ⟨_, _, _, _, _, _, _, rfl, _⟩ := h; rfl) | (obtain ⟨_, _, _, _, _, _, _, _, rfl, _⟩ := h; rfl) | (obtain ⟨_, _, _, _, _, _, _, _, _, rfl, _⟩ := h; rfl) | (obtain ⟨_, _, _, _, _, _, _, _, _, _, rfl, _⟩ := h; rfl) | (obtain ⟨_, _, _, _, _, _, _, _, _, _, _, rfl, _⟩ := h; rfl) | (obtain ⟨_, _, _, _, _, _, _, _, _, _, _, _, rfl, _⟩ := h; rfl)) (fun f cdv A outer s H E hr => ⟨_, (dss_stop (ds_set (i := 2) sc_back_of.nd (de_call F_inverse_of hr (da_cons (de_ix (dv 0) de_int) (da_cons (dv 1) da_nil))))
    (dss_one (ds_ret (de_tup (da_cons (dv 2) (da_cons (de_op od_sub de_int (de_op (od_mul false) (dv 2) (de_ix (dv 0) de_int))) da_nil)))))), ?_⟩)
  rintro ds M Q ⟨a, c, b, rfl, ho, ha, hc, hb1, hb, hQ⟩
  have hpb : (2 : Int) ^ b ≤ 2 ^ 300 := pow_mono hb
  (refine stop_to ?_; (try simp only [dLcM, w_isiM, rReverseD, dMinDef, rInDic, rNotInDic, dIRL, dCallC, dCallG, dConsL, dLam, atDs, dCallV, dgU, dSortI, dIItems, dDicM, dDc, dLenSet, itemsD, w_lrg, w_index, w_sortQ, dCut, dDGet, dDGet1, dDGet2, dDPut, dPairs, w_disp, w_newDF, w_newDT, dec_self, List.map_cons, List.map_nil, eqD_bl, eqD_int, eqD_str, eqD_tup, eqD_lst, eqDs_nil, eqDs_nc, eqDs_cn, eqDs_cons, reduceIte, Bool.false_eq_true, Bool.not_true, Bool.not_false, decide_true, decide_false, dVar, atD, setD, startD, dC, dOp, dAnd, dOr, dNot, dIf, dUn, dNil, dCons, dTup, dLst, rInD, rNotInD, dNoPart, dPart, dRev, dFld, DL.fieldsOf, dCB, dNext, dSeq, dBreak, dCont, dDrop, dRet, dRetN, dIfS, dNever, dgN, dgNil, dgCons, dgSub, dAsg, dPar, dPar3, putD, dSetF, dMt, rAppendD, rPopD, rExtendD, lsT, lsR, lsF, itemsR, dFrz, dCall, dCallK, dMeth, dMake, dFor, dIL, dIT, dIR1, dIR2, dIE, dIZ, wipeD, dYes, dLc, dDic0, updM_same, cxOf, asBl_bl, asInt_int, asTup_tup, isN, w_test, w_chain, w_andV, w_orV, w_notV, w_neg, w_sub, w_div, w_mod, w_pow, w_shl, w_shr, w_and, w_or, w_xor, w_lt, w_le, w_gt, w_ge, w_add, w_addS, w_addT, w_addL, w_addF, w_addR, w_mul, w_mulL, w_eq, w_ne, w_isN, w_isB, w_isntN, w_isntB, w_ix, w_isi, w_abs, w_max2, w_min2, w_max1L, w_min1L, w_sum, w_all, w_any, w_len, w_int, w_intB, w_divmod, w_sorted, w_list, w_bits, w_sl, w_slL, w_slF, w_slR, w_slT, w_newF, w_newT, w_eqL, w_eqT, w_eqR, w_neL, w_neT, w_neR, w_dgT, w_derL, w_derT, w_derB, w_derI, w_derN, w_derS, w_eqSS, w_eqBB, w_neSS, w_neBB, w_eqBI, w_eqIN, w_neIN, w_eqNI, w_neNI, w_eqNN, w_neNN, w_NN, w_NI, w_IN]))
  refine ⟨_, _, rfl, atI_nat (j := 0) rfl, a, b, rfl, ho, Nat.lt_trans ha (by decide +kernel), hb1, by omega, fun r hr => ?_⟩
  (try simp only [dLcM, w_isiM, rReverseD, dMinDef, rInDic, rNotInDic, dIRL, dCallC, dCallG, dConsL, dLam, atDs, dCallV, dgU, dSortI, dIItems, dDicM, dDc, dLenSet, itemsD, w_lrg, w_index, w_sortQ, dCut, dDGet, dDGet1, dDGet2, dDPut, dPairs, w_disp, w_newDF, w_newDT, dec_self, List.map_cons, List.map_nil, eqD_bl, eqD_int, eqD_str, eqD_tup, eqD_lst, eqDs_nil, eqDs_nc, eqDs_cn, eqDs_cons, reduceIte, Bool.false_eq_true, Bool.not_true, Bool.not_false, decide_true, decide_false, dVar, atD, setD, startD, dC, dOp, dAnd, dOr, dNot, dIf, dUn, dNil, dCons, dTup, dLst, rInD, rNotInD, dNoPart, dPart, dRev, dFld, DL.fieldsOf, dCB, dNext, dSeq, dBreak, dCont, dDrop, dRet, dRetN, dIfS, dNever, dgN, dgNil, dgCons, dgSub, dAsg, dPar, dPar3, putD, dSetF, dMt, rAppendD, rPopD, rExtendD, lsT, lsR, lsF, itemsR, dFrz, dCall, dCallK, dMeth, dMake, dFor, dIL, dIT, dIR1, dIR2, dIE, dIZ, wipeD, dYes, dLc, dDic0, updM_same, cxOf, asBl_bl, asInt_int, asTup_tup, isN, w_test, w_chain, w_andV, w_orV, w_notV, w_neg, w_sub, w_div, w_mod, w_pow, w_shl, w_shr, w_and, w_or, w_xor, w_lt, w_le, w_gt, w_ge, w_add, w_addS, w_addT, w_addL, w_addF, w_addR, w_mul, w_mulL, w_eq, w_ne, w_isN, w_isB, w_isntN, w_isntB, w_ix, w_isi, w_abs, w_max2, w_min2, w_max1L, w_min1L, w_sum, w_all, w_any, w_len, w_int, w_intB, w_divmod, w_sorted, w_list, w_bits, w_sl, w_slL, w_slF, w_slR, w_slT, w_newF, w_newT, w_eqL, w_eqT, w_eqR, w_neL, w_neT, w_neR, w_dgT, w_derL, w_derT, w_derB, w_derI, w_derN, w_derS, w_eqSS, w_eqBB, w_neSS, w_neBB, w_eqBI, w_eqIN, w_neIN, w_eqNI, w_neNI, w_eqNN, w_neNN, w_NN, w_NI, w_IN])
  refine ⟨_, _, rfl, atI_nat (j := 1) rfl, ?_⟩
  (try simp only [dLcM, w_isiM, rReverseD, dMinDef, rInDic, rNotInDic, dIRL, dCallC, dCallG, dConsL, dLam, atDs, dCallV, dgU, dSortI, dIItems, dDicM, dDc, dLenSet, itemsD, w_lrg, w_index, w_sortQ, dCut, dDGet, dDGet1, dDGet2, dDPut, dPairs, w_disp, w_newDF, w_newDT, dec_self, List.map_cons, List.map_nil, eqD_bl, eqD_int, eqD_str, eqD_tup, eqD_lst, eqDs_nil, eqDs_nc, eqDs_cn, eqDs_cons, reduceIte, Bool.false_eq_true, Bool.not_true, Bool.not_false, decide_true, decide_false, dVar, atD, setD, startD, dC, dOp, dAnd, dOr, dNot, dIf, dUn, dNil, dCons, dTup, dLst, rInD, rNotInD, dNoPart, dPart, dRev, dFld, DL.fieldsOf, dCB, dNext, dSeq, dBreak, dCont, dDrop, dRet, dRetN, dIfS, dNever, dgN, dgNil, dgCons, dgSub, dAsg, dPar, dPar3, putD, dSetF, dMt, rAppendD, rPopD, rExtendD, lsT, lsR, lsF, itemsR, dFrz, dCall, dCallK, dMeth, dMake, dFor, dIL, dIT, dIR1, dIR2, dIE, dIZ, wipeD, dYes, dLc, dDic0, updM_same, cxOf, asBl_bl, asInt_int, asTup_tup, isN, w_test, w_chain, w_andV, w_orV, w_notV, w_neg, w_sub, w_div, w_mod, w_pow, w_shl, w_shr, w_and, w_or, w_xor, w_lt, w_le, w_gt, w_ge, w_add, w_addS, w_addT, w_addL, w_addF, w_addR, w_mul, w_mulL, w_eq, w_ne, w_isN, w_isB, w_isntN, w_isntB, w_ix, w_isi, w_abs, w_max2, w_min2, w_max1L, w_min1L, w_sum, w_all, w_any, w_len, w_int, w_intB, w_divmod, w_sorted, w_list, w_bits, w_sl, w_slL, w_slF, w_slR, w_slT, w_newF, w_newT, w_eqL, w_eqT, w_eqR, w_neL, w_neT, w_neR, w_dgT, w_derL, w_derT, w_derB, w_derI, w_derN, w_derS, w_eqSS, w_eqBB, w_neSS, w_neBB, w_eqBI, w_eqIN, w_neIN, w_eqNI, w_neNI, w_eqNN, w_neNN, w_NN, w_NI, w_IN])
  have hr1 := hr.1
  exact ⟨mulOk_b (m := 301) (n := 600) (by omega) hc (by decide) (by decide), lit_len (n := 2) (by decide), endD_of (hQ r hr)⟩
abbrev sp_stepped (C : Addr) : SpD := fun ds M Q => ∃ (b : Nat) (s : Bool) (a c x n : Int), ds = [kindD C b s, genD a c, .int x, .int n] ∧ Wd b ∧ InK b s a ∧ InK b s c ∧ InK b s x ∧ n.natAbs < 2 ^ 8000 ∧ (0 ≤ n → Q (.int (placedZ b s (itZ a c x n.toNat))) M) ∧ (n < 0 → a % 2 = 1 ∧ ∀ z, InK b s z → (2 : Int) ^ b ∣ itZ a c z (0 - n).toNat - x → Q (.int z) M)
theorem it_back {a c r x : Int} {b : Nat} (h : (2 : Int) ^ b ∣ a * r - 1) : ∀ n : Nat, (2 : Int) ^ b ∣ itZ a c (itZ r (0 - r * c) x n) n - x
  | 0 => ⟨0, by simp [itZ]⟩
  | n + 1 => by
    obtain ⟨p, hp⟩ := it_back h (c := c) (x := x) n
    obtain ⟨q, hq⟩ := h
    rw [it_left]
    show (2 : Int) ^ b ∣ itZ a c (a * (r * itZ r (0 - r * c) x n + (0 - r * c)) + c) n - x
    have e : (2 : Int) ^ b ∣ (a * (r * itZ r (0 - r * c) x n + (0 - r * c)) + c) - itZ r (0 - r * c) x n := ⟨q * (itZ r (0 - r * c) x n - c), by grind⟩
    obtain ⟨z, hz⟩ := it_cong (a := a) (a' := a) (c := c) (c' := c) ⟨0, by simp⟩ ⟨0, by simp⟩ e n
    exact ⟨z + p, by rw [Int.mul_add (2 ^ b) z p]; omega⟩
theorem ok_stepped (T : Txt K mg C_Kind) (F_check_generator : FnD P w K mg base 4 "check_generator" s_check_generator ["kind", "value"] (sp_chkg C_Kind)) (F_check_value : FnD P w K mg base 4 "check_value" s_check_value ["kind", "argument", "value"] (sp_chkv C_Kind)) (F_placed : FnD P w K mg base 2 "placed" s_placed ["kind", "n"] (sp_placed C_Kind)) (F_value_behind : FnD P w K mg base 2 "value_behind" s_value_behind ["generator", "x", "n", "bits"] (sp_vb)) (F_is_integer : FnD P w K mg base 1 "is_integer" s_is_integer ["value"] (sp_isint C_Kind)) (F_back_of : FnD P w K mg base 2 "back_of" s_back_of ["generator", "bits"] (sp_back)) : FnD P w K mg base 5 "stepped" s_stepped ["kind", "generator", "x", "n"] (sp_stepped C_Kind) := by
  refine fn_mk T.h_stepped sc_stepped 4 rfl (by intro ds M Q h; first | (obtain ⟨rfl, _⟩ := h; rfl) | (obtain ⟨_, rfl, _⟩ := h; rfl) | (obtain ⟨_, _, rfl, _⟩ := h; rfl) | (obtain ⟨_, _, _, rfl, _⟩ := h; rfl) | (obtain ⟨_, _, _, _, rfl, _⟩ := h; rfl) | (obtain ⟨_, _, _, _, _, rfl, _⟩ := h; rfl) | (obtain ⟨_, _, _, _, _, _, rfl, _⟩ := h; rfl) | (obtain ⟨_, _, _, _, _, _, _, rfl, _⟩ := h; rfl) | (obtain ⟨_, _, _, _, _, _, _, _, rfl, _⟩ := h; rfl) | (obtain ⟨_, _, _, _, _, _, _, _, _, rfl, _⟩ := h; rfl) | (obtain ⟨_, _, _, _, _, _, _, _, _, _, rfl, _⟩ := h; rfl) | (obtain ⟨_, _, _, _, _, _, _, _, _, _, _, rfl, _⟩ := h; rfl) | (obtain ⟨_, _, _, _, _, _, _, _, _, _, _, _, rfl, _⟩ := h; rfl)) (fun f cdv A outer s H E hr => ⟨_, (dss_stop (ds_expr (de_call F_check_generator hr (da_cons (dv 0) (da_cons (dv 1) da_nil))))
    (dss_stop (ds_expr (de_call F_check_value hr (da_cons (dv 0) (da_cons de_str (da_cons (dv 2) da_nil)))))
    (dss_stop (ds_if (dt_cut (dt_w (dw_or (dt_not (dt_val (de_call F_is_integer hr (da_cons (dv 3) da_nil)))) (dw_or1 (dt_w (dw_and (dt_cmp od_lt (dv 3) de_int) (dw_and1 (dt_cmp (od_eq hr.units) (de_op od_mod (de_ix (dv 1) de_int) de_int) de_int))))))))
    (dss_one ds_never)
    dss_nil)
    (dss_stop (ds_if (dt_cmp od_lt (dv 3) de_int)
    (dss_one (ds_par (i := 1) (j := 3) sc_stepped.nd (da_cons (de_call F_back_of hr (da_cons (dv 1) (da_cons (de_fld C_Kind 0 T.cl_Kind T.nf_Kind_bits (dv 0)) da_nil))) (da_cons (de_op od_sub de_int (dv 3)) da_nil))))
    dss_nil)
    (dss_one (ds_ret (de_call F_placed hr (da_cons (dv 0) (da_cons (de_call F_value_behind hr (da_cons (dv 1) (da_cons (dv 2) (da_cons (dv 3) (da_cons (de_fld C_Kind 0 T.cl_Kind T.nf_Kind_bits (dv 0)) da_nil))))) da_nil))))))))), ?_⟩)
  rintro ds M Q ⟨b, s, a, c, x, n, rfl, hb, ha, hc, hx, hn, hQ0, hQ1⟩
  have hb2 := hb.2
  have hp := two_pos b
  have hpb : (2 : Int) ^ b ≤ 2 ^ 128 := pow_mono hb.2
  have h600 : (2 : Nat) ^ 200 < 2 ^ 600 := by decide +kernel
  (refine stop_to ?_; (try simp only [dLcM, w_isiM, rReverseD, dMinDef, rInDic, rNotInDic, dIRL, dCallC, dCallG, dConsL, dLam, atDs, dCallV, dgU, dSortI, dIItems, dDicM, dDc, dLenSet, itemsD, w_lrg, w_index, w_sortQ, dCut, dDGet, dDGet1, dDGet2, dDPut, dPairs, w_disp, w_newDF, w_newDT, dec_self, List.map_cons, List.map_nil, eqD_bl, eqD_int, eqD_str, eqD_tup, eqD_lst, eqDs_nil, eqDs_nc, eqDs_cn, eqDs_cons, reduceIte, Bool.false_eq_true, Bool.not_true, Bool.not_false, decide_true, decide_false, dVar, atD, setD, startD, dC, dOp, dAnd, dOr, dNot, dIf, dUn, dNil, dCons, dTup, dLst, rInD, rNotInD, dNoPart, dPart, dRev, dFld, DL.fieldsOf, dCB, dNext, dSeq, dBreak, dCont, dDrop, dRet, dRetN, dIfS, dNever, dgN, dgNil, dgCons, dgSub, dAsg, dPar, dPar3, putD, dSetF, dMt, rAppendD, rPopD, rExtendD, lsT, lsR, lsF, itemsR, dFrz, dCall, dCallK, dMeth, dMake, dFor, dIL, dIT, dIR1, dIR2, dIE, dIZ, wipeD, dYes, dLc, dDic0, updM_same, cxOf, asBl_bl, asInt_int, asTup_tup, isN, w_test, w_chain, w_andV, w_orV, w_notV, w_neg, w_sub, w_div, w_mod, w_pow, w_shl, w_shr, w_and, w_or, w_xor, w_lt, w_le, w_gt, w_ge, w_add, w_addS, w_addT, w_addL, w_addF, w_addR, w_mul, w_mulL, w_eq, w_ne, w_isN, w_isB, w_isntN, w_isntB, w_ix, w_isi, w_abs, w_max2, w_min2, w_max1L, w_min1L, w_sum, w_all, w_any, w_len, w_int, w_intB, w_divmod, w_sorted, w_list, w_bits, w_sl, w_slL, w_slF, w_slR, w_slT, w_newF, w_newT, w_eqL, w_eqT, w_eqR, w_neL, w_neT, w_neR, w_dgT, w_derL, w_derT, w_derB, w_derI, w_derN, w_derS, w_eqSS, w_eqBB, w_neSS, w_neBB, w_eqBI, w_eqIN, w_neIN, w_eqNI, w_neNI, w_eqNN, w_neNN, w_NN, w_NI, w_IN]))
  refine ⟨b, s, a, c, rfl, hb, ha, hc, ?_⟩
  (refine stop_to ?_; (try simp only [dLcM, w_isiM, rReverseD, dMinDef, rInDic, rNotInDic, dIRL, dCallC, dCallG, dConsL, dLam, atDs, dCallV, dgU, dSortI, dIItems, dDicM, dDc, dLenSet, itemsD, w_lrg, w_index, w_sortQ, dCut, dDGet, dDGet1, dDGet2, dDPut, dPairs, w_disp, w_newDF, w_newDT, dec_self, List.map_cons, List.map_nil, eqD_bl, eqD_int, eqD_str, eqD_tup, eqD_lst, eqDs_nil, eqDs_nc, eqDs_cn, eqDs_cons, reduceIte, Bool.false_eq_true, Bool.not_true, Bool.not_false, decide_true, decide_false, dVar, atD, setD, startD, dC, dOp, dAnd, dOr, dNot, dIf, dUn, dNil, dCons, dTup, dLst, rInD, rNotInD, dNoPart, dPart, dRev, dFld, DL.fieldsOf, dCB, dNext, dSeq, dBreak, dCont, dDrop, dRet, dRetN, dIfS, dNever, dgN, dgNil, dgCons, dgSub, dAsg, dPar, dPar3, putD, dSetF, dMt, rAppendD, rPopD, rExtendD, lsT, lsR, lsF, itemsR, dFrz, dCall, dCallK, dMeth, dMake, dFor, dIL, dIT, dIR1, dIR2, dIE, dIZ, wipeD, dYes, dLc, dDic0, updM_same, cxOf, asBl_bl, asInt_int, asTup_tup, isN, w_test, w_chain, w_andV, w_orV, w_notV, w_neg, w_sub, w_div, w_mod, w_pow, w_shl, w_shr, w_and, w_or, w_xor, w_lt, w_le, w_gt, w_ge, w_add, w_addS, w_addT, w_addL, w_addF, w_addR, w_mul, w_mulL, w_eq, w_ne, w_isN, w_isB, w_isntN, w_isntB, w_ix, w_isi, w_abs, w_max2, w_min2, w_max1L, w_min1L, w_sum, w_all, w_any, w_len, w_int, w_intB, w_divmod, w_sorted, w_list, w_bits, w_sl, w_slL, w_slF, w_slR, w_slT, w_newF, w_newT, w_eqL, w_eqT, w_eqR, w_neL, w_neT, w_neR, w_dgT, w_derL, w_derT, w_derB, w_derI, w_derN, w_derS, w_eqSS, w_eqBB, w_neSS, w_neBB, w_eqBI, w_eqIN, w_neIN, w_eqNI, w_neNI, w_eqNN, w_neNN, w_NN, w_NI, w_IN]))
  refine ⟨b, s, _, x, rfl, hb, hx, ?_⟩
  (refine stop_to ?_; (try simp only [dLcM, w_isiM, rReverseD, dMinDef, rInDic, rNotInDic, dIRL, dCallC, dCallG, dConsL, dLam, atDs, dCallV, dgU, dSortI, dIItems, dDicM, dDc, dLenSet, itemsD, w_lrg, w_index, w_sortQ, dCut, dDGet, dDGet1, dDGet2, dDPut, dPairs, w_disp, w_newDF, w_newDT, dec_self, List.map_cons, List.map_nil, eqD_bl, eqD_int, eqD_str, eqD_tup, eqD_lst, eqDs_nil, eqDs_nc, eqDs_cn, eqDs_cons, reduceIte, Bool.false_eq_true, Bool.not_true, Bool.not_false, decide_true, decide_false, dVar, atD, setD, startD, dC, dOp, dAnd, dOr, dNot, dIf, dUn, dNil, dCons, dTup, dLst, rInD, rNotInD, dNoPart, dPart, dRev, dFld, DL.fieldsOf, dCB, dNext, dSeq, dBreak, dCont, dDrop, dRet, dRetN, dIfS, dNever, dgN, dgNil, dgCons, dgSub, dAsg, dPar, dPar3, putD, dSetF, dMt, rAppendD, rPopD, rExtendD, lsT, lsR, lsF, itemsR, dFrz, dCall, dCallK, dMeth, dMake, dFor, dIL, dIT, dIR1, dIR2, dIE, dIZ, wipeD, dYes, dLc, dDic0, updM_same, cxOf, asBl_bl, asInt_int, asTup_tup, isN, w_test, w_chain, w_andV, w_orV, w_notV, w_neg, w_sub, w_div, w_mod, w_pow, w_shl, w_shr, w_and, w_or, w_xor, w_lt, w_le, w_gt, w_ge, w_add, w_addS, w_addT, w_addL, w_addF, w_addR, w_mul, w_mulL, w_eq, w_ne, w_isN, w_isB, w_isntN, w_isntB, w_ix, w_isi, w_abs, w_max2, w_min2, w_max1L, w_min1L, w_sum, w_all, w_any, w_len, w_int, w_intB, w_divmod, w_sorted, w_list, w_bits, w_sl, w_slL, w_slF, w_slR, w_slT, w_newF, w_newT, w_eqL, w_eqT, w_eqR, w_neL, w_neT, w_neR, w_dgT, w_derL, w_derT, w_derB, w_derI, w_derN, w_derS, w_eqSS, w_eqBB, w_neSS, w_neBB, w_eqBI, w_eqIN, w_neIN, w_eqNI, w_neNI, w_eqNN, w_neNN, w_NN, w_NI, w_IN]))
  by_cases h : n < 0
  · obtain ⟨ho, hQ1⟩ := hQ1 h
    refine cut_is false ?_ ?_
    · (try simp only [dLcM, w_isiM, rReverseD, dMinDef, rInDic, rNotInDic, dIRL, dCallC, dCallG, dConsL, dLam, atDs, dCallV, dgU, dSortI, dIItems, dDicM, dDc, dLenSet, itemsD, w_lrg, w_index, w_sortQ, dCut, dDGet, dDGet1, dDGet2, dDPut, dPairs, w_disp, w_newDF, w_newDT, dec_self, List.map_cons, List.map_nil, eqD_bl, eqD_int, eqD_str, eqD_tup, eqD_lst, eqDs_nil, eqDs_nc, eqDs_cn, eqDs_cons, reduceIte, Bool.false_eq_true, Bool.not_true, Bool.not_false, decide_true, decide_false, dVar, atD, setD, startD, dC, dOp, dAnd, dOr, dNot, dIf, dUn, dNil, dCons, dTup, dLst, rInD, rNotInD, dNoPart, dPart, dRev, dFld, DL.fieldsOf, dCB, dNext, dSeq, dBreak, dCont, dDrop, dRet, dRetN, dIfS, dNever, dgN, dgNil, dgCons, dgSub, dAsg, dPar, dPar3, putD, dSetF, dMt, rAppendD, rPopD, rExtendD, lsT, lsR, lsF, itemsR, dFrz, dCall, dCallK, dMeth, dMake, dFor, dIL, dIT, dIR1, dIR2, dIE, dIZ, wipeD, dYes, dLc, dDic0, updM_same, cxOf, asBl_bl, asInt_int, asTup_tup, isN, w_test, w_chain, w_andV, w_orV, w_notV, w_neg, w_sub, w_div, w_mod, w_pow, w_shl, w_shr, w_and, w_or, w_xor, w_lt, w_le, w_gt, w_ge, w_add, w_addS, w_addT, w_addL, w_addF, w_addR, w_mul, w_mulL, w_eq, w_ne, w_isN, w_isB, w_isntN, w_isntB, w_ix, w_isi, w_abs, w_max2, w_min2, w_max1L, w_min1L, w_sum, w_all, w_any, w_len, w_int, w_intB, w_divmod, w_sorted, w_list, w_bits, w_sl, w_slL, w_slF, w_slR, w_slT, w_newF, w_newT, w_eqL, w_eqT, w_eqR, w_neL, w_neT, w_neR, w_dgT, w_derL, w_derT, w_derB, w_derI, w_derN, w_derS, w_eqSS, w_eqBB, w_neSS, w_neBB, w_eqBI, w_eqIN, w_neIN, w_eqNI, w_neNI, w_eqNN, w_neNN, w_NN, w_NI, w_IN])
      refine ⟨_, rfl, trivial, ?_⟩
      simp only [isIntD]
      (try simp only [dLcM, w_isiM, rReverseD, dMinDef, rInDic, rNotInDic, dIRL, dCallC, dCallG, dConsL, dLam, atDs, dCallV, dgU, dSortI, dIItems, dDicM, dDc, dLenSet, itemsD, w_lrg, w_index, w_sortQ, dCut, dDGet, dDGet1, dDGet2, dDPut, dPairs, w_disp, w_newDF, w_newDT, dec_self, List.map_cons, List.map_nil, eqD_bl, eqD_int, eqD_str, eqD_tup, eqD_lst, eqDs_nil, eqDs_nc, eqDs_cn, eqDs_cons, reduceIte, Bool.false_eq_true, Bool.not_true, Bool.not_false, decide_true, decide_false, dVar, atD, setD, startD, dC, dOp, dAnd, dOr, dNot, dIf, dUn, dNil, dCons, dTup, dLst, rInD, rNotInD, dNoPart, dPart, dRev, dFld, DL.fieldsOf, dCB, dNext, dSeq, dBreak, dCont, dDrop, dRet, dRetN, dIfS, dNever, dgN, dgNil, dgCons, dgSub, dAsg, dPar, dPar3, putD, dSetF, dMt, rAppendD, rPopD, rExtendD, lsT, lsR, lsF, itemsR, dFrz, dCall, dCallK, dMeth, dMake, dFor, dIL, dIT, dIR1, dIR2, dIE, dIZ, wipeD, dYes, dLc, dDic0, updM_same, cxOf, asBl_bl, asInt_int, asTup_tup, isN, w_test, w_chain, w_andV, w_orV, w_notV, w_neg, w_sub, w_div, w_mod, w_pow, w_shl, w_shr, w_and, w_or, w_xor, w_lt, w_le, w_gt, w_ge, w_add, w_addS, w_addT, w_addL, w_addF, w_addR, w_mul, w_mulL, w_eq, w_ne, w_isN, w_isB, w_isntN, w_isntB, w_ix, w_isi, w_abs, w_max2, w_min2, w_max1L, w_min1L, w_sum, w_all, w_any, w_len, w_int, w_intB, w_divmod, w_sorted, w_list, w_bits, w_sl, w_slL, w_slF, w_slR, w_slT, w_newF, w_newT, w_eqL, w_eqT, w_eqR, w_neL, w_neT, w_neR, w_dgT, w_derL, w_derT, w_derB, w_derI, w_derN, w_derS, w_eqSS, w_eqBB, w_neSS, w_neBB, w_eqBI, w_eqIN, w_neIN, w_eqNI, w_neNI, w_eqNN, w_neNN, w_NN, w_NI, w_IN])
      refine if_yes (decide_eq_true h) ⟨_, _, rfl, atI_nat (j := 0) rfl, ?_⟩
      (try simp only [dLcM, w_isiM, rReverseD, dMinDef, rInDic, rNotInDic, dIRL, dCallC, dCallG, dConsL, dLam, atDs, dCallV, dgU, dSortI, dIItems, dDicM, dDc, dLenSet, itemsD, w_lrg, w_index, w_sortQ, dCut, dDGet, dDGet1, dDGet2, dDPut, dPairs, w_disp, w_newDF, w_newDT, dec_self, List.map_cons, List.map_nil, eqD_bl, eqD_int, eqD_str, eqD_tup, eqD_lst, eqDs_nil, eqDs_nc, eqDs_cn, eqDs_cons, reduceIte, Bool.false_eq_true, Bool.not_true, Bool.not_false, decide_true, decide_false, dVar, atD, setD, startD, dC, dOp, dAnd, dOr, dNot, dIf, dUn, dNil, dCons, dTup, dLst, rInD, rNotInD, dNoPart, dPart, dRev, dFld, DL.fieldsOf, dCB, dNext, dSeq, dBreak, dCont, dDrop, dRet, dRetN, dIfS, dNever, dgN, dgNil, dgCons, dgSub, dAsg, dPar, dPar3, putD, dSetF, dMt, rAppendD, rPopD, rExtendD, lsT, lsR, lsF, itemsR, dFrz, dCall, dCallK, dMeth, dMake, dFor, dIL, dIT, dIR1, dIR2, dIE, dIZ, wipeD, dYes, dLc, dDic0, updM_same, cxOf, asBl_bl, asInt_int, asTup_tup, isN, w_test, w_chain, w_andV, w_orV, w_notV, w_neg, w_sub, w_div, w_mod, w_pow, w_shl, w_shr, w_and, w_or, w_xor, w_lt, w_le, w_gt, w_ge, w_add, w_addS, w_addT, w_addL, w_addF, w_addR, w_mul, w_mulL, w_eq, w_ne, w_isN, w_isB, w_isntN, w_isntB, w_ix, w_isi, w_abs, w_max2, w_min2, w_max1L, w_min1L, w_sum, w_all, w_any, w_len, w_int, w_intB, w_divmod, w_sorted, w_list, w_bits, w_sl, w_slL, w_slF, w_slR, w_slT, w_newF, w_newT, w_eqL, w_eqT, w_eqR, w_neL, w_neT, w_neR, w_dgT, w_derL, w_derT, w_derB, w_derI, w_derN, w_derS, w_eqSS, w_eqBB, w_neSS, w_neBB, w_eqBI, w_eqIN, w_neIN, w_eqNI, w_neNI, w_eqNN, w_neNN, w_NN, w_NI, w_IN])
      refine ⟨by decide, ?_⟩
      rw [fmodP (by decide), decide_eq_false (by omega)]
      (first | exact ⟨rfl, rfl⟩ | exact ⟨rfl, True.intro⟩ | exact ⟨True.intro, rfl⟩ | exact ⟨True.intro, True.intro⟩)
    (try simp only [dLcM, w_isiM, rReverseD, dMinDef, rInDic, rNotInDic, dIRL, dCallC, dCallG, dConsL, dLam, atDs, dCallV, dgU, dSortI, dIItems, dDicM, dDc, dLenSet, itemsD, w_lrg, w_index, w_sortQ, dCut, dDGet, dDGet1, dDGet2, dDPut, dPairs, w_disp, w_newDF, w_newDT, dec_self, List.map_cons, List.map_nil, eqD_bl, eqD_int, eqD_str, eqD_tup, eqD_lst, eqDs_nil, eqDs_nc, eqDs_cn, eqDs_cons, reduceIte, Bool.false_eq_true, Bool.not_true, Bool.not_false, decide_true, decide_false, dVar, atD, setD, startD, dC, dOp, dAnd, dOr, dNot, dIf, dUn, dNil, dCons, dTup, dLst, rInD, rNotInD, dNoPart, dPart, dRev, dFld, DL.fieldsOf, dCB, dNext, dSeq, dBreak, dCont, dDrop, dRet, dRetN, dIfS, dNever, dgN, dgNil, dgCons, dgSub, dAsg, dPar, dPar3, putD, dSetF, dMt, rAppendD, rPopD, rExtendD, lsT, lsR, lsF, itemsR, dFrz, dCall, dCallK, dMeth, dMake, dFor, dIL, dIT, dIR1, dIR2, dIE, dIZ, wipeD, dYes, dLc, dDic0, updM_same, cxOf, asBl_bl, asInt_int, asTup_tup, isN, w_test, w_chain, w_andV, w_orV, w_notV, w_neg, w_sub, w_div, w_mod, w_pow, w_shl, w_shr, w_and, w_or, w_xor, w_lt, w_le, w_gt, w_ge, w_add, w_addS, w_addT, w_addL, w_addF, w_addR, w_mul, w_mulL, w_eq, w_ne, w_isN, w_isB, w_isntN, w_isntB, w_ix, w_isi, w_abs, w_max2, w_min2, w_max1L, w_min1L, w_sum, w_all, w_any, w_len, w_int, w_intB, w_divmod, w_sorted, w_list, w_bits, w_sl, w_slL, w_slF, w_slR, w_slT, w_newF, w_newT, w_eqL, w_eqT, w_eqR, w_neL, w_neT, w_neR, w_dgT, w_derL, w_derT, w_derB, w_derI, w_derN, w_derS, w_eqSS, w_eqBB, w_neSS, w_neBB, w_eqBI, w_eqIN, w_neIN, w_eqNI, w_neNI, w_eqNN, w_neNN, w_NN, w_NI, w_IN])
    (refine stop_to ?_; (try simp only [dLcM, w_isiM, rReverseD, dMinDef, rInDic, rNotInDic, dIRL, dCallC, dCallG, dConsL, dLam, atDs, dCallV, dgU, dSortI, dIItems, dDicM, dDc, dLenSet, itemsD, w_lrg, w_index, w_sortQ, dCut, dDGet, dDGet1, dDGet2, dDPut, dPairs, w_disp, w_newDF, w_newDT, dec_self, List.map_cons, List.map_nil, eqD_bl, eqD_int, eqD_str, eqD_tup, eqD_lst, eqDs_nil, eqDs_nc, eqDs_cn, eqDs_cons, reduceIte, Bool.false_eq_true, Bool.not_true, Bool.not_false, decide_true, decide_false, dVar, atD, setD, startD, dC, dOp, dAnd, dOr, dNot, dIf, dUn, dNil, dCons, dTup, dLst, rInD, rNotInD, dNoPart, dPart, dRev, dFld, DL.fieldsOf, dCB, dNext, dSeq, dBreak, dCont, dDrop, dRet, dRetN, dIfS, dNever, dgN, dgNil, dgCons, dgSub, dAsg, dPar, dPar3, putD, dSetF, dMt, rAppendD, rPopD, rExtendD, lsT, lsR, lsF, itemsR, dFrz, dCall, dCallK, dMeth, dMake, dFor, dIL, dIT, dIR1, dIR2, dIE, dIZ, wipeD, dYes, dLc, dDic0, updM_same, cxOf, asBl_bl, asInt_int, asTup_tup, isN, w_test, w_chain, w_andV, w_orV, w_notV, w_neg, w_sub, w_div, w_mod, w_pow, w_shl, w_shr, w_and, w_or, w_xor, w_lt, w_le, w_gt, w_ge, w_add, w_addS, w_addT, w_addL, w_addF, w_addR, w_mul, w_mulL, w_eq, w_ne, w_isN, w_isB, w_isntN, w_isntB, w_ix, w_isi, w_abs, w_max2, w_min2, w_max1L, w_min1L, w_sum, w_all, w_any, w_len, w_int, w_intB, w_divmod, w_sorted, w_list, w_bits, w_sl, w_slL, w_slF, w_slR, w_slT, w_newF, w_newT, w_eqL, w_eqT, w_eqR, w_neL, w_neT, w_neR, w_dgT, w_derL, w_derT, w_derB, w_derI, w_derN, w_derS, w_eqSS, w_eqBB, w_neSS, w_neBB, w_eqBI, w_eqIN, w_neIN, w_eqNI, w_neNI, w_eqNN, w_neNN, w_NN, w_NI, w_IN]))
    refine if_yes (decide_eq_true h) ⟨_, _, rfl, rfl, a, c, b, rfl, ho, Nat.lt_trans (in_small hb ha) h600, Nat.lt_trans (in_small hb hc) h600, hb.1, by omega, fun r hr => ?_⟩
    obtain ⟨m, hm⟩ := Int.eq_ofNat_of_zero_le (show 0 ≤ 0 - n by omega)
    rw [hm] at hQ1 ⊢
    rw [Int.toNat_natCast] at hQ1
    (try simp only [dLcM, w_isiM, rReverseD, dMinDef, rInDic, rNotInDic, dIRL, dCallC, dCallG, dConsL, dLam, atDs, dCallV, dgU, dSortI, dIItems, dDicM, dDc, dLenSet, itemsD, w_lrg, w_index, w_sortQ, dCut, dDGet, dDGet1, dDGet2, dDPut, dPairs, w_disp, w_newDF, w_newDT, dec_self, List.map_cons, List.map_nil, eqD_bl, eqD_int, eqD_str, eqD_tup, eqD_lst, eqDs_nil, eqDs_nc, eqDs_cn, eqDs_cons, reduceIte, Bool.false_eq_true, Bool.not_true, Bool.not_false, decide_true, decide_false, dVar, atD, setD, startD, dC, dOp, dAnd, dOr, dNot, dIf, dUn, dNil, dCons, dTup, dLst, rInD, rNotInD, dNoPart, dPart, dRev, dFld, DL.fieldsOf, dCB, dNext, dSeq, dBreak, dCont, dDrop, dRet, dRetN, dIfS, dNever, dgN, dgNil, dgCons, dgSub, dAsg, dPar, dPar3, putD, dSetF, dMt, rAppendD, rPopD, rExtendD, lsT, lsR, lsF, itemsR, dFrz, dCall, dCallK, dMeth, dMake, dFor, dIL, dIT, dIR1, dIR2, dIE, dIZ, wipeD, dYes, dLc, dDic0, updM_same, cxOf, asBl_bl, asInt_int, asTup_tup, isN, w_test, w_chain, w_andV, w_orV, w_notV, w_neg, w_sub, w_div, w_mod, w_pow, w_shl, w_shr, w_and, w_or, w_xor, w_lt, w_le, w_gt, w_ge, w_add, w_addS, w_addT, w_addL, w_addF, w_addR, w_mul, w_mulL, w_eq, w_ne, w_isN, w_isB, w_isntN, w_isntB, w_ix, w_isi, w_abs, w_max2, w_min2, w_max1L, w_min1L, w_sum, w_all, w_any, w_len, w_int, w_intB, w_divmod, w_sorted, w_list, w_bits, w_sl, w_slL, w_slF, w_slR, w_slT, w_newF, w_newT, w_eqL, w_eqT, w_eqR, w_neL, w_neT, w_neR, w_dgT, w_derL, w_derT, w_derB, w_derI, w_derN, w_derS, w_eqSS, w_eqBB, w_neSS, w_neBB, w_eqBI, w_eqIN, w_neIN, w_eqNI, w_neNI, w_eqNN, w_neNN, w_NN, w_NI, w_IN])
    refine ⟨_, _, rfl, rfl, r, 0 - r * c, x, m, b, rfl, Nat.lt_trans (in_small hb hx) h600, by omega, by omega, fun v v0 v1 hv => ?_⟩
    refine ⟨b, s, v, rfl, hb, endD_of (hQ1 _ (placed_inK b s v) ?_)⟩
    obtain ⟨y, hy⟩ := placed_cong b s v
    obtain ⟨z, hz⟩ := hv
    have e : (2 : Int) ^ b ∣ placedZ b s v - itZ r (0 - r * c) x m := ⟨y + z, by rw [Int.mul_add]; omega⟩
    obtain ⟨w1, hw1⟩ := it_cong (a := a) (a' := a) (c := c) (c' := c) ⟨0, by simp⟩ ⟨0, by simp⟩ e m
    obtain ⟨w2, hw2⟩ := it_back hr.2 (c := c) (x := x) m
    exact ⟨w1 + w2, by rw [Int.mul_add]; omega⟩
  · have hQ0 := hQ0 (by omega)
    obtain ⟨m, rfl⟩ := Int.eq_ofNat_of_zero_le (show 0 ≤ n by omega)
    rw [Int.toNat_natCast] at hQ0
    refine cut_is false ?_ ?_
    · (try simp only [dLcM, w_isiM, rReverseD, dMinDef, rInDic, rNotInDic, dIRL, dCallC, dCallG, dConsL, dLam, atDs, dCallV, dgU, dSortI, dIItems, dDicM, dDc, dLenSet, itemsD, w_lrg, w_index, w_sortQ, dCut, dDGet, dDGet1, dDGet2, dDPut, dPairs, w_disp, w_newDF, w_newDT, dec_self, List.map_cons, List.map_nil, eqD_bl, eqD_int, eqD_str, eqD_tup, eqD_lst, eqDs_nil, eqDs_nc, eqDs_cn, eqDs_cons, reduceIte, Bool.false_eq_true, Bool.not_true, Bool.not_false, decide_true, decide_false, dVar, atD, setD, startD, dC, dOp, dAnd, dOr, dNot, dIf, dUn, dNil, dCons, dTup, dLst, rInD, rNotInD, dNoPart, dPart, dRev, dFld, DL.fieldsOf, dCB, dNext, dSeq, dBreak, dCont, dDrop, dRet, dRetN, dIfS, dNever, dgN, dgNil, dgCons, dgSub, dAsg, dPar, dPar3, putD, dSetF, dMt, rAppendD, rPopD, rExtendD, lsT, lsR, lsF, itemsR, dFrz, dCall, dCallK, dMeth, dMake, dFor, dIL, dIT, dIR1, dIR2, dIE, dIZ, wipeD, dYes, dLc, dDic0, updM_same, cxOf, asBl_bl, asInt_int, asTup_tup, isN, w_test, w_chain, w_andV, w_orV, w_notV, w_neg, w_sub, w_div, w_mod, w_pow, w_shl, w_shr, w_and, w_or, w_xor, w_lt, w_le, w_gt, w_ge, w_add, w_addS, w_addT, w_addL, w_addF, w_addR, w_mul, w_mulL, w_eq, w_ne, w_isN, w_isB, w_isntN, w_isntB, w_ix, w_isi, w_abs, w_max2, w_min2, w_max1L, w_min1L, w_sum, w_all, w_any, w_len, w_int, w_intB, w_divmod, w_sorted, w_list, w_bits, w_sl, w_slL, w_slF, w_slR, w_slT, w_newF, w_newT, w_eqL, w_eqT, w_eqR, w_neL, w_neT, w_neR, w_dgT, w_derL, w_derT, w_derB, w_derI, w_derN, w_derS, w_eqSS, w_eqBB, w_neSS, w_neBB, w_eqBI, w_eqIN, w_neIN, w_eqNI, w_neNI, w_eqNN, w_neNN, w_NN, w_NI, w_IN])
      refine ⟨_, rfl, trivial, ?_⟩
      simp only [isIntD]
      (try simp only [dLcM, w_isiM, rReverseD, dMinDef, rInDic, rNotInDic, dIRL, dCallC, dCallG, dConsL, dLam, atDs, dCallV, dgU, dSortI, dIItems, dDicM, dDc, dLenSet, itemsD, w_lrg, w_index, w_sortQ, dCut, dDGet, dDGet1, dDGet2, dDPut, dPairs, w_disp, w_newDF, w_newDT, dec_self, List.map_cons, List.map_nil, eqD_bl, eqD_int, eqD_str, eqD_tup, eqD_lst, eqDs_nil, eqDs_nc, eqDs_cn, eqDs_cons, reduceIte, Bool.false_eq_true, Bool.not_true, Bool.not_false, decide_true, decide_false, dVar, atD, setD, startD, dC, dOp, dAnd, dOr, dNot, dIf, dUn, dNil, dCons, dTup, dLst, rInD, rNotInD, dNoPart, dPart, dRev, dFld, DL.fieldsOf, dCB, dNext, dSeq, dBreak, dCont, dDrop, dRet, dRetN, dIfS, dNever, dgN, dgNil, dgCons, dgSub, dAsg, dPar, dPar3, putD, dSetF, dMt, rAppendD, rPopD, rExtendD, lsT, lsR, lsF, itemsR, dFrz, dCall, dCallK, dMeth, dMake, dFor, dIL, dIT, dIR1, dIR2, dIE, dIZ, wipeD, dYes, dLc, dDic0, updM_same, cxOf, asBl_bl, asInt_int, asTup_tup, isN, w_test, w_chain, w_andV, w_orV, w_notV, w_neg, w_sub, w_div, w_mod, w_pow, w_shl, w_shr, w_and, w_or, w_xor, w_lt, w_le, w_gt, w_ge, w_add, w_addS, w_addT, w_addL, w_addF, w_addR, w_mul, w_mulL, w_eq, w_ne, w_isN, w_isB, w_isntN, w_isntB, w_ix, w_isi, w_abs, w_max2, w_min2, w_max1L, w_min1L, w_sum, w_all, w_any, w_len, w_int, w_intB, w_divmod, w_sorted, w_list, w_bits, w_sl, w_slL, w_slF, w_slR, w_slT, w_newF, w_newT, w_eqL, w_eqT, w_eqR, w_neL, w_neT, w_neR, w_dgT, w_derL, w_derT, w_derB, w_derI, w_derN, w_derS, w_eqSS, w_eqBB, w_neSS, w_neBB, w_eqBI, w_eqIN, w_neIN, w_eqNI, w_neNI, w_eqNN, w_neNN, w_NN, w_NI, w_IN])
      refine if_no (decide_eq_false h) ?_
      (first | exact ⟨rfl, rfl⟩ | exact ⟨rfl, True.intro⟩ | exact ⟨True.intro, rfl⟩ | exact ⟨True.intro, True.intro⟩)
    (try simp only [dLcM, w_isiM, rReverseD, dMinDef, rInDic, rNotInDic, dIRL, dCallC, dCallG, dConsL, dLam, atDs, dCallV, dgU, dSortI, dIItems, dDicM, dDc, dLenSet, itemsD, w_lrg, w_index, w_sortQ, dCut, dDGet, dDGet1, dDGet2, dDPut, dPairs, w_disp, w_newDF, w_newDT, dec_self, List.map_cons, List.map_nil, eqD_bl, eqD_int, eqD_str, eqD_tup, eqD_lst, eqDs_nil, eqDs_nc, eqDs_cn, eqDs_cons, reduceIte, Bool.false_eq_true, Bool.not_true, Bool.not_false, decide_true, decide_false, dVar, atD, setD, startD, dC, dOp, dAnd, dOr, dNot, dIf, dUn, dNil, dCons, dTup, dLst, rInD, rNotInD, dNoPart, dPart, dRev, dFld, DL.fieldsOf, dCB, dNext, dSeq, dBreak, dCont, dDrop, dRet, dRetN, dIfS, dNever, dgN, dgNil, dgCons, dgSub, dAsg, dPar, dPar3, putD, dSetF, dMt, rAppendD, rPopD, rExtendD, lsT, lsR, lsF, itemsR, dFrz, dCall, dCallK, dMeth, dMake, dFor, dIL, dIT, dIR1, dIR2, dIE, dIZ, wipeD, dYes, dLc, dDic0, updM_same, cxOf, asBl_bl, asInt_int, asTup_tup, isN, w_test, w_chain, w_andV, w_orV, w_notV, w_neg, w_sub, w_div, w_mod, w_pow, w_shl, w_shr, w_and, w_or, w_xor, w_lt, w_le, w_gt, w_ge, w_add, w_addS, w_addT, w_addL, w_addF, w_addR, w_mul, w_mulL, w_eq, w_ne, w_isN, w_isB, w_isntN, w_isntB, w_ix, w_isi, w_abs, w_max2, w_min2, w_max1L, w_min1L, w_sum, w_all, w_any, w_len, w_int, w_intB, w_divmod, w_sorted, w_list, w_bits, w_sl, w_slL, w_slF, w_slR, w_slT, w_newF, w_newT, w_eqL, w_eqT, w_eqR, w_neL, w_neT, w_neR, w_dgT, w_derL, w_derT, w_derB, w_derI, w_derN, w_derS, w_eqSS, w_eqBB, w_neSS, w_neBB, w_eqBI, w_eqIN, w_neIN, w_eqNI, w_neNI, w_eqNN, w_neNN, w_NN, w_NI, w_IN])
    (refine stop_to ?_; (try simp only [dLcM, w_isiM, rReverseD, dMinDef, rInDic, rNotInDic, dIRL, dCallC, dCallG, dConsL, dLam, atDs, dCallV, dgU, dSortI, dIItems, dDicM, dDc, dLenSet, itemsD, w_lrg, w_index, w_sortQ, dCut, dDGet, dDGet1, dDGet2, dDPut, dPairs, w_disp, w_newDF, w_newDT, dec_self, List.map_cons, List.map_nil, eqD_bl, eqD_int, eqD_str, eqD_tup, eqD_lst, eqDs_nil, eqDs_nc, eqDs_cn, eqDs_cons, reduceIte, Bool.false_eq_true, Bool.not_true, Bool.not_false, decide_true, decide_false, dVar, atD, setD, startD, dC, dOp, dAnd, dOr, dNot, dIf, dUn, dNil, dCons, dTup, dLst, rInD, rNotInD, dNoPart, dPart, dRev, dFld, DL.fieldsOf, dCB, dNext, dSeq, dBreak, dCont, dDrop, dRet, dRetN, dIfS, dNever, dgN, dgNil, dgCons, dgSub, dAsg, dPar, dPar3, putD, dSetF, dMt, rAppendD, rPopD, rExtendD, lsT, lsR, lsF, itemsR, dFrz, dCall, dCallK, dMeth, dMake, dFor, dIL, dIT, dIR1, dIR2, dIE, dIZ, wipeD, dYes, dLc, dDic0, updM_same, cxOf, asBl_bl, asInt_int, asTup_tup, isN, w_test, w_chain, w_andV, w_orV, w_notV, w_neg, w_sub, w_div, w_mod, w_pow, w_shl, w_shr, w_and, w_or, w_xor, w_lt, w_le, w_gt, w_ge, w_add, w_addS, w_addT, w_addL, w_addF, w_addR, w_mul, w_mulL, w_eq, w_ne, w_isN, w_isB, w_isntN, w_isntB, w_ix, w_isi, w_abs, w_max2, w_min2, w_max1L, w_min1L, w_sum, w_all, w_any, w_len, w_int, w_intB, w_divmod, w_sorted, w_list, w_bits, w_sl, w_slL, w_slF, w_slR, w_slT, w_newF, w_newT, w_eqL, w_eqT, w_eqR, w_neL, w_neT, w_neR, w_dgT, w_derL, w_derT, w_derB, w_derI, w_derN, w_derS, w_eqSS, w_eqBB, w_neSS, w_neBB, w_eqBI, w_eqIN, w_neIN, w_eqNI, w_neNI, w_eqNN, w_neNN, w_NN, w_NI, w_IN]))
    refine if_no (decide_eq_false h) ?_
    (try simp only [dLcM, w_isiM, rReverseD, dMinDef, rInDic, rNotInDic, dIRL, dCallC, dCallG, dConsL, dLam, atDs, dCallV, dgU, dSortI, dIItems, dDicM, dDc, dLenSet, itemsD, w_lrg, w_index, w_sortQ, dCut, dDGet, dDGet1, dDGet2, dDPut, dPairs, w_disp, w_newDF, w_newDT, dec_self, List.map_cons, List.map_nil, eqD_bl, eqD_int, eqD_str, eqD_tup, eqD_lst, eqDs_nil, eqDs_nc, eqDs_cn, eqDs_cons, reduceIte, Bool.false_eq_true, Bool.not_true, Bool.not_false, decide_true, decide_false, dVar, atD, setD, startD, dC, dOp, dAnd, dOr, dNot, dIf, dUn, dNil, dCons, dTup, dLst, rInD, rNotInD, dNoPart, dPart, dRev, dFld, DL.fieldsOf, dCB, dNext, dSeq, dBreak, dCont, dDrop, dRet, dRetN, dIfS, dNever, dgN, dgNil, dgCons, dgSub, dAsg, dPar, dPar3, putD, dSetF, dMt, rAppendD, rPopD, rExtendD, lsT, lsR, lsF, itemsR, dFrz, dCall, dCallK, dMeth, dMake, dFor, dIL, dIT, dIR1, dIR2, dIE, dIZ, wipeD, dYes, dLc, dDic0, updM_same, cxOf, asBl_bl, asInt_int, asTup_tup, isN, w_test, w_chain, w_andV, w_orV, w_notV, w_neg, w_sub, w_div, w_mod, w_pow, w_shl, w_shr, w_and, w_or, w_xor, w_lt, w_le, w_gt, w_ge, w_add, w_addS, w_addT, w_addL, w_addF, w_addR, w_mul, w_mulL, w_eq, w_ne, w_isN, w_isB, w_isntN, w_isntB, w_ix, w_isi, w_abs, w_max2, w_min2, w_max1L, w_min1L, w_sum, w_all, w_any, w_len, w_int, w_intB, w_divmod, w_sorted, w_list, w_bits, w_sl, w_slL, w_slF, w_slR, w_slT, w_newF, w_newT, w_eqL, w_eqT, w_eqR, w_neL, w_neT, w_neR, w_dgT, w_derL, w_derT, w_derB, w_derI, w_derN, w_derS, w_eqSS, w_eqBB, w_neSS, w_neBB, w_eqBI, w_eqIN, w_neIN, w_eqNI, w_neNI, w_eqNN, w_neNN, w_NN, w_NI, w_IN])
    refine ⟨_, _, rfl, rfl, a, c, x, m, b, rfl, Nat.lt_trans (in_small hb hx) h600, by omega, by omega, fun v v0 v1 hv => ?_⟩
    refine ⟨b, s, v, rfl, hb, endD_of ?_⟩
    rw [placed_congr hv]
    exact hQ0
abbrev sp_move : SpD := fun ds M Q => ∃ (a c x : Int) (b : Nat), ds = [genD a c, .int x, .int (b : Nat)] ∧ a.natAbs < 2 ^ 600 ∧ b ≤ 300 ∧ x.natAbs < 2 ^ 600 ∧ Q (.int ((a * x + c - x) % 2 ^ b)) M
theorem ok_move_of (T : Txt K mg C_Kind) : FnD P w K mg base 1 "move_of" s_move_of ["generator", "x", "bits"] (sp_move) := by
  refine fn_mk T.h_move_of sc_move_of 3 rfl (by intro ds M Q h; first | (obtain ⟨rfl, _⟩ := h; rfl) | (obtain ⟨_, rfl, _⟩ := h; rfl) | (obtain ⟨_, _, rfl, _⟩ := h; rfl) | (obtain ⟨_, _, _, rfl, _⟩ := h; rfl) | (obtain ⟨_, _, _, _, rfl, _⟩ := h; rfl) | (obtain ⟨_, _, _, _, _, rfl, _⟩ := h; rfl) | (obtain ⟨_, _, _, _, _, _, rfl, _⟩ := h; rfl) | (obtain ⟨_, _, _, _, _, _, _, rfl, _⟩ := h; rfl) | (obtain ⟨_, _, _, _, _, _, _, _, rfl, _⟩ := h; rfl) | (obtain ⟨_, _, _, _, _, _, _, _, _, rfl, _⟩ := h; rfl) | (obtain ⟨_, _, _, _, _, _, _, _, _, _, rfl, _⟩ := h; rfl) | (obtain ⟨_, _, _, _, _, _, _, _, _, _, _, rfl, _⟩ := h; rfl) | (obtain ⟨_, _, _, _, _, _, _, _, _, _, _, _, rfl, _⟩ := h; rfl)) (fun f cdv A outer s H E hr => ⟨_, (dss_one (ds_ret (de_op od_mod (de_op od_sub (de_op (od_add false) (de_op (od_mul false) (de_ix (dv 0) de_int) (dv 1)) (de_ix (dv 0) de_int)) (dv 1)) (de_op od_shl de_int (dv 2))))), ?_⟩)
  rintro ds M Q ⟨a, c, x, b, rfl, ha, hb, hx, hQ⟩
  have hp := two_pos b
  (try simp only [dLcM, w_isiM, rReverseD, dMinDef, rInDic, rNotInDic, dIRL, dCallC, dCallG, dConsL, dLam, atDs, dCallV, dgU, dSortI, dIItems, dDicM, dDc, dLenSet, itemsD, w_lrg, w_index, w_sortQ, dCut, dDGet, dDGet1, dDGet2, dDPut, dPairs, w_disp, w_newDF, w_newDT, dec_self, List.map_cons, List.map_nil, eqD_bl, eqD_int, eqD_str, eqD_tup, eqD_lst, eqDs_nil, eqDs_nc, eqDs_cn, eqDs_cons, reduceIte, Bool.false_eq_true, Bool.not_true, Bool.not_false, decide_true, decide_false, dVar, atD, setD, startD, dC, dOp, dAnd, dOr, dNot, dIf, dUn, dNil, dCons, dTup, dLst, rInD, rNotInD, dNoPart, dPart, dRev, dFld, DL.fieldsOf, dCB, dNext, dSeq, dBreak, dCont, dDrop, dRet, dRetN, dIfS, dNever, dgN, dgNil, dgCons, dgSub, dAsg, dPar, dPar3, putD, dSetF, dMt, rAppendD, rPopD, rExtendD, lsT, lsR, lsF, itemsR, dFrz, dCall, dCallK, dMeth, dMake, dFor, dIL, dIT, dIR1, dIR2, dIE, dIZ, wipeD, dYes, dLc, dDic0, updM_same, cxOf, asBl_bl, asInt_int, asTup_tup, isN, w_test, w_chain, w_andV, w_orV, w_notV, w_neg, w_sub, w_div, w_mod, w_pow, w_shl, w_shr, w_and, w_or, w_xor, w_lt, w_le, w_gt, w_ge, w_add, w_addS, w_addT, w_addL, w_addF, w_addR, w_mul, w_mulL, w_eq, w_ne, w_isN, w_isB, w_isntN, w_isntB, w_ix, w_isi, w_abs, w_max2, w_min2, w_max1L, w_min1L, w_sum, w_all, w_any, w_len, w_int, w_intB, w_divmod, w_sorted, w_list, w_bits, w_sl, w_slL, w_slF, w_slR, w_slT, w_newF, w_newT, w_eqL, w_eqT, w_eqR, w_neL, w_neT, w_neR, w_dgT, w_derL, w_derT, w_derB, w_derI, w_derN, w_derS, w_eqSS, w_eqBB, w_neSS, w_neBB, w_eqBI, w_eqIN, w_neIN, w_eqNI, w_neNI, w_eqNN, w_neNN, w_NN, w_NI, w_IN])
  refine ⟨_, _, rfl, atI_nat (j := 0) rfl, ?_⟩
  (try simp only [dLcM, w_isiM, rReverseD, dMinDef, rInDic, rNotInDic, dIRL, dCallC, dCallG, dConsL, dLam, atDs, dCallV, dgU, dSortI, dIItems, dDicM, dDc, dLenSet, itemsD, w_lrg, w_index, w_sortQ, dCut, dDGet, dDGet1, dDGet2, dDPut, dPairs, w_disp, w_newDF, w_newDT, dec_self, List.map_cons, List.map_nil, eqD_bl, eqD_int, eqD_str, eqD_tup, eqD_lst, eqDs_nil, eqDs_nc, eqDs_cn, eqDs_cons, reduceIte, Bool.false_eq_true, Bool.not_true, Bool.not_false, decide_true, decide_false, dVar, atD, setD, startD, dC, dOp, dAnd, dOr, dNot, dIf, dUn, dNil, dCons, dTup, dLst, rInD, rNotInD, dNoPart, dPart, dRev, dFld, DL.fieldsOf, dCB, dNext, dSeq, dBreak, dCont, dDrop, dRet, dRetN, dIfS, dNever, dgN, dgNil, dgCons, dgSub, dAsg, dPar, dPar3, putD, dSetF, dMt, rAppendD, rPopD, rExtendD, lsT, lsR, lsF, itemsR, dFrz, dCall, dCallK, dMeth, dMake, dFor, dIL, dIT, dIR1, dIR2, dIE, dIZ, wipeD, dYes, dLc, dDic0, updM_same, cxOf, asBl_bl, asInt_int, asTup_tup, isN, w_test, w_chain, w_andV, w_orV, w_notV, w_neg, w_sub, w_div, w_mod, w_pow, w_shl, w_shr, w_and, w_or, w_xor, w_lt, w_le, w_gt, w_ge, w_add, w_addS, w_addT, w_addL, w_addF, w_addR, w_mul, w_mulL, w_eq, w_ne, w_isN, w_isB, w_isntN, w_isntB, w_ix, w_isi, w_abs, w_max2, w_min2, w_max1L, w_min1L, w_sum, w_all, w_any, w_len, w_int, w_intB, w_divmod, w_sorted, w_list, w_bits, w_sl, w_slL, w_slF, w_slR, w_slT, w_newF, w_newT, w_eqL, w_eqT, w_eqR, w_neL, w_neT, w_neR, w_dgT, w_derL, w_derT, w_derB, w_derI, w_derN, w_derS, w_eqSS, w_eqBB, w_neSS, w_neBB, w_eqBI, w_eqIN, w_neIN, w_eqNI, w_neNI, w_eqNN, w_neNN, w_NN, w_NI, w_IN])
  refine ⟨mulOk_b (m := 600) (n := 600) ha hx (by decide) (by decide), _, _, rfl, atI_nat (j := 1) rfl, ?_⟩
  (try simp only [dLcM, w_isiM, rReverseD, dMinDef, rInDic, rNotInDic, dIRL, dCallC, dCallG, dConsL, dLam, atDs, dCallV, dgU, dSortI, dIItems, dDicM, dDc, dLenSet, itemsD, w_lrg, w_index, w_sortQ, dCut, dDGet, dDGet1, dDGet2, dDPut, dPairs, w_disp, w_newDF, w_newDT, dec_self, List.map_cons, List.map_nil, eqD_bl, eqD_int, eqD_str, eqD_tup, eqD_lst, eqDs_nil, eqDs_nc, eqDs_cn, eqDs_cons, reduceIte, Bool.false_eq_true, Bool.not_true, Bool.not_false, decide_true, decide_false, dVar, atD, setD, startD, dC, dOp, dAnd, dOr, dNot, dIf, dUn, dNil, dCons, dTup, dLst, rInD, rNotInD, dNoPart, dPart, dRev, dFld, DL.fieldsOf, dCB, dNext, dSeq, dBreak, dCont, dDrop, dRet, dRetN, dIfS, dNever, dgN, dgNil, dgCons, dgSub, dAsg, dPar, dPar3, putD, dSetF, dMt, rAppendD, rPopD, rExtendD, lsT, lsR, lsF, itemsR, dFrz, dCall, dCallK, dMeth, dMake, dFor, dIL, dIT, dIR1, dIR2, dIE, dIZ, wipeD, dYes, dLc, dDic0, updM_same, cxOf, asBl_bl, asInt_int, asTup_tup, isN, w_test, w_chain, w_andV, w_orV, w_notV, w_neg, w_sub, w_div, w_mod, w_pow, w_shl, w_shr, w_and, w_or, w_xor, w_lt, w_le, w_gt, w_ge, w_add, w_addS, w_addT, w_addL, w_addF, w_addR, w_mul, w_mulL, w_eq, w_ne, w_isN, w_isB, w_isntN, w_isntB, w_ix, w_isi, w_abs, w_max2, w_min2, w_max1L, w_min1L, w_sum, w_all, w_any, w_len, w_int, w_intB, w_divmod, w_sorted, w_list, w_bits, w_sl, w_slL, w_slF, w_slR, w_slT, w_newF, w_newT, w_eqL, w_eqT, w_eqR, w_neL, w_neT, w_neR, w_dgT, w_derL, w_derT, w_derB, w_derI, w_derN, w_derS, w_eqSS, w_eqBB, w_neSS, w_neBB, w_eqBI, w_eqIN, w_neIN, w_eqNI, w_neNI, w_eqNN, w_neNN, w_NN, w_NI, w_IN])
  refine ⟨shl1 (by omega) (by omega), ?_⟩
  rw [Int.one_mul, Int.toNat_natCast, fmodP hp]
  exact ⟨by omega, endD_of hQ⟩
abbrev sp_len : SpD := fun ds M Q => ∃ (a mv : Int) (b : Nat), ds = [.int a, .int mv, .int (b : Nat)] ∧ a % 2 = 1 ∧ mv.natAbs < 2 ^ 600 ∧ b ≤ 300 ∧ ∀ j : Nat, j ≤ b → LenOf a mv b (2 ^ j) → Q (.int ((2 ^ j : Nat) : Int)) M
theorem ok_length_of (T : Txt K mg C_Kind) : FnD P w K mg base 1 "length_of" s_length_of ["a", "move", "bits"] (sp_len) := by
  refine fn_mk T.h_length_of sc_length_of 7 rfl (by intro ds M Q h; first | (obtain ⟨rfl, _⟩ := h; rfl) | (obtain ⟨_, rfl, _⟩ := h; rfl) | (obtain ⟨_, _, rfl, _⟩ := h; rfl) | (obtain ⟨_, _, _, rfl, _⟩ := h; rfl) | (obtain ⟨_, _, _, _, rfl, _⟩ := h; rfl) | (obtain ⟨_, _, _, _, _, rfl, _⟩ := h; rfl) | (obtain ⟨_, _, _, _, _, _, rfl, _⟩ := h; rfl) | (obtain ⟨_, _, _, _, _, _, _, rfl, _⟩ := h; rfl) | (obtain ⟨_, _, _, _, _, _, _, _, rfl, _⟩ := h; rfl) | (obtain ⟨_, _, _, _, _, _, _, _, _, rfl, _⟩ := h; rfl) | (obtain ⟨_, _, _, _, _, _, _, _, _, _, rfl, _⟩ := h; rfl) | (obtain ⟨_, _, _, _, _, _, _, _, _, _, _, rfl, _⟩ := h; rfl) | (obtain ⟨_, _, _, _, _, _, _, _, _, _, _, _, rfl, _⟩ := h; rfl)) (fun f cdv A outer s H E hr => ⟨_, (dss_stop (ds_set (i := 3) sc_length_of.nd (de_op od_shl de_int (dv 2)))
    (dss_stop (ds_par3 (i := 4) (j := 5) (l := 6) sc_length_of.nd (da_cons de_int (da_cons de_int (da_cons (de_op od_mod (dv 0) (dv 3)) da_nil))))
    (dss_stop (ds_while (dt_cmp (od_ne hr.units) (de_op od_mod (de_op (od_mul false) (dv 5) (dv 1)) (dv 3)) de_int)
    (dss_one (ds_par3 (i := 4) (j := 5) (l := 6) sc_length_of.nd (da_cons (de_op (od_mul false) de_int (dv 4)) (da_cons (de_op od_mod (de_op (od_mul false) (dv 5) (de_op (od_add false) de_int (dv 6))) (dv 3)) (da_cons (de_op od_mod (de_op (od_mul false) (dv 6) (dv 6)) (dv 3)) da_nil))))))
    (dss_one (ds_ret (dv 4)))))), ?_⟩)
  rintro ds M Q ⟨a, mv, b, rfl, ho, hmv, hb, hQ⟩
  have hp := two_pos b
  have hpb : (2 : Int) ^ b ≤ 2 ^ 300 := pow_mono hb
  (refine stop_to ?_; (try simp only [dLcM, w_isiM, rReverseD, dMinDef, rInDic, rNotInDic, dIRL, dCallC, dCallG, dConsL, dLam, atDs, dCallV, dgU, dSortI, dIItems, dDicM, dDc, dLenSet, itemsD, w_lrg, w_index, w_sortQ, dCut, dDGet, dDGet1, dDGet2, dDPut, dPairs, w_disp, w_newDF, w_newDT, dec_self, List.map_cons, List.map_nil, eqD_bl, eqD_int, eqD_str, eqD_tup, eqD_lst, eqDs_nil, eqDs_nc, eqDs_cn, eqDs_cons, reduceIte, Bool.false_eq_true, Bool.not_true, Bool.not_false, decide_true, decide_false, dVar, atD, setD, startD, dC, dOp, dAnd, dOr, dNot, dIf, dUn, dNil, dCons, dTup, dLst, rInD, rNotInD, dNoPart, dPart, dRev, dFld, DL.fieldsOf, dCB, dNext, dSeq, dBreak, dCont, dDrop, dRet, dRetN, dIfS, dNever, dgN, dgNil, dgCons, dgSub, dAsg, dPar, dPar3, putD, dSetF, dMt, rAppendD, rPopD, rExtendD, lsT, lsR, lsF, itemsR, dFrz, dCall, dCallK, dMeth, dMake, dFor, dIL, dIT, dIR1, dIR2, dIE, dIZ, wipeD, dYes, dLc, dDic0, updM_same, cxOf, asBl_bl, asInt_int, asTup_tup, isN, w_test, w_chain, w_andV, w_orV, w_notV, w_neg, w_sub, w_div, w_mod, w_pow, w_shl, w_shr, w_and, w_or, w_xor, w_lt, w_le, w_gt, w_ge, w_add, w_addS, w_addT, w_addL, w_addF, w_addR, w_mul, w_mulL, w_eq, w_ne, w_isN, w_isB, w_isntN, w_isntB, w_ix, w_isi, w_abs, w_max2, w_min2, w_max1L, w_min1L, w_sum, w_all, w_any, w_len, w_int, w_intB, w_divmod, w_sorted, w_list, w_bits, w_sl, w_slL, w_slF, w_slR, w_slT, w_newF, w_newT, w_eqL, w_eqT, w_eqR, w_neL, w_neT, w_neR, w_dgT, w_derL, w_derT, w_derB, w_derI, w_derN, w_derS, w_eqSS, w_eqBB, w_neSS, w_neBB, w_eqBI, w_eqIN, w_neIN, w_eqNI, w_neNI, w_eqNN, w_neNN, w_NN, w_NI, w_IN]))
  refine ⟨shl1 (by omega) (by omega), ?_⟩
  rw [Int.one_mul, Int.toNat_natCast]
  (refine stop_to ?_; (try simp only [dLcM, w_isiM, rReverseD, dMinDef, rInDic, rNotInDic, dIRL, dCallC, dCallG, dConsL, dLam, atDs, dCallV, dgU, dSortI, dIItems, dDicM, dDc, dLenSet, itemsD, w_lrg, w_index, w_sortQ, dCut, dDGet, dDGet1, dDGet2, dDPut, dPairs, w_disp, w_newDF, w_newDT, dec_self, List.map_cons, List.map_nil, eqD_bl, eqD_int, eqD_str, eqD_tup, eqD_lst, eqDs_nil, eqDs_nc, eqDs_cn, eqDs_cons, reduceIte, Bool.false_eq_true, Bool.not_true, Bool.not_false, decide_true, decide_false, dVar, atD, setD, startD, dC, dOp, dAnd, dOr, dNot, dIf, dUn, dNil, dCons, dTup, dLst, rInD, rNotInD, dNoPart, dPart, dRev, dFld, DL.fieldsOf, dCB, dNext, dSeq, dBreak, dCont, dDrop, dRet, dRetN, dIfS, dNever, dgN, dgNil, dgCons, dgSub, dAsg, dPar, dPar3, putD, dSetF, dMt, rAppendD, rPopD, rExtendD, lsT, lsR, lsF, itemsR, dFrz, dCall, dCallK, dMeth, dMake, dFor, dIL, dIT, dIR1, dIR2, dIE, dIZ, wipeD, dYes, dLc, dDic0, updM_same, cxOf, asBl_bl, asInt_int, asTup_tup, isN, w_test, w_chain, w_andV, w_orV, w_notV, w_neg, w_sub, w_div, w_mod, w_pow, w_shl, w_shr, w_and, w_or, w_xor, w_lt, w_le, w_gt, w_ge, w_add, w_addS, w_addT, w_addL, w_addF, w_addR, w_mul, w_mulL, w_eq, w_ne, w_isN, w_isB, w_isntN, w_isntB, w_ix, w_isi, w_abs, w_max2, w_min2, w_max1L, w_min1L, w_sum, w_all, w_any, w_len, w_int, w_intB, w_divmod, w_sorted, w_list, w_bits, w_sl, w_slL, w_slF, w_slR, w_slT, w_newF, w_newT, w_eqL, w_eqT, w_eqR, w_neL, w_neT, w_neR, w_dgT, w_derL, w_derT, w_derB, w_derI, w_derN, w_derS, w_eqSS, w_eqBB, w_neSS, w_neBB, w_eqBI, w_eqIN, w_neIN, w_eqNI, w_neNI, w_eqNN, w_neNN, w_NN, w_NI, w_IN]))
  refine ⟨by omega, ?_⟩
  rw [fmodP hp]
  (refine stop_to ?_; (try simp only [dLcM, w_isiM, rReverseD, dMinDef, rInDic, rNotInDic, dIRL, dCallC, dCallG, dConsL, dLam, atDs, dCallV, dgU, dSortI, dIItems, dDicM, dDc, dLenSet, itemsD, w_lrg, w_index, w_sortQ, dCut, dDGet, dDGet1, dDGet2, dDPut, dPairs, w_disp, w_newDF, w_newDT, dec_self, List.map_cons, List.map_nil, eqD_bl, eqD_int, eqD_str, eqD_tup, eqD_lst, eqDs_nil, eqDs_nc, eqDs_cn, eqDs_cons, reduceIte, Bool.false_eq_true, Bool.not_true, Bool.not_false, decide_true, decide_false, dVar, atD, setD, startD, dC, dOp, dAnd, dOr, dNot, dIf, dUn, dNil, dCons, dTup, dLst, rInD, rNotInD, dNoPart, dPart, dRev, dFld, DL.fieldsOf, dCB, dNext, dSeq, dBreak, dCont, dDrop, dRet, dRetN, dIfS, dNever, dgN, dgNil, dgCons, dgSub, dAsg, dPar, dPar3, putD, dSetF, dMt, rAppendD, rPopD, rExtendD, lsT, lsR, lsF, itemsR, dFrz, dCall, dCallK, dMeth, dMake, dFor, dIL, dIT, dIR1, dIR2, dIE, dIZ, wipeD, dYes, dLc, dDic0, updM_same, cxOf, asBl_bl, asInt_int, asTup_tup, isN, w_test, w_chain, w_andV, w_orV, w_notV, w_neg, w_sub, w_div, w_mod, w_pow, w_shl, w_shr, w_and, w_or, w_xor, w_lt, w_le, w_gt, w_ge, w_add, w_addS, w_addT, w_addL, w_addF, w_addR, w_mul, w_mulL, w_eq, w_ne, w_isN, w_isB, w_isntN, w_isntB, w_ix, w_isi, w_abs, w_max2, w_min2, w_max1L, w_min1L, w_sum, w_all, w_any, w_len, w_int, w_intB, w_divmod, w_sorted, w_list, w_bits, w_sl, w_slL, w_slF, w_slR, w_slT, w_newF, w_newT, w_eqL, w_eqT, w_eqR, w_neL, w_neT, w_neR, w_dgT, w_derL, w_derT, w_derB, w_derI, w_derN, w_derS, w_eqSS, w_eqBB, w_neSS, w_neBB, w_eqBI, w_eqIN, w_neIN, w_eqNI, w_neNI, w_eqNN, w_neNN, w_NN, w_NI, w_IN]))
  refine ⟨fun m ρ M' => M' = M ∧ ∃ (j : Nat) (wh sl : Int), ρ = [some (.int a), some (.int mv), some (.int (b : Nat)), some (.int (2 ^ b)), some (.int ((2 ^ j : Nat) : Int)), some (.int wh), some (.int sl)] ∧ m = b - j ∧ j ≤ b ∧ (0 ≤ wh ∧ wh ≤ 2 ^ b) ∧ (0 ≤ sl ∧ sl < 2 ^ b) ∧ (2 : Int) ^ b ∣ wh - sumP a (2 ^ j) ∧ (2 : Int) ^ b ∣ sl - a ^ 2 ^ j ∧ ∀ i, i < j → ¬ (2 : Int) ^ b ∣ sumP a (2 ^ i) * mv, ⟨b, rfl, 0, 1, _, rfl, rfl, Nat.zero_le _, ⟨by decide, by omega⟩, em2 b _, ⟨0, by simp [sumP]⟩, by rw [show a ^ 2 ^ 0 = a by rw [show (2 : Nat) ^ 0 = 0 + 1 by rfl, Int.pow_succ, Int.pow_zero, Int.one_mul]]; exact mod_cong _ _, fun i hi => absurd hi (Nat.not_lt_zero _)⟩, ?_⟩
  rintro m ρ M' ⟨hM, j, wh, sl, rfl, rfl, hj, hwh, hsl, ⟨p, hp1⟩, ⟨q, hq1⟩, hno⟩
  subst hM
  (try simp only [dLcM, w_isiM, rReverseD, dMinDef, rInDic, rNotInDic, dIRL, dCallC, dCallG, dConsL, dLam, atDs, dCallV, dgU, dSortI, dIItems, dDicM, dDc, dLenSet, itemsD, w_lrg, w_index, w_sortQ, dCut, dDGet, dDGet1, dDGet2, dDPut, dPairs, w_disp, w_newDF, w_newDT, dec_self, List.map_cons, List.map_nil, eqD_bl, eqD_int, eqD_str, eqD_tup, eqD_lst, eqDs_nil, eqDs_nc, eqDs_cn, eqDs_cons, reduceIte, Bool.false_eq_true, Bool.not_true, Bool.not_false, decide_true, decide_false, dVar, atD, setD, startD, dC, dOp, dAnd, dOr, dNot, dIf, dUn, dNil, dCons, dTup, dLst, rInD, rNotInD, dNoPart, dPart, dRev, dFld, DL.fieldsOf, dCB, dNext, dSeq, dBreak, dCont, dDrop, dRet, dRetN, dIfS, dNever, dgN, dgNil, dgCons, dgSub, dAsg, dPar, dPar3, putD, dSetF, dMt, rAppendD, rPopD, rExtendD, lsT, lsR, lsF, itemsR, dFrz, dCall, dCallK, dMeth, dMake, dFor, dIL, dIT, dIR1, dIR2, dIE, dIZ, wipeD, dYes, dLc, dDic0, updM_same, cxOf, asBl_bl, asInt_int, asTup_tup, isN, w_test, w_chain, w_andV, w_orV, w_notV, w_neg, w_sub, w_div, w_mod, w_pow, w_shl, w_shr, w_and, w_or, w_xor, w_lt, w_le, w_gt, w_ge, w_add, w_addS, w_addT, w_addL, w_addF, w_addR, w_mul, w_mulL, w_eq, w_ne, w_isN, w_isB, w_isntN, w_isntB, w_ix, w_isi, w_abs, w_max2, w_min2, w_max1L, w_min1L, w_sum, w_all, w_any, w_len, w_int, w_intB, w_divmod, w_sorted, w_list, w_bits, w_sl, w_slL, w_slF, w_slR, w_slT, w_newF, w_newT, w_eqL, w_eqT, w_eqR, w_neL, w_neT, w_neR, w_dgT, w_derL, w_derT, w_derB, w_derI, w_derN, w_derS, w_eqSS, w_eqBB, w_neSS, w_neBB, w_eqBI, w_eqIN, w_neIN, w_eqNI, w_neNI, w_eqNN, w_neNN, w_NN, w_NI, w_IN])
  rw [fmodP hp]
  refine ⟨mulOk_b (m := 301) (n := 600) (by omega) hmv (by decide) (by decide), by omega, ?_⟩
  have hdv : wh * mv % 2 ^ b = 0 ↔ (2 : Int) ^ b ∣ sumP a (2 ^ j) * mv := by
    constructor
    · intro h
      obtain ⟨z, hz⟩ := Int.dvd_of_emod_eq_zero h
      exact ⟨z - p * mv, by grind⟩
    · rintro ⟨z, hz⟩
      exact Int.emod_eq_zero_of_dvd ⟨z + p * mv, by grind⟩
  by_cases h0 : wh * mv % 2 ^ b = 0
  · refine not_no (decide_eq_true h0) ?_
    (try simp only [dLcM, w_isiM, rReverseD, dMinDef, rInDic, rNotInDic, dIRL, dCallC, dCallG, dConsL, dLam, atDs, dCallV, dgU, dSortI, dIItems, dDicM, dDc, dLenSet, itemsD, w_lrg, w_index, w_sortQ, dCut, dDGet, dDGet1, dDGet2, dDPut, dPairs, w_disp, w_newDF, w_newDT, dec_self, List.map_cons, List.map_nil, eqD_bl, eqD_int, eqD_str, eqD_tup, eqD_lst, eqDs_nil, eqDs_nc, eqDs_cn, eqDs_cons, reduceIte, Bool.false_eq_true, Bool.not_true, Bool.not_false, decide_true, decide_false, dVar, atD, setD, startD, dC, dOp, dAnd, dOr, dNot, dIf, dUn, dNil, dCons, dTup, dLst, rInD, rNotInD, dNoPart, dPart, dRev, dFld, DL.fieldsOf, dCB, dNext, dSeq, dBreak, dCont, dDrop, dRet, dRetN, dIfS, dNever, dgN, dgNil, dgCons, dgSub, dAsg, dPar, dPar3, putD, dSetF, dMt, rAppendD, rPopD, rExtendD, lsT, lsR, lsF, itemsR, dFrz, dCall, dCallK, dMeth, dMake, dFor, dIL, dIT, dIR1, dIR2, dIE, dIZ, wipeD, dYes, dLc, dDic0, updM_same, cxOf, asBl_bl, asInt_int, asTup_tup, isN, w_test, w_chain, w_andV, w_orV, w_notV, w_neg, w_sub, w_div, w_mod, w_pow, w_shl, w_shr, w_and, w_or, w_xor, w_lt, w_le, w_gt, w_ge, w_add, w_addS, w_addT, w_addL, w_addF, w_addR, w_mul, w_mulL, w_eq, w_ne, w_isN, w_isB, w_isntN, w_isntB, w_ix, w_isi, w_abs, w_max2, w_min2, w_max1L, w_min1L, w_sum, w_all, w_any, w_len, w_int, w_intB, w_divmod, w_sorted, w_list, w_bits, w_sl, w_slL, w_slF, w_slR, w_slT, w_newF, w_newT, w_eqL, w_eqT, w_eqR, w_neL, w_neT, w_neR, w_dgT, w_derL, w_derT, w_derB, w_derI, w_derN, w_derS, w_eqSS, w_eqBB, w_neSS, w_neBB, w_eqBI, w_eqIN, w_neIN, w_eqNI, w_neNI, w_eqNN, w_neNN, w_NN, w_NI, w_IN])
    exact endD_of (hQ j hj (len_of ho (hdv.mp h0) hno))
  · refine not_yes (decide_eq_false h0) ?_
    have hjb : j < b := by
      rcases Nat.lt_or_ge j b with g | g
      · exact g
      · exfalso
        have : j = b := by omega
        subst this
        exact h0 (hdv.mpr (len_exists ho j))
    (try simp only [dLcM, w_isiM, rReverseD, dMinDef, rInDic, rNotInDic, dIRL, dCallC, dCallG, dConsL, dLam, atDs, dCallV, dgU, dSortI, dIItems, dDicM, dDc, dLenSet, itemsD, w_lrg, w_index, w_sortQ, dCut, dDGet, dDGet1, dDGet2, dDPut, dPairs, w_disp, w_newDF, w_newDT, dec_self, List.map_cons, List.map_nil, eqD_bl, eqD_int, eqD_str, eqD_tup, eqD_lst, eqDs_nil, eqDs_nc, eqDs_cn, eqDs_cons, reduceIte, Bool.false_eq_true, Bool.not_true, Bool.not_false, decide_true, decide_false, dVar, atD, setD, startD, dC, dOp, dAnd, dOr, dNot, dIf, dUn, dNil, dCons, dTup, dLst, rInD, rNotInD, dNoPart, dPart, dRev, dFld, DL.fieldsOf, dCB, dNext, dSeq, dBreak, dCont, dDrop, dRet, dRetN, dIfS, dNever, dgN, dgNil, dgCons, dgSub, dAsg, dPar, dPar3, putD, dSetF, dMt, rAppendD, rPopD, rExtendD, lsT, lsR, lsF, itemsR, dFrz, dCall, dCallK, dMeth, dMake, dFor, dIL, dIT, dIR1, dIR2, dIE, dIZ, wipeD, dYes, dLc, dDic0, updM_same, cxOf, asBl_bl, asInt_int, asTup_tup, isN, w_test, w_chain, w_andV, w_orV, w_notV, w_neg, w_sub, w_div, w_mod, w_pow, w_shl, w_shr, w_and, w_or, w_xor, w_lt, w_le, w_gt, w_ge, w_add, w_addS, w_addT, w_addL, w_addF, w_addR, w_mul, w_mulL, w_eq, w_ne, w_isN, w_isB, w_isntN, w_isntB, w_ix, w_isi, w_abs, w_max2, w_min2, w_max1L, w_min1L, w_sum, w_all, w_any, w_len, w_int, w_intB, w_divmod, w_sorted, w_list, w_bits, w_sl, w_slL, w_slF, w_slR, w_slT, w_newF, w_newT, w_eqL, w_eqT, w_eqR, w_neL, w_neT, w_neR, w_dgT, w_derL, w_derT, w_derB, w_derI, w_derN, w_derS, w_eqSS, w_eqBB, w_neSS, w_neBB, w_eqBI, w_eqIN, w_neIN, w_eqNI, w_neNI, w_eqNN, w_neNN, w_NN, w_NI, w_IN])
    refine ⟨mulOk_l (by decide), mulOk_b (m := 301) (n := 301) (by omega) (by omega) (by decide) (by decide), by omega, mulOk_b (m := 301) (n := 301) (by omega) (by omega) (by decide) (by decide), by omega, ?_⟩
    rw [fmodP hp, fmodP hp]
    refine ⟨b - (j + 1), by omega, True.intro, j + 1, wh * (1 + sl) % 2 ^ b, sl * sl % 2 ^ b, ?_, rfl, hjb, ⟨(em2 b _).1, Int.le_of_lt (em2 b _).2⟩, em2 b _, ?_, ?_, ?_⟩
    · rw [show (2 : Int) * ((2 ^ j : Nat) : Int) = ((2 ^ (j + 1) : Nat) : Int) by rw [Nat.pow_succ]; omega]
    · obtain ⟨z, hz⟩ := mod_cong (2 ^ b) (wh * (1 + sl))
      rw [Nat.pow_succ, Nat.mul_comm, sum_two]
      exact ⟨z + p * (1 + sl) + sumP a (2 ^ j) * q, by grind⟩
    · obtain ⟨z, hz⟩ := mod_cong (2 ^ b) (sl * sl)
      rw [Nat.pow_succ, Nat.mul_comm, Nat.two_mul, Int.pow_add]
      exact ⟨z + q * sl + a ^ 2 ^ j * q, by grind⟩
    · intro i hi hd
      rcases Nat.lt_or_ge i j with g | g
      · exact hno i g hd
      · have : i = j := by omega
        subst this
        exact h0 (hdv.mpr hd)
/-- the value that stays -/
abbrev StillOf (a c : Int) (b : Nat) (p : Int) : Prop := (0 ≤ p ∧ p < 2 ^ b) ∧ (2 : Int) ^ b ∣ a * p + c - p
abbrev sp_still : SpD := fun ds M Q => ∃ (a c : Int) (b : Nat), ds = [genD a c, .int (b : Nat)] ∧ a % 2 = 0 ∧ a.natAbs < 2 ^ 600 ∧ c.natAbs < 2 ^ 600 ∧ 1 ≤ b ∧ b ≤ 300 ∧ ∀ p, StillOf a c b p → Q (.int p) M
theorem ok_still_value (T : Txt K mg C_Kind) (F_inverse_of : FnD P w K mg base 1 "inverse_of" s_inverse_of ["n", "bits"] (sp_invof)) : FnD P w K mg base 2 "still_value" s_still_value ["generator", "bits"] (sp_still) := by
  refine fn_mk T.h_still_value sc_still_value 2 rfl (by intro ds M Q h; first | (obtain ⟨rfl, _⟩ := h; rfl) | (obtain ⟨_, rfl, _⟩ := h; rfl) | (obtain ⟨_, _, rfl, _⟩ := h; rfl) | (obtain ⟨_, _, _, rfl, _⟩ := h; rfl) | (obtain ⟨_, _, _, _, rfl, _⟩ := h; rfl) | (obtain ⟨_, _, _, _, _, rfl, _⟩ := h; rfl) | (obtain ⟨_, _, _, _, _, _, rfl, _⟩ := h; rfl) | (obtain ⟨_, _, _, _, _, _, _, rfl, _⟩ := h; rfl) | (obtain ⟨_, _, _, _, _, _, _, _, rfl, _⟩ := h; rfl) | (obtain ⟨_, _, _, _, _, _, _, _, _, rfl, _⟩ := h; rfl) | (obtain ⟨_, _, _, _, _, _, _, _, _, _, rfl, _⟩ := h; rfl) | (obtain ⟨_, _, _, _, _, _, _, _, _, _, _, rfl, _⟩ := h; rfl) | (obtain ⟨_, _, _, _, _, _, _, _, _, _, _, _, rfl, _⟩ := h; rfl)) (fun f cdv A outer s H E hr => ⟨_, (dss_one (ds_ret (de_op od_mod (de_op (od_mul false) (de_ix (dv 0) de_int) (de_call F_inverse_of hr (da_cons (de_op od_sub de_int (de_ix (dv 0) de_int)) (da_cons (dv 1) da_nil)))) (de_op od_shl de_int (dv 1))))), ?_⟩)
  rintro ds M Q ⟨a, c, b, rfl, he, ha, hc, hb1, hb, hQ⟩
  have hp := two_pos b
  have hpb : (2 : Int) ^ b ≤ 2 ^ 300 := pow_mono hb
  (try simp only [dLcM, w_isiM, rReverseD, dMinDef, rInDic, rNotInDic, dIRL, dCallC, dCallG, dConsL, dLam, atDs, dCallV, dgU, dSortI, dIItems, dDicM, dDc, dLenSet, itemsD, w_lrg, w_index, w_sortQ, dCut, dDGet, dDGet1, dDGet2, dDPut, dPairs, w_disp, w_newDF, w_newDT, dec_self, List.map_cons, List.map_nil, eqD_bl, eqD_int, eqD_str, eqD_tup, eqD_lst, eqDs_nil, eqDs_nc, eqDs_cn, eqDs_cons, reduceIte, Bool.false_eq_true, Bool.not_true, Bool.not_false, decide_true, decide_false, dVar, atD, setD, startD, dC, dOp, dAnd, dOr, dNot, dIf, dUn, dNil, dCons, dTup, dLst, rInD, rNotInD, dNoPart, dPart, dRev, dFld, DL.fieldsOf, dCB, dNext, dSeq, dBreak, dCont, dDrop, dRet, dRetN, dIfS, dNever, dgN, dgNil, dgCons, dgSub, dAsg, dPar, dPar3, putD, dSetF, dMt, rAppendD, rPopD, rExtendD, lsT, lsR, lsF, itemsR, dFrz, dCall, dCallK, dMeth, dMake, dFor, dIL, dIT, dIR1, dIR2, dIE, dIZ, wipeD, dYes, dLc, dDic0, updM_same, cxOf, asBl_bl, asInt_int, asTup_tup, isN, w_test, w_chain, w_andV, w_orV, w_notV, w_neg, w_sub, w_div, w_mod, w_pow, w_shl, w_shr, w_and, w_or, w_xor, w_lt, w_le, w_gt, w_ge, w_add, w_addS, w_addT, w_addL, w_addF, w_addR, w_mul, w_mulL, w_eq, w_ne, w_isN, w_isB, w_isntN, w_isntB, w_ix, w_isi, w_abs, w_max2, w_min2, w_max1L, w_min1L, w_sum, w_all, w_any, w_len, w_int, w_intB, w_divmod, w_sorted, w_list, w_bits, w_sl, w_slL, w_slF, w_slR, w_slT, w_newF, w_newT, w_eqL, w_eqT, w_eqR, w_neL, w_neT, w_neR, w_dgT, w_derL, w_derT, w_derB, w_derI, w_derN, w_derS, w_eqSS, w_eqBB, w_neSS, w_neBB, w_eqBI, w_eqIN, w_neIN, w_eqNI, w_neNI, w_eqNN, w_neNN, w_NN, w_NI, w_IN])
  refine ⟨_, _, rfl, atI_nat (j := 1) rfl, _, _, rfl, atI_nat (j := 0) rfl, ?_⟩
  (try simp only [dLcM, w_isiM, rReverseD, dMinDef, rInDic, rNotInDic, dIRL, dCallC, dCallG, dConsL, dLam, atDs, dCallV, dgU, dSortI, dIItems, dDicM, dDc, dLenSet, itemsD, w_lrg, w_index, w_sortQ, dCut, dDGet, dDGet1, dDGet2, dDPut, dPairs, w_disp, w_newDF, w_newDT, dec_self, List.map_cons, List.map_nil, eqD_bl, eqD_int, eqD_str, eqD_tup, eqD_lst, eqDs_nil, eqDs_nc, eqDs_cn, eqDs_cons, reduceIte, Bool.false_eq_true, Bool.not_true, Bool.not_false, decide_true, decide_false, dVar, atD, setD, startD, dC, dOp, dAnd, dOr, dNot, dIf, dUn, dNil, dCons, dTup, dLst, rInD, rNotInD, dNoPart, dPart, dRev, dFld, DL.fieldsOf, dCB, dNext, dSeq, dBreak, dCont, dDrop, dRet, dRetN, dIfS, dNever, dgN, dgNil, dgCons, dgSub, dAsg, dPar, dPar3, putD, dSetF, dMt, rAppendD, rPopD, rExtendD, lsT, lsR, lsF, itemsR, dFrz, dCall, dCallK, dMeth, dMake, dFor, dIL, dIT, dIR1, dIR2, dIE, dIZ, wipeD, dYes, dLc, dDic0, updM_same, cxOf, asBl_bl, asInt_int, asTup_tup, isN, w_test, w_chain, w_andV, w_orV, w_notV, w_neg, w_sub, w_div, w_mod, w_pow, w_shl, w_shr, w_and, w_or, w_xor, w_lt, w_le, w_gt, w_ge, w_add, w_addS, w_addT, w_addL, w_addF, w_addR, w_mul, w_mulL, w_eq, w_ne, w_isN, w_isB, w_isntN, w_isntB, w_ix, w_isi, w_abs, w_max2, w_min2, w_max1L, w_min1L, w_sum, w_all, w_any, w_len, w_int, w_intB, w_divmod, w_sorted, w_list, w_bits, w_sl, w_slL, w_slF, w_slR, w_slT, w_newF, w_newT, w_eqL, w_eqT, w_eqR, w_neL, w_neT, w_neR, w_dgT, w_derL, w_derT, w_derB, w_derI, w_derN, w_derS, w_eqSS, w_eqBB, w_neSS, w_neBB, w_eqBI, w_eqIN, w_neIN, w_eqNI, w_neNI, w_eqNN, w_neNN, w_NN, w_NI, w_IN])
  refine ⟨1 - a, b, rfl, by omega, ?_, hb1, by omega, fun r hr => ?_⟩
  · have : (2 : Nat) ^ 600 + 1 < 2 ^ 1000 := by decide +kernel
    omega
  have hr1 := hr.1
  obtain ⟨q, hq⟩ := hr.2
  (try simp only [dLcM, w_isiM, rReverseD, dMinDef, rInDic, rNotInDic, dIRL, dCallC, dCallG, dConsL, dLam, atDs, dCallV, dgU, dSortI, dIItems, dDicM, dDc, dLenSet, itemsD, w_lrg, w_index, w_sortQ, dCut, dDGet, dDGet1, dDGet2, dDPut, dPairs, w_disp, w_newDF, w_newDT, dec_self, List.map_cons, List.map_nil, eqD_bl, eqD_int, eqD_str, eqD_tup, eqD_lst, eqDs_nil, eqDs_nc, eqDs_cn, eqDs_cons, reduceIte, Bool.false_eq_true, Bool.not_true, Bool.not_false, decide_true, decide_false, dVar, atD, setD, startD, dC, dOp, dAnd, dOr, dNot, dIf, dUn, dNil, dCons, dTup, dLst, rInD, rNotInD, dNoPart, dPart, dRev, dFld, DL.fieldsOf, dCB, dNext, dSeq, dBreak, dCont, dDrop, dRet, dRetN, dIfS, dNever, dgN, dgNil, dgCons, dgSub, dAsg, dPar, dPar3, putD, dSetF, dMt, rAppendD, rPopD, rExtendD, lsT, lsR, lsF, itemsR, dFrz, dCall, dCallK, dMeth, dMake, dFor, dIL, dIT, dIR1, dIR2, dIE, dIZ, wipeD, dYes, dLc, dDic0, updM_same, cxOf, asBl_bl, asInt_int, asTup_tup, isN, w_test, w_chain, w_andV, w_orV, w_notV, w_neg, w_sub, w_div, w_mod, w_pow, w_shl, w_shr, w_and, w_or, w_xor, w_lt, w_le, w_gt, w_ge, w_add, w_addS, w_addT, w_addL, w_addF, w_addR, w_mul, w_mulL, w_eq, w_ne, w_isN, w_isB, w_isntN, w_isntB, w_ix, w_isi, w_abs, w_max2, w_min2, w_max1L, w_min1L, w_sum, w_all, w_any, w_len, w_int, w_intB, w_divmod, w_sorted, w_list, w_bits, w_sl, w_slL, w_slF, w_slR, w_slT, w_newF, w_newT, w_eqL, w_eqT, w_eqR, w_neL, w_neT, w_neR, w_dgT, w_derL, w_derT, w_derB, w_derI, w_derN, w_derS, w_eqSS, w_eqBB, w_neSS, w_neBB, w_eqBI, w_eqIN, w_neIN, w_eqNI, w_neNI, w_eqNN, w_neNN, w_NN, w_NI, w_IN])
  refine ⟨mulOk_b (m := 600) (n := 301) hc (by omega) (by decide) (by decide), shl1 (by omega) (by omega), ?_⟩
  rw [Int.one_mul, Int.toNat_natCast, fmodP hp]
  refine ⟨by omega, endD_of (hQ _ ⟨em2 b _, ?_⟩)⟩
  obtain ⟨z, hz⟩ := mod_cong (2 ^ b) (c * r)
  exact ⟨a * z - z - c * q, by grind⟩
theorem it_still {a c x p : Int} {b : Nat} (h : (2 : Int) ^ b ∣ a * p + c - p) : ∀ m : Nat, (2 : Int) ^ b ∣ itZ a c x m - p - a ^ m * (x - p)
  | 0 => ⟨0, by simp [itZ]⟩
  | m + 1 => by
    obtain ⟨z, hz⟩ := it_still (x := x) h m
    obtain ⟨y, hy⟩ := h
    refine ⟨a * z + y, ?_⟩
    show a * itZ a c x m + c - p - a ^ (m + 1) * (x - p) = _
    rw [Int.pow_succ]
    grind
theorem dvd_form {b k : Nat} {u : Int} (hu : u % 2 = 1) : (2 : Int) ^ b ∣ 2 ^ k * u ↔ b ≤ k := by
  constructor
  · intro h
    rcases Nat.lt_or_ge k b with g | g
    · exfalso
      obtain ⟨t, rfl⟩ := Nat.exists_eq_add_of_lt g
      obtain ⟨z, hz⟩ := h
      have e : (2 : Int) ^ k * u = 2 ^ k * (2 * (2 ^ t * z)) := by
        rw [show k + t + 1 = k + (t + 1) by omega, Int.pow_add, Int.pow_succ] at hz
        grind
      have := Int.eq_of_mul_eq_mul_left (show (2 : Int) ^ k ≠ 0 by have := two_pos k; omega) e
      omega
    · exact g
  · intro h
    obtain ⟨z, hz⟩ := dvd_pow2 h
    exact ⟨z * u, by rw [hz]; grind⟩
theorem twos_form {n : Int} {m k : Nat} (h : TwosOf n m k) : (∃ u, n = 2 ^ k * u ∧ u % 2 = 1) ∨ k = m := by
  obtain ⟨h1, ⟨u, hu⟩, h3⟩ := h
  rcases Nat.lt_or_ge k m with g | g
  · left
    refine ⟨u, hu, ?_⟩
    rcases odd_cases u with e | e
    · exfalso
      refine h3 g ⟨u / 2, ?_⟩
      rw [Int.pow_succ]
      have : u = 2 * (u / 2) := by omega
      grind
    · exact e
  · exact .inr (by omega)
/-- when an even factor has taken all away -/
theorem even_gone {a d : Int} {b e t : Nat} (he : TwosOf a b e) (he1 : 1 ≤ e) (ht : TwosOf d b t) (m : Nat) : (2 : Int) ^ b ∣ a ^ m * d ↔ b ≤ m * e + t := by
  rcases twos_form ht with ⟨v, hv, hvo⟩ | htb
  · rcases twos_form he with ⟨u, hu, huo⟩ | heb
    · have e1 : a ^ m * d = 2 ^ (m * e + t) * (u ^ m * v) := by
        rw [hu, hv, Int.mul_pow, Int.pow_add, ← Int.pow_mul, Nat.mul_comm e m]
        grind
      rw [e1, dvd_form]
      rw [Int.mul_emod, pow_odd huo m, hvo]
      rfl
    · subst heb
      by_cases h0 : m = 0
      · subst h0
        rw [Int.pow_zero, Int.one_mul, hv, dvd_form hvo]
        omega
      · obtain ⟨q, rfl⟩ : ∃ q, m = q + 1 := ⟨m - 1, by omega⟩
        constructor
        · intro _
          have : 1 * e ≤ (q + 1) * e := Nat.mul_le_mul_right _ (by omega)
          omega
        · intro _
          obtain ⟨z, hz⟩ := he.2.1
          rw [Int.pow_succ, hz]
          exact ⟨a ^ q * z * d, by rw [← hz]; grind⟩
  · subst htb
    constructor
    · intro _
      have : 0 ≤ m * e := Nat.zero_le _
      omega
    · intro _
      obtain ⟨z, hz⟩ := ht.2.1
      exact ⟨a ^ m * z, by rw [hz]; grind⟩
theorem twos_even {a : Int} {b e : Nat} (h : a % 2 = 0) (hb : 1 ≤ b) (he : TwosOf a b e) : 1 ≤ e := by
  rcases Nat.lt_or_ge 0 e with g | g
  · exact g
  · exfalso
    have : e = 0 := by omega
    subst this
    exact he.2.2 (by omega) ⟨a / 2, by simp; omega⟩
/-- after how many steps the value stays -/
abbrev LeadOf (a c x : Int) (b n : Nat) : Prop := ∀ p, (2 : Int) ^ b ∣ a * p + c - p → ∀ m : Nat, (2 : Int) ^ b ∣ itZ a c x m - p ↔ n ≤ m
theorem lead_of' {a c x p : Int} {b n : Nat} (hp : (2 : Int) ^ b ∣ a * p + c - p) (h : ∀ m : Nat, (2 : Int) ^ b ∣ itZ a c x m - p ↔ n ≤ m) (he : a % 2 = 0) (hb : 1 ≤ b) : LeadOf a c x b n := by
  intro p' hp' m
  have e : (2 : Int) ^ b ∣ p' - p := by
    have h1 : (2 : Int) ^ b ∣ (1 - a) * (p' - p) := by
      obtain ⟨y, hy⟩ := hp
      obtain ⟨z, hz⟩ := hp'
      exact ⟨y - z, by grind⟩
    exact odd_dvd (by omega) h1
  rw [← h m]
  obtain ⟨q, hq⟩ := e
  constructor
  · rintro ⟨z, hz⟩
    exact ⟨z + q, by rw [Int.mul_add]; omega⟩
  · rintro ⟨z, hz⟩
    exact ⟨z - q, by rw [Int.mul_sub]; omega⟩
abbrev sp_lead : SpD := fun ds M Q => ∃ (a c x : Int) (b : Nat), ds = [genD a c, .int x, .int (b : Nat)] ∧ a % 2 = 0 ∧ a.natAbs < 2 ^ 600 ∧ c.natAbs < 2 ^ 600 ∧ x.natAbs < 2 ^ 600 ∧ 1 ≤ b ∧ b ≤ 300 ∧ ∀ n : Nat, n ≤ b → LeadOf a c x b n → Q (.int (n : Nat)) M
theorem max_if2 {x : Int} : (if x > 1 then x else 1) = max 1 x := by
  split <;> omega
theorem ok_lead_of (T : Txt K mg C_Kind) (F_twos_in : FnD P w K mg base 1 "twos_in" s_twos_in ["n", "most"] (sp_twosin)) (F_still_value : FnD P w K mg base 2 "still_value" s_still_value ["generator", "bits"] (sp_still)) : FnD P w K mg base 3 "lead_of" s_lead_of ["generator", "x", "bits"] (sp_lead) := by
  refine fn_mk T.h_lead_of sc_lead_of 5 rfl (by intro ds M Q h; first | (obtain ⟨rfl, _⟩ := h; rfl) | (obtain ⟨_, rfl, _⟩ := h; rfl) | (obtain ⟨_, _, rfl, _⟩ := h; rfl) | (obtain ⟨_, _, _, rfl, _⟩ := h; rfl) | (obtain ⟨_, _, _, _, rfl, _⟩ := h; rfl) | (obtain ⟨_, _, _, _, _, rfl, _⟩ := h; rfl) | (obtain ⟨_, _, _, _, _, _, rfl, _⟩ := h; rfl) | (obtain ⟨_, _, _, _, _, _, _, rfl, _⟩ := h; rfl) | (obtain ⟨_, _, _, _, _, _, _, _, rfl, _⟩ := h; rfl) | (obtain ⟨_, _, _, _, _, _, _, _, _, rfl, _⟩ := h; rfl) | (obtain ⟨_, _, _, _, _, _, _, _, _, _, rfl, _⟩ := h; rfl) | (obtain ⟨_, _, _, _, _, _, _, _, _, _, _, rfl, _⟩ := h; rfl) | (obtain ⟨_, _, _, _, _, _, _, _, _, _, _, _, rfl, _⟩ := h; rfl)) (fun f cdv A outer s H E hr => ⟨_, (dss_stop (ds_set (i := 3) sc_lead_of.nd (de_op od_sub (dv 2) (de_call F_twos_in hr (da_cons (de_op od_sub (dv 1) (de_call F_still_value hr (da_cons (dv 0) (da_cons (dv 2) da_nil)))) (da_cons (dv 2) da_nil)))))
    (dss_stop (ds_set (i := 4) sc_lead_of.nd (de_cb (cd_max rfl) (by rfl) T.b_max (by decide +kernel) (da_cons de_int (da_cons (de_call F_twos_in hr (da_cons (de_ix (dv 0) de_int) (da_cons (dv 2) da_nil))) da_nil))))
    (dss_one (ds_ret (de_op od_div (de_op od_sub (de_op (od_add false) (dv 3) (dv 4)) de_int) (dv 4)))))), ?_⟩)
  rintro ds M Q ⟨a, c, x, b, rfl, he, ha, hc, hx, hb1, hb, hQ⟩
  (refine stop_to ?_; (try simp only [dLcM, w_isiM, rReverseD, dMinDef, rInDic, rNotInDic, dIRL, dCallC, dCallG, dConsL, dLam, atDs, dCallV, dgU, dSortI, dIItems, dDicM, dDc, dLenSet, itemsD, w_lrg, w_index, w_sortQ, dCut, dDGet, dDGet1, dDGet2, dDPut, dPairs, w_disp, w_newDF, w_newDT, dec_self, List.map_cons, List.map_nil, eqD_bl, eqD_int, eqD_str, eqD_tup, eqD_lst, eqDs_nil, eqDs_nc, eqDs_cn, eqDs_cons, reduceIte, Bool.false_eq_true, Bool.not_true, Bool.not_false, decide_true, decide_false, dVar, atD, setD, startD, dC, dOp, dAnd, dOr, dNot, dIf, dUn, dNil, dCons, dTup, dLst, rInD, rNotInD, dNoPart, dPart, dRev, dFld, DL.fieldsOf, dCB, dNext, dSeq, dBreak, dCont, dDrop, dRet, dRetN, dIfS, dNever, dgN, dgNil, dgCons, dgSub, dAsg, dPar, dPar3, putD, dSetF, dMt, rAppendD, rPopD, rExtendD, lsT, lsR, lsF, itemsR, dFrz, dCall, dCallK, dMeth, dMake, dFor, dIL, dIT, dIR1, dIR2, dIE, dIZ, wipeD, dYes, dLc, dDic0, updM_same, cxOf, asBl_bl, asInt_int, asTup_tup, isN, w_test, w_chain, w_andV, w_orV, w_notV, w_neg, w_sub, w_div, w_mod, w_pow, w_shl, w_shr, w_and, w_or, w_xor, w_lt, w_le, w_gt, w_ge, w_add, w_addS, w_addT, w_addL, w_addF, w_addR, w_mul, w_mulL, w_eq, w_ne, w_isN, w_isB, w_isntN, w_isntB, w_ix, w_isi, w_abs, w_max2, w_min2, w_max1L, w_min1L, w_sum, w_all, w_any, w_len, w_int, w_intB, w_divmod, w_sorted, w_list, w_bits, w_sl, w_slL, w_slF, w_slR, w_slT, w_newF, w_newT, w_eqL, w_eqT, w_eqR, w_neL, w_neT, w_neR, w_dgT, w_derL, w_derT, w_derB, w_derI, w_derN, w_derS, w_eqSS, w_eqBB, w_neSS, w_neBB, w_eqBI, w_eqIN, w_neIN, w_eqNI, w_neNI, w_eqNN, w_neNN, w_NN, w_NI, w_IN]))
  refine ⟨a, c, b, rfl, he, ha, hc, hb1, hb, fun p hp => ?_⟩
  (try simp only [dLcM, w_isiM, rReverseD, dMinDef, rInDic, rNotInDic, dIRL, dCallC, dCallG, dConsL, dLam, atDs, dCallV, dgU, dSortI, dIItems, dDicM, dDc, dLenSet, itemsD, w_lrg, w_index, w_sortQ, dCut, dDGet, dDGet1, dDGet2, dDPut, dPairs, w_disp, w_newDF, w_newDT, dec_self, List.map_cons, List.map_nil, eqD_bl, eqD_int, eqD_str, eqD_tup, eqD_lst, eqDs_nil, eqDs_nc, eqDs_cn, eqDs_cons, reduceIte, Bool.false_eq_true, Bool.not_true, Bool.not_false, decide_true, decide_false, dVar, atD, setD, startD, dC, dOp, dAnd, dOr, dNot, dIf, dUn, dNil, dCons, dTup, dLst, rInD, rNotInD, dNoPart, dPart, dRev, dFld, DL.fieldsOf, dCB, dNext, dSeq, dBreak, dCont, dDrop, dRet, dRetN, dIfS, dNever, dgN, dgNil, dgCons, dgSub, dAsg, dPar, dPar3, putD, dSetF, dMt, rAppendD, rPopD, rExtendD, lsT, lsR, lsF, itemsR, dFrz, dCall, dCallK, dMeth, dMake, dFor, dIL, dIT, dIR1, dIR2, dIE, dIZ, wipeD, dYes, dLc, dDic0, updM_same, cxOf, asBl_bl, asInt_int, asTup_tup, isN, w_test, w_chain, w_andV, w_orV, w_notV, w_neg, w_sub, w_div, w_mod, w_pow, w_shl, w_shr, w_and, w_or, w_xor, w_lt, w_le, w_gt, w_ge, w_add, w_addS, w_addT, w_addL, w_addF, w_addR, w_mul, w_mulL, w_eq, w_ne, w_isN, w_isB, w_isntN, w_isntB, w_ix, w_isi, w_abs, w_max2, w_min2, w_max1L, w_min1L, w_sum, w_all, w_any, w_len, w_int, w_intB, w_divmod, w_sorted, w_list, w_bits, w_sl, w_slL, w_slF, w_slR, w_slT, w_newF, w_newT, w_eqL, w_eqT, w_eqR, w_neL, w_neT, w_neR, w_dgT, w_derL, w_derT, w_derB, w_derI, w_derN, w_derS, w_eqSS, w_eqBB, w_neSS, w_neBB, w_eqBI, w_eqIN, w_neIN, w_eqNI, w_neNI, w_eqNN, w_neNN, w_NN, w_NI, w_IN])
  refine ⟨x - p, b, rfl, by omega, fun t ht => ?_⟩
  (try simp only [dLcM, w_isiM, rReverseD, dMinDef, rInDic, rNotInDic, dIRL, dCallC, dCallG, dConsL, dLam, atDs, dCallV, dgU, dSortI, dIItems, dDicM, dDc, dLenSet, itemsD, w_lrg, w_index, w_sortQ, dCut, dDGet, dDGet1, dDGet2, dDPut, dPairs, w_disp, w_newDF, w_newDT, dec_self, List.map_cons, List.map_nil, eqD_bl, eqD_int, eqD_str, eqD_tup, eqD_lst, eqDs_nil, eqDs_nc, eqDs_cn, eqDs_cons, reduceIte, Bool.false_eq_true, Bool.not_true, Bool.not_false, decide_true, decide_false, dVar, atD, setD, startD, dC, dOp, dAnd, dOr, dNot, dIf, dUn, dNil, dCons, dTup, dLst, rInD, rNotInD, dNoPart, dPart, dRev, dFld, DL.fieldsOf, dCB, dNext, dSeq, dBreak, dCont, dDrop, dRet, dRetN, dIfS, dNever, dgN, dgNil, dgCons, dgSub, dAsg, dPar, dPar3, putD, dSetF, dMt, rAppendD, rPopD, rExtendD, lsT, lsR, lsF, itemsR, dFrz, dCall, dCallK, dMeth, dMake, dFor, dIL, dIT, dIR1, dIR2, dIE, dIZ, wipeD, dYes, dLc, dDic0, updM_same, cxOf, asBl_bl, asInt_int, asTup_tup, isN, w_test, w_chain, w_andV, w_orV, w_notV, w_neg, w_sub, w_div, w_mod, w_pow, w_shl, w_shr, w_and, w_or, w_xor, w_lt, w_le, w_gt, w_ge, w_add, w_addS, w_addT, w_addL, w_addF, w_addR, w_mul, w_mulL, w_eq, w_ne, w_isN, w_isB, w_isntN, w_isntB, w_ix, w_isi, w_abs, w_max2, w_min2, w_max1L, w_min1L, w_sum, w_all, w_any, w_len, w_int, w_intB, w_divmod, w_sorted, w_list, w_bits, w_sl, w_slL, w_slF, w_slR, w_slT, w_newF, w_newT, w_eqL, w_eqT, w_eqR, w_neL, w_neT, w_neR, w_dgT, w_derL, w_derT, w_derB, w_derI, w_derN, w_derS, w_eqSS, w_eqBB, w_neSS, w_neBB, w_eqBI, w_eqIN, w_neIN, w_eqNI, w_neNI, w_eqNN, w_neNN, w_NN, w_NI, w_IN])
  (refine stop_to ?_; (try simp only [dLcM, w_isiM, rReverseD, dMinDef, rInDic, rNotInDic, dIRL, dCallC, dCallG, dConsL, dLam, atDs, dCallV, dgU, dSortI, dIItems, dDicM, dDc, dLenSet, itemsD, w_lrg, w_index, w_sortQ, dCut, dDGet, dDGet1, dDGet2, dDPut, dPairs, w_disp, w_newDF, w_newDT, dec_self, List.map_cons, List.map_nil, eqD_bl, eqD_int, eqD_str, eqD_tup, eqD_lst, eqDs_nil, eqDs_nc, eqDs_cn, eqDs_cons, reduceIte, Bool.false_eq_true, Bool.not_true, Bool.not_false, decide_true, decide_false, dVar, atD, setD, startD, dC, dOp, dAnd, dOr, dNot, dIf, dUn, dNil, dCons, dTup, dLst, rInD, rNotInD, dNoPart, dPart, dRev, dFld, DL.fieldsOf, dCB, dNext, dSeq, dBreak, dCont, dDrop, dRet, dRetN, dIfS, dNever, dgN, dgNil, dgCons, dgSub, dAsg, dPar, dPar3, putD, dSetF, dMt, rAppendD, rPopD, rExtendD, lsT, lsR, lsF, itemsR, dFrz, dCall, dCallK, dMeth, dMake, dFor, dIL, dIT, dIR1, dIR2, dIE, dIZ, wipeD, dYes, dLc, dDic0, updM_same, cxOf, asBl_bl, asInt_int, asTup_tup, isN, w_test, w_chain, w_andV, w_orV, w_notV, w_neg, w_sub, w_div, w_mod, w_pow, w_shl, w_shr, w_and, w_or, w_xor, w_lt, w_le, w_gt, w_ge, w_add, w_addS, w_addT, w_addL, w_addF, w_addR, w_mul, w_mulL, w_eq, w_ne, w_isN, w_isB, w_isntN, w_isntB, w_ix, w_isi, w_abs, w_max2, w_min2, w_max1L, w_min1L, w_sum, w_all, w_any, w_len, w_int, w_intB, w_divmod, w_sorted, w_list, w_bits, w_sl, w_slL, w_slF, w_slR, w_slT, w_newF, w_newT, w_eqL, w_eqT, w_eqR, w_neL, w_neT, w_neR, w_dgT, w_derL, w_derT, w_derB, w_derI, w_derN, w_derS, w_eqSS, w_eqBB, w_neSS, w_neBB, w_eqBI, w_eqIN, w_neIN, w_eqNI, w_neNI, w_eqNN, w_neNN, w_NN, w_NI, w_IN]))
  refine ⟨_, _, rfl, atI_nat (j := 0) rfl, ?_⟩
  (try simp only [dLcM, w_isiM, rReverseD, dMinDef, rInDic, rNotInDic, dIRL, dCallC, dCallG, dConsL, dLam, atDs, dCallV, dgU, dSortI, dIItems, dDicM, dDc, dLenSet, itemsD, w_lrg, w_index, w_sortQ, dCut, dDGet, dDGet1, dDGet2, dDPut, dPairs, w_disp, w_newDF, w_newDT, dec_self, List.map_cons, List.map_nil, eqD_bl, eqD_int, eqD_str, eqD_tup, eqD_lst, eqDs_nil, eqDs_nc, eqDs_cn, eqDs_cons, reduceIte, Bool.false_eq_true, Bool.not_true, Bool.not_false, decide_true, decide_false, dVar, atD, setD, startD, dC, dOp, dAnd, dOr, dNot, dIf, dUn, dNil, dCons, dTup, dLst, rInD, rNotInD, dNoPart, dPart, dRev, dFld, DL.fieldsOf, dCB, dNext, dSeq, dBreak, dCont, dDrop, dRet, dRetN, dIfS, dNever, dgN, dgNil, dgCons, dgSub, dAsg, dPar, dPar3, putD, dSetF, dMt, rAppendD, rPopD, rExtendD, lsT, lsR, lsF, itemsR, dFrz, dCall, dCallK, dMeth, dMake, dFor, dIL, dIT, dIR1, dIR2, dIE, dIZ, wipeD, dYes, dLc, dDic0, updM_same, cxOf, asBl_bl, asInt_int, asTup_tup, isN, w_test, w_chain, w_andV, w_orV, w_notV, w_neg, w_sub, w_div, w_mod, w_pow, w_shl, w_shr, w_and, w_or, w_xor, w_lt, w_le, w_gt, w_ge, w_add, w_addS, w_addT, w_addL, w_addF, w_addR, w_mul, w_mulL, w_eq, w_ne, w_isN, w_isB, w_isntN, w_isntB, w_ix, w_isi, w_abs, w_max2, w_min2, w_max1L, w_min1L, w_sum, w_all, w_any, w_len, w_int, w_intB, w_divmod, w_sorted, w_list, w_bits, w_sl, w_slL, w_slF, w_slR, w_slT, w_newF, w_newT, w_eqL, w_eqT, w_eqR, w_neL, w_neT, w_neR, w_dgT, w_derL, w_derT, w_derB, w_derI, w_derN, w_derS, w_eqSS, w_eqBB, w_neSS, w_neBB, w_eqBI, w_eqIN, w_neIN, w_eqNI, w_neNI, w_eqNN, w_neNN, w_NN, w_NI, w_IN])
  refine ⟨a, b, rfl, by omega, fun e hee => ?_⟩
  have he1 := twos_even he hb1 hee
  have heb := hee.1
  have htb := ht.1
  (try simp only [dLcM, w_isiM, rReverseD, dMinDef, rInDic, rNotInDic, dIRL, dCallC, dCallG, dConsL, dLam, atDs, dCallV, dgU, dSortI, dIItems, dDicM, dDc, dLenSet, itemsD, w_lrg, w_index, w_sortQ, dCut, dDGet, dDGet1, dDGet2, dDPut, dPairs, w_disp, w_newDF, w_newDT, dec_self, List.map_cons, List.map_nil, eqD_bl, eqD_int, eqD_str, eqD_tup, eqD_lst, eqDs_nil, eqDs_nc, eqDs_cn, eqDs_cons, reduceIte, Bool.false_eq_true, Bool.not_true, Bool.not_false, decide_true, decide_false, dVar, atD, setD, startD, dC, dOp, dAnd, dOr, dNot, dIf, dUn, dNil, dCons, dTup, dLst, rInD, rNotInD, dNoPart, dPart, dRev, dFld, DL.fieldsOf, dCB, dNext, dSeq, dBreak, dCont, dDrop, dRet, dRetN, dIfS, dNever, dgN, dgNil, dgCons, dgSub, dAsg, dPar, dPar3, putD, dSetF, dMt, rAppendD, rPopD, rExtendD, lsT, lsR, lsF, itemsR, dFrz, dCall, dCallK, dMeth, dMake, dFor, dIL, dIT, dIR1, dIR2, dIE, dIZ, wipeD, dYes, dLc, dDic0, updM_same, cxOf, asBl_bl, asInt_int, asTup_tup, isN, w_test, w_chain, w_andV, w_orV, w_notV, w_neg, w_sub, w_div, w_mod, w_pow, w_shl, w_shr, w_and, w_or, w_xor, w_lt, w_le, w_gt, w_ge, w_add, w_addS, w_addT, w_addL, w_addF, w_addR, w_mul, w_mulL, w_eq, w_ne, w_isN, w_isB, w_isntN, w_isntB, w_ix, w_isi, w_abs, w_max2, w_min2, w_max1L, w_min1L, w_sum, w_all, w_any, w_len, w_int, w_intB, w_divmod, w_sorted, w_list, w_bits, w_sl, w_slL, w_slF, w_slR, w_slT, w_newF, w_newT, w_eqL, w_eqT, w_eqR, w_neL, w_neT, w_neR, w_dgT, w_derL, w_derT, w_derB, w_derI, w_derN, w_derS, w_eqSS, w_eqBB, w_neSS, w_neBB, w_eqBI, w_eqIN, w_neIN, w_eqNI, w_neNI, w_eqNN, w_neNN, w_NN, w_NI, w_IN])
  rw [max_if2, show max 1 (e : Int) = e by omega]
  have hpos : (0 : Int) < e := by omega
  rw [fdivP hpos]
  refine ⟨divOk_b hpos (Int.lt_of_le_of_lt (show (e : Int) ≤ 2 ^ 10 by omega) (by decide +kernel)), ?_⟩
  obtain ⟨n, hn⟩ := Int.eq_ofNat_of_zero_le (show 0 ≤ ((b : Int) - t + e - 1) / e from Int.ediv_nonneg (by omega) (by omega))
  have e1 := Int.emod_add_mul_ediv ((b : Int) - t + e - 1) e
  have e2 := Int.emod_nonneg ((b : Int) - t + e - 1) (show (e : Int) ≠ 0 by omega)
  have e3 := Int.emod_lt_of_pos ((b : Int) - t + e - 1) hpos
  rw [hn] at e1 ⊢
  have hiff : ∀ m : Nat, b ≤ m * e + t ↔ n ≤ m := by
    intro m
    have hm : ((m * e : Nat) : Int) = (e : Int) * m := by rw [Int.natCast_mul, Int.mul_comm]
    constructor
    · intro h
      rcases Nat.lt_or_ge m n with g | g
      · exfalso
        have h1 : (e : Int) * (m + 1) ≤ e * n := Int.mul_le_mul_of_nonneg_left (by omega) (by omega)
        rw [Int.mul_add] at h1
        omega
      · exact g
    · intro h
      have h1 : (e : Int) * n ≤ e * m := Int.mul_le_mul_of_nonneg_left (by omega) (by omega)
      omega
  have hnb : n ≤ b := (hiff b).mp (by have : b * 1 ≤ b * e := Nat.mul_le_mul_left _ he1
                                      omega)
  refine endD_of (hQ n hnb (lead_of' hp.2 (fun m => ?_) he hb1))
  rw [← hiff m, ← even_gone hee he1 ht m]
  obtain ⟨z, hz⟩ := it_still (x := x) hp.2 m
  constructor
  · rintro ⟨y, hy⟩
    exact ⟨y - z, by rw [Int.mul_sub (2 ^ b) y z]; omega⟩
  · rintro ⟨y, hy⟩
    exact ⟨y + z, by rw [Int.mul_add (2 ^ b) y z]; omega⟩
abbrev sp_ring (C : Addr) : SpD := fun ds M Q => ∃ (b : Nat) (s : Bool) (a c x : Int), ds = [kindD C b s, genD a c, .int x] ∧ Wd b ∧ InK b s a ∧ InK b s c ∧ InK b s x ∧ (a % 2 = 0 → ∀ n : Nat, n ≤ b → LeadOf a c x b n → Q (.tup [.int (n : Nat), .int 1]) M) ∧ (a % 2 = 1 → ∀ j : Nat, j ≤ b → LenOf a (a * x + c - x) b (2 ^ j) → Q (.tup [.int 0, .int ((2 ^ j : Nat) : Int)]) M)
theorem len_mod {a mv : Int} {b L : Nat} (h : LenOf a (mv % 2 ^ b) b L) : LenOf a mv b L := by
  intro n
  rw [← h n]
  obtain ⟨z, hz⟩ := mod_cong (2 ^ b) mv
  constructor
  · rintro ⟨y, hy⟩
    exact ⟨y + sumP a n * z, by grind⟩
  · rintro ⟨y, hy⟩
    exact ⟨y - sumP a n * z, by grind⟩
/-! ### logarithms -/
def LeastN (p : Nat → Prop) : Option Nat → Prop
  | none => ∀ n, ¬ p n
  | some n => p n ∧ ∀ k, k < n → ¬ p k
def optN : Option Nat → Dat
  | none => .non
  | some n => .int (n : Nat)
abbrev sp_sop : SpD := fun ds M Q => ∃ (a : Int) (n b : Nat), ds = [.int a, .int (n : Nat), .int (b : Nat)] ∧ n < 2 ^ 8000 ∧ b ≤ 300 ∧ ∀ r : Int, 0 ≤ r → r < 2 ^ b → (2 : Int) ^ b ∣ r - sumP a n → Q (.int r) M
theorem ok_sum_of_powers (T : Txt K mg C_Kind) (F_value_behind : FnD P w K mg base 2 "value_behind" s_value_behind ["generator", "x", "n", "bits"] (sp_vb)) : FnD P w K mg base 3 "sum_of_powers" s_sum_of_powers ["a", "n", "bits"] (sp_sop) := by
  refine fn_mk T.h_sum_of_powers sc_sum_of_powers 3 rfl (by intro ds M Q h; first | (obtain ⟨rfl, _⟩ := h; rfl) | (obtain ⟨_, rfl, _⟩ := h; rfl) | (obtain ⟨_, _, rfl, _⟩ := h; rfl) | (obtain ⟨_, _, _, rfl, _⟩ := h; rfl) | (obtain ⟨_, _, _, _, rfl, _⟩ := h; rfl) | (obtain ⟨_, _, _, _, _, rfl, _⟩ := h; rfl) | (obtain ⟨_, _, _, _, _, _, rfl, _⟩ := h; rfl) | (obtain ⟨_, _, _, _, _, _, _, rfl, _⟩ := h; rfl) | (obtain ⟨_, _, _, _, _, _, _, _, rfl, _⟩ := h; rfl) | (obtain ⟨_, _, _, _, _, _, _, _, _, rfl, _⟩ := h; rfl) | (obtain ⟨_, _, _, _, _, _, _, _, _, _, rfl, _⟩ := h; rfl) | (obtain ⟨_, _, _, _, _, _, _, _, _, _, _, rfl, _⟩ := h; rfl) | (obtain ⟨_, _, _, _, _, _, _, _, _, _, _, _, rfl, _⟩ := h; rfl)) (fun f cdv A outer s H E hr => ⟨_, (dss_one (ds_ret (de_call F_value_behind hr (da_cons (de_tup (da_cons (dv 0) (da_cons de_int da_nil))) (da_cons de_int (da_cons (dv 1) (da_cons (dv 2) da_nil))))))), ?_⟩)
  rintro ds M Q ⟨a, n, b, rfl, hn, hb, hQ⟩
  (try simp only [dLcM, w_isiM, rReverseD, dMinDef, rInDic, rNotInDic, dIRL, dCallC, dCallG, dConsL, dLam, atDs, dCallV, dgU, dSortI, dIItems, dDicM, dDc, dLenSet, itemsD, w_lrg, w_index, w_sortQ, dCut, dDGet, dDGet1, dDGet2, dDPut, dPairs, w_disp, w_newDF, w_newDT, dec_self, List.map_cons, List.map_nil, eqD_bl, eqD_int, eqD_str, eqD_tup, eqD_lst, eqDs_nil, eqDs_nc, eqDs_cn, eqDs_cons, reduceIte, Bool.false_eq_true, Bool.not_true, Bool.not_false, decide_true, decide_false, dVar, atD, setD, startD, dC, dOp, dAnd, dOr, dNot, dIf, dUn, dNil, dCons, dTup, dLst, rInD, rNotInD, dNoPart, dPart, dRev, dFld, DL.fieldsOf, dCB, dNext, dSeq, dBreak, dCont, dDrop, dRet, dRetN, dIfS, dNever, dgN, dgNil, dgCons, dgSub, dAsg, dPar, dPar3, putD, dSetF, dMt, rAppendD, rPopD, rExtendD, lsT, lsR, lsF, itemsR, dFrz, dCall, dCallK, dMeth, dMake, dFor, dIL, dIT, dIR1, dIR2, dIE, dIZ, wipeD, dYes, dLc, dDic0, updM_same, cxOf, asBl_bl, asInt_int, asTup_tup, isN, w_test, w_chain, w_andV, w_orV, w_notV, w_neg, w_sub, w_div, w_mod, w_pow, w_shl, w_shr, w_and, w_or, w_xor, w_lt, w_le, w_gt, w_ge, w_add, w_addS, w_addT, w_addL, w_addF, w_addR, w_mul, w_mulL, w_eq, w_ne, w_isN, w_isB, w_isntN, w_isntB, w_ix, w_isi, w_abs, w_max2, w_min2, w_max1L, w_min1L, w_sum, w_all, w_any, w_len, w_int, w_intB, w_divmod, w_sorted, w_list, w_bits, w_sl, w_slL, w_slF, w_slR, w_slT, w_newF, w_newT, w_eqL, w_eqT, w_eqR, w_neL, w_neT, w_neR, w_dgT, w_derL, w_derT, w_derB, w_derI, w_derN, w_derS, w_eqSS, w_eqBB, w_neSS, w_neBB, w_eqBI, w_eqIN, w_neIN, w_eqNI, w_neNI, w_eqNN, w_neNN, w_NN, w_NI, w_IN])
  refine ⟨lit_len (n := 2) (by decide), a, 1, 0, n, b, rfl, by decide, hn, hb, fun r r0 r1 hd => endD_of (hQ r r0 r1 ?_)⟩
  rw [it_pow, Int.mul_zero, Int.zero_add, Int.mul_one] at hd
  exact hd
/-- the question of steps, asked of the sums alone -/
theorem steps_ask {a c x y u w g r : Int} {b t : Nat} (htb : t ≤ b) (hm : (a * x + c - x) % 2 ^ b = 2 ^ t * u) (hw : (y - x) % 2 ^ b = 2 ^ t * w) (hu : (2 : Int) ^ (b - t) ∣ u * r - 1) (hg : (2 : Int) ^ (b - t) ∣ g - w * r) (n : Nat) :
    (2 : Int) ^ b ∣ itZ a c x n - y ↔ (2 : Int) ^ (b - t) ∣ sumP a n - g := by
  have hbt : (2 : Int) ^ b = 2 ^ t * 2 ^ (b - t) := by rw [← Int.pow_add]; congr 1; omega
  have hpt := two_pos t
  obtain ⟨p, hp⟩ := mod_cong (2 ^ b) (a * x + c - x)
  obtain ⟨q, hq⟩ := mod_cong (2 ^ b) (y - x)
  rw [hm] at hp
  rw [hw] at hq
  rw [it_sum]
  obtain ⟨d, hd⟩ := hu
  obtain ⟨e, he⟩ := hg
  constructor
  · rintro ⟨z, hz⟩
    have e1 : (2 : Int) ^ t * (sumP a n * u - w) = 2 ^ t * (2 ^ (b - t) * (z + sumP a n * p - q)) := by
      rw [← Int.mul_assoc, ← hbt]
      grind
    have e2 := Int.eq_of_mul_eq_mul_left (show (2 : Int) ^ t ≠ 0 by omega) e1
    exact ⟨(z + sumP a n * p - q) * r - sumP a n * d - e, by grind⟩
  · rintro ⟨z, hz⟩
    have e1 : sumP a n * u - w = 2 ^ (b - t) * (z * u + e * u + w * d) := by grind
    refine ⟨z * u + e * u + w * d - sumP a n * p + q, ?_⟩
    have e3 : (2 : Int) ^ t * (sumP a n * u - w) = 2 ^ b * (z * u + e * u + w * d) := by rw [e1, hbt]; grind
    grind
/-- the bits of the number of steps, one after the other -/
theorem steps_bit {a g : Int} {n k : Nat} (h4 : a % 4 = 1) (h : (2 : Int) ^ k ∣ sumP a n - g) (h2 : ¬ (2 : Int) ^ (k + 1) ∣ sumP a n - g) : (2 : Int) ^ (k + 1) ∣ sumP a (n + 2 ^ k) - g := by
  obtain ⟨z, hz⟩ := h
  obtain ⟨y, hy⟩ := sum_four h4 k
  have ho := pow_odd (show a % 2 = 1 by omega) n
  rw [sum_add, hy]
  have hzo : z % 2 = 1 := by
    rcases odd_cases z with e | e
    · exfalso
      refine h2 ⟨z / 2, ?_⟩
      rw [Int.pow_succ]
      have : z = 2 * (z / 2) := by omega
      grind
    · exact e
  obtain ⟨w, hw⟩ : ∃ w, a ^ n = 2 * w + 1 := ⟨a ^ n / 2, by omega⟩
  obtain ⟨v, hv⟩ : ∃ v, z = 2 * v + 1 := ⟨z / 2, by omega⟩
  exact ⟨v + 2 * w * y + w + y + 1, by rw [Int.pow_succ, hw]; grind⟩
theorem steps_least {a g : Int} {n l : Nat} (h4 : a % 4 = 1) (h : (2 : Int) ^ l ∣ sumP a n - g) (hn : n < 2 ^ l) : ∀ k, k < n → ¬ (2 : Int) ^ l ∣ sumP a k - g := by
  intro k hk hd
  obtain ⟨d, rfl⟩ := Nat.exists_eq_add_of_lt hk
  have e : (2 : Int) ^ l ∣ a ^ k * sumP a (d + 1) := by
    obtain ⟨p, hp⟩ := h
    obtain ⟨q, hq⟩ := hd
    rw [Nat.add_assoc, sum_add] at hp
    exact ⟨p - q, by rw [Int.mul_sub (2 ^ l) p q]; omega⟩
  have e2 := odd_dvd (pow_odd (show a % 2 = 1 by omega) k) e
  have := Nat.le_of_dvd (by omega) (sum_apart h4 e2)
  omega
abbrev sp_lec : SpD := fun ds M Q => ∃ (a c x y : Int) (b : Nat), ds = [.int a, .int c, .int x, .int y, .int (b : Nat)] ∧ a % 4 = 1 ∧ a.natAbs < 2 ^ 600 ∧ c.natAbs < 2 ^ 600 ∧ x.natAbs < 2 ^ 600 ∧ 1 ≤ b ∧ b ≤ 300 ∧ ∀ o, LeastN (fun n => (2 : Int) ^ b ∣ itZ a c x n - y) o → (∀ n, o = some n → n < 2 ^ b) → Q (optN o) M
theorem ok_least_even_course (T : Txt K mg C_Kind) (F_move_of : FnD P w K mg base 1 "move_of" s_move_of ["generator", "x", "bits"] (sp_move)) (F_twos_in : FnD P w K mg base 1 "twos_in" s_twos_in ["n", "most"] (sp_twosin)) (F_inverse_of : FnD P w K mg base 1 "inverse_of" s_inverse_of ["n", "bits"] (sp_invof)) (F_sum_of_powers : FnD P w K mg base 3 "sum_of_powers" s_sum_of_powers ["a", "n", "bits"] (sp_sop)) : FnD P w K mg base 4 "least_even_course" s_least_even_course ["a", "c", "x", "y", "bits"] (sp_lec) := by
  refine fn_mk T.h_least_even_course sc_least_even_course 13 rfl (by intro ds M Q h; first | (obtain ⟨rfl, _⟩ := h; rfl) | (obtain ⟨_, rfl, _⟩ := h; rfl) | (obtain ⟨_, _, rfl, _⟩ := h; rfl) | (obtain ⟨_, _, _, rfl, _⟩ := h; rfl) | (obtain ⟨_, _, _, _, rfl, _⟩ := h; rfl) | (obtain ⟨_, _, _, _, _, rfl, _⟩ := h; rfl) | (obtain ⟨_, _, _, _, _, _, rfl, _⟩ := h; rfl) | (obtain ⟨_, _, _, _, _, _, _, rfl, _⟩ := h; rfl) | (obtain ⟨_, _, _, _, _, _, _, _, rfl, _⟩ := h; rfl) | (obtain ⟨_, _, _, _, _, _, _, _, _, rfl, _⟩ := h; rfl) | (obtain ⟨_, _, _, _, _, _, _, _, _, _, rfl, _⟩ := h; rfl) | (obtain ⟨_, _, _, _, _, _, _, _, _, _, _, rfl, _⟩ := h; rfl) | (obtain ⟨_, _, _, _, _, _, _, _, _, _, _, _, rfl, _⟩ := h; rfl)) (fun f cdv A outer s H E hr => ⟨_, (dss_stop (ds_par (i := 5) (j := 6) sc_least_even_course.nd (da_cons (de_op od_shl de_int (dv 4)) (da_cons (de_call F_move_of hr (da_cons (de_tup (da_cons (dv 0) (da_cons (dv 1) da_nil))) (da_cons (dv 2) (da_cons (dv 4) da_nil)))) da_nil)))
    (dss_stop (ds_par (i := 7) (j := 8) sc_least_even_course.nd (da_cons (de_call F_twos_in hr (da_cons (dv 6) (da_cons (dv 4) da_nil))) (da_cons (de_op od_mod (de_op od_sub (dv 3) (dv 2)) (dv 5)) da_nil)))
    (dss_stop (ds_if (dt_cmp (od_ne hr.units) (de_op od_mod (dv 8) (de_op od_shl de_int (dv 7))) de_int)
    (dss_one (ds_ret de_non))
    dss_nil)
    (dss_stop (ds_set (i := 9) sc_least_even_course.nd (de_op od_sub (dv 4) (dv 7)))
    (dss_stop (ds_set (i := 10) sc_least_even_course.nd (de_cut (de_if (dt_cmp od_gt (dv 9) de_int) (de_op od_mod (de_op (od_mul false) (de_op od_shr (dv 8) (dv 7)) (de_call F_inverse_of hr (da_cons (de_op od_shr (dv 6) (dv 7)) (da_cons (dv 9) da_nil)))) (de_op od_shl de_int (dv 9))) de_int)))
    (dss_stop (ds_set (i := 11) sc_least_even_course.nd de_int)
    (dss_stop (ds_for (di_rng1 T.b_range (da_cons (dv 9) da_nil)) (dg_name (i := 12) sc_least_even_course.nd)
    (dss_one (ds_if (dt_cmp (od_ne hr.units) (de_op od_mod (de_op od_sub (de_call F_sum_of_powers hr (da_cons (dv 0) (da_cons (dv 11) (da_cons (dv 9) da_nil)))) (dv 10)) (de_op od_shl de_int (de_op (od_add false) (dv 12) de_int))) de_int)
    (dss_one (ds_set (i := 11) sc_least_even_course.nd (de_op (od_add false) (dv 11) (de_op od_shl de_int (dv 12)))))
    dss_nil)))
    (dss_one (ds_ret (dv 11)))))))))), ?_⟩)
  rintro ds M Q ⟨a, c, x, y, b, rfl, h4, ha, hc, hx, hb1, hb, hQ⟩
  have hp := two_pos b
  have hpb : (2 : Int) ^ b ≤ 2 ^ 300 := pow_mono hb
  (refine stop_to ?_; (try simp only [dLcM, w_isiM, rReverseD, dMinDef, rInDic, rNotInDic, dIRL, dCallC, dCallG, dConsL, dLam, atDs, dCallV, dgU, dSortI, dIItems, dDicM, dDc, dLenSet, itemsD, w_lrg, w_index, w_sortQ, dCut, dDGet, dDGet1, dDGet2, dDPut, dPairs, w_disp, w_newDF, w_newDT, dec_self, List.map_cons, List.map_nil, eqD_bl, eqD_int, eqD_str, eqD_tup, eqD_lst, eqDs_nil, eqDs_nc, eqDs_cn, eqDs_cons, reduceIte, Bool.false_eq_true, Bool.not_true, Bool.not_false, decide_true, decide_false, dVar, atD, setD, startD, dC, dOp, dAnd, dOr, dNot, dIf, dUn, dNil, dCons, dTup, dLst, rInD, rNotInD, dNoPart, dPart, dRev, dFld, DL.fieldsOf, dCB, dNext, dSeq, dBreak, dCont, dDrop, dRet, dRetN, dIfS, dNever, dgN, dgNil, dgCons, dgSub, dAsg, dPar, dPar3, putD, dSetF, dMt, rAppendD, rPopD, rExtendD, lsT, lsR, lsF, itemsR, dFrz, dCall, dCallK, dMeth, dMake, dFor, dIL, dIT, dIR1, dIR2, dIE, dIZ, wipeD, dYes, dLc, dDic0, updM_same, cxOf, asBl_bl, asInt_int, asTup_tup, isN, w_test, w_chain, w_andV, w_orV, w_notV, w_neg, w_sub, w_div, w_mod, w_pow, w_shl, w_shr, w_and, w_or, w_xor, w_lt, w_le, w_gt, w_ge, w_add, w_addS, w_addT, w_addL, w_addF, w_addR, w_mul, w_mulL, w_eq, w_ne, w_isN, w_isB, w_isntN, w_isntB, w_ix, w_isi, w_abs, w_max2, w_min2, w_max1L, w_min1L, w_sum, w_all, w_any, w_len, w_int, w_intB, w_divmod, w_sorted, w_list, w_bits, w_sl, w_slL, w_slF, w_slR, w_slT, w_newF, w_newT, w_eqL, w_eqT, w_eqR, w_neL, w_neT, w_neR, w_dgT, w_derL, w_derT, w_derB, w_derI, w_derN, w_derS, w_eqSS, w_eqBB, w_neSS, w_neBB, w_eqBI, w_eqIN, w_neIN, w_eqNI, w_neNI, w_eqNN, w_neNN, w_NN, w_NI, w_IN]))
  refine ⟨shl1 (by omega) (by omega), lit_len (n := 2) (by decide), a, c, x, b, rfl, ha, hb, hx, ?_⟩
  rw [Int.one_mul, Int.toNat_natCast]
  (refine stop_to ?_; (try simp only [dLcM, w_isiM, rReverseD, dMinDef, rInDic, rNotInDic, dIRL, dCallC, dCallG, dConsL, dLam, atDs, dCallV, dgU, dSortI, dIItems, dDicM, dDc, dLenSet, itemsD, w_lrg, w_index, w_sortQ, dCut, dDGet, dDGet1, dDGet2, dDPut, dPairs, w_disp, w_newDF, w_newDT, dec_self, List.map_cons, List.map_nil, eqD_bl, eqD_int, eqD_str, eqD_tup, eqD_lst, eqDs_nil, eqDs_nc, eqDs_cn, eqDs_cons, reduceIte, Bool.false_eq_true, Bool.not_true, Bool.not_false, decide_true, decide_false, dVar, atD, setD, startD, dC, dOp, dAnd, dOr, dNot, dIf, dUn, dNil, dCons, dTup, dLst, rInD, rNotInD, dNoPart, dPart, dRev, dFld, DL.fieldsOf, dCB, dNext, dSeq, dBreak, dCont, dDrop, dRet, dRetN, dIfS, dNever, dgN, dgNil, dgCons, dgSub, dAsg, dPar, dPar3, putD, dSetF, dMt, rAppendD, rPopD, rExtendD, lsT, lsR, lsF, itemsR, dFrz, dCall, dCallK, dMeth, dMake, dFor, dIL, dIT, dIR1, dIR2, dIE, dIZ, wipeD, dYes, dLc, dDic0, updM_same, cxOf, asBl_bl, asInt_int, asTup_tup, isN, w_test, w_chain, w_andV, w_orV, w_notV, w_neg, w_sub, w_div, w_mod, w_pow, w_shl, w_shr, w_and, w_or, w_xor, w_lt, w_le, w_gt, w_ge, w_add, w_addS, w_addT, w_addL, w_addF, w_addR, w_mul, w_mulL, w_eq, w_ne, w_isN, w_isB, w_isntN, w_isntB, w_ix, w_isi, w_abs, w_max2, w_min2, w_max1L, w_min1L, w_sum, w_all, w_any, w_len, w_int, w_intB, w_divmod, w_sorted, w_list, w_bits, w_sl, w_slL, w_slF, w_slR, w_slT, w_newF, w_newT, w_eqL, w_eqT, w_eqR, w_neL, w_neT, w_neR, w_dgT, w_derL, w_derT, w_derB, w_derI, w_derN, w_derS, w_eqSS, w_eqBB, w_neSS, w_neBB, w_eqBI, w_eqIN, w_neIN, w_eqNI, w_neNI, w_eqNN, w_neNN, w_NN, w_NI, w_IN]))
  refine ⟨(a * x + c - x) % 2 ^ b, b, rfl, by omega, fun t ht => ?_⟩
  (try simp only [dLcM, w_isiM, rReverseD, dMinDef, rInDic, rNotInDic, dIRL, dCallC, dCallG, dConsL, dLam, atDs, dCallV, dgU, dSortI, dIItems, dDicM, dDc, dLenSet, itemsD, w_lrg, w_index, w_sortQ, dCut, dDGet, dDGet1, dDGet2, dDPut, dPairs, w_disp, w_newDF, w_newDT, dec_self, List.map_cons, List.map_nil, eqD_bl, eqD_int, eqD_str, eqD_tup, eqD_lst, eqDs_nil, eqDs_nc, eqDs_cn, eqDs_cons, reduceIte, Bool.false_eq_true, Bool.not_true, Bool.not_false, decide_true, decide_false, dVar, atD, setD, startD, dC, dOp, dAnd, dOr, dNot, dIf, dUn, dNil, dCons, dTup, dLst, rInD, rNotInD, dNoPart, dPart, dRev, dFld, DL.fieldsOf, dCB, dNext, dSeq, dBreak, dCont, dDrop, dRet, dRetN, dIfS, dNever, dgN, dgNil, dgCons, dgSub, dAsg, dPar, dPar3, putD, dSetF, dMt, rAppendD, rPopD, rExtendD, lsT, lsR, lsF, itemsR, dFrz, dCall, dCallK, dMeth, dMake, dFor, dIL, dIT, dIR1, dIR2, dIE, dIZ, wipeD, dYes, dLc, dDic0, updM_same, cxOf, asBl_bl, asInt_int, asTup_tup, isN, w_test, w_chain, w_andV, w_orV, w_notV, w_neg, w_sub, w_div, w_mod, w_pow, w_shl, w_shr, w_and, w_or, w_xor, w_lt, w_le, w_gt, w_ge, w_add, w_addS, w_addT, w_addL, w_addF, w_addR, w_mul, w_mulL, w_eq, w_ne, w_isN, w_isB, w_isntN, w_isntB, w_ix, w_isi, w_abs, w_max2, w_min2, w_max1L, w_min1L, w_sum, w_all, w_any, w_len, w_int, w_intB, w_divmod, w_sorted, w_list, w_bits, w_sl, w_slL, w_slF, w_slR, w_slT, w_newF, w_newT, w_eqL, w_eqT, w_eqR, w_neL, w_neT, w_neR, w_dgT, w_derL, w_derT, w_derB, w_derI, w_derN, w_derS, w_eqSS, w_eqBB, w_neSS, w_neBB, w_eqBI, w_eqIN, w_neIN, w_eqNI, w_neNI, w_eqNN, w_neNN, w_NN, w_NI, w_IN])
  refine ⟨by omega, ?_⟩
  rw [fmodP hp]
  have htb := ht.1
  have hpt := two_pos t
  have hm := em2 b (a * x + c - x)
  have hw := em2 b (y - x)
  obtain ⟨u, hu⟩ := ht.2.1
  (refine stop_to ?_; (try simp only [dLcM, w_isiM, rReverseD, dMinDef, rInDic, rNotInDic, dIRL, dCallC, dCallG, dConsL, dLam, atDs, dCallV, dgU, dSortI, dIItems, dDicM, dDc, dLenSet, itemsD, w_lrg, w_index, w_sortQ, dCut, dDGet, dDGet1, dDGet2, dDPut, dPairs, w_disp, w_newDF, w_newDT, dec_self, List.map_cons, List.map_nil, eqD_bl, eqD_int, eqD_str, eqD_tup, eqD_lst, eqDs_nil, eqDs_nc, eqDs_cn, eqDs_cons, reduceIte, Bool.false_eq_true, Bool.not_true, Bool.not_false, decide_true, decide_false, dVar, atD, setD, startD, dC, dOp, dAnd, dOr, dNot, dIf, dUn, dNil, dCons, dTup, dLst, rInD, rNotInD, dNoPart, dPart, dRev, dFld, DL.fieldsOf, dCB, dNext, dSeq, dBreak, dCont, dDrop, dRet, dRetN, dIfS, dNever, dgN, dgNil, dgCons, dgSub, dAsg, dPar, dPar3, putD, dSetF, dMt, rAppendD, rPopD, rExtendD, lsT, lsR, lsF, itemsR, dFrz, dCall, dCallK, dMeth, dMake, dFor, dIL, dIT, dIR1, dIR2, dIE, dIZ, wipeD, dYes, dLc, dDic0, updM_same, cxOf, asBl_bl, asInt_int, asTup_tup, isN, w_test, w_chain, w_andV, w_orV, w_notV, w_neg, w_sub, w_div, w_mod, w_pow, w_shl, w_shr, w_and, w_or, w_xor, w_lt, w_le, w_gt, w_ge, w_add, w_addS, w_addT, w_addL, w_addF, w_addR, w_mul, w_mulL, w_eq, w_ne, w_isN, w_isB, w_isntN, w_isntB, w_ix, w_isi, w_abs, w_max2, w_min2, w_max1L, w_min1L, w_sum, w_all, w_any, w_len, w_int, w_intB, w_divmod, w_sorted, w_list, w_bits, w_sl, w_slL, w_slF, w_slR, w_slT, w_newF, w_newT, w_eqL, w_eqT, w_eqR, w_neL, w_neT, w_neR, w_dgT, w_derL, w_derT, w_derB, w_derI, w_derN, w_derS, w_eqSS, w_eqBB, w_neSS, w_neBB, w_eqBI, w_eqIN, w_neIN, w_eqNI, w_neNI, w_eqNN, w_neNN, w_NN, w_NI, w_IN]))
  refine ⟨shl1 (by omega) (by omega), ?_⟩
  rw [Int.one_mul, Int.toNat_natCast, fmodP hpt]
  refine ⟨by omega, ?_⟩
  by_cases h0 : (y - x) % 2 ^ b % 2 ^ t = 0
  rotate_left
  · refine not_yes (decide_eq_false h0) (endD_of (hQ none (fun n hd => h0 ?_) (fun n h => by cases h)))
    refine Int.emod_eq_zero_of_dvd ?_
    obtain ⟨z, hz⟩ := hd
    rw [it_sum] at hz
    obtain ⟨p, hp1⟩ := mod_cong (2 ^ b) (a * x + c - x)
    obtain ⟨q, hq1⟩ := mod_cong (2 ^ b) (y - x)
    obtain ⟨f, hf⟩ := dvd_pow2 htb
    exact ⟨sumP a n * u - f * (z + sumP a n * p - q), by grind⟩
  refine not_no (decide_eq_true h0) ?_
  obtain ⟨w, hw1⟩ := Int.dvd_of_emod_eq_zero h0
  (refine stop_to ?_; (try simp only [dLcM, w_isiM, rReverseD, dMinDef, rInDic, rNotInDic, dIRL, dCallC, dCallG, dConsL, dLam, atDs, dCallV, dgU, dSortI, dIItems, dDicM, dDc, dLenSet, itemsD, w_lrg, w_index, w_sortQ, dCut, dDGet, dDGet1, dDGet2, dDPut, dPairs, w_disp, w_newDF, w_newDT, dec_self, List.map_cons, List.map_nil, eqD_bl, eqD_int, eqD_str, eqD_tup, eqD_lst, eqDs_nil, eqDs_nc, eqDs_cn, eqDs_cons, reduceIte, Bool.false_eq_true, Bool.not_true, Bool.not_false, decide_true, decide_false, dVar, atD, setD, startD, dC, dOp, dAnd, dOr, dNot, dIf, dUn, dNil, dCons, dTup, dLst, rInD, rNotInD, dNoPart, dPart, dRev, dFld, DL.fieldsOf, dCB, dNext, dSeq, dBreak, dCont, dDrop, dRet, dRetN, dIfS, dNever, dgN, dgNil, dgCons, dgSub, dAsg, dPar, dPar3, putD, dSetF, dMt, rAppendD, rPopD, rExtendD, lsT, lsR, lsF, itemsR, dFrz, dCall, dCallK, dMeth, dMake, dFor, dIL, dIT, dIR1, dIR2, dIE, dIZ, wipeD, dYes, dLc, dDic0, updM_same, cxOf, asBl_bl, asInt_int, asTup_tup, isN, w_test, w_chain, w_andV, w_orV, w_notV, w_neg, w_sub, w_div, w_mod, w_pow, w_shl, w_shr, w_and, w_or, w_xor, w_lt, w_le, w_gt, w_ge, w_add, w_addS, w_addT, w_addL, w_addF, w_addR, w_mul, w_mulL, w_eq, w_ne, w_isN, w_isB, w_isntN, w_isntB, w_ix, w_isi, w_abs, w_max2, w_min2, w_max1L, w_min1L, w_sum, w_all, w_any, w_len, w_int, w_intB, w_divmod, w_sorted, w_list, w_bits, w_sl, w_slL, w_slF, w_slR, w_slT, w_newF, w_newT, w_eqL, w_eqT, w_eqR, w_neL, w_neT, w_neR, w_dgT, w_derL, w_derT, w_derB, w_derI, w_derN, w_derS, w_eqSS, w_eqBB, w_neSS, w_neBB, w_eqBI, w_eqIN, w_neIN, w_eqNI, w_neNI, w_eqNN, w_neNN, w_NN, w_NI, w_IN]))
  have hl : (b : Int) - (t : Int) = ((b - t : Nat) : Int) := by omega
  rw [hl]
  (refine stop_to ?_; (try simp only [dLcM, w_isiM, rReverseD, dMinDef, rInDic, rNotInDic, dIRL, dCallC, dCallG, dConsL, dLam, atDs, dCallV, dgU, dSortI, dIItems, dDicM, dDc, dLenSet, itemsD, w_lrg, w_index, w_sortQ, dCut, dDGet, dDGet1, dDGet2, dDPut, dPairs, w_disp, w_newDF, w_newDT, dec_self, List.map_cons, List.map_nil, eqD_bl, eqD_int, eqD_str, eqD_tup, eqD_lst, eqDs_nil, eqDs_nc, eqDs_cn, eqDs_cons, reduceIte, Bool.false_eq_true, Bool.not_true, Bool.not_false, decide_true, decide_false, dVar, atD, setD, startD, dC, dOp, dAnd, dOr, dNot, dIf, dUn, dNil, dCons, dTup, dLst, rInD, rNotInD, dNoPart, dPart, dRev, dFld, DL.fieldsOf, dCB, dNext, dSeq, dBreak, dCont, dDrop, dRet, dRetN, dIfS, dNever, dgN, dgNil, dgCons, dgSub, dAsg, dPar, dPar3, putD, dSetF, dMt, rAppendD, rPopD, rExtendD, lsT, lsR, lsF, itemsR, dFrz, dCall, dCallK, dMeth, dMake, dFor, dIL, dIT, dIR1, dIR2, dIE, dIZ, wipeD, dYes, dLc, dDic0, updM_same, cxOf, asBl_bl, asInt_int, asTup_tup, isN, w_test, w_chain, w_andV, w_orV, w_notV, w_neg, w_sub, w_div, w_mod, w_pow, w_shl, w_shr, w_and, w_or, w_xor, w_lt, w_le, w_gt, w_ge, w_add, w_addS, w_addT, w_addL, w_addF, w_addR, w_mul, w_mulL, w_eq, w_ne, w_isN, w_isB, w_isntN, w_isntB, w_ix, w_isi, w_abs, w_max2, w_min2, w_max1L, w_min1L, w_sum, w_all, w_any, w_len, w_int, w_intB, w_divmod, w_sorted, w_list, w_bits, w_sl, w_slL, w_slF, w_slR, w_slT, w_newF, w_newT, w_eqL, w_eqT, w_eqR, w_neL, w_neT, w_neR, w_dgT, w_derL, w_derT, w_derB, w_derI, w_derN, w_derS, w_eqSS, w_eqBB, w_neSS, w_neBB, w_eqBI, w_eqIN, w_neIN, w_eqNI, w_neNI, w_eqNN, w_neNN, w_NN, w_NI, w_IN]))
  have hus : (a * x + c - x) % 2 ^ b / 2 ^ t = u := by rw [hu, Int.mul_ediv_cancel_left _ (by omega)]
  have hws : (y - x) % 2 ^ b / 2 ^ t = w := by rw [hw1, Int.mul_ediv_cancel_left _ (by omega)]
  have hpl := two_pos (b - t)
  have hplb : (2 : Int) ^ (b - t) ≤ 2 ^ b := pow_mono (by omega)
  have hu2 : u.natAbs < 2 ^ 301 := by
    rw [← hus]
    have h1 := Int.ediv_nonneg hm.1 (show 0 ≤ (2 : Int) ^ t by omega)
    have h2 := Int.ediv_le_self (2 ^ t) hm.1
    omega
  have hw2 : w.natAbs < 2 ^ 301 := by
    rw [← hws]
    have h1 := Int.ediv_nonneg hw.1 (show 0 ≤ (2 : Int) ^ t by omega)
    have h2 := Int.ediv_le_self (2 ^ t) hw.1
    omega
  refine ⟨fun v M' => M' = M ∧ ∃ g r : Int, v = .int g ∧ g.natAbs < 2 ^ 301 ∧ (2 : Int) ^ (b - t) ∣ u * r - 1 ∧ (2 : Int) ^ (b - t) ∣ g - w * r, ?_, ?_⟩
  · (try simp only [dLcM, w_isiM, rReverseD, dMinDef, rInDic, rNotInDic, dIRL, dCallC, dCallG, dConsL, dLam, atDs, dCallV, dgU, dSortI, dIItems, dDicM, dDc, dLenSet, itemsD, w_lrg, w_index, w_sortQ, dCut, dDGet, dDGet1, dDGet2, dDPut, dPairs, w_disp, w_newDF, w_newDT, dec_self, List.map_cons, List.map_nil, eqD_bl, eqD_int, eqD_str, eqD_tup, eqD_lst, eqDs_nil, eqDs_nc, eqDs_cn, eqDs_cons, reduceIte, Bool.false_eq_true, Bool.not_true, Bool.not_false, decide_true, decide_false, dVar, atD, setD, startD, dC, dOp, dAnd, dOr, dNot, dIf, dUn, dNil, dCons, dTup, dLst, rInD, rNotInD, dNoPart, dPart, dRev, dFld, DL.fieldsOf, dCB, dNext, dSeq, dBreak, dCont, dDrop, dRet, dRetN, dIfS, dNever, dgN, dgNil, dgCons, dgSub, dAsg, dPar, dPar3, putD, dSetF, dMt, rAppendD, rPopD, rExtendD, lsT, lsR, lsF, itemsR, dFrz, dCall, dCallK, dMeth, dMake, dFor, dIL, dIT, dIR1, dIR2, dIE, dIZ, wipeD, dYes, dLc, dDic0, updM_same, cxOf, asBl_bl, asInt_int, asTup_tup, isN, w_test, w_chain, w_andV, w_orV, w_notV, w_neg, w_sub, w_div, w_mod, w_pow, w_shl, w_shr, w_and, w_or, w_xor, w_lt, w_le, w_gt, w_ge, w_add, w_addS, w_addT, w_addL, w_addF, w_addR, w_mul, w_mulL, w_eq, w_ne, w_isN, w_isB, w_isntN, w_isntB, w_ix, w_isi, w_abs, w_max2, w_min2, w_max1L, w_min1L, w_sum, w_all, w_any, w_len, w_int, w_intB, w_divmod, w_sorted, w_list, w_bits, w_sl, w_slL, w_slF, w_slR, w_slT, w_newF, w_newT, w_eqL, w_eqT, w_eqR, w_neL, w_neT, w_neR, w_dgT, w_derL, w_derT, w_derB, w_derI, w_derN, w_derS, w_eqSS, w_eqBB, w_neSS, w_neBB, w_eqBI, w_eqIN, w_neIN, w_eqNI, w_neNI, w_eqNN, w_neNN, w_NN, w_NI, w_IN])
    by_cases hz : (0 : Int) < ((b - t : Nat) : Int)
    · refine if_yes (decide_eq_true hz) ⟨by omega, by omega, ?_⟩
      rw [Int.toNat_natCast, hus, hws]
      have huo : u % 2 = 1 := by
        rcases twos_form ht with ⟨v, hv, hvo⟩ | h
        · have : (2 : Int) ^ t * u = 2 ^ t * v := by rw [← hu, ← hv]
          rw [Int.eq_of_mul_eq_mul_left (show (2 : Int) ^ t ≠ 0 by omega) this]
          exact hvo
        · omega
      refine ⟨u, b - t, rfl, huo, Nat.lt_trans hu2 (by decide +kernel), by omega, by omega, fun r hr => ?_⟩
      have hr1 := hr.1
      refine ⟨mulOk_b (m := 301) (n := 301) hw2 (by omega) (by decide) (by decide), shl1 (by omega) (by omega), ?_⟩
      rw [Int.one_mul, Int.toNat_natCast]
      (try simp only [dLcM, w_isiM, rReverseD, dMinDef, rInDic, rNotInDic, dIRL, dCallC, dCallG, dConsL, dLam, atDs, dCallV, dgU, dSortI, dIItems, dDicM, dDc, dLenSet, itemsD, w_lrg, w_index, w_sortQ, dCut, dDGet, dDGet1, dDGet2, dDPut, dPairs, w_disp, w_newDF, w_newDT, dec_self, List.map_cons, List.map_nil, eqD_bl, eqD_int, eqD_str, eqD_tup, eqD_lst, eqDs_nil, eqDs_nc, eqDs_cn, eqDs_cons, reduceIte, Bool.false_eq_true, Bool.not_true, Bool.not_false, decide_true, decide_false, dVar, atD, setD, startD, dC, dOp, dAnd, dOr, dNot, dIf, dUn, dNil, dCons, dTup, dLst, rInD, rNotInD, dNoPart, dPart, dRev, dFld, DL.fieldsOf, dCB, dNext, dSeq, dBreak, dCont, dDrop, dRet, dRetN, dIfS, dNever, dgN, dgNil, dgCons, dgSub, dAsg, dPar, dPar3, putD, dSetF, dMt, rAppendD, rPopD, rExtendD, lsT, lsR, lsF, itemsR, dFrz, dCall, dCallK, dMeth, dMake, dFor, dIL, dIT, dIR1, dIR2, dIE, dIZ, wipeD, dYes, dLc, dDic0, updM_same, cxOf, asBl_bl, asInt_int, asTup_tup, isN, w_test, w_chain, w_andV, w_orV, w_notV, w_neg, w_sub, w_div, w_mod, w_pow, w_shl, w_shr, w_and, w_or, w_xor, w_lt, w_le, w_gt, w_ge, w_add, w_addS, w_addT, w_addL, w_addF, w_addR, w_mul, w_mulL, w_eq, w_ne, w_isN, w_isB, w_isntN, w_isntB, w_ix, w_isi, w_abs, w_max2, w_min2, w_max1L, w_min1L, w_sum, w_all, w_any, w_len, w_int, w_intB, w_divmod, w_sorted, w_list, w_bits, w_sl, w_slL, w_slF, w_slR, w_slT, w_newF, w_newT, w_eqL, w_eqT, w_eqR, w_neL, w_neT, w_neR, w_dgT, w_derL, w_derT, w_derB, w_derI, w_derN, w_derS, w_eqSS, w_eqBB, w_neSS, w_neBB, w_eqBI, w_eqIN, w_neIN, w_eqNI, w_neNI, w_eqNN, w_neNN, w_NN, w_NI, w_IN])
      rw [fmodP hpl]
      refine ⟨by omega, True.intro, _, r, rfl, ?_, hr.2, mod_cong _ _⟩
      have := em2 (b - t) (w * r)
      omega
    · refine if_no (decide_eq_false hz) ⟨True.intro, 0, 0, rfl, by decide, ?_, ?_⟩
      · rw [show b - t = 0 by omega]
        exact ⟨u * 0 - 1, by simp⟩
      · rw [show b - t = 0 by omega]
        exact ⟨0 - w * 0, by simp⟩
  rintro _ M1 ⟨hM1, g, r, rfl, hg1, hur, hgr⟩
  subst hM1
  have hask := steps_ask (c := c) (y := y) htb hu hw1 hur hgr
  (try simp only [dLcM, w_isiM, rReverseD, dMinDef, rInDic, rNotInDic, dIRL, dCallC, dCallG, dConsL, dLam, atDs, dCallV, dgU, dSortI, dIItems, dDicM, dDc, dLenSet, itemsD, w_lrg, w_index, w_sortQ, dCut, dDGet, dDGet1, dDGet2, dDPut, dPairs, w_disp, w_newDF, w_newDT, dec_self, List.map_cons, List.map_nil, eqD_bl, eqD_int, eqD_str, eqD_tup, eqD_lst, eqDs_nil, eqDs_nc, eqDs_cn, eqDs_cons, reduceIte, Bool.false_eq_true, Bool.not_true, Bool.not_false, decide_true, decide_false, dVar, atD, setD, startD, dC, dOp, dAnd, dOr, dNot, dIf, dUn, dNil, dCons, dTup, dLst, rInD, rNotInD, dNoPart, dPart, dRev, dFld, DL.fieldsOf, dCB, dNext, dSeq, dBreak, dCont, dDrop, dRet, dRetN, dIfS, dNever, dgN, dgNil, dgCons, dgSub, dAsg, dPar, dPar3, putD, dSetF, dMt, rAppendD, rPopD, rExtendD, lsT, lsR, lsF, itemsR, dFrz, dCall, dCallK, dMeth, dMake, dFor, dIL, dIT, dIR1, dIR2, dIE, dIZ, wipeD, dYes, dLc, dDic0, updM_same, cxOf, asBl_bl, asInt_int, asTup_tup, isN, w_test, w_chain, w_andV, w_orV, w_notV, w_neg, w_sub, w_div, w_mod, w_pow, w_shl, w_shr, w_and, w_or, w_xor, w_lt, w_le, w_gt, w_ge, w_add, w_addS, w_addT, w_addL, w_addF, w_addR, w_mul, w_mulL, w_eq, w_ne, w_isN, w_isB, w_isntN, w_isntB, w_ix, w_isi, w_abs, w_max2, w_min2, w_max1L, w_min1L, w_sum, w_all, w_any, w_len, w_int, w_intB, w_divmod, w_sorted, w_list, w_bits, w_sl, w_slL, w_slF, w_slR, w_slT, w_newF, w_newT, w_eqL, w_eqT, w_eqR, w_neL, w_neT, w_neR, w_dgT, w_derL, w_derT, w_derB, w_derI, w_derN, w_derS, w_eqSS, w_eqBB, w_neSS, w_neBB, w_eqBI, w_eqIN, w_neIN, w_eqNI, w_neNI, w_eqNN, w_neNN, w_NN, w_NI, w_IN])
  (refine stop_to ?_; (try simp only [dLcM, w_isiM, rReverseD, dMinDef, rInDic, rNotInDic, dIRL, dCallC, dCallG, dConsL, dLam, atDs, dCallV, dgU, dSortI, dIItems, dDicM, dDc, dLenSet, itemsD, w_lrg, w_index, w_sortQ, dCut, dDGet, dDGet1, dDGet2, dDPut, dPairs, w_disp, w_newDF, w_newDT, dec_self, List.map_cons, List.map_nil, eqD_bl, eqD_int, eqD_str, eqD_tup, eqD_lst, eqDs_nil, eqDs_nc, eqDs_cn, eqDs_cons, reduceIte, Bool.false_eq_true, Bool.not_true, Bool.not_false, decide_true, decide_false, dVar, atD, setD, startD, dC, dOp, dAnd, dOr, dNot, dIf, dUn, dNil, dCons, dTup, dLst, rInD, rNotInD, dNoPart, dPart, dRev, dFld, DL.fieldsOf, dCB, dNext, dSeq, dBreak, dCont, dDrop, dRet, dRetN, dIfS, dNever, dgN, dgNil, dgCons, dgSub, dAsg, dPar, dPar3, putD, dSetF, dMt, rAppendD, rPopD, rExtendD, lsT, lsR, lsF, itemsR, dFrz, dCall, dCallK, dMeth, dMake, dFor, dIL, dIT, dIR1, dIR2, dIE, dIZ, wipeD, dYes, dLc, dDic0, updM_same, cxOf, asBl_bl, asInt_int, asTup_tup, isN, w_test, w_chain, w_andV, w_orV, w_notV, w_neg, w_sub, w_div, w_mod, w_pow, w_shl, w_shr, w_and, w_or, w_xor, w_lt, w_le, w_gt, w_ge, w_add, w_addS, w_addT, w_addL, w_addF, w_addR, w_mul, w_mulL, w_eq, w_ne, w_isN, w_isB, w_isntN, w_isntB, w_ix, w_isi, w_abs, w_max2, w_min2, w_max1L, w_min1L, w_sum, w_all, w_any, w_len, w_int, w_intB, w_divmod, w_sorted, w_list, w_bits, w_sl, w_slL, w_slF, w_slR, w_slT, w_newF, w_newT, w_eqL, w_eqT, w_eqR, w_neL, w_neT, w_neR, w_dgT, w_derL, w_derT, w_derB, w_derI, w_derN, w_derS, w_eqSS, w_eqBB, w_neSS, w_neBB, w_eqBI, w_eqIN, w_neIN, w_eqNI, w_neNI, w_eqNN, w_neNN, w_NN, w_NI, w_IN]))
  refine stop_by (fun ρ' M' => M' = M1 ∧ ∃ (n : Nat) (v : Option Dat), n < 2 ^ (b - t) ∧ (2 : Int) ^ (b - t) ∣ sumP a n - g ∧ ρ' = [some (.int a), some (.int c), some (.int x), some (.int y), some (.int (b : Nat)), some (.int (2 ^ b)), some (.int ((a * x + c - x) % 2 ^ b)), some (.int (t : Nat)), some (.int ((y - x) % 2 ^ b)), some (.int ((b - t : Nat) : Int)), some (.int g), some (.int (n : Nat)), v]) ?_ ?_
  · (try simp only [dLcM, w_isiM, rReverseD, dMinDef, rInDic, rNotInDic, dIRL, dCallC, dCallG, dConsL, dLam, atDs, dCallV, dgU, dSortI, dIItems, dDicM, dDc, dLenSet, itemsD, w_lrg, w_index, w_sortQ, dCut, dDGet, dDGet1, dDGet2, dDPut, dPairs, w_disp, w_newDF, w_newDT, dec_self, List.map_cons, List.map_nil, eqD_bl, eqD_int, eqD_str, eqD_tup, eqD_lst, eqDs_nil, eqDs_nc, eqDs_cn, eqDs_cons, reduceIte, Bool.false_eq_true, Bool.not_true, Bool.not_false, decide_true, decide_false, dVar, atD, setD, startD, dC, dOp, dAnd, dOr, dNot, dIf, dUn, dNil, dCons, dTup, dLst, rInD, rNotInD, dNoPart, dPart, dRev, dFld, DL.fieldsOf, dCB, dNext, dSeq, dBreak, dCont, dDrop, dRet, dRetN, dIfS, dNever, dgN, dgNil, dgCons, dgSub, dAsg, dPar, dPar3, putD, dSetF, dMt, rAppendD, rPopD, rExtendD, lsT, lsR, lsF, itemsR, dFrz, dCall, dCallK, dMeth, dMake, dFor, dIL, dIT, dIR1, dIR2, dIE, dIZ, wipeD, dYes, dLc, dDic0, updM_same, cxOf, asBl_bl, asInt_int, asTup_tup, isN, w_test, w_chain, w_andV, w_orV, w_notV, w_neg, w_sub, w_div, w_mod, w_pow, w_shl, w_shr, w_and, w_or, w_xor, w_lt, w_le, w_gt, w_ge, w_add, w_addS, w_addT, w_addL, w_addF, w_addR, w_mul, w_mulL, w_eq, w_ne, w_isN, w_isB, w_isntN, w_isntB, w_ix, w_isi, w_abs, w_max2, w_min2, w_max1L, w_min1L, w_sum, w_all, w_any, w_len, w_int, w_intB, w_divmod, w_sorted, w_list, w_bits, w_sl, w_slL, w_slF, w_slR, w_slT, w_newF, w_newT, w_eqL, w_eqT, w_eqR, w_neL, w_neT, w_neR, w_dgT, w_derL, w_derT, w_derB, w_derI, w_derN, w_derS, w_eqSS, w_eqBB, w_neSS, w_neBB, w_eqBI, w_eqIN, w_neIN, w_eqNI, w_neNI, w_eqNN, w_neNN, w_NN, w_NI, w_IN])
    refine ⟨by omega, by omega, ?_⟩
    rw [Int.toNat_natCast]
    refine loop_n (fun k ρ M' => M' = M1 ∧ ∃ (n : Nat) (v : Option Dat), n < 2 ^ k ∧ (2 : Int) ^ k ∣ sumP a n - g ∧ ρ = [some (.int a), some (.int c), some (.int x), some (.int y), some (.int (b : Nat)), some (.int (2 ^ b)), some (.int ((a * x + c - x) % 2 ^ b)), some (.int (t : Nat)), some (.int ((y - x) % 2 ^ b)), some (.int ((b - t : Nat) : Int)), some (.int g), some (.int (n : Nat)), v]) ⟨rfl, 0, none, by decide, ⟨sumP a 0 - g, by simp⟩, rfl⟩ ?_ ?_
    · rintro ρ M' ⟨hM, n, v, h1, h2, rfl⟩
      exact ⟨hM, n, v, h1, h2, rfl⟩
    · rintro k ρ M' kk hk ⟨hM, n, v, h1, h2, rfl⟩ hkk
      subst hM
      have h300 : 2 ^ k ≤ 2 ^ 300 := Nat.pow_le_pow_right (by decide) (by omega)
      have hn : n < 2 ^ 8000 := by
        have : (2 : Nat) ^ 300 < 2 ^ 8000 := by decide +kernel
        omega
      have hpk := two_pos (k + 1)
      (try simp only [dLcM, w_isiM, rReverseD, dMinDef, rInDic, rNotInDic, dIRL, dCallC, dCallG, dConsL, dLam, atDs, dCallV, dgU, dSortI, dIItems, dDicM, dDc, dLenSet, itemsD, w_lrg, w_index, w_sortQ, dCut, dDGet, dDGet1, dDGet2, dDPut, dPairs, w_disp, w_newDF, w_newDT, dec_self, List.map_cons, List.map_nil, eqD_bl, eqD_int, eqD_str, eqD_tup, eqD_lst, eqDs_nil, eqDs_nc, eqDs_cn, eqDs_cons, reduceIte, Bool.false_eq_true, Bool.not_true, Bool.not_false, decide_true, decide_false, dVar, atD, setD, startD, dC, dOp, dAnd, dOr, dNot, dIf, dUn, dNil, dCons, dTup, dLst, rInD, rNotInD, dNoPart, dPart, dRev, dFld, DL.fieldsOf, dCB, dNext, dSeq, dBreak, dCont, dDrop, dRet, dRetN, dIfS, dNever, dgN, dgNil, dgCons, dgSub, dAsg, dPar, dPar3, putD, dSetF, dMt, rAppendD, rPopD, rExtendD, lsT, lsR, lsF, itemsR, dFrz, dCall, dCallK, dMeth, dMake, dFor, dIL, dIT, dIR1, dIR2, dIE, dIZ, wipeD, dYes, dLc, dDic0, updM_same, cxOf, asBl_bl, asInt_int, asTup_tup, isN, w_test, w_chain, w_andV, w_orV, w_notV, w_neg, w_sub, w_div, w_mod, w_pow, w_shl, w_shr, w_and, w_or, w_xor, w_lt, w_le, w_gt, w_ge, w_add, w_addS, w_addT, w_addL, w_addF, w_addR, w_mul, w_mulL, w_eq, w_ne, w_isN, w_isB, w_isntN, w_isntB, w_ix, w_isi, w_abs, w_max2, w_min2, w_max1L, w_min1L, w_sum, w_all, w_any, w_len, w_int, w_intB, w_divmod, w_sorted, w_list, w_bits, w_sl, w_slL, w_slF, w_slR, w_slT, w_newF, w_newT, w_eqL, w_eqT, w_eqR, w_neL, w_neT, w_neR, w_dgT, w_derL, w_derT, w_derB, w_derI, w_derN, w_derS, w_eqSS, w_eqBB, w_neSS, w_neBB, w_eqBI, w_eqIN, w_neIN, w_eqNI, w_neNI, w_eqNN, w_neNN, w_NN, w_NI, w_IN])
      refine ⟨a, n, b - t, rfl, hn, by omega, fun s s0 s1 hs => ?_⟩
      (try simp only [dLcM, w_isiM, rReverseD, dMinDef, rInDic, rNotInDic, dIRL, dCallC, dCallG, dConsL, dLam, atDs, dCallV, dgU, dSortI, dIItems, dDicM, dDc, dLenSet, itemsD, w_lrg, w_index, w_sortQ, dCut, dDGet, dDGet1, dDGet2, dDPut, dPairs, w_disp, w_newDF, w_newDT, dec_self, List.map_cons, List.map_nil, eqD_bl, eqD_int, eqD_str, eqD_tup, eqD_lst, eqDs_nil, eqDs_nc, eqDs_cn, eqDs_cons, reduceIte, Bool.false_eq_true, Bool.not_true, Bool.not_false, decide_true, decide_false, dVar, atD, setD, startD, dC, dOp, dAnd, dOr, dNot, dIf, dUn, dNil, dCons, dTup, dLst, rInD, rNotInD, dNoPart, dPart, dRev, dFld, DL.fieldsOf, dCB, dNext, dSeq, dBreak, dCont, dDrop, dRet, dRetN, dIfS, dNever, dgN, dgNil, dgCons, dgSub, dAsg, dPar, dPar3, putD, dSetF, dMt, rAppendD, rPopD, rExtendD, lsT, lsR, lsF, itemsR, dFrz, dCall, dCallK, dMeth, dMake, dFor, dIL, dIT, dIR1, dIR2, dIE, dIZ, wipeD, dYes, dLc, dDic0, updM_same, cxOf, asBl_bl, asInt_int, asTup_tup, isN, w_test, w_chain, w_andV, w_orV, w_notV, w_neg, w_sub, w_div, w_mod, w_pow, w_shl, w_shr, w_and, w_or, w_xor, w_lt, w_le, w_gt, w_ge, w_add, w_addS, w_addT, w_addL, w_addF, w_addR, w_mul, w_mulL, w_eq, w_ne, w_isN, w_isB, w_isntN, w_isntB, w_ix, w_isi, w_abs, w_max2, w_min2, w_max1L, w_min1L, w_sum, w_all, w_any, w_len, w_int, w_intB, w_divmod, w_sorted, w_list, w_bits, w_sl, w_slL, w_slF, w_slR, w_slT, w_newF, w_newT, w_eqL, w_eqT, w_eqR, w_neL, w_neT, w_neR, w_dgT, w_derL, w_derT, w_derB, w_derI, w_derN, w_derS, w_eqSS, w_eqBB, w_neSS, w_neBB, w_eqBI, w_eqIN, w_neIN, w_eqNI, w_neNI, w_eqNN, w_neNN, w_NN, w_NI, w_IN])
      rw [show (0 : Int) + (k : Nat) + 1 = ((k + 1 : Nat) : Int) by omega, show (0 : Int) + (k : Nat) = ((k : Nat) : Int) by omega, Int.toNat_natCast, Int.toNat_natCast, Int.one_mul, Int.one_mul, fmodP hpk]
      refine ⟨shl1 (by omega) (by omega), by omega, ?_⟩
      have hdv : (s - g) % 2 ^ (k + 1) = 0 ↔ (2 : Int) ^ (k + 1) ∣ sumP a n - g := by
        obtain ⟨p, hp1⟩ := hs
        obtain ⟨q, hq1⟩ := dvd_pow2 (show k + 1 ≤ b - t by omega)
        constructor
        · intro h
          obtain ⟨z, hz⟩ := Int.dvd_of_emod_eq_zero h
          exact ⟨z - q * p, by grind⟩
        · rintro ⟨z, hz⟩
          exact Int.emod_eq_zero_of_dvd ⟨z + q * p, by grind⟩
      by_cases h0 : (s - g) % 2 ^ (k + 1) = 0
      · refine not_no (decide_eq_true h0) ?_
        (try simp only [dLcM, w_isiM, rReverseD, dMinDef, rInDic, rNotInDic, dIRL, dCallC, dCallG, dConsL, dLam, atDs, dCallV, dgU, dSortI, dIItems, dDicM, dDc, dLenSet, itemsD, w_lrg, w_index, w_sortQ, dCut, dDGet, dDGet1, dDGet2, dDPut, dPairs, w_disp, w_newDF, w_newDT, dec_self, List.map_cons, List.map_nil, eqD_bl, eqD_int, eqD_str, eqD_tup, eqD_lst, eqDs_nil, eqDs_nc, eqDs_cn, eqDs_cons, reduceIte, Bool.false_eq_true, Bool.not_true, Bool.not_false, decide_true, decide_false, dVar, atD, setD, startD, dC, dOp, dAnd, dOr, dNot, dIf, dUn, dNil, dCons, dTup, dLst, rInD, rNotInD, dNoPart, dPart, dRev, dFld, DL.fieldsOf, dCB, dNext, dSeq, dBreak, dCont, dDrop, dRet, dRetN, dIfS, dNever, dgN, dgNil, dgCons, dgSub, dAsg, dPar, dPar3, putD, dSetF, dMt, rAppendD, rPopD, rExtendD, lsT, lsR, lsF, itemsR, dFrz, dCall, dCallK, dMeth, dMake, dFor, dIL, dIT, dIR1, dIR2, dIE, dIZ, wipeD, dYes, dLc, dDic0, updM_same, cxOf, asBl_bl, asInt_int, asTup_tup, isN, w_test, w_chain, w_andV, w_orV, w_notV, w_neg, w_sub, w_div, w_mod, w_pow, w_shl, w_shr, w_and, w_or, w_xor, w_lt, w_le, w_gt, w_ge, w_add, w_addS, w_addT, w_addL, w_addF, w_addR, w_mul, w_mulL, w_eq, w_ne, w_isN, w_isB, w_isntN, w_isntB, w_ix, w_isi, w_abs, w_max2, w_min2, w_max1L, w_min1L, w_sum, w_all, w_any, w_len, w_int, w_intB, w_divmod, w_sorted, w_list, w_bits, w_sl, w_slL, w_slF, w_slR, w_slT, w_newF, w_newT, w_eqL, w_eqT, w_eqR, w_neL, w_neT, w_neR, w_dgT, w_derL, w_derT, w_derB, w_derI, w_derN, w_derS, w_eqSS, w_eqBB, w_neSS, w_neBB, w_eqBI, w_eqIN, w_neIN, w_eqNI, w_neNI, w_eqNN, w_neNN, w_NN, w_NI, w_IN])
        exact hkk _ _ ⟨rfl, n, _, by rw [Nat.pow_succ]; omega, hdv.mp h0, rfl⟩
      · refine not_yes (decide_eq_false h0) ⟨shl1 (by omega) (by omega), ?_⟩
        (try simp only [dLcM, w_isiM, rReverseD, dMinDef, rInDic, rNotInDic, dIRL, dCallC, dCallG, dConsL, dLam, atDs, dCallV, dgU, dSortI, dIItems, dDicM, dDc, dLenSet, itemsD, w_lrg, w_index, w_sortQ, dCut, dDGet, dDGet1, dDGet2, dDPut, dPairs, w_disp, w_newDF, w_newDT, dec_self, List.map_cons, List.map_nil, eqD_bl, eqD_int, eqD_str, eqD_tup, eqD_lst, eqDs_nil, eqDs_nc, eqDs_cn, eqDs_cons, reduceIte, Bool.false_eq_true, Bool.not_true, Bool.not_false, decide_true, decide_false, dVar, atD, setD, startD, dC, dOp, dAnd, dOr, dNot, dIf, dUn, dNil, dCons, dTup, dLst, rInD, rNotInD, dNoPart, dPart, dRev, dFld, DL.fieldsOf, dCB, dNext, dSeq, dBreak, dCont, dDrop, dRet, dRetN, dIfS, dNever, dgN, dgNil, dgCons, dgSub, dAsg, dPar, dPar3, putD, dSetF, dMt, rAppendD, rPopD, rExtendD, lsT, lsR, lsF, itemsR, dFrz, dCall, dCallK, dMeth, dMake, dFor, dIL, dIT, dIR1, dIR2, dIE, dIZ, wipeD, dYes, dLc, dDic0, updM_same, cxOf, asBl_bl, asInt_int, asTup_tup, isN, w_test, w_chain, w_andV, w_orV, w_notV, w_neg, w_sub, w_div, w_mod, w_pow, w_shl, w_shr, w_and, w_or, w_xor, w_lt, w_le, w_gt, w_ge, w_add, w_addS, w_addT, w_addL, w_addF, w_addR, w_mul, w_mulL, w_eq, w_ne, w_isN, w_isB, w_isntN, w_isntB, w_ix, w_isi, w_abs, w_max2, w_min2, w_max1L, w_min1L, w_sum, w_all, w_any, w_len, w_int, w_intB, w_divmod, w_sorted, w_list, w_bits, w_sl, w_slL, w_slF, w_slR, w_slT, w_newF, w_newT, w_eqL, w_eqT, w_eqR, w_neL, w_neT, w_neR, w_dgT, w_derL, w_derT, w_derB, w_derI, w_derN, w_derS, w_eqSS, w_eqBB, w_neSS, w_neBB, w_eqBI, w_eqIN, w_neIN, w_eqNI, w_neNI, w_eqNN, w_neNN, w_NN, w_NI, w_IN])
        refine hkk _ _ ⟨rfl, n + 2 ^ k, some (.int (k : Nat)), by rw [Nat.pow_succ]; omega, steps_bit h4 h2 fun h => h0 (hdv.mpr h), ?_⟩
        rw [Int.natCast_add, show ((2 ^ k : Nat) : Int) = 2 ^ k by simp]
  rintro _ M2 ⟨hM2, n, v, hn, hd, rfl⟩
  subst hM2
  (try simp only [dLcM, w_isiM, rReverseD, dMinDef, rInDic, rNotInDic, dIRL, dCallC, dCallG, dConsL, dLam, atDs, dCallV, dgU, dSortI, dIItems, dDicM, dDc, dLenSet, itemsD, w_lrg, w_index, w_sortQ, dCut, dDGet, dDGet1, dDGet2, dDPut, dPairs, w_disp, w_newDF, w_newDT, dec_self, List.map_cons, List.map_nil, eqD_bl, eqD_int, eqD_str, eqD_tup, eqD_lst, eqDs_nil, eqDs_nc, eqDs_cn, eqDs_cons, reduceIte, Bool.false_eq_true, Bool.not_true, Bool.not_false, decide_true, decide_false, dVar, atD, setD, startD, dC, dOp, dAnd, dOr, dNot, dIf, dUn, dNil, dCons, dTup, dLst, rInD, rNotInD, dNoPart, dPart, dRev, dFld, DL.fieldsOf, dCB, dNext, dSeq, dBreak, dCont, dDrop, dRet, dRetN, dIfS, dNever, dgN, dgNil, dgCons, dgSub, dAsg, dPar, dPar3, putD, dSetF, dMt, rAppendD, rPopD, rExtendD, lsT, lsR, lsF, itemsR, dFrz, dCall, dCallK, dMeth, dMake, dFor, dIL, dIT, dIR1, dIR2, dIE, dIZ, wipeD, dYes, dLc, dDic0, updM_same, cxOf, asBl_bl, asInt_int, asTup_tup, isN, w_test, w_chain, w_andV, w_orV, w_notV, w_neg, w_sub, w_div, w_mod, w_pow, w_shl, w_shr, w_and, w_or, w_xor, w_lt, w_le, w_gt, w_ge, w_add, w_addS, w_addT, w_addL, w_addF, w_addR, w_mul, w_mulL, w_eq, w_ne, w_isN, w_isB, w_isntN, w_isntB, w_ix, w_isi, w_abs, w_max2, w_min2, w_max1L, w_min1L, w_sum, w_all, w_any, w_len, w_int, w_intB, w_divmod, w_sorted, w_list, w_bits, w_sl, w_slL, w_slF, w_slR, w_slT, w_newF, w_newT, w_eqL, w_eqT, w_eqR, w_neL, w_neT, w_neR, w_dgT, w_derL, w_derT, w_derB, w_derI, w_derN, w_derS, w_eqSS, w_eqBB, w_neSS, w_neBB, w_eqBI, w_eqIN, w_neIN, w_eqNI, w_neNI, w_eqNN, w_neNN, w_NN, w_NI, w_IN])
  refine endD_of (hQ (some n) ⟨(hask n).mpr hd, fun k hk h => steps_least h4 hd hn k hk ((hask k).mp h)⟩ fun m hm => ?_)
  cases hm
  exact Nat.lt_of_lt_of_le hn (Nat.pow_le_pow_right (by decide) (by omega))
/-- all numbers of steps, as data -/
def stepsD : Option (Nat × Nat) → Dat
  | none => .non
  | some p => .tup [.int (p.1 : Nat), .int (p.2 : Nat)]
theorem steps_len {a c x y : Int} {b L n : Nat} (ho : a % 2 = 1) (hL : LenOf a (a * x + c - x) b L) (h : LeastN (fun n => (2 : Int) ^ b ∣ itZ a c x n - y) (some n)) : StepsOf a c x y b (some (n, L)) := by
  obtain ⟨h1, h2⟩ := h
  have h1 : (2 : Int) ^ b ∣ itZ a c x n - y := h1
  have key : ∀ k d : Nat, (2 : Int) ^ b ∣ itZ a c x (k + d) - itZ a c x k ↔ L ∣ d := by
    intro k d
    rw [← hL d, it_sum a c x (k + d), it_sum a c x k, sum_add]
    constructor
    · rintro ⟨z, hz⟩
      refine odd_dvd (pow_odd ho k) (k := b) ⟨z, ?_⟩
      rw [← hz]
      grind
    · rintro ⟨z, hz⟩
      exact ⟨a ^ k * z, by rw [show (2 : Int) ^ b * (a ^ k * z) = a ^ k * (2 ^ b * z) by grind, ← hz]; grind⟩
  intro m
  constructor
  · intro hm
    have hnm : n ≤ m := by
      rcases Nat.lt_or_ge m n with g | g
      · exact absurd hm (h2 m g)
      · exact g
    obtain ⟨d, rfl⟩ := Nat.exists_eq_add_of_le hnm
    have : (2 : Int) ^ b ∣ itZ a c x (n + d) - itZ a c x n := by
      obtain ⟨p, hp⟩ := hm
      obtain ⟨q, hq⟩ := h1
      exact ⟨p - q, by rw [Int.mul_sub]; omega⟩
    obtain ⟨t, ht⟩ := (key n d).mp this
    exact ⟨t, by rw [ht, Nat.mul_comm]⟩
  · rintro ⟨t, rfl⟩
    obtain ⟨p, hp⟩ := (key n (t * L)).mpr ⟨t, Nat.mul_comm _ _⟩
    obtain ⟨q, hq⟩ := h1
    exact ⟨p + q, by rw [Int.mul_add]; omega⟩
/-- two steps as one -/
theorem it_two (a c x : Int) : ∀ n : Nat, itZ (a * a) (a * c + c) x n = itZ a c x (2 * n)
  | 0 => rfl
  | n + 1 => by
    show a * a * itZ (a * a) (a * c + c) x n + (a * c + c) = a * (a * itZ a c x (2 * n) + c) + c
    rw [it_two a c x n]
    grind
/-- the least of some numbers, None among them -/
abbrev somesN (l : List (Option Nat)) : List Nat := l.filterMap _root_.id
abbrev LeastL (p : Nat → Prop) (l : List (Option Nat)) : Prop := (∀ n ∈ somesN l, p n) ∧ ∀ m, p m → ∃ n ∈ somesN l, n ≤ m
theorem w_lcN {g : TGD} {tt : TTD} {te : TED} {ρ : EnvD} {mk : Bool} {Q : VKD} {acc : List Dat} {M : MH} : lcGo g tt te ρ mk Q [] acc M = newL mk acc M Q := rfl
theorem w_lcC {g : TGD} {tt : TTD} {te : TED} {ρ : EnvD} {mk : Bool} {Q : VKD} {acc r : List Dat} {x : Dat} {M : MH} : lcGo g tt te ρ mk Q (x :: r) acc M = g x ρ M fun ρ2 M2 => tt ρ2 M2 fun b M3 => if b = true then te ρ2 M3 fun y M4 => lcGo g tt te ρ mk Q r (acc ++ [y]) M4 else lcGo g tt te ρ mk Q r acc M3 := rfl
abbrev sp_odd : SpD := fun ds M Q => ∃ (a c x y : Int) (b : Nat), ds = [genD a c, .int x, .int y, .int (b : Nat)] ∧ a % 2 = 1 ∧ a.natAbs < 2 ^ 200 ∧ c.natAbs < 2 ^ 200 ∧ x.natAbs < 2 ^ 200 ∧ 1 ≤ b ∧ b ≤ 300 ∧ ∀ o, StepsOf a c x y b o → Q (stepsD o) M
theorem ok_odd_course (T : Txt K mg C_Kind) (F_least_even_course : FnD P w K mg base 4 "least_even_course" s_least_even_course ["a", "c", "x", "y", "bits"] (sp_lec)) (F_length_of : FnD P w K mg base 1 "length_of" s_length_of ["a", "move", "bits"] (sp_len)) (F_move_of : FnD P w K mg base 1 "move_of" s_move_of ["generator", "x", "bits"] (sp_move)) : FnD P w K mg base 5 "odd_course" s_odd_course ["generator", "x", "y", "bits"] (sp_odd) := by
  refine fn_mk T.h_odd_course sc_odd_course 11 rfl (by intro ds M Q h; first | (obtain ⟨rfl, _⟩ := h; rfl) | (obtain ⟨_, rfl, _⟩ := h; rfl) | (obtain ⟨_, _, rfl, _⟩ := h; rfl) | (obtain ⟨_, _, _, rfl, _⟩ := h; rfl) | (obtain ⟨_, _, _, _, rfl, _⟩ := h; rfl) | (obtain ⟨_, _, _, _, _, rfl, _⟩ := h; rfl) | (obtain ⟨_, _, _, _, _, _, rfl, _⟩ := h; rfl) | (obtain ⟨_, _, _, _, _, _, _, rfl, _⟩ := h; rfl) | (obtain ⟨_, _, _, _, _, _, _, _, rfl, _⟩ := h; rfl) | (obtain ⟨_, _, _, _, _, _, _, _, _, rfl, _⟩ := h; rfl) | (obtain ⟨_, _, _, _, _, _, _, _, _, _, rfl, _⟩ := h; rfl) | (obtain ⟨_, _, _, _, _, _, _, _, _, _, _, rfl, _⟩ := h; rfl) | (obtain ⟨_, _, _, _, _, _, _, _, _, _, _, _, rfl, _⟩ := h; rfl)) (fun f cdv A outer s H E hr => ⟨_, (dss_stop (ds_asg (dv 0) (DGo.dg (vs := [4, 5]) (dgo_tup (n := 2) (dgs_cons (dgo_name (i := 4) (by decide) sc_odd_course.nd rfl) (dgs_cons (dgo_name (i := 5) (by decide) sc_odd_course.nd rfl) dgs_nil)))))
    (dss_stop (ds_if (dt_cmp (od_eq hr.units) (de_op od_mod (dv 4) de_int) de_int)
    (dss_one (ds_set (i := 6) sc_odd_course.nd (de_lst false (da_cons (de_call F_least_even_course hr (da_cons (dv 4) (da_cons (dv 5) (da_cons (dv 1) (da_cons (dv 2) (da_cons (dv 3) da_nil)))))) da_nil))))
    (dss_stop (ds_set (i := 7) sc_odd_course.nd (de_tup (da_cons (de_op (od_mul false) (dv 4) (dv 4)) (da_cons (de_op (od_add false) (de_op (od_mul false) (dv 4) (dv 5)) (dv 5)) da_nil))))
    (dss_stop (ds_setLc (i := 6) false sc_odd_course.nd (di_tup (de_tup (da_cons (dv 1) (da_cons (de_op (od_add false) (de_op (od_mul false) (dv 4) (dv 1)) (dv 5)) da_nil)))) (blkOk_by (own := [("begin", 8)]) (N := ["generator", "x", "y", "bits", "a", "c", "some", "half", "begin", "at", "one"]) (sc := defScope s_odd_course) (by decide +kernel)) (fun _ _ _ _ _ => (dgo_name (i := 8) (by decide) sc_odd_course.nd rfl)) (fun _ _ _ _ _ => dts_nil) (fun _ _ _ _ _ => (de_call F_least_even_course hr (da_cons (de_ix (dv 7) de_int) (da_cons (de_ix (dv 7) de_int) (da_cons (dv 8) (da_cons (dv 2) (da_cons (dv 3) da_nil))))))))
    (dss_one (ds_setLc (i := 6) false sc_odd_course.nd (di_enum T.b_enumerate (da_cons (dv 6) da_nil)) (blkOk_by (own := [("at", 9), ("one", 10)]) (N := ["generator", "x", "y", "bits", "a", "c", "some", "half", "begin", "at", "one"]) (sc := defScope s_odd_course) (by decide +kernel)) (fun _ _ _ _ _ => (dgo_tup (n := 2) (dgs_cons (dgo_name (i := 9) (by decide) sc_odd_course.nd rfl) (dgs_cons (dgo_name (i := 10) (by decide) sc_odd_course.nd rfl) dgs_nil)))) (fun _ _ _ _ _ => dts_nil) (fun _ _ _ _ _ => (de_cut (de_if (dt_cmp od_is (dv 10) de_non) de_non (de_op (od_add false) (de_op (od_mul false) de_int (dv 10)) (dv 9))))))))))
    (dss_stop (ds_setLc (i := 6) false sc_odd_course.nd (di_lst (dv 6)) (blkOk_by (own := [("one", 10)]) (N := ["generator", "x", "y", "bits", "a", "c", "some", "half", "begin", "at", "one"]) (sc := defScope s_odd_course) (by decide +kernel)) (fun _ _ _ _ _ => (dgo_name (i := 10) (by decide) sc_odd_course.nd rfl)) (fun _ _ _ _ _ => (dts_one (dt_cmp od_isnot (dv 10) de_non))) (fun _ _ _ _ _ => (dv 10)))
    (dss_one (ds_ret (de_if (dt_cmp (od_eq hr.units) (dv 6) (de_lst false da_nil)) de_non (de_tup (da_cons (de_cb (cd_min rfl) (by rfl) T.b_min (by decide +kernel) (da_cons (dv 6) da_nil)) (da_cons (de_call F_length_of hr (da_cons (dv 4) (da_cons (de_call F_move_of hr (da_cons (dv 0) (da_cons (dv 1) (da_cons (dv 3) da_nil)))) (da_cons (dv 3) da_nil)))) da_nil))))))))), ?_⟩)
  rintro ds M Q ⟨a, c, x, y, b, rfl, ho, ha, hc, hx, hb1, hb, hQ⟩
  have hp := two_pos b
  have h6 : (2 : Nat) ^ 200 < 2 ^ 600 := by decide +kernel
  have hmul : ∀ u v : Int, u.natAbs < 2 ^ 200 → v.natAbs < 2 ^ 200 → IntMulOk u v ∧ (u * v).natAbs < 2 ^ 400 := fun u v hu hv => ⟨mulOk_b (m := 200) (n := 200) hu hv (by decide) (by decide), by
    rw [Int.natAbs_mul]
    have h1 := Nat.mul_lt_mul'' hu hv
    have h2 : (2 : Nat) ^ 200 * 2 ^ 200 = 2 ^ 400 := by decide +kernel
    omega⟩
  have h401 : (2 : Nat) ^ 400 + 2 ^ 200 < 2 ^ 600 := by decide +kernel
  (refine stop_to ?_; (try simp only [dLcM, w_isiM, rReverseD, dMinDef, rInDic, rNotInDic, dIRL, dCallC, dCallG, dConsL, dLam, atDs, dCallV, dgU, dSortI, dIItems, dDicM, dDc, dLenSet, itemsD, w_lrg, w_index, w_sortQ, dCut, dDGet, dDGet1, dDGet2, dDPut, dPairs, w_disp, w_newDF, w_newDT, dec_self, List.map_cons, List.map_nil, eqD_bl, eqD_int, eqD_str, eqD_tup, eqD_lst, eqDs_nil, eqDs_nc, eqDs_cn, eqDs_cons, reduceIte, Bool.false_eq_true, Bool.not_true, Bool.not_false, decide_true, decide_false, dVar, atD, setD, startD, dC, dOp, dAnd, dOr, dNot, dIf, dUn, dNil, dCons, dTup, dLst, rInD, rNotInD, dNoPart, dPart, dRev, dFld, DL.fieldsOf, dCB, dNext, dSeq, dBreak, dCont, dDrop, dRet, dRetN, dIfS, dNever, dgN, dgNil, dgCons, dgSub, dAsg, dPar, dPar3, putD, dSetF, dMt, rAppendD, rPopD, rExtendD, lsT, lsR, lsF, itemsR, dFrz, dCall, dCallK, dMeth, dMake, dFor, dIL, dIT, dIR1, dIR2, dIE, dIZ, wipeD, dYes, dLc, dDic0, updM_same, cxOf, asBl_bl, asInt_int, asTup_tup, isN, w_test, w_chain, w_andV, w_orV, w_notV, w_neg, w_sub, w_div, w_mod, w_pow, w_shl, w_shr, w_and, w_or, w_xor, w_lt, w_le, w_gt, w_ge, w_add, w_addS, w_addT, w_addL, w_addF, w_addR, w_mul, w_mulL, w_eq, w_ne, w_isN, w_isB, w_isntN, w_isntB, w_ix, w_isi, w_abs, w_max2, w_min2, w_max1L, w_min1L, w_sum, w_all, w_any, w_len, w_int, w_intB, w_divmod, w_sorted, w_list, w_bits, w_sl, w_slL, w_slF, w_slR, w_slT, w_newF, w_newT, w_eqL, w_eqT, w_eqR, w_neL, w_neT, w_neR, w_dgT, w_derL, w_derT, w_derB, w_derI, w_derN, w_derS, w_eqSS, w_eqBB, w_neSS, w_neBB, w_eqBI, w_eqIN, w_neIN, w_eqNI, w_neNI, w_eqNN, w_neNN, w_NN, w_NI, w_IN]))
  refine ⟨rfl, ?_⟩
  refine stop_by (fun ρ' M' => M' = M ∧ ∃ (l : List (Option Nat)) (v7 v8 v9 v10 : Option Dat), LeastL (fun n => (2 : Int) ^ b ∣ itZ a c x n - y) l ∧ l.length ≤ 2 ∧ ρ' = [some (genD a c), some (.int x), some (.int y), some (.int (b : Nat)), some (.int a), some (.int c), some (.lst (l.map optN)), v7, v8, v9, v10]) ?_ ?_
  · (try simp only [dLcM, w_isiM, rReverseD, dMinDef, rInDic, rNotInDic, dIRL, dCallC, dCallG, dConsL, dLam, atDs, dCallV, dgU, dSortI, dIItems, dDicM, dDc, dLenSet, itemsD, w_lrg, w_index, w_sortQ, dCut, dDGet, dDGet1, dDGet2, dDPut, dPairs, w_disp, w_newDF, w_newDT, dec_self, List.map_cons, List.map_nil, eqD_bl, eqD_int, eqD_str, eqD_tup, eqD_lst, eqDs_nil, eqDs_nc, eqDs_cn, eqDs_cons, reduceIte, Bool.false_eq_true, Bool.not_true, Bool.not_false, decide_true, decide_false, dVar, atD, setD, startD, dC, dOp, dAnd, dOr, dNot, dIf, dUn, dNil, dCons, dTup, dLst, rInD, rNotInD, dNoPart, dPart, dRev, dFld, DL.fieldsOf, dCB, dNext, dSeq, dBreak, dCont, dDrop, dRet, dRetN, dIfS, dNever, dgN, dgNil, dgCons, dgSub, dAsg, dPar, dPar3, putD, dSetF, dMt, rAppendD, rPopD, rExtendD, lsT, lsR, lsF, itemsR, dFrz, dCall, dCallK, dMeth, dMake, dFor, dIL, dIT, dIR1, dIR2, dIE, dIZ, wipeD, dYes, dLc, dDic0, updM_same, cxOf, asBl_bl, asInt_int, asTup_tup, isN, w_test, w_chain, w_andV, w_orV, w_notV, w_neg, w_sub, w_div, w_mod, w_pow, w_shl, w_shr, w_and, w_or, w_xor, w_lt, w_le, w_gt, w_ge, w_add, w_addS, w_addT, w_addL, w_addF, w_addR, w_mul, w_mulL, w_eq, w_ne, w_isN, w_isB, w_isntN, w_isntB, w_ix, w_isi, w_abs, w_max2, w_min2, w_max1L, w_min1L, w_sum, w_all, w_any, w_len, w_int, w_intB, w_divmod, w_sorted, w_list, w_bits, w_sl, w_slL, w_slF, w_slR, w_slT, w_newF, w_newT, w_eqL, w_eqT, w_eqR, w_neL, w_neT, w_neR, w_dgT, w_derL, w_derT, w_derB, w_derI, w_derN, w_derS, w_eqSS, w_eqBB, w_neSS, w_neBB, w_eqBI, w_eqIN, w_neIN, w_eqNI, w_neNI, w_eqNN, w_neNN, w_NN, w_NI, w_IN])
    refine ⟨by decide, ?_⟩
    rw [fmodP (by decide)]
    by_cases h4 : a % 4 = 1
    · refine if_yes (decide_eq_true h4) ⟨a, c, x, y, b, rfl, h4, by omega, by omega, by omega, hb1, hb, fun o ho2 _ => ⟨lit_len (n := 1) (by decide), ?_⟩⟩
      refine ⟨rfl, [o], none, none, none, none, ?_, by simp, rfl⟩
      cases o with
      | none => exact ⟨fun n h => absurd h (by simp [somesN]), fun m hm => absurd hm (ho2 m)⟩
      | some n =>
        refine ⟨fun k hk => ?_, fun m hm => ⟨n, by simp, ?_⟩⟩
        · have : k = n := by simpa using hk
          rw [this]
          exact ho2.1
        · rcases Nat.lt_or_ge m n with g | g
          · exact absurd hm (ho2.2 m g)
          · exact g
    · refine if_no (decide_eq_false h4) ?_
      refine stop_to ?_
      (try simp only [dLcM, w_isiM, rReverseD, dMinDef, rInDic, rNotInDic, dIRL, dCallC, dCallG, dConsL, dLam, atDs, dCallV, dgU, dSortI, dIItems, dDicM, dDc, dLenSet, itemsD, w_lrg, w_index, w_sortQ, dCut, dDGet, dDGet1, dDGet2, dDPut, dPairs, w_disp, w_newDF, w_newDT, dec_self, List.map_cons, List.map_nil, eqD_bl, eqD_int, eqD_str, eqD_tup, eqD_lst, eqDs_nil, eqDs_nc, eqDs_cn, eqDs_cons, reduceIte, Bool.false_eq_true, Bool.not_true, Bool.not_false, decide_true, decide_false, dVar, atD, setD, startD, dC, dOp, dAnd, dOr, dNot, dIf, dUn, dNil, dCons, dTup, dLst, rInD, rNotInD, dNoPart, dPart, dRev, dFld, DL.fieldsOf, dCB, dNext, dSeq, dBreak, dCont, dDrop, dRet, dRetN, dIfS, dNever, dgN, dgNil, dgCons, dgSub, dAsg, dPar, dPar3, putD, dSetF, dMt, rAppendD, rPopD, rExtendD, lsT, lsR, lsF, itemsR, dFrz, dCall, dCallK, dMeth, dMake, dFor, dIL, dIT, dIR1, dIR2, dIE, dIZ, wipeD, dYes, dLc, dDic0, updM_same, cxOf, asBl_bl, asInt_int, asTup_tup, isN, w_test, w_chain, w_andV, w_orV, w_notV, w_neg, w_sub, w_div, w_mod, w_pow, w_shl, w_shr, w_and, w_or, w_xor, w_lt, w_le, w_gt, w_ge, w_add, w_addS, w_addT, w_addL, w_addF, w_addR, w_mul, w_mulL, w_eq, w_ne, w_isN, w_isB, w_isntN, w_isntB, w_ix, w_isi, w_abs, w_max2, w_min2, w_max1L, w_min1L, w_sum, w_all, w_any, w_len, w_int, w_intB, w_divmod, w_sorted, w_list, w_bits, w_sl, w_slL, w_slF, w_slR, w_slT, w_newF, w_newT, w_eqL, w_eqT, w_eqR, w_neL, w_neT, w_neR, w_dgT, w_derL, w_derT, w_derB, w_derI, w_derN, w_derS, w_eqSS, w_eqBB, w_neSS, w_neBB, w_eqBI, w_eqIN, w_neIN, w_eqNI, w_neNI, w_eqNN, w_neNN, w_NN, w_NI, w_IN])
      have haa := hmul a a ha ha
      have hac := hmul a c ha hc
      have hax := hmul a x ha hx
      refine ⟨haa.1, hac.1, lit_len (n := 2) (by decide), ?_⟩
      (refine stop_to ?_; (try simp only [dLcM, w_isiM, rReverseD, dMinDef, rInDic, rNotInDic, dIRL, dCallC, dCallG, dConsL, dLam, atDs, dCallV, dgU, dSortI, dIItems, dDicM, dDc, dLenSet, itemsD, w_lrg, w_index, w_sortQ, dCut, dDGet, dDGet1, dDGet2, dDPut, dPairs, w_disp, w_newDF, w_newDT, dec_self, List.map_cons, List.map_nil, eqD_bl, eqD_int, eqD_str, eqD_tup, eqD_lst, eqDs_nil, eqDs_nc, eqDs_cn, eqDs_cons, reduceIte, Bool.false_eq_true, Bool.not_true, Bool.not_false, decide_true, decide_false, dVar, atD, setD, startD, dC, dOp, dAnd, dOr, dNot, dIf, dUn, dNil, dCons, dTup, dLst, rInD, rNotInD, dNoPart, dPart, dRev, dFld, DL.fieldsOf, dCB, dNext, dSeq, dBreak, dCont, dDrop, dRet, dRetN, dIfS, dNever, dgN, dgNil, dgCons, dgSub, dAsg, dPar, dPar3, putD, dSetF, dMt, rAppendD, rPopD, rExtendD, lsT, lsR, lsF, itemsR, dFrz, dCall, dCallK, dMeth, dMake, dFor, dIL, dIT, dIR1, dIR2, dIE, dIZ, wipeD, dYes, dLc, dDic0, updM_same, cxOf, asBl_bl, asInt_int, asTup_tup, isN, w_test, w_chain, w_andV, w_orV, w_notV, w_neg, w_sub, w_div, w_mod, w_pow, w_shl, w_shr, w_and, w_or, w_xor, w_lt, w_le, w_gt, w_ge, w_add, w_addS, w_addT, w_addL, w_addF, w_addR, w_mul, w_mulL, w_eq, w_ne, w_isN, w_isB, w_isntN, w_isntB, w_ix, w_isi, w_abs, w_max2, w_min2, w_max1L, w_min1L, w_sum, w_all, w_any, w_len, w_int, w_intB, w_divmod, w_sorted, w_list, w_bits, w_sl, w_slL, w_slF, w_slR, w_slT, w_newF, w_newT, w_eqL, w_eqT, w_eqR, w_neL, w_neT, w_neR, w_dgT, w_derL, w_derT, w_derB, w_derI, w_derN, w_derS, w_eqSS, w_eqBB, w_neSS, w_neBB, w_eqBI, w_eqIN, w_neIN, w_eqNI, w_neNI, w_eqNN, w_neNN, w_NN, w_NI, w_IN]))
      refine ⟨hax.1, lit_len (n := 2) (by decide), lit_len (n := 2) (by decide), ?_⟩
      refine w_lcC.mpr ?_
      (try simp only [dLcM, w_isiM, rReverseD, dMinDef, rInDic, rNotInDic, dIRL, dCallC, dCallG, dConsL, dLam, atDs, dCallV, dgU, dSortI, dIItems, dDicM, dDc, dLenSet, itemsD, w_lrg, w_index, w_sortQ, dCut, dDGet, dDGet1, dDGet2, dDPut, dPairs, w_disp, w_newDF, w_newDT, dec_self, List.map_cons, List.map_nil, eqD_bl, eqD_int, eqD_str, eqD_tup, eqD_lst, eqDs_nil, eqDs_nc, eqDs_cn, eqDs_cons, reduceIte, Bool.false_eq_true, Bool.not_true, Bool.not_false, decide_true, decide_false, dVar, atD, setD, startD, dC, dOp, dAnd, dOr, dNot, dIf, dUn, dNil, dCons, dTup, dLst, rInD, rNotInD, dNoPart, dPart, dRev, dFld, DL.fieldsOf, dCB, dNext, dSeq, dBreak, dCont, dDrop, dRet, dRetN, dIfS, dNever, dgN, dgNil, dgCons, dgSub, dAsg, dPar, dPar3, putD, dSetF, dMt, rAppendD, rPopD, rExtendD, lsT, lsR, lsF, itemsR, dFrz, dCall, dCallK, dMeth, dMake, dFor, dIL, dIT, dIR1, dIR2, dIE, dIZ, wipeD, dYes, dLc, dDic0, updM_same, cxOf, asBl_bl, asInt_int, asTup_tup, isN, w_test, w_chain, w_andV, w_orV, w_notV, w_neg, w_sub, w_div, w_mod, w_pow, w_shl, w_shr, w_and, w_or, w_xor, w_lt, w_le, w_gt, w_ge, w_add, w_addS, w_addT, w_addL, w_addF, w_addR, w_mul, w_mulL, w_eq, w_ne, w_isN, w_isB, w_isntN, w_isntB, w_ix, w_isi, w_abs, w_max2, w_min2, w_max1L, w_min1L, w_sum, w_all, w_any, w_len, w_int, w_intB, w_divmod, w_sorted, w_list, w_bits, w_sl, w_slL, w_slF, w_slR, w_slT, w_newF, w_newT, w_eqL, w_eqT, w_eqR, w_neL, w_neT, w_neR, w_dgT, w_derL, w_derT, w_derB, w_derI, w_derN, w_derS, w_eqSS, w_eqBB, w_neSS, w_neBB, w_eqBI, w_eqIN, w_neIN, w_eqNI, w_neNI, w_eqNN, w_neNN, w_NN, w_NI, w_IN])
      have h44 : a * a % 4 = 1 := by
        have : a % 4 = 3 := by omega
        rw [Int.mul_emod, this]
        rfl
      refine ⟨_, _, rfl, atI_nat (j := 0) rfl, _, _, rfl, atI_nat (j := 1) rfl, _, _, x, y, b, rfl, h44, by omega, by omega, by omega, hb1, hb, fun o1 ho1 _ => ?_⟩
      refine w_lcC.mpr ?_
      (try simp only [dLcM, w_isiM, rReverseD, dMinDef, rInDic, rNotInDic, dIRL, dCallC, dCallG, dConsL, dLam, atDs, dCallV, dgU, dSortI, dIItems, dDicM, dDc, dLenSet, itemsD, w_lrg, w_index, w_sortQ, dCut, dDGet, dDGet1, dDGet2, dDPut, dPairs, w_disp, w_newDF, w_newDT, dec_self, List.map_cons, List.map_nil, eqD_bl, eqD_int, eqD_str, eqD_tup, eqD_lst, eqDs_nil, eqDs_nc, eqDs_cn, eqDs_cons, reduceIte, Bool.false_eq_true, Bool.not_true, Bool.not_false, decide_true, decide_false, dVar, atD, setD, startD, dC, dOp, dAnd, dOr, dNot, dIf, dUn, dNil, dCons, dTup, dLst, rInD, rNotInD, dNoPart, dPart, dRev, dFld, DL.fieldsOf, dCB, dNext, dSeq, dBreak, dCont, dDrop, dRet, dRetN, dIfS, dNever, dgN, dgNil, dgCons, dgSub, dAsg, dPar, dPar3, putD, dSetF, dMt, rAppendD, rPopD, rExtendD, lsT, lsR, lsF, itemsR, dFrz, dCall, dCallK, dMeth, dMake, dFor, dIL, dIT, dIR1, dIR2, dIE, dIZ, wipeD, dYes, dLc, dDic0, updM_same, cxOf, asBl_bl, asInt_int, asTup_tup, isN, w_test, w_chain, w_andV, w_orV, w_notV, w_neg, w_sub, w_div, w_mod, w_pow, w_shl, w_shr, w_and, w_or, w_xor, w_lt, w_le, w_gt, w_ge, w_add, w_addS, w_addT, w_addL, w_addF, w_addR, w_mul, w_mulL, w_eq, w_ne, w_isN, w_isB, w_isntN, w_isntB, w_ix, w_isi, w_abs, w_max2, w_min2, w_max1L, w_min1L, w_sum, w_all, w_any, w_len, w_int, w_intB, w_divmod, w_sorted, w_list, w_bits, w_sl, w_slL, w_slF, w_slR, w_slT, w_newF, w_newT, w_eqL, w_eqT, w_eqR, w_neL, w_neT, w_neR, w_dgT, w_derL, w_derT, w_derB, w_derI, w_derN, w_derS, w_eqSS, w_eqBB, w_neSS, w_neBB, w_eqBI, w_eqIN, w_neIN, w_eqNI, w_neNI, w_eqNN, w_neNN, w_NN, w_NI, w_IN])
      refine ⟨_, _, rfl, atI_nat (j := 0) rfl, _, _, rfl, atI_nat (j := 1) rfl, _, _, a * x + c, y, b, rfl, h44, by omega, by omega, by omega, hb1, hb, fun o2 ho2 _ => ?_⟩
      refine w_lcN.mpr ?_
      (try simp only [dLcM, w_isiM, rReverseD, dMinDef, rInDic, rNotInDic, dIRL, dCallC, dCallG, dConsL, dLam, atDs, dCallV, dgU, dSortI, dIItems, dDicM, dDc, dLenSet, itemsD, w_lrg, w_index, w_sortQ, dCut, dDGet, dDGet1, dDGet2, dDPut, dPairs, w_disp, w_newDF, w_newDT, dec_self, List.map_cons, List.map_nil, eqD_bl, eqD_int, eqD_str, eqD_tup, eqD_lst, eqDs_nil, eqDs_nc, eqDs_cn, eqDs_cons, reduceIte, Bool.false_eq_true, Bool.not_true, Bool.not_false, decide_true, decide_false, dVar, atD, setD, startD, dC, dOp, dAnd, dOr, dNot, dIf, dUn, dNil, dCons, dTup, dLst, rInD, rNotInD, dNoPart, dPart, dRev, dFld, DL.fieldsOf, dCB, dNext, dSeq, dBreak, dCont, dDrop, dRet, dRetN, dIfS, dNever, dgN, dgNil, dgCons, dgSub, dAsg, dPar, dPar3, putD, dSetF, dMt, rAppendD, rPopD, rExtendD, lsT, lsR, lsF, itemsR, dFrz, dCall, dCallK, dMeth, dMake, dFor, dIL, dIT, dIR1, dIR2, dIE, dIZ, wipeD, dYes, dLc, dDic0, updM_same, cxOf, asBl_bl, asInt_int, asTup_tup, isN, w_test, w_chain, w_andV, w_orV, w_notV, w_neg, w_sub, w_div, w_mod, w_pow, w_shl, w_shr, w_and, w_or, w_xor, w_lt, w_le, w_gt, w_ge, w_add, w_addS, w_addT, w_addL, w_addF, w_addR, w_mul, w_mulL, w_eq, w_ne, w_isN, w_isB, w_isntN, w_isntB, w_ix, w_isi, w_abs, w_max2, w_min2, w_max1L, w_min1L, w_sum, w_all, w_any, w_len, w_int, w_intB, w_divmod, w_sorted, w_list, w_bits, w_sl, w_slL, w_slF, w_slR, w_slT, w_newF, w_newT, w_eqL, w_eqT, w_eqR, w_neL, w_neT, w_neR, w_dgT, w_derL, w_derT, w_derB, w_derI, w_derN, w_derS, w_eqSS, w_eqBB, w_neSS, w_neBB, w_eqBI, w_eqIN, w_neIN, w_eqNI, w_neNI, w_eqNN, w_neNN, w_NN, w_NI, w_IN])
      refine ⟨_, rfl, lit_len (n := 2) (by decide), ?_⟩
      rw [show ([] ++ [optN o1] ++ [optN o2] : List Dat) = [optN o1, optN o2] from rfl, show enumD [optN o1, optN o2] = [.tup [.int 0, optN o1], .tup [.int 1, optN o2]] by rfl]
      have hcut : ∀ (o : Option Nat) (at_ : Nat) (ρ : EnvD) (M : MH) (Q : VKD), atD ρ 10 = some (optN o) → atD ρ 9 = some (.int (at_ : Nat)) → Q (optN (o.map fun n => 2 * n + at_)) M → deCut (dIf (dTest (dOp rIs (dVar 10) (dC Dat.non))) (dC Dat.non) (dOp (DL.rAdd false) (dOp (rMul false) (dC (Dat.int 2)) (dVar 10)) (dVar 9))) ρ M Q := by
        intro o at_ ρ M Q h1 h2 hQ
        refine cutE_is (optN (o.map fun n => 2 * n + at_)) ?_ hQ
        cases o with
        | none =>
          simp only [dIf, dTest, dOp, dVar, dC, h1, optN, w_isN, isN]
          (try simp only [dLcM, w_isiM, rReverseD, dMinDef, rInDic, rNotInDic, dIRL, dCallC, dCallG, dConsL, dLam, atDs, dCallV, dgU, dSortI, dIItems, dDicM, dDc, dLenSet, itemsD, w_lrg, w_index, w_sortQ, dCut, dDGet, dDGet1, dDGet2, dDPut, dPairs, w_disp, w_newDF, w_newDT, dec_self, List.map_cons, List.map_nil, eqD_bl, eqD_int, eqD_str, eqD_tup, eqD_lst, eqDs_nil, eqDs_nc, eqDs_cn, eqDs_cons, reduceIte, Bool.false_eq_true, Bool.not_true, Bool.not_false, decide_true, decide_false, dVar, atD, setD, startD, dC, dOp, dAnd, dOr, dNot, dIf, dUn, dNil, dCons, dTup, dLst, rInD, rNotInD, dNoPart, dPart, dRev, dFld, DL.fieldsOf, dCB, dNext, dSeq, dBreak, dCont, dDrop, dRet, dRetN, dIfS, dNever, dgN, dgNil, dgCons, dgSub, dAsg, dPar, dPar3, putD, dSetF, dMt, rAppendD, rPopD, rExtendD, lsT, lsR, lsF, itemsR, dFrz, dCall, dCallK, dMeth, dMake, dFor, dIL, dIT, dIR1, dIR2, dIE, dIZ, wipeD, dYes, dLc, dDic0, updM_same, cxOf, asBl_bl, asInt_int, asTup_tup, isN, w_test, w_chain, w_andV, w_orV, w_notV, w_neg, w_sub, w_div, w_mod, w_pow, w_shl, w_shr, w_and, w_or, w_xor, w_lt, w_le, w_gt, w_ge, w_add, w_addS, w_addT, w_addL, w_addF, w_addR, w_mul, w_mulL, w_eq, w_ne, w_isN, w_isB, w_isntN, w_isntB, w_ix, w_isi, w_abs, w_max2, w_min2, w_max1L, w_min1L, w_sum, w_all, w_any, w_len, w_int, w_intB, w_divmod, w_sorted, w_list, w_bits, w_sl, w_slL, w_slF, w_slR, w_slT, w_newF, w_newT, w_eqL, w_eqT, w_eqR, w_neL, w_neT, w_neR, w_dgT, w_derL, w_derT, w_derB, w_derI, w_derN, w_derS, w_eqSS, w_eqBB, w_neSS, w_neBB, w_eqBI, w_eqIN, w_neIN, w_eqNI, w_neNI, w_eqNN, w_neNN, w_NN, w_NI, w_IN])
          (first | exact ⟨rfl, rfl⟩ | exact ⟨rfl, True.intro⟩ | exact ⟨True.intro, rfl⟩ | exact ⟨True.intro, True.intro⟩)
        | some n =>
          simp only [dIf, dTest, dOp, dVar, dC, h1, h2, optN, w_isN, isN]
          (try simp only [dLcM, w_isiM, rReverseD, dMinDef, rInDic, rNotInDic, dIRL, dCallC, dCallG, dConsL, dLam, atDs, dCallV, dgU, dSortI, dIItems, dDicM, dDc, dLenSet, itemsD, w_lrg, w_index, w_sortQ, dCut, dDGet, dDGet1, dDGet2, dDPut, dPairs, w_disp, w_newDF, w_newDT, dec_self, List.map_cons, List.map_nil, eqD_bl, eqD_int, eqD_str, eqD_tup, eqD_lst, eqDs_nil, eqDs_nc, eqDs_cn, eqDs_cons, reduceIte, Bool.false_eq_true, Bool.not_true, Bool.not_false, decide_true, decide_false, dVar, atD, setD, startD, dC, dOp, dAnd, dOr, dNot, dIf, dUn, dNil, dCons, dTup, dLst, rInD, rNotInD, dNoPart, dPart, dRev, dFld, DL.fieldsOf, dCB, dNext, dSeq, dBreak, dCont, dDrop, dRet, dRetN, dIfS, dNever, dgN, dgNil, dgCons, dgSub, dAsg, dPar, dPar3, putD, dSetF, dMt, rAppendD, rPopD, rExtendD, lsT, lsR, lsF, itemsR, dFrz, dCall, dCallK, dMeth, dMake, dFor, dIL, dIT, dIR1, dIR2, dIE, dIZ, wipeD, dYes, dLc, dDic0, updM_same, cxOf, asBl_bl, asInt_int, asTup_tup, isN, w_test, w_chain, w_andV, w_orV, w_notV, w_neg, w_sub, w_div, w_mod, w_pow, w_shl, w_shr, w_and, w_or, w_xor, w_lt, w_le, w_gt, w_ge, w_add, w_addS, w_addT, w_addL, w_addF, w_addR, w_mul, w_mulL, w_eq, w_ne, w_isN, w_isB, w_isntN, w_isntB, w_ix, w_isi, w_abs, w_max2, w_min2, w_max1L, w_min1L, w_sum, w_all, w_any, w_len, w_int, w_intB, w_divmod, w_sorted, w_list, w_bits, w_sl, w_slL, w_slF, w_slR, w_slT, w_newF, w_newT, w_eqL, w_eqT, w_eqR, w_neL, w_neT, w_neR, w_dgT, w_derL, w_derT, w_derB, w_derI, w_derN, w_derS, w_eqSS, w_eqBB, w_neSS, w_neBB, w_eqBI, w_eqIN, w_neIN, w_eqNI, w_neNI, w_eqNN, w_neNN, w_NN, w_NI, w_IN])
          refine ⟨mulOk_l (by decide), ?_⟩
          rw [show (2 : Int) * (n : Nat) + (at_ : Nat) = ((2 * n + at_ : Nat) : Int) by omega]
          (first | exact ⟨rfl, rfl⟩ | exact ⟨rfl, True.intro⟩ | exact ⟨True.intro, rfl⟩ | exact ⟨True.intro, True.intro⟩)
      refine w_lcC.mpr ?_
      (try simp only [dLcM, w_isiM, rReverseD, dMinDef, rInDic, rNotInDic, dIRL, dCallC, dCallG, dConsL, dLam, atDs, dCallV, dgU, dSortI, dIItems, dDicM, dDc, dLenSet, itemsD, w_lrg, w_index, w_sortQ, dCut, dDGet, dDGet1, dDGet2, dDPut, dPairs, w_disp, w_newDF, w_newDT, dec_self, List.map_cons, List.map_nil, eqD_bl, eqD_int, eqD_str, eqD_tup, eqD_lst, eqDs_nil, eqDs_nc, eqDs_cn, eqDs_cons, reduceIte, Bool.false_eq_true, Bool.not_true, Bool.not_false, decide_true, decide_false, dVar, atD, setD, startD, dC, dOp, dAnd, dOr, dNot, dIf, dUn, dNil, dCons, dTup, dLst, rInD, rNotInD, dNoPart, dPart, dRev, dFld, DL.fieldsOf, dCB, dNext, dSeq, dBreak, dCont, dDrop, dRet, dRetN, dIfS, dNever, dgN, dgNil, dgCons, dgSub, dAsg, dPar, dPar3, putD, dSetF, dMt, rAppendD, rPopD, rExtendD, lsT, lsR, lsF, itemsR, dFrz, dCall, dCallK, dMeth, dMake, dFor, dIL, dIT, dIR1, dIR2, dIE, dIZ, wipeD, dYes, dLc, dDic0, updM_same, cxOf, asBl_bl, asInt_int, asTup_tup, isN, w_test, w_chain, w_andV, w_orV, w_notV, w_neg, w_sub, w_div, w_mod, w_pow, w_shl, w_shr, w_and, w_or, w_xor, w_lt, w_le, w_gt, w_ge, w_add, w_addS, w_addT, w_addL, w_addF, w_addR, w_mul, w_mulL, w_eq, w_ne, w_isN, w_isB, w_isntN, w_isntB, w_ix, w_isi, w_abs, w_max2, w_min2, w_max1L, w_min1L, w_sum, w_all, w_any, w_len, w_int, w_intB, w_divmod, w_sorted, w_list, w_bits, w_sl, w_slL, w_slF, w_slR, w_slT, w_newF, w_newT, w_eqL, w_eqT, w_eqR, w_neL, w_neT, w_neR, w_dgT, w_derL, w_derT, w_derB, w_derI, w_derN, w_derS, w_eqSS, w_eqBB, w_neSS, w_neBB, w_eqBI, w_eqIN, w_neIN, w_eqNI, w_neNI, w_eqNN, w_neNN, w_NN, w_NI, w_IN])
      refine ⟨rfl, hcut o1 0 _ _ _ rfl rfl ?_⟩
      refine w_lcC.mpr ?_
      (try simp only [dLcM, w_isiM, rReverseD, dMinDef, rInDic, rNotInDic, dIRL, dCallC, dCallG, dConsL, dLam, atDs, dCallV, dgU, dSortI, dIItems, dDicM, dDc, dLenSet, itemsD, w_lrg, w_index, w_sortQ, dCut, dDGet, dDGet1, dDGet2, dDPut, dPairs, w_disp, w_newDF, w_newDT, dec_self, List.map_cons, List.map_nil, eqD_bl, eqD_int, eqD_str, eqD_tup, eqD_lst, eqDs_nil, eqDs_nc, eqDs_cn, eqDs_cons, reduceIte, Bool.false_eq_true, Bool.not_true, Bool.not_false, decide_true, decide_false, dVar, atD, setD, startD, dC, dOp, dAnd, dOr, dNot, dIf, dUn, dNil, dCons, dTup, dLst, rInD, rNotInD, dNoPart, dPart, dRev, dFld, DL.fieldsOf, dCB, dNext, dSeq, dBreak, dCont, dDrop, dRet, dRetN, dIfS, dNever, dgN, dgNil, dgCons, dgSub, dAsg, dPar, dPar3, putD, dSetF, dMt, rAppendD, rPopD, rExtendD, lsT, lsR, lsF, itemsR, dFrz, dCall, dCallK, dMeth, dMake, dFor, dIL, dIT, dIR1, dIR2, dIE, dIZ, wipeD, dYes, dLc, dDic0, updM_same, cxOf, asBl_bl, asInt_int, asTup_tup, isN, w_test, w_chain, w_andV, w_orV, w_notV, w_neg, w_sub, w_div, w_mod, w_pow, w_shl, w_shr, w_and, w_or, w_xor, w_lt, w_le, w_gt, w_ge, w_add, w_addS, w_addT, w_addL, w_addF, w_addR, w_mul, w_mulL, w_eq, w_ne, w_isN, w_isB, w_isntN, w_isntB, w_ix, w_isi, w_abs, w_max2, w_min2, w_max1L, w_min1L, w_sum, w_all, w_any, w_len, w_int, w_intB, w_divmod, w_sorted, w_list, w_bits, w_sl, w_slL, w_slF, w_slR, w_slT, w_newF, w_newT, w_eqL, w_eqT, w_eqR, w_neL, w_neT, w_neR, w_dgT, w_derL, w_derT, w_derB, w_derI, w_derN, w_derS, w_eqSS, w_eqBB, w_neSS, w_neBB, w_eqBI, w_eqIN, w_neIN, w_eqNI, w_neNI, w_eqNN, w_neNN, w_NN, w_NI, w_IN])
      refine ⟨rfl, hcut o2 1 _ _ _ rfl rfl ?_⟩
      refine w_lcN.mpr ?_
      (try simp only [dLcM, w_isiM, rReverseD, dMinDef, rInDic, rNotInDic, dIRL, dCallC, dCallG, dConsL, dLam, atDs, dCallV, dgU, dSortI, dIItems, dDicM, dDc, dLenSet, itemsD, w_lrg, w_index, w_sortQ, dCut, dDGet, dDGet1, dDGet2, dDPut, dPairs, w_disp, w_newDF, w_newDT, dec_self, List.map_cons, List.map_nil, eqD_bl, eqD_int, eqD_str, eqD_tup, eqD_lst, eqDs_nil, eqDs_nc, eqDs_cn, eqDs_cons, reduceIte, Bool.false_eq_true, Bool.not_true, Bool.not_false, decide_true, decide_false, dVar, atD, setD, startD, dC, dOp, dAnd, dOr, dNot, dIf, dUn, dNil, dCons, dTup, dLst, rInD, rNotInD, dNoPart, dPart, dRev, dFld, DL.fieldsOf, dCB, dNext, dSeq, dBreak, dCont, dDrop, dRet, dRetN, dIfS, dNever, dgN, dgNil, dgCons, dgSub, dAsg, dPar, dPar3, putD, dSetF, dMt, rAppendD, rPopD, rExtendD, lsT, lsR, lsF, itemsR, dFrz, dCall, dCallK, dMeth, dMake, dFor, dIL, dIT, dIR1, dIR2, dIE, dIZ, wipeD, dYes, dLc, dDic0, updM_same, cxOf, asBl_bl, asInt_int, asTup_tup, isN, w_test, w_chain, w_andV, w_orV, w_notV, w_neg, w_sub, w_div, w_mod, w_pow, w_shl, w_shr, w_and, w_or, w_xor, w_lt, w_le, w_gt, w_ge, w_add, w_addS, w_addT, w_addL, w_addF, w_addR, w_mul, w_mulL, w_eq, w_ne, w_isN, w_isB, w_isntN, w_isntB, w_ix, w_isi, w_abs, w_max2, w_min2, w_max1L, w_min1L, w_sum, w_all, w_any, w_len, w_int, w_intB, w_divmod, w_sorted, w_list, w_bits, w_sl, w_slL, w_slF, w_slR, w_slT, w_newF, w_newT, w_eqL, w_eqT, w_eqR, w_neL, w_neT, w_neR, w_dgT, w_derL, w_derT, w_derB, w_derI, w_derN, w_derS, w_eqSS, w_eqBB, w_neSS, w_neBB, w_eqBI, w_eqIN, w_neIN, w_eqNI, w_neNI, w_eqNN, w_neNN, w_NN, w_NI, w_IN])
      refine ⟨True.intro, [o1.map fun n => 2 * n + 0, o2.map fun n => 2 * n + 1], _, none, none, none, ⟨?_, ?_⟩, by simp, rfl⟩
      · intro n hn
        cases o1 with
        | none =>
          cases o2 with
          | none => simp [somesN] at hn
          | some n2 =>
            have : n = 2 * n2 + 1 := by simpa [somesN] using hn
            subst this
            have h2 := ho2.1
            have h2 : (2 : Int) ^ b ∣ itZ (a * a) (a * c + c) (a * x + c) n2 - y := h2
            rw [it_two, ← it_left] at h2
            exact h2
        | some n1 =>
          have h1 : (2 : Int) ^ b ∣ itZ (a * a) (a * c + c) x n1 - y := ho1.1
          rw [it_two] at h1
          cases o2 with
          | none =>
            have : n = 2 * n1 := by simpa [somesN] using hn
            subst this
            exact h1
          | some n2 =>
            have h2 : (2 : Int) ^ b ∣ itZ (a * a) (a * c + c) (a * x + c) n2 - y := ho2.1
            rw [it_two, ← it_left] at h2
            have : n = 2 * n1 ∨ n = 2 * n2 + 1 := by simpa [somesN] using hn
            rcases this with rfl | rfl
            · exact h1
            · exact h2
      · intro m hm
        rcases Nat.mod_two_eq_zero_or_one m with e | e
        · obtain ⟨k, rfl⟩ : ∃ k, m = 2 * k := ⟨m / 2, by omega⟩
          rw [← it_two] at hm
          cases o1 with
          | none => exact absurd hm (ho1 k)
          | some n1 =>
            refine ⟨2 * n1, by simp [somesN], ?_⟩
            rcases Nat.lt_or_ge k n1 with g | g
            · exact absurd hm (ho1.2 k g)
            · omega
        · obtain ⟨k, rfl⟩ : ∃ k, m = 2 * k + 1 := ⟨m / 2, by omega⟩
          rw [it_left, ← it_two] at hm
          cases o2 with
          | none => exact absurd hm (ho2 k)
          | some n2 =>
            refine ⟨2 * n2 + 1, by simp [somesN], ?_⟩
            rcases Nat.lt_or_ge k n2 with g | g
            · exact absurd hm (ho2.2 k g)
            · omega
  rintro _ M1 ⟨hM1, l, v7, v8, v9, v10, hl, hll, rfl⟩
  subst hM1
  obtain ⟨hl1, hl2⟩ := hl
  have hlen : (somesN l).length ≤ 2 := Nat.le_trans (List.length_filterMap_le _ _) hll
  (refine stop_to ?_; (try simp only [dLcM, w_isiM, rReverseD, dMinDef, rInDic, rNotInDic, dIRL, dCallC, dCallG, dConsL, dLam, atDs, dCallV, dgU, dSortI, dIItems, dDicM, dDc, dLenSet, itemsD, w_lrg, w_index, w_sortQ, dCut, dDGet, dDGet1, dDGet2, dDPut, dPairs, w_disp, w_newDF, w_newDT, dec_self, List.map_cons, List.map_nil, eqD_bl, eqD_int, eqD_str, eqD_tup, eqD_lst, eqDs_nil, eqDs_nc, eqDs_cn, eqDs_cons, reduceIte, Bool.false_eq_true, Bool.not_true, Bool.not_false, decide_true, decide_false, dVar, atD, setD, startD, dC, dOp, dAnd, dOr, dNot, dIf, dUn, dNil, dCons, dTup, dLst, rInD, rNotInD, dNoPart, dPart, dRev, dFld, DL.fieldsOf, dCB, dNext, dSeq, dBreak, dCont, dDrop, dRet, dRetN, dIfS, dNever, dgN, dgNil, dgCons, dgSub, dAsg, dPar, dPar3, putD, dSetF, dMt, rAppendD, rPopD, rExtendD, lsT, lsR, lsF, itemsR, dFrz, dCall, dCallK, dMeth, dMake, dFor, dIL, dIT, dIR1, dIR2, dIE, dIZ, wipeD, dYes, dLc, dDic0, updM_same, cxOf, asBl_bl, asInt_int, asTup_tup, isN, w_test, w_chain, w_andV, w_orV, w_notV, w_neg, w_sub, w_div, w_mod, w_pow, w_shl, w_shr, w_and, w_or, w_xor, w_lt, w_le, w_gt, w_ge, w_add, w_addS, w_addT, w_addL, w_addF, w_addR, w_mul, w_mulL, w_eq, w_ne, w_isN, w_isB, w_isntN, w_isntB, w_ix, w_isi, w_abs, w_max2, w_min2, w_max1L, w_min1L, w_sum, w_all, w_any, w_len, w_int, w_intB, w_divmod, w_sorted, w_list, w_bits, w_sl, w_slL, w_slF, w_slR, w_slT, w_newF, w_newT, w_eqL, w_eqT, w_eqR, w_neL, w_neT, w_neR, w_dgT, w_derL, w_derT, w_derB, w_derI, w_derN, w_derS, w_eqSS, w_eqBB, w_neSS, w_neBB, w_eqBI, w_eqIN, w_neIN, w_eqNI, w_neNI, w_eqNN, w_neNN, w_NN, w_NI, w_IN]))
  refine ⟨_, rfl, lit_len (by rw [List.length_map]; omega), ?_⟩
  refine lc_by (fun r acc M' => M' = M1 ∧ ∃ l1 l2, l = l1 ++ l2 ∧ r = l2.map optN ∧ acc = (somesN l1).map fun n => Dat.int (n : Nat)) ?_ ?_ _ _ _ ⟨rfl, [], l, rfl, rfl, rfl⟩
  rotate_left
  · rintro d r acc M' k ⟨hM', l1, l2, e1, e2, rfl⟩ hk
    subst hM'
    cases l2 with
    | nil => cases e2
    | cons o l2 =>
    injection e2 with e2 e3
    subst e2 e3
    cases o with
    | none =>
      simp only [optN]
      (try simp only [dLcM, w_isiM, rReverseD, dMinDef, rInDic, rNotInDic, dIRL, dCallC, dCallG, dConsL, dLam, atDs, dCallV, dgU, dSortI, dIItems, dDicM, dDc, dLenSet, itemsD, w_lrg, w_index, w_sortQ, dCut, dDGet, dDGet1, dDGet2, dDPut, dPairs, w_disp, w_newDF, w_newDT, dec_self, List.map_cons, List.map_nil, eqD_bl, eqD_int, eqD_str, eqD_tup, eqD_lst, eqDs_nil, eqDs_nc, eqDs_cn, eqDs_cons, reduceIte, Bool.false_eq_true, Bool.not_true, Bool.not_false, decide_true, decide_false, dVar, atD, setD, startD, dC, dOp, dAnd, dOr, dNot, dIf, dUn, dNil, dCons, dTup, dLst, rInD, rNotInD, dNoPart, dPart, dRev, dFld, DL.fieldsOf, dCB, dNext, dSeq, dBreak, dCont, dDrop, dRet, dRetN, dIfS, dNever, dgN, dgNil, dgCons, dgSub, dAsg, dPar, dPar3, putD, dSetF, dMt, rAppendD, rPopD, rExtendD, lsT, lsR, lsF, itemsR, dFrz, dCall, dCallK, dMeth, dMake, dFor, dIL, dIT, dIR1, dIR2, dIE, dIZ, wipeD, dYes, dLc, dDic0, updM_same, cxOf, asBl_bl, asInt_int, asTup_tup, isN, w_test, w_chain, w_andV, w_orV, w_notV, w_neg, w_sub, w_div, w_mod, w_pow, w_shl, w_shr, w_and, w_or, w_xor, w_lt, w_le, w_gt, w_ge, w_add, w_addS, w_addT, w_addL, w_addF, w_addR, w_mul, w_mulL, w_eq, w_ne, w_isN, w_isB, w_isntN, w_isntB, w_ix, w_isi, w_abs, w_max2, w_min2, w_max1L, w_min1L, w_sum, w_all, w_any, w_len, w_int, w_intB, w_divmod, w_sorted, w_list, w_bits, w_sl, w_slL, w_slF, w_slR, w_slT, w_newF, w_newT, w_eqL, w_eqT, w_eqR, w_neL, w_neT, w_neR, w_dgT, w_derL, w_derT, w_derB, w_derI, w_derN, w_derS, w_eqSS, w_eqBB, w_neSS, w_neBB, w_eqBI, w_eqIN, w_neIN, w_eqNI, w_neNI, w_eqNN, w_neNN, w_NN, w_NI, w_IN])
      exact hk _ _ ⟨rfl, l1 ++ [none], l2, by rw [e1]; simp, rfl, by simp [somesN]⟩
    | some n =>
      simp only [optN]
      (try simp only [dLcM, w_isiM, rReverseD, dMinDef, rInDic, rNotInDic, dIRL, dCallC, dCallG, dConsL, dLam, atDs, dCallV, dgU, dSortI, dIItems, dDicM, dDc, dLenSet, itemsD, w_lrg, w_index, w_sortQ, dCut, dDGet, dDGet1, dDGet2, dDPut, dPairs, w_disp, w_newDF, w_newDT, dec_self, List.map_cons, List.map_nil, eqD_bl, eqD_int, eqD_str, eqD_tup, eqD_lst, eqDs_nil, eqDs_nc, eqDs_cn, eqDs_cons, reduceIte, Bool.false_eq_true, Bool.not_true, Bool.not_false, decide_true, decide_false, dVar, atD, setD, startD, dC, dOp, dAnd, dOr, dNot, dIf, dUn, dNil, dCons, dTup, dLst, rInD, rNotInD, dNoPart, dPart, dRev, dFld, DL.fieldsOf, dCB, dNext, dSeq, dBreak, dCont, dDrop, dRet, dRetN, dIfS, dNever, dgN, dgNil, dgCons, dgSub, dAsg, dPar, dPar3, putD, dSetF, dMt, rAppendD, rPopD, rExtendD, lsT, lsR, lsF, itemsR, dFrz, dCall, dCallK, dMeth, dMake, dFor, dIL, dIT, dIR1, dIR2, dIE, dIZ, wipeD, dYes, dLc, dDic0, updM_same, cxOf, asBl_bl, asInt_int, asTup_tup, isN, w_test, w_chain, w_andV, w_orV, w_notV, w_neg, w_sub, w_div, w_mod, w_pow, w_shl, w_shr, w_and, w_or, w_xor, w_lt, w_le, w_gt, w_ge, w_add, w_addS, w_addT, w_addL, w_addF, w_addR, w_mul, w_mulL, w_eq, w_ne, w_isN, w_isB, w_isntN, w_isntB, w_ix, w_isi, w_abs, w_max2, w_min2, w_max1L, w_min1L, w_sum, w_all, w_any, w_len, w_int, w_intB, w_divmod, w_sorted, w_list, w_bits, w_sl, w_slL, w_slF, w_slR, w_slT, w_newF, w_newT, w_eqL, w_eqT, w_eqR, w_neL, w_neT, w_neR, w_dgT, w_derL, w_derT, w_derB, w_derI, w_derN, w_derS, w_eqSS, w_eqBB, w_neSS, w_neBB, w_eqBI, w_eqIN, w_neIN, w_eqNI, w_neNI, w_eqNN, w_neNN, w_NN, w_NI, w_IN])
      exact hk _ _ ⟨rfl, l1 ++ [some n], l2, by rw [e1]; simp, rfl, by simp [somesN]⟩
  rintro acc M' ⟨hM', l1, l2, e1, e2, rfl⟩
  subst hM'
  have : l2 = [] := by
    cases l2 with
    | nil => rfl
    | cons _ _ => cases e2
  subst this
  rw [List.append_nil] at e1
  subst e1
  (try simp only [dLcM, w_isiM, rReverseD, dMinDef, rInDic, rNotInDic, dIRL, dCallC, dCallG, dConsL, dLam, atDs, dCallV, dgU, dSortI, dIItems, dDicM, dDc, dLenSet, itemsD, w_lrg, w_index, w_sortQ, dCut, dDGet, dDGet1, dDGet2, dDPut, dPairs, w_disp, w_newDF, w_newDT, dec_self, List.map_cons, List.map_nil, eqD_bl, eqD_int, eqD_str, eqD_tup, eqD_lst, eqDs_nil, eqDs_nc, eqDs_cn, eqDs_cons, reduceIte, Bool.false_eq_true, Bool.not_true, Bool.not_false, decide_true, decide_false, dVar, atD, setD, startD, dC, dOp, dAnd, dOr, dNot, dIf, dUn, dNil, dCons, dTup, dLst, rInD, rNotInD, dNoPart, dPart, dRev, dFld, DL.fieldsOf, dCB, dNext, dSeq, dBreak, dCont, dDrop, dRet, dRetN, dIfS, dNever, dgN, dgNil, dgCons, dgSub, dAsg, dPar, dPar3, putD, dSetF, dMt, rAppendD, rPopD, rExtendD, lsT, lsR, lsF, itemsR, dFrz, dCall, dCallK, dMeth, dMake, dFor, dIL, dIT, dIR1, dIR2, dIE, dIZ, wipeD, dYes, dLc, dDic0, updM_same, cxOf, asBl_bl, asInt_int, asTup_tup, isN, w_test, w_chain, w_andV, w_orV, w_notV, w_neg, w_sub, w_div, w_mod, w_pow, w_shl, w_shr, w_and, w_or, w_xor, w_lt, w_le, w_gt, w_ge, w_add, w_addS, w_addT, w_addL, w_addF, w_addR, w_mul, w_mulL, w_eq, w_ne, w_isN, w_isB, w_isntN, w_isntB, w_ix, w_isi, w_abs, w_max2, w_min2, w_max1L, w_min1L, w_sum, w_all, w_any, w_len, w_int, w_intB, w_divmod, w_sorted, w_list, w_bits, w_sl, w_slL, w_slF, w_slR, w_slT, w_newF, w_newT, w_eqL, w_eqT, w_eqR, w_neL, w_neT, w_neR, w_dgT, w_derL, w_derT, w_derB, w_derI, w_derN, w_derS, w_eqSS, w_eqBB, w_neSS, w_neBB, w_eqBI, w_eqIN, w_neIN, w_eqNI, w_neNI, w_eqNN, w_neNN, w_NN, w_NI, w_IN])
  have hfin : ∀ n, LeastN (fun n => (2 : Int) ^ b ∣ itZ a c x n - y) (some n) → sp_move [genD a c, Dat.int x, Dat.int (b : Nat)] M' fun z M1 => sp_len [Dat.int a, z, Dat.int (b : Nat)] M1 fun z M1 => [Dat.int (n : Nat), z].length ≤ sizeLine ∧ endD Q (Dat.tup [Dat.int (n : Nat), z]) M1 := by
    intro n hn
    refine ⟨a, c, x, b, rfl, by omega, hb, by omega, a, _, b, rfl, ho, ?_, hb, fun j hj hlj => ⟨lit_len (n := 2) (by decide), endD_of (hQ _ (steps_len ho (len_mod hlj) hn))⟩⟩
    have h1 := em2 b (a * x + c - x)
    have h2 : (2 : Int) ^ b ≤ 2 ^ 300 := pow_mono hb
    have h3 : (2 : Int) ^ 300 < 2 ^ 600 := by decide +kernel
    omega
  have hleast : ∀ n ∈ somesN l, (∀ m ∈ somesN l, n ≤ m) → LeastN (fun n => (2 : Int) ^ b ∣ itZ a c x n - y) (some n) := fun n hn hm => ⟨hl1 n hn, fun k hk hd => by
    obtain ⟨m, h1, h2⟩ := hl2 k hd
    have := hm m h1
    omega⟩
  refine ⟨lit_len (n := 0) (by decide), ?_⟩
  have hnone : somesN l = [] → StepsOf a c x y b none := fun h m hm => by
    obtain ⟨n, hn, _⟩ := hl2 m hm
    rw [h] at hn
    cases hn
  have hmin : ∀ ns : List Nat, somesN l = ns → ∀ m : Int, m ∈ ns.map (fun n : Nat => (n : Int)) → (∀ y, y ∈ ns.map (fun n : Nat => (n : Int)) → m ≤ y) → sp_move [genD a c, Dat.int x, Dat.int (b : Nat)] M' fun z M1 => sp_len [Dat.int a, z, Dat.int (b : Nat)] M1 fun z M1 => [Dat.int m, z].length ≤ sizeLine ∧ endD Q (Dat.tup [Dat.int m, z]) M1 := by
    intro ns hns m hm hle
    obtain ⟨n, hn, rfl⟩ := List.mem_map.mp hm
    refine hfin n (hleast n (by rw [hns]; exact hn) fun k hk => ?_)
    have := hle (k : Int) (List.mem_map.mpr ⟨k, by rw [← hns]; exact hk, rfl⟩)
    omega
  cases hs : somesN l with
  | nil => exact ⟨rfl, rfl, endD_of (hQ none (hnone hs))⟩
  | cons n ns =>
    rw [hs] at hlen
    cases hs2 : ns with
    | nil =>
      subst hs2
      refine ⟨rfl, rfl, ⟨[(n : Int)], rfl, by simp, fun m h1 h2 => hmin [n] hs m h1 h2⟩⟩
    | cons k ks =>
      have : ks = [] := by
        rw [hs2] at hlen
        cases ks with
        | nil => rfl
        | cons _ _ => simp at hlen
      subst this
      subst hs2
      refine ⟨rfl, rfl, ⟨[(n : Int), (k : Int)], rfl, by simp, fun m h1 h2 => hmin [n, k] hs m h1 h2⟩⟩
theorem twos_cap {n : Int} {b e k : Nat} (h : TwosOf n b e) (hk : k ≤ b) : TwosOf n k (min e k) := by
  obtain ⟨h1, h2, h3⟩ := h
  refine ⟨Nat.min_le_right _ _, Int.dvd_trans (dvd_pow2 (Nat.min_le_left _ _)) h2, fun g => ?_⟩
  rw [show min e k = e by omega]
  exact h3 (by omega)
theorem even_gone2 {a d : Int} {b e t k : Nat} (he : TwosOf a b e) (he1 : 1 ≤ e) (ht : TwosOf d b t) (hk : k ≤ b) (m : Nat) : (2 : Int) ^ k ∣ a ^ m * d ↔ k ≤ m * e + t := by
  by_cases h0 : k = 0
  · subst h0
    simp
  rw [even_gone (twos_cap he hk) (by omega) (twos_cap ht hk) m]
  rcases Nat.lt_or_ge e k with g | g
  · rw [show min e k = e by omega]
    omega
  · rw [show min e k = k by omega]
    by_cases hm : m = 0
    · subst hm
      omega
    · have h1 : 1 * k ≤ m * k := Nat.mul_le_mul_right _ (by omega)
      have h2 : 1 * e ≤ m * e := Nat.mul_le_mul_right _ (by omega)
      omega
/-- steps by an even factor -/
abbrev sp_short : SpD := fun ds M Q => ∃ (a c x y : Int) (b : Nat), ds = [genD a c, .int x, .int y, .int (b : Nat)] ∧ a % 2 = 0 ∧ a.natAbs < 2 ^ 200 ∧ c.natAbs < 2 ^ 200 ∧ x.natAbs < 2 ^ 200 ∧ y.natAbs < 2 ^ 200 ∧ 1 ≤ b ∧ b ≤ 300 ∧ ∀ o, StepsOf a c x y b o → Q (stepsD o) M
theorem ok_short_course (T : Txt K mg C_Kind) (F_still_value : FnD P w K mg base 2 "still_value" s_still_value ["generator", "bits"] (sp_still)) (F_twos_in : FnD P w K mg base 1 "twos_in" s_twos_in ["n", "most"] (sp_twosin)) (F_lead_of : FnD P w K mg base 3 "lead_of" s_lead_of ["generator", "x", "bits"] (sp_lead)) (F_value_behind : FnD P w K mg base 2 "value_behind" s_value_behind ["generator", "x", "n", "bits"] (sp_vb)) : FnD P w K mg base 4 "short_course" s_short_course ["generator", "x", "y", "bits"] (sp_short) := by
  refine fn_mk T.h_short_course sc_short_course 8 rfl (by intro ds M Q h; first | (obtain ⟨rfl, _⟩ := h; rfl) | (obtain ⟨_, rfl, _⟩ := h; rfl) | (obtain ⟨_, _, rfl, _⟩ := h; rfl) | (obtain ⟨_, _, _, rfl, _⟩ := h; rfl) | (obtain ⟨_, _, _, _, rfl, _⟩ := h; rfl) | (obtain ⟨_, _, _, _, _, rfl, _⟩ := h; rfl) | (obtain ⟨_, _, _, _, _, _, rfl, _⟩ := h; rfl) | (obtain ⟨_, _, _, _, _, _, _, rfl, _⟩ := h; rfl) | (obtain ⟨_, _, _, _, _, _, _, _, rfl, _⟩ := h; rfl) | (obtain ⟨_, _, _, _, _, _, _, _, _, rfl, _⟩ := h; rfl) | (obtain ⟨_, _, _, _, _, _, _, _, _, _, rfl, _⟩ := h; rfl) | (obtain ⟨_, _, _, _, _, _, _, _, _, _, _, rfl, _⟩ := h; rfl) | (obtain ⟨_, _, _, _, _, _, _, _, _, _, _, _, rfl, _⟩ := h; rfl)) (fun f cdv A outer s H E hr => ⟨_, (dss_stop (ds_par (i := 4) (j := 5) sc_short_course.nd (da_cons (de_call F_still_value hr (da_cons (dv 0) (da_cons (dv 3) da_nil))) (da_cons (de_op od_shl de_int (dv 3)) da_nil)))
    (dss_stop (ds_if (dt_cmp (od_eq hr.units) (de_op od_mod (de_op od_sub (dv 2) (dv 4)) (dv 5)) de_int)
    (dss_one (ds_ret (de_tup (da_cons (de_call F_lead_of hr (da_cons (dv 0) (da_cons (dv 1) (da_cons (dv 3) da_nil)))) (da_cons de_int da_nil)))))
    dss_nil)
    (dss_stop (ds_set (i := 6) sc_short_course.nd (de_op od_sub (de_call F_twos_in hr (da_cons (de_op od_sub (dv 2) (dv 4)) (da_cons (dv 3) da_nil))) (de_call F_twos_in hr (da_cons (de_op od_sub (dv 1) (dv 4)) (da_cons (dv 3) da_nil)))))
    (dss_stop (ds_set (i := 7) sc_short_course.nd (de_cb (cd_max rfl) (by rfl) T.b_max (by decide +kernel) (da_cons de_int (da_cons (de_call F_twos_in hr (da_cons (de_ix (dv 0) de_int) (da_cons (dv 3) da_nil))) da_nil))))
    (dss_stop (ds_if (dt_cut (dt_w (dw_or (dt_cmp od_lt (dv 6) de_int) (dw_or (dt_cmp (od_ne hr.units) (de_op od_mod (dv 6) (dv 7)) de_int) (dw_or1 (dt_cmp (od_ne hr.units) (de_call F_value_behind hr (da_cons (dv 0) (da_cons (dv 1) (da_cons (de_op od_div (dv 6) (dv 7)) (da_cons (dv 3) da_nil))))) (de_op od_mod (dv 2) (dv 5))))))))
    (dss_one (ds_ret de_non))
    dss_nil)
    (dss_one (ds_ret (de_tup (da_cons (de_op od_div (dv 6) (dv 7)) (da_cons de_int da_nil)))))))))), ?_⟩)
  rintro ds M Q ⟨a, c, x, y, b, rfl, he, ha, hc, hx, hy, hb1, hb, hQ⟩
  have hp := two_pos b
  have hpb : (2 : Int) ^ b ≤ 2 ^ 300 := pow_mono hb
  have h6 : (2 : Nat) ^ 200 < 2 ^ 600 := by decide +kernel
  (refine stop_to ?_; (try simp only [dLcM, w_isiM, rReverseD, dMinDef, rInDic, rNotInDic, dIRL, dCallC, dCallG, dConsL, dLam, atDs, dCallV, dgU, dSortI, dIItems, dDicM, dDc, dLenSet, itemsD, w_lrg, w_index, w_sortQ, dCut, dDGet, dDGet1, dDGet2, dDPut, dPairs, w_disp, w_newDF, w_newDT, dec_self, List.map_cons, List.map_nil, eqD_bl, eqD_int, eqD_str, eqD_tup, eqD_lst, eqDs_nil, eqDs_nc, eqDs_cn, eqDs_cons, reduceIte, Bool.false_eq_true, Bool.not_true, Bool.not_false, decide_true, decide_false, dVar, atD, setD, startD, dC, dOp, dAnd, dOr, dNot, dIf, dUn, dNil, dCons, dTup, dLst, rInD, rNotInD, dNoPart, dPart, dRev, dFld, DL.fieldsOf, dCB, dNext, dSeq, dBreak, dCont, dDrop, dRet, dRetN, dIfS, dNever, dgN, dgNil, dgCons, dgSub, dAsg, dPar, dPar3, putD, dSetF, dMt, rAppendD, rPopD, rExtendD, lsT, lsR, lsF, itemsR, dFrz, dCall, dCallK, dMeth, dMake, dFor, dIL, dIT, dIR1, dIR2, dIE, dIZ, wipeD, dYes, dLc, dDic0, updM_same, cxOf, asBl_bl, asInt_int, asTup_tup, isN, w_test, w_chain, w_andV, w_orV, w_notV, w_neg, w_sub, w_div, w_mod, w_pow, w_shl, w_shr, w_and, w_or, w_xor, w_lt, w_le, w_gt, w_ge, w_add, w_addS, w_addT, w_addL, w_addF, w_addR, w_mul, w_mulL, w_eq, w_ne, w_isN, w_isB, w_isntN, w_isntB, w_ix, w_isi, w_abs, w_max2, w_min2, w_max1L, w_min1L, w_sum, w_all, w_any, w_len, w_int, w_intB, w_divmod, w_sorted, w_list, w_bits, w_sl, w_slL, w_slF, w_slR, w_slT, w_newF, w_newT, w_eqL, w_eqT, w_eqR, w_neL, w_neT, w_neR, w_dgT, w_derL, w_derT, w_derB, w_derI, w_derN, w_derS, w_eqSS, w_eqBB, w_neSS, w_neBB, w_eqBI, w_eqIN, w_neIN, w_eqNI, w_neNI, w_eqNN, w_neNN, w_NN, w_NI, w_IN]))
  refine ⟨a, c, b, rfl, he, by omega, by omega, hb1, hb, fun p hp1 => ?_⟩
  (try simp only [dLcM, w_isiM, rReverseD, dMinDef, rInDic, rNotInDic, dIRL, dCallC, dCallG, dConsL, dLam, atDs, dCallV, dgU, dSortI, dIItems, dDicM, dDc, dLenSet, itemsD, w_lrg, w_index, w_sortQ, dCut, dDGet, dDGet1, dDGet2, dDPut, dPairs, w_disp, w_newDF, w_newDT, dec_self, List.map_cons, List.map_nil, eqD_bl, eqD_int, eqD_str, eqD_tup, eqD_lst, eqDs_nil, eqDs_nc, eqDs_cn, eqDs_cons, reduceIte, Bool.false_eq_true, Bool.not_true, Bool.not_false, decide_true, decide_false, dVar, atD, setD, startD, dC, dOp, dAnd, dOr, dNot, dIf, dUn, dNil, dCons, dTup, dLst, rInD, rNotInD, dNoPart, dPart, dRev, dFld, DL.fieldsOf, dCB, dNext, dSeq, dBreak, dCont, dDrop, dRet, dRetN, dIfS, dNever, dgN, dgNil, dgCons, dgSub, dAsg, dPar, dPar3, putD, dSetF, dMt, rAppendD, rPopD, rExtendD, lsT, lsR, lsF, itemsR, dFrz, dCall, dCallK, dMeth, dMake, dFor, dIL, dIT, dIR1, dIR2, dIE, dIZ, wipeD, dYes, dLc, dDic0, updM_same, cxOf, asBl_bl, asInt_int, asTup_tup, isN, w_test, w_chain, w_andV, w_orV, w_notV, w_neg, w_sub, w_div, w_mod, w_pow, w_shl, w_shr, w_and, w_or, w_xor, w_lt, w_le, w_gt, w_ge, w_add, w_addS, w_addT, w_addL, w_addF, w_addR, w_mul, w_mulL, w_eq, w_ne, w_isN, w_isB, w_isntN, w_isntB, w_ix, w_isi, w_abs, w_max2, w_min2, w_max1L, w_min1L, w_sum, w_all, w_any, w_len, w_int, w_intB, w_divmod, w_sorted, w_list, w_bits, w_sl, w_slL, w_slF, w_slR, w_slT, w_newF, w_newT, w_eqL, w_eqT, w_eqR, w_neL, w_neT, w_neR, w_dgT, w_derL, w_derT, w_derB, w_derI, w_derN, w_derS, w_eqSS, w_eqBB, w_neSS, w_neBB, w_eqBI, w_eqIN, w_neIN, w_eqNI, w_neNI, w_eqNN, w_neNN, w_NN, w_NI, w_IN])
  refine ⟨shl1 (by omega) (by omega), ?_⟩
  rw [Int.one_mul, Int.toNat_natCast]
  (refine stop_to ?_; (try simp only [dLcM, w_isiM, rReverseD, dMinDef, rInDic, rNotInDic, dIRL, dCallC, dCallG, dConsL, dLam, atDs, dCallV, dgU, dSortI, dIItems, dDicM, dDc, dLenSet, itemsD, w_lrg, w_index, w_sortQ, dCut, dDGet, dDGet1, dDGet2, dDPut, dPairs, w_disp, w_newDF, w_newDT, dec_self, List.map_cons, List.map_nil, eqD_bl, eqD_int, eqD_str, eqD_tup, eqD_lst, eqDs_nil, eqDs_nc, eqDs_cn, eqDs_cons, reduceIte, Bool.false_eq_true, Bool.not_true, Bool.not_false, decide_true, decide_false, dVar, atD, setD, startD, dC, dOp, dAnd, dOr, dNot, dIf, dUn, dNil, dCons, dTup, dLst, rInD, rNotInD, dNoPart, dPart, dRev, dFld, DL.fieldsOf, dCB, dNext, dSeq, dBreak, dCont, dDrop, dRet, dRetN, dIfS, dNever, dgN, dgNil, dgCons, dgSub, dAsg, dPar, dPar3, putD, dSetF, dMt, rAppendD, rPopD, rExtendD, lsT, lsR, lsF, itemsR, dFrz, dCall, dCallK, dMeth, dMake, dFor, dIL, dIT, dIR1, dIR2, dIE, dIZ, wipeD, dYes, dLc, dDic0, updM_same, cxOf, asBl_bl, asInt_int, asTup_tup, isN, w_test, w_chain, w_andV, w_orV, w_notV, w_neg, w_sub, w_div, w_mod, w_pow, w_shl, w_shr, w_and, w_or, w_xor, w_lt, w_le, w_gt, w_ge, w_add, w_addS, w_addT, w_addL, w_addF, w_addR, w_mul, w_mulL, w_eq, w_ne, w_isN, w_isB, w_isntN, w_isntB, w_ix, w_isi, w_abs, w_max2, w_min2, w_max1L, w_min1L, w_sum, w_all, w_any, w_len, w_int, w_intB, w_divmod, w_sorted, w_list, w_bits, w_sl, w_slL, w_slF, w_slR, w_slT, w_newF, w_newT, w_eqL, w_eqT, w_eqR, w_neL, w_neT, w_neR, w_dgT, w_derL, w_derT, w_derB, w_derI, w_derN, w_derS, w_eqSS, w_eqBB, w_neSS, w_neBB, w_eqBI, w_eqIN, w_neIN, w_eqNI, w_neNI, w_eqNN, w_neNN, w_NN, w_NI, w_IN]))
  refine ⟨by omega, ?_⟩
  rw [fmodP hp]
  have hstay := fun m => it_still (x := x) hp1.2 m
  by_cases h0 : (y - p) % 2 ^ b = 0
  · refine if_yes (decide_eq_true h0) ⟨a, c, x, b, rfl, he, by omega, by omega, by omega, hb1, hb, fun n hn hl => ?_⟩
    (try simp only [dLcM, w_isiM, rReverseD, dMinDef, rInDic, rNotInDic, dIRL, dCallC, dCallG, dConsL, dLam, atDs, dCallV, dgU, dSortI, dIItems, dDicM, dDc, dLenSet, itemsD, w_lrg, w_index, w_sortQ, dCut, dDGet, dDGet1, dDGet2, dDPut, dPairs, w_disp, w_newDF, w_newDT, dec_self, List.map_cons, List.map_nil, eqD_bl, eqD_int, eqD_str, eqD_tup, eqD_lst, eqDs_nil, eqDs_nc, eqDs_cn, eqDs_cons, reduceIte, Bool.false_eq_true, Bool.not_true, Bool.not_false, decide_true, decide_false, dVar, atD, setD, startD, dC, dOp, dAnd, dOr, dNot, dIf, dUn, dNil, dCons, dTup, dLst, rInD, rNotInD, dNoPart, dPart, dRev, dFld, DL.fieldsOf, dCB, dNext, dSeq, dBreak, dCont, dDrop, dRet, dRetN, dIfS, dNever, dgN, dgNil, dgCons, dgSub, dAsg, dPar, dPar3, putD, dSetF, dMt, rAppendD, rPopD, rExtendD, lsT, lsR, lsF, itemsR, dFrz, dCall, dCallK, dMeth, dMake, dFor, dIL, dIT, dIR1, dIR2, dIE, dIZ, wipeD, dYes, dLc, dDic0, updM_same, cxOf, asBl_bl, asInt_int, asTup_tup, isN, w_test, w_chain, w_andV, w_orV, w_notV, w_neg, w_sub, w_div, w_mod, w_pow, w_shl, w_shr, w_and, w_or, w_xor, w_lt, w_le, w_gt, w_ge, w_add, w_addS, w_addT, w_addL, w_addF, w_addR, w_mul, w_mulL, w_eq, w_ne, w_isN, w_isB, w_isntN, w_isntB, w_ix, w_isi, w_abs, w_max2, w_min2, w_max1L, w_min1L, w_sum, w_all, w_any, w_len, w_int, w_intB, w_divmod, w_sorted, w_list, w_bits, w_sl, w_slL, w_slF, w_slR, w_slT, w_newF, w_newT, w_eqL, w_eqT, w_eqR, w_neL, w_neT, w_neR, w_dgT, w_derL, w_derT, w_derB, w_derI, w_derN, w_derS, w_eqSS, w_eqBB, w_neSS, w_neBB, w_eqBI, w_eqIN, w_neIN, w_eqNI, w_neNI, w_eqNN, w_neNN, w_NN, w_NI, w_IN])
    refine ⟨lit_len (n := 2) (by decide), endD_of (hQ (some (n, 1)) fun m => ?_)⟩
    have h1 := hl p hp1.2 m
    obtain ⟨q, hq⟩ := Int.dvd_of_emod_eq_zero h0
    have e : (2 : Int) ^ b ∣ itZ a c x m - y ↔ (2 : Int) ^ b ∣ itZ a c x m - p := by
      constructor
      · rintro ⟨z, hz⟩
        exact ⟨z + q, by rw [Int.mul_add (2 ^ b) z q]; omega⟩
      · rintro ⟨z, hz⟩
        exact ⟨z - q, by rw [Int.mul_sub (2 ^ b) z q]; omega⟩
    rw [e, h1]
    constructor
    · intro h
      exact ⟨m - n, by omega⟩
    · rintro ⟨t, rfl⟩
      omega
  refine if_no (decide_eq_false h0) ?_
  (refine stop_to ?_; (try simp only [dLcM, w_isiM, rReverseD, dMinDef, rInDic, rNotInDic, dIRL, dCallC, dCallG, dConsL, dLam, atDs, dCallV, dgU, dSortI, dIItems, dDicM, dDc, dLenSet, itemsD, w_lrg, w_index, w_sortQ, dCut, dDGet, dDGet1, dDGet2, dDPut, dPairs, w_disp, w_newDF, w_newDT, dec_self, List.map_cons, List.map_nil, eqD_bl, eqD_int, eqD_str, eqD_tup, eqD_lst, eqDs_nil, eqDs_nc, eqDs_cn, eqDs_cons, reduceIte, Bool.false_eq_true, Bool.not_true, Bool.not_false, decide_true, decide_false, dVar, atD, setD, startD, dC, dOp, dAnd, dOr, dNot, dIf, dUn, dNil, dCons, dTup, dLst, rInD, rNotInD, dNoPart, dPart, dRev, dFld, DL.fieldsOf, dCB, dNext, dSeq, dBreak, dCont, dDrop, dRet, dRetN, dIfS, dNever, dgN, dgNil, dgCons, dgSub, dAsg, dPar, dPar3, putD, dSetF, dMt, rAppendD, rPopD, rExtendD, lsT, lsR, lsF, itemsR, dFrz, dCall, dCallK, dMeth, dMake, dFor, dIL, dIT, dIR1, dIR2, dIE, dIZ, wipeD, dYes, dLc, dDic0, updM_same, cxOf, asBl_bl, asInt_int, asTup_tup, isN, w_test, w_chain, w_andV, w_orV, w_notV, w_neg, w_sub, w_div, w_mod, w_pow, w_shl, w_shr, w_and, w_or, w_xor, w_lt, w_le, w_gt, w_ge, w_add, w_addS, w_addT, w_addL, w_addF, w_addR, w_mul, w_mulL, w_eq, w_ne, w_isN, w_isB, w_isntN, w_isntB, w_ix, w_isi, w_abs, w_max2, w_min2, w_max1L, w_min1L, w_sum, w_all, w_any, w_len, w_int, w_intB, w_divmod, w_sorted, w_list, w_bits, w_sl, w_slL, w_slF, w_slR, w_slT, w_newF, w_newT, w_eqL, w_eqT, w_eqR, w_neL, w_neT, w_neR, w_dgT, w_derL, w_derT, w_derB, w_derI, w_derN, w_derS, w_eqSS, w_eqBB, w_neSS, w_neBB, w_eqBI, w_eqIN, w_neIN, w_eqNI, w_neNI, w_eqNN, w_neNN, w_NN, w_NI, w_IN]))
  refine ⟨y - p, b, rfl, by omega, fun v hv => ?_⟩
  refine ⟨x - p, b, rfl, by omega, fun t ht => ?_⟩
  (try simp only [dLcM, w_isiM, rReverseD, dMinDef, rInDic, rNotInDic, dIRL, dCallC, dCallG, dConsL, dLam, atDs, dCallV, dgU, dSortI, dIItems, dDicM, dDc, dLenSet, itemsD, w_lrg, w_index, w_sortQ, dCut, dDGet, dDGet1, dDGet2, dDPut, dPairs, w_disp, w_newDF, w_newDT, dec_self, List.map_cons, List.map_nil, eqD_bl, eqD_int, eqD_str, eqD_tup, eqD_lst, eqDs_nil, eqDs_nc, eqDs_cn, eqDs_cons, reduceIte, Bool.false_eq_true, Bool.not_true, Bool.not_false, decide_true, decide_false, dVar, atD, setD, startD, dC, dOp, dAnd, dOr, dNot, dIf, dUn, dNil, dCons, dTup, dLst, rInD, rNotInD, dNoPart, dPart, dRev, dFld, DL.fieldsOf, dCB, dNext, dSeq, dBreak, dCont, dDrop, dRet, dRetN, dIfS, dNever, dgN, dgNil, dgCons, dgSub, dAsg, dPar, dPar3, putD, dSetF, dMt, rAppendD, rPopD, rExtendD, lsT, lsR, lsF, itemsR, dFrz, dCall, dCallK, dMeth, dMake, dFor, dIL, dIT, dIR1, dIR2, dIE, dIZ, wipeD, dYes, dLc, dDic0, updM_same, cxOf, asBl_bl, asInt_int, asTup_tup, isN, w_test, w_chain, w_andV, w_orV, w_notV, w_neg, w_sub, w_div, w_mod, w_pow, w_shl, w_shr, w_and, w_or, w_xor, w_lt, w_le, w_gt, w_ge, w_add, w_addS, w_addT, w_addL, w_addF, w_addR, w_mul, w_mulL, w_eq, w_ne, w_isN, w_isB, w_isntN, w_isntB, w_ix, w_isi, w_abs, w_max2, w_min2, w_max1L, w_min1L, w_sum, w_all, w_any, w_len, w_int, w_intB, w_divmod, w_sorted, w_list, w_bits, w_sl, w_slL, w_slF, w_slR, w_slT, w_newF, w_newT, w_eqL, w_eqT, w_eqR, w_neL, w_neT, w_neR, w_dgT, w_derL, w_derT, w_derB, w_derI, w_derN, w_derS, w_eqSS, w_eqBB, w_neSS, w_neBB, w_eqBI, w_eqIN, w_neIN, w_eqNI, w_neNI, w_eqNN, w_neNN, w_NN, w_NI, w_IN])
  (refine stop_to ?_; (try simp only [dLcM, w_isiM, rReverseD, dMinDef, rInDic, rNotInDic, dIRL, dCallC, dCallG, dConsL, dLam, atDs, dCallV, dgU, dSortI, dIItems, dDicM, dDc, dLenSet, itemsD, w_lrg, w_index, w_sortQ, dCut, dDGet, dDGet1, dDGet2, dDPut, dPairs, w_disp, w_newDF, w_newDT, dec_self, List.map_cons, List.map_nil, eqD_bl, eqD_int, eqD_str, eqD_tup, eqD_lst, eqDs_nil, eqDs_nc, eqDs_cn, eqDs_cons, reduceIte, Bool.false_eq_true, Bool.not_true, Bool.not_false, decide_true, decide_false, dVar, atD, setD, startD, dC, dOp, dAnd, dOr, dNot, dIf, dUn, dNil, dCons, dTup, dLst, rInD, rNotInD, dNoPart, dPart, dRev, dFld, DL.fieldsOf, dCB, dNext, dSeq, dBreak, dCont, dDrop, dRet, dRetN, dIfS, dNever, dgN, dgNil, dgCons, dgSub, dAsg, dPar, dPar3, putD, dSetF, dMt, rAppendD, rPopD, rExtendD, lsT, lsR, lsF, itemsR, dFrz, dCall, dCallK, dMeth, dMake, dFor, dIL, dIT, dIR1, dIR2, dIE, dIZ, wipeD, dYes, dLc, dDic0, updM_same, cxOf, asBl_bl, asInt_int, asTup_tup, isN, w_test, w_chain, w_andV, w_orV, w_notV, w_neg, w_sub, w_div, w_mod, w_pow, w_shl, w_shr, w_and, w_or, w_xor, w_lt, w_le, w_gt, w_ge, w_add, w_addS, w_addT, w_addL, w_addF, w_addR, w_mul, w_mulL, w_eq, w_ne, w_isN, w_isB, w_isntN, w_isntB, w_ix, w_isi, w_abs, w_max2, w_min2, w_max1L, w_min1L, w_sum, w_all, w_any, w_len, w_int, w_intB, w_divmod, w_sorted, w_list, w_bits, w_sl, w_slL, w_slF, w_slR, w_slT, w_newF, w_newT, w_eqL, w_eqT, w_eqR, w_neL, w_neT, w_neR, w_dgT, w_derL, w_derT, w_derB, w_derI, w_derN, w_derS, w_eqSS, w_eqBB, w_neSS, w_neBB, w_eqBI, w_eqIN, w_neIN, w_eqNI, w_neNI, w_eqNN, w_neNN, w_NN, w_NI, w_IN]))
  refine ⟨_, _, rfl, atI_nat (j := 0) rfl, ?_⟩
  (try simp only [dLcM, w_isiM, rReverseD, dMinDef, rInDic, rNotInDic, dIRL, dCallC, dCallG, dConsL, dLam, atDs, dCallV, dgU, dSortI, dIItems, dDicM, dDc, dLenSet, itemsD, w_lrg, w_index, w_sortQ, dCut, dDGet, dDGet1, dDGet2, dDPut, dPairs, w_disp, w_newDF, w_newDT, dec_self, List.map_cons, List.map_nil, eqD_bl, eqD_int, eqD_str, eqD_tup, eqD_lst, eqDs_nil, eqDs_nc, eqDs_cn, eqDs_cons, reduceIte, Bool.false_eq_true, Bool.not_true, Bool.not_false, decide_true, decide_false, dVar, atD, setD, startD, dC, dOp, dAnd, dOr, dNot, dIf, dUn, dNil, dCons, dTup, dLst, rInD, rNotInD, dNoPart, dPart, dRev, dFld, DL.fieldsOf, dCB, dNext, dSeq, dBreak, dCont, dDrop, dRet, dRetN, dIfS, dNever, dgN, dgNil, dgCons, dgSub, dAsg, dPar, dPar3, putD, dSetF, dMt, rAppendD, rPopD, rExtendD, lsT, lsR, lsF, itemsR, dFrz, dCall, dCallK, dMeth, dMake, dFor, dIL, dIT, dIR1, dIR2, dIE, dIZ, wipeD, dYes, dLc, dDic0, updM_same, cxOf, asBl_bl, asInt_int, asTup_tup, isN, w_test, w_chain, w_andV, w_orV, w_notV, w_neg, w_sub, w_div, w_mod, w_pow, w_shl, w_shr, w_and, w_or, w_xor, w_lt, w_le, w_gt, w_ge, w_add, w_addS, w_addT, w_addL, w_addF, w_addR, w_mul, w_mulL, w_eq, w_ne, w_isN, w_isB, w_isntN, w_isntB, w_ix, w_isi, w_abs, w_max2, w_min2, w_max1L, w_min1L, w_sum, w_all, w_any, w_len, w_int, w_intB, w_divmod, w_sorted, w_list, w_bits, w_sl, w_slL, w_slF, w_slR, w_slT, w_newF, w_newT, w_eqL, w_eqT, w_eqR, w_neL, w_neT, w_neR, w_dgT, w_derL, w_derT, w_derB, w_derI, w_derN, w_derS, w_eqSS, w_eqBB, w_neSS, w_neBB, w_eqBI, w_eqIN, w_neIN, w_eqNI, w_neNI, w_eqNN, w_neNN, w_NN, w_NI, w_IN])
  refine ⟨a, b, rfl, by omega, fun e hee => ?_⟩
  have he1 := twos_even he hb1 hee
  have heb := hee.1
  have htb := ht.1
  have hvb := hv.1
  (try simp only [dLcM, w_isiM, rReverseD, dMinDef, rInDic, rNotInDic, dIRL, dCallC, dCallG, dConsL, dLam, atDs, dCallV, dgU, dSortI, dIItems, dDicM, dDc, dLenSet, itemsD, w_lrg, w_index, w_sortQ, dCut, dDGet, dDGet1, dDGet2, dDPut, dPairs, w_disp, w_newDF, w_newDT, dec_self, List.map_cons, List.map_nil, eqD_bl, eqD_int, eqD_str, eqD_tup, eqD_lst, eqDs_nil, eqDs_nc, eqDs_cn, eqDs_cons, reduceIte, Bool.false_eq_true, Bool.not_true, Bool.not_false, decide_true, decide_false, dVar, atD, setD, startD, dC, dOp, dAnd, dOr, dNot, dIf, dUn, dNil, dCons, dTup, dLst, rInD, rNotInD, dNoPart, dPart, dRev, dFld, DL.fieldsOf, dCB, dNext, dSeq, dBreak, dCont, dDrop, dRet, dRetN, dIfS, dNever, dgN, dgNil, dgCons, dgSub, dAsg, dPar, dPar3, putD, dSetF, dMt, rAppendD, rPopD, rExtendD, lsT, lsR, lsF, itemsR, dFrz, dCall, dCallK, dMeth, dMake, dFor, dIL, dIT, dIR1, dIR2, dIE, dIZ, wipeD, dYes, dLc, dDic0, updM_same, cxOf, asBl_bl, asInt_int, asTup_tup, isN, w_test, w_chain, w_andV, w_orV, w_notV, w_neg, w_sub, w_div, w_mod, w_pow, w_shl, w_shr, w_and, w_or, w_xor, w_lt, w_le, w_gt, w_ge, w_add, w_addS, w_addT, w_addL, w_addF, w_addR, w_mul, w_mulL, w_eq, w_ne, w_isN, w_isB, w_isntN, w_isntB, w_ix, w_isi, w_abs, w_max2, w_min2, w_max1L, w_min1L, w_sum, w_all, w_any, w_len, w_int, w_intB, w_divmod, w_sorted, w_list, w_bits, w_sl, w_slL, w_slF, w_slR, w_slT, w_newF, w_newT, w_eqL, w_eqT, w_eqR, w_neL, w_neT, w_neR, w_dgT, w_derL, w_derT, w_derB, w_derI, w_derN, w_derS, w_eqSS, w_eqBB, w_neSS, w_neBB, w_eqBI, w_eqIN, w_neIN, w_eqNI, w_neNI, w_eqNN, w_neNN, w_NN, w_NI, w_IN])
  rw [max_if2, show max 1 (e : Int) = e by omega]
  have hpos : (0 : Int) < e := by omega
  have hpe : (e : Int) < 2 ^ 9000 := Int.lt_of_le_of_lt (show (e : Int) ≤ 2 ^ 10 by omega) (by decide +kernel)
  -- where y is come to, the twos fit
  have hfit : ∀ m : Nat, (2 : Int) ^ b ∣ itZ a c x m - y → v = m * e + t := by
    intro m hm
    obtain ⟨z1, hz1⟩ := hm
    obtain ⟨z2, hz2⟩ := hstay m
    have hd : ∀ k : Nat, k ≤ b → ((2 : Int) ^ k ∣ y - p ↔ (2 : Int) ^ k ∣ a ^ m * (x - p)) := by
      intro k hk
      obtain ⟨f, hf⟩ := dvd_pow2 hk
      constructor
      · rintro ⟨w, hw⟩
        exact ⟨w + f * (z1 - z2), by grind⟩
      · rintro ⟨w, hw⟩
        exact ⟨w - f * (z1 - z2), by grind⟩
    have hvlt : v < b := by
      rcases Nat.lt_or_ge v b with g | g
      · exact g
      · exfalso
        have : v = b := by omega
        subst this
        exact h0 (Int.emod_eq_zero_of_dvd hv.2.1)
    have gone : ∀ k : Nat, k ≤ b → ((2 : Int) ^ k ∣ a ^ m * (x - p) ↔ k ≤ m * e + t) := fun k hk => even_gone2 hee he1 ht hk m
    have h1 := (gone v hvb).mp ((hd v hvb).mp hv.2.1)
    have h2 : ¬ v + 1 ≤ m * e + t := fun h => hv.2.2 hvlt ((hd (v + 1) hvlt).mpr ((gone (v + 1) hvlt).mpr h))
    omega
  (refine stop_to ?_; (try simp only [dLcM, w_isiM, rReverseD, dMinDef, rInDic, rNotInDic, dIRL, dCallC, dCallG, dConsL, dLam, atDs, dCallV, dgU, dSortI, dIItems, dDicM, dDc, dLenSet, itemsD, w_lrg, w_index, w_sortQ, dCut, dDGet, dDGet1, dDGet2, dDPut, dPairs, w_disp, w_newDF, w_newDT, dec_self, List.map_cons, List.map_nil, eqD_bl, eqD_int, eqD_str, eqD_tup, eqD_lst, eqDs_nil, eqDs_nc, eqDs_cn, eqDs_cons, reduceIte, Bool.false_eq_true, Bool.not_true, Bool.not_false, decide_true, decide_false, dVar, atD, setD, startD, dC, dOp, dAnd, dOr, dNot, dIf, dUn, dNil, dCons, dTup, dLst, rInD, rNotInD, dNoPart, dPart, dRev, dFld, DL.fieldsOf, dCB, dNext, dSeq, dBreak, dCont, dDrop, dRet, dRetN, dIfS, dNever, dgN, dgNil, dgCons, dgSub, dAsg, dPar, dPar3, putD, dSetF, dMt, rAppendD, rPopD, rExtendD, lsT, lsR, lsF, itemsR, dFrz, dCall, dCallK, dMeth, dMake, dFor, dIL, dIT, dIR1, dIR2, dIE, dIZ, wipeD, dYes, dLc, dDic0, updM_same, cxOf, asBl_bl, asInt_int, asTup_tup, isN, w_test, w_chain, w_andV, w_orV, w_notV, w_neg, w_sub, w_div, w_mod, w_pow, w_shl, w_shr, w_and, w_or, w_xor, w_lt, w_le, w_gt, w_ge, w_add, w_addS, w_addT, w_addL, w_addF, w_addR, w_mul, w_mulL, w_eq, w_ne, w_isN, w_isB, w_isntN, w_isntB, w_ix, w_isi, w_abs, w_max2, w_min2, w_max1L, w_min1L, w_sum, w_all, w_any, w_len, w_int, w_intB, w_divmod, w_sorted, w_list, w_bits, w_sl, w_slL, w_slF, w_slR, w_slT, w_newF, w_newT, w_eqL, w_eqT, w_eqR, w_neL, w_neT, w_neR, w_dgT, w_derL, w_derT, w_derB, w_derI, w_derN, w_derS, w_eqSS, w_eqBB, w_neSS, w_neBB, w_eqBI, w_eqIN, w_neIN, w_eqNI, w_neNI, w_eqNN, w_neNN, w_NN, w_NI, w_IN]))
  have hquo : ∀ n : Nat, v = n * e + t → ((v : Int) - t) % e = 0 ∧ ((v : Int) - t) / e = n := by
    intro n hn
    have : (v : Int) - t = e * n := by
      have : ((n * e : Nat) : Int) = (e : Int) * n := by rw [Int.natCast_mul, Int.mul_comm]
      omega
    rw [this]
    exact ⟨Int.mul_emod_right _ _, Int.mul_ediv_cancel_left _ (by omega)⟩
  refine ⟨fun r M' => M' = M ∧ (r = true → StepsOf a c x y b none) ∧ (r = false → ∃ n : Nat, v = n * e + t ∧ (2 : Int) ^ b ∣ itZ a c x n - y), ?_, ?_⟩
  · (try simp only [dLcM, w_isiM, rReverseD, dMinDef, rInDic, rNotInDic, dIRL, dCallC, dCallG, dConsL, dLam, atDs, dCallV, dgU, dSortI, dIItems, dDicM, dDc, dLenSet, itemsD, w_lrg, w_index, w_sortQ, dCut, dDGet, dDGet1, dDGet2, dDPut, dPairs, w_disp, w_newDF, w_newDT, dec_self, List.map_cons, List.map_nil, eqD_bl, eqD_int, eqD_str, eqD_tup, eqD_lst, eqDs_nil, eqDs_nc, eqDs_cn, eqDs_cons, reduceIte, Bool.false_eq_true, Bool.not_true, Bool.not_false, decide_true, decide_false, dVar, atD, setD, startD, dC, dOp, dAnd, dOr, dNot, dIf, dUn, dNil, dCons, dTup, dLst, rInD, rNotInD, dNoPart, dPart, dRev, dFld, DL.fieldsOf, dCB, dNext, dSeq, dBreak, dCont, dDrop, dRet, dRetN, dIfS, dNever, dgN, dgNil, dgCons, dgSub, dAsg, dPar, dPar3, putD, dSetF, dMt, rAppendD, rPopD, rExtendD, lsT, lsR, lsF, itemsR, dFrz, dCall, dCallK, dMeth, dMake, dFor, dIL, dIT, dIR1, dIR2, dIE, dIZ, wipeD, dYes, dLc, dDic0, updM_same, cxOf, asBl_bl, asInt_int, asTup_tup, isN, w_test, w_chain, w_andV, w_orV, w_notV, w_neg, w_sub, w_div, w_mod, w_pow, w_shl, w_shr, w_and, w_or, w_xor, w_lt, w_le, w_gt, w_ge, w_add, w_addS, w_addT, w_addL, w_addF, w_addR, w_mul, w_mulL, w_eq, w_ne, w_isN, w_isB, w_isntN, w_isntB, w_ix, w_isi, w_abs, w_max2, w_min2, w_max1L, w_min1L, w_sum, w_all, w_any, w_len, w_int, w_intB, w_divmod, w_sorted, w_list, w_bits, w_sl, w_slL, w_slF, w_slR, w_slT, w_newF, w_newT, w_eqL, w_eqT, w_eqR, w_neL, w_neT, w_neR, w_dgT, w_derL, w_derT, w_derB, w_derI, w_derN, w_derS, w_eqSS, w_eqBB, w_neSS, w_neBB, w_eqBI, w_eqIN, w_neIN, w_eqNI, w_neNI, w_eqNN, w_neNN, w_NN, w_NI, w_IN])
    by_cases g1 : (v : Int) - t < 0
    · refine if_yes (decide_eq_true g1) ⟨True.intro, fun _ m hm => ?_, fun h => by cases h⟩
      have := hfit m hm
      have := Nat.zero_le (m * e)
      omega
    refine if_no (decide_eq_false g1) ⟨by omega, ?_⟩
    rw [fmodP hpos]
    by_cases g2 : ((v : Int) - t) % e = 0
    rotate_left
    · refine not_yes (decide_eq_false g2) ⟨True.intro, fun _ m hm => g2 (hquo m (hfit m hm)).1, fun h => by cases h⟩
    refine not_no (decide_eq_true g2) ⟨divOk_b hpos hpe, ?_⟩
    rw [fdivP hpos]
    obtain ⟨n, hn⟩ := Int.eq_ofNat_of_zero_le (show 0 ≤ ((v : Int) - t) / e from Int.ediv_nonneg (by omega) (by omega))
    have e1 := Int.emod_add_mul_ediv ((v : Int) - t) e
    rw [hn, g2] at e1
    have hve : v = n * e + t := by
      have : ((n * e : Nat) : Int) = (e : Int) * n := by rw [Int.natCast_mul, Int.mul_comm]
      omega
    have hnb : n ≤ b := by
      have : n * 1 ≤ n * e := Nat.mul_le_mul_left _ he1
      omega
    rw [hn]
    refine ⟨a, c, x, n, b, rfl, by omega, Nat.lt_of_le_of_lt (show n ≤ 300 by omega) (by decide +kernel), hb, fun r r0 r1 hr => ?_⟩
    refine ⟨by omega, ?_⟩
    rw [fmodP hp]
    have hiff : r = y % 2 ^ b ↔ (2 : Int) ^ b ∣ itZ a c x n - y := by
      obtain ⟨z, hz⟩ := hr
      obtain ⟨w, hw⟩ := mod_cong (2 ^ b) y
      constructor
      · intro h
        exact ⟨w - z, by rw [Int.mul_sub (2 ^ b) w z]; omega⟩
      · rintro ⟨q, hq⟩
        refine mod_uniq hp ⟨r0, r1⟩ (em2 b y) ⟨z + q - w, ?_⟩
        rw [Int.mul_sub (2 ^ b) (z + q) w, Int.mul_add (2 ^ b) z q]
        omega
    (try simp only [dLcM, w_isiM, rReverseD, dMinDef, rInDic, rNotInDic, dIRL, dCallC, dCallG, dConsL, dLam, atDs, dCallV, dgU, dSortI, dIItems, dDicM, dDc, dLenSet, itemsD, w_lrg, w_index, w_sortQ, dCut, dDGet, dDGet1, dDGet2, dDPut, dPairs, w_disp, w_newDF, w_newDT, dec_self, List.map_cons, List.map_nil, eqD_bl, eqD_int, eqD_str, eqD_tup, eqD_lst, eqDs_nil, eqDs_nc, eqDs_cn, eqDs_cons, reduceIte, Bool.false_eq_true, Bool.not_true, Bool.not_false, decide_true, decide_false, dVar, atD, setD, startD, dC, dOp, dAnd, dOr, dNot, dIf, dUn, dNil, dCons, dTup, dLst, rInD, rNotInD, dNoPart, dPart, dRev, dFld, DL.fieldsOf, dCB, dNext, dSeq, dBreak, dCont, dDrop, dRet, dRetN, dIfS, dNever, dgN, dgNil, dgCons, dgSub, dAsg, dPar, dPar3, putD, dSetF, dMt, rAppendD, rPopD, rExtendD, lsT, lsR, lsF, itemsR, dFrz, dCall, dCallK, dMeth, dMake, dFor, dIL, dIT, dIR1, dIR2, dIE, dIZ, wipeD, dYes, dLc, dDic0, updM_same, cxOf, asBl_bl, asInt_int, asTup_tup, isN, w_test, w_chain, w_andV, w_orV, w_notV, w_neg, w_sub, w_div, w_mod, w_pow, w_shl, w_shr, w_and, w_or, w_xor, w_lt, w_le, w_gt, w_ge, w_add, w_addS, w_addT, w_addL, w_addF, w_addR, w_mul, w_mulL, w_eq, w_ne, w_isN, w_isB, w_isntN, w_isntB, w_ix, w_isi, w_abs, w_max2, w_min2, w_max1L, w_min1L, w_sum, w_all, w_any, w_len, w_int, w_intB, w_divmod, w_sorted, w_list, w_bits, w_sl, w_slL, w_slF, w_slR, w_slT, w_newF, w_newT, w_eqL, w_eqT, w_eqR, w_neL, w_neT, w_neR, w_dgT, w_derL, w_derT, w_derB, w_derI, w_derN, w_derS, w_eqSS, w_eqBB, w_neSS, w_neBB, w_eqBI, w_eqIN, w_neIN, w_eqNI, w_neNI, w_eqNN, w_neNN, w_NN, w_NI, w_IN])
    by_cases g3 : r = y % 2 ^ b
    · rw [decide_eq_true g3]
      show _ ∧ (false = true → _) ∧ (false = false → _)
      exact ⟨by first | trivial | rfl, fun h => (by cases h), fun _ => ⟨n, hve, hiff.mp g3⟩⟩
    · rw [decide_eq_false g3]
      show _ ∧ (true = true → _) ∧ (true = false → _)
      refine ⟨by first | trivial | rfl, fun _ m hm => ?_, fun h => (by cases h)⟩
      have h1 := hfit m hm
      have h2 : m = n := by
        have : m * e = n * e := by omega
        exact Nat.eq_of_mul_eq_mul_right (by omega) this
      subst h2
      exact g3 (hiff.mpr hm)
  rintro r M' ⟨hM', hr1, hr2⟩
  subst hM'
  cases r with
  | true =>
    (try simp only [dLcM, w_isiM, rReverseD, dMinDef, rInDic, rNotInDic, dIRL, dCallC, dCallG, dConsL, dLam, atDs, dCallV, dgU, dSortI, dIItems, dDicM, dDc, dLenSet, itemsD, w_lrg, w_index, w_sortQ, dCut, dDGet, dDGet1, dDGet2, dDPut, dPairs, w_disp, w_newDF, w_newDT, dec_self, List.map_cons, List.map_nil, eqD_bl, eqD_int, eqD_str, eqD_tup, eqD_lst, eqDs_nil, eqDs_nc, eqDs_cn, eqDs_cons, reduceIte, Bool.false_eq_true, Bool.not_true, Bool.not_false, decide_true, decide_false, dVar, atD, setD, startD, dC, dOp, dAnd, dOr, dNot, dIf, dUn, dNil, dCons, dTup, dLst, rInD, rNotInD, dNoPart, dPart, dRev, dFld, DL.fieldsOf, dCB, dNext, dSeq, dBreak, dCont, dDrop, dRet, dRetN, dIfS, dNever, dgN, dgNil, dgCons, dgSub, dAsg, dPar, dPar3, putD, dSetF, dMt, rAppendD, rPopD, rExtendD, lsT, lsR, lsF, itemsR, dFrz, dCall, dCallK, dMeth, dMake, dFor, dIL, dIT, dIR1, dIR2, dIE, dIZ, wipeD, dYes, dLc, dDic0, updM_same, cxOf, asBl_bl, asInt_int, asTup_tup, isN, w_test, w_chain, w_andV, w_orV, w_notV, w_neg, w_sub, w_div, w_mod, w_pow, w_shl, w_shr, w_and, w_or, w_xor, w_lt, w_le, w_gt, w_ge, w_add, w_addS, w_addT, w_addL, w_addF, w_addR, w_mul, w_mulL, w_eq, w_ne, w_isN, w_isB, w_isntN, w_isntB, w_ix, w_isi, w_abs, w_max2, w_min2, w_max1L, w_min1L, w_sum, w_all, w_any, w_len, w_int, w_intB, w_divmod, w_sorted, w_list, w_bits, w_sl, w_slL, w_slF, w_slR, w_slT, w_newF, w_newT, w_eqL, w_eqT, w_eqR, w_neL, w_neT, w_neR, w_dgT, w_derL, w_derT, w_derB, w_derI, w_derN, w_derS, w_eqSS, w_eqBB, w_neSS, w_neBB, w_eqBI, w_eqIN, w_neIN, w_eqNI, w_neNI, w_eqNN, w_neNN, w_NN, w_NI, w_IN])
    exact endD_of (hQ none (hr1 rfl))
  | false =>
    obtain ⟨n, hve, hn⟩ := hr2 rfl
    (try simp only [dLcM, w_isiM, rReverseD, dMinDef, rInDic, rNotInDic, dIRL, dCallC, dCallG, dConsL, dLam, atDs, dCallV, dgU, dSortI, dIItems, dDicM, dDc, dLenSet, itemsD, w_lrg, w_index, w_sortQ, dCut, dDGet, dDGet1, dDGet2, dDPut, dPairs, w_disp, w_newDF, w_newDT, dec_self, List.map_cons, List.map_nil, eqD_bl, eqD_int, eqD_str, eqD_tup, eqD_lst, eqDs_nil, eqDs_nc, eqDs_cn, eqDs_cons, reduceIte, Bool.false_eq_true, Bool.not_true, Bool.not_false, decide_true, decide_false, dVar, atD, setD, startD, dC, dOp, dAnd, dOr, dNot, dIf, dUn, dNil, dCons, dTup, dLst, rInD, rNotInD, dNoPart, dPart, dRev, dFld, DL.fieldsOf, dCB, dNext, dSeq, dBreak, dCont, dDrop, dRet, dRetN, dIfS, dNever, dgN, dgNil, dgCons, dgSub, dAsg, dPar, dPar3, putD, dSetF, dMt, rAppendD, rPopD, rExtendD, lsT, lsR, lsF, itemsR, dFrz, dCall, dCallK, dMeth, dMake, dFor, dIL, dIT, dIR1, dIR2, dIE, dIZ, wipeD, dYes, dLc, dDic0, updM_same, cxOf, asBl_bl, asInt_int, asTup_tup, isN, w_test, w_chain, w_andV, w_orV, w_notV, w_neg, w_sub, w_div, w_mod, w_pow, w_shl, w_shr, w_and, w_or, w_xor, w_lt, w_le, w_gt, w_ge, w_add, w_addS, w_addT, w_addL, w_addF, w_addR, w_mul, w_mulL, w_eq, w_ne, w_isN, w_isB, w_isntN, w_isntB, w_ix, w_isi, w_abs, w_max2, w_min2, w_max1L, w_min1L, w_sum, w_all, w_any, w_len, w_int, w_intB, w_divmod, w_sorted, w_list, w_bits, w_sl, w_slL, w_slF, w_slR, w_slT, w_newF, w_newT, w_eqL, w_eqT, w_eqR, w_neL, w_neT, w_neR, w_dgT, w_derL, w_derT, w_derB, w_derI, w_derN, w_derS, w_eqSS, w_eqBB, w_neSS, w_neBB, w_eqBI, w_eqIN, w_neIN, w_eqNI, w_neNI, w_eqNN, w_neNN, w_NN, w_NI, w_IN])
    refine ⟨divOk_b hpos hpe, ?_⟩
    rw [fdivP hpos, (hquo n hve).2]
    refine ⟨lit_len (n := 2) (by decide), endD_of (hQ (some (n, 0)) fun m => ?_)⟩
    constructor
    · intro hm
      have h1 := hfit m hm
      refine ⟨0, ?_⟩
      have : m * e = n * e := by omega
      have := Nat.eq_of_mul_eq_mul_right (show 0 < e by omega) this
      omega
    · rintro ⟨z, rfl⟩
      exact hn
abbrev sp_course2 : SpD := fun ds M Q => ∃ (a c x y : Int) (b : Nat), ds = [genD a c, .int x, .int y, .int (b : Nat)] ∧ a.natAbs < 2 ^ 200 ∧ c.natAbs < 2 ^ 200 ∧ x.natAbs < 2 ^ 200 ∧ y.natAbs < 2 ^ 200 ∧ b ≤ 300 ∧ ∀ o, StepsOf a c x y b o → Q (stepsD o) M
theorem ok_course (T : Txt K mg C_Kind) (F_odd_course : FnD P w K mg base 5 "odd_course" s_odd_course ["generator", "x", "y", "bits"] (sp_odd)) (F_short_course : FnD P w K mg base 4 "short_course" s_short_course ["generator", "x", "y", "bits"] (sp_short)) : FnD P w K mg base 6 "course" s_course ["generator", "x", "y", "bits"] (sp_course2) := by
  refine fn_mk T.h_course sc_course 4 rfl (by intro ds M Q h; first | (obtain ⟨rfl, _⟩ := h; rfl) | (obtain ⟨_, rfl, _⟩ := h; rfl) | (obtain ⟨_, _, rfl, _⟩ := h; rfl) | (obtain ⟨_, _, _, rfl, _⟩ := h; rfl) | (obtain ⟨_, _, _, _, rfl, _⟩ := h; rfl) | (obtain ⟨_, _, _, _, _, rfl, _⟩ := h; rfl) | (obtain ⟨_, _, _, _, _, _, rfl, _⟩ := h; rfl) | (obtain ⟨_, _, _, _, _, _, _, rfl, _⟩ := h; rfl) | (obtain ⟨_, _, _, _, _, _, _, _, rfl, _⟩ := h; rfl) | (obtain ⟨_, _, _, _, _, _, _, _, _, rfl, _⟩ := h; rfl) | (obtain ⟨_, _, _, _, _, _, _, _, _, _, rfl, _⟩ := h; rfl) | (obtain ⟨_, _, _, _, _, _, _, _, _, _, _, rfl, _⟩ := h; rfl) | (obtain ⟨_, _, _, _, _, _, _, _, _, _, _, _, rfl, _⟩ := h; rfl)) (fun f cdv A outer s H E hr => ⟨_, (dss_stop (ds_if (dt_cmp (od_eq hr.units) (dv 3) de_int)
    (dss_one (ds_ret (de_tup (da_cons de_int (da_cons de_int da_nil)))))
    dss_nil)
    (dss_one (ds_ret (de_if (dt_cmp (od_eq hr.units) (de_op od_mod (de_ix (dv 0) de_int) de_int) de_int) (de_call F_odd_course hr (da_cons (dv 0) (da_cons (dv 1) (da_cons (dv 2) (da_cons (dv 3) da_nil))))) (de_call F_short_course hr (da_cons (dv 0) (da_cons (dv 1) (da_cons (dv 2) (da_cons (dv 3) da_nil))))))))), ?_⟩)
  rintro ds M Q ⟨a, c, x, y, b, rfl, ha, hc, hx, hy, hb, hQ⟩
  (refine stop_to ?_; (try simp only [dLcM, w_isiM, rReverseD, dMinDef, rInDic, rNotInDic, dIRL, dCallC, dCallG, dConsL, dLam, atDs, dCallV, dgU, dSortI, dIItems, dDicM, dDc, dLenSet, itemsD, w_lrg, w_index, w_sortQ, dCut, dDGet, dDGet1, dDGet2, dDPut, dPairs, w_disp, w_newDF, w_newDT, dec_self, List.map_cons, List.map_nil, eqD_bl, eqD_int, eqD_str, eqD_tup, eqD_lst, eqDs_nil, eqDs_nc, eqDs_cn, eqDs_cons, reduceIte, Bool.false_eq_true, Bool.not_true, Bool.not_false, decide_true, decide_false, dVar, atD, setD, startD, dC, dOp, dAnd, dOr, dNot, dIf, dUn, dNil, dCons, dTup, dLst, rInD, rNotInD, dNoPart, dPart, dRev, dFld, DL.fieldsOf, dCB, dNext, dSeq, dBreak, dCont, dDrop, dRet, dRetN, dIfS, dNever, dgN, dgNil, dgCons, dgSub, dAsg, dPar, dPar3, putD, dSetF, dMt, rAppendD, rPopD, rExtendD, lsT, lsR, lsF, itemsR, dFrz, dCall, dCallK, dMeth, dMake, dFor, dIL, dIT, dIR1, dIR2, dIE, dIZ, wipeD, dYes, dLc, dDic0, updM_same, cxOf, asBl_bl, asInt_int, asTup_tup, isN, w_test, w_chain, w_andV, w_orV, w_notV, w_neg, w_sub, w_div, w_mod, w_pow, w_shl, w_shr, w_and, w_or, w_xor, w_lt, w_le, w_gt, w_ge, w_add, w_addS, w_addT, w_addL, w_addF, w_addR, w_mul, w_mulL, w_eq, w_ne, w_isN, w_isB, w_isntN, w_isntB, w_ix, w_isi, w_abs, w_max2, w_min2, w_max1L, w_min1L, w_sum, w_all, w_any, w_len, w_int, w_intB, w_divmod, w_sorted, w_list, w_bits, w_sl, w_slL, w_slF, w_slR, w_slT, w_newF, w_newT, w_eqL, w_eqT, w_eqR, w_neL, w_neT, w_neR, w_dgT, w_derL, w_derT, w_derB, w_derI, w_derN, w_derS, w_eqSS, w_eqBB, w_neSS, w_neBB, w_eqBI, w_eqIN, w_neIN, w_eqNI, w_neNI, w_eqNN, w_neNN, w_NN, w_NI, w_IN]))
  by_cases h0 : b = 0
  · subst h0
    refine if_yes (decide_eq_true rfl) ?_
    (try simp only [dLcM, w_isiM, rReverseD, dMinDef, rInDic, rNotInDic, dIRL, dCallC, dCallG, dConsL, dLam, atDs, dCallV, dgU, dSortI, dIItems, dDicM, dDc, dLenSet, itemsD, w_lrg, w_index, w_sortQ, dCut, dDGet, dDGet1, dDGet2, dDPut, dPairs, w_disp, w_newDF, w_newDT, dec_self, List.map_cons, List.map_nil, eqD_bl, eqD_int, eqD_str, eqD_tup, eqD_lst, eqDs_nil, eqDs_nc, eqDs_cn, eqDs_cons, reduceIte, Bool.false_eq_true, Bool.not_true, Bool.not_false, decide_true, decide_false, dVar, atD, setD, startD, dC, dOp, dAnd, dOr, dNot, dIf, dUn, dNil, dCons, dTup, dLst, rInD, rNotInD, dNoPart, dPart, dRev, dFld, DL.fieldsOf, dCB, dNext, dSeq, dBreak, dCont, dDrop, dRet, dRetN, dIfS, dNever, dgN, dgNil, dgCons, dgSub, dAsg, dPar, dPar3, putD, dSetF, dMt, rAppendD, rPopD, rExtendD, lsT, lsR, lsF, itemsR, dFrz, dCall, dCallK, dMeth, dMake, dFor, dIL, dIT, dIR1, dIR2, dIE, dIZ, wipeD, dYes, dLc, dDic0, updM_same, cxOf, asBl_bl, asInt_int, asTup_tup, isN, w_test, w_chain, w_andV, w_orV, w_notV, w_neg, w_sub, w_div, w_mod, w_pow, w_shl, w_shr, w_and, w_or, w_xor, w_lt, w_le, w_gt, w_ge, w_add, w_addS, w_addT, w_addL, w_addF, w_addR, w_mul, w_mulL, w_eq, w_ne, w_isN, w_isB, w_isntN, w_isntB, w_ix, w_isi, w_abs, w_max2, w_min2, w_max1L, w_min1L, w_sum, w_all, w_any, w_len, w_int, w_intB, w_divmod, w_sorted, w_list, w_bits, w_sl, w_slL, w_slF, w_slR, w_slT, w_newF, w_newT, w_eqL, w_eqT, w_eqR, w_neL, w_neT, w_neR, w_dgT, w_derL, w_derT, w_derB, w_derI, w_derN, w_derS, w_eqSS, w_eqBB, w_neSS, w_neBB, w_eqBI, w_eqIN, w_neIN, w_eqNI, w_neNI, w_eqNN, w_neNN, w_NN, w_NI, w_IN])
    refine ⟨lit_len (n := 2) (by decide), endD_of (hQ (some (0, 1)) fun m => ?_)⟩
    exact ⟨fun _ => ⟨m, by omega⟩, fun _ => ⟨itZ a c x m - y, by simp⟩⟩
  refine if_no (decide_eq_false (by omega)) ?_
  (try simp only [dLcM, w_isiM, rReverseD, dMinDef, rInDic, rNotInDic, dIRL, dCallC, dCallG, dConsL, dLam, atDs, dCallV, dgU, dSortI, dIItems, dDicM, dDc, dLenSet, itemsD, w_lrg, w_index, w_sortQ, dCut, dDGet, dDGet1, dDGet2, dDPut, dPairs, w_disp, w_newDF, w_newDT, dec_self, List.map_cons, List.map_nil, eqD_bl, eqD_int, eqD_str, eqD_tup, eqD_lst, eqDs_nil, eqDs_nc, eqDs_cn, eqDs_cons, reduceIte, Bool.false_eq_true, Bool.not_true, Bool.not_false, decide_true, decide_false, dVar, atD, setD, startD, dC, dOp, dAnd, dOr, dNot, dIf, dUn, dNil, dCons, dTup, dLst, rInD, rNotInD, dNoPart, dPart, dRev, dFld, DL.fieldsOf, dCB, dNext, dSeq, dBreak, dCont, dDrop, dRet, dRetN, dIfS, dNever, dgN, dgNil, dgCons, dgSub, dAsg, dPar, dPar3, putD, dSetF, dMt, rAppendD, rPopD, rExtendD, lsT, lsR, lsF, itemsR, dFrz, dCall, dCallK, dMeth, dMake, dFor, dIL, dIT, dIR1, dIR2, dIE, dIZ, wipeD, dYes, dLc, dDic0, updM_same, cxOf, asBl_bl, asInt_int, asTup_tup, isN, w_test, w_chain, w_andV, w_orV, w_notV, w_neg, w_sub, w_div, w_mod, w_pow, w_shl, w_shr, w_and, w_or, w_xor, w_lt, w_le, w_gt, w_ge, w_add, w_addS, w_addT, w_addL, w_addF, w_addR, w_mul, w_mulL, w_eq, w_ne, w_isN, w_isB, w_isntN, w_isntB, w_ix, w_isi, w_abs, w_max2, w_min2, w_max1L, w_min1L, w_sum, w_all, w_any, w_len, w_int, w_intB, w_divmod, w_sorted, w_list, w_bits, w_sl, w_slL, w_slF, w_slR, w_slT, w_newF, w_newT, w_eqL, w_eqT, w_eqR, w_neL, w_neT, w_neR, w_dgT, w_derL, w_derT, w_derB, w_derI, w_derN, w_derS, w_eqSS, w_eqBB, w_neSS, w_neBB, w_eqBI, w_eqIN, w_neIN, w_eqNI, w_neNI, w_eqNN, w_neNN, w_NN, w_NI, w_IN])
  refine ⟨_, _, rfl, atI_nat (j := 0) rfl, ?_⟩
  (try simp only [dLcM, w_isiM, rReverseD, dMinDef, rInDic, rNotInDic, dIRL, dCallC, dCallG, dConsL, dLam, atDs, dCallV, dgU, dSortI, dIItems, dDicM, dDc, dLenSet, itemsD, w_lrg, w_index, w_sortQ, dCut, dDGet, dDGet1, dDGet2, dDPut, dPairs, w_disp, w_newDF, w_newDT, dec_self, List.map_cons, List.map_nil, eqD_bl, eqD_int, eqD_str, eqD_tup, eqD_lst, eqDs_nil, eqDs_nc, eqDs_cn, eqDs_cons, reduceIte, Bool.false_eq_true, Bool.not_true, Bool.not_false, decide_true, decide_false, dVar, atD, setD, startD, dC, dOp, dAnd, dOr, dNot, dIf, dUn, dNil, dCons, dTup, dLst, rInD, rNotInD, dNoPart, dPart, dRev, dFld, DL.fieldsOf, dCB, dNext, dSeq, dBreak, dCont, dDrop, dRet, dRetN, dIfS, dNever, dgN, dgNil, dgCons, dgSub, dAsg, dPar, dPar3, putD, dSetF, dMt, rAppendD, rPopD, rExtendD, lsT, lsR, lsF, itemsR, dFrz, dCall, dCallK, dMeth, dMake, dFor, dIL, dIT, dIR1, dIR2, dIE, dIZ, wipeD, dYes, dLc, dDic0, updM_same, cxOf, asBl_bl, asInt_int, asTup_tup, isN, w_test, w_chain, w_andV, w_orV, w_notV, w_neg, w_sub, w_div, w_mod, w_pow, w_shl, w_shr, w_and, w_or, w_xor, w_lt, w_le, w_gt, w_ge, w_add, w_addS, w_addT, w_addL, w_addF, w_addR, w_mul, w_mulL, w_eq, w_ne, w_isN, w_isB, w_isntN, w_isntB, w_ix, w_isi, w_abs, w_max2, w_min2, w_max1L, w_min1L, w_sum, w_all, w_any, w_len, w_int, w_intB, w_divmod, w_sorted, w_list, w_bits, w_sl, w_slL, w_slF, w_slR, w_slT, w_newF, w_newT, w_eqL, w_eqT, w_eqR, w_neL, w_neT, w_neR, w_dgT, w_derL, w_derT, w_derB, w_derI, w_derN, w_derS, w_eqSS, w_eqBB, w_neSS, w_neBB, w_eqBI, w_eqIN, w_neIN, w_eqNI, w_neNI, w_eqNN, w_neNN, w_NN, w_NI, w_IN])
  refine ⟨by decide, ?_⟩
  rw [fmodP (by decide)]
  by_cases h : a % 2 = 1
  · exact if_yes (decide_eq_true h) ⟨a, c, x, y, b, rfl, h, ha, hc, hx, by omega, hb, fun o ho => endD_of (hQ o ho)⟩
  · exact if_no (decide_eq_false h) ⟨a, c, x, y, b, rfl, by omega, ha, hc, hx, hy, by omega, hb, fun o ho => endD_of (hQ o ho)⟩
abbrev sp_chkc (C : Addr) : SpD := fun ds M Q => ∃ (b : Nat) (s : Bool) (a c x y : Int), ds = [kindD C b s, genD a c, .int x, .int y] ∧ Wd b ∧ InK b s a ∧ InK b s c ∧ InK b s x ∧ InK b s y ∧ Q .non M
theorem ok_check_course (T : Txt K mg C_Kind) (F_check_generator : FnD P w K mg base 4 "check_generator" s_check_generator ["kind", "value"] (sp_chkg C_Kind)) (F_check_value : FnD P w K mg base 4 "check_value" s_check_value ["kind", "argument", "value"] (sp_chkv C_Kind)) : FnD P w K mg base 5 "check_course" s_check_course ["kind", "generator", "x", "y"] (sp_chkc C_Kind) := by
  refine fn_mk T.h_check_course sc_check_course 4 rfl (by intro ds M Q h; first | (obtain ⟨rfl, _⟩ := h; rfl) | (obtain ⟨_, rfl, _⟩ := h; rfl) | (obtain ⟨_, _, rfl, _⟩ := h; rfl) | (obtain ⟨_, _, _, rfl, _⟩ := h; rfl) | (obtain ⟨_, _, _, _, rfl, _⟩ := h; rfl) | (obtain ⟨_, _, _, _, _, rfl, _⟩ := h; rfl) | (obtain ⟨_, _, _, _, _, _, rfl, _⟩ := h; rfl) | (obtain ⟨_, _, _, _, _, _, _, rfl, _⟩ := h; rfl) | (obtain ⟨_, _, _, _, _, _, _, _, rfl, _⟩ := h; rfl) | (obtain ⟨_, _, _, _, _, _, _, _, _, rfl, _⟩ := h; rfl) | (obtain ⟨_, _, _, _, _, _, _, _, _, _, rfl, _⟩ := h; rfl) | (obtain ⟨_, _, _, _, _, _, _, _, _, _, _, rfl, _⟩ := h; rfl) | (obtain ⟨_, _, _, _, _, _, _, _, _, _, _, _, rfl, _⟩ := h; rfl)) (fun f cdv A outer s H E hr => ⟨_, (dss_cons (ds_expr (de_call F_check_generator hr (da_cons (dv 0) (da_cons (dv 1) da_nil))))
    (dss_cons (ds_expr (de_call F_check_value hr (da_cons (dv 0) (da_cons de_str (da_cons (dv 2) da_nil)))))
    (dss_one (ds_expr (de_call F_check_value hr (da_cons (dv 0) (da_cons de_str (da_cons (dv 3) da_nil)))))))), ?_⟩)
  rintro ds M Q ⟨b, s, a, c, x, y, rfl, hb, ha, hc, hx, hy, hQ⟩
  (try simp only [dLcM, w_isiM, rReverseD, dMinDef, rInDic, rNotInDic, dIRL, dCallC, dCallG, dConsL, dLam, atDs, dCallV, dgU, dSortI, dIItems, dDicM, dDc, dLenSet, itemsD, w_lrg, w_index, w_sortQ, dCut, dDGet, dDGet1, dDGet2, dDPut, dPairs, w_disp, w_newDF, w_newDT, dec_self, List.map_cons, List.map_nil, eqD_bl, eqD_int, eqD_str, eqD_tup, eqD_lst, eqDs_nil, eqDs_nc, eqDs_cn, eqDs_cons, reduceIte, Bool.false_eq_true, Bool.not_true, Bool.not_false, decide_true, decide_false, dVar, atD, setD, startD, dC, dOp, dAnd, dOr, dNot, dIf, dUn, dNil, dCons, dTup, dLst, rInD, rNotInD, dNoPart, dPart, dRev, dFld, DL.fieldsOf, dCB, dNext, dSeq, dBreak, dCont, dDrop, dRet, dRetN, dIfS, dNever, dgN, dgNil, dgCons, dgSub, dAsg, dPar, dPar3, putD, dSetF, dMt, rAppendD, rPopD, rExtendD, lsT, lsR, lsF, itemsR, dFrz, dCall, dCallK, dMeth, dMake, dFor, dIL, dIT, dIR1, dIR2, dIE, dIZ, wipeD, dYes, dLc, dDic0, updM_same, cxOf, asBl_bl, asInt_int, asTup_tup, isN, w_test, w_chain, w_andV, w_orV, w_notV, w_neg, w_sub, w_div, w_mod, w_pow, w_shl, w_shr, w_and, w_or, w_xor, w_lt, w_le, w_gt, w_ge, w_add, w_addS, w_addT, w_addL, w_addF, w_addR, w_mul, w_mulL, w_eq, w_ne, w_isN, w_isB, w_isntN, w_isntB, w_ix, w_isi, w_abs, w_max2, w_min2, w_max1L, w_min1L, w_sum, w_all, w_any, w_len, w_int, w_intB, w_divmod, w_sorted, w_list, w_bits, w_sl, w_slL, w_slF, w_slR, w_slT, w_newF, w_newT, w_eqL, w_eqT, w_eqR, w_neL, w_neT, w_neR, w_dgT, w_derL, w_derT, w_derB, w_derI, w_derN, w_derS, w_eqSS, w_eqBB, w_neSS, w_neBB, w_eqBI, w_eqIN, w_neIN, w_eqNI, w_neNI, w_eqNN, w_neNN, w_NN, w_NI, w_IN])
  exact ⟨b, s, a, c, rfl, hb, ha, hc, b, s, _, x, rfl, hb, hx, b, s, _, y, rfl, hb, hy, endD_of hQ⟩
abbrev sp_alls (C : Addr) : SpD := fun ds M Q => ∃ (b : Nat) (s : Bool) (a c x y : Int), ds = [kindD C b s, genD a c, .int x, .int y] ∧ Wd b ∧ InK b s a ∧ InK b s c ∧ InK b s x ∧ InK b s y ∧ ∀ o, StepsOf a c x y b o → Q (stepsD o) M
theorem ok_all_steps (T : Txt K mg C_Kind) (F_check_course : FnD P w K mg base 5 "check_course" s_check_course ["kind", "generator", "x", "y"] (sp_chkc C_Kind)) (F_course : FnD P w K mg base 6 "course" s_course ["generator", "x", "y", "bits"] (sp_course2)) : FnD P w K mg base 7 "all_steps" s_all_steps ["kind", "generator", "x", "y"] (sp_alls C_Kind) := by
  refine fn_mk T.h_all_steps sc_all_steps 4 rfl (by intro ds M Q h; first | (obtain ⟨rfl, _⟩ := h; rfl) | (obtain ⟨_, rfl, _⟩ := h; rfl) | (obtain ⟨_, _, rfl, _⟩ := h; rfl) | (obtain ⟨_, _, _, rfl, _⟩ := h; rfl) | (obtain ⟨_, _, _, _, rfl, _⟩ := h; rfl) | (obtain ⟨_, _, _, _, _, rfl, _⟩ := h; rfl) | (obtain ⟨_, _, _, _, _, _, rfl, _⟩ := h; rfl) | (obtain ⟨_, _, _, _, _, _, _, rfl, _⟩ := h; rfl) | (obtain ⟨_, _, _, _, _, _, _, _, rfl, _⟩ := h; rfl) | (obtain ⟨_, _, _, _, _, _, _, _, _, rfl, _⟩ := h; rfl) | (obtain ⟨_, _, _, _, _, _, _, _, _, _, rfl, _⟩ := h; rfl) | (obtain ⟨_, _, _, _, _, _, _, _, _, _, _, rfl, _⟩ := h; rfl) | (obtain ⟨_, _, _, _, _, _, _, _, _, _, _, _, rfl, _⟩ := h; rfl)) (fun f cdv A outer s H E hr => ⟨_, (dss_cons (ds_expr (de_call F_check_course hr (da_cons (dv 0) (da_cons (dv 1) (da_cons (dv 2) (da_cons (dv 3) da_nil))))))
    (dss_one (ds_ret (de_call F_course hr (da_cons (dv 1) (da_cons (dv 2) (da_cons (dv 3) (da_cons (de_fld C_Kind 0 T.cl_Kind T.nf_Kind_bits (dv 0)) da_nil)))))))), ?_⟩)
  rintro ds M Q ⟨b, s, a, c, x, y, rfl, hb, ha, hc, hx, hy, hQ⟩
  have hb2 := hb.2
  (try simp only [dLcM, w_isiM, rReverseD, dMinDef, rInDic, rNotInDic, dIRL, dCallC, dCallG, dConsL, dLam, atDs, dCallV, dgU, dSortI, dIItems, dDicM, dDc, dLenSet, itemsD, w_lrg, w_index, w_sortQ, dCut, dDGet, dDGet1, dDGet2, dDPut, dPairs, w_disp, w_newDF, w_newDT, dec_self, List.map_cons, List.map_nil, eqD_bl, eqD_int, eqD_str, eqD_tup, eqD_lst, eqDs_nil, eqDs_nc, eqDs_cn, eqDs_cons, reduceIte, Bool.false_eq_true, Bool.not_true, Bool.not_false, decide_true, decide_false, dVar, atD, setD, startD, dC, dOp, dAnd, dOr, dNot, dIf, dUn, dNil, dCons, dTup, dLst, rInD, rNotInD, dNoPart, dPart, dRev, dFld, DL.fieldsOf, dCB, dNext, dSeq, dBreak, dCont, dDrop, dRet, dRetN, dIfS, dNever, dgN, dgNil, dgCons, dgSub, dAsg, dPar, dPar3, putD, dSetF, dMt, rAppendD, rPopD, rExtendD, lsT, lsR, lsF, itemsR, dFrz, dCall, dCallK, dMeth, dMake, dFor, dIL, dIT, dIR1, dIR2, dIE, dIZ, wipeD, dYes, dLc, dDic0, updM_same, cxOf, asBl_bl, asInt_int, asTup_tup, isN, w_test, w_chain, w_andV, w_orV, w_notV, w_neg, w_sub, w_div, w_mod, w_pow, w_shl, w_shr, w_and, w_or, w_xor, w_lt, w_le, w_gt, w_ge, w_add, w_addS, w_addT, w_addL, w_addF, w_addR, w_mul, w_mulL, w_eq, w_ne, w_isN, w_isB, w_isntN, w_isntB, w_ix, w_isi, w_abs, w_max2, w_min2, w_max1L, w_min1L, w_sum, w_all, w_any, w_len, w_int, w_intB, w_divmod, w_sorted, w_list, w_bits, w_sl, w_slL, w_slF, w_slR, w_slT, w_newF, w_newT, w_eqL, w_eqT, w_eqR, w_neL, w_neT, w_neR, w_dgT, w_derL, w_derT, w_derB, w_derI, w_derN, w_derS, w_eqSS, w_eqBB, w_neSS, w_neBB, w_eqBI, w_eqIN, w_neIN, w_eqNI, w_neNI, w_eqNN, w_neNN, w_NN, w_NI, w_IN])
  exact ⟨b, s, a, c, x, y, rfl, hb, ha, hc, hx, hy, _, _, rfl, rfl, a, c, x, y, b, rfl, in_small hb ha, in_small hb hc, in_small hb hx, in_small hb hy, by omega, fun o ho => endD_of (hQ o ho)⟩
abbrev sp_btw (C : Addr) : SpD := fun ds M Q => ∃ (b : Nat) (s : Bool) (a c x y : Int), ds = [kindD C b s, genD a c, .int x, .int y] ∧ Wd b ∧ InK b s a ∧ InK b s c ∧ InK b s x ∧ InK b s y ∧ ∀ o, StepsOf a c x y b o → Q (optN (o.map (·.1))) M
theorem ok_steps_between (T : Txt K mg C_Kind) (F_all_steps : FnD P w K mg base 7 "all_steps" s_all_steps ["kind", "generator", "x", "y"] (sp_alls C_Kind)) : FnD P w K mg base 8 "steps_between" s_steps_between ["kind", "generator", "x", "y"] (sp_btw C_Kind) := by
  refine fn_mk T.h_steps_between sc_steps_between 5 rfl (by intro ds M Q h; first | (obtain ⟨rfl, _⟩ := h; rfl) | (obtain ⟨_, rfl, _⟩ := h; rfl) | (obtain ⟨_, _, rfl, _⟩ := h; rfl) | (obtain ⟨_, _, _, rfl, _⟩ := h; rfl) | (obtain ⟨_, _, _, _, rfl, _⟩ := h; rfl) | (obtain ⟨_, _, _, _, _, rfl, _⟩ := h; rfl) | (obtain ⟨_, _, _, _, _, _, rfl, _⟩ := h; rfl) | (obtain ⟨_, _, _, _, _, _, _, rfl, _⟩ := h; rfl) | (obtain ⟨_, _, _, _, _, _, _, _, rfl, _⟩ := h; rfl) | (obtain ⟨_, _, _, _, _, _, _, _, _, rfl, _⟩ := h; rfl) | (obtain ⟨_, _, _, _, _, _, _, _, _, _, rfl, _⟩ := h; rfl) | (obtain ⟨_, _, _, _, _, _, _, _, _, _, _, rfl, _⟩ := h; rfl) | (obtain ⟨_, _, _, _, _, _, _, _, _, _, _, _, rfl, _⟩ := h; rfl)) (fun f cdv A outer s H E hr => ⟨_, (dss_cons (ds_set (i := 4) sc_steps_between.nd (de_call F_all_steps hr (da_cons (dv 0) (da_cons (dv 1) (da_cons (dv 2) (da_cons (dv 3) da_nil))))))
    (dss_one (ds_ret (de_if (dt_cmp od_is (dv 4) de_non) de_non (de_ix (dv 4) de_int))))), ?_⟩)
  rintro ds M Q ⟨b, s, a, c, x, y, rfl, hb, ha, hc, hx, hy, hQ⟩
  (try simp only [dLcM, w_isiM, rReverseD, dMinDef, rInDic, rNotInDic, dIRL, dCallC, dCallG, dConsL, dLam, atDs, dCallV, dgU, dSortI, dIItems, dDicM, dDc, dLenSet, itemsD, w_lrg, w_index, w_sortQ, dCut, dDGet, dDGet1, dDGet2, dDPut, dPairs, w_disp, w_newDF, w_newDT, dec_self, List.map_cons, List.map_nil, eqD_bl, eqD_int, eqD_str, eqD_tup, eqD_lst, eqDs_nil, eqDs_nc, eqDs_cn, eqDs_cons, reduceIte, Bool.false_eq_true, Bool.not_true, Bool.not_false, decide_true, decide_false, dVar, atD, setD, startD, dC, dOp, dAnd, dOr, dNot, dIf, dUn, dNil, dCons, dTup, dLst, rInD, rNotInD, dNoPart, dPart, dRev, dFld, DL.fieldsOf, dCB, dNext, dSeq, dBreak, dCont, dDrop, dRet, dRetN, dIfS, dNever, dgN, dgNil, dgCons, dgSub, dAsg, dPar, dPar3, putD, dSetF, dMt, rAppendD, rPopD, rExtendD, lsT, lsR, lsF, itemsR, dFrz, dCall, dCallK, dMeth, dMake, dFor, dIL, dIT, dIR1, dIR2, dIE, dIZ, wipeD, dYes, dLc, dDic0, updM_same, cxOf, asBl_bl, asInt_int, asTup_tup, isN, w_test, w_chain, w_andV, w_orV, w_notV, w_neg, w_sub, w_div, w_mod, w_pow, w_shl, w_shr, w_and, w_or, w_xor, w_lt, w_le, w_gt, w_ge, w_add, w_addS, w_addT, w_addL, w_addF, w_addR, w_mul, w_mulL, w_eq, w_ne, w_isN, w_isB, w_isntN, w_isntB, w_ix, w_isi, w_abs, w_max2, w_min2, w_max1L, w_min1L, w_sum, w_all, w_any, w_len, w_int, w_intB, w_divmod, w_sorted, w_list, w_bits, w_sl, w_slL, w_slF, w_slR, w_slT, w_newF, w_newT, w_eqL, w_eqT, w_eqR, w_neL, w_neT, w_neR, w_dgT, w_derL, w_derT, w_derB, w_derI, w_derN, w_derS, w_eqSS, w_eqBB, w_neSS, w_neBB, w_eqBI, w_eqIN, w_neIN, w_eqNI, w_neNI, w_eqNN, w_neNN, w_NN, w_NI, w_IN])
  refine ⟨b, s, a, c, x, y, rfl, hb, ha, hc, hx, hy, fun o ho => ?_⟩
  have hQ := hQ o ho
  cases o with
  | none =>
    simp only [stepsD]
    (try simp only [dLcM, w_isiM, rReverseD, dMinDef, rInDic, rNotInDic, dIRL, dCallC, dCallG, dConsL, dLam, atDs, dCallV, dgU, dSortI, dIItems, dDicM, dDc, dLenSet, itemsD, w_lrg, w_index, w_sortQ, dCut, dDGet, dDGet1, dDGet2, dDPut, dPairs, w_disp, w_newDF, w_newDT, dec_self, List.map_cons, List.map_nil, eqD_bl, eqD_int, eqD_str, eqD_tup, eqD_lst, eqDs_nil, eqDs_nc, eqDs_cn, eqDs_cons, reduceIte, Bool.false_eq_true, Bool.not_true, Bool.not_false, decide_true, decide_false, dVar, atD, setD, startD, dC, dOp, dAnd, dOr, dNot, dIf, dUn, dNil, dCons, dTup, dLst, rInD, rNotInD, dNoPart, dPart, dRev, dFld, DL.fieldsOf, dCB, dNext, dSeq, dBreak, dCont, dDrop, dRet, dRetN, dIfS, dNever, dgN, dgNil, dgCons, dgSub, dAsg, dPar, dPar3, putD, dSetF, dMt, rAppendD, rPopD, rExtendD, lsT, lsR, lsF, itemsR, dFrz, dCall, dCallK, dMeth, dMake, dFor, dIL, dIT, dIR1, dIR2, dIE, dIZ, wipeD, dYes, dLc, dDic0, updM_same, cxOf, asBl_bl, asInt_int, asTup_tup, isN, w_test, w_chain, w_andV, w_orV, w_notV, w_neg, w_sub, w_div, w_mod, w_pow, w_shl, w_shr, w_and, w_or, w_xor, w_lt, w_le, w_gt, w_ge, w_add, w_addS, w_addT, w_addL, w_addF, w_addR, w_mul, w_mulL, w_eq, w_ne, w_isN, w_isB, w_isntN, w_isntB, w_ix, w_isi, w_abs, w_max2, w_min2, w_max1L, w_min1L, w_sum, w_all, w_any, w_len, w_int, w_intB, w_divmod, w_sorted, w_list, w_bits, w_sl, w_slL, w_slF, w_slR, w_slT, w_newF, w_newT, w_eqL, w_eqT, w_eqR, w_neL, w_neT, w_neR, w_dgT, w_derL, w_derT, w_derB, w_derI, w_derN, w_derS, w_eqSS, w_eqBB, w_neSS, w_neBB, w_eqBI, w_eqIN, w_neIN, w_eqNI, w_neNI, w_eqNN, w_neNN, w_NN, w_NI, w_IN])
    exact endD_of hQ
  | some p =>
    simp only [stepsD]
    (try simp only [dLcM, w_isiM, rReverseD, dMinDef, rInDic, rNotInDic, dIRL, dCallC, dCallG, dConsL, dLam, atDs, dCallV, dgU, dSortI, dIItems, dDicM, dDc, dLenSet, itemsD, w_lrg, w_index, w_sortQ, dCut, dDGet, dDGet1, dDGet2, dDPut, dPairs, w_disp, w_newDF, w_newDT, dec_self, List.map_cons, List.map_nil, eqD_bl, eqD_int, eqD_str, eqD_tup, eqD_lst, eqDs_nil, eqDs_nc, eqDs_cn, eqDs_cons, reduceIte, Bool.false_eq_true, Bool.not_true, Bool.not_false, decide_true, decide_false, dVar, atD, setD, startD, dC, dOp, dAnd, dOr, dNot, dIf, dUn, dNil, dCons, dTup, dLst, rInD, rNotInD, dNoPart, dPart, dRev, dFld, DL.fieldsOf, dCB, dNext, dSeq, dBreak, dCont, dDrop, dRet, dRetN, dIfS, dNever, dgN, dgNil, dgCons, dgSub, dAsg, dPar, dPar3, putD, dSetF, dMt, rAppendD, rPopD, rExtendD, lsT, lsR, lsF, itemsR, dFrz, dCall, dCallK, dMeth, dMake, dFor, dIL, dIT, dIR1, dIR2, dIE, dIZ, wipeD, dYes, dLc, dDic0, updM_same, cxOf, asBl_bl, asInt_int, asTup_tup, isN, w_test, w_chain, w_andV, w_orV, w_notV, w_neg, w_sub, w_div, w_mod, w_pow, w_shl, w_shr, w_and, w_or, w_xor, w_lt, w_le, w_gt, w_ge, w_add, w_addS, w_addT, w_addL, w_addF, w_addR, w_mul, w_mulL, w_eq, w_ne, w_isN, w_isB, w_isntN, w_isntB, w_ix, w_isi, w_abs, w_max2, w_min2, w_max1L, w_min1L, w_sum, w_all, w_any, w_len, w_int, w_intB, w_divmod, w_sorted, w_list, w_bits, w_sl, w_slL, w_slF, w_slR, w_slT, w_newF, w_newT, w_eqL, w_eqT, w_eqR, w_neL, w_neT, w_neR, w_dgT, w_derL, w_derT, w_derB, w_derI, w_derN, w_derS, w_eqSS, w_eqBB, w_neSS, w_neBB, w_eqBI, w_eqIN, w_neIN, w_eqNI, w_neNI, w_eqNN, w_neNN, w_NN, w_NI, w_IN])
    exact ⟨_, _, rfl, atI_nat (j := 0) rfl, endD_of hQ⟩
abbrev sp_lows (C : Addr) : SpD := fun ds M Q => ∃ (b : Nat) (s : Bool) (a c x y : Int) (k : Nat), ds = [kindD C b s, genD a c, .int x, .int y, .int (k : Nat)] ∧ Wd b ∧ InK b s a ∧ InK b s c ∧ InK b s x ∧ InK b s y ∧ k ≤ b ∧ ∀ o, StepsOf a c x y k o → Q (stepsD o) M
/-! ### drawn kinds, drawn values -/
abbrev sp_drawk (C : Addr) : SpD := fun ds M Q => ∃ (a : Addr) (m : Nat), ds = [.ref a, .int (m : Nat)] ∧ Src M a ∧ 1 ≤ m ∧ m ≤ 128 ∧ ∀ (b : Nat) (s : Bool) M', Wd b → b ≤ m → SrcTo a M M' → Q (.tup [kindD C b s, .int (lowZ b s), .int (2 ^ b)]) M'
theorem ok__law_draw_kind (T : Txt K mg C_Kind) (F_Kind_init : ClD P w K mg base 3 "Kind" C_Kind s_Kind_init ["self", "bits", "is_signed"] (sp_init C_Kind)) (F__law_next : FnD P w K mg base 1 "_law_next" s__law_next ["_law_source", "_law_many"] (sp_next)) : FnD P w K mg base 5 "_law_draw_kind" s__law_draw_kind ["_law_source", "_law_most"] (sp_drawk C_Kind) := by
  refine fn_mk T.h__law_draw_kind sc__law_draw_kind 5 rfl (by intro ds M Q h; first | (obtain ⟨rfl, _⟩ := h; rfl) | (obtain ⟨_, rfl, _⟩ := h; rfl) | (obtain ⟨_, _, rfl, _⟩ := h; rfl) | (obtain ⟨_, _, _, rfl, _⟩ := h; rfl) | (obtain ⟨_, _, _, _, rfl, _⟩ := h; rfl) | (obtain ⟨_, _, _, _, _, rfl, _⟩ := h; rfl) | (obtain ⟨_, _, _, _, _, _, rfl, _⟩ := h; rfl) | (obtain ⟨_, _, _, _, _, _, _, rfl, _⟩ := h; rfl) | (obtain ⟨_, _, _, _, _, _, _, _, rfl, _⟩ := h; rfl) | (obtain ⟨_, _, _, _, _, _, _, _, _, rfl, _⟩ := h; rfl) | (obtain ⟨_, _, _, _, _, _, _, _, _, _, rfl, _⟩ := h; rfl) | (obtain ⟨_, _, _, _, _, _, _, _, _, _, _, rfl, _⟩ := h; rfl) | (obtain ⟨_, _, _, _, _, _, _, _, _, _, _, _, rfl, _⟩ := h; rfl)) (fun f cdv A outer s H E hr => ⟨_, (dss_cons (ds_par (i := 2) (j := 3) sc__law_draw_kind.nd (da_cons (de_op (od_add false) de_int (de_call F__law_next hr (da_cons (dv 0) (da_cons (dv 1) da_nil)))) (da_cons (de_cmp (od_eq hr.units) (de_call F__law_next hr (da_cons (dv 0) (da_cons de_int da_nil))) de_int) da_nil)))
    (dss_cons (ds_set (i := 4) sc__law_draw_kind.nd (de_op od_shl de_int (dv 2)))
    (dss_one (ds_ret (de_tup (da_cons (de_make false F_Kind_init hr (da_cons (dv 2) (da_cons (dv 3) da_nil))) (da_cons (de_cut (de_if (dt_val (dv 3)) (de_op od_sub de_int (de_op od_div (dv 4) de_int)) de_int)) (da_cons (dv 4) da_nil)))))))), ?_⟩)
  rintro ds M Q ⟨a, m, rfl, hM, h1, h2, hQ⟩
  (try simp only [dLcM, w_isiM, rReverseD, dMinDef, rInDic, rNotInDic, dIRL, dCallC, dCallG, dConsL, dLam, atDs, dCallV, dgU, dSortI, dIItems, dDicM, dDc, dLenSet, itemsD, w_lrg, w_index, w_sortQ, dCut, dDGet, dDGet1, dDGet2, dDPut, dPairs, w_disp, w_newDF, w_newDT, dec_self, List.map_cons, List.map_nil, eqD_bl, eqD_int, eqD_str, eqD_tup, eqD_lst, eqDs_nil, eqDs_nc, eqDs_cn, eqDs_cons, reduceIte, Bool.false_eq_true, Bool.not_true, Bool.not_false, decide_true, decide_false, dVar, atD, setD, startD, dC, dOp, dAnd, dOr, dNot, dIf, dUn, dNil, dCons, dTup, dLst, rInD, rNotInD, dNoPart, dPart, dRev, dFld, DL.fieldsOf, dCB, dNext, dSeq, dBreak, dCont, dDrop, dRet, dRetN, dIfS, dNever, dgN, dgNil, dgCons, dgSub, dAsg, dPar, dPar3, putD, dSetF, dMt, rAppendD, rPopD, rExtendD, lsT, lsR, lsF, itemsR, dFrz, dCall, dCallK, dMeth, dMake, dFor, dIL, dIT, dIR1, dIR2, dIE, dIZ, wipeD, dYes, dLc, dDic0, updM_same, cxOf, asBl_bl, asInt_int, asTup_tup, isN, w_test, w_chain, w_andV, w_orV, w_notV, w_neg, w_sub, w_div, w_mod, w_pow, w_shl, w_shr, w_and, w_or, w_xor, w_lt, w_le, w_gt, w_ge, w_add, w_addS, w_addT, w_addL, w_addF, w_addR, w_mul, w_mulL, w_eq, w_ne, w_isN, w_isB, w_isntN, w_isntB, w_ix, w_isi, w_abs, w_max2, w_min2, w_max1L, w_min1L, w_sum, w_all, w_any, w_len, w_int, w_intB, w_divmod, w_sorted, w_list, w_bits, w_sl, w_slL, w_slF, w_slR, w_slT, w_newF, w_newT, w_eqL, w_eqT, w_eqR, w_neL, w_neT, w_neR, w_dgT, w_derL, w_derT, w_derB, w_derI, w_derN, w_derS, w_eqSS, w_eqBB, w_neSS, w_neBB, w_eqBI, w_eqIN, w_neIN, w_eqNI, w_neNI, w_eqNN, w_neNN, w_NN, w_NI, w_IN])
  refine ⟨a, m, rfl, hM, by omega, Int.lt_trans (show (m : Int) < 200 by omega) (by decide +kernel), fun u M1 u0 u1 hs1 => ?_⟩
  (try simp only [dLcM, w_isiM, rReverseD, dMinDef, rInDic, rNotInDic, dIRL, dCallC, dCallG, dConsL, dLam, atDs, dCallV, dgU, dSortI, dIItems, dDicM, dDc, dLenSet, itemsD, w_lrg, w_index, w_sortQ, dCut, dDGet, dDGet1, dDGet2, dDPut, dPairs, w_disp, w_newDF, w_newDT, dec_self, List.map_cons, List.map_nil, eqD_bl, eqD_int, eqD_str, eqD_tup, eqD_lst, eqDs_nil, eqDs_nc, eqDs_cn, eqDs_cons, reduceIte, Bool.false_eq_true, Bool.not_true, Bool.not_false, decide_true, decide_false, dVar, atD, setD, startD, dC, dOp, dAnd, dOr, dNot, dIf, dUn, dNil, dCons, dTup, dLst, rInD, rNotInD, dNoPart, dPart, dRev, dFld, DL.fieldsOf, dCB, dNext, dSeq, dBreak, dCont, dDrop, dRet, dRetN, dIfS, dNever, dgN, dgNil, dgCons, dgSub, dAsg, dPar, dPar3, putD, dSetF, dMt, rAppendD, rPopD, rExtendD, lsT, lsR, lsF, itemsR, dFrz, dCall, dCallK, dMeth, dMake, dFor, dIL, dIT, dIR1, dIR2, dIE, dIZ, wipeD, dYes, dLc, dDic0, updM_same, cxOf, asBl_bl, asInt_int, asTup_tup, isN, w_test, w_chain, w_andV, w_orV, w_notV, w_neg, w_sub, w_div, w_mod, w_pow, w_shl, w_shr, w_and, w_or, w_xor, w_lt, w_le, w_gt, w_ge, w_add, w_addS, w_addT, w_addL, w_addF, w_addR, w_mul, w_mulL, w_eq, w_ne, w_isN, w_isB, w_isntN, w_isntB, w_ix, w_isi, w_abs, w_max2, w_min2, w_max1L, w_min1L, w_sum, w_all, w_any, w_len, w_int, w_intB, w_divmod, w_sorted, w_list, w_bits, w_sl, w_slL, w_slF, w_slR, w_slT, w_newF, w_newT, w_eqL, w_eqT, w_eqR, w_neL, w_neT, w_neR, w_dgT, w_derL, w_derT, w_derB, w_derI, w_derN, w_derS, w_eqSS, w_eqBB, w_neSS, w_neBB, w_eqBI, w_eqIN, w_neIN, w_eqNI, w_neNI, w_eqNN, w_neNN, w_NN, w_NI, w_IN])
  obtain ⟨b, hbu, hbm, hb⟩ : ∃ b : Nat, 1 + u = (b : Nat) ∧ b ≤ m ∧ Wd b := ⟨(1 + u).toNat, by omega, by omega, by show 1 ≤ (1 + u).toNat; omega, by show (1 + u).toNat ≤ 128; omega⟩
  rw [hbu]
  refine ⟨a, 2, rfl, hs1.src, by decide, by decide +kernel, fun v M2 v0 v1 hs2 => ?_⟩
  (try simp only [dLcM, w_isiM, rReverseD, dMinDef, rInDic, rNotInDic, dIRL, dCallC, dCallG, dConsL, dLam, atDs, dCallV, dgU, dSortI, dIItems, dDicM, dDc, dLenSet, itemsD, w_lrg, w_index, w_sortQ, dCut, dDGet, dDGet1, dDGet2, dDPut, dPairs, w_disp, w_newDF, w_newDT, dec_self, List.map_cons, List.map_nil, eqD_bl, eqD_int, eqD_str, eqD_tup, eqD_lst, eqDs_nil, eqDs_nc, eqDs_cn, eqDs_cons, reduceIte, Bool.false_eq_true, Bool.not_true, Bool.not_false, decide_true, decide_false, dVar, atD, setD, startD, dC, dOp, dAnd, dOr, dNot, dIf, dUn, dNil, dCons, dTup, dLst, rInD, rNotInD, dNoPart, dPart, dRev, dFld, DL.fieldsOf, dCB, dNext, dSeq, dBreak, dCont, dDrop, dRet, dRetN, dIfS, dNever, dgN, dgNil, dgCons, dgSub, dAsg, dPar, dPar3, putD, dSetF, dMt, rAppendD, rPopD, rExtendD, lsT, lsR, lsF, itemsR, dFrz, dCall, dCallK, dMeth, dMake, dFor, dIL, dIT, dIR1, dIR2, dIE, dIZ, wipeD, dYes, dLc, dDic0, updM_same, cxOf, asBl_bl, asInt_int, asTup_tup, isN, w_test, w_chain, w_andV, w_orV, w_notV, w_neg, w_sub, w_div, w_mod, w_pow, w_shl, w_shr, w_and, w_or, w_xor, w_lt, w_le, w_gt, w_ge, w_add, w_addS, w_addT, w_addL, w_addF, w_addR, w_mul, w_mulL, w_eq, w_ne, w_isN, w_isB, w_isntN, w_isntB, w_ix, w_isi, w_abs, w_max2, w_min2, w_max1L, w_min1L, w_sum, w_all, w_any, w_len, w_int, w_intB, w_divmod, w_sorted, w_list, w_bits, w_sl, w_slL, w_slF, w_slR, w_slT, w_newF, w_newT, w_eqL, w_eqT, w_eqR, w_neL, w_neT, w_neR, w_dgT, w_derL, w_derT, w_derB, w_derI, w_derN, w_derS, w_eqSS, w_eqBB, w_neSS, w_neBB, w_eqBI, w_eqIN, w_neIN, w_eqNI, w_neNI, w_eqNN, w_neNN, w_NN, w_NI, w_IN])
  generalize decide (v = 0) = s
  refine ⟨shl1 (by omega) (by omega), fun p hp => ⟨p, b, s, rfl, hb, updM_same, rfl, _, by rw [updM_updM]; exact updM_same, ?_⟩⟩
  rw [updM_updM, delM_updM hp, Int.toNat_natCast, Int.one_mul]
  refine cutE_is (.int (lowZ b s)) ?_ ?_
  · (try simp only [dLcM, w_isiM, rReverseD, dMinDef, rInDic, rNotInDic, dIRL, dCallC, dCallG, dConsL, dLam, atDs, dCallV, dgU, dSortI, dIItems, dDicM, dDc, dLenSet, itemsD, w_lrg, w_index, w_sortQ, dCut, dDGet, dDGet1, dDGet2, dDPut, dPairs, w_disp, w_newDF, w_newDT, dec_self, List.map_cons, List.map_nil, eqD_bl, eqD_int, eqD_str, eqD_tup, eqD_lst, eqDs_nil, eqDs_nc, eqDs_cn, eqDs_cons, reduceIte, Bool.false_eq_true, Bool.not_true, Bool.not_false, decide_true, decide_false, dVar, atD, setD, startD, dC, dOp, dAnd, dOr, dNot, dIf, dUn, dNil, dCons, dTup, dLst, rInD, rNotInD, dNoPart, dPart, dRev, dFld, DL.fieldsOf, dCB, dNext, dSeq, dBreak, dCont, dDrop, dRet, dRetN, dIfS, dNever, dgN, dgNil, dgCons, dgSub, dAsg, dPar, dPar3, putD, dSetF, dMt, rAppendD, rPopD, rExtendD, lsT, lsR, lsF, itemsR, dFrz, dCall, dCallK, dMeth, dMake, dFor, dIL, dIT, dIR1, dIR2, dIE, dIZ, wipeD, dYes, dLc, dDic0, updM_same, cxOf, asBl_bl, asInt_int, asTup_tup, isN, w_test, w_chain, w_andV, w_orV, w_notV, w_neg, w_sub, w_div, w_mod, w_pow, w_shl, w_shr, w_and, w_or, w_xor, w_lt, w_le, w_gt, w_ge, w_add, w_addS, w_addT, w_addL, w_addF, w_addR, w_mul, w_mulL, w_eq, w_ne, w_isN, w_isB, w_isntN, w_isntB, w_ix, w_isi, w_abs, w_max2, w_min2, w_max1L, w_min1L, w_sum, w_all, w_any, w_len, w_int, w_intB, w_divmod, w_sorted, w_list, w_bits, w_sl, w_slL, w_slF, w_slR, w_slT, w_newF, w_newT, w_eqL, w_eqT, w_eqR, w_neL, w_neT, w_neR, w_dgT, w_derL, w_derT, w_derB, w_derI, w_derN, w_derS, w_eqSS, w_eqBB, w_neSS, w_neBB, w_eqBI, w_eqIN, w_neIN, w_eqNI, w_neNI, w_eqNN, w_neNN, w_NN, w_NI, w_IN])
    cases s with
    | true =>
      (try simp only [dLcM, w_isiM, rReverseD, dMinDef, rInDic, rNotInDic, dIRL, dCallC, dCallG, dConsL, dLam, atDs, dCallV, dgU, dSortI, dIItems, dDicM, dDc, dLenSet, itemsD, w_lrg, w_index, w_sortQ, dCut, dDGet, dDGet1, dDGet2, dDPut, dPairs, w_disp, w_newDF, w_newDT, dec_self, List.map_cons, List.map_nil, eqD_bl, eqD_int, eqD_str, eqD_tup, eqD_lst, eqDs_nil, eqDs_nc, eqDs_cn, eqDs_cons, reduceIte, Bool.false_eq_true, Bool.not_true, Bool.not_false, decide_true, decide_false, dVar, atD, setD, startD, dC, dOp, dAnd, dOr, dNot, dIf, dUn, dNil, dCons, dTup, dLst, rInD, rNotInD, dNoPart, dPart, dRev, dFld, DL.fieldsOf, dCB, dNext, dSeq, dBreak, dCont, dDrop, dRet, dRetN, dIfS, dNever, dgN, dgNil, dgCons, dgSub, dAsg, dPar, dPar3, putD, dSetF, dMt, rAppendD, rPopD, rExtendD, lsT, lsR, lsF, itemsR, dFrz, dCall, dCallK, dMeth, dMake, dFor, dIL, dIT, dIR1, dIR2, dIE, dIZ, wipeD, dYes, dLc, dDic0, updM_same, cxOf, asBl_bl, asInt_int, asTup_tup, isN, w_test, w_chain, w_andV, w_orV, w_notV, w_neg, w_sub, w_div, w_mod, w_pow, w_shl, w_shr, w_and, w_or, w_xor, w_lt, w_le, w_gt, w_ge, w_add, w_addS, w_addT, w_addL, w_addF, w_addR, w_mul, w_mulL, w_eq, w_ne, w_isN, w_isB, w_isntN, w_isntB, w_ix, w_isi, w_abs, w_max2, w_min2, w_max1L, w_min1L, w_sum, w_all, w_any, w_len, w_int, w_intB, w_divmod, w_sorted, w_list, w_bits, w_sl, w_slL, w_slF, w_slR, w_slT, w_newF, w_newT, w_eqL, w_eqT, w_eqR, w_neL, w_neT, w_neR, w_dgT, w_derL, w_derT, w_derB, w_derI, w_derN, w_derS, w_eqSS, w_eqBB, w_neSS, w_neBB, w_eqBI, w_eqIN, w_neIN, w_eqNI, w_neNI, w_eqNN, w_neNN, w_NN, w_NI, w_IN])
      refine ⟨divOk_b (by decide) (by decide +kernel), ?_, trivial⟩
      rw [fdivP (by decide), two_succ hb.1, Int.mul_ediv_cancel_left _ (by decide)]
      simp [lowZ]
    | false => exact ⟨rfl, trivial⟩
  exact ⟨lit_len (n := 3) (by decide), endD_of (hQ b s _ hb hbm (hs1.trans hs2))⟩
abbrev sp_value : SpD := fun ds M Q => ∃ (a : Addr) (lo sz : Int), ds = [.ref a, .int lo, .int sz] ∧ Src M a ∧ 0 < sz ∧ sz < 2 ^ 9000 ∧ ∀ (x : Int) M', lo ≤ x → x < lo + sz → SrcTo a M M' → Q (.int x) M'
theorem ok__law_value (T : Txt K mg C_Kind) (F__law_one : FnD P w K mg base 2 "_law_one" s__law_one ["_law_source", "_law_some"] (sp_one)) (F__law_wide : FnD P w K mg base 2 "_law_wide" s__law_wide ["_law_source", "_law_m"] (sp_wide)) (F__law_next : FnD P w K mg base 1 "_law_next" s__law_next ["_law_source", "_law_many"] (sp_next)) : FnD P w K mg base 3 "_law_value" s__law_value ["_law_source", "_law_low", "_law_size"] (sp_value) := by
  refine fn_mk T.h__law_value sc__law_value 5 rfl (by intro ds M Q h; first | (obtain ⟨rfl, _⟩ := h; rfl) | (obtain ⟨_, rfl, _⟩ := h; rfl) | (obtain ⟨_, _, rfl, _⟩ := h; rfl) | (obtain ⟨_, _, _, rfl, _⟩ := h; rfl) | (obtain ⟨_, _, _, _, rfl, _⟩ := h; rfl) | (obtain ⟨_, _, _, _, _, rfl, _⟩ := h; rfl) | (obtain ⟨_, _, _, _, _, _, rfl, _⟩ := h; rfl) | (obtain ⟨_, _, _, _, _, _, _, rfl, _⟩ := h; rfl) | (obtain ⟨_, _, _, _, _, _, _, _, rfl, _⟩ := h; rfl) | (obtain ⟨_, _, _, _, _, _, _, _, _, rfl, _⟩ := h; rfl) | (obtain ⟨_, _, _, _, _, _, _, _, _, _, rfl, _⟩ := h; rfl) | (obtain ⟨_, _, _, _, _, _, _, _, _, _, _, rfl, _⟩ := h; rfl) | (obtain ⟨_, _, _, _, _, _, _, _, _, _, _, _, rfl, _⟩ := h; rfl)) (fun f cdv A outer s H E hr => ⟨_, (dss_cons (ds_set (i := 3) sc__law_value.nd (de_call F__law_one hr (da_cons (dv 0) (da_cons (de_lst false (da_cons (dv 1) (da_cons (de_op od_sub (de_op (od_add false) (dv 1) (dv 2)) de_int) (da_cons de_int (da_cons de_int (da_cons (de_neg de_int) (da_cons (de_op (od_add false) (dv 1) de_int) (da_cons (de_op od_sub (de_op (od_add false) (dv 1) (dv 2)) de_int) da_nil)))))))) da_nil))))
    (dss_cons (ds_set (i := 4) sc__law_value.nd (de_op (od_add false) (dv 1) (de_call F__law_wide hr (da_cons (dv 0) (da_cons (dv 2) da_nil)))))
    (dss_one (ds_ret (de_if (dt_cut (dt_w (dw_and (dt_chain od_le od_lt (dv 1) (dv 3) (de_op (od_add false) (dv 1) (dv 2))) (dw_and1 (dt_cmp (od_eq hr.units) (de_call F__law_next hr (da_cons (dv 0) (da_cons de_int da_nil))) de_int))))) (dv 3) (dv 4)))))), ?_⟩)
  rintro ds M Q ⟨a, lo, sz, rfl, hM, h1, h2, hQ⟩
  (try simp only [dLcM, w_isiM, rReverseD, dMinDef, rInDic, rNotInDic, dIRL, dCallC, dCallG, dConsL, dLam, atDs, dCallV, dgU, dSortI, dIItems, dDicM, dDc, dLenSet, itemsD, w_lrg, w_index, w_sortQ, dCut, dDGet, dDGet1, dDGet2, dDPut, dPairs, w_disp, w_newDF, w_newDT, dec_self, List.map_cons, List.map_nil, eqD_bl, eqD_int, eqD_str, eqD_tup, eqD_lst, eqDs_nil, eqDs_nc, eqDs_cn, eqDs_cons, reduceIte, Bool.false_eq_true, Bool.not_true, Bool.not_false, decide_true, decide_false, dVar, atD, setD, startD, dC, dOp, dAnd, dOr, dNot, dIf, dUn, dNil, dCons, dTup, dLst, rInD, rNotInD, dNoPart, dPart, dRev, dFld, DL.fieldsOf, dCB, dNext, dSeq, dBreak, dCont, dDrop, dRet, dRetN, dIfS, dNever, dgN, dgNil, dgCons, dgSub, dAsg, dPar, dPar3, putD, dSetF, dMt, rAppendD, rPopD, rExtendD, lsT, lsR, lsF, itemsR, dFrz, dCall, dCallK, dMeth, dMake, dFor, dIL, dIT, dIR1, dIR2, dIE, dIZ, wipeD, dYes, dLc, dDic0, updM_same, cxOf, asBl_bl, asInt_int, asTup_tup, isN, w_test, w_chain, w_andV, w_orV, w_notV, w_neg, w_sub, w_div, w_mod, w_pow, w_shl, w_shr, w_and, w_or, w_xor, w_lt, w_le, w_gt, w_ge, w_add, w_addS, w_addT, w_addL, w_addF, w_addR, w_mul, w_mulL, w_eq, w_ne, w_isN, w_isB, w_isntN, w_isntB, w_ix, w_isi, w_abs, w_max2, w_min2, w_max1L, w_min1L, w_sum, w_all, w_any, w_len, w_int, w_intB, w_divmod, w_sorted, w_list, w_bits, w_sl, w_slL, w_slF, w_slR, w_slT, w_newF, w_newT, w_eqL, w_eqT, w_eqR, w_neL, w_neT, w_neR, w_dgT, w_derL, w_derT, w_derB, w_derI, w_derN, w_derS, w_eqSS, w_eqBB, w_neSS, w_neBB, w_eqBI, w_eqIN, w_neIN, w_eqNI, w_neNI, w_eqNN, w_neNN, w_NN, w_NI, w_IN])
  refine ⟨lit_len (n := 7) (by decide), a, _, rfl, hM, (by decide : 0 < 7), (by decide : 7 < 1000), fun d M1 hd hs1 => ?_⟩
  have hd2 : ∃ n : Int, d = .int n := by
    simp only [List.mem_cons, List.not_mem_nil, or_false] at hd
    rcases hd with rfl | rfl | rfl | rfl | rfl | rfl | rfl <;> exact ⟨_, rfl⟩
  obtain ⟨n, rfl⟩ := hd2
  refine ⟨a, sz, rfl, hs1.src, h1, h2, fun f M2 f0 f1 hs2 => ?_⟩
  (try simp only [dLcM, w_isiM, rReverseD, dMinDef, rInDic, rNotInDic, dIRL, dCallC, dCallG, dConsL, dLam, atDs, dCallV, dgU, dSortI, dIItems, dDicM, dDc, dLenSet, itemsD, w_lrg, w_index, w_sortQ, dCut, dDGet, dDGet1, dDGet2, dDPut, dPairs, w_disp, w_newDF, w_newDT, dec_self, List.map_cons, List.map_nil, eqD_bl, eqD_int, eqD_str, eqD_tup, eqD_lst, eqDs_nil, eqDs_nc, eqDs_cn, eqDs_cons, reduceIte, Bool.false_eq_true, Bool.not_true, Bool.not_false, decide_true, decide_false, dVar, atD, setD, startD, dC, dOp, dAnd, dOr, dNot, dIf, dUn, dNil, dCons, dTup, dLst, rInD, rNotInD, dNoPart, dPart, dRev, dFld, DL.fieldsOf, dCB, dNext, dSeq, dBreak, dCont, dDrop, dRet, dRetN, dIfS, dNever, dgN, dgNil, dgCons, dgSub, dAsg, dPar, dPar3, putD, dSetF, dMt, rAppendD, rPopD, rExtendD, lsT, lsR, lsF, itemsR, dFrz, dCall, dCallK, dMeth, dMake, dFor, dIL, dIT, dIR1, dIR2, dIE, dIZ, wipeD, dYes, dLc, dDic0, updM_same, cxOf, asBl_bl, asInt_int, asTup_tup, isN, w_test, w_chain, w_andV, w_orV, w_notV, w_neg, w_sub, w_div, w_mod, w_pow, w_shl, w_shr, w_and, w_or, w_xor, w_lt, w_le, w_gt, w_ge, w_add, w_addS, w_addT, w_addL, w_addF, w_addR, w_mul, w_mulL, w_eq, w_ne, w_isN, w_isB, w_isntN, w_isntB, w_ix, w_isi, w_abs, w_max2, w_min2, w_max1L, w_min1L, w_sum, w_all, w_any, w_len, w_int, w_intB, w_divmod, w_sorted, w_list, w_bits, w_sl, w_slL, w_slF, w_slR, w_slT, w_newF, w_newT, w_eqL, w_eqT, w_eqR, w_neL, w_neT, w_neR, w_dgT, w_derL, w_derT, w_derB, w_derI, w_derN, w_derS, w_eqSS, w_eqBB, w_neSS, w_neBB, w_eqBI, w_eqIN, w_neIN, w_eqNI, w_neNI, w_eqNN, w_neNN, w_NN, w_NI, w_IN])
  have hs := hs1.trans hs2
  refine ⟨fun v M' => (v = true → lo ≤ n ∧ n < lo + sz) ∧ SrcTo a M M', ?_, ?_⟩
  · (try simp only [dLcM, w_isiM, rReverseD, dMinDef, rInDic, rNotInDic, dIRL, dCallC, dCallG, dConsL, dLam, atDs, dCallV, dgU, dSortI, dIItems, dDicM, dDc, dLenSet, itemsD, w_lrg, w_index, w_sortQ, dCut, dDGet, dDGet1, dDGet2, dDPut, dPairs, w_disp, w_newDF, w_newDT, dec_self, List.map_cons, List.map_nil, eqD_bl, eqD_int, eqD_str, eqD_tup, eqD_lst, eqDs_nil, eqDs_nc, eqDs_cn, eqDs_cons, reduceIte, Bool.false_eq_true, Bool.not_true, Bool.not_false, decide_true, decide_false, dVar, atD, setD, startD, dC, dOp, dAnd, dOr, dNot, dIf, dUn, dNil, dCons, dTup, dLst, rInD, rNotInD, dNoPart, dPart, dRev, dFld, DL.fieldsOf, dCB, dNext, dSeq, dBreak, dCont, dDrop, dRet, dRetN, dIfS, dNever, dgN, dgNil, dgCons, dgSub, dAsg, dPar, dPar3, putD, dSetF, dMt, rAppendD, rPopD, rExtendD, lsT, lsR, lsF, itemsR, dFrz, dCall, dCallK, dMeth, dMake, dFor, dIL, dIT, dIR1, dIR2, dIE, dIZ, wipeD, dYes, dLc, dDic0, updM_same, cxOf, asBl_bl, asInt_int, asTup_tup, isN, w_test, w_chain, w_andV, w_orV, w_notV, w_neg, w_sub, w_div, w_mod, w_pow, w_shl, w_shr, w_and, w_or, w_xor, w_lt, w_le, w_gt, w_ge, w_add, w_addS, w_addT, w_addL, w_addF, w_addR, w_mul, w_mulL, w_eq, w_ne, w_isN, w_isB, w_isntN, w_isntB, w_ix, w_isi, w_abs, w_max2, w_min2, w_max1L, w_min1L, w_sum, w_all, w_any, w_len, w_int, w_intB, w_divmod, w_sorted, w_list, w_bits, w_sl, w_slL, w_slF, w_slR, w_slT, w_newF, w_newT, w_eqL, w_eqT, w_eqR, w_neL, w_neT, w_neR, w_dgT, w_derL, w_derT, w_derB, w_derI, w_derN, w_derS, w_eqSS, w_eqBB, w_neSS, w_neBB, w_eqBI, w_eqIN, w_neIN, w_eqNI, w_neNI, w_eqNN, w_neNN, w_NN, w_NI, w_IN])
    by_cases g : lo ≤ n
    · refine if_yes (decide_eq_true g) ?_
      by_cases g2 : n < lo + sz
      · refine if_yes (decide_eq_true g2) ⟨a, 3, rfl, hs.src, by decide, by decide +kernel, fun v M3 v0 v1 hs3 => ?_⟩
        (try simp only [dLcM, w_isiM, rReverseD, dMinDef, rInDic, rNotInDic, dIRL, dCallC, dCallG, dConsL, dLam, atDs, dCallV, dgU, dSortI, dIItems, dDicM, dDc, dLenSet, itemsD, w_lrg, w_index, w_sortQ, dCut, dDGet, dDGet1, dDGet2, dDPut, dPairs, w_disp, w_newDF, w_newDT, dec_self, List.map_cons, List.map_nil, eqD_bl, eqD_int, eqD_str, eqD_tup, eqD_lst, eqDs_nil, eqDs_nc, eqDs_cn, eqDs_cons, reduceIte, Bool.false_eq_true, Bool.not_true, Bool.not_false, decide_true, decide_false, dVar, atD, setD, startD, dC, dOp, dAnd, dOr, dNot, dIf, dUn, dNil, dCons, dTup, dLst, rInD, rNotInD, dNoPart, dPart, dRev, dFld, DL.fieldsOf, dCB, dNext, dSeq, dBreak, dCont, dDrop, dRet, dRetN, dIfS, dNever, dgN, dgNil, dgCons, dgSub, dAsg, dPar, dPar3, putD, dSetF, dMt, rAppendD, rPopD, rExtendD, lsT, lsR, lsF, itemsR, dFrz, dCall, dCallK, dMeth, dMake, dFor, dIL, dIT, dIR1, dIR2, dIE, dIZ, wipeD, dYes, dLc, dDic0, updM_same, cxOf, asBl_bl, asInt_int, asTup_tup, isN, w_test, w_chain, w_andV, w_orV, w_notV, w_neg, w_sub, w_div, w_mod, w_pow, w_shl, w_shr, w_and, w_or, w_xor, w_lt, w_le, w_gt, w_ge, w_add, w_addS, w_addT, w_addL, w_addF, w_addR, w_mul, w_mulL, w_eq, w_ne, w_isN, w_isB, w_isntN, w_isntB, w_ix, w_isi, w_abs, w_max2, w_min2, w_max1L, w_min1L, w_sum, w_all, w_any, w_len, w_int, w_intB, w_divmod, w_sorted, w_list, w_bits, w_sl, w_slL, w_slF, w_slR, w_slT, w_newF, w_newT, w_eqL, w_eqT, w_eqR, w_neL, w_neT, w_neR, w_dgT, w_derL, w_derT, w_derB, w_derI, w_derN, w_derS, w_eqSS, w_eqBB, w_neSS, w_neBB, w_eqBI, w_eqIN, w_neIN, w_eqNI, w_neNI, w_eqNN, w_neNN, w_NN, w_NI, w_IN])
        exact ⟨fun _ => ⟨g, g2⟩, hs.trans hs3⟩
      · refine if_no (decide_eq_false g2) ⟨fun q => ?_, hs⟩
        cases q
    · refine if_no (decide_eq_false g) ⟨fun q => ?_, hs⟩
      cases q
  rintro v M' ⟨hv, hs⟩
  cases v with
  | true => exact endD_of (hQ _ _ (hv rfl).1 (hv rfl).2 hs)
  | false => exact endD_of (hQ _ _ (by omega) (by omega) hs)
abbrev sp_put : SpD := fun ds M Q => ∃ (n lo sz : Int), ds = [.int n, .int lo, .int sz] ∧ 0 < sz ∧ Q (.int (lo + (n - lo) % sz)) M
theorem ok__law_put (T : Txt K mg C_Kind) : FnD P w K mg base 1 "_law_put" s__law_put ["_law_n", "_law_low", "_law_size"] (sp_put) := by
  refine fn_mk T.h__law_put sc__law_put 3 rfl (by intro ds M Q h; first | (obtain ⟨rfl, _⟩ := h; rfl) | (obtain ⟨_, rfl, _⟩ := h; rfl) | (obtain ⟨_, _, rfl, _⟩ := h; rfl) | (obtain ⟨_, _, _, rfl, _⟩ := h; rfl) | (obtain ⟨_, _, _, _, rfl, _⟩ := h; rfl) | (obtain ⟨_, _, _, _, _, rfl, _⟩ := h; rfl) | (obtain ⟨_, _, _, _, _, _, rfl, _⟩ := h; rfl) | (obtain ⟨_, _, _, _, _, _, _, rfl, _⟩ := h; rfl) | (obtain ⟨_, _, _, _, _, _, _, _, rfl, _⟩ := h; rfl) | (obtain ⟨_, _, _, _, _, _, _, _, _, rfl, _⟩ := h; rfl) | (obtain ⟨_, _, _, _, _, _, _, _, _, _, rfl, _⟩ := h; rfl) | (obtain ⟨_, _, _, _, _, _, _, _, _, _, _, rfl, _⟩ := h; rfl) | (obtain ⟨_, _, _, _, _, _, _, _, _, _, _, _, rfl, _⟩ := h; rfl)) (fun f cdv A outer s H E hr => ⟨_, (dss_one (ds_ret (de_op (od_add false) (dv 1) (de_op od_mod (de_ct cd_int (by rfl) T.b_int (by decide +kernel) (da_cons (de_op od_sub (dv 0) (dv 1)) da_nil)) (dv 2))))), ?_⟩)
  rintro ds M Q ⟨n, lo, sz, rfl, h1, hQ⟩
  (try simp only [dLcM, w_isiM, rReverseD, dMinDef, rInDic, rNotInDic, dIRL, dCallC, dCallG, dConsL, dLam, atDs, dCallV, dgU, dSortI, dIItems, dDicM, dDc, dLenSet, itemsD, w_lrg, w_index, w_sortQ, dCut, dDGet, dDGet1, dDGet2, dDPut, dPairs, w_disp, w_newDF, w_newDT, dec_self, List.map_cons, List.map_nil, eqD_bl, eqD_int, eqD_str, eqD_tup, eqD_lst, eqDs_nil, eqDs_nc, eqDs_cn, eqDs_cons, reduceIte, Bool.false_eq_true, Bool.not_true, Bool.not_false, decide_true, decide_false, dVar, atD, setD, startD, dC, dOp, dAnd, dOr, dNot, dIf, dUn, dNil, dCons, dTup, dLst, rInD, rNotInD, dNoPart, dPart, dRev, dFld, DL.fieldsOf, dCB, dNext, dSeq, dBreak, dCont, dDrop, dRet, dRetN, dIfS, dNever, dgN, dgNil, dgCons, dgSub, dAsg, dPar, dPar3, putD, dSetF, dMt, rAppendD, rPopD, rExtendD, lsT, lsR, lsF, itemsR, dFrz, dCall, dCallK, dMeth, dMake, dFor, dIL, dIT, dIR1, dIR2, dIE, dIZ, wipeD, dYes, dLc, dDic0, updM_same, cxOf, asBl_bl, asInt_int, asTup_tup, isN, w_test, w_chain, w_andV, w_orV, w_notV, w_neg, w_sub, w_div, w_mod, w_pow, w_shl, w_shr, w_and, w_or, w_xor, w_lt, w_le, w_gt, w_ge, w_add, w_addS, w_addT, w_addL, w_addF, w_addR, w_mul, w_mulL, w_eq, w_ne, w_isN, w_isB, w_isntN, w_isntB, w_ix, w_isi, w_abs, w_max2, w_min2, w_max1L, w_min1L, w_sum, w_all, w_any, w_len, w_int, w_intB, w_divmod, w_sorted, w_list, w_bits, w_sl, w_slL, w_slF, w_slR, w_slT, w_newF, w_newT, w_eqL, w_eqT, w_eqR, w_neL, w_neT, w_neR, w_dgT, w_derL, w_derT, w_derB, w_derI, w_derN, w_derS, w_eqSS, w_eqBB, w_neSS, w_neBB, w_eqBI, w_eqIN, w_neIN, w_eqNI, w_neNI, w_eqNN, w_neNN, w_NN, w_NI, w_IN])
  rw [fmodP h1]
  exact ⟨by omega, endD_of hQ⟩
/-! ### drawn generators -/
abbrev sp_pair : SpD := fun ds M Q => ∃ (src : Addr) (b : Nat) (s : Bool), ds = [.ref src, .int (lowZ b s), .int (2 ^ b)] ∧ Src M src ∧ Wd b ∧ ∀ (a c : Int) M', InK b s a → InK b s c → SrcTo src M M' → Q (genD a c) M'
theorem ok__law_draw_pair (T : Txt K mg C_Kind) (F__law_next : FnD P w K mg base 1 "_law_next" s__law_next ["_law_source", "_law_many"] (sp_next)) (F__law_put : FnD P w K mg base 1 "_law_put" s__law_put ["_law_n", "_law_low", "_law_size"] (sp_put)) (F__law_one : FnD P w K mg base 2 "_law_one" s__law_one ["_law_source", "_law_some"] (sp_one)) (F__law_value : FnD P w K mg base 3 "_law_value" s__law_value ["_law_source", "_law_low", "_law_size"] (sp_value)) : FnD P w K mg base 4 "_law_draw_pair" s__law_draw_pair ["_law_source", "_law_low", "_law_size"] (sp_pair) := by
  refine fn_mk T.h__law_draw_pair sc__law_draw_pair 7 rfl (by intro ds M Q h; first | (obtain ⟨rfl, _⟩ := h; rfl) | (obtain ⟨_, rfl, _⟩ := h; rfl) | (obtain ⟨_, _, rfl, _⟩ := h; rfl) | (obtain ⟨_, _, _, rfl, _⟩ := h; rfl) | (obtain ⟨_, _, _, _, rfl, _⟩ := h; rfl) | (obtain ⟨_, _, _, _, _, rfl, _⟩ := h; rfl) | (obtain ⟨_, _, _, _, _, _, rfl, _⟩ := h; rfl) | (obtain ⟨_, _, _, _, _, _, _, rfl, _⟩ := h; rfl) | (obtain ⟨_, _, _, _, _, _, _, _, rfl, _⟩ := h; rfl) | (obtain ⟨_, _, _, _, _, _, _, _, _, rfl, _⟩ := h; rfl) | (obtain ⟨_, _, _, _, _, _, _, _, _, _, rfl, _⟩ := h; rfl) | (obtain ⟨_, _, _, _, _, _, _, _, _, _, _, rfl, _⟩ := h; rfl) | (obtain ⟨_, _, _, _, _, _, _, _, _, _, _, _, rfl, _⟩ := h; rfl)) (fun f cdv A outer s H E hr => ⟨_, (dss_stop (ds_set (i := 3) sc__law_draw_pair.nd (de_call F__law_next hr (da_cons (dv 0) (da_cons de_int da_nil))))
    (dss_stop (ds_set (i := 4) sc__law_draw_pair.nd (de_call F__law_put hr (da_cons (de_op (od_add false) (de_op od_shl de_int (dv 3)) (de_call F__law_one hr (da_cons (dv 0) (da_cons (de_lst false (da_cons de_int (da_cons (de_neg de_int) (da_cons de_int (da_cons de_int da_nil))))) da_nil)))) (da_cons (dv 1) (da_cons (dv 2) da_nil)))))
    (dss_stop (ds_set (i := 5) sc__law_draw_pair.nd (de_call F__law_one hr (da_cons (dv 0) (da_cons (de_lst false (da_cons (dv 4) (da_cons (dv 4) (da_cons de_int (da_cons (de_neg de_int) (da_cons de_int (da_cons (de_call F__law_value hr (da_cons (dv 0) (da_cons (dv 1) (da_cons (dv 2) da_nil)))) (da_cons (de_op (od_add false) (de_op (od_mul false) de_int (de_call F__law_value hr (da_cons (dv 0) (da_cons (dv 1) (da_cons (dv 2) da_nil))))) de_int) da_nil)))))))) da_nil))))
    (dss_stop (ds_set (i := 6) sc__law_draw_pair.nd (de_call F__law_one hr (da_cons (dv 0) (da_cons (de_lst false (da_cons de_int (da_cons de_int (da_cons (de_call F__law_value hr (da_cons (dv 0) (da_cons (dv 1) (da_cons (dv 2) da_nil)))) (da_cons (de_call F__law_value hr (da_cons (dv 0) (da_cons (dv 1) (da_cons (dv 2) da_nil)))) da_nil))))) da_nil))))
    (dss_one (ds_ret (de_tup (da_cons (de_call F__law_put hr (da_cons (dv 5) (da_cons (dv 1) (da_cons (dv 2) da_nil)))) (da_cons (de_call F__law_put hr (da_cons (de_op od_shl (dv 6) (de_call F__law_one hr (da_cons (dv 0) (da_cons (de_lst false (da_cons de_int (da_cons de_int (da_cons de_int (da_cons de_int (da_cons (dv 3) da_nil)))))) da_nil)))) (da_cons (dv 1) (da_cons (dv 2) da_nil)))) da_nil))))))))), ?_⟩)
  rintro ds M Q ⟨src, b, s, rfl, hM, hb, hQ⟩
  have hp := two_pos b
  have hbig : (2 : Int) ^ b < 2 ^ 9000 := Int.lt_of_le_of_lt (pow_mono hb.2) (by decide +kernel)
  (refine stop_to ?_; (try simp only [dLcM, w_isiM, rReverseD, dMinDef, rInDic, rNotInDic, dIRL, dCallC, dCallG, dConsL, dLam, atDs, dCallV, dgU, dSortI, dIItems, dDicM, dDc, dLenSet, itemsD, w_lrg, w_index, w_sortQ, dCut, dDGet, dDGet1, dDGet2, dDPut, dPairs, w_disp, w_newDF, w_newDT, dec_self, List.map_cons, List.map_nil, eqD_bl, eqD_int, eqD_str, eqD_tup, eqD_lst, eqDs_nil, eqDs_nc, eqDs_cn, eqDs_cons, reduceIte, Bool.false_eq_true, Bool.not_true, Bool.not_false, decide_true, decide_false, dVar, atD, setD, startD, dC, dOp, dAnd, dOr, dNot, dIf, dUn, dNil, dCons, dTup, dLst, rInD, rNotInD, dNoPart, dPart, dRev, dFld, DL.fieldsOf, dCB, dNext, dSeq, dBreak, dCont, dDrop, dRet, dRetN, dIfS, dNever, dgN, dgNil, dgCons, dgSub, dAsg, dPar, dPar3, putD, dSetF, dMt, rAppendD, rPopD, rExtendD, lsT, lsR, lsF, itemsR, dFrz, dCall, dCallK, dMeth, dMake, dFor, dIL, dIT, dIR1, dIR2, dIE, dIZ, wipeD, dYes, dLc, dDic0, updM_same, cxOf, asBl_bl, asInt_int, asTup_tup, isN, w_test, w_chain, w_andV, w_orV, w_notV, w_neg, w_sub, w_div, w_mod, w_pow, w_shl, w_shr, w_and, w_or, w_xor, w_lt, w_le, w_gt, w_ge, w_add, w_addS, w_addT, w_addL, w_addF, w_addR, w_mul, w_mulL, w_eq, w_ne, w_isN, w_isB, w_isntN, w_isntB, w_ix, w_isi, w_abs, w_max2, w_min2, w_max1L, w_min1L, w_sum, w_all, w_any, w_len, w_int, w_intB, w_divmod, w_sorted, w_list, w_bits, w_sl, w_slL, w_slF, w_slR, w_slT, w_newF, w_newT, w_eqL, w_eqT, w_eqR, w_neL, w_neT, w_neR, w_dgT, w_derL, w_derT, w_derB, w_derI, w_derN, w_derS, w_eqSS, w_eqBB, w_neSS, w_neBB, w_eqBI, w_eqIN, w_neIN, w_eqNI, w_neNI, w_eqNN, w_neNN, w_NN, w_NI, w_IN]))
  refine ⟨src, 129, rfl, hM, by decide, by decide +kernel, fun k M1 k0 k1 hs1 => ?_⟩
  (refine stop_to ?_; (try simp only [dLcM, w_isiM, rReverseD, dMinDef, rInDic, rNotInDic, dIRL, dCallC, dCallG, dConsL, dLam, atDs, dCallV, dgU, dSortI, dIItems, dDicM, dDc, dLenSet, itemsD, w_lrg, w_index, w_sortQ, dCut, dDGet, dDGet1, dDGet2, dDPut, dPairs, w_disp, w_newDF, w_newDT, dec_self, List.map_cons, List.map_nil, eqD_bl, eqD_int, eqD_str, eqD_tup, eqD_lst, eqDs_nil, eqDs_nc, eqDs_cn, eqDs_cons, reduceIte, Bool.false_eq_true, Bool.not_true, Bool.not_false, decide_true, decide_false, dVar, atD, setD, startD, dC, dOp, dAnd, dOr, dNot, dIf, dUn, dNil, dCons, dTup, dLst, rInD, rNotInD, dNoPart, dPart, dRev, dFld, DL.fieldsOf, dCB, dNext, dSeq, dBreak, dCont, dDrop, dRet, dRetN, dIfS, dNever, dgN, dgNil, dgCons, dgSub, dAsg, dPar, dPar3, putD, dSetF, dMt, rAppendD, rPopD, rExtendD, lsT, lsR, lsF, itemsR, dFrz, dCall, dCallK, dMeth, dMake, dFor, dIL, dIT, dIR1, dIR2, dIE, dIZ, wipeD, dYes, dLc, dDic0, updM_same, cxOf, asBl_bl, asInt_int, asTup_tup, isN, w_test, w_chain, w_andV, w_orV, w_notV, w_neg, w_sub, w_div, w_mod, w_pow, w_shl, w_shr, w_and, w_or, w_xor, w_lt, w_le, w_gt, w_ge, w_add, w_addS, w_addT, w_addL, w_addF, w_addR, w_mul, w_mulL, w_eq, w_ne, w_isN, w_isB, w_isntN, w_isntB, w_ix, w_isi, w_abs, w_max2, w_min2, w_max1L, w_min1L, w_sum, w_all, w_any, w_len, w_int, w_intB, w_divmod, w_sorted, w_list, w_bits, w_sl, w_slL, w_slF, w_slR, w_slT, w_newF, w_newT, w_eqL, w_eqT, w_eqR, w_neL, w_neT, w_neR, w_dgT, w_derL, w_derT, w_derB, w_derI, w_derN, w_derS, w_eqSS, w_eqBB, w_neSS, w_neBB, w_eqBI, w_eqIN, w_neIN, w_eqNI, w_neNI, w_eqNN, w_neNN, w_NN, w_NI, w_IN]))
  refine ⟨shl1 k0 (by omega), lit_len (n := 4) (by decide), src, _, rfl, hs1.src, (by decide : 0 < 4), (by decide : 4 < 1000), fun d M2 hd hs2 => ?_⟩
  have hs := hs1.trans hs2
  obtain ⟨e, rfl⟩ : ∃ e : Int, d = .int e := by
    simp only [List.mem_cons, List.not_mem_nil, or_false] at hd
    rcases hd with rfl | rfl | rfl | rfl <;> exact ⟨_, rfl⟩
  (try simp only [dLcM, w_isiM, rReverseD, dMinDef, rInDic, rNotInDic, dIRL, dCallC, dCallG, dConsL, dLam, atDs, dCallV, dgU, dSortI, dIItems, dDicM, dDc, dLenSet, itemsD, w_lrg, w_index, w_sortQ, dCut, dDGet, dDGet1, dDGet2, dDPut, dPairs, w_disp, w_newDF, w_newDT, dec_self, List.map_cons, List.map_nil, eqD_bl, eqD_int, eqD_str, eqD_tup, eqD_lst, eqDs_nil, eqDs_nc, eqDs_cn, eqDs_cons, reduceIte, Bool.false_eq_true, Bool.not_true, Bool.not_false, decide_true, decide_false, dVar, atD, setD, startD, dC, dOp, dAnd, dOr, dNot, dIf, dUn, dNil, dCons, dTup, dLst, rInD, rNotInD, dNoPart, dPart, dRev, dFld, DL.fieldsOf, dCB, dNext, dSeq, dBreak, dCont, dDrop, dRet, dRetN, dIfS, dNever, dgN, dgNil, dgCons, dgSub, dAsg, dPar, dPar3, putD, dSetF, dMt, rAppendD, rPopD, rExtendD, lsT, lsR, lsF, itemsR, dFrz, dCall, dCallK, dMeth, dMake, dFor, dIL, dIT, dIR1, dIR2, dIE, dIZ, wipeD, dYes, dLc, dDic0, updM_same, cxOf, asBl_bl, asInt_int, asTup_tup, isN, w_test, w_chain, w_andV, w_orV, w_notV, w_neg, w_sub, w_div, w_mod, w_pow, w_shl, w_shr, w_and, w_or, w_xor, w_lt, w_le, w_gt, w_ge, w_add, w_addS, w_addT, w_addL, w_addF, w_addR, w_mul, w_mulL, w_eq, w_ne, w_isN, w_isB, w_isntN, w_isntB, w_ix, w_isi, w_abs, w_max2, w_min2, w_max1L, w_min1L, w_sum, w_all, w_any, w_len, w_int, w_intB, w_divmod, w_sorted, w_list, w_bits, w_sl, w_slL, w_slF, w_slR, w_slT, w_newF, w_newT, w_eqL, w_eqT, w_eqR, w_neL, w_neT, w_neR, w_dgT, w_derL, w_derT, w_derB, w_derI, w_derN, w_derS, w_eqSS, w_eqBB, w_neSS, w_neBB, w_eqBI, w_eqIN, w_neIN, w_eqNI, w_neNI, w_eqNN, w_neNN, w_NN, w_NI, w_IN])
  refine ⟨_, _, _, rfl, hp, ?_⟩
  rw [show lowZ b s + (1 * 2 ^ k.toNat + e - lowZ b s) % 2 ^ b = placedZ b s (1 * 2 ^ k.toNat + e) by rfl]
  have hn := placed_inK b s (1 * 2 ^ k.toNat + e)
  generalize placedZ b s (1 * 2 ^ k.toNat + e) = near at hn
  (refine stop_to ?_; (try simp only [dLcM, w_isiM, rReverseD, dMinDef, rInDic, rNotInDic, dIRL, dCallC, dCallG, dConsL, dLam, atDs, dCallV, dgU, dSortI, dIItems, dDicM, dDc, dLenSet, itemsD, w_lrg, w_index, w_sortQ, dCut, dDGet, dDGet1, dDGet2, dDPut, dPairs, w_disp, w_newDF, w_newDT, dec_self, List.map_cons, List.map_nil, eqD_bl, eqD_int, eqD_str, eqD_tup, eqD_lst, eqDs_nil, eqDs_nc, eqDs_cn, eqDs_cons, reduceIte, Bool.false_eq_true, Bool.not_true, Bool.not_false, decide_true, decide_false, dVar, atD, setD, startD, dC, dOp, dAnd, dOr, dNot, dIf, dUn, dNil, dCons, dTup, dLst, rInD, rNotInD, dNoPart, dPart, dRev, dFld, DL.fieldsOf, dCB, dNext, dSeq, dBreak, dCont, dDrop, dRet, dRetN, dIfS, dNever, dgN, dgNil, dgCons, dgSub, dAsg, dPar, dPar3, putD, dSetF, dMt, rAppendD, rPopD, rExtendD, lsT, lsR, lsF, itemsR, dFrz, dCall, dCallK, dMeth, dMake, dFor, dIL, dIT, dIR1, dIR2, dIE, dIZ, wipeD, dYes, dLc, dDic0, updM_same, cxOf, asBl_bl, asInt_int, asTup_tup, isN, w_test, w_chain, w_andV, w_orV, w_notV, w_neg, w_sub, w_div, w_mod, w_pow, w_shl, w_shr, w_and, w_or, w_xor, w_lt, w_le, w_gt, w_ge, w_add, w_addS, w_addT, w_addL, w_addF, w_addR, w_mul, w_mulL, w_eq, w_ne, w_isN, w_isB, w_isntN, w_isntB, w_ix, w_isi, w_abs, w_max2, w_min2, w_max1L, w_min1L, w_sum, w_all, w_any, w_len, w_int, w_intB, w_divmod, w_sorted, w_list, w_bits, w_sl, w_slL, w_slF, w_slR, w_slT, w_newF, w_newT, w_eqL, w_eqT, w_eqR, w_neL, w_neT, w_neR, w_dgT, w_derL, w_derT, w_derB, w_derI, w_derN, w_derS, w_eqSS, w_eqBB, w_neSS, w_neBB, w_eqBI, w_eqIN, w_neIN, w_eqNI, w_neNI, w_eqNN, w_neNN, w_NN, w_NI, w_IN]))
  refine ⟨src, _, _, rfl, hs.src, hp, hbig, fun v M3 v0 v1 hs3 => ?_⟩
  refine ⟨src, _, _, rfl, hs3.src, hp, hbig, fun w M4 w0 w1 hs4 => ?_⟩
  have hs := (hs.trans hs3).trans hs4
  (try simp only [dLcM, w_isiM, rReverseD, dMinDef, rInDic, rNotInDic, dIRL, dCallC, dCallG, dConsL, dLam, atDs, dCallV, dgU, dSortI, dIItems, dDicM, dDc, dLenSet, itemsD, w_lrg, w_index, w_sortQ, dCut, dDGet, dDGet1, dDGet2, dDPut, dPairs, w_disp, w_newDF, w_newDT, dec_self, List.map_cons, List.map_nil, eqD_bl, eqD_int, eqD_str, eqD_tup, eqD_lst, eqDs_nil, eqDs_nc, eqDs_cn, eqDs_cons, reduceIte, Bool.false_eq_true, Bool.not_true, Bool.not_false, decide_true, decide_false, dVar, atD, setD, startD, dC, dOp, dAnd, dOr, dNot, dIf, dUn, dNil, dCons, dTup, dLst, rInD, rNotInD, dNoPart, dPart, dRev, dFld, DL.fieldsOf, dCB, dNext, dSeq, dBreak, dCont, dDrop, dRet, dRetN, dIfS, dNever, dgN, dgNil, dgCons, dgSub, dAsg, dPar, dPar3, putD, dSetF, dMt, rAppendD, rPopD, rExtendD, lsT, lsR, lsF, itemsR, dFrz, dCall, dCallK, dMeth, dMake, dFor, dIL, dIT, dIR1, dIR2, dIE, dIZ, wipeD, dYes, dLc, dDic0, updM_same, cxOf, asBl_bl, asInt_int, asTup_tup, isN, w_test, w_chain, w_andV, w_orV, w_notV, w_neg, w_sub, w_div, w_mod, w_pow, w_shl, w_shr, w_and, w_or, w_xor, w_lt, w_le, w_gt, w_ge, w_add, w_addS, w_addT, w_addL, w_addF, w_addR, w_mul, w_mulL, w_eq, w_ne, w_isN, w_isB, w_isntN, w_isntB, w_ix, w_isi, w_abs, w_max2, w_min2, w_max1L, w_min1L, w_sum, w_all, w_any, w_len, w_int, w_intB, w_divmod, w_sorted, w_list, w_bits, w_sl, w_slL, w_slF, w_slR, w_slT, w_newF, w_newT, w_eqL, w_eqT, w_eqR, w_neL, w_neT, w_neR, w_dgT, w_derL, w_derT, w_derB, w_derI, w_derN, w_derS, w_eqSS, w_eqBB, w_neSS, w_neBB, w_eqBI, w_eqIN, w_neIN, w_eqNI, w_neNI, w_eqNN, w_neNN, w_NN, w_NI, w_IN])
  refine ⟨mulOk_l (by decide), lit_len (n := 7) (by decide), src, _, rfl, hs.src, (by decide : 0 < 7), (by decide : 7 < 1000), fun d M5 hd hs5 => ?_⟩
  have hs := hs.trans hs5
  obtain ⟨a, rfl⟩ : ∃ e : Int, d = .int e := by
    simp only [List.mem_cons, List.not_mem_nil, or_false] at hd
    rcases hd with rfl | rfl | rfl | rfl | rfl | rfl | rfl <;> exact ⟨_, rfl⟩
  clear hs1 hs2 hs3 hs4 hs5
  (try simp only [dLcM, w_isiM, rReverseD, dMinDef, rInDic, rNotInDic, dIRL, dCallC, dCallG, dConsL, dLam, atDs, dCallV, dgU, dSortI, dIItems, dDicM, dDc, dLenSet, itemsD, w_lrg, w_index, w_sortQ, dCut, dDGet, dDGet1, dDGet2, dDPut, dPairs, w_disp, w_newDF, w_newDT, dec_self, List.map_cons, List.map_nil, eqD_bl, eqD_int, eqD_str, eqD_tup, eqD_lst, eqDs_nil, eqDs_nc, eqDs_cn, eqDs_cons, reduceIte, Bool.false_eq_true, Bool.not_true, Bool.not_false, decide_true, decide_false, dVar, atD, setD, startD, dC, dOp, dAnd, dOr, dNot, dIf, dUn, dNil, dCons, dTup, dLst, rInD, rNotInD, dNoPart, dPart, dRev, dFld, DL.fieldsOf, dCB, dNext, dSeq, dBreak, dCont, dDrop, dRet, dRetN, dIfS, dNever, dgN, dgNil, dgCons, dgSub, dAsg, dPar, dPar3, putD, dSetF, dMt, rAppendD, rPopD, rExtendD, lsT, lsR, lsF, itemsR, dFrz, dCall, dCallK, dMeth, dMake, dFor, dIL, dIT, dIR1, dIR2, dIE, dIZ, wipeD, dYes, dLc, dDic0, updM_same, cxOf, asBl_bl, asInt_int, asTup_tup, isN, w_test, w_chain, w_andV, w_orV, w_notV, w_neg, w_sub, w_div, w_mod, w_pow, w_shl, w_shr, w_and, w_or, w_xor, w_lt, w_le, w_gt, w_ge, w_add, w_addS, w_addT, w_addL, w_addF, w_addR, w_mul, w_mulL, w_eq, w_ne, w_isN, w_isB, w_isntN, w_isntB, w_ix, w_isi, w_abs, w_max2, w_min2, w_max1L, w_min1L, w_sum, w_all, w_any, w_len, w_int, w_intB, w_divmod, w_sorted, w_list, w_bits, w_sl, w_slL, w_slF, w_slR, w_slT, w_newF, w_newT, w_eqL, w_eqT, w_eqR, w_neL, w_neT, w_neR, w_dgT, w_derL, w_derT, w_derB, w_derI, w_derN, w_derS, w_eqSS, w_eqBB, w_neSS, w_neBB, w_eqBI, w_eqIN, w_neIN, w_eqNI, w_neNI, w_eqNN, w_neNN, w_NN, w_NI, w_IN])
  (refine stop_to ?_; (try simp only [dLcM, w_isiM, rReverseD, dMinDef, rInDic, rNotInDic, dIRL, dCallC, dCallG, dConsL, dLam, atDs, dCallV, dgU, dSortI, dIItems, dDicM, dDc, dLenSet, itemsD, w_lrg, w_index, w_sortQ, dCut, dDGet, dDGet1, dDGet2, dDPut, dPairs, w_disp, w_newDF, w_newDT, dec_self, List.map_cons, List.map_nil, eqD_bl, eqD_int, eqD_str, eqD_tup, eqD_lst, eqDs_nil, eqDs_nc, eqDs_cn, eqDs_cons, reduceIte, Bool.false_eq_true, Bool.not_true, Bool.not_false, decide_true, decide_false, dVar, atD, setD, startD, dC, dOp, dAnd, dOr, dNot, dIf, dUn, dNil, dCons, dTup, dLst, rInD, rNotInD, dNoPart, dPart, dRev, dFld, DL.fieldsOf, dCB, dNext, dSeq, dBreak, dCont, dDrop, dRet, dRetN, dIfS, dNever, dgN, dgNil, dgCons, dgSub, dAsg, dPar, dPar3, putD, dSetF, dMt, rAppendD, rPopD, rExtendD, lsT, lsR, lsF, itemsR, dFrz, dCall, dCallK, dMeth, dMake, dFor, dIL, dIT, dIR1, dIR2, dIE, dIZ, wipeD, dYes, dLc, dDic0, updM_same, cxOf, asBl_bl, asInt_int, asTup_tup, isN, w_test, w_chain, w_andV, w_orV, w_notV, w_neg, w_sub, w_div, w_mod, w_pow, w_shl, w_shr, w_and, w_or, w_xor, w_lt, w_le, w_gt, w_ge, w_add, w_addS, w_addT, w_addL, w_addF, w_addR, w_mul, w_mulL, w_eq, w_ne, w_isN, w_isB, w_isntN, w_isntB, w_ix, w_isi, w_abs, w_max2, w_min2, w_max1L, w_min1L, w_sum, w_all, w_any, w_len, w_int, w_intB, w_divmod, w_sorted, w_list, w_bits, w_sl, w_slL, w_slF, w_slR, w_slT, w_newF, w_newT, w_eqL, w_eqT, w_eqR, w_neL, w_neT, w_neR, w_dgT, w_derL, w_derT, w_derB, w_derI, w_derN, w_derS, w_eqSS, w_eqBB, w_neSS, w_neBB, w_eqBI, w_eqIN, w_neIN, w_eqNI, w_neNI, w_eqNN, w_neNN, w_NN, w_NI, w_IN]))
  refine ⟨src, _, _, rfl, hs.src, hp, hbig, fun v2 M6 v20 v21 hs6 => ?_⟩
  have hs := hs.trans hs6
  refine ⟨src, _, _, rfl, hs6.src, hp, hbig, fun w2 M7 w20 w21 hs7 => ?_⟩
  have hs := hs.trans hs7
  refine ⟨lit_len (n := 4) (by decide), src, _, rfl, hs.src, (by decide : 0 < 4), (by decide : 4 < 1000), fun d M8 hd hs8 => ?_⟩
  have hs := hs.trans hs8
  obtain ⟨c, rfl, hc⟩ : ∃ e : Int, d = .int e ∧ e.natAbs < 2 ^ 200 := by
    simp only [List.mem_cons, List.not_mem_nil, or_false] at hd
    rcases hd with rfl | rfl | rfl | rfl
    · exact ⟨_, rfl, by decide⟩
    · exact ⟨_, rfl, by decide⟩
    · exact ⟨_, rfl, in_small hb ⟨v20, v21⟩⟩
    · exact ⟨_, rfl, in_small hb ⟨w20, w21⟩⟩
  (try simp only [dLcM, w_isiM, rReverseD, dMinDef, rInDic, rNotInDic, dIRL, dCallC, dCallG, dConsL, dLam, atDs, dCallV, dgU, dSortI, dIItems, dDicM, dDc, dLenSet, itemsD, w_lrg, w_index, w_sortQ, dCut, dDGet, dDGet1, dDGet2, dDPut, dPairs, w_disp, w_newDF, w_newDT, dec_self, List.map_cons, List.map_nil, eqD_bl, eqD_int, eqD_str, eqD_tup, eqD_lst, eqDs_nil, eqDs_nc, eqDs_cn, eqDs_cons, reduceIte, Bool.false_eq_true, Bool.not_true, Bool.not_false, decide_true, decide_false, dVar, atD, setD, startD, dC, dOp, dAnd, dOr, dNot, dIf, dUn, dNil, dCons, dTup, dLst, rInD, rNotInD, dNoPart, dPart, dRev, dFld, DL.fieldsOf, dCB, dNext, dSeq, dBreak, dCont, dDrop, dRet, dRetN, dIfS, dNever, dgN, dgNil, dgCons, dgSub, dAsg, dPar, dPar3, putD, dSetF, dMt, rAppendD, rPopD, rExtendD, lsT, lsR, lsF, itemsR, dFrz, dCall, dCallK, dMeth, dMake, dFor, dIL, dIT, dIR1, dIR2, dIE, dIZ, wipeD, dYes, dLc, dDic0, updM_same, cxOf, asBl_bl, asInt_int, asTup_tup, isN, w_test, w_chain, w_andV, w_orV, w_notV, w_neg, w_sub, w_div, w_mod, w_pow, w_shl, w_shr, w_and, w_or, w_xor, w_lt, w_le, w_gt, w_ge, w_add, w_addS, w_addT, w_addL, w_addF, w_addR, w_mul, w_mulL, w_eq, w_ne, w_isN, w_isB, w_isntN, w_isntB, w_ix, w_isi, w_abs, w_max2, w_min2, w_max1L, w_min1L, w_sum, w_all, w_any, w_len, w_int, w_intB, w_divmod, w_sorted, w_list, w_bits, w_sl, w_slL, w_slF, w_slR, w_slT, w_newF, w_newT, w_eqL, w_eqT, w_eqR, w_neL, w_neT, w_neR, w_dgT, w_derL, w_derT, w_derB, w_derI, w_derN, w_derS, w_eqSS, w_eqBB, w_neSS, w_neBB, w_eqBI, w_eqIN, w_neIN, w_eqNI, w_neNI, w_eqNN, w_neNN, w_NN, w_NI, w_IN])
  refine ⟨_, _, _, rfl, hp, lit_len (n := 5) (by decide), src, _, rfl, hs.src, (by decide : 0 < 5), (by decide : 5 < 1000), fun d M9 hd hs9 => ?_⟩
  have hs := hs.trans hs9
  obtain ⟨e2, rfl, h0, h1⟩ : ∃ e : Int, d = .int e ∧ 0 ≤ e ∧ e < 129 := by
    simp only [List.mem_cons, List.not_mem_nil, or_false] at hd
    rcases hd with rfl | rfl | rfl | rfl | rfl
    · exact ⟨_, rfl, by decide, by decide⟩
    · exact ⟨_, rfl, by decide, by decide⟩
    · exact ⟨_, rfl, by decide, by decide⟩
    · exact ⟨_, rfl, by decide, by decide⟩
    · exact ⟨_, rfl, k0, k1⟩
  obtain ⟨e2, rfl⟩ := Int.eq_ofNat_of_zero_le h0
  (try simp only [dLcM, w_isiM, rReverseD, dMinDef, rInDic, rNotInDic, dIRL, dCallC, dCallG, dConsL, dLam, atDs, dCallV, dgU, dSortI, dIItems, dDicM, dDc, dLenSet, itemsD, w_lrg, w_index, w_sortQ, dCut, dDGet, dDGet1, dDGet2, dDPut, dPairs, w_disp, w_newDF, w_newDT, dec_self, List.map_cons, List.map_nil, eqD_bl, eqD_int, eqD_str, eqD_tup, eqD_lst, eqDs_nil, eqDs_nc, eqDs_cn, eqDs_cons, reduceIte, Bool.false_eq_true, Bool.not_true, Bool.not_false, decide_true, decide_false, dVar, atD, setD, startD, dC, dOp, dAnd, dOr, dNot, dIf, dUn, dNil, dCons, dTup, dLst, rInD, rNotInD, dNoPart, dPart, dRev, dFld, DL.fieldsOf, dCB, dNext, dSeq, dBreak, dCont, dDrop, dRet, dRetN, dIfS, dNever, dgN, dgNil, dgCons, dgSub, dAsg, dPar, dPar3, putD, dSetF, dMt, rAppendD, rPopD, rExtendD, lsT, lsR, lsF, itemsR, dFrz, dCall, dCallK, dMeth, dMake, dFor, dIL, dIT, dIR1, dIR2, dIE, dIZ, wipeD, dYes, dLc, dDic0, updM_same, cxOf, asBl_bl, asInt_int, asTup_tup, isN, w_test, w_chain, w_andV, w_orV, w_notV, w_neg, w_sub, w_div, w_mod, w_pow, w_shl, w_shr, w_and, w_or, w_xor, w_lt, w_le, w_gt, w_ge, w_add, w_addS, w_addT, w_addL, w_addF, w_addR, w_mul, w_mulL, w_eq, w_ne, w_isN, w_isB, w_isntN, w_isntB, w_ix, w_isi, w_abs, w_max2, w_min2, w_max1L, w_min1L, w_sum, w_all, w_any, w_len, w_int, w_intB, w_divmod, w_sorted, w_list, w_bits, w_sl, w_slL, w_slF, w_slR, w_slT, w_newF, w_newT, w_eqL, w_eqT, w_eqR, w_neL, w_neT, w_neR, w_dgT, w_derL, w_derT, w_derB, w_derI, w_derN, w_derS, w_eqSS, w_eqBB, w_neSS, w_neBB, w_eqBI, w_eqIN, w_neIN, w_eqNI, w_neNI, w_eqNN, w_neNN, w_NN, w_NI, w_IN])
  refine ⟨shl_ok (n := 200) hc (by omega), _, _, _, rfl, hp, lit_len (n := 2) (by decide), endD_of (hQ _ _ _ ?_ ?_ hs)⟩
  · exact placed_inK b s _
  · exact placed_inK b s _
/-! ### the course of values, up to the first one that comes again -/
theorem pigeon : ∀ (m n : Nat) (f : Nat → Nat), (∀ i, i < n → f i < m) → (∀ i j, i < j → j < n → f i ≠ f j) → n ≤ m
  | 0, 0, _, _, _ => Nat.le_refl _
  | 0, n + 1, f, h, _ => absurd (h 0 (Nat.succ_pos n)) (Nat.not_lt_zero _)
  | m + 1, 0, _, _, _ => Nat.zero_le _
  | m + 1, n + 1, f, h, inj => by
    have := pigeon m n (fun i => if f i = m then f n else f i) (fun i hi => ?_) (fun i j hij hj => ?_)
    · omega
    · have h1 := h i (by omega)
      have h2 := h n (by omega)
      have h3 := inj i n hi (by omega)
      show (if f i = m then f n else f i) < m
      split <;> omega
    · have h1 := inj i j hij (by omega)
      have h2 := inj i n (by omega) (by omega)
      have h3 := inj j n hj (by omega)
      show (if f i = m then f n else f i) ≠ (if f j = m then f n else f j)
      split <;> split <;> omega
/-- the course of values, wrapped -/
abbrev wayV (b : Nat) (s : Bool) (a c x : Int) (n : Nat) : Int := placedZ b s (itZ a c x n)
abbrev wayL (b : Nat) (s : Bool) (a c x : Int) (n : Nat) : List Int := (List.range n).map fun i => wayV b s a c x i
/-- the values from x on up to the first one that comes again: n of them, number n is number k -/
abbrev WayOf (b : Nat) (s : Bool) (a c x : Int) (n k : Nat) : Prop := k < n ∧ wayV b s a c x n = wayV b s a c x k ∧ ∀ i j, i < j → j < n → wayV b s a c x i ≠ wayV b s a c x j
theorem way_few {b : Nat} {s : Bool} {a c x : Int} {n : Nat} (h : ∀ i j, i < j → j < n → wayV b s a c x i ≠ wayV b s a c x j) : n ≤ 2 ^ b := by
  have hN : ((2 ^ b : Nat) : Int) = 2 ^ b := by simp
  refine pigeon (2 ^ b) n (fun i => (wayV b s a c x i - lowZ b s).toNat) (fun i hi => ?_) fun i j hij hj e => h i j hij hj ?_
  · have h1 : lowZ b s ≤ wayV b s a c x i := (placed_inK b s (itZ a c x i)).1
    have h2 : wayV b s a c x i < lowZ b s + 2 ^ b := (placed_inK b s (itZ a c x i)).2
    show (wayV b s a c x i - lowZ b s).toNat < 2 ^ b
    omega
  · have h1 : lowZ b s ≤ wayV b s a c x i := (placed_inK b s (itZ a c x i)).1
    have h2 : lowZ b s ≤ wayV b s a c x j := (placed_inK b s (itZ a c x j)).1
    have e : (wayV b s a c x i - lowZ b s).toNat = (wayV b s a c x j - lowZ b s).toNat := e
    omega
theorem way_next {b : Nat} {s : Bool} {a c x : Int} (n : Nat) : placedZ b s (a * wayV b s a c x n + c) = wayV b s a c x (n + 1) := by
  refine placed_congr ?_
  obtain ⟨z, hz⟩ := placed_cong b s (itZ a c x n)
  exact ⟨a * z, by show a * placedZ b s (itZ a c x n) + c - (a * itZ a c x n + c) = _; grind⟩
theorem way_zero {b : Nat} {s : Bool} {a c x : Int} (h : InK b s x) : wayV b s a c x 0 = x := placed_same h.1 h.2
theorem wayL_succ {b : Nat} {s : Bool} {a c x : Int} {n : Nat} : wayL b s a c x (n + 1) = wayL b s a c x n ++ [wayV b s a c x n] := by
  show (List.range (n + 1)).map _ = _
  rw [List.range_succ, List.map_append]
  rfl
theorem wayL_get {b : Nat} {s : Bool} {a c x : Int} {n k : Nat} (h : k < n) : (wayL b s a c x n)[k]? = some (wayV b s a c x k) := by
  rw [List.getElem?_map, List.getElem?_range h]
  rfl
theorem wayL_len {b : Nat} {s : Bool} {a c x : Int} {n : Nat} : (wayL b s a c x n).length = n := by
  rw [List.length_map, List.length_range]
theorem way_mem {b : Nat} {s : Bool} {a c x y : Int} {n : Nat} : y ∈ wayL b s a c x n ↔ ∃ k, k < n ∧ y = wayV b s a c x k := by
  constructor
  · intro h
    obtain ⟨k, hk, e⟩ := List.mem_map.mp h
    exact ⟨k, List.mem_range.mp hk, e.symm⟩
  · rintro ⟨k, hk, rfl⟩
    exact List.mem_map.mpr ⟨k, List.mem_range.mpr hk, rfl⟩
/-- where all steps lead -/
theorem way_all {b : Nat} {s : Bool} {a c x : Int} {n k : Nat} (h : WayOf b s a c x n k) : ∀ m : Nat, wayV b s a c x (k + m) = wayV b s a c x (k + m % (n - k)) := by
  obtain ⟨hk, he, _⟩ := h
  have step : ∀ i j : Nat, wayV b s a c x i = wayV b s a c x j → wayV b s a c x (i + 1) = wayV b s a c x (j + 1) := fun i j e => by
    rw [← way_next, ← way_next, e]
  have shift : ∀ d : Nat, wayV b s a c x (n + d) = wayV b s a c x (k + d) := by
    intro d
    induction d with
    | zero => exact he
    | succ d ih => exact step _ _ ih
  intro m
  induction m using Nat.strongRecOn with
  | ind m ih =>
    rcases Nat.lt_or_ge m (n - k) with g | g
    · rw [Nat.mod_eq_of_lt g]
    · have e : k + m = n + (m - (n - k)) := by omega
      rw [e, shift, ih (m - (n - k)) (by omega), ← Nat.mod_eq_sub_mod g]
/-- what the course tells of all numbers of steps -/
def dueW (b : Nat) (s : Bool) (a c x y : Int) (n k : Nat) (r : Option (Nat × Nat)) : Prop := match r with
  | none => ∀ i, i < n → wayV b s a c x i ≠ y
  | some p => p.1 < n ∧ wayV b s a c x p.1 = y ∧ p.2 = if k ≤ p.1 then n - k else 0
theorem due_steps {b : Nat} {s : Bool} {a c x y : Int} {n k : Nat} (hy : InK b s y) (h : WayOf b s a c x n k) {r : Option (Nat × Nat)} (hr : dueW b s a c x y n k r) : StepsOf a c x y b r := by
  have hq : ∀ m, (2 : Int) ^ b ∣ itZ a c x m - y ↔ wayV b s a c x m = y := fun m => by
    rw [← placed_iff (s := s), placed_same hy.1 hy.2]
  have hall := way_all h
  obtain ⟨hk, he, hd⟩ := h
  have hin : ∀ m, ∃ i, i < n ∧ wayV b s a c x m = wayV b s a c x i := fun m => by
    rcases Nat.lt_or_ge m k with g | g
    · exact ⟨m, by omega, rfl⟩
    · refine ⟨k + (m - k) % (n - k), ?_, ?_⟩
      · have := Nat.mod_lt (m - k) (show 0 < n - k by omega)
        omega
      · have := hall (m - k)
        rw [show k + (m - k) = m by omega] at this
        exact this
  cases r with
  | none =>
    intro m hm
    obtain ⟨i, hi, e⟩ := hin m
    exact hr i hi (e.symm.trans ((hq m).mp hm))
  | some p =>
    obtain ⟨n0, L⟩ := p
    obtain ⟨h1, h2, h3⟩ := hr
    have uniq : ∀ i, i < n → wayV b s a c x i = y → i = n0 := fun i hi e => by
      rcases Nat.lt_trichotomy i n0 with g | g | g
      · exact absurd (e.trans h2.symm) (hd i n0 g h1)
      · exact g
      · exact absurd (h2.trans e.symm) (hd n0 i g hi)
    have h3 : L = if k ≤ n0 then n - k else 0 := h3
    intro m
    rw [hq]
    constructor
    · intro hm
      rcases Nat.lt_or_ge m k with g | g
      · exact ⟨0, by have := uniq m (by omega) hm
                     omega⟩
      · have e := hall (m - k)
        rw [show k + (m - k) = m by omega] at e
        have hlt := Nat.mod_lt (m - k) (show 0 < n - k by omega)
        have := uniq (k + (m - k) % (n - k)) (by omega) (e.symm.trans hm)
        rw [if_pos (by omega)] at h3
        refine ⟨(m - k) / (n - k), ?_⟩
        have q := Nat.mod_add_div (m - k) (n - k)
        rw [h3, Nat.mul_comm]
        omega
    · rintro ⟨t, rfl⟩
      by_cases g : k ≤ n0
      · rw [if_pos g] at h3
        have e := hall (n0 - k + t * L)
        rw [show k + (n0 - k + t * L) = n0 + t * L by omega, h3, Nat.mul_comm, Nat.add_mul_mod_self_left, Nat.mod_eq_of_lt (by omega), show k + (n0 - k) = n0 by omega] at e
        rw [h3, Nat.mul_comm, e]
        exact h2
      · rw [if_neg g] at h3
        rw [h3, Nat.mul_zero, Nat.add_zero]
        exact h2
theorem in_ints {v : Int} {ns : List Int} : inD (.int v) (ns.map Dat.int) = decide (v ∈ ns) := by
  unfold inD
  rw [List.any_map]
  by_cases h : v ∈ ns
  · rw [decide_eq_true h]
    exact List.any_eq_true.mpr ⟨v, h, by simp [eqF]⟩
  · rw [decide_eq_false h]
    refine List.any_eq_false.mpr fun k hk => ?_
    have : k ≠ v := fun e => h (by rw [← e]; exact hk)
    simpa [eqF] using this
theorem flat_ints {ns : List Int} : (ns.map Dat.int).all flatD = true := by
  simp [List.all_map, flatD]
theorem ne_steps {o : Option (Nat × Nat)} {M : MH} {Q : VKD} (h : Q (.bl false) M) : DL.rNeD (stepsD o) (stepsD o) M Q := by
  cases o with
  | none =>
    simp only [stepsD]
    (try simp only [dLcM, w_isiM, rReverseD, dMinDef, rInDic, rNotInDic, dIRL, dCallC, dCallG, dConsL, dLam, atDs, dCallV, dgU, dSortI, dIItems, dDicM, dDc, dLenSet, itemsD, w_lrg, w_index, w_sortQ, dCut, dDGet, dDGet1, dDGet2, dDPut, dPairs, w_disp, w_newDF, w_newDT, dec_self, List.map_cons, List.map_nil, eqD_bl, eqD_int, eqD_str, eqD_tup, eqD_lst, eqDs_nil, eqDs_nc, eqDs_cn, eqDs_cons, reduceIte, Bool.false_eq_true, Bool.not_true, Bool.not_false, decide_true, decide_false, dVar, atD, setD, startD, dC, dOp, dAnd, dOr, dNot, dIf, dUn, dNil, dCons, dTup, dLst, rInD, rNotInD, dNoPart, dPart, dRev, dFld, DL.fieldsOf, dCB, dNext, dSeq, dBreak, dCont, dDrop, dRet, dRetN, dIfS, dNever, dgN, dgNil, dgCons, dgSub, dAsg, dPar, dPar3, putD, dSetF, dMt, rAppendD, rPopD, rExtendD, lsT, lsR, lsF, itemsR, dFrz, dCall, dCallK, dMeth, dMake, dFor, dIL, dIT, dIR1, dIR2, dIE, dIZ, wipeD, dYes, dLc, dDic0, updM_same, cxOf, asBl_bl, asInt_int, asTup_tup, isN, w_test, w_chain, w_andV, w_orV, w_notV, w_neg, w_sub, w_div, w_mod, w_pow, w_shl, w_shr, w_and, w_or, w_xor, w_lt, w_le, w_gt, w_ge, w_add, w_addS, w_addT, w_addL, w_addF, w_addR, w_mul, w_mulL, w_eq, w_ne, w_isN, w_isB, w_isntN, w_isntB, w_ix, w_isi, w_abs, w_max2, w_min2, w_max1L, w_min1L, w_sum, w_all, w_any, w_len, w_int, w_intB, w_divmod, w_sorted, w_list, w_bits, w_sl, w_slL, w_slF, w_slR, w_slT, w_newF, w_newT, w_eqL, w_eqT, w_eqR, w_neL, w_neT, w_neR, w_dgT, w_derL, w_derT, w_derB, w_derI, w_derN, w_derS, w_eqSS, w_eqBB, w_neSS, w_neBB, w_eqBI, w_eqIN, w_neIN, w_eqNI, w_neNI, w_eqNN, w_neNN, w_NN, w_NI, w_IN])
    exact h
  | some p =>
    simp only [stepsD]
    (try simp only [dLcM, w_isiM, rReverseD, dMinDef, rInDic, rNotInDic, dIRL, dCallC, dCallG, dConsL, dLam, atDs, dCallV, dgU, dSortI, dIItems, dDicM, dDc, dLenSet, itemsD, w_lrg, w_index, w_sortQ, dCut, dDGet, dDGet1, dDGet2, dDPut, dPairs, w_disp, w_newDF, w_newDT, dec_self, List.map_cons, List.map_nil, eqD_bl, eqD_int, eqD_str, eqD_tup, eqD_lst, eqDs_nil, eqDs_nc, eqDs_cn, eqDs_cons, reduceIte, Bool.false_eq_true, Bool.not_true, Bool.not_false, decide_true, decide_false, dVar, atD, setD, startD, dC, dOp, dAnd, dOr, dNot, dIf, dUn, dNil, dCons, dTup, dLst, rInD, rNotInD, dNoPart, dPart, dRev, dFld, DL.fieldsOf, dCB, dNext, dSeq, dBreak, dCont, dDrop, dRet, dRetN, dIfS, dNever, dgN, dgNil, dgCons, dgSub, dAsg, dPar, dPar3, putD, dSetF, dMt, rAppendD, rPopD, rExtendD, lsT, lsR, lsF, itemsR, dFrz, dCall, dCallK, dMeth, dMake, dFor, dIL, dIT, dIR1, dIR2, dIE, dIZ, wipeD, dYes, dLc, dDic0, updM_same, cxOf, asBl_bl, asInt_int, asTup_tup, isN, w_test, w_chain, w_andV, w_orV, w_notV, w_neg, w_sub, w_div, w_mod, w_pow, w_shl, w_shr, w_and, w_or, w_xor, w_lt, w_le, w_gt, w_ge, w_add, w_addS, w_addT, w_addL, w_addF, w_addR, w_mul, w_mulL, w_eq, w_ne, w_isN, w_isB, w_isntN, w_isntB, w_ix, w_isi, w_abs, w_max2, w_min2, w_max1L, w_min1L, w_sum, w_all, w_any, w_len, w_int, w_intB, w_divmod, w_sorted, w_list, w_bits, w_sl, w_slL, w_slF, w_slR, w_slT, w_newF, w_newT, w_eqL, w_eqT, w_eqR, w_neL, w_neT, w_neR, w_dgT, w_derL, w_derT, w_derB, w_derI, w_derN, w_derS, w_eqSS, w_eqBB, w_neSS, w_neBB, w_eqBI, w_eqIN, w_neIN, w_eqNI, w_neNI, w_eqNN, w_neNN, w_NN, w_NI, w_IN])
    exact ⟨rfl, rfl, h⟩
theorem ne_optN {o : Option Nat} {M : MH} {Q : VKD} (h : Q (.bl false) M) : DL.rNeD (optN o) (optN o) M Q := by
  cases o with
  | none =>
    simp only [optN]
    (try simp only [dLcM, w_isiM, rReverseD, dMinDef, rInDic, rNotInDic, dIRL, dCallC, dCallG, dConsL, dLam, atDs, dCallV, dgU, dSortI, dIItems, dDicM, dDc, dLenSet, itemsD, w_lrg, w_index, w_sortQ, dCut, dDGet, dDGet1, dDGet2, dDPut, dPairs, w_disp, w_newDF, w_newDT, dec_self, List.map_cons, List.map_nil, eqD_bl, eqD_int, eqD_str, eqD_tup, eqD_lst, eqDs_nil, eqDs_nc, eqDs_cn, eqDs_cons, reduceIte, Bool.false_eq_true, Bool.not_true, Bool.not_false, decide_true, decide_false, dVar, atD, setD, startD, dC, dOp, dAnd, dOr, dNot, dIf, dUn, dNil, dCons, dTup, dLst, rInD, rNotInD, dNoPart, dPart, dRev, dFld, DL.fieldsOf, dCB, dNext, dSeq, dBreak, dCont, dDrop, dRet, dRetN, dIfS, dNever, dgN, dgNil, dgCons, dgSub, dAsg, dPar, dPar3, putD, dSetF, dMt, rAppendD, rPopD, rExtendD, lsT, lsR, lsF, itemsR, dFrz, dCall, dCallK, dMeth, dMake, dFor, dIL, dIT, dIR1, dIR2, dIE, dIZ, wipeD, dYes, dLc, dDic0, updM_same, cxOf, asBl_bl, asInt_int, asTup_tup, isN, w_test, w_chain, w_andV, w_orV, w_notV, w_neg, w_sub, w_div, w_mod, w_pow, w_shl, w_shr, w_and, w_or, w_xor, w_lt, w_le, w_gt, w_ge, w_add, w_addS, w_addT, w_addL, w_addF, w_addR, w_mul, w_mulL, w_eq, w_ne, w_isN, w_isB, w_isntN, w_isntB, w_ix, w_isi, w_abs, w_max2, w_min2, w_max1L, w_min1L, w_sum, w_all, w_any, w_len, w_int, w_intB, w_divmod, w_sorted, w_list, w_bits, w_sl, w_slL, w_slF, w_slR, w_slT, w_newF, w_newT, w_eqL, w_eqT, w_eqR, w_neL, w_neT, w_neR, w_dgT, w_derL, w_derT, w_derB, w_derI, w_derN, w_derS, w_eqSS, w_eqBB, w_neSS, w_neBB, w_eqBI, w_eqIN, w_neIN, w_eqNI, w_neNI, w_eqNN, w_neNN, w_NN, w_NI, w_IN])
    exact h
  | some p =>
    simp only [optN]
    (try simp only [dLcM, w_isiM, rReverseD, dMinDef, rInDic, rNotInDic, dIRL, dCallC, dCallG, dConsL, dLam, atDs, dCallV, dgU, dSortI, dIItems, dDicM, dDc, dLenSet, itemsD, w_lrg, w_index, w_sortQ, dCut, dDGet, dDGet1, dDGet2, dDPut, dPairs, w_disp, w_newDF, w_newDT, dec_self, List.map_cons, List.map_nil, eqD_bl, eqD_int, eqD_str, eqD_tup, eqD_lst, eqDs_nil, eqDs_nc, eqDs_cn, eqDs_cons, reduceIte, Bool.false_eq_true, Bool.not_true, Bool.not_false, decide_true, decide_false, dVar, atD, setD, startD, dC, dOp, dAnd, dOr, dNot, dIf, dUn, dNil, dCons, dTup, dLst, rInD, rNotInD, dNoPart, dPart, dRev, dFld, DL.fieldsOf, dCB, dNext, dSeq, dBreak, dCont, dDrop, dRet, dRetN, dIfS, dNever, dgN, dgNil, dgCons, dgSub, dAsg, dPar, dPar3, putD, dSetF, dMt, rAppendD, rPopD, rExtendD, lsT, lsR, lsF, itemsR, dFrz, dCall, dCallK, dMeth, dMake, dFor, dIL, dIT, dIR1, dIR2, dIE, dIZ, wipeD, dYes, dLc, dDic0, updM_same, cxOf, asBl_bl, asInt_int, asTup_tup, isN, w_test, w_chain, w_andV, w_orV, w_notV, w_neg, w_sub, w_div, w_mod, w_pow, w_shl, w_shr, w_and, w_or, w_xor, w_lt, w_le, w_gt, w_ge, w_add, w_addS, w_addT, w_addL, w_addF, w_addR, w_mul, w_mulL, w_eq, w_ne, w_isN, w_isB, w_isntN, w_isntB, w_ix, w_isi, w_abs, w_max2, w_min2, w_max1L, w_min1L, w_sum, w_all, w_any, w_len, w_int, w_intB, w_divmod, w_sorted, w_list, w_bits, w_sl, w_slL, w_slF, w_slR, w_slT, w_newF, w_newT, w_eqL, w_eqT, w_eqR, w_neL, w_neT, w_neR, w_dgT, w_derL, w_derT, w_derB, w_derI, w_derN, w_derS, w_eqSS, w_eqBB, w_neSS, w_neBB, w_eqBI, w_eqIN, w_neIN, w_eqNI, w_neNI, w_eqNN, w_neNN, w_NN, w_NI, w_IN])
    exact h
theorem due_exists (b : Nat) (s : Bool) (a c x y : Int) (n k : Nat) : (∃ i, i < n ∧ wayV b s a c x i = y) ∨ ∀ i, i < n → wayV b s a c x i ≠ y := by
  by_cases h : ∃ i, i < n ∧ wayV b s a c x i = y
  · exact .inl h
  · exact .inr fun i hi e => h ⟨i, hi, e⟩
/-- what is asked modulo a power of two alone -/
theorem steps_cong4 {a c x y a' c' x' y' : Int} {b : Nat} (ha : (2 : Int) ^ b ∣ a - a') (hc : (2 : Int) ^ b ∣ c - c') (hx : (2 : Int) ^ b ∣ x - x') (hy : (2 : Int) ^ b ∣ y - y') {r : Option (Nat × Nat)} (h : StepsOf a c x y b r) : StepsOf a' c' x' y' b r := by
  have e : ∀ m, (2 : Int) ^ b ∣ itZ a' c' x' m - y' ↔ (2 : Int) ^ b ∣ itZ a c x m - y := fun m => by
    obtain ⟨p, hp⟩ := it_cong ha hc hx m
    obtain ⟨q, hq⟩ := hy
    constructor
    · rintro ⟨z, hz⟩
      exact ⟨z + p - q, by rw [Int.mul_sub (2 ^ b) (z + p) q, Int.mul_add (2 ^ b) z p]; omega⟩
    · rintro ⟨z, hz⟩
      exact ⟨z - p + q, by rw [Int.mul_add (2 ^ b) (z - p) q, Int.mul_sub (2 ^ b) z p]; omega⟩
  cases r with
  | none => exact fun m hm => h m ((e m).mp hm)
  | some p => exact fun m => (e m).trans (h m)
theorem steps_cong {a c x y x' y' : Int} {b : Nat} (hx : (2 : Int) ^ b ∣ x - x') (hy : (2 : Int) ^ b ∣ y - y') {r : Option (Nat × Nat)} (h : StepsOf a c x y b r) : StepsOf a c x' y' b r := steps_cong4 ⟨0, by simp⟩ ⟨0, by simp⟩ hx hy h
/-- among so many steps one value comes twice -/
theorem it_twice (a c x : Int) (b : Nat) : ∃ i j, i < j ∧ j ≤ 2 ^ b ∧ (2 : Int) ^ b ∣ itZ a c x i - itZ a c x j := by
  by_cases h : ∃ i j, i < j ∧ j ≤ 2 ^ b ∧ (2 : Int) ^ b ∣ itZ a c x i - itZ a c x j
  · exact h
  · exfalso
    have := way_few (b := b) (s := false) (a := a) (c := c) (x := x) (n := 2 ^ b + 1) fun i j hij hj e => h ⟨i, j, hij, by omega, placed_iff.mp e⟩
    omega
theorem it_shift {a c x : Int} {b i j : Nat} (h : (2 : Int) ^ b ∣ itZ a c x i - itZ a c x j) (d : Nat) : (2 : Int) ^ b ∣ itZ a c x (i + d) - itZ a c x (j + d) := by
  rw [it_add, it_add]
  exact it_cong ⟨0, by simp⟩ ⟨0, by simp⟩ h d
theorem steps_bound {a c x y : Int} {b n L : Nat} (h : StepsOf a c x y b (some (n, L))) : n ≤ 2 ^ b ∧ L ≤ 2 ^ b := by
  have hb := Nat.two_pow_pos b
  have move : ∀ m k : Nat, (2 : Int) ^ b ∣ itZ a c x m - itZ a c x k → (2 : Int) ^ b ∣ itZ a c x k - y → (2 : Int) ^ b ∣ itZ a c x m - y := fun m k ⟨p, hp⟩ ⟨q, hq⟩ => ⟨p + q, by rw [Int.mul_add]; omega⟩
  constructor
  · rcases Nat.lt_or_ge (2 ^ b) n with g | g
    · exfalso
      obtain ⟨i, j, hij, hj, hd⟩ := it_twice a c x b
      obtain ⟨d, rfl⟩ := Nat.exists_eq_add_of_le (show j ≤ n by omega)
      obtain ⟨t, ht⟩ := (h (i + d)).mp (move _ _ (it_shift hd d) ((h (j + d)).mpr ⟨0, by omega⟩))
      have := Nat.zero_le (t * L)
      omega
    · exact g
  · rcases Nat.lt_or_ge (2 ^ b) L with g | g
    · exfalso
      obtain ⟨i, j, hij, hj, hd⟩ := it_twice a c (itZ a c x n) b
      rw [← it_add, ← it_add] at hd
      obtain ⟨d, hd2⟩ := Nat.exists_eq_add_of_le (show n + j ≤ n + L by omega)
      have h1 : (2 : Int) ^ b ∣ itZ a c x (n + j + d) - y := (h (n + j + d)).mpr ⟨1, by omega⟩
      obtain ⟨t, ht⟩ := (h (n + i + d)).mp (move _ _ (it_shift hd d) h1)
      rcases t with _ | t
      · omega
      · have : L ≤ (t + 1) * L := Nat.le_mul_of_pos_left _ (Nat.succ_pos _)
        omega
    · exact g
/-! ### a source, and a list beside it -/
theorem SrcTo.side {a p : Addr} {M0 M2 : MH} {o : MO} (h : SrcTo a (updM M0 p o) M2) (n : a ≠ p) (hp : M0 p = none) : ∃ M3, SrcTo a M0 M3 ∧ M3 p = none ∧ M2 = updM M3 p o := by
  obtain ⟨x, y, z, rfl, k⟩ := h
  refine ⟨updM M0 a (srcD x y z), ⟨x, y, z, rfl, k⟩, by rw [updM_ne (fun e => n e.symm)]; exact hp, ?_⟩
  funext b
  unfold updM
  by_cases h1 : b = a
  · by_cases h2 : b = p
    · exact absurd (h1.symm.trans h2) n
    · rw [if_pos h1, if_neg h2, if_pos h1]
  · rw [if_neg h1, if_neg h1]
theorem Src.side {a p : Addr} {M0 : MH} {o : MO} (h : Src M0 a) (hp : M0 p = none) : Src (updM M0 p o) a ∧ a ≠ p := by
  obtain ⟨x, y, z, e, k⟩ := h
  have n : a ≠ p := ne_dom e hp
  exact ⟨⟨x, y, z, by rw [updM_ne n]; exact e, k⟩, n⟩
/-! ### values first met -/
/-- what is first met -/
def metD : Option (Nat × Int) → Dat
  | none => .non
  | some (n, y) => .tup [.int (n : Nat), .int y]
def MetOf (a c x : Int) (b : Nat) (ys : List Int) : Option (Nat × Int) → Prop
  | none => ∀ y ∈ ys, StepsOf a c x y b none
  | some (n, y) => (y ∈ ys ∧ ∃ L, StepsOf a c x y b (some (n, L))) ∧ ∀ y' n' L', y' ∈ ys → StepsOf a c x y' b (some (n', L')) → lexLe ((n : Int), y) ((n' : Int), y')
/-- the answers one by one -/
inductive RowsOf (a c x : Int) (b : Nat) : List Int → List (Option (Nat × Nat)) → Prop
  | nil : RowsOf a c x b [] []
  | cons {y : Int} {ys : List Int} {o : Option (Nat × Nat)} {os : List (Option (Nat × Nat))} : StepsOf a c x y b o → RowsOf a c x b ys os → RowsOf a c x b (y :: ys) (o :: os)
/-- the pairs of those that are met -/
def metQ : List Int → List (Option (Nat × Nat)) → List (Int × Int)
  | y :: ys, some (n, _) :: os => ((n : Int), y) :: metQ ys os
  | _ :: ys, none :: os => metQ ys os
  | _, _ => []
theorem rows_app {a c x : Int} {b : Nat} {ys : List Int} {os : List (Option (Nat × Nat))} {y : Int} {o : Option (Nat × Nat)} (h : RowsOf a c x b ys os) (g : StepsOf a c x y b o) : RowsOf a c x b (ys ++ [y]) (os ++ [o]) := by
  induction h with
  | nil => exact .cons g .nil
  | cons h _ ih => exact .cons h ih
theorem rows_len {a c x : Int} {b : Nat} {ys : List Int} {os : List (Option (Nat × Nat))} (h : RowsOf a c x b ys os) : ys.length = os.length := by
  induction h with
  | nil => rfl
  | cons h _ ih => simp [ih]
theorem metQ_app : ∀ (ys : List Int) (os : List (Option (Nat × Nat))) (y : Int) (o : Option (Nat × Nat)), ys.length = os.length → metQ (ys ++ [y]) (os ++ [o]) = metQ ys os ++ (match o with | some (n, _) => [((n : Int), y)] | none => [])
  | [], [], y, o, _ => by
    cases o with
    | none => rfl
    | some p => rfl
  | [], _ :: _, _, _, h => by cases h
  | _ :: _, [], _, _, h => by cases h
  | z :: ys, o' :: os, y, o, h => by
    have ih := metQ_app ys os y o (by simpa using h)
    cases o' with
    | none => exact ih
    | some p => exact congrArg (List.cons ((p.1 : Int), z)) ih
theorem metQ_mem {a c x : Int} {b : Nat} {ys : List Int} {os : List (Option (Nat × Nat))} (h : RowsOf a c x b ys os) {q : Int × Int} : q ∈ metQ ys os ↔ ∃ (n : Nat) (y : Int) (L : Nat), q = ((n : Int), y) ∧ y ∈ ys ∧ StepsOf a c x y b (some (n, L)) := by
  induction h with
  | nil =>
    constructor
    · intro h
      cases h
    · rintro ⟨_, _, _, _, h, _⟩
      cases h
  | @cons y ys o os h hs ih =>
    cases o with
    | none =>
      show q ∈ metQ ys os ↔ _
      rw [ih]
      constructor
      · rintro ⟨n, z, L, h1, h2, h3⟩
        exact ⟨n, z, L, h1, List.mem_cons_of_mem _ h2, h3⟩
      · rintro ⟨n, z, L, h1, h2, h3⟩
        rcases List.mem_cons.mp h2 with rfl | h2
        · cases steps_uniq h h3
        · exact ⟨n, z, L, h1, h2, h3⟩
    | some p =>
      obtain ⟨m, K⟩ := p
      show q ∈ ((m : Int), y) :: metQ ys os ↔ _
      rw [List.mem_cons, ih]
      constructor
      · rintro (rfl | ⟨n, z, L, h1, h2, h3⟩)
        · exact ⟨m, y, K, rfl, by simp, h⟩
        · exact ⟨n, z, L, h1, List.mem_cons_of_mem _ h2, h3⟩
      · rintro ⟨n, z, L, h1, h2, h3⟩
        rcases List.mem_cons.mp h2 with rfl | h2
        · cases steps_uniq h h3
          exact Or.inl h1
        · exact Or.inr ⟨n, z, L, h1, h2, h3⟩
theorem met_none {a c x : Int} {b : Nat} {ys : List Int} {os : List (Option (Nat × Nat))} (h : RowsOf a c x b ys os) (e : metQ ys os = []) : MetOf a c x b ys none := by
  intro y hy
  have : ∀ (ys : List Int) (os : List (Option (Nat × Nat))), RowsOf a c x b ys os → y ∈ ys → ∃ o, StepsOf a c x y b o := by
    intro ys os h
    induction h with
    | nil =>
      intro h
      cases h
    | cons h _ ih =>
      intro hm
      rcases List.mem_cons.mp hm with rfl | hm
      · exact ⟨_, h⟩
      · exact ih hm
  obtain ⟨o, ho⟩ := this ys os h hy
  cases o with
  | none => exact ho
  | some p =>
    have := (metQ_mem h).mpr ⟨p.1, y, p.2, rfl, hy, ho⟩
    rw [e] at this
    cases this
theorem met_some {a c x : Int} {b : Nat} {ys : List Int} {os : List (Option (Nat × Nat))} (h : RowsOf a c x b ys os) {q : Int × Int} (hq : q ∈ metQ ys os) (hle : ∀ p ∈ metQ ys os, lexLe q p) : ∃ (n : Nat) (y : Int), q = ((n : Int), y) ∧ MetOf a c x b ys (some (n, y)) := by
  obtain ⟨n, y, L, rfl, hy, hs⟩ := (metQ_mem h).mp hq
  exact ⟨n, y, rfl, ⟨hy, L, hs⟩, fun y' n' L' h1 h2 => hle _ ((metQ_mem h).mpr ⟨n', y', L', rfl, h1, h2⟩)⟩
theorem met_uniq {a c x : Int} {b : Nat} {ys : List Int} {r r' : Option (Nat × Int)} (h : MetOf a c x b ys r) (h' : MetOf a c x b ys r') : r = r' := by
  cases r with
  | none =>
    cases r' with
    | none => rfl
    | some p =>
      obtain ⟨⟨h1, L, h2⟩, _⟩ := h'
      cases steps_uniq (h _ h1) h2
  | some p =>
    obtain ⟨⟨h1, L, h2⟩, h3⟩ := h
    cases r' with
    | none => cases steps_uniq (h' _ h1) h2
    | some p' =>
      obtain ⟨⟨h1', L', h2'⟩, h3'⟩ := h'
      have a1 := h3 _ _ _ h1' h2'
      have a2 := h3' _ _ _ h1 h2
      unfold lexLe at a1 a2
      dsimp only at a1 a2
      obtain ⟨n, y⟩ := p
      obtain ⟨n', y'⟩ := p'
      dsimp only at a1 a2
      have e1 : n = n' := by omega
      have e2 : y = y' := by omega
      rw [e1, e2]
theorem atI_lastM {α : Type} {xs : List α} {d : α} (h : xs[xs.length - 1]? = some d) : atI xs (-1) = some d := by
  have hl : 0 < xs.length := by
    rcases Nat.eq_zero_or_pos xs.length with g | g
    · rw [List.getElem?_eq_none (by omega)] at h
      cases h
    · exact g
  unfold atI ixN
  rw [if_neg (by decide), if_pos (by omega), show (-1 + (xs.length : Nat) : Int).toNat = xs.length - 1 by omega]
  exact h
theorem shps_intsM (n : Nat) : ∀ ns : List Int, shps (n + 1) (ns.map Dat.int) = true
  | [] => rfl
  | q :: fs => by
    rw [List.map_cons]
    unfold shps
    rw [shps_intsM n fs]
    rfl
theorem shp_intsM (ns : List Int) : shp 64 (.lst (ns.map Dat.int)) = true := shps_intsM 62 ns
theorem ne_met {o : Option (Nat × Int)} {M : MH} {Q : VKD} (h : Q (.bl false) M) : DL.rNeD (metD o) (metD o) M Q := by
  cases o with
  | none =>
    simp only [metD]
    (try simp only [dLcM, w_isiM, rReverseD, dMinDef, rInDic, rNotInDic, dIRL, dCallC, dCallG, dConsL, dLam, atDs, dCallV, dgU, dSortI, dIItems, dDicM, dDc, dLenSet, itemsD, w_lrg, w_index, w_sortQ, dCut, dDGet, dDGet1, dDGet2, dDPut, dPairs, w_disp, w_newDF, w_newDT, dec_self, List.map_cons, List.map_nil, eqD_bl, eqD_int, eqD_str, eqD_tup, eqD_lst, eqDs_nil, eqDs_nc, eqDs_cn, eqDs_cons, reduceIte, Bool.false_eq_true, Bool.not_true, Bool.not_false, decide_true, decide_false, dVar, atD, setD, startD, dC, dOp, dAnd, dOr, dNot, dIf, dUn, dNil, dCons, dTup, dLst, rInD, rNotInD, dNoPart, dPart, dRev, dFld, DL.fieldsOf, dCB, dNext, dSeq, dBreak, dCont, dDrop, dRet, dRetN, dIfS, dNever, dgN, dgNil, dgCons, dgSub, dAsg, dPar, dPar3, putD, dSetF, dMt, rAppendD, rPopD, rExtendD, lsT, lsR, lsF, itemsR, dFrz, dCall, dCallK, dMeth, dMake, dFor, dIL, dIT, dIR1, dIR2, dIE, dIZ, wipeD, dYes, dLc, dDic0, updM_same, cxOf, asBl_bl, asInt_int, asTup_tup, isN, w_test, w_chain, w_andV, w_orV, w_notV, w_neg, w_sub, w_div, w_mod, w_pow, w_shl, w_shr, w_and, w_or, w_xor, w_lt, w_le, w_gt, w_ge, w_add, w_addS, w_addT, w_addL, w_addF, w_addR, w_mul, w_mulL, w_eq, w_ne, w_isN, w_isB, w_isntN, w_isntB, w_ix, w_isi, w_abs, w_max2, w_min2, w_max1L, w_min1L, w_sum, w_all, w_any, w_len, w_int, w_intB, w_divmod, w_sorted, w_list, w_bits, w_sl, w_slL, w_slF, w_slR, w_slT, w_newF, w_newT, w_eqL, w_eqT, w_eqR, w_neL, w_neT, w_neR, w_dgT, w_derL, w_derT, w_derB, w_derI, w_derN, w_derS, w_eqSS, w_eqBB, w_neSS, w_neBB, w_eqBI, w_eqIN, w_neIN, w_eqNI, w_neNI, w_eqNN, w_neNN, w_NN, w_NI, w_IN])
    exact h
  | some p =>
    simp only [metD]
    (try simp only [dLcM, w_isiM, rReverseD, dMinDef, rInDic, rNotInDic, dIRL, dCallC, dCallG, dConsL, dLam, atDs, dCallV, dgU, dSortI, dIItems, dDicM, dDc, dLenSet, itemsD, w_lrg, w_index, w_sortQ, dCut, dDGet, dDGet1, dDGet2, dDPut, dPairs, w_disp, w_newDF, w_newDT, dec_self, List.map_cons, List.map_nil, eqD_bl, eqD_int, eqD_str, eqD_tup, eqD_lst, eqDs_nil, eqDs_nc, eqDs_cn, eqDs_cons, reduceIte, Bool.false_eq_true, Bool.not_true, Bool.not_false, decide_true, decide_false, dVar, atD, setD, startD, dC, dOp, dAnd, dOr, dNot, dIf, dUn, dNil, dCons, dTup, dLst, rInD, rNotInD, dNoPart, dPart, dRev, dFld, DL.fieldsOf, dCB, dNext, dSeq, dBreak, dCont, dDrop, dRet, dRetN, dIfS, dNever, dgN, dgNil, dgCons, dgSub, dAsg, dPar, dPar3, putD, dSetF, dMt, rAppendD, rPopD, rExtendD, lsT, lsR, lsF, itemsR, dFrz, dCall, dCallK, dMeth, dMake, dFor, dIL, dIT, dIR1, dIR2, dIE, dIZ, wipeD, dYes, dLc, dDic0, updM_same, cxOf, asBl_bl, asInt_int, asTup_tup, isN, w_test, w_chain, w_andV, w_orV, w_notV, w_neg, w_sub, w_div, w_mod, w_pow, w_shl, w_shr, w_and, w_or, w_xor, w_lt, w_le, w_gt, w_ge, w_add, w_addS, w_addT, w_addL, w_addF, w_addR, w_mul, w_mulL, w_eq, w_ne, w_isN, w_isB, w_isntN, w_isntB, w_ix, w_isi, w_abs, w_max2, w_min2, w_max1L, w_min1L, w_sum, w_all, w_any, w_len, w_int, w_intB, w_divmod, w_sorted, w_list, w_bits, w_sl, w_slL, w_slF, w_slR, w_slT, w_newF, w_newT, w_eqL, w_eqT, w_eqR, w_neL, w_neT, w_neR, w_dgT, w_derL, w_derT, w_derB, w_derI, w_derN, w_derS, w_eqSS, w_eqBB, w_neSS, w_neBB, w_eqBI, w_eqIN, w_neIN, w_eqNI, w_neNI, w_eqNN, w_neNN, w_NN, w_NI, w_IN])
    simp only [decide_true, Bool.and_self, Bool.not_true]
    exact ⟨rfl, rfl, h⟩
theorem met_head {a c x : Int} {b : Nat} {ys : List Int} {os : List (Option (Nat × Nat))} (h : RowsOf a c x b ys os) {qs : List (Int × Int)} (p1 : qs.Perm (metQ ys os)) (p2 : qs.Pairwise lexLe) : ∃ r, MetOf a c x b ys r ∧ atI (qs.map prD ++ [Dat.non]) 0 = some (metD r) := by
  cases qs with
  | nil => exact ⟨none, met_none h p1.symm.eq_nil, atI_nat (j := 0) rfl⟩
  | cons q qs =>
    obtain ⟨n, y, rfl, hm⟩ := met_some h (q := q) (p1.mem_iff.mp (by simp)) fun p hp => by
      rcases List.mem_cons.mp (p1.mem_iff.mpr hp) with rfl | hp
      · exact Or.inr ⟨rfl, Int.le_refl _⟩
      · cases p2 with
        | cons a _ => exact a _ hp
    exact ⟨some (n, y), hm, atI_nat (j := 0) rfl⟩
abbrev sp_fmet (C : Addr) : SpD := fun ds M Q => ∃ (b : Nat) (s : Bool) (a c x : Int) (p : Addr) (ys : List Int), ds = [kindD C b s, genD a c, .int x, .ref p] ∧ Wd b ∧ InK b s a ∧ InK b s c ∧ InK b s x ∧ M p = some (.lst (ys.map Dat.int)) ∧ 1 ≤ ys.length ∧ ys.length ≤ 20 ∧ (∀ y ∈ ys, InK b s y) ∧ ∀ r, MetOf a c x b ys r → Q (metD r) M
theorem ok_first_met (T : Txt K mg C_Kind) (F_check_generator : FnD P w K mg base 4 "check_generator" s_check_generator ["kind", "value"] (sp_chkg C_Kind)) (F_check_value : FnD P w K mg base 4 "check_value" s_check_value ["kind", "argument", "value"] (sp_chkv C_Kind)) (F_course : FnD P w K mg base 6 "course" s_course ["generator", "x", "y", "bits"] (sp_course2)) (F_is_value : FnD P w K mg base 3 "is_value" s_is_value ["kind", "x"] (sp_isvalue C_Kind)) : FnD P w K mg base 7 "first_met" s_first_met ["kind", "generator", "x", "some"] (sp_fmet C_Kind) := by
  refine fn_mk T.h_first_met sc_first_met 7 rfl (by intro ds M Q h; first | (obtain ⟨rfl, _⟩ := h; rfl) | (obtain ⟨_, rfl, _⟩ := h; rfl) | (obtain ⟨_, _, rfl, _⟩ := h; rfl) | (obtain ⟨_, _, _, rfl, _⟩ := h; rfl) | (obtain ⟨_, _, _, _, rfl, _⟩ := h; rfl) | (obtain ⟨_, _, _, _, _, rfl, _⟩ := h; rfl) | (obtain ⟨_, _, _, _, _, _, rfl, _⟩ := h; rfl) | (obtain ⟨_, _, _, _, _, _, _, rfl, _⟩ := h; rfl) | (obtain ⟨_, _, _, _, _, _, _, _, rfl, _⟩ := h; rfl) | (obtain ⟨_, _, _, _, _, _, _, _, _, rfl, _⟩ := h; rfl) | (obtain ⟨_, _, _, _, _, _, _, _, _, _, rfl, _⟩ := h; rfl) | (obtain ⟨_, _, _, _, _, _, _, _, _, _, _, rfl, _⟩ := h; rfl) | (obtain ⟨_, _, _, _, _, _, _, _, _, _, _, _, rfl, _⟩ := h; rfl)) (fun f cdv A outer s H E hr => ⟨_, (dss_stop (ds_expr (de_call F_check_generator hr (da_cons (dv 0) (da_cons (dv 1) da_nil))))
    (dss_stop (ds_expr (de_call F_check_value hr (da_cons (dv 0) (da_cons de_str (da_cons (dv 2) da_nil)))))
    (dss_stop (ds_if (dt_cut (dt_w (dw_or (dt_not (dt_val (de_cb (cd_isiM K rfl) (by rfl) T.b_isinstance (by decide +kernel) (da_cons (dv 3) (da_cons (de_ty .lst (by rfl) T.b_list (by decide +kernel)) da_nil))))) (dw_or (dt_not (dt_chain od_le od_le de_int (de_cb (cd_len) (by rfl) T.b_len PySem.boot_len (da_cons (dv 3) da_nil)) (de_gint (by rfl) T.g_MOST_VALUES))) (dw_or1 (dt_not (dt_val (de_cb (cd_all rfl) (by rfl) T.b_all (by decide +kernel) (da_cons (de_lcM false sc_first_met.nd (dv 3) (blkOk_by (own := [("y", 5)]) (N := ["kind", "generator", "x", "some", "found", "y", "steps"]) (sc := defScope s_first_met) (by decide +kernel)) (fun _ _ _ _ _ => (dgo_name (i := 5) (by decide) sc_first_met.nd rfl)) (fun _ _ _ _ _ => dts_nil) (fun _ _ _ _ _ => (de_call F_is_value hr (da_cons (dv 0) (da_cons (dv 5) da_nil))))) da_nil)))))))))
    (dss_one ds_never)
    dss_nil)
    (dss_stop (ds_setLcM (i := 4) false sc_first_met.nd (dv 3) (blkOk_by (own := [("y", 5)]) (N := ["kind", "generator", "x", "some", "found", "y", "steps"]) (sc := defScope s_first_met) (by decide +kernel)) (fun _ _ _ _ _ => (dgo_name (i := 5) (by decide) sc_first_met.nd rfl)) (fun _ _ _ _ _ => dts_nil) (fun _ _ _ _ _ => (de_tup (da_cons (de_call F_course hr (da_cons (dv 1) (da_cons (dv 2) (da_cons (dv 5) (da_cons (de_fld C_Kind 0 T.cl_Kind T.nf_Kind_bits (dv 0)) da_nil))))) (da_cons (dv 5) da_nil)))))
    (dss_one (ds_ret (de_minDefQ hr.units (da_cons (de_lc false sc_first_met.nd (di_lst (dv 4)) (blkOk_by (own := [("steps", 6), ("y", 5)]) (N := ["kind", "generator", "x", "some", "found", "y", "steps"]) (sc := defScope s_first_met) (by decide +kernel)) (fun _ _ _ _ _ => (dgo_tup (n := 2) (dgs_cons (dgo_name (i := 6) (by decide) sc_first_met.nd rfl) (dgs_cons (dgo_name (i := 5) (by decide) sc_first_met.nd rfl) dgs_nil)))) (fun _ _ _ _ _ => (dts_one (dt_cmp od_isnot (dv 6) de_non))) (fun _ _ _ _ _ => (de_tup (da_cons (de_ix (dv 6) de_int) (da_cons (dv 5) da_nil))))) da_nil) (dk_cons de_non dk_nil) T.b_min))))))), ?_⟩)
  rintro ds M Q ⟨b, s, a, c, x, p, ys, rfl, hb, ha, hc, hx, hM, h1, h20, hys, hQ⟩
  have hb2 := hb.2
  (refine stop_to ?_; (try simp only [dLcM, w_isiM, rReverseD, dMinDef, rInDic, rNotInDic, dIRL, dCallC, dCallG, dConsL, dLam, atDs, dCallV, dgU, dSortI, dIItems, dDicM, dDc, dLenSet, itemsD, w_lrg, w_index, w_sortQ, dCut, dDGet, dDGet1, dDGet2, dDPut, dPairs, w_disp, w_newDF, w_newDT, dec_self, List.map_cons, List.map_nil, eqD_bl, eqD_int, eqD_str, eqD_tup, eqD_lst, eqDs_nil, eqDs_nc, eqDs_cn, eqDs_cons, reduceIte, Bool.false_eq_true, Bool.not_true, Bool.not_false, decide_true, decide_false, dVar, atD, setD, startD, dC, dOp, dAnd, dOr, dNot, dIf, dUn, dNil, dCons, dTup, dLst, rInD, rNotInD, dNoPart, dPart, dRev, dFld, DL.fieldsOf, dCB, dNext, dSeq, dBreak, dCont, dDrop, dRet, dRetN, dIfS, dNever, dgN, dgNil, dgCons, dgSub, dAsg, dPar, dPar3, putD, dSetF, dMt, rAppendD, rPopD, rExtendD, lsT, lsR, lsF, itemsR, dFrz, dCall, dCallK, dMeth, dMake, dFor, dIL, dIT, dIR1, dIR2, dIE, dIZ, wipeD, dYes, dLc, dDic0, updM_same, cxOf, asBl_bl, asInt_int, asTup_tup, isN, w_test, w_chain, w_andV, w_orV, w_notV, w_neg, w_sub, w_div, w_mod, w_pow, w_shl, w_shr, w_and, w_or, w_xor, w_lt, w_le, w_gt, w_ge, w_add, w_addS, w_addT, w_addL, w_addF, w_addR, w_mul, w_mulL, w_eq, w_ne, w_isN, w_isB, w_isntN, w_isntB, w_ix, w_isi, w_abs, w_max2, w_min2, w_max1L, w_min1L, w_sum, w_all, w_any, w_len, w_int, w_intB, w_divmod, w_sorted, w_list, w_bits, w_sl, w_slL, w_slF, w_slR, w_slT, w_newF, w_newT, w_eqL, w_eqT, w_eqR, w_neL, w_neT, w_neR, w_dgT, w_derL, w_derT, w_derB, w_derI, w_derN, w_derS, w_eqSS, w_eqBB, w_neSS, w_neBB, w_eqBI, w_eqIN, w_neIN, w_eqNI, w_neNI, w_eqNN, w_neNN, w_NN, w_NI, w_IN]))
  refine ⟨b, s, a, c, rfl, hb, ha, hc, ?_⟩
  (refine stop_to ?_; (try simp only [dLcM, w_isiM, rReverseD, dMinDef, rInDic, rNotInDic, dIRL, dCallC, dCallG, dConsL, dLam, atDs, dCallV, dgU, dSortI, dIItems, dDicM, dDc, dLenSet, itemsD, w_lrg, w_index, w_sortQ, dCut, dDGet, dDGet1, dDGet2, dDPut, dPairs, w_disp, w_newDF, w_newDT, dec_self, List.map_cons, List.map_nil, eqD_bl, eqD_int, eqD_str, eqD_tup, eqD_lst, eqDs_nil, eqDs_nc, eqDs_cn, eqDs_cons, reduceIte, Bool.false_eq_true, Bool.not_true, Bool.not_false, decide_true, decide_false, dVar, atD, setD, startD, dC, dOp, dAnd, dOr, dNot, dIf, dUn, dNil, dCons, dTup, dLst, rInD, rNotInD, dNoPart, dPart, dRev, dFld, DL.fieldsOf, dCB, dNext, dSeq, dBreak, dCont, dDrop, dRet, dRetN, dIfS, dNever, dgN, dgNil, dgCons, dgSub, dAsg, dPar, dPar3, putD, dSetF, dMt, rAppendD, rPopD, rExtendD, lsT, lsR, lsF, itemsR, dFrz, dCall, dCallK, dMeth, dMake, dFor, dIL, dIT, dIR1, dIR2, dIE, dIZ, wipeD, dYes, dLc, dDic0, updM_same, cxOf, asBl_bl, asInt_int, asTup_tup, isN, w_test, w_chain, w_andV, w_orV, w_notV, w_neg, w_sub, w_div, w_mod, w_pow, w_shl, w_shr, w_and, w_or, w_xor, w_lt, w_le, w_gt, w_ge, w_add, w_addS, w_addT, w_addL, w_addF, w_addR, w_mul, w_mulL, w_eq, w_ne, w_isN, w_isB, w_isntN, w_isntB, w_ix, w_isi, w_abs, w_max2, w_min2, w_max1L, w_min1L, w_sum, w_all, w_any, w_len, w_int, w_intB, w_divmod, w_sorted, w_list, w_bits, w_sl, w_slL, w_slF, w_slR, w_slT, w_newF, w_newT, w_eqL, w_eqT, w_eqR, w_neL, w_neT, w_neR, w_dgT, w_derL, w_derT, w_derB, w_derI, w_derN, w_derS, w_eqSS, w_eqBB, w_neSS, w_neBB, w_eqBI, w_eqIN, w_neIN, w_eqNI, w_neNI, w_eqNN, w_neNN, w_NN, w_NI, w_IN]))
  refine ⟨b, s, _, x, rfl, hb, hx, ?_⟩
  (refine stop_to ?_; (try simp only [dLcM, w_isiM, rReverseD, dMinDef, rInDic, rNotInDic, dIRL, dCallC, dCallG, dConsL, dLam, atDs, dCallV, dgU, dSortI, dIItems, dDicM, dDc, dLenSet, itemsD, w_lrg, w_index, w_sortQ, dCut, dDGet, dDGet1, dDGet2, dDPut, dPairs, w_disp, w_newDF, w_newDT, dec_self, List.map_cons, List.map_nil, eqD_bl, eqD_int, eqD_str, eqD_tup, eqD_lst, eqDs_nil, eqDs_nc, eqDs_cn, eqDs_cons, reduceIte, Bool.false_eq_true, Bool.not_true, Bool.not_false, decide_true, decide_false, dVar, atD, setD, startD, dC, dOp, dAnd, dOr, dNot, dIf, dUn, dNil, dCons, dTup, dLst, rInD, rNotInD, dNoPart, dPart, dRev, dFld, DL.fieldsOf, dCB, dNext, dSeq, dBreak, dCont, dDrop, dRet, dRetN, dIfS, dNever, dgN, dgNil, dgCons, dgSub, dAsg, dPar, dPar3, putD, dSetF, dMt, rAppendD, rPopD, rExtendD, lsT, lsR, lsF, itemsR, dFrz, dCall, dCallK, dMeth, dMake, dFor, dIL, dIT, dIR1, dIR2, dIE, dIZ, wipeD, dYes, dLc, dDic0, updM_same, cxOf, asBl_bl, asInt_int, asTup_tup, isN, w_test, w_chain, w_andV, w_orV, w_notV, w_neg, w_sub, w_div, w_mod, w_pow, w_shl, w_shr, w_and, w_or, w_xor, w_lt, w_le, w_gt, w_ge, w_add, w_addS, w_addT, w_addL, w_addF, w_addR, w_mul, w_mulL, w_eq, w_ne, w_isN, w_isB, w_isntN, w_isntB, w_ix, w_isi, w_abs, w_max2, w_min2, w_max1L, w_min1L, w_sum, w_all, w_any, w_len, w_int, w_intB, w_divmod, w_sorted, w_list, w_bits, w_sl, w_slL, w_slF, w_slR, w_slT, w_newF, w_newT, w_eqL, w_eqT, w_eqR, w_neL, w_neT, w_neR, w_dgT, w_derL, w_derT, w_derB, w_derI, w_derN, w_derS, w_eqSS, w_eqBB, w_neSS, w_neBB, w_eqBI, w_eqIN, w_neIN, w_eqNI, w_neNI, w_eqNN, w_neNN, w_NN, w_NI, w_IN]))
  have hlen : (ys.map Dat.int).length ≤ sizeLine := by rw [List.length_map, sizeLine_eq]; omega
  refine cut_is false ?_ ?_
  · (try simp only [dLcM, w_isiM, rReverseD, dMinDef, rInDic, rNotInDic, dIRL, dCallC, dCallG, dConsL, dLam, atDs, dCallV, dgU, dSortI, dIItems, dDicM, dDc, dLenSet, itemsD, w_lrg, w_index, w_sortQ, dCut, dDGet, dDGet1, dDGet2, dDPut, dPairs, w_disp, w_newDF, w_newDT, dec_self, List.map_cons, List.map_nil, eqD_bl, eqD_int, eqD_str, eqD_tup, eqD_lst, eqDs_nil, eqDs_nc, eqDs_cn, eqDs_cons, reduceIte, Bool.false_eq_true, Bool.not_true, Bool.not_false, decide_true, decide_false, dVar, atD, setD, startD, dC, dOp, dAnd, dOr, dNot, dIf, dUn, dNil, dCons, dTup, dLst, rInD, rNotInD, dNoPart, dPart, dRev, dFld, DL.fieldsOf, dCB, dNext, dSeq, dBreak, dCont, dDrop, dRet, dRetN, dIfS, dNever, dgN, dgNil, dgCons, dgSub, dAsg, dPar, dPar3, putD, dSetF, dMt, rAppendD, rPopD, rExtendD, lsT, lsR, lsF, itemsR, dFrz, dCall, dCallK, dMeth, dMake, dFor, dIL, dIT, dIR1, dIR2, dIE, dIZ, wipeD, dYes, dLc, dDic0, updM_same, cxOf, asBl_bl, asInt_int, asTup_tup, isN, w_test, w_chain, w_andV, w_orV, w_notV, w_neg, w_sub, w_div, w_mod, w_pow, w_shl, w_shr, w_and, w_or, w_xor, w_lt, w_le, w_gt, w_ge, w_add, w_addS, w_addT, w_addL, w_addF, w_addR, w_mul, w_mulL, w_eq, w_ne, w_isN, w_isB, w_isntN, w_isntB, w_ix, w_isi, w_abs, w_max2, w_min2, w_max1L, w_min1L, w_sum, w_all, w_any, w_len, w_int, w_intB, w_divmod, w_sorted, w_list, w_bits, w_sl, w_slL, w_slF, w_slR, w_slT, w_newF, w_newT, w_eqL, w_eqT, w_eqR, w_neL, w_neT, w_neR, w_dgT, w_derL, w_derT, w_derB, w_derI, w_derN, w_derS, w_eqSS, w_eqBB, w_neSS, w_neBB, w_eqBI, w_eqIN, w_neIN, w_eqNI, w_neNI, w_eqNN, w_neNN, w_NN, w_NI, w_IN])
    refine ⟨_, hM, ?_⟩
    refine if_no rfl ?_
    rw [hM]
    refine ⟨_, rfl, ?_⟩
    (try simp only [dLcM, w_isiM, rReverseD, dMinDef, rInDic, rNotInDic, dIRL, dCallC, dCallG, dConsL, dLam, atDs, dCallV, dgU, dSortI, dIItems, dDicM, dDc, dLenSet, itemsD, w_lrg, w_index, w_sortQ, dCut, dDGet, dDGet1, dDGet2, dDPut, dPairs, w_disp, w_newDF, w_newDT, dec_self, List.map_cons, List.map_nil, eqD_bl, eqD_int, eqD_str, eqD_tup, eqD_lst, eqDs_nil, eqDs_nc, eqDs_cn, eqDs_cons, reduceIte, Bool.false_eq_true, Bool.not_true, Bool.not_false, decide_true, decide_false, dVar, atD, setD, startD, dC, dOp, dAnd, dOr, dNot, dIf, dUn, dNil, dCons, dTup, dLst, rInD, rNotInD, dNoPart, dPart, dRev, dFld, DL.fieldsOf, dCB, dNext, dSeq, dBreak, dCont, dDrop, dRet, dRetN, dIfS, dNever, dgN, dgNil, dgCons, dgSub, dAsg, dPar, dPar3, putD, dSetF, dMt, rAppendD, rPopD, rExtendD, lsT, lsR, lsF, itemsR, dFrz, dCall, dCallK, dMeth, dMake, dFor, dIL, dIT, dIR1, dIR2, dIE, dIZ, wipeD, dYes, dLc, dDic0, updM_same, cxOf, asBl_bl, asInt_int, asTup_tup, isN, w_test, w_chain, w_andV, w_orV, w_notV, w_neg, w_sub, w_div, w_mod, w_pow, w_shl, w_shr, w_and, w_or, w_xor, w_lt, w_le, w_gt, w_ge, w_add, w_addS, w_addT, w_addL, w_addF, w_addR, w_mul, w_mulL, w_eq, w_ne, w_isN, w_isB, w_isntN, w_isntB, w_ix, w_isi, w_abs, w_max2, w_min2, w_max1L, w_min1L, w_sum, w_all, w_any, w_len, w_int, w_intB, w_divmod, w_sorted, w_list, w_bits, w_sl, w_slL, w_slF, w_slR, w_slT, w_newF, w_newT, w_eqL, w_eqT, w_eqR, w_neL, w_neT, w_neR, w_dgT, w_derL, w_derT, w_derB, w_derI, w_derN, w_derS, w_eqSS, w_eqBB, w_neSS, w_neBB, w_eqBI, w_eqIN, w_neIN, w_eqNI, w_neNI, w_eqNN, w_neNN, w_NN, w_NI, w_IN])
    rw [List.length_map]
    refine if_yes (decide_eq_true (by omega)) ?_
    refine not_no (decide_eq_true (by omega)) ?_
    refine ⟨p, _, rfl, hM, hlen, ?_⟩
    refine lcM_by (fun r acc M' => M' = M ∧ ∃ ys1 ys2, ys = ys1 ++ ys2 ∧ r = ys2.map Dat.int ∧ acc = (ys1.map fun _ => true).map Dat.bl) ?_ ?_ _ _ _ ⟨rfl, [], ys, rfl, rfl, rfl⟩
    · rintro acc M' ⟨hM', ys1, ys2, e, e2, rfl⟩
      subst hM'
      cases ys2 with
      | cons y ys2 => cases e2
      | nil =>
      rw [List.append_nil] at e
      subst e
      refine ⟨hM, ?_⟩
      (try simp only [dLcM, w_isiM, rReverseD, dMinDef, rInDic, rNotInDic, dIRL, dCallC, dCallG, dConsL, dLam, atDs, dCallV, dgU, dSortI, dIItems, dDicM, dDc, dLenSet, itemsD, w_lrg, w_index, w_sortQ, dCut, dDGet, dDGet1, dDGet2, dDPut, dPairs, w_disp, w_newDF, w_newDT, dec_self, List.map_cons, List.map_nil, eqD_bl, eqD_int, eqD_str, eqD_tup, eqD_lst, eqDs_nil, eqDs_nc, eqDs_cn, eqDs_cons, reduceIte, Bool.false_eq_true, Bool.not_true, Bool.not_false, decide_true, decide_false, dVar, atD, setD, startD, dC, dOp, dAnd, dOr, dNot, dIf, dUn, dNil, dCons, dTup, dLst, rInD, rNotInD, dNoPart, dPart, dRev, dFld, DL.fieldsOf, dCB, dNext, dSeq, dBreak, dCont, dDrop, dRet, dRetN, dIfS, dNever, dgN, dgNil, dgCons, dgSub, dAsg, dPar, dPar3, putD, dSetF, dMt, rAppendD, rPopD, rExtendD, lsT, lsR, lsF, itemsR, dFrz, dCall, dCallK, dMeth, dMake, dFor, dIL, dIT, dIR1, dIR2, dIE, dIZ, wipeD, dYes, dLc, dDic0, updM_same, cxOf, asBl_bl, asInt_int, asTup_tup, isN, w_test, w_chain, w_andV, w_orV, w_notV, w_neg, w_sub, w_div, w_mod, w_pow, w_shl, w_shr, w_and, w_or, w_xor, w_lt, w_le, w_gt, w_ge, w_add, w_addS, w_addT, w_addL, w_addF, w_addR, w_mul, w_mulL, w_eq, w_ne, w_isN, w_isB, w_isntN, w_isntB, w_ix, w_isi, w_abs, w_max2, w_min2, w_max1L, w_min1L, w_sum, w_all, w_any, w_len, w_int, w_intB, w_divmod, w_sorted, w_list, w_bits, w_sl, w_slL, w_slF, w_slR, w_slT, w_newF, w_newT, w_eqL, w_eqT, w_eqR, w_neL, w_neT, w_neR, w_dgT, w_derL, w_derT, w_derB, w_derI, w_derN, w_derS, w_eqSS, w_eqBB, w_neSS, w_neBB, w_eqBI, w_eqIN, w_neIN, w_eqNI, w_neNI, w_eqNN, w_neNN, w_NN, w_NI, w_IN])
      refine ⟨_, rfl, ?_⟩
      rw [show ((ys.map fun _ => true).all id) = true by simp]
      (first | exact ⟨rfl, rfl⟩ | exact ⟨rfl, True.intro⟩ | exact ⟨True.intro, rfl⟩ | exact ⟨True.intro, True.intro⟩)
    · rintro d r acc M' k ⟨hM', ys1, ys2, e, e2, rfl⟩ hk
      subst hM'
      cases ys2 with
      | nil => cases e2
      | cons y ys2 =>
      injection e2 with q1 q2
      subst q1 q2
      refine ⟨hM, ?_⟩
      have hy := hys y (by rw [e]; simp)
      (try simp only [dLcM, w_isiM, rReverseD, dMinDef, rInDic, rNotInDic, dIRL, dCallC, dCallG, dConsL, dLam, atDs, dCallV, dgU, dSortI, dIItems, dDicM, dDc, dLenSet, itemsD, w_lrg, w_index, w_sortQ, dCut, dDGet, dDGet1, dDGet2, dDPut, dPairs, w_disp, w_newDF, w_newDT, dec_self, List.map_cons, List.map_nil, eqD_bl, eqD_int, eqD_str, eqD_tup, eqD_lst, eqDs_nil, eqDs_nc, eqDs_cn, eqDs_cons, reduceIte, Bool.false_eq_true, Bool.not_true, Bool.not_false, decide_true, decide_false, dVar, atD, setD, startD, dC, dOp, dAnd, dOr, dNot, dIf, dUn, dNil, dCons, dTup, dLst, rInD, rNotInD, dNoPart, dPart, dRev, dFld, DL.fieldsOf, dCB, dNext, dSeq, dBreak, dCont, dDrop, dRet, dRetN, dIfS, dNever, dgN, dgNil, dgCons, dgSub, dAsg, dPar, dPar3, putD, dSetF, dMt, rAppendD, rPopD, rExtendD, lsT, lsR, lsF, itemsR, dFrz, dCall, dCallK, dMeth, dMake, dFor, dIL, dIT, dIR1, dIR2, dIE, dIZ, wipeD, dYes, dLc, dDic0, updM_same, cxOf, asBl_bl, asInt_int, asTup_tup, isN, w_test, w_chain, w_andV, w_orV, w_notV, w_neg, w_sub, w_div, w_mod, w_pow, w_shl, w_shr, w_and, w_or, w_xor, w_lt, w_le, w_gt, w_ge, w_add, w_addS, w_addT, w_addL, w_addF, w_addR, w_mul, w_mulL, w_eq, w_ne, w_isN, w_isB, w_isntN, w_isntB, w_ix, w_isi, w_abs, w_max2, w_min2, w_max1L, w_min1L, w_sum, w_all, w_any, w_len, w_int, w_intB, w_divmod, w_sorted, w_list, w_bits, w_sl, w_slL, w_slF, w_slR, w_slT, w_newF, w_newT, w_eqL, w_eqT, w_eqR, w_neL, w_neT, w_neR, w_dgT, w_derL, w_derT, w_derB, w_derI, w_derN, w_derS, w_eqSS, w_eqBB, w_neSS, w_neBB, w_eqBI, w_eqIN, w_neIN, w_eqNI, w_neNI, w_eqNN, w_neNN, w_NN, w_NI, w_IN])
      refine ⟨b, s, .int y, rfl, hb, trivial, ?_⟩
      rw [show betw (.int y) (lowZ b s) (lowZ b s + 2 ^ b - 1) = true from decide_eq_true ⟨hy.1, by have := hy.2; omega⟩]
      refine hk _ _ ⟨rfl, ys1 ++ [y], ys2, by rw [e]; simp, rfl, by simp⟩
  (try simp only [dLcM, w_isiM, rReverseD, dMinDef, rInDic, rNotInDic, dIRL, dCallC, dCallG, dConsL, dLam, atDs, dCallV, dgU, dSortI, dIItems, dDicM, dDc, dLenSet, itemsD, w_lrg, w_index, w_sortQ, dCut, dDGet, dDGet1, dDGet2, dDPut, dPairs, w_disp, w_newDF, w_newDT, dec_self, List.map_cons, List.map_nil, eqD_bl, eqD_int, eqD_str, eqD_tup, eqD_lst, eqDs_nil, eqDs_nc, eqDs_cn, eqDs_cons, reduceIte, Bool.false_eq_true, Bool.not_true, Bool.not_false, decide_true, decide_false, dVar, atD, setD, startD, dC, dOp, dAnd, dOr, dNot, dIf, dUn, dNil, dCons, dTup, dLst, rInD, rNotInD, dNoPart, dPart, dRev, dFld, DL.fieldsOf, dCB, dNext, dSeq, dBreak, dCont, dDrop, dRet, dRetN, dIfS, dNever, dgN, dgNil, dgCons, dgSub, dAsg, dPar, dPar3, putD, dSetF, dMt, rAppendD, rPopD, rExtendD, lsT, lsR, lsF, itemsR, dFrz, dCall, dCallK, dMeth, dMake, dFor, dIL, dIT, dIR1, dIR2, dIE, dIZ, wipeD, dYes, dLc, dDic0, updM_same, cxOf, asBl_bl, asInt_int, asTup_tup, isN, w_test, w_chain, w_andV, w_orV, w_notV, w_neg, w_sub, w_div, w_mod, w_pow, w_shl, w_shr, w_and, w_or, w_xor, w_lt, w_le, w_gt, w_ge, w_add, w_addS, w_addT, w_addL, w_addF, w_addR, w_mul, w_mulL, w_eq, w_ne, w_isN, w_isB, w_isntN, w_isntB, w_ix, w_isi, w_abs, w_max2, w_min2, w_max1L, w_min1L, w_sum, w_all, w_any, w_len, w_int, w_intB, w_divmod, w_sorted, w_list, w_bits, w_sl, w_slL, w_slF, w_slR, w_slT, w_newF, w_newT, w_eqL, w_eqT, w_eqR, w_neL, w_neT, w_neR, w_dgT, w_derL, w_derT, w_derB, w_derI, w_derN, w_derS, w_eqSS, w_eqBB, w_neSS, w_neBB, w_eqBI, w_eqIN, w_neIN, w_eqNI, w_neNI, w_eqNN, w_neNN, w_NN, w_NI, w_IN])
  (refine stop_to ?_; (try simp only [dLcM, w_isiM, rReverseD, dMinDef, rInDic, rNotInDic, dIRL, dCallC, dCallG, dConsL, dLam, atDs, dCallV, dgU, dSortI, dIItems, dDicM, dDc, dLenSet, itemsD, w_lrg, w_index, w_sortQ, dCut, dDGet, dDGet1, dDGet2, dDPut, dPairs, w_disp, w_newDF, w_newDT, dec_self, List.map_cons, List.map_nil, eqD_bl, eqD_int, eqD_str, eqD_tup, eqD_lst, eqDs_nil, eqDs_nc, eqDs_cn, eqDs_cons, reduceIte, Bool.false_eq_true, Bool.not_true, Bool.not_false, decide_true, decide_false, dVar, atD, setD, startD, dC, dOp, dAnd, dOr, dNot, dIf, dUn, dNil, dCons, dTup, dLst, rInD, rNotInD, dNoPart, dPart, dRev, dFld, DL.fieldsOf, dCB, dNext, dSeq, dBreak, dCont, dDrop, dRet, dRetN, dIfS, dNever, dgN, dgNil, dgCons, dgSub, dAsg, dPar, dPar3, putD, dSetF, dMt, rAppendD, rPopD, rExtendD, lsT, lsR, lsF, itemsR, dFrz, dCall, dCallK, dMeth, dMake, dFor, dIL, dIT, dIR1, dIR2, dIE, dIZ, wipeD, dYes, dLc, dDic0, updM_same, cxOf, asBl_bl, asInt_int, asTup_tup, isN, w_test, w_chain, w_andV, w_orV, w_notV, w_neg, w_sub, w_div, w_mod, w_pow, w_shl, w_shr, w_and, w_or, w_xor, w_lt, w_le, w_gt, w_ge, w_add, w_addS, w_addT, w_addL, w_addF, w_addR, w_mul, w_mulL, w_eq, w_ne, w_isN, w_isB, w_isntN, w_isntB, w_ix, w_isi, w_abs, w_max2, w_min2, w_max1L, w_min1L, w_sum, w_all, w_any, w_len, w_int, w_intB, w_divmod, w_sorted, w_list, w_bits, w_sl, w_slL, w_slF, w_slR, w_slT, w_newF, w_newT, w_eqL, w_eqT, w_eqR, w_neL, w_neT, w_neR, w_dgT, w_derL, w_derT, w_derB, w_derI, w_derN, w_derS, w_eqSS, w_eqBB, w_neSS, w_neBB, w_eqBI, w_eqIN, w_neIN, w_eqNI, w_neNI, w_eqNN, w_neNN, w_NN, w_NI, w_IN]))
  refine ⟨p, _, rfl, hM, hlen, ?_⟩
  refine lcM_by (fun r acc M' => M' = M ∧ ∃ ys1 ys2 os, ys = ys1 ++ ys2 ∧ r = ys2.map Dat.int ∧ RowsOf a c x b ys1 os ∧ acc = List.zipWith (fun o y => Dat.tup [stepsD o, .int y]) os ys1) ?_ ?_ _ _ _ ⟨rfl, [], ys, [], rfl, rfl, .nil, rfl⟩
  · rintro acc M' ⟨hM', ys1, ys2, os, e, e2, hos, rfl⟩
    subst hM'
    cases ys2 with
    | cons y ys2 => cases e2
    | nil =>
    rw [List.append_nil] at e
    subst e
    refine ⟨hM, ?_⟩
    (try simp only [dLcM, w_isiM, rReverseD, dMinDef, rInDic, rNotInDic, dIRL, dCallC, dCallG, dConsL, dLam, atDs, dCallV, dgU, dSortI, dIItems, dDicM, dDc, dLenSet, itemsD, w_lrg, w_index, w_sortQ, dCut, dDGet, dDGet1, dDGet2, dDPut, dPairs, w_disp, w_newDF, w_newDT, dec_self, List.map_cons, List.map_nil, eqD_bl, eqD_int, eqD_str, eqD_tup, eqD_lst, eqDs_nil, eqDs_nc, eqDs_cn, eqDs_cons, reduceIte, Bool.false_eq_true, Bool.not_true, Bool.not_false, decide_true, decide_false, dVar, atD, setD, startD, dC, dOp, dAnd, dOr, dNot, dIf, dUn, dNil, dCons, dTup, dLst, rInD, rNotInD, dNoPart, dPart, dRev, dFld, DL.fieldsOf, dCB, dNext, dSeq, dBreak, dCont, dDrop, dRet, dRetN, dIfS, dNever, dgN, dgNil, dgCons, dgSub, dAsg, dPar, dPar3, putD, dSetF, dMt, rAppendD, rPopD, rExtendD, lsT, lsR, lsF, itemsR, dFrz, dCall, dCallK, dMeth, dMake, dFor, dIL, dIT, dIR1, dIR2, dIE, dIZ, wipeD, dYes, dLc, dDic0, updM_same, cxOf, asBl_bl, asInt_int, asTup_tup, isN, w_test, w_chain, w_andV, w_orV, w_notV, w_neg, w_sub, w_div, w_mod, w_pow, w_shl, w_shr, w_and, w_or, w_xor, w_lt, w_le, w_gt, w_ge, w_add, w_addS, w_addT, w_addL, w_addF, w_addR, w_mul, w_mulL, w_eq, w_ne, w_isN, w_isB, w_isntN, w_isntB, w_ix, w_isi, w_abs, w_max2, w_min2, w_max1L, w_min1L, w_sum, w_all, w_any, w_len, w_int, w_intB, w_divmod, w_sorted, w_list, w_bits, w_sl, w_slL, w_slF, w_slR, w_slT, w_newF, w_newT, w_eqL, w_eqT, w_eqR, w_neL, w_neT, w_neR, w_dgT, w_derL, w_derT, w_derB, w_derI, w_derN, w_derS, w_eqSS, w_eqBB, w_neSS, w_neBB, w_eqBI, w_eqIN, w_neIN, w_eqNI, w_neNI, w_eqNN, w_neNN, w_NN, w_NI, w_IN])
    refine ⟨_, rfl, by rw [List.length_zipWith, sizeLine_eq]; omega, ?_⟩
    refine lc_by (fun r acc M2 => M2 = M' ∧ ∃ ys1 ys2 os1 os2, ys = ys1 ++ ys2 ∧ os = os1 ++ os2 ∧ ys1.length = os1.length ∧ ys2.length = os2.length ∧ r = List.zipWith (fun o y => Dat.tup [stepsD o, .int y]) os2 ys2 ∧ acc = (metQ ys1 os1).map prD) ?_ ?_ _ _ _ ⟨rfl, [], ys, [], os, rfl, rfl, rfl, rows_len hos, rfl, rfl⟩
    · rintro acc M2 ⟨hM2, ys1, ys2, os1, os2, e, e2, l1, l2, e3, rfl⟩
      subst hM2
      have l3 := congrArg List.length e3
      rw [List.length_zipWith, List.length_nil] at l3
      have z1 : ys2 = [] := List.length_eq_zero_iff.mp (by omega)
      have z2 : os2 = [] := List.length_eq_zero_iff.mp (by omega)
      subst z1 z2
      rw [List.append_nil] at e e2
      subst e e2
      (try simp only [dLcM, w_isiM, rReverseD, dMinDef, rInDic, rNotInDic, dIRL, dCallC, dCallG, dConsL, dLam, atDs, dCallV, dgU, dSortI, dIItems, dDicM, dDc, dLenSet, itemsD, w_lrg, w_index, w_sortQ, dCut, dDGet, dDGet1, dDGet2, dDPut, dPairs, w_disp, w_newDF, w_newDT, dec_self, List.map_cons, List.map_nil, eqD_bl, eqD_int, eqD_str, eqD_tup, eqD_lst, eqDs_nil, eqDs_nc, eqDs_cn, eqDs_cons, reduceIte, Bool.false_eq_true, Bool.not_true, Bool.not_false, decide_true, decide_false, dVar, atD, setD, startD, dC, dOp, dAnd, dOr, dNot, dIf, dUn, dNil, dCons, dTup, dLst, rInD, rNotInD, dNoPart, dPart, dRev, dFld, DL.fieldsOf, dCB, dNext, dSeq, dBreak, dCont, dDrop, dRet, dRetN, dIfS, dNever, dgN, dgNil, dgCons, dgSub, dAsg, dPar, dPar3, putD, dSetF, dMt, rAppendD, rPopD, rExtendD, lsT, lsR, lsF, itemsR, dFrz, dCall, dCallK, dMeth, dMake, dFor, dIL, dIT, dIR1, dIR2, dIE, dIZ, wipeD, dYes, dLc, dDic0, updM_same, cxOf, asBl_bl, asInt_int, asTup_tup, isN, w_test, w_chain, w_andV, w_orV, w_notV, w_neg, w_sub, w_div, w_mod, w_pow, w_shl, w_shr, w_and, w_or, w_xor, w_lt, w_le, w_gt, w_ge, w_add, w_addS, w_addT, w_addL, w_addF, w_addR, w_mul, w_mulL, w_eq, w_ne, w_isN, w_isB, w_isntN, w_isntB, w_ix, w_isi, w_abs, w_max2, w_min2, w_max1L, w_min1L, w_sum, w_all, w_any, w_len, w_int, w_intB, w_divmod, w_sorted, w_list, w_bits, w_sl, w_slL, w_slF, w_slR, w_slT, w_newF, w_newT, w_eqL, w_eqT, w_eqR, w_neL, w_neT, w_neR, w_dgT, w_derL, w_derT, w_derB, w_derI, w_derN, w_derS, w_eqSS, w_eqBB, w_neSS, w_neBB, w_eqBI, w_eqIN, w_neIN, w_eqNI, w_neNI, w_eqNN, w_neNN, w_NN, w_NI, w_IN])
      refine ⟨_, _, metQ ys os, rfl, rfl, rfl, fun h => endD_of (hQ none (met_none hos h)), fun q hq hle => ?_⟩
      obtain ⟨n, y, rfl, hm⟩ := met_some hos hq hle
      exact endD_of (hQ (some (n, y)) hm)
    · rintro d r acc M2 k ⟨hM2, ys1, ys2, os1, os2, e, e2, l1, l2, e3, rfl⟩ hk
      subst hM2
      cases ys2 with
      | nil => cases os2 <;> cases e3
      | cons y ys2 =>
      cases os2 with
      | nil => cases e3
      | cons o os2 =>
      injection e3 with q1 q2
      subst q1 q2
      have hA := metQ_app ys1 os1 y o l1
      replace hk : ∀ acc, acc = (metQ (ys1 ++ [y]) (os1 ++ [o])).map prD → k acc M2 := fun acc h => hk _ _ ⟨rfl, ys1 ++ [y], ys2, os1 ++ [o], os2, by rw [e]; simp, by rw [e2]; simp, by simp [l1], by simpa using l2, rfl, h⟩
      (try simp only [dLcM, w_isiM, rReverseD, dMinDef, rInDic, rNotInDic, dIRL, dCallC, dCallG, dConsL, dLam, atDs, dCallV, dgU, dSortI, dIItems, dDicM, dDc, dLenSet, itemsD, w_lrg, w_index, w_sortQ, dCut, dDGet, dDGet1, dDGet2, dDPut, dPairs, w_disp, w_newDF, w_newDT, dec_self, List.map_cons, List.map_nil, eqD_bl, eqD_int, eqD_str, eqD_tup, eqD_lst, eqDs_nil, eqDs_nc, eqDs_cn, eqDs_cons, reduceIte, Bool.false_eq_true, Bool.not_true, Bool.not_false, decide_true, decide_false, dVar, atD, setD, startD, dC, dOp, dAnd, dOr, dNot, dIf, dUn, dNil, dCons, dTup, dLst, rInD, rNotInD, dNoPart, dPart, dRev, dFld, DL.fieldsOf, dCB, dNext, dSeq, dBreak, dCont, dDrop, dRet, dRetN, dIfS, dNever, dgN, dgNil, dgCons, dgSub, dAsg, dPar, dPar3, putD, dSetF, dMt, rAppendD, rPopD, rExtendD, lsT, lsR, lsF, itemsR, dFrz, dCall, dCallK, dMeth, dMake, dFor, dIL, dIT, dIR1, dIR2, dIE, dIZ, wipeD, dYes, dLc, dDic0, updM_same, cxOf, asBl_bl, asInt_int, asTup_tup, isN, w_test, w_chain, w_andV, w_orV, w_notV, w_neg, w_sub, w_div, w_mod, w_pow, w_shl, w_shr, w_and, w_or, w_xor, w_lt, w_le, w_gt, w_ge, w_add, w_addS, w_addT, w_addL, w_addF, w_addR, w_mul, w_mulL, w_eq, w_ne, w_isN, w_isB, w_isntN, w_isntB, w_ix, w_isi, w_abs, w_max2, w_min2, w_max1L, w_min1L, w_sum, w_all, w_any, w_len, w_int, w_intB, w_divmod, w_sorted, w_list, w_bits, w_sl, w_slL, w_slF, w_slR, w_slT, w_newF, w_newT, w_eqL, w_eqT, w_eqR, w_neL, w_neT, w_neR, w_dgT, w_derL, w_derT, w_derB, w_derI, w_derN, w_derS, w_eqSS, w_eqBB, w_neSS, w_neBB, w_eqBI, w_eqIN, w_neIN, w_eqNI, w_neNI, w_eqNN, w_neNN, w_NN, w_NI, w_IN])
      cases o with
      | none =>
        simp only [stepsD]
        (try simp only [dLcM, w_isiM, rReverseD, dMinDef, rInDic, rNotInDic, dIRL, dCallC, dCallG, dConsL, dLam, atDs, dCallV, dgU, dSortI, dIItems, dDicM, dDc, dLenSet, itemsD, w_lrg, w_index, w_sortQ, dCut, dDGet, dDGet1, dDGet2, dDPut, dPairs, w_disp, w_newDF, w_newDT, dec_self, List.map_cons, List.map_nil, eqD_bl, eqD_int, eqD_str, eqD_tup, eqD_lst, eqDs_nil, eqDs_nc, eqDs_cn, eqDs_cons, reduceIte, Bool.false_eq_true, Bool.not_true, Bool.not_false, decide_true, decide_false, dVar, atD, setD, startD, dC, dOp, dAnd, dOr, dNot, dIf, dUn, dNil, dCons, dTup, dLst, rInD, rNotInD, dNoPart, dPart, dRev, dFld, DL.fieldsOf, dCB, dNext, dSeq, dBreak, dCont, dDrop, dRet, dRetN, dIfS, dNever, dgN, dgNil, dgCons, dgSub, dAsg, dPar, dPar3, putD, dSetF, dMt, rAppendD, rPopD, rExtendD, lsT, lsR, lsF, itemsR, dFrz, dCall, dCallK, dMeth, dMake, dFor, dIL, dIT, dIR1, dIR2, dIE, dIZ, wipeD, dYes, dLc, dDic0, updM_same, cxOf, asBl_bl, asInt_int, asTup_tup, isN, w_test, w_chain, w_andV, w_orV, w_notV, w_neg, w_sub, w_div, w_mod, w_pow, w_shl, w_shr, w_and, w_or, w_xor, w_lt, w_le, w_gt, w_ge, w_add, w_addS, w_addT, w_addL, w_addF, w_addR, w_mul, w_mulL, w_eq, w_ne, w_isN, w_isB, w_isntN, w_isntB, w_ix, w_isi, w_abs, w_max2, w_min2, w_max1L, w_min1L, w_sum, w_all, w_any, w_len, w_int, w_intB, w_divmod, w_sorted, w_list, w_bits, w_sl, w_slL, w_slF, w_slR, w_slT, w_newF, w_newT, w_eqL, w_eqT, w_eqR, w_neL, w_neT, w_neR, w_dgT, w_derL, w_derT, w_derB, w_derI, w_derN, w_derS, w_eqSS, w_eqBB, w_neSS, w_neBB, w_eqBI, w_eqIN, w_neIN, w_eqNI, w_neNI, w_eqNN, w_neNN, w_NN, w_NI, w_IN])
        refine ⟨rfl, hk _ ?_⟩
        rw [hA]
        simp
      | some q =>
        simp only [stepsD]
        (try simp only [dLcM, w_isiM, rReverseD, dMinDef, rInDic, rNotInDic, dIRL, dCallC, dCallG, dConsL, dLam, atDs, dCallV, dgU, dSortI, dIItems, dDicM, dDc, dLenSet, itemsD, w_lrg, w_index, w_sortQ, dCut, dDGet, dDGet1, dDGet2, dDPut, dPairs, w_disp, w_newDF, w_newDT, dec_self, List.map_cons, List.map_nil, eqD_bl, eqD_int, eqD_str, eqD_tup, eqD_lst, eqDs_nil, eqDs_nc, eqDs_cn, eqDs_cons, reduceIte, Bool.false_eq_true, Bool.not_true, Bool.not_false, decide_true, decide_false, dVar, atD, setD, startD, dC, dOp, dAnd, dOr, dNot, dIf, dUn, dNil, dCons, dTup, dLst, rInD, rNotInD, dNoPart, dPart, dRev, dFld, DL.fieldsOf, dCB, dNext, dSeq, dBreak, dCont, dDrop, dRet, dRetN, dIfS, dNever, dgN, dgNil, dgCons, dgSub, dAsg, dPar, dPar3, putD, dSetF, dMt, rAppendD, rPopD, rExtendD, lsT, lsR, lsF, itemsR, dFrz, dCall, dCallK, dMeth, dMake, dFor, dIL, dIT, dIR1, dIR2, dIE, dIZ, wipeD, dYes, dLc, dDic0, updM_same, cxOf, asBl_bl, asInt_int, asTup_tup, isN, w_test, w_chain, w_andV, w_orV, w_notV, w_neg, w_sub, w_div, w_mod, w_pow, w_shl, w_shr, w_and, w_or, w_xor, w_lt, w_le, w_gt, w_ge, w_add, w_addS, w_addT, w_addL, w_addF, w_addR, w_mul, w_mulL, w_eq, w_ne, w_isN, w_isB, w_isntN, w_isntB, w_ix, w_isi, w_abs, w_max2, w_min2, w_max1L, w_min1L, w_sum, w_all, w_any, w_len, w_int, w_intB, w_divmod, w_sorted, w_list, w_bits, w_sl, w_slL, w_slF, w_slR, w_slT, w_newF, w_newT, w_eqL, w_eqT, w_eqR, w_neL, w_neT, w_neR, w_dgT, w_derL, w_derT, w_derB, w_derI, w_derN, w_derS, w_eqSS, w_eqBB, w_neSS, w_neBB, w_eqBI, w_eqIN, w_neIN, w_eqNI, w_neNI, w_eqNN, w_neNN, w_NN, w_NI, w_IN])
        refine ⟨rfl, _, _, rfl, atI_nat (j := 0) rfl, lit_len (n := 2) (by decide), hk _ ?_⟩
        rw [hA]
        simp
  · rintro d r acc M' k ⟨hM', ys1, ys2, os, e, e2, hos, rfl⟩ hk
    subst hM'
    cases ys2 with
    | nil => cases e2
    | cons y ys2 =>
    injection e2 with q1 q2
    subst q1 q2
    refine ⟨hM, ?_⟩
    have hy := hys y (by rw [e]; simp)
    (try simp only [dLcM, w_isiM, rReverseD, dMinDef, rInDic, rNotInDic, dIRL, dCallC, dCallG, dConsL, dLam, atDs, dCallV, dgU, dSortI, dIItems, dDicM, dDc, dLenSet, itemsD, w_lrg, w_index, w_sortQ, dCut, dDGet, dDGet1, dDGet2, dDPut, dPairs, w_disp, w_newDF, w_newDT, dec_self, List.map_cons, List.map_nil, eqD_bl, eqD_int, eqD_str, eqD_tup, eqD_lst, eqDs_nil, eqDs_nc, eqDs_cn, eqDs_cons, reduceIte, Bool.false_eq_true, Bool.not_true, Bool.not_false, decide_true, decide_false, dVar, atD, setD, startD, dC, dOp, dAnd, dOr, dNot, dIf, dUn, dNil, dCons, dTup, dLst, rInD, rNotInD, dNoPart, dPart, dRev, dFld, DL.fieldsOf, dCB, dNext, dSeq, dBreak, dCont, dDrop, dRet, dRetN, dIfS, dNever, dgN, dgNil, dgCons, dgSub, dAsg, dPar, dPar3, putD, dSetF, dMt, rAppendD, rPopD, rExtendD, lsT, lsR, lsF, itemsR, dFrz, dCall, dCallK, dMeth, dMake, dFor, dIL, dIT, dIR1, dIR2, dIE, dIZ, wipeD, dYes, dLc, dDic0, updM_same, cxOf, asBl_bl, asInt_int, asTup_tup, isN, w_test, w_chain, w_andV, w_orV, w_notV, w_neg, w_sub, w_div, w_mod, w_pow, w_shl, w_shr, w_and, w_or, w_xor, w_lt, w_le, w_gt, w_ge, w_add, w_addS, w_addT, w_addL, w_addF, w_addR, w_mul, w_mulL, w_eq, w_ne, w_isN, w_isB, w_isntN, w_isntB, w_ix, w_isi, w_abs, w_max2, w_min2, w_max1L, w_min1L, w_sum, w_all, w_any, w_len, w_int, w_intB, w_divmod, w_sorted, w_list, w_bits, w_sl, w_slL, w_slF, w_slR, w_slT, w_newF, w_newT, w_eqL, w_eqT, w_eqR, w_neL, w_neT, w_neR, w_dgT, w_derL, w_derT, w_derB, w_derI, w_derN, w_derS, w_eqSS, w_eqBB, w_neSS, w_neBB, w_eqBI, w_eqIN, w_neIN, w_eqNI, w_neNI, w_eqNN, w_neNN, w_NN, w_NI, w_IN])
    refine ⟨_, _, rfl, rfl, a, c, x, y, b, rfl, in_small hb ha, in_small hb hc, in_small hb hx, in_small hb hy, by omega, fun o ho => ?_⟩
    (try simp only [dLcM, w_isiM, rReverseD, dMinDef, rInDic, rNotInDic, dIRL, dCallC, dCallG, dConsL, dLam, atDs, dCallV, dgU, dSortI, dIItems, dDicM, dDc, dLenSet, itemsD, w_lrg, w_index, w_sortQ, dCut, dDGet, dDGet1, dDGet2, dDPut, dPairs, w_disp, w_newDF, w_newDT, dec_self, List.map_cons, List.map_nil, eqD_bl, eqD_int, eqD_str, eqD_tup, eqD_lst, eqDs_nil, eqDs_nc, eqDs_cn, eqDs_cons, reduceIte, Bool.false_eq_true, Bool.not_true, Bool.not_false, decide_true, decide_false, dVar, atD, setD, startD, dC, dOp, dAnd, dOr, dNot, dIf, dUn, dNil, dCons, dTup, dLst, rInD, rNotInD, dNoPart, dPart, dRev, dFld, DL.fieldsOf, dCB, dNext, dSeq, dBreak, dCont, dDrop, dRet, dRetN, dIfS, dNever, dgN, dgNil, dgCons, dgSub, dAsg, dPar, dPar3, putD, dSetF, dMt, rAppendD, rPopD, rExtendD, lsT, lsR, lsF, itemsR, dFrz, dCall, dCallK, dMeth, dMake, dFor, dIL, dIT, dIR1, dIR2, dIE, dIZ, wipeD, dYes, dLc, dDic0, updM_same, cxOf, asBl_bl, asInt_int, asTup_tup, isN, w_test, w_chain, w_andV, w_orV, w_notV, w_neg, w_sub, w_div, w_mod, w_pow, w_shl, w_shr, w_and, w_or, w_xor, w_lt, w_le, w_gt, w_ge, w_add, w_addS, w_addT, w_addL, w_addF, w_addR, w_mul, w_mulL, w_eq, w_ne, w_isN, w_isB, w_isntN, w_isntB, w_ix, w_isi, w_abs, w_max2, w_min2, w_max1L, w_min1L, w_sum, w_all, w_any, w_len, w_int, w_intB, w_divmod, w_sorted, w_list, w_bits, w_sl, w_slL, w_slF, w_slR, w_slT, w_newF, w_newT, w_eqL, w_eqT, w_eqR, w_neL, w_neT, w_neR, w_dgT, w_derL, w_derT, w_derB, w_derI, w_derN, w_derS, w_eqSS, w_eqBB, w_neSS, w_neBB, w_eqBI, w_eqIN, w_neIN, w_eqNI, w_neNI, w_eqNN, w_neNN, w_NN, w_NI, w_IN])
    refine ⟨lit_len (n := 2) (by decide), hk _ _ ⟨rfl, ys1 ++ [y], ys2, os ++ [o], by rw [e]; simp, rfl, rows_app hos ho, ?_⟩⟩
    rw [List.zipWith_append (by exact (rows_len hos).symm)]
    rfl
abbrev sp_lright : SpD := fun ds M Q => ∃ (a : Addr), ds = [.ref a] ∧ Src M a ∧ ∀ M', SrcTo a M M' → Q (.bl true) M'
theorem ok__law_right (T : Txt K mg C_Kind) (F__law_draw_kind : FnD P w K mg base 5 "_law_draw_kind" s__law_draw_kind ["_law_source", "_law_most"] (sp_drawk C_Kind)) (F__law_one : FnD P w K mg base 2 "_law_one" s__law_one ["_law_source", "_law_some"] (sp_one)) (F__law_draw_pair : FnD P w K mg base 4 "_law_draw_pair" s__law_draw_pair ["_law_source", "_law_low", "_law_size"] (sp_pair)) (F__law_value : FnD P w K mg base 3 "_law_value" s__law_value ["_law_source", "_law_low", "_law_size"] (sp_value)) (F__law_wide : FnD P w K mg base 2 "_law_wide" s__law_wide ["_law_source", "_law_m"] (sp_wide)) (F_stepped : FnD P w K mg base 5 "stepped" s_stepped ["kind", "generator", "x", "n"] (sp_stepped C_Kind)) (F__law_next : FnD P w K mg base 1 "_law_next" s__law_next ["_law_source", "_law_many"] (sp_next)) (F_steps_between : FnD P w K mg base 8 "steps_between" s_steps_between ["kind", "generator", "x", "y"] (sp_btw C_Kind)) (F_first_met : FnD P w K mg base 7 "first_met" s_first_met ["kind", "generator", "x", "some"] (sp_fmet C_Kind)) : FnD P w K mg base 9 "_law_right" s__law_right ["_law_source"] (sp_lright) := by
  refine fn_mk T.h__law_right sc__law_right 14 rfl (by intro ds M Q h; first | (obtain ⟨rfl, _⟩ := h; rfl) | (obtain ⟨_, rfl, _⟩ := h; rfl) | (obtain ⟨_, _, rfl, _⟩ := h; rfl) | (obtain ⟨_, _, _, rfl, _⟩ := h; rfl) | (obtain ⟨_, _, _, _, rfl, _⟩ := h; rfl) | (obtain ⟨_, _, _, _, _, rfl, _⟩ := h; rfl) | (obtain ⟨_, _, _, _, _, _, rfl, _⟩ := h; rfl) | (obtain ⟨_, _, _, _, _, _, _, rfl, _⟩ := h; rfl) | (obtain ⟨_, _, _, _, _, _, _, _, rfl, _⟩ := h; rfl) | (obtain ⟨_, _, _, _, _, _, _, _, _, rfl, _⟩ := h; rfl) | (obtain ⟨_, _, _, _, _, _, _, _, _, _, rfl, _⟩ := h; rfl) | (obtain ⟨_, _, _, _, _, _, _, _, _, _, _, rfl, _⟩ := h; rfl) | (obtain ⟨_, _, _, _, _, _, _, _, _, _, _, _, rfl, _⟩ := h; rfl)) (fun f cdv A outer s H E hr => ⟨_, (dss_stop (ds_asg (de_call F__law_draw_kind hr (da_cons (dv 0) (da_cons (de_call F__law_one hr (da_cons (dv 0) (da_cons (de_lst false (da_cons de_int (da_cons de_int (da_cons de_int da_nil)))) da_nil))) da_nil))) (DGo.dg (vs := [1, 2, 3]) (dgo_tup (n := 3) (dgs_cons (dgo_name (i := 1) (by decide) sc__law_right.nd rfl) (dgs_cons (dgo_name (i := 2) (by decide) sc__law_right.nd rfl) (dgs_cons (dgo_name (i := 3) (by decide) sc__law_right.nd rfl) dgs_nil))))))
    (dss_stop (ds_asg (de_tup (da_cons (de_call F__law_draw_pair hr (da_cons (dv 0) (da_cons (dv 2) (da_cons (dv 3) da_nil)))) (da_cons (de_call F__law_value hr (da_cons (dv 0) (da_cons (dv 2) (da_cons (dv 3) da_nil)))) (da_cons (de_lst true da_nil) da_nil)))) (DGo.dg (vs := [4, 5, 6]) (dgo_tup (n := 3) (dgs_cons (dgo_name (i := 4) (by decide) sc__law_right.nd rfl) (dgs_cons (dgo_name (i := 5) (by decide) sc__law_right.nd rfl) (dgs_cons (dgo_name (i := 6) (by decide) sc__law_right.nd rfl) dgs_nil))))))
    (dss_stop (ds_for (di_rng1 T.b_range (da_cons (de_op (od_add false) de_int (de_call F__law_next hr (da_cons (dv 0) (da_cons (de_call F__law_one hr (da_cons (dv 0) (da_cons (de_lst false (da_cons de_int (da_cons de_int (da_cons de_int da_nil)))) da_nil))) da_nil)))) da_nil)) (dg_name (i := 7) sc__law_right.nd)
    (dss_stop (ds_set (i := 8) sc__law_right.nd (de_call F__law_wide hr (da_cons (dv 0) (da_cons (de_call F__law_one hr (da_cons (dv 0) (da_cons (de_lst false (da_cons de_int (da_cons (de_op od_pow de_int de_int) da_nil))) da_nil))) da_nil))))
    (dss_one (ds_expr (de_mt PySem.F.slot_list_append PySem.F.type_list_append md_append (dv 6) (da_cons (de_call F__law_one hr (da_cons (dv 0) (da_cons (de_lst false (da_cons (de_call F_stepped hr (da_cons (dv 1) (da_cons (dv 4) (da_cons (dv 5) (da_cons (dv 8) da_nil))))) (da_cons (de_call F__law_value hr (da_cons (dv 0) (da_cons (dv 2) (da_cons (dv 3) da_nil)))) (da_cons (de_ix (de_op (od_add false) (dv 6) (de_lst false (da_cons (dv 5) da_nil))) de_int) da_nil)))) da_nil))) da_nil))))))
    (dss_stop (ds_for (di_rng1 T.b_range (da_cons de_int da_nil)) (dg_name (i := 9) sc__law_right.nd)
    (dss_stop (ds_set (i := 10) sc__law_right.nd (de_ct (cd_list false) (by rfl) T.b_list (by decide +kernel) (da_cons (dv 6) da_nil)))
    (dss_stop (ds_setLcM (i := 11) false sc__law_right.nd (dv 6) (blkOk_by (own := [("_law_y", 12)]) (N := ["_law_source", "_law_kind", "_law_low", "_law_size", "_law_pair", "_law_x", "_law_some", "_law_turn", "_law_n", "_law_again", "_law_kept", "_law_rows", "_law_y", "_law_row"]) (sc := defScope s__law_right) (by decide +kernel)) (fun _ _ _ _ _ => (dgo_name (i := 12) (by decide) sc__law_right.nd rfl)) (fun _ _ _ _ _ => dts_nil) (fun _ _ _ _ _ => (de_tup (da_cons (de_call F_steps_between hr (da_cons (dv 1) (da_cons (dv 4) (da_cons (dv 5) (da_cons (dv 12) da_nil))))) (da_cons (dv 12) da_nil)))))
    (dss_stop (ds_set (i := 11) sc__law_right.nd (de_cb (cd_sortQ false) (by rfl) T.b_sorted (by decide +kernel) (da_cons (de_lc false sc__law_right.nd (di_lst (dv 11)) (blkOk_by (own := [("_law_row", 13)]) (N := ["_law_source", "_law_kind", "_law_low", "_law_size", "_law_pair", "_law_x", "_law_some", "_law_turn", "_law_n", "_law_again", "_law_kept", "_law_rows", "_law_y", "_law_row"]) (sc := defScope s__law_right) (by decide +kernel)) (fun _ _ _ _ _ => (dgo_name (i := 13) (by decide) sc__law_right.nd rfl)) (fun _ _ _ _ _ => (dts_one (dt_cmp od_isnot (de_ix (dv 13) de_int) de_non))) (fun _ _ _ _ _ => (dv 13))) da_nil)))
    (dss_stop (ds_if (dt_cut (dt_w (dw_or (dt_cmp (od_ne hr.units) (de_call F_first_met hr (da_cons (dv 1) (da_cons (dv 4) (da_cons (dv 5) (da_cons (dv 6) da_nil))))) (de_ix (de_op (od_add false) (dv 11) (de_lst false (da_cons de_non da_nil))) de_int)) (dw_or1 (dt_cmp (od_ne hr.units) (dv 6) (dv 10))))))
    (dss_one (ds_ret de_bl))
    dss_nil)
    (dss_stop (ds_asg (de_call F_stepped hr (da_cons (dv 1) (da_cons (dv 4) (da_cons (de_ix (dv 6) (de_neg de_int)) (da_cons (de_call F__law_next hr (da_cons (dv 0) (da_cons de_int da_nil))) da_nil))))) (dg_sub (dv 6) de_int))
    (dss_one (ds_expr (de_mt0 PySem.F.slot_list_reverse PySem.F.type_list_reverse md_reverse (dv 6))))))))))
    (dss_one (ds_ret de_bl)))))), ?_⟩)
  rintro ds M Q ⟨src, rfl, hM, hQ⟩
  (refine stop_to ?_; (try simp only [dLcM, w_isiM, rReverseD, dMinDef, rInDic, rNotInDic, dIRL, dCallC, dCallG, dConsL, dLam, atDs, dCallV, dgU, dSortI, dIItems, dDicM, dDc, dLenSet, itemsD, w_lrg, w_index, w_sortQ, dCut, dDGet, dDGet1, dDGet2, dDPut, dPairs, w_disp, w_newDF, w_newDT, dec_self, List.map_cons, List.map_nil, eqD_bl, eqD_int, eqD_str, eqD_tup, eqD_lst, eqDs_nil, eqDs_nc, eqDs_cn, eqDs_cons, reduceIte, Bool.false_eq_true, Bool.not_true, Bool.not_false, decide_true, decide_false, dVar, atD, setD, startD, dC, dOp, dAnd, dOr, dNot, dIf, dUn, dNil, dCons, dTup, dLst, rInD, rNotInD, dNoPart, dPart, dRev, dFld, DL.fieldsOf, dCB, dNext, dSeq, dBreak, dCont, dDrop, dRet, dRetN, dIfS, dNever, dgN, dgNil, dgCons, dgSub, dAsg, dPar, dPar3, putD, dSetF, dMt, rAppendD, rPopD, rExtendD, lsT, lsR, lsF, itemsR, dFrz, dCall, dCallK, dMeth, dMake, dFor, dIL, dIT, dIR1, dIR2, dIE, dIZ, wipeD, dYes, dLc, dDic0, updM_same, cxOf, asBl_bl, asInt_int, asTup_tup, isN, w_test, w_chain, w_andV, w_orV, w_notV, w_neg, w_sub, w_div, w_mod, w_pow, w_shl, w_shr, w_and, w_or, w_xor, w_lt, w_le, w_gt, w_ge, w_add, w_addS, w_addT, w_addL, w_addF, w_addR, w_mul, w_mulL, w_eq, w_ne, w_isN, w_isB, w_isntN, w_isntB, w_ix, w_isi, w_abs, w_max2, w_min2, w_max1L, w_min1L, w_sum, w_all, w_any, w_len, w_int, w_intB, w_divmod, w_sorted, w_list, w_bits, w_sl, w_slL, w_slF, w_slR, w_slT, w_newF, w_newT, w_eqL, w_eqT, w_eqR, w_neL, w_neT, w_neR, w_dgT, w_derL, w_derT, w_derB, w_derI, w_derN, w_derS, w_eqSS, w_eqBB, w_neSS, w_neBB, w_eqBI, w_eqIN, w_neIN, w_eqNI, w_neNI, w_eqNN, w_neNN, w_NN, w_NI, w_IN]))
  refine ⟨lit_len (n := 3) (by decide), src, _, rfl, hM, (by decide : 0 < 3), (by decide : 3 < 1000), fun d M1 hd hs1 => ?_⟩
  obtain ⟨m, rfl, hm1, hm2⟩ : ∃ e : Nat, d = .int (e : Nat) ∧ 1 ≤ e ∧ e ≤ 128 := by
    simp only [List.mem_cons, List.not_mem_nil, or_false] at hd
    rcases hd with rfl | rfl | rfl
    · exact ⟨4, rfl, by decide, by decide⟩
    · exact ⟨40, rfl, by decide, by decide⟩
    · exact ⟨128, rfl, by decide, by decide⟩
  refine ⟨src, m, rfl, hs1.src, hm1, hm2, fun b s M2 hb _ hs2 => ?_⟩
  have hp := two_pos b
  have hb2 := hb.2
  have hbig : (2 : Int) ^ b < 2 ^ 9000 := Int.lt_of_le_of_lt (pow_mono hb.2) (by decide +kernel)
  (try simp only [dLcM, w_isiM, rReverseD, dMinDef, rInDic, rNotInDic, dIRL, dCallC, dCallG, dConsL, dLam, atDs, dCallV, dgU, dSortI, dIItems, dDicM, dDc, dLenSet, itemsD, w_lrg, w_index, w_sortQ, dCut, dDGet, dDGet1, dDGet2, dDPut, dPairs, w_disp, w_newDF, w_newDT, dec_self, List.map_cons, List.map_nil, eqD_bl, eqD_int, eqD_str, eqD_tup, eqD_lst, eqDs_nil, eqDs_nc, eqDs_cn, eqDs_cons, reduceIte, Bool.false_eq_true, Bool.not_true, Bool.not_false, decide_true, decide_false, dVar, atD, setD, startD, dC, dOp, dAnd, dOr, dNot, dIf, dUn, dNil, dCons, dTup, dLst, rInD, rNotInD, dNoPart, dPart, dRev, dFld, DL.fieldsOf, dCB, dNext, dSeq, dBreak, dCont, dDrop, dRet, dRetN, dIfS, dNever, dgN, dgNil, dgCons, dgSub, dAsg, dPar, dPar3, putD, dSetF, dMt, rAppendD, rPopD, rExtendD, lsT, lsR, lsF, itemsR, dFrz, dCall, dCallK, dMeth, dMake, dFor, dIL, dIT, dIR1, dIR2, dIE, dIZ, wipeD, dYes, dLc, dDic0, updM_same, cxOf, asBl_bl, asInt_int, asTup_tup, isN, w_test, w_chain, w_andV, w_orV, w_notV, w_neg, w_sub, w_div, w_mod, w_pow, w_shl, w_shr, w_and, w_or, w_xor, w_lt, w_le, w_gt, w_ge, w_add, w_addS, w_addT, w_addL, w_addF, w_addR, w_mul, w_mulL, w_eq, w_ne, w_isN, w_isB, w_isntN, w_isntB, w_ix, w_isi, w_abs, w_max2, w_min2, w_max1L, w_min1L, w_sum, w_all, w_any, w_len, w_int, w_intB, w_divmod, w_sorted, w_list, w_bits, w_sl, w_slL, w_slF, w_slR, w_slT, w_newF, w_newT, w_eqL, w_eqT, w_eqR, w_neL, w_neT, w_neR, w_dgT, w_derL, w_derT, w_derB, w_derI, w_derN, w_derS, w_eqSS, w_eqBB, w_neSS, w_neBB, w_eqBI, w_eqIN, w_neIN, w_eqNI, w_neNI, w_eqNN, w_neNN, w_NN, w_NI, w_IN])
  refine ⟨rfl, ?_⟩
  (refine stop_to ?_; (try simp only [dLcM, w_isiM, rReverseD, dMinDef, rInDic, rNotInDic, dIRL, dCallC, dCallG, dConsL, dLam, atDs, dCallV, dgU, dSortI, dIItems, dDicM, dDc, dLenSet, itemsD, w_lrg, w_index, w_sortQ, dCut, dDGet, dDGet1, dDGet2, dDPut, dPairs, w_disp, w_newDF, w_newDT, dec_self, List.map_cons, List.map_nil, eqD_bl, eqD_int, eqD_str, eqD_tup, eqD_lst, eqDs_nil, eqDs_nc, eqDs_cn, eqDs_cons, reduceIte, Bool.false_eq_true, Bool.not_true, Bool.not_false, decide_true, decide_false, dVar, atD, setD, startD, dC, dOp, dAnd, dOr, dNot, dIf, dUn, dNil, dCons, dTup, dLst, rInD, rNotInD, dNoPart, dPart, dRev, dFld, DL.fieldsOf, dCB, dNext, dSeq, dBreak, dCont, dDrop, dRet, dRetN, dIfS, dNever, dgN, dgNil, dgCons, dgSub, dAsg, dPar, dPar3, putD, dSetF, dMt, rAppendD, rPopD, rExtendD, lsT, lsR, lsF, itemsR, dFrz, dCall, dCallK, dMeth, dMake, dFor, dIL, dIT, dIR1, dIR2, dIE, dIZ, wipeD, dYes, dLc, dDic0, updM_same, cxOf, asBl_bl, asInt_int, asTup_tup, isN, w_test, w_chain, w_andV, w_orV, w_notV, w_neg, w_sub, w_div, w_mod, w_pow, w_shl, w_shr, w_and, w_or, w_xor, w_lt, w_le, w_gt, w_ge, w_add, w_addS, w_addT, w_addL, w_addF, w_addR, w_mul, w_mulL, w_eq, w_ne, w_isN, w_isB, w_isntN, w_isntB, w_ix, w_isi, w_abs, w_max2, w_min2, w_max1L, w_min1L, w_sum, w_all, w_any, w_len, w_int, w_intB, w_divmod, w_sorted, w_list, w_bits, w_sl, w_slL, w_slF, w_slR, w_slT, w_newF, w_newT, w_eqL, w_eqT, w_eqR, w_neL, w_neT, w_neR, w_dgT, w_derL, w_derT, w_derB, w_derI, w_derN, w_derS, w_eqSS, w_eqBB, w_neSS, w_neBB, w_eqBI, w_eqIN, w_neIN, w_eqNI, w_neNI, w_eqNN, w_neNN, w_NN, w_NI, w_IN]))
  refine ⟨src, b, s, rfl, hs2.src, hb, fun a c M3 ha hc hs3 => ?_⟩
  refine ⟨src, _, _, rfl, hs3.src, hp, hbig, fun x M4 x0 x1 hs4 => ?_⟩
  have hs := ((hs1.trans hs2).trans hs3).trans hs4
  clear hs1 hs2 hs3 hs4 hd
  have hx : InK b s x := ⟨x0, x1⟩
  refine ⟨lit_len (n := 0) (by decide), fun p hpn => ⟨lit_len (n := 3) (by decide), rfl, ?_⟩⟩
  have hne : src ≠ p := fun e => by
    obtain ⟨_, _, _, h, _⟩ := hs.src
    rw [e, hpn] at h
    cases h
  refine stop_by (fun ρ' M' => ∃ (ys : List Int) (Ms : MH) (v7 v8 v9 v10 v11 v12 v13 : Option Dat), M' = updM Ms p (.lst (ys.map Dat.int)) ∧ SrcTo src M Ms ∧ Ms p = none ∧ 1 ≤ ys.length ∧ ys.length ≤ 20 ∧ (∀ y ∈ ys, InK b s y) ∧ ρ' = [some (.ref src), some (kindD C_Kind b s), some (.int (lowZ b s)), some (.int (2 ^ b)), some (genD a c), some (.int x), some (.ref p), v7, v8, v9, v10, v11, v12, v13]) ?_ ?_
  · (try simp only [dLcM, w_isiM, rReverseD, dMinDef, rInDic, rNotInDic, dIRL, dCallC, dCallG, dConsL, dLam, atDs, dCallV, dgU, dSortI, dIItems, dDicM, dDc, dLenSet, itemsD, w_lrg, w_index, w_sortQ, dCut, dDGet, dDGet1, dDGet2, dDPut, dPairs, w_disp, w_newDF, w_newDT, dec_self, List.map_cons, List.map_nil, eqD_bl, eqD_int, eqD_str, eqD_tup, eqD_lst, eqDs_nil, eqDs_nc, eqDs_cn, eqDs_cons, reduceIte, Bool.false_eq_true, Bool.not_true, Bool.not_false, decide_true, decide_false, dVar, atD, setD, startD, dC, dOp, dAnd, dOr, dNot, dIf, dUn, dNil, dCons, dTup, dLst, rInD, rNotInD, dNoPart, dPart, dRev, dFld, DL.fieldsOf, dCB, dNext, dSeq, dBreak, dCont, dDrop, dRet, dRetN, dIfS, dNever, dgN, dgNil, dgCons, dgSub, dAsg, dPar, dPar3, putD, dSetF, dMt, rAppendD, rPopD, rExtendD, lsT, lsR, lsF, itemsR, dFrz, dCall, dCallK, dMeth, dMake, dFor, dIL, dIT, dIR1, dIR2, dIE, dIZ, wipeD, dYes, dLc, dDic0, updM_same, cxOf, asBl_bl, asInt_int, asTup_tup, isN, w_test, w_chain, w_andV, w_orV, w_notV, w_neg, w_sub, w_div, w_mod, w_pow, w_shl, w_shr, w_and, w_or, w_xor, w_lt, w_le, w_gt, w_ge, w_add, w_addS, w_addT, w_addL, w_addF, w_addR, w_mul, w_mulL, w_eq, w_ne, w_isN, w_isB, w_isntN, w_isntB, w_ix, w_isi, w_abs, w_max2, w_min2, w_max1L, w_min1L, w_sum, w_all, w_any, w_len, w_int, w_intB, w_divmod, w_sorted, w_list, w_bits, w_sl, w_slL, w_slF, w_slR, w_slT, w_newF, w_newT, w_eqL, w_eqT, w_eqR, w_neL, w_neT, w_neR, w_dgT, w_derL, w_derT, w_derB, w_derI, w_derN, w_derS, w_eqSS, w_eqBB, w_neSS, w_neBB, w_eqBI, w_eqIN, w_neIN, w_eqNI, w_neNI, w_eqNN, w_neNN, w_NN, w_NI, w_IN])
    refine ⟨lit_len (n := 3) (by decide), src, _, rfl, (hs.src.side hpn).1, (by decide : 0 < 3), (by decide : 3 < 1000), fun d M5 hd hs5 => ?_⟩
    obtain ⟨m2, rfl, hm1, hm2⟩ : ∃ e : Nat, d = .int (e : Nat) ∧ 1 ≤ e ∧ e ≤ 20 := by
      simp only [List.mem_cons, List.not_mem_nil, or_false] at hd
      rcases hd with rfl | rfl | rfl
      · exact ⟨2, rfl, by decide, by decide⟩
      · exact ⟨6, rfl, by decide, by decide⟩
      · exact ⟨20, rfl, by decide, by decide⟩
    refine ⟨src, m2, rfl, hs5.src, by omega, Int.lt_of_le_of_lt (show (m2 : Int) ≤ 20 by omega) (by decide +kernel), fun r M6 r0 r1 hs6 => ?_⟩
    obtain ⟨M7, g1, g2, rfl⟩ := (hs5.trans hs6).side hne hpn
    have hs := hs.trans g1
    clear hs5 hs6 g1 hd
    (try simp only [dLcM, w_isiM, rReverseD, dMinDef, rInDic, rNotInDic, dIRL, dCallC, dCallG, dConsL, dLam, atDs, dCallV, dgU, dSortI, dIItems, dDicM, dDc, dLenSet, itemsD, w_lrg, w_index, w_sortQ, dCut, dDGet, dDGet1, dDGet2, dDPut, dPairs, w_disp, w_newDF, w_newDT, dec_self, List.map_cons, List.map_nil, eqD_bl, eqD_int, eqD_str, eqD_tup, eqD_lst, eqDs_nil, eqDs_nc, eqDs_cn, eqDs_cons, reduceIte, Bool.false_eq_true, Bool.not_true, Bool.not_false, decide_true, decide_false, dVar, atD, setD, startD, dC, dOp, dAnd, dOr, dNot, dIf, dUn, dNil, dCons, dTup, dLst, rInD, rNotInD, dNoPart, dPart, dRev, dFld, DL.fieldsOf, dCB, dNext, dSeq, dBreak, dCont, dDrop, dRet, dRetN, dIfS, dNever, dgN, dgNil, dgCons, dgSub, dAsg, dPar, dPar3, putD, dSetF, dMt, rAppendD, rPopD, rExtendD, lsT, lsR, lsF, itemsR, dFrz, dCall, dCallK, dMeth, dMake, dFor, dIL, dIT, dIR1, dIR2, dIE, dIZ, wipeD, dYes, dLc, dDic0, updM_same, cxOf, asBl_bl, asInt_int, asTup_tup, isN, w_test, w_chain, w_andV, w_orV, w_notV, w_neg, w_sub, w_div, w_mod, w_pow, w_shl, w_shr, w_and, w_or, w_xor, w_lt, w_le, w_gt, w_ge, w_add, w_addS, w_addT, w_addL, w_addF, w_addR, w_mul, w_mulL, w_eq, w_ne, w_isN, w_isB, w_isntN, w_isntB, w_ix, w_isi, w_abs, w_max2, w_min2, w_max1L, w_min1L, w_sum, w_all, w_any, w_len, w_int, w_intB, w_divmod, w_sorted, w_list, w_bits, w_sl, w_slL, w_slF, w_slR, w_slT, w_newF, w_newT, w_eqL, w_eqT, w_eqR, w_neL, w_neT, w_neR, w_dgT, w_derL, w_derT, w_derB, w_derI, w_derN, w_derS, w_eqSS, w_eqBB, w_neSS, w_neBB, w_eqBI, w_eqIN, w_neIN, w_eqNI, w_neNI, w_eqNN, w_neNN, w_NN, w_NI, w_IN])
    refine ⟨by omega, by omega, ?_⟩
    refine loop_n (fun i ρ' M' => ∃ (ys : List Int) (Ms : MH) (v7 v8 v9 v10 v11 v12 v13 : Option Dat), M' = updM Ms p (.lst (ys.map Dat.int)) ∧ SrcTo src M Ms ∧ Ms p = none ∧ ys.length = i ∧ (∀ y ∈ ys, InK b s y) ∧ ρ' = [some (.ref src), some (kindD C_Kind b s), some (.int (lowZ b s)), some (.int (2 ^ b)), some (genD a c), some (.int x), some (.ref p), v7, v8, v9, v10, v11, v12, v13]) ⟨[], M7, none, none, none, none, none, none, none, rfl, hs, g2, rfl, (fun y h => by cases h), rfl⟩ ?_ ?_
    · rintro ρ' M' ⟨ys, Ms, v7, v8, v9, v10, v11, v12, v13, rfl, h1, h2, h3, h4, rfl⟩
      exact ⟨ys, Ms, _, _, _, _, _, _, _, rfl, h1, h2, by omega, by omega, h4, rfl⟩
    · rintro i ρ' M' k hi ⟨ys, Ms, v7, v8, v9, v10, v11, v12, v13, rfl, h1, h2, h3, h4, rfl⟩ hk
      replace hk : ∀ (ys' : List Int) (Ms : MH) (v7 v8 v9 v10 v11 v12 v13 : Option Dat), SrcTo src M Ms → Ms p = none → ys'.length = i + 1 → (∀ y ∈ ys', InK b s y) → k [some (.ref src), some (kindD C_Kind b s), some (.int (lowZ b s)), some (.int (2 ^ b)), some (genD a c), some (.int x), some (.ref p), v7, v8, v9, v10, v11, v12, v13] (updM Ms p (.lst (ys'.map Dat.int))) := fun ys' Ms v7 v8 v9 v10 v11 v12 v13 a1 a2 a3 a4 => hk _ _ ⟨ys', Ms, v7, v8, v9, v10, v11, v12, v13, rfl, a1, a2, a3, a4, rfl⟩
      (try simp only [dLcM, w_isiM, rReverseD, dMinDef, rInDic, rNotInDic, dIRL, dCallC, dCallG, dConsL, dLam, atDs, dCallV, dgU, dSortI, dIItems, dDicM, dDc, dLenSet, itemsD, w_lrg, w_index, w_sortQ, dCut, dDGet, dDGet1, dDGet2, dDPut, dPairs, w_disp, w_newDF, w_newDT, dec_self, List.map_cons, List.map_nil, eqD_bl, eqD_int, eqD_str, eqD_tup, eqD_lst, eqDs_nil, eqDs_nc, eqDs_cn, eqDs_cons, reduceIte, Bool.false_eq_true, Bool.not_true, Bool.not_false, decide_true, decide_false, dVar, atD, setD, startD, dC, dOp, dAnd, dOr, dNot, dIf, dUn, dNil, dCons, dTup, dLst, rInD, rNotInD, dNoPart, dPart, dRev, dFld, DL.fieldsOf, dCB, dNext, dSeq, dBreak, dCont, dDrop, dRet, dRetN, dIfS, dNever, dgN, dgNil, dgCons, dgSub, dAsg, dPar, dPar3, putD, dSetF, dMt, rAppendD, rPopD, rExtendD, lsT, lsR, lsF, itemsR, dFrz, dCall, dCallK, dMeth, dMake, dFor, dIL, dIT, dIR1, dIR2, dIE, dIZ, wipeD, dYes, dLc, dDic0, updM_same, cxOf, asBl_bl, asInt_int, asTup_tup, isN, w_test, w_chain, w_andV, w_orV, w_notV, w_neg, w_sub, w_div, w_mod, w_pow, w_shl, w_shr, w_and, w_or, w_xor, w_lt, w_le, w_gt, w_ge, w_add, w_addS, w_addT, w_addL, w_addF, w_addR, w_mul, w_mulL, w_eq, w_ne, w_isN, w_isB, w_isntN, w_isntB, w_ix, w_isi, w_abs, w_max2, w_min2, w_max1L, w_min1L, w_sum, w_all, w_any, w_len, w_int, w_intB, w_divmod, w_sorted, w_list, w_bits, w_sl, w_slL, w_slF, w_slR, w_slT, w_newF, w_newT, w_eqL, w_eqT, w_eqR, w_neL, w_neT, w_neR, w_dgT, w_derL, w_derT, w_derB, w_derI, w_derN, w_derS, w_eqSS, w_eqBB, w_neSS, w_neBB, w_eqBI, w_eqIN, w_neIN, w_eqNI, w_neNI, w_eqNN, w_neNN, w_NN, w_NI, w_IN])
      (refine stop_to ?_; (try simp only [dLcM, w_isiM, rReverseD, dMinDef, rInDic, rNotInDic, dIRL, dCallC, dCallG, dConsL, dLam, atDs, dCallV, dgU, dSortI, dIItems, dDicM, dDc, dLenSet, itemsD, w_lrg, w_index, w_sortQ, dCut, dDGet, dDGet1, dDGet2, dDPut, dPairs, w_disp, w_newDF, w_newDT, dec_self, List.map_cons, List.map_nil, eqD_bl, eqD_int, eqD_str, eqD_tup, eqD_lst, eqDs_nil, eqDs_nc, eqDs_cn, eqDs_cons, reduceIte, Bool.false_eq_true, Bool.not_true, Bool.not_false, decide_true, decide_false, dVar, atD, setD, startD, dC, dOp, dAnd, dOr, dNot, dIf, dUn, dNil, dCons, dTup, dLst, rInD, rNotInD, dNoPart, dPart, dRev, dFld, DL.fieldsOf, dCB, dNext, dSeq, dBreak, dCont, dDrop, dRet, dRetN, dIfS, dNever, dgN, dgNil, dgCons, dgSub, dAsg, dPar, dPar3, putD, dSetF, dMt, rAppendD, rPopD, rExtendD, lsT, lsR, lsF, itemsR, dFrz, dCall, dCallK, dMeth, dMake, dFor, dIL, dIT, dIR1, dIR2, dIE, dIZ, wipeD, dYes, dLc, dDic0, updM_same, cxOf, asBl_bl, asInt_int, asTup_tup, isN, w_test, w_chain, w_andV, w_orV, w_notV, w_neg, w_sub, w_div, w_mod, w_pow, w_shl, w_shr, w_and, w_or, w_xor, w_lt, w_le, w_gt, w_ge, w_add, w_addS, w_addT, w_addL, w_addF, w_addR, w_mul, w_mulL, w_eq, w_ne, w_isN, w_isB, w_isntN, w_isntB, w_ix, w_isi, w_abs, w_max2, w_min2, w_max1L, w_min1L, w_sum, w_all, w_any, w_len, w_int, w_intB, w_divmod, w_sorted, w_list, w_bits, w_sl, w_slL, w_slF, w_slR, w_slT, w_newF, w_newT, w_eqL, w_eqT, w_eqR, w_neL, w_neT, w_neR, w_dgT, w_derL, w_derT, w_derB, w_derI, w_derN, w_derS, w_eqSS, w_eqBB, w_neSS, w_neBB, w_eqBI, w_eqIN, w_neIN, w_eqNI, w_neNI, w_eqNN, w_neNN, w_NN, w_NI, w_IN]))
      refine ⟨⟨by decide, by decide +kernel⟩, lit_len (n := 2) (by decide), src, _, rfl, (h1.src.side h2).1, (by decide : 0 < 2), (by decide : 2 < 1000), fun d Ma hd hs1 => ?_⟩
      obtain ⟨m3, rfl, hm3, hm4⟩ : ∃ e : Int, d = .int e ∧ 0 < e ∧ e < 2 ^ 200 := by
        simp only [List.mem_cons, List.not_mem_nil, or_false] at hd
        rcases hd with rfl | rfl
        · exact ⟨9, rfl, by decide, by decide +kernel⟩
        · exact ⟨_, rfl, by decide +kernel, by decide +kernel⟩
      refine ⟨src, m3, rfl, hs1.src, hm3, Int.lt_trans hm4 (by decide +kernel), fun n Mb n0 n1 hs2 => ?_⟩
      obtain ⟨Mc, g1, g2, rfl⟩ := (hs1.trans hs2).side hne h2
      clear hs1 hs2 hd
      have hn8 : n.natAbs < 2 ^ 8000 := by
        have : (2 : Nat) ^ 200 < 2 ^ 8000 := by decide +kernel
        omega
      rw [updM_same]
      refine ⟨⟨_, rfl⟩, b, s, a, c, x, n, rfl, hb, ha, hc, hx, hn8, fun _ => ?_, fun h => absurd h (by omega)⟩
      refine ⟨src, _, _, rfl, ((h1.trans g1).src.side g2).1, hp, hbig, fun v Md v0 v1 hs3 => ?_⟩
      obtain ⟨Me, g3, g4, rfl⟩ := hs3.side hne g2
      obtain ⟨e, he, hek⟩ : ∃ e : Int, atI (ys.map Dat.int ++ [Dat.int x]) 0 = some (.int e) ∧ InK b s e := by
        cases ys with
        | nil => exact ⟨x, atI_nat (j := 0) rfl, hx⟩
        | cons y ys => exact ⟨y, atI_nat (j := 0) rfl, h4 y (by simp)⟩
      have hlen : (ys.map Dat.int).length + 1 ≤ 1000 := by rw [List.length_map]; omega
      rw [updM_same]
      refine ⟨lit_len (n := 1) (by decide), _, _, rfl, rfl, lit_len hlen, _, _, rfl, he, lit_len (n := 3) (by decide), src, _, rfl, ((h1.trans g1).trans g3).src.side g4 |>.1, (by decide : 0 < 3), (by decide : 3 < 1000), fun d Mf hd hs4 => ?_⟩
      obtain ⟨w, rfl, hw⟩ : ∃ e : Int, d = .int e ∧ InK b s e := by
        simp only [List.mem_cons, List.not_mem_nil, or_false] at hd
        rcases hd with rfl | rfl | rfl
        · exact ⟨_, rfl, placed_inK b s _⟩
        · exact ⟨_, rfl, v0, v1⟩
        · exact ⟨_, rfl, hek⟩
      obtain ⟨Mg, g5, g6, rfl⟩ := hs4.side hne g4
      refine ⟨_, updM_same, by have h := lit_len hlen; omega, ?_⟩
      rw [updM_updM, show ys.map Dat.int ++ [Dat.int w] = (ys ++ [w]).map Dat.int by simp]
      refine hk (ys ++ [w]) Mg _ _ _ _ _ _ _ (((h1.trans g1).trans g3).trans g5) g6 (by simp [h3]) fun y hy => ?_
      rcases List.mem_append.mp hy with hy | hy
      · exact h4 y hy
      · rw [List.mem_singleton] at hy
        rw [hy]
        exact hw
  rintro _ _ ⟨ys, Ms, v7, v8, v9, v10, v11, v12, v13, rfl, h1, h2, h3, h4, h5, rfl⟩
  (refine stop_to ?_; (try simp only [dLcM, w_isiM, rReverseD, dMinDef, rInDic, rNotInDic, dIRL, dCallC, dCallG, dConsL, dLam, atDs, dCallV, dgU, dSortI, dIItems, dDicM, dDc, dLenSet, itemsD, w_lrg, w_index, w_sortQ, dCut, dDGet, dDGet1, dDGet2, dDPut, dPairs, w_disp, w_newDF, w_newDT, dec_self, List.map_cons, List.map_nil, eqD_bl, eqD_int, eqD_str, eqD_tup, eqD_lst, eqDs_nil, eqDs_nc, eqDs_cn, eqDs_cons, reduceIte, Bool.false_eq_true, Bool.not_true, Bool.not_false, decide_true, decide_false, dVar, atD, setD, startD, dC, dOp, dAnd, dOr, dNot, dIf, dUn, dNil, dCons, dTup, dLst, rInD, rNotInD, dNoPart, dPart, dRev, dFld, DL.fieldsOf, dCB, dNext, dSeq, dBreak, dCont, dDrop, dRet, dRetN, dIfS, dNever, dgN, dgNil, dgCons, dgSub, dAsg, dPar, dPar3, putD, dSetF, dMt, rAppendD, rPopD, rExtendD, lsT, lsR, lsF, itemsR, dFrz, dCall, dCallK, dMeth, dMake, dFor, dIL, dIT, dIR1, dIR2, dIE, dIZ, wipeD, dYes, dLc, dDic0, updM_same, cxOf, asBl_bl, asInt_int, asTup_tup, isN, w_test, w_chain, w_andV, w_orV, w_notV, w_neg, w_sub, w_div, w_mod, w_pow, w_shl, w_shr, w_and, w_or, w_xor, w_lt, w_le, w_gt, w_ge, w_add, w_addS, w_addT, w_addL, w_addF, w_addR, w_mul, w_mulL, w_eq, w_ne, w_isN, w_isB, w_isntN, w_isntB, w_ix, w_isi, w_abs, w_max2, w_min2, w_max1L, w_min1L, w_sum, w_all, w_any, w_len, w_int, w_intB, w_divmod, w_sorted, w_list, w_bits, w_sl, w_slL, w_slF, w_slR, w_slT, w_newF, w_newT, w_eqL, w_eqT, w_eqR, w_neL, w_neT, w_neR, w_dgT, w_derL, w_derT, w_derB, w_derI, w_derN, w_derS, w_eqSS, w_eqBB, w_neSS, w_neBB, w_eqBI, w_eqIN, w_neIN, w_eqNI, w_neNI, w_eqNN, w_neNN, w_NN, w_NI, w_IN]))
  refine ⟨by decide, by decide, ?_⟩
  refine loop_n (fun i ρ' M' => ∃ (ys : List Int) (Ms : MH) (v7 v8 v9 v10 v11 v12 v13 : Option Dat), M' = updM Ms p (.lst (ys.map Dat.int)) ∧ SrcTo src M Ms ∧ Ms p = none ∧ 1 ≤ ys.length ∧ ys.length ≤ 20 ∧ (∀ y ∈ ys, InK b s y) ∧ ρ' = [some (.ref src), some (kindD C_Kind b s), some (.int (lowZ b s)), some (.int (2 ^ b)), some (genD a c), some (.int x), some (.ref p), v7, v8, v9, v10, v11, v12, v13]) ⟨ys, Ms, _, _, _, _, _, _, _, rfl, h1, h2, h3, h4, h5, rfl⟩ ?_ ?_
  · rintro ρ' M' ⟨ys, Ms, v7, v8, v9, v10, v11, v12, v13, rfl, h1, h2, h3, h4, h5, rfl⟩
    (try simp only [dLcM, w_isiM, rReverseD, dMinDef, rInDic, rNotInDic, dIRL, dCallC, dCallG, dConsL, dLam, atDs, dCallV, dgU, dSortI, dIItems, dDicM, dDc, dLenSet, itemsD, w_lrg, w_index, w_sortQ, dCut, dDGet, dDGet1, dDGet2, dDPut, dPairs, w_disp, w_newDF, w_newDT, dec_self, List.map_cons, List.map_nil, eqD_bl, eqD_int, eqD_str, eqD_tup, eqD_lst, eqDs_nil, eqDs_nc, eqDs_cn, eqDs_cons, reduceIte, Bool.false_eq_true, Bool.not_true, Bool.not_false, decide_true, decide_false, dVar, atD, setD, startD, dC, dOp, dAnd, dOr, dNot, dIf, dUn, dNil, dCons, dTup, dLst, rInD, rNotInD, dNoPart, dPart, dRev, dFld, DL.fieldsOf, dCB, dNext, dSeq, dBreak, dCont, dDrop, dRet, dRetN, dIfS, dNever, dgN, dgNil, dgCons, dgSub, dAsg, dPar, dPar3, putD, dSetF, dMt, rAppendD, rPopD, rExtendD, lsT, lsR, lsF, itemsR, dFrz, dCall, dCallK, dMeth, dMake, dFor, dIL, dIT, dIR1, dIR2, dIE, dIZ, wipeD, dYes, dLc, dDic0, updM_same, cxOf, asBl_bl, asInt_int, asTup_tup, isN, w_test, w_chain, w_andV, w_orV, w_notV, w_neg, w_sub, w_div, w_mod, w_pow, w_shl, w_shr, w_and, w_or, w_xor, w_lt, w_le, w_gt, w_ge, w_add, w_addS, w_addT, w_addL, w_addF, w_addR, w_mul, w_mulL, w_eq, w_ne, w_isN, w_isB, w_isntN, w_isntB, w_ix, w_isi, w_abs, w_max2, w_min2, w_max1L, w_min1L, w_sum, w_all, w_any, w_len, w_int, w_intB, w_divmod, w_sorted, w_list, w_bits, w_sl, w_slL, w_slF, w_slR, w_slT, w_newF, w_newT, w_eqL, w_eqT, w_eqR, w_neL, w_neT, w_neR, w_dgT, w_derL, w_derT, w_derB, w_derI, w_derN, w_derS, w_eqSS, w_eqBB, w_neSS, w_neBB, w_eqBI, w_eqIN, w_neIN, w_eqNI, w_neNI, w_eqNN, w_neNN, w_NN, w_NI, w_IN])
    exact endD_le (LeM.new h2) (hQ _ h1)
  clear h1 h2 h3 h4 h5 hs
  rintro i ρ' M' k hi ⟨ys, Ms, v7, v8, v9, v10, v11, v12, v13, rfl, h1, h2, h3, h4, h5, rfl⟩ hk
  replace hk : ∀ (ys' : List Int) (Ms : MH) (v7 v8 v9 v10 v11 v12 v13 : Option Dat), SrcTo src M Ms → Ms p = none → 1 ≤ ys'.length → ys'.length ≤ 20 → (∀ y ∈ ys', InK b s y) → k [some (.ref src), some (kindD C_Kind b s), some (.int (lowZ b s)), some (.int (2 ^ b)), some (genD a c), some (.int x), some (.ref p), v7, v8, v9, v10, v11, v12, v13] (updM Ms p (.lst (ys'.map Dat.int))) := fun ys' Ms v7 v8 v9 v10 v11 v12 v13 a1 a2 a3 a4 a5 => hk _ _ ⟨ys', Ms, v7, v8, v9, v10, v11, v12, v13, rfl, a1, a2, a3, a4, a5, rfl⟩
  have hlen : (ys.map Dat.int).length ≤ sizeLine := by rw [List.length_map, sizeLine_eq]; omega
  (try simp only [dLcM, w_isiM, rReverseD, dMinDef, rInDic, rNotInDic, dIRL, dCallC, dCallG, dConsL, dLam, atDs, dCallV, dgU, dSortI, dIItems, dDicM, dDc, dLenSet, itemsD, w_lrg, w_index, w_sortQ, dCut, dDGet, dDGet1, dDGet2, dDPut, dPairs, w_disp, w_newDF, w_newDT, dec_self, List.map_cons, List.map_nil, eqD_bl, eqD_int, eqD_str, eqD_tup, eqD_lst, eqDs_nil, eqDs_nc, eqDs_cn, eqDs_cons, reduceIte, Bool.false_eq_true, Bool.not_true, Bool.not_false, decide_true, decide_false, dVar, atD, setD, startD, dC, dOp, dAnd, dOr, dNot, dIf, dUn, dNil, dCons, dTup, dLst, rInD, rNotInD, dNoPart, dPart, dRev, dFld, DL.fieldsOf, dCB, dNext, dSeq, dBreak, dCont, dDrop, dRet, dRetN, dIfS, dNever, dgN, dgNil, dgCons, dgSub, dAsg, dPar, dPar3, putD, dSetF, dMt, rAppendD, rPopD, rExtendD, lsT, lsR, lsF, itemsR, dFrz, dCall, dCallK, dMeth, dMake, dFor, dIL, dIT, dIR1, dIR2, dIE, dIZ, wipeD, dYes, dLc, dDic0, updM_same, cxOf, asBl_bl, asInt_int, asTup_tup, isN, w_test, w_chain, w_andV, w_orV, w_notV, w_neg, w_sub, w_div, w_mod, w_pow, w_shl, w_shr, w_and, w_or, w_xor, w_lt, w_le, w_gt, w_ge, w_add, w_addS, w_addT, w_addL, w_addF, w_addR, w_mul, w_mulL, w_eq, w_ne, w_isN, w_isB, w_isntN, w_isntB, w_ix, w_isi, w_abs, w_max2, w_min2, w_max1L, w_min1L, w_sum, w_all, w_any, w_len, w_int, w_intB, w_divmod, w_sorted, w_list, w_bits, w_sl, w_slL, w_slF, w_slR, w_slT, w_newF, w_newT, w_eqL, w_eqT, w_eqR, w_neL, w_neT, w_neR, w_dgT, w_derL, w_derT, w_derB, w_derI, w_derN, w_derS, w_eqSS, w_eqBB, w_neSS, w_neBB, w_eqBI, w_eqIN, w_neIN, w_eqNI, w_neNI, w_eqNN, w_neNN, w_NN, w_NI, w_IN])
  (refine stop_to ?_; (try simp only [dLcM, w_isiM, rReverseD, dMinDef, rInDic, rNotInDic, dIRL, dCallC, dCallG, dConsL, dLam, atDs, dCallV, dgU, dSortI, dIItems, dDicM, dDc, dLenSet, itemsD, w_lrg, w_index, w_sortQ, dCut, dDGet, dDGet1, dDGet2, dDPut, dPairs, w_disp, w_newDF, w_newDT, dec_self, List.map_cons, List.map_nil, eqD_bl, eqD_int, eqD_str, eqD_tup, eqD_lst, eqDs_nil, eqDs_nc, eqDs_cn, eqDs_cons, reduceIte, Bool.false_eq_true, Bool.not_true, Bool.not_false, decide_true, decide_false, dVar, atD, setD, startD, dC, dOp, dAnd, dOr, dNot, dIf, dUn, dNil, dCons, dTup, dLst, rInD, rNotInD, dNoPart, dPart, dRev, dFld, DL.fieldsOf, dCB, dNext, dSeq, dBreak, dCont, dDrop, dRet, dRetN, dIfS, dNever, dgN, dgNil, dgCons, dgSub, dAsg, dPar, dPar3, putD, dSetF, dMt, rAppendD, rPopD, rExtendD, lsT, lsR, lsF, itemsR, dFrz, dCall, dCallK, dMeth, dMake, dFor, dIL, dIT, dIR1, dIR2, dIE, dIZ, wipeD, dYes, dLc, dDic0, updM_same, cxOf, asBl_bl, asInt_int, asTup_tup, isN, w_test, w_chain, w_andV, w_orV, w_notV, w_neg, w_sub, w_div, w_mod, w_pow, w_shl, w_shr, w_and, w_or, w_xor, w_lt, w_le, w_gt, w_ge, w_add, w_addS, w_addT, w_addL, w_addF, w_addR, w_mul, w_mulL, w_eq, w_ne, w_isN, w_isB, w_isntN, w_isntB, w_ix, w_isi, w_abs, w_max2, w_min2, w_max1L, w_min1L, w_sum, w_all, w_any, w_len, w_int, w_intB, w_divmod, w_sorted, w_list, w_bits, w_sl, w_slL, w_slF, w_slR, w_slT, w_newF, w_newT, w_eqL, w_eqT, w_eqR, w_neL, w_neT, w_neR, w_dgT, w_derL, w_derT, w_derB, w_derI, w_derN, w_derS, w_eqSS, w_eqBB, w_neSS, w_neBB, w_eqBI, w_eqIN, w_neIN, w_eqNI, w_neNI, w_eqNN, w_neNN, w_NN, w_NI, w_IN]))
  refine ⟨_, rfl, ?_⟩
  (refine stop_to ?_; (try simp only [dLcM, w_isiM, rReverseD, dMinDef, rInDic, rNotInDic, dIRL, dCallC, dCallG, dConsL, dLam, atDs, dCallV, dgU, dSortI, dIItems, dDicM, dDc, dLenSet, itemsD, w_lrg, w_index, w_sortQ, dCut, dDGet, dDGet1, dDGet2, dDPut, dPairs, w_disp, w_newDF, w_newDT, dec_self, List.map_cons, List.map_nil, eqD_bl, eqD_int, eqD_str, eqD_tup, eqD_lst, eqDs_nil, eqDs_nc, eqDs_cn, eqDs_cons, reduceIte, Bool.false_eq_true, Bool.not_true, Bool.not_false, decide_true, decide_false, dVar, atD, setD, startD, dC, dOp, dAnd, dOr, dNot, dIf, dUn, dNil, dCons, dTup, dLst, rInD, rNotInD, dNoPart, dPart, dRev, dFld, DL.fieldsOf, dCB, dNext, dSeq, dBreak, dCont, dDrop, dRet, dRetN, dIfS, dNever, dgN, dgNil, dgCons, dgSub, dAsg, dPar, dPar3, putD, dSetF, dMt, rAppendD, rPopD, rExtendD, lsT, lsR, lsF, itemsR, dFrz, dCall, dCallK, dMeth, dMake, dFor, dIL, dIT, dIR1, dIR2, dIE, dIZ, wipeD, dYes, dLc, dDic0, updM_same, cxOf, asBl_bl, asInt_int, asTup_tup, isN, w_test, w_chain, w_andV, w_orV, w_notV, w_neg, w_sub, w_div, w_mod, w_pow, w_shl, w_shr, w_and, w_or, w_xor, w_lt, w_le, w_gt, w_ge, w_add, w_addS, w_addT, w_addL, w_addF, w_addR, w_mul, w_mulL, w_eq, w_ne, w_isN, w_isB, w_isntN, w_isntB, w_ix, w_isi, w_abs, w_max2, w_min2, w_max1L, w_min1L, w_sum, w_all, w_any, w_len, w_int, w_intB, w_divmod, w_sorted, w_list, w_bits, w_sl, w_slL, w_slF, w_slR, w_slT, w_newF, w_newT, w_eqL, w_eqT, w_eqR, w_neL, w_neT, w_neR, w_dgT, w_derL, w_derT, w_derB, w_derI, w_derN, w_derS, w_eqSS, w_eqBB, w_neSS, w_neBB, w_eqBI, w_eqIN, w_neIN, w_eqNI, w_neNI, w_eqNN, w_neNN, w_NN, w_NI, w_IN]))
  refine ⟨p, _, rfl, updM_same, hlen, ?_⟩
  refine lcM_by (fun r acc M' => M' = updM Ms p (.lst (ys.map Dat.int)) ∧ ∃ ys1 ys2 os, ys = ys1 ++ ys2 ∧ r = ys2.map Dat.int ∧ RowsOf a c x b ys1 os ∧ acc = List.zipWith (fun o y => Dat.tup [optN (Option.map (·.1) o), .int y]) os ys1) ?_ ?_ _ _ _ ⟨rfl, [], ys, [], rfl, rfl, .nil, rfl⟩
  rotate_left
  · rintro d r acc M' kk ⟨hM', ys1, ys2, os, e, e2, hos, rfl⟩ hkk
    subst hM'
    cases ys2 with
    | nil => cases e2
    | cons y ys2 =>
    injection e2 with q1 q2
    subst q1 q2
    refine ⟨updM_same, ?_⟩
    have hy := h5 y (by rw [e]; simp)
    (try simp only [dLcM, w_isiM, rReverseD, dMinDef, rInDic, rNotInDic, dIRL, dCallC, dCallG, dConsL, dLam, atDs, dCallV, dgU, dSortI, dIItems, dDicM, dDc, dLenSet, itemsD, w_lrg, w_index, w_sortQ, dCut, dDGet, dDGet1, dDGet2, dDPut, dPairs, w_disp, w_newDF, w_newDT, dec_self, List.map_cons, List.map_nil, eqD_bl, eqD_int, eqD_str, eqD_tup, eqD_lst, eqDs_nil, eqDs_nc, eqDs_cn, eqDs_cons, reduceIte, Bool.false_eq_true, Bool.not_true, Bool.not_false, decide_true, decide_false, dVar, atD, setD, startD, dC, dOp, dAnd, dOr, dNot, dIf, dUn, dNil, dCons, dTup, dLst, rInD, rNotInD, dNoPart, dPart, dRev, dFld, DL.fieldsOf, dCB, dNext, dSeq, dBreak, dCont, dDrop, dRet, dRetN, dIfS, dNever, dgN, dgNil, dgCons, dgSub, dAsg, dPar, dPar3, putD, dSetF, dMt, rAppendD, rPopD, rExtendD, lsT, lsR, lsF, itemsR, dFrz, dCall, dCallK, dMeth, dMake, dFor, dIL, dIT, dIR1, dIR2, dIE, dIZ, wipeD, dYes, dLc, dDic0, updM_same, cxOf, asBl_bl, asInt_int, asTup_tup, isN, w_test, w_chain, w_andV, w_orV, w_notV, w_neg, w_sub, w_div, w_mod, w_pow, w_shl, w_shr, w_and, w_or, w_xor, w_lt, w_le, w_gt, w_ge, w_add, w_addS, w_addT, w_addL, w_addF, w_addR, w_mul, w_mulL, w_eq, w_ne, w_isN, w_isB, w_isntN, w_isntB, w_ix, w_isi, w_abs, w_max2, w_min2, w_max1L, w_min1L, w_sum, w_all, w_any, w_len, w_int, w_intB, w_divmod, w_sorted, w_list, w_bits, w_sl, w_slL, w_slF, w_slR, w_slT, w_newF, w_newT, w_eqL, w_eqT, w_eqR, w_neL, w_neT, w_neR, w_dgT, w_derL, w_derT, w_derB, w_derI, w_derN, w_derS, w_eqSS, w_eqBB, w_neSS, w_neBB, w_eqBI, w_eqIN, w_neIN, w_eqNI, w_neNI, w_eqNN, w_neNN, w_NN, w_NI, w_IN])
    refine ⟨b, s, a, c, x, y, rfl, hb, ha, hc, hx, hy, fun o ho => ?_⟩
    (try simp only [dLcM, w_isiM, rReverseD, dMinDef, rInDic, rNotInDic, dIRL, dCallC, dCallG, dConsL, dLam, atDs, dCallV, dgU, dSortI, dIItems, dDicM, dDc, dLenSet, itemsD, w_lrg, w_index, w_sortQ, dCut, dDGet, dDGet1, dDGet2, dDPut, dPairs, w_disp, w_newDF, w_newDT, dec_self, List.map_cons, List.map_nil, eqD_bl, eqD_int, eqD_str, eqD_tup, eqD_lst, eqDs_nil, eqDs_nc, eqDs_cn, eqDs_cons, reduceIte, Bool.false_eq_true, Bool.not_true, Bool.not_false, decide_true, decide_false, dVar, atD, setD, startD, dC, dOp, dAnd, dOr, dNot, dIf, dUn, dNil, dCons, dTup, dLst, rInD, rNotInD, dNoPart, dPart, dRev, dFld, DL.fieldsOf, dCB, dNext, dSeq, dBreak, dCont, dDrop, dRet, dRetN, dIfS, dNever, dgN, dgNil, dgCons, dgSub, dAsg, dPar, dPar3, putD, dSetF, dMt, rAppendD, rPopD, rExtendD, lsT, lsR, lsF, itemsR, dFrz, dCall, dCallK, dMeth, dMake, dFor, dIL, dIT, dIR1, dIR2, dIE, dIZ, wipeD, dYes, dLc, dDic0, updM_same, cxOf, asBl_bl, asInt_int, asTup_tup, isN, w_test, w_chain, w_andV, w_orV, w_notV, w_neg, w_sub, w_div, w_mod, w_pow, w_shl, w_shr, w_and, w_or, w_xor, w_lt, w_le, w_gt, w_ge, w_add, w_addS, w_addT, w_addL, w_addF, w_addR, w_mul, w_mulL, w_eq, w_ne, w_isN, w_isB, w_isntN, w_isntB, w_ix, w_isi, w_abs, w_max2, w_min2, w_max1L, w_min1L, w_sum, w_all, w_any, w_len, w_int, w_intB, w_divmod, w_sorted, w_list, w_bits, w_sl, w_slL, w_slF, w_slR, w_slT, w_newF, w_newT, w_eqL, w_eqT, w_eqR, w_neL, w_neT, w_neR, w_dgT, w_derL, w_derT, w_derB, w_derI, w_derN, w_derS, w_eqSS, w_eqBB, w_neSS, w_neBB, w_eqBI, w_eqIN, w_neIN, w_eqNI, w_neNI, w_eqNN, w_neNN, w_NN, w_NI, w_IN])
    refine ⟨lit_len (n := 2) (by decide), hkk _ _ ⟨rfl, ys1 ++ [y], ys2, os ++ [o], by rw [e]; simp, rfl, rows_app hos ho, ?_⟩⟩
    rw [List.zipWith_append (by exact (rows_len hos).symm)]
    rfl
  rintro acc M' ⟨hM', ys1, ys2, os, e, e2, hos, rfl⟩
  subst hM'
  cases ys2 with
  | cons y ys2 => cases e2
  | nil =>
  rw [List.append_nil] at e
  subst e
  refine ⟨updM_same, ?_⟩
  (try simp only [dLcM, w_isiM, rReverseD, dMinDef, rInDic, rNotInDic, dIRL, dCallC, dCallG, dConsL, dLam, atDs, dCallV, dgU, dSortI, dIItems, dDicM, dDc, dLenSet, itemsD, w_lrg, w_index, w_sortQ, dCut, dDGet, dDGet1, dDGet2, dDPut, dPairs, w_disp, w_newDF, w_newDT, dec_self, List.map_cons, List.map_nil, eqD_bl, eqD_int, eqD_str, eqD_tup, eqD_lst, eqDs_nil, eqDs_nc, eqDs_cn, eqDs_cons, reduceIte, Bool.false_eq_true, Bool.not_true, Bool.not_false, decide_true, decide_false, dVar, atD, setD, startD, dC, dOp, dAnd, dOr, dNot, dIf, dUn, dNil, dCons, dTup, dLst, rInD, rNotInD, dNoPart, dPart, dRev, dFld, DL.fieldsOf, dCB, dNext, dSeq, dBreak, dCont, dDrop, dRet, dRetN, dIfS, dNever, dgN, dgNil, dgCons, dgSub, dAsg, dPar, dPar3, putD, dSetF, dMt, rAppendD, rPopD, rExtendD, lsT, lsR, lsF, itemsR, dFrz, dCall, dCallK, dMeth, dMake, dFor, dIL, dIT, dIR1, dIR2, dIE, dIZ, wipeD, dYes, dLc, dDic0, updM_same, cxOf, asBl_bl, asInt_int, asTup_tup, isN, w_test, w_chain, w_andV, w_orV, w_notV, w_neg, w_sub, w_div, w_mod, w_pow, w_shl, w_shr, w_and, w_or, w_xor, w_lt, w_le, w_gt, w_ge, w_add, w_addS, w_addT, w_addL, w_addF, w_addR, w_mul, w_mulL, w_eq, w_ne, w_isN, w_isB, w_isntN, w_isntB, w_ix, w_isi, w_abs, w_max2, w_min2, w_max1L, w_min1L, w_sum, w_all, w_any, w_len, w_int, w_intB, w_divmod, w_sorted, w_list, w_bits, w_sl, w_slL, w_slF, w_slR, w_slT, w_newF, w_newT, w_eqL, w_eqT, w_eqR, w_neL, w_neT, w_neR, w_dgT, w_derL, w_derT, w_derB, w_derI, w_derN, w_derS, w_eqSS, w_eqBB, w_neSS, w_neBB, w_eqBI, w_eqIN, w_neIN, w_eqNI, w_neNI, w_eqNN, w_neNN, w_NN, w_NI, w_IN])
  (refine stop_to ?_; (try simp only [dLcM, w_isiM, rReverseD, dMinDef, rInDic, rNotInDic, dIRL, dCallC, dCallG, dConsL, dLam, atDs, dCallV, dgU, dSortI, dIItems, dDicM, dDc, dLenSet, itemsD, w_lrg, w_index, w_sortQ, dCut, dDGet, dDGet1, dDGet2, dDPut, dPairs, w_disp, w_newDF, w_newDT, dec_self, List.map_cons, List.map_nil, eqD_bl, eqD_int, eqD_str, eqD_tup, eqD_lst, eqDs_nil, eqDs_nc, eqDs_cn, eqDs_cons, reduceIte, Bool.false_eq_true, Bool.not_true, Bool.not_false, decide_true, decide_false, dVar, atD, setD, startD, dC, dOp, dAnd, dOr, dNot, dIf, dUn, dNil, dCons, dTup, dLst, rInD, rNotInD, dNoPart, dPart, dRev, dFld, DL.fieldsOf, dCB, dNext, dSeq, dBreak, dCont, dDrop, dRet, dRetN, dIfS, dNever, dgN, dgNil, dgCons, dgSub, dAsg, dPar, dPar3, putD, dSetF, dMt, rAppendD, rPopD, rExtendD, lsT, lsR, lsF, itemsR, dFrz, dCall, dCallK, dMeth, dMake, dFor, dIL, dIT, dIR1, dIR2, dIE, dIZ, wipeD, dYes, dLc, dDic0, updM_same, cxOf, asBl_bl, asInt_int, asTup_tup, isN, w_test, w_chain, w_andV, w_orV, w_notV, w_neg, w_sub, w_div, w_mod, w_pow, w_shl, w_shr, w_and, w_or, w_xor, w_lt, w_le, w_gt, w_ge, w_add, w_addS, w_addT, w_addL, w_addF, w_addR, w_mul, w_mulL, w_eq, w_ne, w_isN, w_isB, w_isntN, w_isntB, w_ix, w_isi, w_abs, w_max2, w_min2, w_max1L, w_min1L, w_sum, w_all, w_any, w_len, w_int, w_intB, w_divmod, w_sorted, w_list, w_bits, w_sl, w_slL, w_slF, w_slR, w_slT, w_newF, w_newT, w_eqL, w_eqT, w_eqR, w_neL, w_neT, w_neR, w_dgT, w_derL, w_derT, w_derB, w_derI, w_derN, w_derS, w_eqSS, w_eqBB, w_neSS, w_neBB, w_eqBI, w_eqIN, w_neIN, w_eqNI, w_neNI, w_eqNN, w_neNN, w_NN, w_NI, w_IN]))
  refine ⟨_, rfl, by rw [List.length_zipWith, sizeLine_eq]; omega, ?_⟩
  refine lc_by (fun r acc M2 => M2 = updM Ms p (.lst (ys.map Dat.int)) ∧ ∃ ys1 ys2 os1 os2, ys = ys1 ++ ys2 ∧ os = os1 ++ os2 ∧ ys1.length = os1.length ∧ ys2.length = os2.length ∧ r = List.zipWith (fun o y => Dat.tup [optN (Option.map (·.1) o), .int y]) os2 ys2 ∧ acc = (metQ ys1 os1).map prD) ?_ ?_ _ _ _ ⟨rfl, [], ys, [], os, rfl, rfl, rfl, rows_len hos, rfl, rfl⟩
  rotate_left
  · rintro d r acc M2 kk ⟨hM2, ys1, ys2, os1, os2, e, e2, l1, l2, e3, rfl⟩ hkk
    subst hM2
    cases ys2 with
    | nil => cases os2 <;> cases e3
    | cons y ys2 =>
    cases os2 with
    | nil => cases e3
    | cons o os2 =>
    injection e3 with q1 q2
    subst q1 q2
    have hA := metQ_app ys1 os1 y o l1
    replace hkk : ∀ acc, acc = (metQ (ys1 ++ [y]) (os1 ++ [o])).map prD → kk acc (updM Ms p (.lst (ys.map Dat.int))) := fun acc h => hkk _ _ ⟨rfl, ys1 ++ [y], ys2, os1 ++ [o], os2, by rw [e]; simp, by rw [e2]; simp, by simp [l1], by simpa using l2, rfl, h⟩
    (try simp only [dLcM, w_isiM, rReverseD, dMinDef, rInDic, rNotInDic, dIRL, dCallC, dCallG, dConsL, dLam, atDs, dCallV, dgU, dSortI, dIItems, dDicM, dDc, dLenSet, itemsD, w_lrg, w_index, w_sortQ, dCut, dDGet, dDGet1, dDGet2, dDPut, dPairs, w_disp, w_newDF, w_newDT, dec_self, List.map_cons, List.map_nil, eqD_bl, eqD_int, eqD_str, eqD_tup, eqD_lst, eqDs_nil, eqDs_nc, eqDs_cn, eqDs_cons, reduceIte, Bool.false_eq_true, Bool.not_true, Bool.not_false, decide_true, decide_false, dVar, atD, setD, startD, dC, dOp, dAnd, dOr, dNot, dIf, dUn, dNil, dCons, dTup, dLst, rInD, rNotInD, dNoPart, dPart, dRev, dFld, DL.fieldsOf, dCB, dNext, dSeq, dBreak, dCont, dDrop, dRet, dRetN, dIfS, dNever, dgN, dgNil, dgCons, dgSub, dAsg, dPar, dPar3, putD, dSetF, dMt, rAppendD, rPopD, rExtendD, lsT, lsR, lsF, itemsR, dFrz, dCall, dCallK, dMeth, dMake, dFor, dIL, dIT, dIR1, dIR2, dIE, dIZ, wipeD, dYes, dLc, dDic0, updM_same, cxOf, asBl_bl, asInt_int, asTup_tup, isN, w_test, w_chain, w_andV, w_orV, w_notV, w_neg, w_sub, w_div, w_mod, w_pow, w_shl, w_shr, w_and, w_or, w_xor, w_lt, w_le, w_gt, w_ge, w_add, w_addS, w_addT, w_addL, w_addF, w_addR, w_mul, w_mulL, w_eq, w_ne, w_isN, w_isB, w_isntN, w_isntB, w_ix, w_isi, w_abs, w_max2, w_min2, w_max1L, w_min1L, w_sum, w_all, w_any, w_len, w_int, w_intB, w_divmod, w_sorted, w_list, w_bits, w_sl, w_slL, w_slF, w_slR, w_slT, w_newF, w_newT, w_eqL, w_eqT, w_eqR, w_neL, w_neT, w_neR, w_dgT, w_derL, w_derT, w_derB, w_derI, w_derN, w_derS, w_eqSS, w_eqBB, w_neSS, w_neBB, w_eqBI, w_eqIN, w_neIN, w_eqNI, w_neNI, w_eqNN, w_neNN, w_NN, w_NI, w_IN])
    cases o with
    | none =>
      simp only [Option.map, optN]
      (try simp only [dLcM, w_isiM, rReverseD, dMinDef, rInDic, rNotInDic, dIRL, dCallC, dCallG, dConsL, dLam, atDs, dCallV, dgU, dSortI, dIItems, dDicM, dDc, dLenSet, itemsD, w_lrg, w_index, w_sortQ, dCut, dDGet, dDGet1, dDGet2, dDPut, dPairs, w_disp, w_newDF, w_newDT, dec_self, List.map_cons, List.map_nil, eqD_bl, eqD_int, eqD_str, eqD_tup, eqD_lst, eqDs_nil, eqDs_nc, eqDs_cn, eqDs_cons, reduceIte, Bool.false_eq_true, Bool.not_true, Bool.not_false, decide_true, decide_false, dVar, atD, setD, startD, dC, dOp, dAnd, dOr, dNot, dIf, dUn, dNil, dCons, dTup, dLst, rInD, rNotInD, dNoPart, dPart, dRev, dFld, DL.fieldsOf, dCB, dNext, dSeq, dBreak, dCont, dDrop, dRet, dRetN, dIfS, dNever, dgN, dgNil, dgCons, dgSub, dAsg, dPar, dPar3, putD, dSetF, dMt, rAppendD, rPopD, rExtendD, lsT, lsR, lsF, itemsR, dFrz, dCall, dCallK, dMeth, dMake, dFor, dIL, dIT, dIR1, dIR2, dIE, dIZ, wipeD, dYes, dLc, dDic0, updM_same, cxOf, asBl_bl, asInt_int, asTup_tup, isN, w_test, w_chain, w_andV, w_orV, w_notV, w_neg, w_sub, w_div, w_mod, w_pow, w_shl, w_shr, w_and, w_or, w_xor, w_lt, w_le, w_gt, w_ge, w_add, w_addS, w_addT, w_addL, w_addF, w_addR, w_mul, w_mulL, w_eq, w_ne, w_isN, w_isB, w_isntN, w_isntB, w_ix, w_isi, w_abs, w_max2, w_min2, w_max1L, w_min1L, w_sum, w_all, w_any, w_len, w_int, w_intB, w_divmod, w_sorted, w_list, w_bits, w_sl, w_slL, w_slF, w_slR, w_slT, w_newF, w_newT, w_eqL, w_eqT, w_eqR, w_neL, w_neT, w_neR, w_dgT, w_derL, w_derT, w_derB, w_derI, w_derN, w_derS, w_eqSS, w_eqBB, w_neSS, w_neBB, w_eqBI, w_eqIN, w_neIN, w_eqNI, w_neNI, w_eqNN, w_neNN, w_NN, w_NI, w_IN])
      refine ⟨_, _, rfl, atI_nat (j := 0) rfl, ?_⟩
      (try simp only [dLcM, w_isiM, rReverseD, dMinDef, rInDic, rNotInDic, dIRL, dCallC, dCallG, dConsL, dLam, atDs, dCallV, dgU, dSortI, dIItems, dDicM, dDc, dLenSet, itemsD, w_lrg, w_index, w_sortQ, dCut, dDGet, dDGet1, dDGet2, dDPut, dPairs, w_disp, w_newDF, w_newDT, dec_self, List.map_cons, List.map_nil, eqD_bl, eqD_int, eqD_str, eqD_tup, eqD_lst, eqDs_nil, eqDs_nc, eqDs_cn, eqDs_cons, reduceIte, Bool.false_eq_true, Bool.not_true, Bool.not_false, decide_true, decide_false, dVar, atD, setD, startD, dC, dOp, dAnd, dOr, dNot, dIf, dUn, dNil, dCons, dTup, dLst, rInD, rNotInD, dNoPart, dPart, dRev, dFld, DL.fieldsOf, dCB, dNext, dSeq, dBreak, dCont, dDrop, dRet, dRetN, dIfS, dNever, dgN, dgNil, dgCons, dgSub, dAsg, dPar, dPar3, putD, dSetF, dMt, rAppendD, rPopD, rExtendD, lsT, lsR, lsF, itemsR, dFrz, dCall, dCallK, dMeth, dMake, dFor, dIL, dIT, dIR1, dIR2, dIE, dIZ, wipeD, dYes, dLc, dDic0, updM_same, cxOf, asBl_bl, asInt_int, asTup_tup, isN, w_test, w_chain, w_andV, w_orV, w_notV, w_neg, w_sub, w_div, w_mod, w_pow, w_shl, w_shr, w_and, w_or, w_xor, w_lt, w_le, w_gt, w_ge, w_add, w_addS, w_addT, w_addL, w_addF, w_addR, w_mul, w_mulL, w_eq, w_ne, w_isN, w_isB, w_isntN, w_isntB, w_ix, w_isi, w_abs, w_max2, w_min2, w_max1L, w_min1L, w_sum, w_all, w_any, w_len, w_int, w_intB, w_divmod, w_sorted, w_list, w_bits, w_sl, w_slL, w_slF, w_slR, w_slT, w_newF, w_newT, w_eqL, w_eqT, w_eqR, w_neL, w_neT, w_neR, w_dgT, w_derL, w_derT, w_derB, w_derI, w_derN, w_derS, w_eqSS, w_eqBB, w_neSS, w_neBB, w_eqBI, w_eqIN, w_neIN, w_eqNI, w_neNI, w_eqNN, w_neNN, w_NN, w_NI, w_IN])
      refine hkk _ ?_
      rw [hA]
      simp
    | some q =>
      simp only [Option.map, optN]
      (try simp only [dLcM, w_isiM, rReverseD, dMinDef, rInDic, rNotInDic, dIRL, dCallC, dCallG, dConsL, dLam, atDs, dCallV, dgU, dSortI, dIItems, dDicM, dDc, dLenSet, itemsD, w_lrg, w_index, w_sortQ, dCut, dDGet, dDGet1, dDGet2, dDPut, dPairs, w_disp, w_newDF, w_newDT, dec_self, List.map_cons, List.map_nil, eqD_bl, eqD_int, eqD_str, eqD_tup, eqD_lst, eqDs_nil, eqDs_nc, eqDs_cn, eqDs_cons, reduceIte, Bool.false_eq_true, Bool.not_true, Bool.not_false, decide_true, decide_false, dVar, atD, setD, startD, dC, dOp, dAnd, dOr, dNot, dIf, dUn, dNil, dCons, dTup, dLst, rInD, rNotInD, dNoPart, dPart, dRev, dFld, DL.fieldsOf, dCB, dNext, dSeq, dBreak, dCont, dDrop, dRet, dRetN, dIfS, dNever, dgN, dgNil, dgCons, dgSub, dAsg, dPar, dPar3, putD, dSetF, dMt, rAppendD, rPopD, rExtendD, lsT, lsR, lsF, itemsR, dFrz, dCall, dCallK, dMeth, dMake, dFor, dIL, dIT, dIR1, dIR2, dIE, dIZ, wipeD, dYes, dLc, dDic0, updM_same, cxOf, asBl_bl, asInt_int, asTup_tup, isN, w_test, w_chain, w_andV, w_orV, w_notV, w_neg, w_sub, w_div, w_mod, w_pow, w_shl, w_shr, w_and, w_or, w_xor, w_lt, w_le, w_gt, w_ge, w_add, w_addS, w_addT, w_addL, w_addF, w_addR, w_mul, w_mulL, w_eq, w_ne, w_isN, w_isB, w_isntN, w_isntB, w_ix, w_isi, w_abs, w_max2, w_min2, w_max1L, w_min1L, w_sum, w_all, w_any, w_len, w_int, w_intB, w_divmod, w_sorted, w_list, w_bits, w_sl, w_slL, w_slF, w_slR, w_slT, w_newF, w_newT, w_eqL, w_eqT, w_eqR, w_neL, w_neT, w_neR, w_dgT, w_derL, w_derT, w_derB, w_derI, w_derN, w_derS, w_eqSS, w_eqBB, w_neSS, w_neBB, w_eqBI, w_eqIN, w_neIN, w_eqNI, w_neNI, w_eqNN, w_neNN, w_NN, w_NI, w_IN])
      refine ⟨_, _, rfl, atI_nat (j := 0) rfl, ?_⟩
      (try simp only [dLcM, w_isiM, rReverseD, dMinDef, rInDic, rNotInDic, dIRL, dCallC, dCallG, dConsL, dLam, atDs, dCallV, dgU, dSortI, dIItems, dDicM, dDc, dLenSet, itemsD, w_lrg, w_index, w_sortQ, dCut, dDGet, dDGet1, dDGet2, dDPut, dPairs, w_disp, w_newDF, w_newDT, dec_self, List.map_cons, List.map_nil, eqD_bl, eqD_int, eqD_str, eqD_tup, eqD_lst, eqDs_nil, eqDs_nc, eqDs_cn, eqDs_cons, reduceIte, Bool.false_eq_true, Bool.not_true, Bool.not_false, decide_true, decide_false, dVar, atD, setD, startD, dC, dOp, dAnd, dOr, dNot, dIf, dUn, dNil, dCons, dTup, dLst, rInD, rNotInD, dNoPart, dPart, dRev, dFld, DL.fieldsOf, dCB, dNext, dSeq, dBreak, dCont, dDrop, dRet, dRetN, dIfS, dNever, dgN, dgNil, dgCons, dgSub, dAsg, dPar, dPar3, putD, dSetF, dMt, rAppendD, rPopD, rExtendD, lsT, lsR, lsF, itemsR, dFrz, dCall, dCallK, dMeth, dMake, dFor, dIL, dIT, dIR1, dIR2, dIE, dIZ, wipeD, dYes, dLc, dDic0, updM_same, cxOf, asBl_bl, asInt_int, asTup_tup, isN, w_test, w_chain, w_andV, w_orV, w_notV, w_neg, w_sub, w_div, w_mod, w_pow, w_shl, w_shr, w_and, w_or, w_xor, w_lt, w_le, w_gt, w_ge, w_add, w_addS, w_addT, w_addL, w_addF, w_addR, w_mul, w_mulL, w_eq, w_ne, w_isN, w_isB, w_isntN, w_isntB, w_ix, w_isi, w_abs, w_max2, w_min2, w_max1L, w_min1L, w_sum, w_all, w_any, w_len, w_int, w_intB, w_divmod, w_sorted, w_list, w_bits, w_sl, w_slL, w_slF, w_slR, w_slT, w_newF, w_newT, w_eqL, w_eqT, w_eqR, w_neL, w_neT, w_neR, w_dgT, w_derL, w_derT, w_derB, w_derI, w_derN, w_derS, w_eqSS, w_eqBB, w_neSS, w_neBB, w_eqBI, w_eqIN, w_neIN, w_eqNI, w_neNI, w_eqNN, w_neNN, w_NN, w_NI, w_IN])
      refine hkk _ ?_
      rw [hA]
      simp
  rintro acc M2 ⟨hM2, ys1, ys2, os1, os2, e, e2, l1, l2, e3, rfl⟩
  subst hM2
  have l3 := congrArg List.length e3
  rw [List.length_zipWith, List.length_nil] at l3
  have z1 : ys2 = [] := List.length_eq_zero_iff.mp (by omega)
  have z2 : os2 = [] := List.length_eq_zero_iff.mp (by omega)
  subst z1 z2
  rw [List.append_nil] at e e2
  subst e e2
  clear e3 l1 l2 l3
  (try simp only [dLcM, w_isiM, rReverseD, dMinDef, rInDic, rNotInDic, dIRL, dCallC, dCallG, dConsL, dLam, atDs, dCallV, dgU, dSortI, dIItems, dDicM, dDc, dLenSet, itemsD, w_lrg, w_index, w_sortQ, dCut, dDGet, dDGet1, dDGet2, dDPut, dPairs, w_disp, w_newDF, w_newDT, dec_self, List.map_cons, List.map_nil, eqD_bl, eqD_int, eqD_str, eqD_tup, eqD_lst, eqDs_nil, eqDs_nc, eqDs_cn, eqDs_cons, reduceIte, Bool.false_eq_true, Bool.not_true, Bool.not_false, decide_true, decide_false, dVar, atD, setD, startD, dC, dOp, dAnd, dOr, dNot, dIf, dUn, dNil, dCons, dTup, dLst, rInD, rNotInD, dNoPart, dPart, dRev, dFld, DL.fieldsOf, dCB, dNext, dSeq, dBreak, dCont, dDrop, dRet, dRetN, dIfS, dNever, dgN, dgNil, dgCons, dgSub, dAsg, dPar, dPar3, putD, dSetF, dMt, rAppendD, rPopD, rExtendD, lsT, lsR, lsF, itemsR, dFrz, dCall, dCallK, dMeth, dMake, dFor, dIL, dIT, dIR1, dIR2, dIE, dIZ, wipeD, dYes, dLc, dDic0, updM_same, cxOf, asBl_bl, asInt_int, asTup_tup, isN, w_test, w_chain, w_andV, w_orV, w_notV, w_neg, w_sub, w_div, w_mod, w_pow, w_shl, w_shr, w_and, w_or, w_xor, w_lt, w_le, w_gt, w_ge, w_add, w_addS, w_addT, w_addL, w_addF, w_addR, w_mul, w_mulL, w_eq, w_ne, w_isN, w_isB, w_isntN, w_isntB, w_ix, w_isi, w_abs, w_max2, w_min2, w_max1L, w_min1L, w_sum, w_all, w_any, w_len, w_int, w_intB, w_divmod, w_sorted, w_list, w_bits, w_sl, w_slL, w_slF, w_slR, w_slT, w_newF, w_newT, w_eqL, w_eqT, w_eqR, w_neL, w_neT, w_neR, w_dgT, w_derL, w_derT, w_derB, w_derI, w_derN, w_derS, w_eqSS, w_eqBB, w_neSS, w_neBB, w_eqBI, w_eqIN, w_neIN, w_eqNI, w_neNI, w_eqNN, w_neNN, w_NN, w_NI, w_IN])
  refine ⟨_, rfl, fun qs p1 p2 => ?_⟩
  obtain ⟨r0, hr0, hhd⟩ := met_head hos p1 p2
  have hql : qs.length + 1 ≤ 1000 := by
    have : qs.length ≤ ys.length := by
      have h1 := p1.length_eq
      have : ∀ (ys : List Int) (os : List (Option (Nat × Nat))), (metQ ys os).length ≤ ys.length := by
        intro ys
        induction ys with
        | nil =>
          intro os
          cases os <;> exact Nat.le_refl _
        | cons y ys ih =>
          intro os
          cases os with
          | nil => exact Nat.zero_le _
          | cons o os =>
            cases o with
            | none => exact Nat.le_trans (ih os) (Nat.le_succ _)
            | some p => exact Nat.succ_le_succ (ih os)
      have := this ys os
      omega
    omega
  (refine stop_to ?_; (try simp only [dLcM, w_isiM, rReverseD, dMinDef, rInDic, rNotInDic, dIRL, dCallC, dCallG, dConsL, dLam, atDs, dCallV, dgU, dSortI, dIItems, dDicM, dDc, dLenSet, itemsD, w_lrg, w_index, w_sortQ, dCut, dDGet, dDGet1, dDGet2, dDPut, dPairs, w_disp, w_newDF, w_newDT, dec_self, List.map_cons, List.map_nil, eqD_bl, eqD_int, eqD_str, eqD_tup, eqD_lst, eqDs_nil, eqDs_nc, eqDs_cn, eqDs_cons, reduceIte, Bool.false_eq_true, Bool.not_true, Bool.not_false, decide_true, decide_false, dVar, atD, setD, startD, dC, dOp, dAnd, dOr, dNot, dIf, dUn, dNil, dCons, dTup, dLst, rInD, rNotInD, dNoPart, dPart, dRev, dFld, DL.fieldsOf, dCB, dNext, dSeq, dBreak, dCont, dDrop, dRet, dRetN, dIfS, dNever, dgN, dgNil, dgCons, dgSub, dAsg, dPar, dPar3, putD, dSetF, dMt, rAppendD, rPopD, rExtendD, lsT, lsR, lsF, itemsR, dFrz, dCall, dCallK, dMeth, dMake, dFor, dIL, dIT, dIR1, dIR2, dIE, dIZ, wipeD, dYes, dLc, dDic0, updM_same, cxOf, asBl_bl, asInt_int, asTup_tup, isN, w_test, w_chain, w_andV, w_orV, w_notV, w_neg, w_sub, w_div, w_mod, w_pow, w_shl, w_shr, w_and, w_or, w_xor, w_lt, w_le, w_gt, w_ge, w_add, w_addS, w_addT, w_addL, w_addF, w_addR, w_mul, w_mulL, w_eq, w_ne, w_isN, w_isB, w_isntN, w_isntB, w_ix, w_isi, w_abs, w_max2, w_min2, w_max1L, w_min1L, w_sum, w_all, w_any, w_len, w_int, w_intB, w_divmod, w_sorted, w_list, w_bits, w_sl, w_slL, w_slF, w_slR, w_slT, w_newF, w_newT, w_eqL, w_eqT, w_eqR, w_neL, w_neT, w_neR, w_dgT, w_derL, w_derT, w_derB, w_derI, w_derN, w_derS, w_eqSS, w_eqBB, w_neSS, w_neBB, w_eqBI, w_eqIN, w_neIN, w_eqNI, w_neNI, w_eqNN, w_neNN, w_NN, w_NI, w_IN]))
  refine cut_is false ?_ ?_
  · (try simp only [dLcM, w_isiM, rReverseD, dMinDef, rInDic, rNotInDic, dIRL, dCallC, dCallG, dConsL, dLam, atDs, dCallV, dgU, dSortI, dIItems, dDicM, dDc, dLenSet, itemsD, w_lrg, w_index, w_sortQ, dCut, dDGet, dDGet1, dDGet2, dDPut, dPairs, w_disp, w_newDF, w_newDT, dec_self, List.map_cons, List.map_nil, eqD_bl, eqD_int, eqD_str, eqD_tup, eqD_lst, eqDs_nil, eqDs_nc, eqDs_cn, eqDs_cons, reduceIte, Bool.false_eq_true, Bool.not_true, Bool.not_false, decide_true, decide_false, dVar, atD, setD, startD, dC, dOp, dAnd, dOr, dNot, dIf, dUn, dNil, dCons, dTup, dLst, rInD, rNotInD, dNoPart, dPart, dRev, dFld, DL.fieldsOf, dCB, dNext, dSeq, dBreak, dCont, dDrop, dRet, dRetN, dIfS, dNever, dgN, dgNil, dgCons, dgSub, dAsg, dPar, dPar3, putD, dSetF, dMt, rAppendD, rPopD, rExtendD, lsT, lsR, lsF, itemsR, dFrz, dCall, dCallK, dMeth, dMake, dFor, dIL, dIT, dIR1, dIR2, dIE, dIZ, wipeD, dYes, dLc, dDic0, updM_same, cxOf, asBl_bl, asInt_int, asTup_tup, isN, w_test, w_chain, w_andV, w_orV, w_notV, w_neg, w_sub, w_div, w_mod, w_pow, w_shl, w_shr, w_and, w_or, w_xor, w_lt, w_le, w_gt, w_ge, w_add, w_addS, w_addT, w_addL, w_addF, w_addR, w_mul, w_mulL, w_eq, w_ne, w_isN, w_isB, w_isntN, w_isntB, w_ix, w_isi, w_abs, w_max2, w_min2, w_max1L, w_min1L, w_sum, w_all, w_any, w_len, w_int, w_intB, w_divmod, w_sorted, w_list, w_bits, w_sl, w_slL, w_slF, w_slR, w_slT, w_newF, w_newT, w_eqL, w_eqT, w_eqR, w_neL, w_neT, w_neR, w_dgT, w_derL, w_derT, w_derB, w_derI, w_derN, w_derS, w_eqSS, w_eqBB, w_neSS, w_neBB, w_eqBI, w_eqIN, w_neIN, w_eqNI, w_neNI, w_eqNN, w_neNN, w_NN, w_NI, w_IN])
    refine ⟨b, s, a, c, x, p, ys, rfl, hb, ha, hc, hx, updM_same, h3, h4, h5, fun r hr => ?_⟩
    rw [met_uniq hr hr0]
    refine ⟨lit_len (n := 1) (by decide), _, _, rfl, rfl, lit_len (by rw [List.length_map]; exact hql), _, _, rfl, hhd, ?_⟩
    refine ne_met ?_
    (try simp only [dLcM, w_isiM, rReverseD, dMinDef, rInDic, rNotInDic, dIRL, dCallC, dCallG, dConsL, dLam, atDs, dCallV, dgU, dSortI, dIItems, dDicM, dDc, dLenSet, itemsD, w_lrg, w_index, w_sortQ, dCut, dDGet, dDGet1, dDGet2, dDPut, dPairs, w_disp, w_newDF, w_newDT, dec_self, List.map_cons, List.map_nil, eqD_bl, eqD_int, eqD_str, eqD_tup, eqD_lst, eqDs_nil, eqDs_nc, eqDs_cn, eqDs_cons, reduceIte, Bool.false_eq_true, Bool.not_true, Bool.not_false, decide_true, decide_false, dVar, atD, setD, startD, dC, dOp, dAnd, dOr, dNot, dIf, dUn, dNil, dCons, dTup, dLst, rInD, rNotInD, dNoPart, dPart, dRev, dFld, DL.fieldsOf, dCB, dNext, dSeq, dBreak, dCont, dDrop, dRet, dRetN, dIfS, dNever, dgN, dgNil, dgCons, dgSub, dAsg, dPar, dPar3, putD, dSetF, dMt, rAppendD, rPopD, rExtendD, lsT, lsR, lsF, itemsR, dFrz, dCall, dCallK, dMeth, dMake, dFor, dIL, dIT, dIR1, dIR2, dIE, dIZ, wipeD, dYes, dLc, dDic0, updM_same, cxOf, asBl_bl, asInt_int, asTup_tup, isN, w_test, w_chain, w_andV, w_orV, w_notV, w_neg, w_sub, w_div, w_mod, w_pow, w_shl, w_shr, w_and, w_or, w_xor, w_lt, w_le, w_gt, w_ge, w_add, w_addS, w_addT, w_addL, w_addF, w_addR, w_mul, w_mulL, w_eq, w_ne, w_isN, w_isB, w_isntN, w_isntB, w_ix, w_isi, w_abs, w_max2, w_min2, w_max1L, w_min1L, w_sum, w_all, w_any, w_len, w_int, w_intB, w_divmod, w_sorted, w_list, w_bits, w_sl, w_slL, w_slF, w_slR, w_slT, w_newF, w_newT, w_eqL, w_eqT, w_eqR, w_neL, w_neT, w_neR, w_dgT, w_derL, w_derT, w_derB, w_derI, w_derN, w_derS, w_eqSS, w_eqBB, w_neSS, w_neBB, w_eqBI, w_eqIN, w_neIN, w_eqNI, w_neNI, w_eqNN, w_neNN, w_NN, w_NI, w_IN])
    have hder : deref (updM Ms p (.lst (ys.map Dat.int))) (.ref p) = .lst (ys.map Dat.int) := by
      show (match updM Ms p (.lst (ys.map Dat.int)) p with
        | some (.lst ds) => Dat.lst ds
        | _ => Dat.ref p) = _
      rw [updM_same]
    rw [hder, eqD_lst, eqDs_ints, decide_eq_true rfl]
    exact ⟨shp_intsM ys, shp_intsM ys, rfl, True.intro⟩
  (try simp only [dLcM, w_isiM, rReverseD, dMinDef, rInDic, rNotInDic, dIRL, dCallC, dCallG, dConsL, dLam, atDs, dCallV, dgU, dSortI, dIItems, dDicM, dDc, dLenSet, itemsD, w_lrg, w_index, w_sortQ, dCut, dDGet, dDGet1, dDGet2, dDPut, dPairs, w_disp, w_newDF, w_newDT, dec_self, List.map_cons, List.map_nil, eqD_bl, eqD_int, eqD_str, eqD_tup, eqD_lst, eqDs_nil, eqDs_nc, eqDs_cn, eqDs_cons, reduceIte, Bool.false_eq_true, Bool.not_true, Bool.not_false, decide_true, decide_false, dVar, atD, setD, startD, dC, dOp, dAnd, dOr, dNot, dIf, dUn, dNil, dCons, dTup, dLst, rInD, rNotInD, dNoPart, dPart, dRev, dFld, DL.fieldsOf, dCB, dNext, dSeq, dBreak, dCont, dDrop, dRet, dRetN, dIfS, dNever, dgN, dgNil, dgCons, dgSub, dAsg, dPar, dPar3, putD, dSetF, dMt, rAppendD, rPopD, rExtendD, lsT, lsR, lsF, itemsR, dFrz, dCall, dCallK, dMeth, dMake, dFor, dIL, dIT, dIR1, dIR2, dIE, dIZ, wipeD, dYes, dLc, dDic0, updM_same, cxOf, asBl_bl, asInt_int, asTup_tup, isN, w_test, w_chain, w_andV, w_orV, w_notV, w_neg, w_sub, w_div, w_mod, w_pow, w_shl, w_shr, w_and, w_or, w_xor, w_lt, w_le, w_gt, w_ge, w_add, w_addS, w_addT, w_addL, w_addF, w_addR, w_mul, w_mulL, w_eq, w_ne, w_isN, w_isB, w_isntN, w_isntB, w_ix, w_isi, w_abs, w_max2, w_min2, w_max1L, w_min1L, w_sum, w_all, w_any, w_len, w_int, w_intB, w_divmod, w_sorted, w_list, w_bits, w_sl, w_slL, w_slF, w_slR, w_slT, w_newF, w_newT, w_eqL, w_eqT, w_eqR, w_neL, w_neT, w_neR, w_dgT, w_derL, w_derT, w_derB, w_derI, w_derN, w_derS, w_eqSS, w_eqBB, w_neSS, w_neBB, w_eqBI, w_eqIN, w_neIN, w_eqNI, w_neNI, w_eqNN, w_neNN, w_NN, w_NI, w_IN])
  (refine stop_to ?_; (try simp only [dLcM, w_isiM, rReverseD, dMinDef, rInDic, rNotInDic, dIRL, dCallC, dCallG, dConsL, dLam, atDs, dCallV, dgU, dSortI, dIItems, dDicM, dDc, dLenSet, itemsD, w_lrg, w_index, w_sortQ, dCut, dDGet, dDGet1, dDGet2, dDPut, dPairs, w_disp, w_newDF, w_newDT, dec_self, List.map_cons, List.map_nil, eqD_bl, eqD_int, eqD_str, eqD_tup, eqD_lst, eqDs_nil, eqDs_nc, eqDs_cn, eqDs_cons, reduceIte, Bool.false_eq_true, Bool.not_true, Bool.not_false, decide_true, decide_false, dVar, atD, setD, startD, dC, dOp, dAnd, dOr, dNot, dIf, dUn, dNil, dCons, dTup, dLst, rInD, rNotInD, dNoPart, dPart, dRev, dFld, DL.fieldsOf, dCB, dNext, dSeq, dBreak, dCont, dDrop, dRet, dRetN, dIfS, dNever, dgN, dgNil, dgCons, dgSub, dAsg, dPar, dPar3, putD, dSetF, dMt, rAppendD, rPopD, rExtendD, lsT, lsR, lsF, itemsR, dFrz, dCall, dCallK, dMeth, dMake, dFor, dIL, dIT, dIR1, dIR2, dIE, dIZ, wipeD, dYes, dLc, dDic0, updM_same, cxOf, asBl_bl, asInt_int, asTup_tup, isN, w_test, w_chain, w_andV, w_orV, w_notV, w_neg, w_sub, w_div, w_mod, w_pow, w_shl, w_shr, w_and, w_or, w_xor, w_lt, w_le, w_gt, w_ge, w_add, w_addS, w_addT, w_addL, w_addF, w_addR, w_mul, w_mulL, w_eq, w_ne, w_isN, w_isB, w_isntN, w_isntB, w_ix, w_isi, w_abs, w_max2, w_min2, w_max1L, w_min1L, w_sum, w_all, w_any, w_len, w_int, w_intB, w_divmod, w_sorted, w_list, w_bits, w_sl, w_slL, w_slF, w_slR, w_slT, w_newF, w_newT, w_eqL, w_eqT, w_eqR, w_neL, w_neT, w_neR, w_dgT, w_derL, w_derT, w_derB, w_derI, w_derN, w_derS, w_eqSS, w_eqBB, w_neSS, w_neBB, w_eqBI, w_eqIN, w_neIN, w_eqNI, w_neNI, w_eqNN, w_neNN, w_NN, w_NI, w_IN]))
  obtain ⟨y, hy1, hy2⟩ : ∃ y, ys[ys.length - 1]? = some y ∧ y ∈ ys := by
    refine ⟨ys[ys.length - 1], List.getElem?_eq_getElem (by omega), List.getElem_mem _⟩
  refine ⟨_, _, rfl, atI_lastM (by rw [List.length_map, List.getElem?_map, hy1]; rfl), ?_⟩
  refine ⟨src, 3, rfl, (h1.src.side h2).1, by decide, by decide +kernel, fun n Mb n0 n1 hs2 => ?_⟩
  obtain ⟨Mc, g1, g2, rfl⟩ := hs2.side hne h2
  have hn8 : n.natAbs < 2 ^ 8000 := by
    have : (3 : Nat) < 2 ^ 8000 := by decide +kernel
    omega
  refine ⟨b, s, a, c, y, n, rfl, hb, ha, hc, h5 y hy2, hn8, fun _ => ?_, fun h => absurd h (by omega)⟩
  have hz : ixN (ys.map Dat.int).length 0 = some 0 := by
    unfold ixN
    rw [if_pos (by decide), if_pos (by rw [List.length_map]; omega)]
    rfl
  refine ⟨_, _, updM_same, hz, ⟨_, rfl⟩, _, rfl, ?_⟩
  rw [updM_updM, updM_updM, show ((ys.map Dat.int).set 0 (.int (placedZ b s (itZ a c y n.toNat)))).reverse = ((ys.set 0 (placedZ b s (itZ a c y n.toNat))).reverse).map Dat.int by rw [List.map_reverse, List.map_set]]
  refine hk _ Mc _ _ _ _ _ _ _ (h1.trans g1) g2 (by simpa using h3) (by simpa using h4) fun z hz => ?_
  rcases List.mem_or_eq_of_mem_set (List.mem_reverse.mp hz) with hz | rfl
  · exact h5 z hz
  · exact placed_inK b s _
/-! ### the law: some numbers, some turns -/
theorem ok_law (T : Txt K mg C_Kind) (F__law_source_of : FnD P w K mg base 1 "_law_source_of" s__law_source_of ["_law_cell"] (sp_source_of)) (F__law_cell_at : FnD P w K mg base 1 "_law_cell_at" s__law_cell_at ["_law_script", "_law_index"] (sp_cell)) (F__law_right : FnD P w K mg base 9 "_law_right" s__law_right ["_law_source"] (sp_lright)) : FnD P w K mg base 10 "law" s_law ["_law_script"] (spLaw) := by
  refine fn_mk T.h_law sc_law 4 rfl (by intro ds M Q h; first | (obtain ⟨rfl, _⟩ := h; rfl) | (obtain ⟨_, rfl, _⟩ := h; rfl) | (obtain ⟨_, _, rfl, _⟩ := h; rfl) | (obtain ⟨_, _, _, rfl, _⟩ := h; rfl) | (obtain ⟨_, _, _, _, rfl, _⟩ := h; rfl) | (obtain ⟨_, _, _, _, _, rfl, _⟩ := h; rfl) | (obtain ⟨_, _, _, _, _, _, rfl, _⟩ := h; rfl) | (obtain ⟨_, _, _, _, _, _, _, rfl, _⟩ := h; rfl) | (obtain ⟨_, _, _, _, _, _, _, _, rfl, _⟩ := h; rfl) | (obtain ⟨_, _, _, _, _, _, _, _, _, rfl, _⟩ := h; rfl) | (obtain ⟨_, _, _, _, _, _, _, _, _, _, rfl, _⟩ := h; rfl) | (obtain ⟨_, _, _, _, _, _, _, _, _, _, _, rfl, _⟩ := h; rfl) | (obtain ⟨_, _, _, _, _, _, _, _, _, _, _, _, rfl, _⟩ := h; rfl)) (fun f cdv A outer s H E hr => ⟨_, (dss_cons (ds_for (di_lst (de_op (od_add false) (de_lst false (da_cons (de_call F__law_cell_at hr (da_cons (dv 0) (da_cons de_int da_nil))) da_nil)) (de_sl false (dv 0) (do_some de_int) (do_some de_int)))) (dg_name (i := 1) sc_law.nd)
    (dss_cons (ds_set (i := 2) sc_law.nd (de_call F__law_source_of hr (da_cons (dv 1) da_nil)))
    (dss_one (ds_for (di_rng1 T.b_range (da_cons de_int da_nil)) (dg_name (i := 3) sc_law.nd)
    (dss_one (ds_if (dt_not (dt_val (de_call F__law_right hr (da_cons (dv 2) da_nil))))
    (dss_one (ds_ret de_bl))
    dss_nil))))))
    (dss_one (ds_ret de_bl))), ?_⟩)
  rintro ds M Q ⟨ns, rfl, hl, hQ⟩
  (try simp only [dLcM, w_isiM, rReverseD, dMinDef, rInDic, rNotInDic, dIRL, dCallC, dCallG, dConsL, dLam, atDs, dCallV, dgU, dSortI, dIItems, dDicM, dDc, dLenSet, itemsD, w_lrg, w_index, w_sortQ, dCut, dDGet, dDGet1, dDGet2, dDPut, dPairs, w_disp, w_newDF, w_newDT, dec_self, List.map_cons, List.map_nil, eqD_bl, eqD_int, eqD_str, eqD_tup, eqD_lst, eqDs_nil, eqDs_nc, eqDs_cn, eqDs_cons, reduceIte, Bool.false_eq_true, Bool.not_true, Bool.not_false, decide_true, decide_false, dVar, atD, setD, startD, dC, dOp, dAnd, dOr, dNot, dIf, dUn, dNil, dCons, dTup, dLst, rInD, rNotInD, dNoPart, dPart, dRev, dFld, DL.fieldsOf, dCB, dNext, dSeq, dBreak, dCont, dDrop, dRet, dRetN, dIfS, dNever, dgN, dgNil, dgCons, dgSub, dAsg, dPar, dPar3, putD, dSetF, dMt, rAppendD, rPopD, rExtendD, lsT, lsR, lsF, itemsR, dFrz, dCall, dCallK, dMeth, dMake, dFor, dIL, dIT, dIR1, dIR2, dIE, dIZ, wipeD, dYes, dLc, dDic0, updM_same, cxOf, asBl_bl, asInt_int, asTup_tup, isN, w_test, w_chain, w_andV, w_orV, w_notV, w_neg, w_sub, w_div, w_mod, w_pow, w_shl, w_shr, w_and, w_or, w_xor, w_lt, w_le, w_gt, w_ge, w_add, w_addS, w_addT, w_addL, w_addF, w_addR, w_mul, w_mulL, w_eq, w_ne, w_isN, w_isB, w_isntN, w_isntB, w_ix, w_isi, w_abs, w_max2, w_min2, w_max1L, w_min1L, w_sum, w_all, w_any, w_len, w_int, w_intB, w_divmod, w_sorted, w_list, w_bits, w_sl, w_slL, w_slF, w_slR, w_slT, w_newF, w_newT, w_eqL, w_eqT, w_eqR, w_neL, w_neT, w_neR, w_dgT, w_derL, w_derT, w_derB, w_derI, w_derN, w_derS, w_eqSS, w_eqBB, w_neSS, w_neBB, w_eqBI, w_eqIN, w_neIN, w_eqNI, w_neNI, w_eqNN, w_neNN, w_NN, w_NI, w_IN])
  refine ⟨ns, 0, rfl, hl, fun c0 => ?_⟩
  obtain ⟨ms, he, hm⟩ := cutD_ints (ns := ns) (some (1 : Int)) (some (4 : Int))
  refine ⟨lit_len (n := 1) (by decide), _, rfl, ?_⟩
  rw [he]
  refine ⟨_, _, rfl, rfl, lit_len (by rw [List.length_map]; show 1 + ms.length ≤ 1000; omega), _, rfl, ?_⟩
  refine loop_by (fun l ρ _ => (∀ d ∈ l, ∃ n, d = .int n) ∧ ∃ x1 x2 x3 : Option Dat, ρ = [some (.frl (ns.map Dat.int)), x1, x2, x3]) ?_ ?_ _ _ _ ⟨cell_ints, none, none, none, rfl⟩
  · rintro ρ M2 ⟨_, x1, x2, x3, rfl⟩
    (try simp only [dLcM, w_isiM, rReverseD, dMinDef, rInDic, rNotInDic, dIRL, dCallC, dCallG, dConsL, dLam, atDs, dCallV, dgU, dSortI, dIItems, dDicM, dDc, dLenSet, itemsD, w_lrg, w_index, w_sortQ, dCut, dDGet, dDGet1, dDGet2, dDPut, dPairs, w_disp, w_newDF, w_newDT, dec_self, List.map_cons, List.map_nil, eqD_bl, eqD_int, eqD_str, eqD_tup, eqD_lst, eqDs_nil, eqDs_nc, eqDs_cn, eqDs_cons, reduceIte, Bool.false_eq_true, Bool.not_true, Bool.not_false, decide_true, decide_false, dVar, atD, setD, startD, dC, dOp, dAnd, dOr, dNot, dIf, dUn, dNil, dCons, dTup, dLst, rInD, rNotInD, dNoPart, dPart, dRev, dFld, DL.fieldsOf, dCB, dNext, dSeq, dBreak, dCont, dDrop, dRet, dRetN, dIfS, dNever, dgN, dgNil, dgCons, dgSub, dAsg, dPar, dPar3, putD, dSetF, dMt, rAppendD, rPopD, rExtendD, lsT, lsR, lsF, itemsR, dFrz, dCall, dCallK, dMeth, dMake, dFor, dIL, dIT, dIR1, dIR2, dIE, dIZ, wipeD, dYes, dLc, dDic0, updM_same, cxOf, asBl_bl, asInt_int, asTup_tup, isN, w_test, w_chain, w_andV, w_orV, w_notV, w_neg, w_sub, w_div, w_mod, w_pow, w_shl, w_shr, w_and, w_or, w_xor, w_lt, w_le, w_gt, w_ge, w_add, w_addS, w_addT, w_addL, w_addF, w_addR, w_mul, w_mulL, w_eq, w_ne, w_isN, w_isB, w_isntN, w_isntB, w_ix, w_isi, w_abs, w_max2, w_min2, w_max1L, w_min1L, w_sum, w_all, w_any, w_len, w_int, w_intB, w_divmod, w_sorted, w_list, w_bits, w_sl, w_slL, w_slF, w_slR, w_slT, w_newF, w_newT, w_eqL, w_eqT, w_eqR, w_neL, w_neT, w_neR, w_dgT, w_derL, w_derT, w_derB, w_derI, w_derN, w_derS, w_eqSS, w_eqBB, w_neSS, w_neBB, w_eqBI, w_eqIN, w_neIN, w_eqNI, w_neNI, w_eqNN, w_neNN, w_NN, w_NI, w_IN])
    exact endD_of (hQ _)
  · rintro d r ρ M2 k ⟨hd, x1, x2, x3, rfl⟩ hk
    obtain ⟨c, rfl⟩ := hd d (by simp)
    replace hk : ∀ (x1 x2 x3 : Option Dat) M, k [some (.frl (ns.map Dat.int)), x1, x2, x3] M := fun x1 x2 x3 M => hk _ _ ⟨fun d h => hd d (by simp [h]), x1, x2, x3, rfl⟩
    (try simp only [dLcM, w_isiM, rReverseD, dMinDef, rInDic, rNotInDic, dIRL, dCallC, dCallG, dConsL, dLam, atDs, dCallV, dgU, dSortI, dIItems, dDicM, dDc, dLenSet, itemsD, w_lrg, w_index, w_sortQ, dCut, dDGet, dDGet1, dDGet2, dDPut, dPairs, w_disp, w_newDF, w_newDT, dec_self, List.map_cons, List.map_nil, eqD_bl, eqD_int, eqD_str, eqD_tup, eqD_lst, eqDs_nil, eqDs_nc, eqDs_cn, eqDs_cons, reduceIte, Bool.false_eq_true, Bool.not_true, Bool.not_false, decide_true, decide_false, dVar, atD, setD, startD, dC, dOp, dAnd, dOr, dNot, dIf, dUn, dNil, dCons, dTup, dLst, rInD, rNotInD, dNoPart, dPart, dRev, dFld, DL.fieldsOf, dCB, dNext, dSeq, dBreak, dCont, dDrop, dRet, dRetN, dIfS, dNever, dgN, dgNil, dgCons, dgSub, dAsg, dPar, dPar3, putD, dSetF, dMt, rAppendD, rPopD, rExtendD, lsT, lsR, lsF, itemsR, dFrz, dCall, dCallK, dMeth, dMake, dFor, dIL, dIT, dIR1, dIR2, dIE, dIZ, wipeD, dYes, dLc, dDic0, updM_same, cxOf, asBl_bl, asInt_int, asTup_tup, isN, w_test, w_chain, w_andV, w_orV, w_notV, w_neg, w_sub, w_div, w_mod, w_pow, w_shl, w_shr, w_and, w_or, w_xor, w_lt, w_le, w_gt, w_ge, w_add, w_addS, w_addT, w_addL, w_addF, w_addR, w_mul, w_mulL, w_eq, w_ne, w_isN, w_isB, w_isntN, w_isntB, w_ix, w_isi, w_abs, w_max2, w_min2, w_max1L, w_min1L, w_sum, w_all, w_any, w_len, w_int, w_intB, w_divmod, w_sorted, w_list, w_bits, w_sl, w_slL, w_slF, w_slR, w_slT, w_newF, w_newT, w_eqL, w_eqT, w_eqR, w_neL, w_neT, w_neR, w_dgT, w_derL, w_derT, w_derB, w_derI, w_derN, w_derS, w_eqSS, w_eqBB, w_neSS, w_neBB, w_eqBI, w_eqIN, w_neIN, w_eqNI, w_neNI, w_eqNN, w_neNN, w_NN, w_NI, w_IN])
    refine ⟨c, rfl, fun a sx sy sz ha hok => ?_⟩
    have hs : Src (updM M2 a (srcD sx sy sz)) a := ⟨_, _, _, updM_same, hok⟩
    generalize updM M2 a (srcD sx sy sz) = M3 at hs
    refine ⟨by decide, by decide, ?_⟩
    refine loop_n (fun _ ρ M4 => Src M4 a ∧ ∃ x3 : Option Dat, ρ = [some (.frl (ns.map Dat.int)), some (.int c), some (.ref a), x3]) ⟨hs, _, rfl⟩ ?_ ?_
    · rintro ρ M4 ⟨_, x3, rfl⟩
      exact hk _ _ _ _
    · rintro i ρ M4 k2 _ ⟨hs, x3, rfl⟩ hk2
      (try simp only [dLcM, w_isiM, rReverseD, dMinDef, rInDic, rNotInDic, dIRL, dCallC, dCallG, dConsL, dLam, atDs, dCallV, dgU, dSortI, dIItems, dDicM, dDc, dLenSet, itemsD, w_lrg, w_index, w_sortQ, dCut, dDGet, dDGet1, dDGet2, dDPut, dPairs, w_disp, w_newDF, w_newDT, dec_self, List.map_cons, List.map_nil, eqD_bl, eqD_int, eqD_str, eqD_tup, eqD_lst, eqDs_nil, eqDs_nc, eqDs_cn, eqDs_cons, reduceIte, Bool.false_eq_true, Bool.not_true, Bool.not_false, decide_true, decide_false, dVar, atD, setD, startD, dC, dOp, dAnd, dOr, dNot, dIf, dUn, dNil, dCons, dTup, dLst, rInD, rNotInD, dNoPart, dPart, dRev, dFld, DL.fieldsOf, dCB, dNext, dSeq, dBreak, dCont, dDrop, dRet, dRetN, dIfS, dNever, dgN, dgNil, dgCons, dgSub, dAsg, dPar, dPar3, putD, dSetF, dMt, rAppendD, rPopD, rExtendD, lsT, lsR, lsF, itemsR, dFrz, dCall, dCallK, dMeth, dMake, dFor, dIL, dIT, dIR1, dIR2, dIE, dIZ, wipeD, dYes, dLc, dDic0, updM_same, cxOf, asBl_bl, asInt_int, asTup_tup, isN, w_test, w_chain, w_andV, w_orV, w_notV, w_neg, w_sub, w_div, w_mod, w_pow, w_shl, w_shr, w_and, w_or, w_xor, w_lt, w_le, w_gt, w_ge, w_add, w_addS, w_addT, w_addL, w_addF, w_addR, w_mul, w_mulL, w_eq, w_ne, w_isN, w_isB, w_isntN, w_isntB, w_ix, w_isi, w_abs, w_max2, w_min2, w_max1L, w_min1L, w_sum, w_all, w_any, w_len, w_int, w_intB, w_divmod, w_sorted, w_list, w_bits, w_sl, w_slL, w_slF, w_slR, w_slT, w_newF, w_newT, w_eqL, w_eqT, w_eqR, w_neL, w_neT, w_neR, w_dgT, w_derL, w_derT, w_derB, w_derI, w_derN, w_derS, w_eqSS, w_eqBB, w_neSS, w_neBB, w_eqBI, w_eqIN, w_neIN, w_eqNI, w_neNI, w_eqNN, w_neNN, w_NN, w_NI, w_IN])
      refine ⟨a, rfl, hs, fun M5 hs5 => ?_⟩
      exact hk2 _ _ ⟨hs5.src, _, rfl⟩
end
theorem all_mk {l : PySem.W.OpenLaw} {w : World} {K : PySem.W.Frag} {h : Heap} {mg : Str → Option Value} {fa f0 f1 f2 f3 f4 f5 f6 f7 f8 f9 f10 f11 f12 f13 f14 f15 f16 f17 f18 f19 f20 f21 f22 f23 f24 f25 f26 f27 f28 f29 f30 f31 f32 f33 f34 f35 f36 f37 f38 f39 f40 f41 f42 C_Kind : Addr} (X : K.In h) (G : h.Ns mainGlobals mg) (hfa : mg "law" = some (.ref fa))
    {od0 an0 od1 an1 od2 an2 od3 an3 od4 an4 od5 an5 od6 an6 od7 an7 od8 an8 od9 an9 od10 an10 od11 an11 od12 an12 od13 an13 od14 an14 od15 an15 od16 an16 od17 an17 od18 an18 od19 an19 od20 an20 od21 an21 od22 an22 od23 an23 od24 an24 od25 an25 od26 an26 od27 an27 od28 an28 od29 an29 od30 an30 od31 an31 od32 an32 od33 an33 od34 an34 od35 an35 od36 an36 od37 an37 od38 an38 od39 an39 od40 an40 od41 an41 od42 an42 : Option Addr} {sl0 sl1 sl2 sl3 sl4 sl5 sl6 sl7 sl8 sl9 sl10 sl11 sl12 sl13 sl14 sl15 sl16 sl17 sl18 sl19 sl20 sl21 sl22 sl23 sl24 sl25 sl26 sl27 sl28 sl29 sl30 sl31 sl32 sl33 sl34 sl35 sl36 sl37 sl38 sl39 sl40 sl41 sl42 : Array (Option Value)} {oc0 kV0 dc0 pm0 ct0 cd0 oc1 kV1 dc1 pm1 ct1 cd1 oc2 kV2 dc2 pm2 ct2 cd2 oc3 kV3 dc3 pm3 ct3 cd3 oc4 kV4 dc4 pm4 ct4 cd4 oc5 kV5 dc5 pm5 ct5 cd5 oc6 kV6 dc6 pm6 ct6 cd6 oc7 kV7 dc7 pm7 ct7 cd7 oc8 kV8 dc8 pm8 ct8 cd8 oc9 kV9 dc9 pm9 ct9 cd9 oc10 kV10 dc10 pm10 ct10 cd10 oc11 kV11 dc11 pm11 ct11 cd11 oc12 kV12 dc12 pm12 ct12 cd12 oc13 kV13 dc13 pm13 ct13 cd13 oc14 kV14 dc14 pm14 ct14 cd14 oc15 kV15 dc15 pm15 ct15 cd15 oc16 kV16 dc16 pm16 ct16 cd16 oc17 kV17 dc17 pm17 ct17 cd17 oc18 kV18 dc18 pm18 ct18 cd18 oc19 kV19 dc19 pm19 ct19 cd19 oc20 kV20 dc20 pm20 ct20 cd20 oc21 kV21 dc21 pm21 ct21 cd21 oc22 kV22 dc22 pm22 ct22 cd22 oc23 kV23 dc23 pm23 ct23 cd23 oc24 kV24 dc24 pm24 ct24 cd24 oc25 kV25 dc25 pm25 ct25 cd25 oc26 kV26 dc26 pm26 ct26 cd26 oc27 kV27 dc27 pm27 ct27 cd27 oc28 kV28 dc28 pm28 ct28 cd28 oc29 kV29 dc29 pm29 ct29 cd29 oc30 kV30 dc30 pm30 ct30 cd30 oc31 kV31 dc31 pm31 ct31 cd31 oc32 kV32 dc32 pm32 ct32 cd32 oc33 kV33 dc33 pm33 ct33 cd33 oc34 kV34 dc34 pm34 ct34 cd34 oc35 kV35 dc35 pm35 ct35 cd35 oc36 kV36 dc36 pm36 ct36 cd36 oc37 kV37 dc37 pm37 ct37 cd37 oc38 kV38 dc38 pm38 ct38 cd38 oc39 kV39 dc39 pm39 ct39 cd39 oc40 kV40 dc40 pm40 ct40 cd40 oc41 kV41 dc41 pm41 ct41 cd41 oc42 kV42 dc42 pm42 ct42 cd42 : Value} {t_MOST_BITS t_MOST_VALUES : Tok}
    (m_Kind : PySem.W.nsIn K mainGlobals "Kind" = some (some (.ref C_Kind)))
    (a0 : PySem.W.nsIn K mainGlobals "is_integer" = some (some (.ref f0)))
    (l0 : K.lookup f0 = some ⟨oc0, od0, .func (PySem.W.fnOf "is_integer" "is_integer" (defArgs s_is_integer) (defBody s_is_integer) (defScope s_is_integer) .none kV0 dc0 pm0 an0 cd0 ct0), sl0⟩)
    (c0 : PySem.W.codeIn K cd0 "is_integer" = true)
    (k0 : PySem.W.keepIn K (.ref f0) = true)
    (a1 : PySem.W.nsIn K mainGlobals "is_between" = some (some (.ref f1)))
    (l1 : K.lookup f1 = some ⟨oc1, od1, .func (PySem.W.fnOf "is_between" "is_between" (defArgs s_is_between) (defBody s_is_between) (defScope s_is_between) .none kV1 dc1 pm1 an1 cd1 ct1), sl1⟩)
    (c1 : PySem.W.codeIn K cd1 "is_between" = true)
    (k1 : PySem.W.keepIn K (.ref f1) = true)
    (a2 : PySem.W.nsIn K mainGlobals "check_between" = some (some (.ref f2)))
    (l2 : K.lookup f2 = some ⟨oc2, od2, .func (PySem.W.fnOf "check_between" "check_between" (defArgs s_check_between) (defBody s_check_between) (defScope s_check_between) .none kV2 dc2 pm2 an2 cd2 ct2), sl2⟩)
    (c2 : PySem.W.codeIn K cd2 "check_between" = true)
    (k2 : PySem.W.keepIn K (.ref f2) = true)
    (a3 : PySem.W.nsIn K mainGlobals "check_kind" = some (some (.ref f3)))
    (l3 : K.lookup f3 = some ⟨oc3, od3, .func (PySem.W.fnOf "check_kind" "check_kind" (defArgs s_check_kind) (defBody s_check_kind) (defScope s_check_kind) .none kV3 dc3 pm3 an3 cd3 ct3), sl3⟩)
    (c3 : PySem.W.codeIn K cd3 "check_kind" = true)
    (k3 : PySem.W.keepIn K (.ref f3) = true)
    (a4 : PySem.W.nsIn K mainGlobals "size_of" = some (some (.ref f4)))
    (l4 : K.lookup f4 = some ⟨oc4, od4, .func (PySem.W.fnOf "size_of" "size_of" (defArgs s_size_of) (defBody s_size_of) (defScope s_size_of) .none kV4 dc4 pm4 an4 cd4 ct4), sl4⟩)
    (c4 : PySem.W.codeIn K cd4 "size_of" = true)
    (k4 : PySem.W.keepIn K (.ref f4) = true)
    (a5 : PySem.W.nsIn K mainGlobals "low_of" = some (some (.ref f5)))
    (l5 : K.lookup f5 = some ⟨oc5, od5, .func (PySem.W.fnOf "low_of" "low_of" (defArgs s_low_of) (defBody s_low_of) (defScope s_low_of) .none kV5 dc5 pm5 an5 cd5 ct5), sl5⟩)
    (c5 : PySem.W.codeIn K cd5 "low_of" = true)
    (k5 : PySem.W.keepIn K (.ref f5) = true)
    (a6 : PySem.W.nsIn K mainGlobals "placed" = some (some (.ref f6)))
    (l6 : K.lookup f6 = some ⟨oc6, od6, .func (PySem.W.fnOf "placed" "placed" (defArgs s_placed) (defBody s_placed) (defScope s_placed) .none kV6 dc6 pm6 an6 cd6 ct6), sl6⟩)
    (c6 : PySem.W.codeIn K cd6 "placed" = true)
    (k6 : PySem.W.keepIn K (.ref f6) = true)
    (a7 : PySem.W.nsIn K mainGlobals "check_value" = some (some (.ref f7)))
    (l7 : K.lookup f7 = some ⟨oc7, od7, .func (PySem.W.fnOf "check_value" "check_value" (defArgs s_check_value) (defBody s_check_value) (defScope s_check_value) .none kV7 dc7 pm7 an7 cd7 ct7), sl7⟩)
    (c7 : PySem.W.codeIn K cd7 "check_value" = true)
    (k7 : PySem.W.keepIn K (.ref f7) = true)
    (a8 : PySem.W.nsIn K mainGlobals "is_value" = some (some (.ref f8)))
    (l8 : K.lookup f8 = some ⟨oc8, od8, .func (PySem.W.fnOf "is_value" "is_value" (defArgs s_is_value) (defBody s_is_value) (defScope s_is_value) .none kV8 dc8 pm8 an8 cd8 ct8), sl8⟩)
    (c8 : PySem.W.codeIn K cd8 "is_value" = true)
    (k8 : PySem.W.keepIn K (.ref f8) = true)
    (a9 : PySem.W.nsIn K mainGlobals "inverse_of" = some (some (.ref f9)))
    (l9 : K.lookup f9 = some ⟨oc9, od9, .func (PySem.W.fnOf "inverse_of" "inverse_of" (defArgs s_inverse_of) (defBody s_inverse_of) (defScope s_inverse_of) .none kV9 dc9 pm9 an9 cd9 ct9), sl9⟩)
    (c9 : PySem.W.codeIn K cd9 "inverse_of" = true)
    (k9 : PySem.W.keepIn K (.ref f9) = true)
    (a10 : PySem.W.nsIn K mainGlobals "twos_in" = some (some (.ref f10)))
    (l10 : K.lookup f10 = some ⟨oc10, od10, .func (PySem.W.fnOf "twos_in" "twos_in" (defArgs s_twos_in) (defBody s_twos_in) (defScope s_twos_in) .none kV10 dc10 pm10 an10 cd10 ct10), sl10⟩)
    (c10 : PySem.W.codeIn K cd10 "twos_in" = true)
    (k10 : PySem.W.keepIn K (.ref f10) = true)
    (a11 : PySem.W.nsIn K mainGlobals "check_generator" = some (some (.ref f11)))
    (l11 : K.lookup f11 = some ⟨oc11, od11, .func (PySem.W.fnOf "check_generator" "check_generator" (defArgs s_check_generator) (defBody s_check_generator) (defScope s_check_generator) .none kV11 dc11 pm11 an11 cd11 ct11), sl11⟩)
    (c11 : PySem.W.codeIn K cd11 "check_generator" = true)
    (k11 : PySem.W.keepIn K (.ref f11) = true)
    (a12 : PySem.W.nsIn K mainGlobals "line_of" = some (some (.ref f12)))
    (l12 : K.lookup f12 = some ⟨oc12, od12, .func (PySem.W.fnOf "line_of" "line_of" (defArgs s_line_of) (defBody s_line_of) (defScope s_line_of) .none kV12 dc12 pm12 an12 cd12 ct12), sl12⟩)
    (c12 : PySem.W.codeIn K cd12 "line_of" = true)
    (k12 : PySem.W.keepIn K (.ref f12) = true)
    (a13 : PySem.W.nsIn K mainGlobals "value_behind" = some (some (.ref f13)))
    (l13 : K.lookup f13 = some ⟨oc13, od13, .func (PySem.W.fnOf "value_behind" "value_behind" (defArgs s_value_behind) (defBody s_value_behind) (defScope s_value_behind) .none kV13 dc13 pm13 an13 cd13 ct13), sl13⟩)
    (c13 : PySem.W.codeIn K cd13 "value_behind" = true)
    (k13 : PySem.W.keepIn K (.ref f13) = true)
    (a14 : PySem.W.nsIn K mainGlobals "back_of" = some (some (.ref f14)))
    (l14 : K.lookup f14 = some ⟨oc14, od14, .func (PySem.W.fnOf "back_of" "back_of" (defArgs s_back_of) (defBody s_back_of) (defScope s_back_of) .none kV14 dc14 pm14 an14 cd14 ct14), sl14⟩)
    (c14 : PySem.W.codeIn K cd14 "back_of" = true)
    (k14 : PySem.W.keepIn K (.ref f14) = true)
    (a15 : PySem.W.nsIn K mainGlobals "stepped" = some (some (.ref f15)))
    (l15 : K.lookup f15 = some ⟨oc15, od15, .func (PySem.W.fnOf "stepped" "stepped" (defArgs s_stepped) (defBody s_stepped) (defScope s_stepped) .none kV15 dc15 pm15 an15 cd15 ct15), sl15⟩)
    (c15 : PySem.W.codeIn K cd15 "stepped" = true)
    (k15 : PySem.W.keepIn K (.ref f15) = true)
    (a16 : PySem.W.nsIn K mainGlobals "move_of" = some (some (.ref f16)))
    (l16 : K.lookup f16 = some ⟨oc16, od16, .func (PySem.W.fnOf "move_of" "move_of" (defArgs s_move_of) (defBody s_move_of) (defScope s_move_of) .none kV16 dc16 pm16 an16 cd16 ct16), sl16⟩)
    (c16 : PySem.W.codeIn K cd16 "move_of" = true)
    (k16 : PySem.W.keepIn K (.ref f16) = true)
    (a17 : PySem.W.nsIn K mainGlobals "length_of" = some (some (.ref f17)))
    (l17 : K.lookup f17 = some ⟨oc17, od17, .func (PySem.W.fnOf "length_of" "length_of" (defArgs s_length_of) (defBody s_length_of) (defScope s_length_of) .none kV17 dc17 pm17 an17 cd17 ct17), sl17⟩)
    (c17 : PySem.W.codeIn K cd17 "length_of" = true)
    (k17 : PySem.W.keepIn K (.ref f17) = true)
    (a18 : PySem.W.nsIn K mainGlobals "still_value" = some (some (.ref f18)))
    (l18 : K.lookup f18 = some ⟨oc18, od18, .func (PySem.W.fnOf "still_value" "still_value" (defArgs s_still_value) (defBody s_still_value) (defScope s_still_value) .none kV18 dc18 pm18 an18 cd18 ct18), sl18⟩)
    (c18 : PySem.W.codeIn K cd18 "still_value" = true)
    (k18 : PySem.W.keepIn K (.ref f18) = true)
    (a19 : PySem.W.nsIn K mainGlobals "lead_of" = some (some (.ref f19)))
    (l19 : K.lookup f19 = some ⟨oc19, od19, .func (PySem.W.fnOf "lead_of" "lead_of" (defArgs s_lead_of) (defBody s_lead_of) (defScope s_lead_of) .none kV19 dc19 pm19 an19 cd19 ct19), sl19⟩)
    (c19 : PySem.W.codeIn K cd19 "lead_of" = true)
    (k19 : PySem.W.keepIn K (.ref f19) = true)
    (a20 : PySem.W.nsIn K mainGlobals "sum_of_powers" = some (some (.ref f20)))
    (l20 : K.lookup f20 = some ⟨oc20, od20, .func (PySem.W.fnOf "sum_of_powers" "sum_of_powers" (defArgs s_sum_of_powers) (defBody s_sum_of_powers) (defScope s_sum_of_powers) .none kV20 dc20 pm20 an20 cd20 ct20), sl20⟩)
    (c20 : PySem.W.codeIn K cd20 "sum_of_powers" = true)
    (k20 : PySem.W.keepIn K (.ref f20) = true)
    (a21 : PySem.W.nsIn K mainGlobals "least_even_course" = some (some (.ref f21)))
    (l21 : K.lookup f21 = some ⟨oc21, od21, .func (PySem.W.fnOf "least_even_course" "least_even_course" (defArgs s_least_even_course) (defBody s_least_even_course) (defScope s_least_even_course) .none kV21 dc21 pm21 an21 cd21 ct21), sl21⟩)
    (c21 : PySem.W.codeIn K cd21 "least_even_course" = true)
    (k21 : PySem.W.keepIn K (.ref f21) = true)
    (a22 : PySem.W.nsIn K mainGlobals "odd_course" = some (some (.ref f22)))
    (l22 : K.lookup f22 = some ⟨oc22, od22, .func (PySem.W.fnOf "odd_course" "odd_course" (defArgs s_odd_course) (defBody s_odd_course) (defScope s_odd_course) .none kV22 dc22 pm22 an22 cd22 ct22), sl22⟩)
    (c22 : PySem.W.codeIn K cd22 "odd_course" = true)
    (k22 : PySem.W.keepIn K (.ref f22) = true)
    (a23 : PySem.W.nsIn K mainGlobals "short_course" = some (some (.ref f23)))
    (l23 : K.lookup f23 = some ⟨oc23, od23, .func (PySem.W.fnOf "short_course" "short_course" (defArgs s_short_course) (defBody s_short_course) (defScope s_short_course) .none kV23 dc23 pm23 an23 cd23 ct23), sl23⟩)
    (c23 : PySem.W.codeIn K cd23 "short_course" = true)
    (k23 : PySem.W.keepIn K (.ref f23) = true)
    (a24 : PySem.W.nsIn K mainGlobals "course" = some (some (.ref f24)))
    (l24 : K.lookup f24 = some ⟨oc24, od24, .func (PySem.W.fnOf "course" "course" (defArgs s_course) (defBody s_course) (defScope s_course) .none kV24 dc24 pm24 an24 cd24 ct24), sl24⟩)
    (c24 : PySem.W.codeIn K cd24 "course" = true)
    (k24 : PySem.W.keepIn K (.ref f24) = true)
    (a25 : PySem.W.nsIn K mainGlobals "check_course" = some (some (.ref f25)))
    (l25 : K.lookup f25 = some ⟨oc25, od25, .func (PySem.W.fnOf "check_course" "check_course" (defArgs s_check_course) (defBody s_check_course) (defScope s_check_course) .none kV25 dc25 pm25 an25 cd25 ct25), sl25⟩)
    (c25 : PySem.W.codeIn K cd25 "check_course" = true)
    (k25 : PySem.W.keepIn K (.ref f25) = true)
    (a26 : PySem.W.nsIn K mainGlobals "all_steps" = some (some (.ref f26)))
    (l26 : K.lookup f26 = some ⟨oc26, od26, .func (PySem.W.fnOf "all_steps" "all_steps" (defArgs s_all_steps) (defBody s_all_steps) (defScope s_all_steps) .none kV26 dc26 pm26 an26 cd26 ct26), sl26⟩)
    (c26 : PySem.W.codeIn K cd26 "all_steps" = true)
    (k26 : PySem.W.keepIn K (.ref f26) = true)
    (a27 : PySem.W.nsIn K mainGlobals "steps_between" = some (some (.ref f27)))
    (l27 : K.lookup f27 = some ⟨oc27, od27, .func (PySem.W.fnOf "steps_between" "steps_between" (defArgs s_steps_between) (defBody s_steps_between) (defScope s_steps_between) .none kV27 dc27 pm27 an27 cd27 ct27), sl27⟩)
    (c27 : PySem.W.codeIn K cd27 "steps_between" = true)
    (k27 : PySem.W.keepIn K (.ref f27) = true)
    (a28 : PySem.W.nsIn K mainGlobals "first_met" = some (some (.ref f28)))
    (l28 : K.lookup f28 = some ⟨oc28, od28, .func (PySem.W.fnOf "first_met" "first_met" (defArgs s_first_met) (defBody s_first_met) (defScope s_first_met) .none kV28 dc28 pm28 an28 cd28 ct28), sl28⟩)
    (c28 : PySem.W.codeIn K cd28 "first_met" = true)
    (k28 : PySem.W.keepIn K (.ref f28) = true)
    (a29 : PySem.W.nsIn K mainGlobals "_law_source_of" = some (some (.ref f29)))
    (l29 : K.lookup f29 = some ⟨oc29, od29, .func (PySem.W.fnOf "_law_source_of" "_law_source_of" (defArgs s__law_source_of) (defBody s__law_source_of) (defScope s__law_source_of) .none kV29 dc29 pm29 an29 cd29 ct29), sl29⟩)
    (c29 : PySem.W.codeIn K cd29 "_law_source_of" = true)
    (k29 : PySem.W.keepIn K (.ref f29) = true)
    (a30 : PySem.W.nsIn K mainGlobals "_law_next" = some (some (.ref f30)))
    (l30 : K.lookup f30 = some ⟨oc30, od30, .func (PySem.W.fnOf "_law_next" "_law_next" (defArgs s__law_next) (defBody s__law_next) (defScope s__law_next) .none kV30 dc30 pm30 an30 cd30 ct30), sl30⟩)
    (c30 : PySem.W.codeIn K cd30 "_law_next" = true)
    (k30 : PySem.W.keepIn K (.ref f30) = true)
    (a31 : PySem.W.nsIn K mainGlobals "_law_one" = some (some (.ref f31)))
    (l31 : K.lookup f31 = some ⟨oc31, od31, .func (PySem.W.fnOf "_law_one" "_law_one" (defArgs s__law_one) (defBody s__law_one) (defScope s__law_one) .none kV31 dc31 pm31 an31 cd31 ct31), sl31⟩)
    (c31 : PySem.W.codeIn K cd31 "_law_one" = true)
    (k31 : PySem.W.keepIn K (.ref f31) = true)
    (a32 : PySem.W.nsIn K mainGlobals "_law_cell_at" = some (some (.ref f32)))
    (l32 : K.lookup f32 = some ⟨oc32, od32, .func (PySem.W.fnOf "_law_cell_at" "_law_cell_at" (defArgs s__law_cell_at) (defBody s__law_cell_at) (defScope s__law_cell_at) .none kV32 dc32 pm32 an32 cd32 ct32), sl32⟩)
    (c32 : PySem.W.codeIn K cd32 "_law_cell_at" = true)
    (k32 : PySem.W.keepIn K (.ref f32) = true)
    (a33 : PySem.W.nsIn K mainGlobals "_law_wide" = some (some (.ref f33)))
    (l33 : K.lookup f33 = some ⟨oc33, od33, .func (PySem.W.fnOf "_law_wide" "_law_wide" (defArgs s__law_wide) (defBody s__law_wide) (defScope s__law_wide) .none kV33 dc33 pm33 an33 cd33 ct33), sl33⟩)
    (c33 : PySem.W.codeIn K cd33 "_law_wide" = true)
    (k33 : PySem.W.keepIn K (.ref f33) = true)
    (a34 : PySem.W.nsIn K mainGlobals "_law_draw_kind" = some (some (.ref f34)))
    (l34 : K.lookup f34 = some ⟨oc34, od34, .func (PySem.W.fnOf "_law_draw_kind" "_law_draw_kind" (defArgs s__law_draw_kind) (defBody s__law_draw_kind) (defScope s__law_draw_kind) .none kV34 dc34 pm34 an34 cd34 ct34), sl34⟩)
    (c34 : PySem.W.codeIn K cd34 "_law_draw_kind" = true)
    (k34 : PySem.W.keepIn K (.ref f34) = true)
    (a35 : PySem.W.nsIn K mainGlobals "_law_value" = some (some (.ref f35)))
    (l35 : K.lookup f35 = some ⟨oc35, od35, .func (PySem.W.fnOf "_law_value" "_law_value" (defArgs s__law_value) (defBody s__law_value) (defScope s__law_value) .none kV35 dc35 pm35 an35 cd35 ct35), sl35⟩)
    (c35 : PySem.W.codeIn K cd35 "_law_value" = true)
    (k35 : PySem.W.keepIn K (.ref f35) = true)
    (a36 : PySem.W.nsIn K mainGlobals "_law_put" = some (some (.ref f36)))
    (l36 : K.lookup f36 = some ⟨oc36, od36, .func (PySem.W.fnOf "_law_put" "_law_put" (defArgs s__law_put) (defBody s__law_put) (defScope s__law_put) .none kV36 dc36 pm36 an36 cd36 ct36), sl36⟩)
    (c36 : PySem.W.codeIn K cd36 "_law_put" = true)
    (k36 : PySem.W.keepIn K (.ref f36) = true)
    (a37 : PySem.W.nsIn K mainGlobals "_law_draw_pair" = some (some (.ref f37)))
    (l37 : K.lookup f37 = some ⟨oc37, od37, .func (PySem.W.fnOf "_law_draw_pair" "_law_draw_pair" (defArgs s__law_draw_pair) (defBody s__law_draw_pair) (defScope s__law_draw_pair) .none kV37 dc37 pm37 an37 cd37 ct37), sl37⟩)
    (c37 : PySem.W.codeIn K cd37 "_law_draw_pair" = true)
    (k37 : PySem.W.keepIn K (.ref f37) = true)
    (a38 : PySem.W.nsIn K mainGlobals "_law_right" = some (some (.ref f38)))
    (l38 : K.lookup f38 = some ⟨oc38, od38, .func (PySem.W.fnOf "_law_right" "_law_right" (defArgs s__law_right) (defBody s__law_right) (defScope s__law_right) .none kV38 dc38 pm38 an38 cd38 ct38), sl38⟩)
    (c38 : PySem.W.codeIn K cd38 "_law_right" = true)
    (k38 : PySem.W.keepIn K (.ref f38) = true)
    (a39 : PySem.W.nsIn K mainGlobals "law" = some (some (.ref f39)))
    (l39 : K.lookup f39 = some ⟨oc39, od39, .func (PySem.W.fnOf "law" "law" (defArgs s_law) (defBody s_law) (defScope s_law) .none kV39 dc39 pm39 an39 cd39 ct39), sl39⟩)
    (c39 : PySem.W.codeIn K cd39 "law" = true)
    (k39 : PySem.W.keepIn K (.ref f39) = true)
    (a40 : PySem.W.findIn K (.ref C_Kind) "__init__" = some (some (.ref f40)))
    (i40 : PySem.W.isFn K (.ref f40) = true)
    (l40 : K.lookup f40 = some ⟨oc40, od40, .func (PySem.W.fnOf "__init__" "Kind.__init__" (defArgs s_Kind_init) (defBody s_Kind_init) (defScope s_Kind_init) .none kV40 dc40 pm40 an40 cd40 ct40), sl40⟩)
    (c40 : PySem.W.codeIn K cd40 "Kind.__init__" = true)
    (k40 : PySem.W.keepIn K (.ref f40) = true)
    (a41 : PySem.W.findIn K (.ref C_Kind) "__eq__" = some (some (.ref f41)))
    (i41 : PySem.W.isFn K (.ref f41) = true)
    (l41 : K.lookup f41 = some ⟨oc41, od41, .func (PySem.W.fnOf "__eq__" "Kind.__eq__" (defArgs s_Kind_eq) (defBody s_Kind_eq) (defScope s_Kind_eq) .none kV41 dc41 pm41 an41 cd41 ct41), sl41⟩)
    (c41 : PySem.W.codeIn K cd41 "Kind.__eq__" = true)
    (k41 : PySem.W.keepIn K (.ref f41) = true)
    (a42 : PySem.W.findIn K (.ref C_Kind) "parts" = some (some (.ref f42)))
    (i42 : PySem.W.isFn K (.ref f42) = true)
    (l42 : K.lookup f42 = some ⟨oc42, od42, .func (PySem.W.fnOf "parts" "Kind.parts" (defArgs s_Kind_parts) (defBody s_Kind_parts) (defScope s_Kind_parts) .none kV42 dc42 pm42 an42 cd42 ct42), sl42⟩)
    (c42 : PySem.W.codeIn K cd42 "Kind.parts" = true)
    (k42 : PySem.W.keepIn K (.ref f42) = true)
    (pg_Kind : PySem.W.plainGet K C_Kind Str.empty = true)
    (hd_Kind : PySem.W.hasDictIn K C_Kind = true)
    (po_Kind : PySem.W.plainOver K C_Kind = true)
    (sa_Kind : PySem.W.findIn K (.ref C_Kind) "__setattr__" = some (some (.builtin "object.__setattr__")))
    (mk_Kind : PySem.W.makesIn K C_Kind = true)
    (kc_Kind : PySem.W.keepIn K (.ref C_Kind) = true)
    (ha_Kind : PySem.W.findIn K (.ref C_Kind) "__class__" = some (some (.builtin "object.__class__")))
    (hm_Kind : PySem.W.mroIn K C_Kind (.type "object") = some true)
    (kn_Kind : PySem.W.kitOne K (.type "NoneType") (.ref C_Kind) = some false)
    (kt_Kind_int : PySem.W.kitOne K (.type "int") (.ref C_Kind) = some false)
    (ks_Kind_int : PySem.W.kitOne K (.ref C_Kind) (.type "int") = some false)
    (kt_Kind_bool : PySem.W.kitOne K (.type "bool") (.ref C_Kind) = some false)
    (ks_Kind_bool : PySem.W.kitOne K (.ref C_Kind) (.type "bool") = some false)
    (kt_Kind_str : PySem.W.kitOne K (.type "str") (.ref C_Kind) = some false)
    (ks_Kind_str : PySem.W.kitOne K (.ref C_Kind) (.type "str") = some false)
    (kt_Kind_tuple : PySem.W.kitOne K (.type "tuple") (.ref C_Kind) = some false)
    (ks_Kind_tuple : PySem.W.kitOne K (.ref C_Kind) (.type "tuple") = some false)
    (kt_Kind_list : PySem.W.kitOne K (.type "list") (.ref C_Kind) = some false)
    (ks_Kind_list : PySem.W.kitOne K (.ref C_Kind) (.type "list") = some false)
    (kt_Kind_dict : PySem.W.kitOne K (.type "dict") (.ref C_Kind) = some false)
    (ks_Kind_dict : PySem.W.kitOne K (.ref C_Kind) (.type "dict") = some false)
    (kk_Kind_Kind : PySem.W.kitOne K (.ref C_Kind) (.ref C_Kind) = some true)
    (nf_Kind_bits : PySem.W.findIn K (.ref C_Kind) "bits" = some none)
    (nf_Kind_is_signed : PySem.W.findIn K (.ref C_Kind) "is_signed" = some none)
    (hn : PySem.W.specialIn K (.builtin "object.__class__") "__get__" = some (some (.builtin "getset_descriptor.__get__")))
    (htk : PySem.W.takesIn K (.builtin "object.__class__") = some true)
    (b_all : PySem.W.nsIn K mainGlobals "all" = some none)
    (b_bool : PySem.W.nsIn K mainGlobals "bool" = some none)
    (b_enumerate : PySem.W.nsIn K mainGlobals "enumerate" = some none)
    (b_int : PySem.W.nsIn K mainGlobals "int" = some none)
    (b_isinstance : PySem.W.nsIn K mainGlobals "isinstance" = some none)
    (b_len : PySem.W.nsIn K mainGlobals "len" = some none)
    (b_list : PySem.W.nsIn K mainGlobals "list" = some none)
    (b_max : PySem.W.nsIn K mainGlobals "max" = some none)
    (b_min : PySem.W.nsIn K mainGlobals "min" = some none)
    (b_range : PySem.W.nsIn K mainGlobals "range" = some none)
    (b_sorted : PySem.W.nsIn K mainGlobals "sorted" = some none)
    (b_tuple : PySem.W.nsIn K mainGlobals "tuple" = some none)
    (g_MOST_BITS : PySem.W.nsIn K mainGlobals "MOST_BITS" = some (some (.int 128 t_MOST_BITS)))
    (g_MOST_VALUES : PySem.W.nsIn K mainGlobals "MOST_VALUES" = some (some (.int 20 t_MOST_VALUES)))
    : ∃ fd : FuncData, (∀ (s : Shared) (v : Value), BindsTo s fd ⟨[v], []⟩ [("_law_script", v)]) ∧ ∀ base : Heap, K.In base → base.Ns mainGlobals mg → FnOk l.prog w K mg base CX0 10 fa fd ["_law_script"] (toSp K (spLaw)) := by
  have e := hfa.symm.trans (PySem.W.mg_of X G a39)
  cases e
  have F0 := fun_mk (st := s_is_integer) l0 c0 k0
  have b0 := F0.binds (ps := ["value"]) fun _ _ _ _ _ _ us hl => match us, hl with | [_], _ => rfl
  have F1 := fun_mk (st := s_is_between) l1 c1 k1
  have b1 := F1.binds (ps := ["value", "low", "high"]) fun _ _ _ _ _ _ us hl => match us, hl with | [_, _, _], _ => rfl
  have F2 := fun_mk (st := s_check_between) l2 c2 k2
  have b2 := F2.binds (ps := ["argument", "value", "low", "high"]) fun _ _ _ _ _ _ us hl => match us, hl with | [_, _, _, _], _ => rfl
  have F3 := fun_mk (st := s_check_kind) l3 c3 k3
  have b3 := F3.binds (ps := ["value"]) fun _ _ _ _ _ _ us hl => match us, hl with | [_], _ => rfl
  have F4 := fun_mk (st := s_size_of) l4 c4 k4
  have b4 := F4.binds (ps := ["kind"]) fun _ _ _ _ _ _ us hl => match us, hl with | [_], _ => rfl
  have F5 := fun_mk (st := s_low_of) l5 c5 k5
  have b5 := F5.binds (ps := ["kind"]) fun _ _ _ _ _ _ us hl => match us, hl with | [_], _ => rfl
  have F6 := fun_mk (st := s_placed) l6 c6 k6
  have b6 := F6.binds (ps := ["kind", "n"]) fun _ _ _ _ _ _ us hl => match us, hl with | [_, _], _ => rfl
  have F7 := fun_mk (st := s_check_value) l7 c7 k7
  have b7 := F7.binds (ps := ["kind", "argument", "value"]) fun _ _ _ _ _ _ us hl => match us, hl with | [_, _, _], _ => rfl
  have F8 := fun_mk (st := s_is_value) l8 c8 k8
  have b8 := F8.binds (ps := ["kind", "x"]) fun _ _ _ _ _ _ us hl => match us, hl with | [_, _], _ => rfl
  have F9 := fun_mk (st := s_inverse_of) l9 c9 k9
  have b9 := F9.binds (ps := ["n", "bits"]) fun _ _ _ _ _ _ us hl => match us, hl with | [_, _], _ => rfl
  have F10 := fun_mk (st := s_twos_in) l10 c10 k10
  have b10 := F10.binds (ps := ["n", "most"]) fun _ _ _ _ _ _ us hl => match us, hl with | [_, _], _ => rfl
  have F11 := fun_mk (st := s_check_generator) l11 c11 k11
  have b11 := F11.binds (ps := ["kind", "value"]) fun _ _ _ _ _ _ us hl => match us, hl with | [_, _], _ => rfl
  have F12 := fun_mk (st := s_line_of) l12 c12 k12
  have b12 := F12.binds (ps := ["generator", "n", "bits"]) fun _ _ _ _ _ _ us hl => match us, hl with | [_, _, _], _ => rfl
  have F13 := fun_mk (st := s_value_behind) l13 c13 k13
  have b13 := F13.binds (ps := ["generator", "x", "n", "bits"]) fun _ _ _ _ _ _ us hl => match us, hl with | [_, _, _, _], _ => rfl
  have F14 := fun_mk (st := s_back_of) l14 c14 k14
  have b14 := F14.binds (ps := ["generator", "bits"]) fun _ _ _ _ _ _ us hl => match us, hl with | [_, _], _ => rfl
  have F15 := fun_mk (st := s_stepped) l15 c15 k15
  have b15 := F15.binds (ps := ["kind", "generator", "x", "n"]) fun _ _ _ _ _ _ us hl => match us, hl with | [_, _, _, _], _ => rfl
  have F16 := fun_mk (st := s_move_of) l16 c16 k16
  have b16 := F16.binds (ps := ["generator", "x", "bits"]) fun _ _ _ _ _ _ us hl => match us, hl with | [_, _, _], _ => rfl
  have F17 := fun_mk (st := s_length_of) l17 c17 k17
  have b17 := F17.binds (ps := ["a", "move", "bits"]) fun _ _ _ _ _ _ us hl => match us, hl with | [_, _, _], _ => rfl
  have F18 := fun_mk (st := s_still_value) l18 c18 k18
  have b18 := F18.binds (ps := ["generator", "bits"]) fun _ _ _ _ _ _ us hl => match us, hl with | [_, _], _ => rfl
  have F19 := fun_mk (st := s_lead_of) l19 c19 k19
  have b19 := F19.binds (ps := ["generator", "x", "bits"]) fun _ _ _ _ _ _ us hl => match us, hl with | [_, _, _], _ => rfl
  have F20 := fun_mk (st := s_sum_of_powers) l20 c20 k20
  have b20 := F20.binds (ps := ["a", "n", "bits"]) fun _ _ _ _ _ _ us hl => match us, hl with | [_, _, _], _ => rfl
  have F21 := fun_mk (st := s_least_even_course) l21 c21 k21
  have b21 := F21.binds (ps := ["a", "c", "x", "y", "bits"]) fun _ _ _ _ _ _ us hl => match us, hl with | [_, _, _, _, _], _ => rfl
  have F22 := fun_mk (st := s_odd_course) l22 c22 k22
  have b22 := F22.binds (ps := ["generator", "x", "y", "bits"]) fun _ _ _ _ _ _ us hl => match us, hl with | [_, _, _, _], _ => rfl
  have F23 := fun_mk (st := s_short_course) l23 c23 k23
  have b23 := F23.binds (ps := ["generator", "x", "y", "bits"]) fun _ _ _ _ _ _ us hl => match us, hl with | [_, _, _, _], _ => rfl
  have F24 := fun_mk (st := s_course) l24 c24 k24
  have b24 := F24.binds (ps := ["generator", "x", "y", "bits"]) fun _ _ _ _ _ _ us hl => match us, hl with | [_, _, _, _], _ => rfl
  have F25 := fun_mk (st := s_check_course) l25 c25 k25
  have b25 := F25.binds (ps := ["kind", "generator", "x", "y"]) fun _ _ _ _ _ _ us hl => match us, hl with | [_, _, _, _], _ => rfl
  have F26 := fun_mk (st := s_all_steps) l26 c26 k26
  have b26 := F26.binds (ps := ["kind", "generator", "x", "y"]) fun _ _ _ _ _ _ us hl => match us, hl with | [_, _, _, _], _ => rfl
  have F27 := fun_mk (st := s_steps_between) l27 c27 k27
  have b27 := F27.binds (ps := ["kind", "generator", "x", "y"]) fun _ _ _ _ _ _ us hl => match us, hl with | [_, _, _, _], _ => rfl
  have F28 := fun_mk (st := s_first_met) l28 c28 k28
  have b28 := F28.binds (ps := ["kind", "generator", "x", "some"]) fun _ _ _ _ _ _ us hl => match us, hl with | [_, _, _, _], _ => rfl
  have F29 := fun_mk (st := s__law_source_of) l29 c29 k29
  have b29 := F29.binds (ps := ["_law_cell"]) fun _ _ _ _ _ _ us hl => match us, hl with | [_], _ => rfl
  have F30 := fun_mk (st := s__law_next) l30 c30 k30
  have b30 := F30.binds (ps := ["_law_source", "_law_many"]) fun _ _ _ _ _ _ us hl => match us, hl with | [_, _], _ => rfl
  have F31 := fun_mk (st := s__law_one) l31 c31 k31
  have b31 := F31.binds (ps := ["_law_source", "_law_some"]) fun _ _ _ _ _ _ us hl => match us, hl with | [_, _], _ => rfl
  have F32 := fun_mk (st := s__law_cell_at) l32 c32 k32
  have b32 := F32.binds (ps := ["_law_script", "_law_index"]) fun _ _ _ _ _ _ us hl => match us, hl with | [_, _], _ => rfl
  have F33 := fun_mk (st := s__law_wide) l33 c33 k33
  have b33 := F33.binds (ps := ["_law_source", "_law_m"]) fun _ _ _ _ _ _ us hl => match us, hl with | [_, _], _ => rfl
  have F34 := fun_mk (st := s__law_draw_kind) l34 c34 k34
  have b34 := F34.binds (ps := ["_law_source", "_law_most"]) fun _ _ _ _ _ _ us hl => match us, hl with | [_, _], _ => rfl
  have F35 := fun_mk (st := s__law_value) l35 c35 k35
  have b35 := F35.binds (ps := ["_law_source", "_law_low", "_law_size"]) fun _ _ _ _ _ _ us hl => match us, hl with | [_, _, _], _ => rfl
  have F36 := fun_mk (st := s__law_put) l36 c36 k36
  have b36 := F36.binds (ps := ["_law_n", "_law_low", "_law_size"]) fun _ _ _ _ _ _ us hl => match us, hl with | [_, _, _], _ => rfl
  have F37 := fun_mk (st := s__law_draw_pair) l37 c37 k37
  have b37 := F37.binds (ps := ["_law_source", "_law_low", "_law_size"]) fun _ _ _ _ _ _ us hl => match us, hl with | [_, _, _], _ => rfl
  have F38 := fun_mk (st := s__law_right) l38 c38 k38
  have b38 := F38.binds (ps := ["_law_source"]) fun _ _ _ _ _ _ us hl => match us, hl with | [_], _ => rfl
  have F39 := fun_mk (st := s_law) l39 c39 k39
  have b39 := F39.binds (ps := ["_law_script"]) fun _ _ _ _ _ _ us hl => match us, hl with | [_], _ => rfl
  have F40 := fun_mk (st := s_Kind_init) l40 c40 k40
  have b40 := F40.binds (ps := ["self", "bits", "is_signed"]) fun _ _ _ _ _ _ us hl => match us, hl with | [_, _, _], _ => rfl
  have F41 := fun_mk (st := s_Kind_eq) l41 c41 k41
  have b41 := F41.binds (ps := ["self", "other"]) fun _ _ _ _ _ _ us hl => match us, hl with | [_, _], _ => rfl
  have F42 := fun_mk (st := s_Kind_parts) l42 c42 k42
  have b42 := F42.binds (ps := ["self"]) fun _ _ _ _ _ _ us hl => match us, hl with | [_], _ => rfl
  have T : Txt K mg C_Kind := {
    h_is_integer := ⟨_, _, F0, PySem.W.mg_of X G a0, b0⟩
    h_is_between := ⟨_, _, F1, PySem.W.mg_of X G a1, b1⟩
    h_check_between := ⟨_, _, F2, PySem.W.mg_of X G a2, b2⟩
    h_check_kind := ⟨_, _, F3, PySem.W.mg_of X G a3, b3⟩
    h_size_of := ⟨_, _, F4, PySem.W.mg_of X G a4, b4⟩
    h_low_of := ⟨_, _, F5, PySem.W.mg_of X G a5, b5⟩
    h_placed := ⟨_, _, F6, PySem.W.mg_of X G a6, b6⟩
    h_check_value := ⟨_, _, F7, PySem.W.mg_of X G a7, b7⟩
    h_is_value := ⟨_, _, F8, PySem.W.mg_of X G a8, b8⟩
    h_inverse_of := ⟨_, _, F9, PySem.W.mg_of X G a9, b9⟩
    h_twos_in := ⟨_, _, F10, PySem.W.mg_of X G a10, b10⟩
    h_check_generator := ⟨_, _, F11, PySem.W.mg_of X G a11, b11⟩
    h_line_of := ⟨_, _, F12, PySem.W.mg_of X G a12, b12⟩
    h_value_behind := ⟨_, _, F13, PySem.W.mg_of X G a13, b13⟩
    h_back_of := ⟨_, _, F14, PySem.W.mg_of X G a14, b14⟩
    h_stepped := ⟨_, _, F15, PySem.W.mg_of X G a15, b15⟩
    h_move_of := ⟨_, _, F16, PySem.W.mg_of X G a16, b16⟩
    h_length_of := ⟨_, _, F17, PySem.W.mg_of X G a17, b17⟩
    h_still_value := ⟨_, _, F18, PySem.W.mg_of X G a18, b18⟩
    h_lead_of := ⟨_, _, F19, PySem.W.mg_of X G a19, b19⟩
    h_sum_of_powers := ⟨_, _, F20, PySem.W.mg_of X G a20, b20⟩
    h_least_even_course := ⟨_, _, F21, PySem.W.mg_of X G a21, b21⟩
    h_odd_course := ⟨_, _, F22, PySem.W.mg_of X G a22, b22⟩
    h_short_course := ⟨_, _, F23, PySem.W.mg_of X G a23, b23⟩
    h_course := ⟨_, _, F24, PySem.W.mg_of X G a24, b24⟩
    h_check_course := ⟨_, _, F25, PySem.W.mg_of X G a25, b25⟩
    h_all_steps := ⟨_, _, F26, PySem.W.mg_of X G a26, b26⟩
    h_steps_between := ⟨_, _, F27, PySem.W.mg_of X G a27, b27⟩
    h_first_met := ⟨_, _, F28, PySem.W.mg_of X G a28, b28⟩
    h__law_source_of := ⟨_, _, F29, PySem.W.mg_of X G a29, b29⟩
    h__law_next := ⟨_, _, F30, PySem.W.mg_of X G a30, b30⟩
    h__law_one := ⟨_, _, F31, PySem.W.mg_of X G a31, b31⟩
    h__law_cell_at := ⟨_, _, F32, PySem.W.mg_of X G a32, b32⟩
    h__law_wide := ⟨_, _, F33, PySem.W.mg_of X G a33, b33⟩
    h__law_draw_kind := ⟨_, _, F34, PySem.W.mg_of X G a34, b34⟩
    h__law_value := ⟨_, _, F35, PySem.W.mg_of X G a35, b35⟩
    h__law_put := ⟨_, _, F36, PySem.W.mg_of X G a36, b36⟩
    h__law_draw_pair := ⟨_, _, F37, PySem.W.mg_of X G a37, b37⟩
    h__law_right := ⟨_, _, F38, PySem.W.mg_of X G a38, b38⟩
    h_law := ⟨_, _, F39, PySem.W.mg_of X G a39, b39⟩
    mg_Kind := PySem.W.mg_of X G m_Kind
    cl_Kind := ⟨pg_Kind, hd_Kind, po_Kind, sa_Kind⟩
    ck_Kind := ⟨⟨⟨pg_Kind, hd_Kind, po_Kind, sa_Kind⟩, ha_Kind, hn, htk, hm_Kind⟩, kn_Kind, fun t => by cases t <;> assumption, fun t => by cases t <;> assumption, kk_Kind_Kind⟩
    nf_Kind_bits := nf_Kind_bits
    nf_Kind_is_signed := nf_Kind_is_signed
    h_Kind_init := ⟨_, _, F40, PySem.W.mg_of X G m_Kind, ⟨mk_Kind, a40, i40, kc_Kind⟩, b40⟩
    h_Kind_eq := ⟨_, _, F41, ⟨a41, i41, k41⟩, b41⟩
    h_Kind_parts := ⟨_, _, F42, ⟨a42, i42, k42⟩, b42⟩
    b_all := PySem.W.mg_none_of X G b_all
    b_bool := PySem.W.mg_none_of X G b_bool
    b_enumerate := PySem.W.mg_none_of X G b_enumerate
    b_int := PySem.W.mg_none_of X G b_int
    b_isinstance := PySem.W.mg_none_of X G b_isinstance
    b_len := PySem.W.mg_none_of X G b_len
    b_list := PySem.W.mg_none_of X G b_list
    b_max := PySem.W.mg_none_of X G b_max
    b_min := PySem.W.mg_none_of X G b_min
    b_range := PySem.W.mg_none_of X G b_range
    b_sorted := PySem.W.mg_none_of X G b_sorted
    b_tuple := PySem.W.mg_none_of X G b_tuple
    g_MOST_BITS := ⟨_, PySem.W.mg_of X G g_MOST_BITS⟩
    g_MOST_VALUES := ⟨_, PySem.W.mg_of X G g_MOST_VALUES⟩
  }
  refine ⟨PySem.W.fnOf "law" "law" (defArgs s_law) (defBody s_law) (defScope s_law) .none kV39 dc39 pm39 an39 cd39 ct39, fun s v => .of_eq rfl, fun base _ _ => ?_⟩
  have F__law_source_of := ok__law_source_of (P := l.prog) (w := w) (base := base) T
  have F__law_cell_at := ok__law_cell_at (P := l.prog) (w := w) (base := base) T
  have F_is_integer := ok_is_integer (P := l.prog) (w := w) (base := base) T
  have F_is_between := ok_is_between (P := l.prog) (w := w) (base := base) T F_is_integer
  have F_Kind_init := ok_Kind_init (P := l.prog) (w := w) (base := base) T F_is_between
  have F__law_next := ok__law_next (P := l.prog) (w := w) (base := base) T
  have F__law_draw_kind := ok__law_draw_kind (P := l.prog) (w := w) (base := base) T F_Kind_init F__law_next
  have F__law_one := ok__law_one (P := l.prog) (w := w) (base := base) T F__law_next
  have F__law_put := ok__law_put (P := l.prog) (w := w) (base := base) T
  have F__law_wide := ok__law_wide (P := l.prog) (w := w) (base := base) T F__law_next
  have F__law_value := ok__law_value (P := l.prog) (w := w) (base := base) T F__law_one F__law_wide F__law_next
  have F__law_draw_pair := ok__law_draw_pair (P := l.prog) (w := w) (base := base) T F__law_next F__law_put F__law_one F__law_value
  have F_check_kind := ok_check_kind (P := l.prog) (w := w) (base := base) T
  have F_low_of := ok_low_of (P := l.prog) (w := w) (base := base) T
  have F_size_of := ok_size_of (P := l.prog) (w := w) (base := base) T
  have F_is_value := ok_is_value (P := l.prog) (w := w) (base := base) T F_check_kind F_is_between F_low_of F_size_of
  have F_check_generator := ok_check_generator (P := l.prog) (w := w) (base := base) T F_check_kind F_is_value
  have F_check_between := ok_check_between (P := l.prog) (w := w) (base := base) T F_is_between
  have F_check_value := ok_check_value (P := l.prog) (w := w) (base := base) T F_check_between F_low_of F_size_of
  have F_placed := ok_placed (P := l.prog) (w := w) (base := base) T F_low_of F_size_of
  have F_line_of := ok_line_of (P := l.prog) (w := w) (base := base) T
  have F_value_behind := ok_value_behind (P := l.prog) (w := w) (base := base) T F_line_of
  have F_inverse_of := ok_inverse_of (P := l.prog) (w := w) (base := base) T
  have F_back_of := ok_back_of (P := l.prog) (w := w) (base := base) T F_inverse_of
  have F_stepped := ok_stepped (P := l.prog) (w := w) (base := base) T F_check_generator F_check_value F_placed F_value_behind F_is_integer F_back_of
  have F_check_course := ok_check_course (P := l.prog) (w := w) (base := base) T F_check_generator F_check_value
  have F_move_of := ok_move_of (P := l.prog) (w := w) (base := base) T
  have F_twos_in := ok_twos_in (P := l.prog) (w := w) (base := base) T
  have F_sum_of_powers := ok_sum_of_powers (P := l.prog) (w := w) (base := base) T F_value_behind
  have F_least_even_course := ok_least_even_course (P := l.prog) (w := w) (base := base) T F_move_of F_twos_in F_inverse_of F_sum_of_powers
  have F_length_of := ok_length_of (P := l.prog) (w := w) (base := base) T
  have F_odd_course := ok_odd_course (P := l.prog) (w := w) (base := base) T F_least_even_course F_length_of F_move_of
  have F_still_value := ok_still_value (P := l.prog) (w := w) (base := base) T F_inverse_of
  have F_lead_of := ok_lead_of (P := l.prog) (w := w) (base := base) T F_twos_in F_still_value
  have F_short_course := ok_short_course (P := l.prog) (w := w) (base := base) T F_still_value F_twos_in F_lead_of F_value_behind
  have F_course := ok_course (P := l.prog) (w := w) (base := base) T F_odd_course F_short_course
  have F_all_steps := ok_all_steps (P := l.prog) (w := w) (base := base) T F_check_course F_course
  have F_steps_between := ok_steps_between (P := l.prog) (w := w) (base := base) T F_all_steps
  have F_first_met := ok_first_met (P := l.prog) (w := w) (base := base) T F_check_generator F_check_value F_course F_is_value
  have F__law_right := ok__law_right (P := l.prog) (w := w) (base := base) T F__law_draw_kind F__law_one F__law_draw_pair F__law_value F__law_wide F_stepped F__law_next F_steps_between F_first_met
  have F_law := ok_law (P := l.prog) (w := w) (base := base) T F__law_source_of F__law_cell_at F__law_right
  obtain ⟨f, fd, F, hm, hb, ok⟩ := F_law.ex
  have e2 := hm.symm.trans hfa
  cases e2
  have e3 := DL.same_fun F39 F
  subst e3
  exact ok
end LW
open PySem PySem.W PyProof.Rows
set_option maxRecDepth 100000 in
set_option maxHeartbeats 0 in
theorem PySem.Challenge.cw_farwrap_k48_values_first_met_holds : PySem.Challenge.rw_farwrap_k48_values_first_met.Holds := by
  w_on; o_law; k_head; (case hw => w_witness2)
  k_fill
  refine L2.walk_of (l := PySem.Challenge.rw_farwrap_k48_values_first_met) (n := 63) (k := 10) (x := "_law_script") (CX := fun _ => L2.CX0) (sp := fun w => DL.toSp _ (DL.spLaw)) rfl (by decide) rfl ⟨rfl, by decide, by decide⟩ (fun w h Y => PySem.W.kIn_of Y) ?F (fun w H a ns hl _ hS => DL.law_in hl hS) (fun _ _ _ _ _ h => h)
  case F =>
    intro w mg fa h KX G hmg
    refine' LW.all_mk KX G hmg ?m_Kind ?a0 ?l0 ?c0 ?k0 ?a1 ?l1 ?c1 ?k1 ?a2 ?l2 ?c2 ?k2 ?a3 ?l3 ?c3 ?k3 ?a4 ?l4 ?c4 ?k4 ?a5 ?l5 ?c5 ?k5 ?a6 ?l6 ?c6 ?k6 ?a7 ?l7 ?c7 ?k7 ?a8 ?l8 ?c8 ?k8 ?a9 ?l9 ?c9 ?k9 ?a10 ?l10 ?c10 ?k10 ?a11 ?l11 ?c11 ?k11 ?a12 ?l12 ?c12 ?k12 ?a13 ?l13 ?c13 ?k13 ?a14 ?l14 ?c14 ?k14 ?a15 ?l15 ?c15 ?k15 ?a16 ?l16 ?c16 ?k16 ?a17 ?l17 ?c17 ?k17 ?a18 ?l18 ?c18 ?k18 ?a19 ?l19 ?c19 ?k19 ?a20 ?l20 ?c20 ?k20 ?a21 ?l21 ?c21 ?k21 ?a22 ?l22 ?c22 ?k22 ?a23 ?l23 ?c23 ?k23 ?a24 ?l24 ?c24 ?k24 ?a25 ?l25 ?c25 ?k25 ?a26 ?l26 ?c26 ?k26 ?a27 ?l27 ?c27 ?k27 ?a28 ?l28 ?c28 ?k28 ?a29 ?l29 ?c29 ?k29 ?a30 ?l30 ?c30 ?k30 ?a31 ?l31 ?c31 ?k31 ?a32 ?l32 ?c32 ?k32 ?a33 ?l33 ?c33 ?k33 ?a34 ?l34 ?c34 ?k34 ?a35 ?l35 ?c35 ?k35 ?a36 ?l36 ?c36 ?k36 ?a37 ?l37 ?c37 ?k37 ?a38 ?l38 ?c38 ?k38 ?a39 ?l39 ?c39 ?k39 ?a40 ?i40 ?l40 ?c40 ?k40 ?a41 ?i41 ?l41 ?c41 ?k41 ?a42 ?i42 ?l42 ?c42 ?k42 ?pg_Kind ?hd_Kind ?po_Kind ?sa_Kind ?mk_Kind ?kc_Kind ?ha_Kind ?hm_Kind ?kn_Kind ?kt_Kind_int ?ks_Kind_int ?kt_Kind_bool ?ks_Kind_bool ?kt_Kind_str ?ks_Kind_str ?kt_Kind_tuple ?ks_Kind_tuple ?kt_Kind_list ?ks_Kind_list ?kt_Kind_dict ?ks_Kind_dict ?kk_Kind_Kind ?nf_Kind_bits ?nf_Kind_is_signed ?hn ?htk ?b_all ?b_bool ?b_enumerate ?b_int ?b_isinstance ?b_len ?b_list ?b_max ?b_min ?b_range ?b_sorted ?b_tuple ?g_MOST_BITS ?g_MOST_VALUES
    (case m_Kind => k_is)
    (case a0 => k_is)
    (case l0 => k_is)
    (case c0 => k_is)
    (case k0 => k_is)
    (case a1 => k_is)
    (case l1 => k_is)
    (case c1 => k_is)
    (case k1 => k_is)
    (case a2 => k_is)
    (case l2 => k_is)
    (case c2 => k_is)
    (case k2 => k_is)
    (case a3 => k_is)
    (case l3 => k_is)
    (case c3 => k_is)
    (case k3 => k_is)
    (case a4 => k_is)
    (case l4 => k_is)
    (case c4 => k_is)
    (case k4 => k_is)
    (case a5 => k_is)
    (case l5 => k_is)
    (case c5 => k_is)
    (case k5 => k_is)
    (case a6 => k_is)
    (case l6 => k_is)
    (case c6 => k_is)
    (case k6 => k_is)
    (case a7 => k_is)
    (case l7 => k_is)
    (case c7 => k_is)
    (case k7 => k_is)
    (case a8 => k_is)
    (case l8 => k_is)
    (case c8 => k_is)
    (case k8 => k_is)
    (case a9 => k_is)
    (case l9 => k_is)
    (case c9 => k_is)
    (case k9 => k_is)
    (case a10 => k_is)
    (case l10 => k_is)
    (case c10 => k_is)
    (case k10 => k_is)
    (case a11 => k_is)
    (case l11 => k_is)
    (case c11 => k_is)
    (case k11 => k_is)
    (case a12 => k_is)
    (case l12 => k_is)
    (case c12 => k_is)
    (case k12 => k_is)
    (case a13 => k_is)
    (case l13 => k_is)
    (case c13 => k_is)
    (case k13 => k_is)
    (case a14 => k_is)
    (case l14 => k_is)
    (case c14 => k_is)
    (case k14 => k_is)
    (case a15 => k_is)
    (case l15 => k_is)
    (case c15 => k_is)
    (case k15 => k_is)
    (case a16 => k_is)
    (case l16 => k_is)
    (case c16 => k_is)
    (case k16 => k_is)
    (case a17 => k_is)
    (case l17 => k_is)
    (case c17 => k_is)
    (case k17 => k_is)
    (case a18 => k_is)
    (case l18 => k_is)
    (case c18 => k_is)
    (case k18 => k_is)
    (case a19 => k_is)
    (case l19 => k_is)
    (case c19 => k_is)
    (case k19 => k_is)
    (case a20 => k_is)
    (case l20 => k_is)
    (case c20 => k_is)
    (case k20 => k_is)
    (case a21 => k_is)
    (case l21 => k_is)
    (case c21 => k_is)
    (case k21 => k_is)
    (case a22 => k_is)
    (case l22 => k_is)
    (case c22 => k_is)
    (case k22 => k_is)
    (case a23 => k_is)
    (case l23 => k_is)
    (case c23 => k_is)
    (case k23 => k_is)
    (case a24 => k_is)
    (case l24 => k_is)
    (case c24 => k_is)
    (case k24 => k_is)
    (case a25 => k_is)
    (case l25 => k_is)
    (case c25 => k_is)
    (case k25 => k_is)
    (case a26 => k_is)
    (case l26 => k_is)
    (case c26 => k_is)
    (case k26 => k_is)
    (case a27 => k_is)
    (case l27 => k_is)
    (case c27 => k_is)
    (case k27 => k_is)
    (case a28 => k_is)
    (case l28 => k_is)
    (case c28 => k_is)
    (case k28 => k_is)
    (case a29 => k_is)
    (case l29 => k_is)
    (case c29 => k_is)
    (case k29 => k_is)
    (case a30 => k_is)
    (case l30 => k_is)
    (case c30 => k_is)
    (case k30 => k_is)
    (case a31 => k_is)
    (case l31 => k_is)
    (case c31 => k_is)
    (case k31 => k_is)
    (case a32 => k_is)
    (case l32 => k_is)
    (case c32 => k_is)
    (case k32 => k_is)
    (case a33 => k_is)
    (case l33 => k_is)
    (case c33 => k_is)
    (case k33 => k_is)
    (case a34 => k_is)
    (case l34 => k_is)
    (case c34 => k_is)
    (case k34 => k_is)
    (case a35 => k_is)
    (case l35 => k_is)
    (case c35 => k_is)
    (case k35 => k_is)
    (case a36 => k_is)
    (case l36 => k_is)
    (case c36 => k_is)
    (case k36 => k_is)
    (case a37 => k_is)
    (case l37 => k_is)
    (case c37 => k_is)
    (case k37 => k_is)
    (case a38 => k_is)
    (case l38 => k_is)
    (case c38 => k_is)
    (case k38 => k_is)
    (case a39 => k_is)
    (case l39 => k_is)
    (case c39 => k_is)
    (case k39 => k_is)
    (case a40 => k_is)
    (case i40 => k_is)
    (case l40 => k_is)
    (case c40 => k_is)
    (case k40 => k_is)
    (case a41 => k_is)
    (case i41 => k_is)
    (case l41 => k_is)
    (case c41 => k_is)
    (case k41 => k_is)
    (case a42 => k_is)
    (case i42 => k_is)
    (case l42 => k_is)
    (case c42 => k_is)
    (case k42 => k_is)
    (case pg_Kind => k_is)
    (case hd_Kind => k_is)
    (case po_Kind => k_is)
    (case sa_Kind => k_is)
    (case mk_Kind => k_is)
    (case kc_Kind => k_is)
    (case ha_Kind => k_is)
    (case hm_Kind => k_is)
    (case kn_Kind => kit_is)
    (case kt_Kind_int => kit_is)
    (case ks_Kind_int => kit_is)
    (case kt_Kind_bool => kit_is)
    (case ks_Kind_bool => kit_is)
    (case kt_Kind_str => kit_is)
    (case ks_Kind_str => kit_is)
    (case kt_Kind_tuple => kit_is)
    (case ks_Kind_tuple => kit_is)
    (case kt_Kind_list => kit_is)
    (case ks_Kind_list => kit_is)
    (case kt_Kind_dict => kit_is)
    (case ks_Kind_dict => kit_is)
    (case kk_Kind_Kind => kit_is)
    (case nf_Kind_bits => k_is)
    (case nf_Kind_is_signed => k_is)
    (case hn => k_is)
    (case htk => k_is)
    (case b_all => k_is)
    (case b_bool => k_is)
    (case b_enumerate => k_is)
    (case b_int => k_is)
    (case b_isinstance => k_is)
    (case b_len => k_is)
    (case b_list => k_is)
    (case b_max => k_is)
    (case b_min => k_is)
    (case b_range => k_is)
    (case b_sorted => k_is)
    (case b_tuple => k_is)
    (case g_MOST_BITS => k_is)
    (case g_MOST_VALUES => k_is)
#print axioms PySem.Challenge.cw_farwrap_k48_values_first_met_holds
