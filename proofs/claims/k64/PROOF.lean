import PyProof.Rows.All
import Wide.All
import OpenK.AllK
import Wide.FinOn
import HandS.ForMost
import HandS.IsInst
import HandS.Wide
import HandS.WideBits
import HandS.Flow
import HandS.Style
import HandS.SortInts
import HandS.Defaults
import HandS.NoneIn
import HandS.Conv
import HandS.SortRule
import HandS.DictTup
import HandS.DictComp
import HandS.TupSets
import HandS.Lambda
import HandS.Nested
import HandS.EndTab
import KE.KNestM
import HandS.CallLocal
import PyProof.LongRange
import HandS.SortKw
import KE.DatumOrd
import HandS.Exc
import HandS.ExcInit
import HandS.ExcOwn
import HandS.ExcField
import HandS.WordsExc
import KE.KExcInit
import HandS.OwnEq
import HandS.ExcIs
import HandS.SetFor
import KE.KExcIs
import HandS.Strs
import HandS.More
import KE.KRevSl
import HandS.Deep
import KE.KDflt
import KE.GoesMore
import HandS.TupMul
import HandS.MakeKwOnly
import KE.SortKeyHeap
import KE.SortData
import KE.KMinKey
import KE.DataFind
import HandS.DeepEq
import PySem.Challenge.RW_farwrap_k64_short_rows_by_all_integers
set_option Elab.async false
set_option linter.all false
set_option maxRecDepth 100000
set_option maxHeartbeats 4000000
/-! A layer of data over the hand layer: values are data, what never changes stands in a frozen part, what changes in a map of its own. -/
namespace DL
open PySem PySem.Spec PyProof.Rows L2
/-! ### data -/
/-- the built-in classes that the texts name -/
inductive BT where
  | int | bool | str | tup | lst | dic
  deriving DecidableEq
def BT.nm : BT → String
  | .int => "int" | .bool => "bool" | .str => "str" | .tup => "tuple" | .lst => "list" | .dic => "dict"
inductive Dat where
  | non | bl (b : Bool) | int (i : Int) | str (x : Str) | ty (n : BT) | cls (C : Addr)
  | tup (ds : List Dat) | lst (ds : List Dat) | frl (ds : List Dat) | dic (kvs : List (Key × Dat)) | ins (C : Addr) (fs : List (Str × Dat)) | ref (a : Addr)
mutual
inductive Rep (K : PySem.W.Frag) (F : Hp) : V → Dat → Prop
  | non : Rep K F .non .non
  | bl (b : Bool) : Rep K F (.bl b) (.bl b)
  | int (i : Int) : Rep K F (.int i) (.int i)
  | str (x : Str) : Rep K F (.str x) (.str x)
  | ty (n : BT) : Rep K F (.ty n.nm) (.ty n)
  | cls (C : Addr) : Rep K F (.ref C) (.cls C)
  | tup {a : Addr} {xs : List V} {ds : List Dat} : SqT K F a xs → Reps K F xs ds → Rep K F (.ref a) (.tup ds)
  | lst {a : Addr} {xs : List V} {ds : List Dat} : F a = some (.lst xs) → Reps K F xs ds → Rep K F (.ref a) (.lst ds)
  | frl {a : Addr} {xs : List V} {ds : List Dat} : SqL K F a xs → Reps K F xs ds → Rep K F (.ref a) (.frl ds)
  | dic {a : Addr} {kvs : List (Key × V)} {gs : List (Key × Dat)} : F a = some (.dK kvs) → RepK K F kvs gs → Rep K F (.ref a) (.dic gs)
  | ins {a C dx : Addr} {fs : List (Str × V)} {gs : List (Str × Dat)} : F a = some (.ins C dx fs) → RepF K F fs gs → (fs.map (·.1)).Nodup → Rep K F (.ref a) (.ins C gs)
  | ref (a : Addr) : Rep K F (.ref a) (.ref a)
inductive Reps (K : PySem.W.Frag) (F : Hp) : List V → List Dat → Prop
  | nil : Reps K F [] []
  | cons {v : V} {vs : List V} {d : Dat} {ds : List Dat} : Rep K F v d → Reps K F vs ds → Reps K F (v :: vs) (d :: ds)
inductive RepK (K : PySem.W.Frag) (F : Hp) : List (Key × V) → List (Key × Dat) → Prop
  | nil : RepK K F [] []
  | cons {k : Key} {v : V} {vs : List (Key × V)} {d : Dat} {ds : List (Key × Dat)} : Rep K F v d → RepK K F vs ds → RepK K F ((k, v) :: vs) ((k, d) :: ds)
inductive RepF (K : PySem.W.Frag) (F : Hp) : List (Str × V) → List (Str × Dat) → Prop
  | nil : RepF K F [] []
  | cons {f : Str} {v : V} {vs : List (Str × V)} {d : Dat} {ds : List (Str × Dat)} : Rep K F v d → RepF K F vs ds → RepF K F ((f, v) :: vs) ((f, d) :: ds)
end
def Ext (F F' : Hp) : Prop := ∀ a o, F a = some o → F' a = some o
theorem Ext.refl (F : Hp) : Ext F F := fun _ _ h => h
theorem Ext.trans {F G J : Hp} (a : Ext F G) (b : Ext G J) : Ext F J := fun x o h => b x o (a x o h)
theorem Ext.new {F : Hp} {p : Addr} {o : HO} (h : F p = none) : Ext F (upd F p o) := fun a u e => by
  rw [upd_ne (ne_of_none e h)]
  exact e
theorem ext_rd {H H' : Hp} {a : Addr} {u : HO} (e : Ext H H') (h : Rd H a u) : Rd H' a u := by
  rcases h with h | ⟨o, h⟩
  · exact Or.inl (e a _ h)
  · exact Or.inr ⟨o, e a _ h⟩
theorem ext_l {K : PySem.W.Frag} {H H' : Hp} {a : Addr} {xs : List V} (e : Ext H H') (h : SqL K H a xs) : SqL K H' a xs := by
  rcases h with h | h
  · exact Or.inl (ext_rd e h)
  · exact Or.inr h
theorem ext_t {K : PySem.W.Frag} {H H' : Hp} {a : Addr} {xs : List V} (e : Ext H H') (h : SqT K H a xs) : SqT K H' a xs := by
  rcases h with h | h
  · exact Or.inl (ext_rd e h)
  · exact Or.inr h
section
variable {K : PySem.W.Frag} {F F' : Hp}
mutual
theorem Rep.mono (e : Ext F F') : ∀ {v : V} {d : Dat}, Rep K F v d → Rep K F' v d
  | _, _, .non => .non
  | _, _, .bl b => .bl b
  | _, _, .int i => .int i
  | _, _, .str x => .str x
  | _, _, .ty n => .ty n
  | _, _, .cls C => .cls C
  | _, _, .tup h r => .tup (ext_t e h) (Reps.mono e r)
  | _, _, .lst h r => .lst (e _ _ h) (Reps.mono e r)
  | _, _, .frl h r => .frl (ext_l e h) (Reps.mono e r)
  | _, _, .dic h r => .dic (e _ _ h) (RepK.mono e r)
  | _, _, .ins h r n => .ins (e _ _ h) (RepF.mono e r) n
  | _, _, .ref a => .ref a
theorem Reps.mono (e : Ext F F') : ∀ {vs : List V} {ds : List Dat}, Reps K F vs ds → Reps K F' vs ds
  | _, _, .nil => .nil
  | _, _, .cons h r => .cons (Rep.mono e h) (Reps.mono e r)
theorem RepK.mono (e : Ext F F') : ∀ {vs : List (Key × V)} {ds : List (Key × Dat)}, RepK K F vs ds → RepK K F' vs ds
  | _, _, .nil => .nil
  | _, _, .cons h r => .cons (Rep.mono e h) (RepK.mono e r)
theorem RepF.mono (e : Ext F F') : ∀ {vs : List (Str × V)} {ds : List (Str × Dat)}, RepF K F vs ds → RepF K F' vs ds
  | _, _, .nil => .nil
  | _, _, .cons h r => .cons (Rep.mono e h) (RepF.mono e r)
end
theorem Reps.length {vs : List V} {ds : List Dat} (r : Reps K F vs ds) : vs.length = ds.length := by
  induction vs generalizing ds with
  | nil =>
    cases r
    rfl
  | cons v vs ih =>
    cases r with
    | cons h r => exact congrArg Nat.succ (ih r)
theorem Reps.get {vs : List V} {ds : List Dat} (r : Reps K F vs ds) : ∀ {i : Nat} {d : Dat}, ds[i]? = some d → ∃ v, vs[i]? = some v ∧ Rep K F v d := by
  induction vs generalizing ds with
  | nil =>
    cases r
    intro i d h
    simp at h
  | cons v vs ih =>
    cases r with
    | cons h r =>
      intro i d e
      cases i with
      | zero =>
        have e' := Option.some.inj e
        subst e'
        exact ⟨v, rfl, h⟩
      | succ i => exact ih r e
theorem Reps.app {vs ws : List V} {ds es : List Dat} (r : Reps K F vs ds) (q : Reps K F ws es) : Reps K F (vs ++ ws) (ds ++ es) := by
  induction vs generalizing ds with
  | nil =>
    cases r
    exact q
  | cons v vs ih =>
    cases r with
    | cons h r => exact .cons h (ih r)
theorem Reps.set {v : V} {d : Dat} (h : Rep K F v d) {vs : List V} {ds : List Dat} (r : Reps K F vs ds) : ∀ (i : Nat), Reps K F (vs.set i v) (ds.set i d) := by
  induction vs generalizing ds with
  | nil =>
    cases r
    intro i
    exact .nil
  | cons w vs ih =>
    cases r with
    | cons g r =>
      intro i
      cases i with
      | zero => exact .cons h r
      | succ i => exact .cons g (ih r i)
theorem Reps.take {vs : List V} {ds : List Dat} (r : Reps K F vs ds) : ∀ (n : Nat), Reps K F (vs.take n) (ds.take n) := by
  induction vs generalizing ds with
  | nil =>
    cases r
    intro n
    cases n <;> exact .nil
  | cons w vs ih =>
    cases r with
    | cons g r =>
      intro n
      cases n with
      | zero => exact .nil
      | succ n => exact .cons g (ih r n)
theorem Reps.drop {vs : List V} {ds : List Dat} (r : Reps K F vs ds) : ∀ (n : Nat), Reps K F (vs.drop n) (ds.drop n) := by
  induction vs generalizing ds with
  | nil =>
    cases r
    intro n
    cases n <;> exact .nil
  | cons w vs ih =>
    cases r with
    | cons g r =>
      intro n
      cases n with
      | zero => exact .cons g r
      | succ n => exact ih r n
theorem Reps.rev {vs : List V} {ds : List Dat} (r : Reps K F vs ds) : Reps K F vs.reverse ds.reverse := by
  induction vs generalizing ds with
  | nil =>
    cases r
    exact .nil
  | cons w vs ih =>
    cases r with
    | cons g r =>
      rw [List.reverse_cons, List.reverse_cons]
      exact (ih r).app (.cons g .nil)
theorem Reps.dropLast {vs : List V} {ds : List Dat} (r : Reps K F vs ds) : Reps K F vs.dropLast ds.dropLast := by
  have e1 : vs.dropLast = vs.take (vs.length - 1) := List.dropLast_eq_take
  have e2 : ds.dropLast = ds.take (ds.length - 1) := List.dropLast_eq_take
  rw [e1, e2, r.length]
  exact r.take _
theorem Reps.one {v : V} {d : Dat} (h : Rep K F v d) : Reps K F [v] [d] := .cons h .nil
theorem Reps.two {v w : V} {d e : Dat} (h : Rep K F v d) (g : Rep K F w e) : Reps K F [v, w] [d, e] := .cons h (.cons g .nil)
theorem Reps.uncons {vs : List V} {d : Dat} {ds : List Dat} (r : Reps K F vs (d :: ds)) : ∃ v ws, vs = v :: ws ∧ Rep K F v d ∧ Reps K F ws ds := by
  cases r with
  | cons h r => exact ⟨_, _, rfl, h, r⟩
theorem Reps.unnil {vs : List V} (r : Reps K F vs []) : vs = [] := by
  cases r
  rfl
theorem Rep.toInt {v : V} {i : Int} (r : Rep K F v (.int i)) : v = .int i := by
  cases r
  rfl
theorem Rep.toBl {v : V} {b : Bool} (r : Rep K F v (.bl b)) : v = .bl b := by
  cases r
  rfl
theorem Rep.toStr {v : V} {x : Str} (r : Rep K F v (.str x)) : v = .str x := by
  cases r
  rfl
theorem Rep.toNon {v : V} (r : Rep K F v .non) : v = .non := by
  cases r
  rfl
theorem Reps.ints {vs : List V} {ns : List Int} (r : Reps K F vs (ns.map Dat.int)) : vs = ns.map V.int := by
  induction ns generalizing vs with
  | nil =>
    cases r
    rfl
  | cons n ns ih =>
    cases r with
    | cons h r =>
      rw [h.toInt, ih r]
      rfl
theorem Reps.bls {vs : List V} {ns : List Bool} (r : Reps K F vs (ns.map Dat.bl)) : vs = ns.map V.bl := by
  induction ns generalizing vs with
  | nil =>
    cases r
    rfl
  | cons n ns ih =>
    cases r with
    | cons h r =>
      rw [h.toBl, ih r]
      rfl
theorem reps_ints (ns : List Int) : Reps K F (ns.map V.int) (ns.map Dat.int) := by
  induction ns with
  | nil => exact .nil
  | cons n ns ih => exact .cons (.int n) ih
end
/-! ### what changes -/
/-- an object that is known by what is true of it -/
structure OthR where
  rel : Hp → HO → Prop
  mono : ∀ F F' o, Ext F F' → rel F o → rel F' o
inductive MO where
  | lst (ds : List Dat) | dic (kvs : List (Key × Dat)) | ins (C : Addr) (fs : List (Str × Dat)) | oth (φ : OthR)
abbrev MH := Addr → Option MO
def updM (M : MH) (a : Addr) (o : MO) : MH := fun b => if b = a then some o else M b
def delM (M : MH) (a : Addr) : MH := fun b => if b = a then none else M b
theorem updM_same {M : MH} {a : Addr} {o : MO} : updM M a o a = some o := if_pos rfl
theorem updM_ne {M : MH} {a b : Addr} {o : MO} (h : b ≠ a) : updM M a o b = M b := if_neg h
theorem delM_same {M : MH} {a : Addr} : delM M a a = none := if_pos rfl
theorem delM_ne {M : MH} {a b : Addr} (h : b ≠ a) : delM M a b = M b := if_neg h
theorem updM_updM {M : MH} {a : Addr} {o u : MO} : updM (updM M a o) a u = updM M a u := by
  funext b
  unfold updM
  split <;> rfl
theorem delM_updM {M : MH} {a : Addr} {o : MO} (h : M a = none) : delM (updM M a o) a = M := by
  funext b
  unfold delM updM
  split
  · rename_i e
    rw [e, h]
  · rfl
theorem ne_dom {M : MH} {a b : Addr} {o : MO} (h : M a = some o) (n : M b = none) : a ≠ b := fun e => by
  subst e
  rw [h] at n
  cases n
def LeM (M0 M : MH) : Prop := ∀ a o, M0 a = some o → M a = some o
theorem LeM.refl (M : MH) : LeM M M := fun _ _ h => h
theorem LeM.trans {A B C : MH} (x : LeM A B) (y : LeM B C) : LeM A C := fun a o h => y a o (x a o h)
theorem LeM.new {M : MH} {a : Addr} {o : MO} (n : M a = none) : LeM M (updM M a o) := fun b u h => by
  rw [updM_ne (ne_dom h n)]
  exact h
theorem LeM.upd {M0 M : MH} {a : Addr} {o : MO} (l : LeM M0 M) : LeM (updM M0 a o) (updM M a o) := fun b u h => by
  unfold updM at *
  split
  · rename_i e
    rw [if_pos e] at h
    exact h
  · rename_i e
    rw [if_neg e] at h
    exact l b u h
/-- a garbage object may change or go -/
theorem LeM.skip {M0 M : MH} {a : Addr} {o : MO} (l : LeM M0 M) (n : M0 a = none) : LeM M0 (updM M a o) := fun b u h => by
  rw [updM_ne (ne_dom h n)]
  exact l b u h
theorem LeM.del {M0 M : MH} {a : Addr} (l : LeM M0 M) (n : M0 a = none) : LeM M0 (delM M a) := fun b u h => by
  rw [delM_ne (ne_dom h n)]
  exact l b u h
def MRel (K : PySem.W.Frag) (F H : Hp) (a : Addr) : MO → Prop
  | .lst ds => ∃ xs, H a = some (.lst xs) ∧ Reps K F xs ds
  | .dic gs => ∃ kvs, H a = some (.dK kvs) ∧ RepK K F kvs gs
  | .ins C gs => ∃ dx fs, H a = some (.ins C dx fs) ∧ RepF K F fs gs ∧ (fs.map (·.1)).Nodup
  | .oth φ => ∃ o, H a = some o ∧ φ.rel F o
theorem MRel.mono {K : PySem.W.Frag} {F F' H H' : Hp} {a : Addr} (e : Ext F F') (h : H' a = H a) : ∀ {m : MO}, MRel K F H a m → MRel K F' H' a m
  | .lst _, ⟨xs, q, r⟩ => ⟨xs, by rw [h]; exact q, r.mono e⟩
  | .dic _, ⟨xs, q, r⟩ => ⟨xs, by rw [h]; exact q, r.mono e⟩
  | .ins _ _, ⟨dx, fs, q, r, n⟩ => ⟨dx, fs, by rw [h]; exact q, r.mono e, n⟩
  | .oth φ, ⟨o, q, r⟩ => ⟨o, by rw [h]; exact q, φ.mono _ _ _ e r⟩
theorem MRel.some {K : PySem.W.Frag} {F H : Hp} {a : Addr} : ∀ {m : MO}, MRel K F H a m → ∃ o, H a = some o
  | .lst _, ⟨_, q, _⟩ => ⟨_, q⟩
  | .dic _, ⟨_, q, _⟩ => ⟨_, q⟩
  | .ins _ _, ⟨_, _, q, _⟩ => ⟨_, q⟩
  | .oth _, ⟨o, q, _⟩ => ⟨o, q⟩
structure RelM (K : PySem.W.Frag) (Z F H : Hp) (M : MH) : Prop where
  sub : Ext F H
  hid : ∀ a o, Z a = some o → H a = some o ∧ F a = none ∧ M a = none
  chg : ∀ a m, M a = some m → F a = none ∧ MRel K F H a m
abbrev EnvD := List (Option Dat)
structure RelE (K : PySem.W.Frag) (F : Hp) (σ : L2.St) (ρ : EnvD) : Prop where
  len : σ.length = ρ.length
  at_ : ∀ (i : Nat) (d : Dat), ρ[i]? = some (some d) → ∃ v, σ[i]? = some (some v) ∧ Rep K F v d
structure Rel (K : PySem.W.Frag) (Z F H : Hp) (M : MH) (σ : L2.St) (ρ : EnvD) : Prop where
  m : RelM K Z F H M
  e : RelE K F σ ρ
section
variable {K : PySem.W.Frag} {Z F F' H H' : Hp} {M M' : MH} {σ : L2.St} {ρ : EnvD} {p a : Addr} {o : HO}
theorem RelE.mono (e : Ext F F') (r : RelE K F σ ρ) : RelE K F' σ ρ := ⟨r.len, fun i d h => by
  obtain ⟨v, q, g⟩ := r.at_ i d h
  exact ⟨v, q, g.mono e⟩⟩
theorem RelE.set {v : V} {d : Dat} (r : RelE K F σ ρ) (h : Rep K F v d) (i : Nat) : RelE K F (σ.set i (some v)) (ρ.set i (some d)) := ⟨by rw [List.length_set, List.length_set]; exact r.len, fun j x q => by
  by_cases e : i = j
  · subst e
    by_cases hi : i < ρ.length
    · rw [List.getElem?_set_self hi] at q
      cases q
      refine ⟨v, ?_, h⟩
      rw [List.getElem?_set_self (by rw [r.len]; exact hi)]
    · rw [List.getElem?_eq_none (by rw [List.length_set]; omega)] at q
      cases q
  · rw [List.getElem?_set_ne e] at q
    obtain ⟨w, q1, g⟩ := r.at_ j x q
    exact ⟨w, by rw [List.getElem?_set_ne e]; exact q1, g⟩⟩
/-- a slot is forgotten on both sides -/
theorem RelE.unset (r : RelE K F σ ρ) (i : Nat) : RelE K F (σ.set i none) (ρ.set i none) := ⟨by rw [List.length_set, List.length_set]; exact r.len, fun j x q => by
  by_cases e : i = j
  · subst e
    by_cases hi : i < ρ.length
    · rw [List.getElem?_set_self hi] at q
      cases q
    · rw [List.getElem?_eq_none (by rw [List.length_set]; omega)] at q
      cases q
  · rw [List.getElem?_set_ne e] at q
    obtain ⟨w, q1, g⟩ := r.at_ j x q
    exact ⟨w, by rw [List.getElem?_set_ne e]; exact q1, g⟩⟩
theorem RelM.fresh (r : RelM K Z F H M) (h : H p = none) : F p = none ∧ M p = none := by
  refine ⟨?_, ?_⟩
  · cases q : F p with
    | none => rfl
    | some u =>
      rw [r.sub p u q] at h
      cases h
  · cases q : M p with
    | none => rfl
    | some m =>
      obtain ⟨u, e⟩ := (r.chg p m q).2.some
      rw [h] at e
      cases e
theorem RelM.ne (r : RelM K Z F H M) (h : H p = none) {m : MO} (q : M a = some m) : a ≠ p := ne_dom q (r.fresh h).2
/-- a new object that never changes -/
theorem RelM.newF (r : RelM K Z F H M) (h : H p = none) : RelM K Z (upd F p o) (upd H p o) M ∧ Ext F (upd F p o) := by
  have e := Ext.new (o := o) (r.fresh h).1
  refine ⟨⟨fun b u q => ?_, fun b u q => ?_, fun b m q => ?_⟩, e⟩
  · by_cases hb : b = p
    · subst hb
      rw [upd_same] at q ⊢
      exact q
    · rw [upd_ne hb] at q ⊢
      exact r.sub b u q
  · obtain ⟨q1, q2, q3⟩ := r.hid b u q
    have hb : b ≠ p := ne_of_none q1 h
    exact ⟨by rw [upd_ne hb]; exact q1, by rw [upd_ne hb]; exact q2, q3⟩
  · obtain ⟨q1, q2⟩ := r.chg b m q
    have hb := r.ne h q
    exact ⟨by rw [upd_ne hb]; exact q1, q2.mono e (upd_ne hb)⟩
/-- a new object that is to change -/
theorem RelM.newM {m : MO} (r : RelM K Z F H M) (h : H p = none) (hm : MRel K F (upd H p o) p m) : RelM K Z F (upd H p o) (updM M p m) := by
  refine ⟨fun b u q => ?_, fun b u q => ?_, fun b n q => ?_⟩
  · have hb : b ≠ p := ne_of_none (r.sub b u q) h
    rw [upd_ne hb]
    exact r.sub b u q
  · obtain ⟨q1, q2, q3⟩ := r.hid b u q
    have hb : b ≠ p := ne_of_none q1 h
    exact ⟨by rw [upd_ne hb]; exact q1, q2, by rw [updM_ne hb]; exact q3⟩
  · by_cases hb : b = p
    · subst hb
      rw [updM_same] at q
      cases q
      exact ⟨(r.fresh h).1, hm⟩
    · rw [updM_ne hb] at q
      obtain ⟨q1, q2⟩ := r.chg b n q
      exact ⟨q1, q2.mono (Ext.refl _) (upd_ne hb)⟩
/-- an object that changes -/
theorem RelM.write {m m0 : MO} (r : RelM K Z F H M) (h : M p = some m0) (hm : MRel K F (upd H p o) p m) : RelM K Z F (upd H p o) (updM M p m) := by
  have hf := (r.chg p m0 h).1
  refine ⟨fun b u q => ?_, fun b u q => ?_, fun b n q => ?_⟩
  · have hb : b ≠ p := ne_of_none q hf
    rw [upd_ne hb]
    exact r.sub b u q
  · obtain ⟨q1, q2, q3⟩ := r.hid b u q
    have hb : b ≠ p := (ne_dom h q3).symm
    exact ⟨by rw [upd_ne hb]; exact q1, q2, by rw [updM_ne hb]; exact q3⟩
  · by_cases hb : b = p
    · subst hb
      rw [updM_same] at q
      cases q
      exact ⟨hf, hm⟩
    · rw [updM_ne hb] at q
      obtain ⟨q1, q2⟩ := r.chg b n q
      exact ⟨q1, q2.mono (Ext.refl _) (upd_ne hb)⟩
theorem LeM.none {M0 : MH} (l : LeM M0 M) (h : M a = none) : M0 a = none := by
  cases q : M0 a with
  | none => rfl
  | some m =>
    rw [l a m q] at h
    cases h
theorem RelM.le {M0 : MH} (r : RelM K Z F H M) (l : LeM M0 M) : RelM K Z F H M0 := ⟨r.sub, fun a o q => ⟨(r.hid a o q).1, (r.hid a o q).2.1, l.none (r.hid a o q).2.2⟩, fun a m q => r.chg a m (l a m q)⟩
/-- from now on it never changes -/
theorem RelM.frz {m : MO} (r : RelM K Z F H M) (h : M p = some m) (ho : H p = some o) : RelM K Z (upd F p o) H (delM M p) ∧ Ext F (upd F p o) := by
  have e := Ext.new (o := o) (r.chg p m h).1
  refine ⟨⟨fun b u q => ?_, fun b u q => ?_, fun b n q => ?_⟩, e⟩
  · by_cases hb : b = p
    · subst hb
      rw [upd_same] at q
      cases q
      exact ho
    · rw [upd_ne hb] at q
      exact r.sub b u q
  · obtain ⟨q1, q2, q3⟩ := r.hid b u q
    have hb : b ≠ p := (ne_dom h q3).symm
    exact ⟨q1, by rw [upd_ne hb]; exact q2, by rw [delM_ne hb]; exact q3⟩
  · by_cases hb : b = p
    · subst hb
      rw [delM_same] at q
      cases q
    · rw [delM_ne hb] at q
      obtain ⟨q1, q2⟩ := r.chg b n q
      exact ⟨by rw [upd_ne hb]; exact q1, q2.mono e rfl⟩
theorem Rel.ext (r : Rel K Z F H M σ ρ) (e : Ext F F') (m : RelM K Z F' H' M') : Rel K Z F' H' M' σ ρ := ⟨m, r.e.mono e⟩
end
/-! ### readings over data -/
abbrev VKD := Dat → MH → Prop
abbrev TED := EnvD → MH → VKD → Prop
abbrev TTD := EnvD → MH → (Bool → MH → Prop) → Prop
abbrev TAD := EnvD → MH → (List Dat → MH → Prop) → Prop
structure EndsD where
  nx : EnvD → MH → Prop
  rt : VKD
  bk : EnvD → MH → Prop := fun _ _ => False
  ct : EnvD → MH → Prop := fun _ _ => False
abbrev TSD := EndsD → EnvD → MH → Prop
abbrev TGD := Dat → EnvD → MH → (EnvD → MH → Prop) → Prop
section
variable (K : PySem.W.Frag)
/-- what is wanted by data, what is wanted by values -/
def OkV (Z F : Hp) (Q : VK) (QD : VKD) : Prop := ∀ v d F' H' M', Ext F F' → RelM K Z F' H' M' → Rep K F' v d → QD d M' → Q v H'
def OkB (Z F : Hp) (Q : Bool → Hp → Prop) (QD : Bool → MH → Prop) : Prop := ∀ b F' H' M', Ext F F' → RelM K Z F' H' M' → QD b M' → Q b H'
def OkA (Z F : Hp) (Q : List V → Hp → Prop) (QD : List Dat → MH → Prop) : Prop := ∀ vs ds F' H' M', Ext F F' → RelM K Z F' H' M' → Reps K F' vs ds → QD ds M' → Q vs H'
def OkN (Z F : Hp) (Q : L2.St → Hp → Prop) (QD : EnvD → MH → Prop) : Prop := ∀ σ' ρ' F' H' M', Ext F F' → Rel K Z F' H' M' σ' ρ' → QD ρ' M' → Q σ' H'
structure OkS (Z F : Hp) (D : Ends) (DD : EndsD) : Prop where
  nx : OkN K Z F D.nx DD.nx
  rt : OkV K Z F D.rt DD.rt
  bk : OkN K Z F D.bk DD.bk
  ct : OkN K Z F D.ct DD.ct
def up (d : TED) : TE := fun σ H Q => ∃ Z F M ρ QD, Rel K Z F H M σ ρ ∧ d ρ M QD ∧ OkV K Z F Q QD
def upT (d : TTD) : TT := fun σ H Q => ∃ Z F M ρ QD, Rel K Z F H M σ ρ ∧ d ρ M QD ∧ OkB K Z F Q QD
def upA (d : TAD) : TA := fun σ H Q => ∃ Z F M ρ QD, Rel K Z F H M σ ρ ∧ d ρ M QD ∧ OkA K Z F Q QD
def upS (d : TSD) : TS := fun D σ H => ∃ Z F M ρ DD, Rel K Z F H M σ ρ ∧ d DD ρ M ∧ OkS K Z F D DD
def upG (d : TGD) : TG := fun v σ H Q => ∃ Z F M ρ x QD, Rel K Z F H M σ ρ ∧ Rep K F v x ∧ d x ρ M QD ∧ OkN K Z F Q QD
end
section
variable {K : PySem.W.Frag} {Z F F' : Hp}
theorem OkV.mono {Q : VK} {QD : VKD} (o : OkV K Z F Q QD) (e : Ext F F') : OkV K Z F' Q QD := fun v d G H M x => o v d G H M (e.trans x)
theorem OkB.mono {Q : Bool → Hp → Prop} {QD : Bool → MH → Prop} (o : OkB K Z F Q QD) (e : Ext F F') : OkB K Z F' Q QD := fun b G H M x => o b G H M (e.trans x)
theorem OkA.mono {Q : List V → Hp → Prop} {QD : List Dat → MH → Prop} (o : OkA K Z F Q QD) (e : Ext F F') : OkA K Z F' Q QD := fun vs ds G H M x => o vs ds G H M (e.trans x)
theorem OkN.mono {Q : L2.St → Hp → Prop} {QD : EnvD → MH → Prop} (o : OkN K Z F Q QD) (e : Ext F F') : OkN K Z F' Q QD := fun s r G H M x => o s r G H M (e.trans x)
theorem OkS.mono {D : Ends} {DD : EndsD} (o : OkS K Z F D DD) (e : Ext F F') : OkS K Z F' D DD := ⟨o.nx.mono e, o.rt.mono e, o.bk.mono e, o.ct.mono e⟩
end
/-! ### judgements over data -/
abbrev DE (X : Cx) (e : Expr) (d : TED) : Prop := PE X e (up X.K d)
abbrev DT (X : Cx) (e : Expr) (d : TTD) : Prop := PT X e (upT X.K d)
abbrev DW (X : Cx) (e : Expr) (d : TTD) : Prop := PW X e (upT X.K d)
abbrev DA (X : Cx) (es : List Expr) (d : TAD) : Prop := PA X es (upA X.K d)
abbrev DS (X : Cx) (st : Stmt) (d : TSD) : Prop := PS X st (upS X.K d)
abbrev DSs (X : Cx) (st : List Stmt) (d : TSD) : Prop := PSs X st (upS X.K d)
abbrev DG (X : Cx) (tg : Expr) (d : TGD) : Prop := PG X tg (upG X.K d)
theorem pe_w {X : Cx} {e : Expr} {t u : TE} (h : PE X e t) (w : ∀ σ H Q, u σ H Q → t σ H Q) : PE X e u := ⟨fun pins s σ H Q I q => h.run pins s σ H Q I (w σ H Q q)⟩
theorem pt_w {X : Cx} {e : Expr} {t u : TT} (h : PT X e t) (w : ∀ σ H Q, u σ H Q → t σ H Q) : PT X e u := ⟨fun pins s σ H Q I q => h.run pins s σ H Q I (w σ H Q q)⟩
theorem pw_w {X : Cx} {e : Expr} {t u : TT} (h : PW X e t) (w : ∀ σ H Q, u σ H Q → t σ H Q) : PW X e u := ⟨fun wh pins s σ H Q I q => h.run wh pins s σ H Q I (w σ H Q q)⟩
theorem pa_w {X : Cx} {e : List Expr} {t u : TA} (h : PA X e t) (w : ∀ σ H Q, u σ H Q → t σ H Q) : PA X e u := ⟨fun pos pins s σ H Q I q => h.run pos pins s σ H Q I (w σ H Q q)⟩
theorem ps_w {X : Cx} {e : Stmt} {t u : TS} (h : PS X e t) (w : ∀ D σ H, u D σ H → t D σ H) : PS X e u := ⟨fun pins s σ H D I q => h.run pins s σ H D I (w D σ H q)⟩
theorem pss_w {X : Cx} {e : List Stmt} {t u : TS} (h : PSs X e t) (w : ∀ D σ H, u D σ H → t D σ H) : PSs X e u := ⟨fun pins s σ H D I q => h.run pins s σ H D I (w D σ H q)⟩
theorem pg_w {X : Cx} {e : Expr} {t u : TG} (h : PG X e t) (w : ∀ v σ H Q, u v σ H Q → t v σ H Q) : PG X e u := ⟨fun pins s σ H v x Q I r q => h.run pins s σ H v x Q I r (w v σ H Q q)⟩
/-! ### expressions -/
/-- the datum of a slot -/
def atD : EnvD → Nat → Option Dat
  | [], _ => none
  | x :: _, 0 => x
  | _ :: r, n + 1 => atD r n
theorem atD_get : ∀ {ρ : EnvD} {i : Nat} {d : Dat}, atD ρ i = some d → ρ[i]? = some (some d)
  | [], _, _, h => by cases h
  | x :: _, 0, _, h => by
    have e : x = some _ := h
    rw [e]
    rfl
  | _ :: r, n + 1, d, h => atD_get (ρ := r) (i := n) h
def setD : EnvD → Nat → Option Dat → EnvD
  | [], _, _ => []
  | _ :: r, 0, d => d :: r
  | x :: r, n + 1, d => x :: setD r n d
theorem setD_set : ∀ (ρ : EnvD) (i : Nat) (d : Option Dat), setD ρ i d = ρ.set i d
  | [], _, _ => rfl
  | _ :: _, 0, _ => rfl
  | x :: r, n + 1, d => congrArg (List.cons x) (setD_set r n d)
def dVar (i : Nat) : TED := fun ρ M Q => match atD ρ i with
  | some d => Q d M
  | none => False
def dC (d : Dat) : TED := fun _ M Q => Q d M
section
variable {X : Cx} {e a b c : Expr} {es : List Expr} {pos : Pos} {da db dc de : TED} {dA : TAD} {ta tb tc : TTD}
theorem dv (i : Nat) {x : Str} (hN : X.N[i]? = some x := by rfl) (hv : Vis X.env.scope x := by first | exact Or.inl rfl | exact Or.inr (Or.inl rfl) | exact Or.inr (Or.inr rfl)) (hd : (x == ("__debug__" : Str)) = false := by decide)
    (hcd : (x == ("__classdict__" : Str)) = false := by decide) : DE X (.Name x pos) (dVar i) := pe_w (pe_var hN hv hd hcd) fun σ H Q ⟨Z, F, M, ρ, QD, R, h, o⟩ => by
  unfold dVar at h
  split at h
  · rename_i d e
    obtain ⟨v, q, r⟩ := R.e.at_ i d (atD_get e)
    exact ⟨v, q, o v d F H M (Ext.refl F) R.m r h⟩
  · exact h.elim
/-- a constant, a class, a def: a value that is known -/
theorem de_c {v : V} {d : Dat} (h : PE X e (tC v)) (r : ∀ F, Rep X.K F v d) : DE X e (dC d) := pe_w h fun σ H Q ⟨Z, F, M, ρ, QD, R, h, o⟩ => o v d F H M (Ext.refl F) R.m (r F) h
theorem de_int {i j} : DE X (.Constant (.int i) j pos) (dC (.int i)) := de_c pe_int fun _ => .int i
theorem de_bl {b j} : DE X (.Constant (.bool b) j pos) (dC (.bl b)) := de_c pe_bl fun _ => .bl b
theorem de_non {j} : DE X (.Constant .none j pos) (dC .non) := de_c pe_non fun _ => .non
theorem de_str {x j} : DE X (.Constant (.str x) j pos) (dC (.str x)) := de_c pe_str fun _ => .str x
/-! ### operators by values -/
abbrev R2D := Dat → Dat → MH → VKD → Prop
def SimO (K : PySem.W.Frag) (r : R2) (d : R2D) : Prop := ∀ Z F H M x y a b Q QD, RelM K Z F H M → Rep K F x a → Rep K F y b → d a b M QD → OkV K Z F Q QD → r x y H Q
def OpD (X : Cx) (f : Value → Value → Sem Value) (d : R2D) : Prop := ∃ r, OpR X f r ∧ SimO X.K r d
def dOp (r : R2D) (da db : TED) : TED := fun ρ M Q => da ρ M fun x M1 => db ρ M1 fun y M2 => r x y M2 Q
theorem up_bin {K : PySem.W.Frag} {r : R2} {d : R2D} (hs : SimO K r d) {σ : L2.St} {H : Hp} {Q : VK} (h : up K (dOp d da db) σ H Q) : tOp r (up K da) (up K db) σ H Q := by
  obtain ⟨Z, F, M, ρ, QD, R, h, o⟩ := h
  refine ⟨Z, F, M, ρ, _, R, h, fun x a F1 H1 M1 e1 R1 r1 h1 => ?_⟩
  refine ⟨Z, F1, M1, ρ, _, R.ext e1 R1, h1, fun y b F2 H2 M2 e2 R2 r2 h2 => ?_⟩
  exact hs Z F2 H2 M2 x y a b Q QD R2 (r1.mono e2) r2 h2 (o.mono (e1.trans e2))
theorem de_op {op : Operator} {d : R2D} (ho : OpD X (binaryOp op) d) (ha : DE X a da) (hb : DE X b db) : DE X (.BinOp a op b pos) (dOp d da db) := by
  obtain ⟨r, hr, hs⟩ := ho
  exact pe_w (pe_op hr ha hb) fun σ H Q h => up_bin hs h
/-- a comparison -/
theorem de_cmp {op : CmpOp} {d : R2D} (ho : OpD X (compareOp op) d) (ha : DE X a da) (hb : DE X b db) (hm : behindInMarks op b = false := by first | exact nomark _ | with_unfolding_all rfl) : DE X (.Compare a [op] [b] pos) (dOp d da db) := by
  obtain ⟨r, hr, hs⟩ := ho
  exact pe_w (pe_cmpR hr ha hb hm) fun σ H Q h => up_bin hs h
/-- a value as a test -/
def dTest (d : TED) : TTD := fun ρ M Q => d ρ M fun x M1 => match x with
  | .bl b => Q b M1
  | _ => False
theorem up_test {K : PySem.W.Frag} {d : TED} {σ : L2.St} {H : Hp} {Q : Bool → Hp → Prop} (h : upT K (dTest d) σ H Q) : up K d σ H (fun x H1 => ∃ k, x = .bl k ∧ Q k H1) := by
  obtain ⟨Z, F, M, ρ, QD, R, h, o⟩ := h
  refine ⟨Z, F, M, ρ, _, R, h, fun x a F1 H1 M1 e1 R1 r1 h1 => ?_⟩
  split at h1
  · rename_i b
    exact ⟨b, r1.toBl, o b F1 H1 M1 e1 R1 h1⟩
  · exact h1.elim
theorem dt_cmp {op : CmpOp} {d : R2D} (ho : OpD X (compareOp op) d) (ha : DE X a da) (hb : DE X b db) (hm : behindInMarks op b = false := by first | exact nomark _ | with_unfolding_all rfl) : DT X (.Compare a [op] [b] pos) (dTest (dOp d da db)) := by
  obtain ⟨r, hr, hs⟩ := ho
  refine pt_w (pt_cmpR hr ha hb hm) fun σ H Q h => ?_
  obtain ⟨Z, F, M, ρ, QD, R, h1, h2⟩ := up_test h
  exact up_bin hs ⟨Z, F, M, ρ, QD, R, h1, h2⟩
theorem dt_val (h : DE X e de) (he : ∀ whole, isTrue e X.env whole = (do let v ← whole; standAt e.pos; holding [v] (truthy v)) := by intro _; rfl) : DT X e (dTest de) :=
  pt_w (pt_val h he) fun σ H Q h => up_test h
/-- a op1 b op2 c -/
def dChain (r r' : R2D) (da db dc : TED) : TED := fun ρ M Q => da ρ M fun x M1 => db ρ M1 fun y M2 => r x y M2 fun z M3 => match z with
  | .bl k => if k = true then dc ρ M3 fun w M4 => r' y w M4 Q else Q (.bl false) M3
  | _ => False
theorem up_chain {K : PySem.W.Frag} {r r' : R2} {d d' : R2D} (hs : SimO K r d) (hs' : SimO K r' d') {σ : L2.St} {H : Hp} {Q : VK} (h : up K (dChain d d' da db dc) σ H Q) : tChain r r' (up K da) (up K db) (up K dc) σ H Q := by
  obtain ⟨Z, F, M, ρ, QD, R, h, o⟩ := h
  refine ⟨Z, F, M, ρ, _, R, h, fun x a F1 H1 M1 e1 R1 r1 h1 => ?_⟩
  refine ⟨Z, F1, M1, ρ, _, R.ext e1 R1, h1, fun y b F2 H2 M2 e2 R2 r2 h2 => ?_⟩
  refine hs Z F2 H2 M2 x y a b _ _ R2 (r1.mono e2) r2 h2 fun z k F3 H3 M3 e3 R3 r3 h3 => ?_
  split at h3
  · rename_i k
    refine ⟨k, r3.toBl, ?_⟩
    cases k with
    | true =>
      rw [if_pos rfl] at h3 ⊢
      have R3' := R.ext ((e1.trans e2).trans e3) R3
      refine ⟨Z, F3, M3, ρ, _, R3', h3, fun w c F4 H4 M4 e4 R4 r4 h4 => ?_⟩
      exact hs' Z F4 H4 M4 y w b c Q QD R4 (r2.mono (e3.trans e4)) r4 h4 (o.mono (((e1.trans e2).trans e3).trans e4))
    | false =>
      rw [if_neg Bool.false_ne_true] at h3 ⊢
      exact o _ _ F3 H3 M3 ((e1.trans e2).trans e3) R3 (.bl false) h3
  · exact h3.elim
theorem de_chain {op op' : CmpOp} {d d' : R2D} (ho : OpD X (compareOp op) d) (ho' : OpD X (compareOp op') d') (ha : DE X a da) (hb : DE X b db) (hc : DE X c dc)
    (hm : lastMarks [op, op'] [b, c] = false := by with_unfolding_all rfl) : DE X (.Compare a [op, op'] [b, c] pos) (dChain d d' da db dc) := by
  obtain ⟨r, hr, hs⟩ := ho
  obtain ⟨r', hr', hs'⟩ := ho'
  exact pe_w (pe_chain hr hr' ha hb hc hm) fun σ H Q h => up_chain hs hs' h
theorem dt_chain {op op' : CmpOp} {d d' : R2D} (ho : OpD X (compareOp op) d) (ho' : OpD X (compareOp op') d') (ha : DE X a da) (hb : DE X b db) (hc : DE X c dc)
    (hm : lastMarks [op, op'] [b, c] = false := by with_unfolding_all rfl) : DT X (.Compare a [op, op'] [b, c] pos) (dTest (dChain d d' da db dc)) := by
  obtain ⟨r, hr, hs⟩ := ho
  obtain ⟨r', hr', hs'⟩ := ho'
  refine pt_w (pt_chain hr hr' ha hb hc hm) fun σ H Q h => ?_
  obtain ⟨Z, F, M, ρ, QD, R, h1, h2⟩ := up_test h
  exact up_chain hs hs' ⟨Z, F, M, ρ, QD, R, h1, h2⟩
/-- and, or, not of tests -/
def dAnd (t u : TTD) : TTD := fun ρ M Q => t ρ M fun b M1 => if b = true then u ρ M1 Q else Q false M1
def dOr (t u : TTD) : TTD := fun ρ M Q => t ρ M fun b M1 => if b = true then Q true M1 else u ρ M1 Q
def dNot (t : TTD) : TTD := fun ρ M Q => t ρ M fun b M1 => Q (!b) M1
variable {rest : List Expr}
theorem dw_and1 (ha : DT X a ta) : DW X (.BoolOp .And [a] pos) ta := pw_and1 ha
theorem dw_or1 (ha : DT X a ta) : DW X (.BoolOp .Or [a] pos) ta := pw_or1 ha
theorem dw_and (ha : DT X a ta) (hb : DW X (.BoolOp .And (b :: rest) pos) tb) : DW X (.BoolOp .And (a :: b :: rest) pos) (dAnd ta tb) := pw_w (pw_and ha hb) fun σ H Q ⟨Z, F, M, ρ, QD, R, h, o⟩ => by
  refine ⟨Z, F, M, ρ, _, R, h, fun k F1 H1 M1 e1 R1 h1 => ?_⟩
  cases k with
  | true =>
    rw [if_pos rfl] at h1 ⊢
    exact ⟨Z, F1, M1, ρ, QD, R.ext e1 R1, h1, o.mono e1⟩
  | false =>
    rw [if_neg Bool.false_ne_true] at h1 ⊢
    exact o false F1 H1 M1 e1 R1 h1
theorem dw_or (ha : DT X a ta) (hb : DW X (.BoolOp .Or (b :: rest) pos) tb) : DW X (.BoolOp .Or (a :: b :: rest) pos) (dOr ta tb) := pw_w (pw_or ha hb) fun σ H Q ⟨Z, F, M, ρ, QD, R, h, o⟩ => by
  refine ⟨Z, F, M, ρ, _, R, h, fun k F1 H1 M1 e1 R1 h1 => ?_⟩
  cases k with
  | true =>
    rw [if_pos rfl] at h1 ⊢
    exact o true F1 H1 M1 e1 R1 h1
  | false =>
    rw [if_neg Bool.false_ne_true] at h1 ⊢
    exact ⟨Z, F1, M1, ρ, QD, R.ext e1 R1, h1, o.mono e1⟩
theorem dt_w (h : DW X e ta) : DT X e ta := PW.pt h
theorem dt_not (ha : DT X a ta) : DT X (.UnaryOp .Not a pos) (dNot ta) := pt_w (pt_not ha) fun σ H Q ⟨Z, F, M, ρ, QD, R, h, o⟩ =>
  ⟨Z, F, M, ρ, _, R, h, fun k F1 H1 M1 e1 R1 h1 => o _ F1 H1 M1 e1 R1 h1⟩
/-- .. as values (bools) -/
def dAndV (da db : TED) : TED := fun ρ M Q => da ρ M fun x M1 => match x with
  | .bl k => if k = true then db ρ M1 Q else Q (.bl false) M1
  | _ => False
def dOrV (da db : TED) : TED := fun ρ M Q => da ρ M fun x M1 => match x with
  | .bl k => if k = true then Q (.bl true) M1 else db ρ M1 Q
  | _ => False
def dNotV (da : TED) : TED := fun ρ M Q => da ρ M fun x M1 => match x with
  | .bl k => Q (.bl (!k)) M1
  | _ => False
theorem de_one {op} (h : DE X a da) : DE X (.BoolOp op [a] pos) da := pe_one h
theorem de_and (ha : DE X a da) (hb : DE X (.BoolOp .And (b :: rest) pos) db) : DE X (.BoolOp .And (a :: b :: rest) pos) (dAndV da db) := pe_w (pe_and ha hb) fun σ H Q ⟨Z, F, M, ρ, QD, R, h, o⟩ => by
  refine ⟨Z, F, M, ρ, _, R, h, fun x a F1 H1 M1 e1 R1 r1 h1 => ?_⟩
  split at h1
  · rename_i k
    refine ⟨k, r1.toBl, ?_⟩
    cases k with
    | true =>
      rw [if_pos rfl] at h1 ⊢
      exact ⟨Z, F1, M1, ρ, QD, R.ext e1 R1, h1, o.mono e1⟩
    | false =>
      rw [if_neg Bool.false_ne_true] at h1 ⊢
      exact o _ _ F1 H1 M1 e1 R1 (.bl false) h1
  · exact h1.elim
theorem de_or (ha : DE X a da) (hb : DE X (.BoolOp .Or (b :: rest) pos) db) : DE X (.BoolOp .Or (a :: b :: rest) pos) (dOrV da db) := pe_w (pe_or ha hb) fun σ H Q ⟨Z, F, M, ρ, QD, R, h, o⟩ => by
  refine ⟨Z, F, M, ρ, _, R, h, fun x a F1 H1 M1 e1 R1 r1 h1 => ?_⟩
  split at h1
  · rename_i k
    refine ⟨k, r1.toBl, ?_⟩
    cases k with
    | true =>
      rw [if_pos rfl] at h1 ⊢
      exact o _ _ F1 H1 M1 e1 R1 (.bl true) h1
    | false =>
      rw [if_neg Bool.false_ne_true] at h1 ⊢
      exact ⟨Z, F1, M1, ρ, QD, R.ext e1 R1, h1, o.mono e1⟩
  · exact h1.elim
theorem de_not (ha : DE X a da) : DE X (.UnaryOp .Not a pos) (dNotV da) := pe_w (pe_not ha) fun σ H Q ⟨Z, F, M, ρ, QD, R, h, o⟩ => by
  refine ⟨Z, F, M, ρ, _, R, h, fun x a F1 H1 M1 e1 R1 r1 h1 => ?_⟩
  split at h1
  · rename_i k
    exact ⟨k, r1.toBl, o _ _ F1 H1 M1 e1 R1 (.bl _) h1⟩
  · exact h1.elim
/-- a if t else b -/
def dIf (t : TTD) (da db : TED) : TED := fun ρ M Q => t ρ M fun k M1 => if k = true then da ρ M1 Q else db ρ M1 Q
theorem de_if (hc : DT X c tc) (ha : DE X a da) (hb : DE X b db) : DE X (.IfExp c a b pos) (dIf tc da db) := pe_w (pe_ifExp hc ha hb) fun σ H Q ⟨Z, F, M, ρ, QD, R, h, o⟩ => by
  refine ⟨Z, F, M, ρ, _, R, h, fun k F1 H1 M1 e1 R1 h1 => ?_⟩
  cases k with
  | true =>
    rw [if_pos rfl] at h1 ⊢
    exact ⟨Z, F1, M1, ρ, QD, R.ext e1 R1, h1, o.mono e1⟩
  | false =>
    rw [if_neg Bool.false_ne_true] at h1 ⊢
    exact ⟨Z, F1, M1, ρ, QD, R.ext e1 R1, h1, o.mono e1⟩
/-- one value -/
def SimU (K : PySem.W.Frag) (r : V → Hp → VK → Prop) (d : Dat → MH → VKD → Prop) : Prop := ∀ Z F H M x a Q QD, RelM K Z F H M → Rep K F x a → d a M QD → OkV K Z F Q QD → r x H Q
def dUn (r : Dat → MH → VKD → Prop) (da : TED) : TED := fun ρ M Q => da ρ M fun x M1 => r x M1 Q
theorem up_un {K : PySem.W.Frag} {r : V → Hp → VK → Prop} {d : Dat → MH → VKD → Prop} (hs : SimU K r d) {σ : L2.St} {H : Hp} {Q : VK} (h : up K (dUn d da) σ H Q) : tUn r (up K da) σ H Q := by
  obtain ⟨Z, F, M, ρ, QD, R, h, o⟩ := h
  refine ⟨Z, F, M, ρ, _, R, h, fun x a F1 H1 M1 e1 R1 r1 h1 => ?_⟩
  exact hs Z F1 H1 M1 x a Q QD R1 r1 h1 (o.mono e1)
def dNeg : Dat → MH → VKD → Prop := fun x M Q => match x with
  | .int i => Q (.int (-i)) M
  | _ => False
theorem de_neg (ha : DE X a da) : DE X (.UnaryOp .USub a pos) (dUn dNeg da) := pe_w (pe_un un_neg ha) fun σ H Q h => up_un (fun Z F H M x a Q QD R r h o => by
  unfold dNeg at h
  split at h
  · exact ⟨_, r.toInt, o _ _ F H M (Ext.refl F) R (.int _) h⟩
  · exact h.elim) h
/-! ### arguments, displays -/
def dNil : TAD := fun _ M Q => Q [] M
def dCons (da : TED) (dr : TAD) : TAD := fun ρ M Q => da ρ M fun x M1 => dr ρ M1 fun xs M2 => Q (x :: xs) M2
theorem da_nil : DA X [] dNil := pa_w pa_nil fun σ H Q ⟨Z, F, M, ρ, QD, R, h, o⟩ => o [] [] F H M (Ext.refl F) R.m .nil h
theorem da_cons {dr : TAD} (ha : DE X e de) (hr : DA X es dr) (hs : starEach (e :: es) X.env = (false, eval e X.env) :: starEach es X.env := by rfl) : DA X (e :: es) (dCons de dr) := pa_w (pa_cons ha hr hs) fun σ H Q ⟨Z, F, M, ρ, QD, R, h, o⟩ => by
  refine ⟨Z, F, M, ρ, _, R, h, fun x a F1 H1 M1 e1 R1 r1 h1 => ?_⟩
  refine ⟨Z, F1, M1, ρ, _, R.ext e1 R1, h1, fun xs as F2 H2 M2 e2 R2 r2 h2 => ?_⟩
  exact o _ _ F2 H2 M2 (e1.trans e2) R2 (.cons (r1.mono e2) r2) h2
/-- a new list: one that never changes, or one that is to change -/
def newL (mk : Bool) (ds : List Dat) (M : MH) (Q : VKD) : Prop := match mk with
  | false => Q (.lst ds) M
  | true => ∀ a, M a = none → Q (.ref a) (updM M a (.lst ds))
theorem sim_new {K : PySem.W.Frag} {Z F H : Hp} {M : MH} {xs : List V} {ds : List Dat} {Q : VK} {QD : VKD} {mk : Bool} (R : RelM K Z F H M) (r : Reps K F xs ds) (h : newL mk ds M QD) (o : OkV K Z F Q QD) {p : Addr} (hp : H p = none) : Q (.ref p) (upd H p (.lst xs)) := by
  cases mk with
  | false =>
    obtain ⟨R2, e2⟩ := R.newF (o := .lst xs) hp
    exact o _ _ _ _ M e2 R2 (.lst upd_same (r.mono e2)) h
  | true =>
    have R2 := R.newM (o := .lst xs) (m := .lst ds) hp ⟨xs, upd_same, r⟩
    exact o _ _ F _ _ (Ext.refl F) R2 (.ref p) (h p (R.fresh hp).2)
def dTup (dA : TAD) : TED := fun ρ M Q => dA ρ M fun xs M1 => xs.length ≤ sizeLine ∧ Q (.tup xs) M1
def dLst (mk : Bool) (dA : TAD) : TED := fun ρ M Q => dA ρ M fun xs M1 => xs.length ≤ sizeLine ∧ newL mk xs M1 Q
theorem de_tup {x1} (h : DA X es dA) : DE X (.Tuple es x1 pos) (dTup dA) := pe_w (pe_tup h) fun σ H Q ⟨Z, F, M, ρ, QD, R, h, o⟩ => by
  refine ⟨Z, F, M, ρ, _, R, h, fun xs as F1 H1 M1 e1 R1 r1 h1 => ?_⟩
  refine ⟨by rw [r1.length]; exact h1.1, fun p hp => ?_⟩
  obtain ⟨R2, e2⟩ := R1.newF (o := .tup xs) hp
  exact o _ _ _ _ M1 (e1.trans e2) R2 (.tup (SqT.of upd_same) (r1.mono e2)) h1.2
theorem de_lst (mk : Bool) (h : DA X es dA) : DE X (.List es pos) (dLst mk dA) := pe_w (pe_lst h) fun σ H Q ⟨Z, F, M, ρ, QD, R, h, o⟩ => by
  refine ⟨Z, F, M, ρ, _, R, h, fun xs as F1 H1 M1 e1 R1 r1 h1 => ?_⟩
  exact ⟨by rw [r1.length]; exact h1.1, fun p hp => sim_new R1 r1 h1.2 (o.mono e1) hp⟩
end
end DL
namespace DL
open PySem PySem.Spec PyProof.Rows L2
/-! ### lists as they stand -/
/-- a list that may be read and joined -/
def lsT (M : MH) : Dat → Option (List Dat)
  | .lst ds => some ds
  | .ref a => match M a with
    | some (.lst ds) => some ds
    | _ => none
  | _ => none
/-- a list that may be read -/
def lsR (M : MH) : Dat → Option (List Dat)
  | .lst ds => some ds
  | .frl ds => some ds
  | .ref a => match M a with
    | some (.lst ds) => some ds
    | _ => none
  | _ => none
section
variable {K : PySem.W.Frag} {Z F H : Hp} {M : MH} {x : V} {a : Dat} {ds : List Dat}
theorem lsT_rep (R : RelM K Z F H M) (r : Rep K F x a) (h : lsT M a = some ds) : ∃ p xs, x = .ref p ∧ H p = some (.lst xs) ∧ Reps K F xs ds := by
  unfold lsT at h
  split at h
  · cases h
    cases r with
    | lst q r => exact ⟨_, _, rfl, R.sub _ _ q, r⟩
  · rename_i p
    split at h
    · rename_i e
      cases h
      cases r
      obtain ⟨xs, q, r⟩ := (R.chg p _ e).2
      exact ⟨_, xs, rfl, q, r⟩
    · cases h
  · cases h
theorem lsR_rep (R : RelM K Z F H M) (r : Rep K F x a) (h : lsR M a = some ds) : ∃ p xs, x = .ref p ∧ SqL K H p xs ∧ Reps K F xs ds := by
  unfold lsR at h
  split at h
  · cases h
    cases r with
    | lst q r => exact ⟨_, _, rfl, SqL.of (R.sub _ _ q), r⟩
  · cases h
    cases r with
    | frl q r => exact ⟨_, _, rfl, ext_l R.sub q, r⟩
  · rename_i p
    split at h
    · rename_i e
      cases h
      cases r
      obtain ⟨xs, q, r⟩ := (R.chg p _ e).2
      exact ⟨_, xs, rfl, SqL.of q, r⟩
    · cases h
  · cases h
theorem lsR_lst : lsR M (.lst ds) = some ds := rfl
theorem lsR_frl : lsR M (.frl ds) = some ds := rfl
theorem lsT_lst : lsT M (.lst ds) = some ds := rfl
theorem lsR_ref {p : Addr} (h : M p = some (.lst ds)) : lsR M (.ref p) = some ds := by
  simp only [lsR, h]
theorem lsT_ref {p : Addr} (h : M p = some (.lst ds)) : lsT M (.ref p) = some ds := by
  simp only [lsT, h]
end
/-! ### arithmetic -/
section
variable {X : Cx}
/-- ints alone, by an operator's rule -/
theorem opd_int {f : Value → Value → Sem Value} {C : Int → Int → Prop} {g : Int → Int → V} {gD : Int → Int → Dat} (h : OpR X f (rI C g)) (hg : ∀ F i j, Rep X.K F (g i j) (gD i j)) :
    OpD X f (fun x y M Q => match x with
      | .int i => (match y with
        | .int j => C i j ∧ Q (gD i j) M
        | _ => False)
      | _ => False) := ⟨_, h, fun Z F H M x y a b Q QD R ra rb hd o => by
  dsimp only at hd
  split at hd
  · split at hd
    · exact ⟨_, _, ra.toInt, rb.toInt, hd.1, o _ _ F H M (Ext.refl F) R (hg F _ _) hd.2⟩
    · exact hd.elim
  · exact hd.elim⟩
theorem opd_int0 {f : Value → Value → Sem Value} {g : Int → Int → V} {gD : Int → Int → Dat} (h : OpR X f (rI0 g)) (hg : ∀ F i j, Rep X.K F (g i j) (gD i j)) :
    OpD X f (fun x y M Q => match x with
      | .int i => (match y with
        | .int j => Q (gD i j) M
        | _ => False)
      | _ => False) := ⟨_, h, fun Z F H M x y a b Q QD R ra rb hd o => by
  dsimp only at hd
  split at hd
  · split at hd
    · exact ⟨_, _, ra.toInt, rb.toInt, o _ _ F H M (Ext.refl F) R (hg F _ _) hd⟩
    · exact hd.elim
  · exact hd.elim⟩
def rSub : R2D := fun x y M Q => match x with
  | .int i => (match y with
    | .int j => Q (.int (i - j)) M
    | _ => False)
  | _ => False
theorem od_sub : OpD X (binaryOp .Sub) rSub := opd_int0 op_sub fun F i j => .int _
/-- floor division: the divisor is not 0, and C divides by itself -/
def DivOk (i j : Int) : Prop := j ≠ 0 ∧ Builtin.divisionGoesByPylong i j = false
theorem op_fdivG : OpR X (binaryOp .FloorDiv) (rI DivOk fun i j => .int (i.fdiv j)) := opI fun _ _ _ _ _ _ _ hc q => floordiv_int hc.1 q (.inl hc.2)
def rDiv : R2D := fun x y M Q => match x with
  | .int i => (match y with
    | .int j => DivOk i j ∧ Q (.int (i.fdiv j)) M
    | _ => False)
  | _ => False
theorem od_div : OpD X (binaryOp .FloorDiv) rDiv := opd_int op_fdivG fun F i j => .int _
def rMod : R2D := fun x y M Q => match x with
  | .int i => (match y with
    | .int j => j ≠ 0 ∧ Q (.int (i.fmod j)) M
    | _ => False)
  | _ => False
theorem od_mod : OpD X (binaryOp .Mod) rMod := opd_int op_modN fun F i j => .int _
def PowOk (i j : Int) : Prop := 0 ≤ j ∧ (Builtin.Int.intBits i : Int) * j ≤ 2 ^ 27
theorem op_powG : OpR X (binaryOp .Pow) (rI PowOk fun i j => .int (i ^ j.toNat)) := opI fun _ _ _ _ _ _ _ hc q => pow_int hc.1 hc.2 q
def rPow : R2D := fun x y M Q => match x with
  | .int i => (match y with
    | .int j => PowOk i j ∧ Q (.int (i ^ j.toNat)) M
    | _ => False)
  | _ => False
theorem od_pow : OpD X (binaryOp .Pow) rPow := opd_int op_powG fun F i j => .int _
def rShl : R2D := fun x y M Q => match x with
  | .int i => (match y with
    | .int j => CShl i j ∧ Q (.int (i * 2 ^ j.toNat)) M
    | _ => False)
  | _ => False
theorem od_shl : OpD X (binaryOp .LShift) rShl := opd_int op_shlW fun F i j => .int _
def rShr : R2D := fun x y M Q => match x with
  | .int i => (match y with
    | .int j => 0 ≤ j ∧ Q (.int (i / 2 ^ j.toNat)) M
    | _ => False)
  | _ => False
theorem od_shr : OpD X (binaryOp .RShift) rShr := opd_int op_shr fun F i j => .int _
def rAnd : R2D := fun x y M Q => match x with
  | .int i => (match y with
    | .int j => Q (.int (Builtin.bitAnd i j)) M
    | _ => False)
  | _ => False
theorem od_and : OpD X (binaryOp .BitAnd) rAnd := opd_int0 op_and fun F i j => .int _
def rOr : R2D := fun x y M Q => match x with
  | .int i => (match y with
    | .int j => Q (.int (Builtin.bitOr i j)) M
    | _ => False)
  | _ => False
theorem od_or : OpD X (binaryOp .BitOr) rOr := opd_int0 op_or fun F i j => .int _
def rXor : R2D := fun x y M Q => match x with
  | .int i => (match y with
    | .int j => Q (.int (Builtin.bitXor i j)) M
    | _ => False)
  | _ => False
theorem od_xor : OpD X (binaryOp .BitXor) rXor := opd_int0 op_xor fun F i j => .int _
def rLt : R2D := fun x y M Q => match x with
  | .int i => (match y with
    | .int j => Q (.bl (decide (i < j))) M
    | _ => False)
  | _ => False
theorem od_lt : OpD X (compareOp .Lt) rLt := opd_int0 op_lt fun F i j => .bl _
def rLe : R2D := fun x y M Q => match x with
  | .int i => (match y with
    | .int j => Q (.bl (decide (i ≤ j))) M
    | _ => False)
  | _ => False
theorem od_le : OpD X (compareOp .LtE) rLe := opd_int0 op_le fun F i j => .bl _
def rGt : R2D := fun x y M Q => match x with
  | .int i => (match y with
    | .int j => Q (.bl (decide (j < i))) M
    | _ => False)
  | _ => False
theorem od_gt : OpD X (compareOp .Gt) rGt := opd_int0 op_gt fun F i j => .bl _
def rGe : R2D := fun x y M Q => match x with
  | .int i => (match y with
    | .int j => Q (.bl (decide (j ≤ i))) M
    | _ => False)
  | _ => False
theorem od_ge : OpD X (compareOp .GtE) rGe := opd_int0 op_ge fun F i j => .bl _
/-- +: ints, texts, tuples, lists -/
def rAdd (mk : Bool) : R2D := fun x y M Q => match x with
  | .int i => (match y with
    | .int j => Q (.int (i + j)) M
    | _ => False)
  | .str i => (match y with
    | .str j => i.length + j.length ≤ sizeLine ∧ Q (.str (i ++ j)) M
    | _ => False)
  | .tup i => (match y with
    | .tup j => i ≠ [] ∧ j ≠ [] ∧ i.length + j.length ≤ sizeLine ∧ Q (.tup (i ++ j)) M
    | _ => False)
  | x => ∃ i j, lsT M x = some i ∧ lsT M y = some j ∧ i.length + j.length ≤ sizeLine ∧ newL mk (i ++ j) M Q
theorem reps_ne {K : PySem.W.Frag} {F : Hp} {vs : List V} {ds : List Dat} (r : Reps K F vs ds) (h : ds ≠ []) : vs ≠ [] := fun e => by
  subst e
  cases r
  exact h rfl
theorem od_add (mk : Bool) : OpD X (binaryOp .Add) (rAdd mk) := ⟨_, OpR.or op_add (OpR.or op_add_str (OpR.or op_catT op_cat)), fun Z F H M x y a b Q QD R ra rb hd o => by
  unfold rAdd at hd
  split at hd
  · split at hd
    · exact .inl ⟨_, _, ra.toInt, rb.toInt, o _ _ F H M (Ext.refl F) R (.int _) hd⟩
    · exact hd.elim
  · split at hd
    · exact .inr (.inl ⟨_, _, ra.toStr, rb.toStr, hd.1, o _ _ F H M (Ext.refl F) R (.str _) hd.2⟩)
    · exact hd.elim
  · split at hd
    · obtain ⟨h1, h2, h3, h4⟩ := hd
      cases ra with
      | tup q1 r1 =>
        cases rb with
        | tup q2 r2 =>
          have hne := reps_ne r1 h1
          have hne2 := reps_ne r2 h2
          refine .inr (.inr (.inl ⟨_, _, _, _, rfl, rfl, ext_t R.sub q1, ext_t R.sub q2, hne, by rw [r1.length, r2.length]; exact h3, ?_⟩))
          refine ⟨fun e => absurd e hne2, fun _ p hp => ?_⟩
          obtain ⟨R2, e2⟩ := R.newF (o := .tup _) hp
          exact o _ _ _ _ M e2 R2 (.tup (SqT.of upd_same) ((r1.app r2).mono e2)) h4
    · exact hd.elim
  · obtain ⟨i, j, h1, h2, h3, h4⟩ := hd
    obtain ⟨p, xs, rfl, q1, r1⟩ := lsT_rep R ra h1
    obtain ⟨p2, ys, rfl, q2, r2⟩ := lsT_rep R rb h2
    exact .inr (.inr (.inr ⟨_, _, _, _, rfl, rfl, q1, q2, by rw [r1.length, r2.length]; exact h3, fun p hp => sim_new R (r1.app r2) h4 o hp⟩))⟩
theorem Reps.rep {K : PySem.W.Frag} {F : Hp} {vs : List V} {ds : List Dat} (r : Reps K F vs ds) : ∀ n : Nat, Reps K F (List.replicate n vs).flatten (List.replicate n ds).flatten
  | 0 => .nil
  | n + 1 => by
    rw [List.replicate_succ, List.replicate_succ, List.flatten_cons, List.flatten_cons]
    exact r.app (Reps.rep r n)
/-- *: ints, a list times an int -/
def rMul (mk : Bool) : R2D := fun x y M Q => match x with
  | .int i => (match y with
    | .int j => IntMulOk i j ∧ Q (.int (i * j)) M
    | _ => False)
  | x => ∃ ds k, lsT M x = some ds ∧ y = .int k ∧ -(2 ^ 63) ≤ k ∧ k < 2 ^ 63 ∧ ds.length * k.toNat ≤ sizeLine ∧ newL mk (List.replicate k.toNat ds).flatten M Q
theorem op_mulG : OpR X (binaryOp .Mult) (rI IntMulOk fun i j => .int (i * j)) := opI fun _ _ _ _ _ _ _ hc q => mul_int q hc
theorem od_mul (mk : Bool) : OpD X (binaryOp .Mult) (rMul mk) := ⟨_, OpR.or op_mulG op_rep, fun Z F H M x y a b Q QD R ra rb hd o => by
  unfold rMul at hd
  split at hd
  · split at hd
    · exact .inl ⟨_, _, ra.toInt, rb.toInt, hd.1, o _ _ F H M (Ext.refl F) R (.int _) hd.2⟩
    · exact hd.elim
  · obtain ⟨ds, k, h1, h2, h3, h4, h5, h6⟩ := hd
    obtain ⟨p, xs, rfl, q1, r1⟩ := lsT_rep R ra h1
    subst h2
    exact .inr ⟨_, _, _, rfl, rb.toInt, q1, h3, h4, by rw [r1.length]; exact h5, fun p hp => sim_new R (r1.rep _) h6 o hp⟩⟩
/-! ### == and != of data -/
mutual
def toPy : Dat → PyData
  | .bl b => .bool b
  | .int i => .int i
  | .str x => .str x
  | .tup ds => .tuple (toPys ds)
  | .lst ds => .list (toPys ds)
  | .frl ds => .list (toPys ds)
  | _ => .none
def toPys : List Dat → List PyData
  | [] => []
  | d :: ds => toPy d :: toPys ds
end
mutual
/-- data alone, nested at most so deep -/
def shp : Nat → Dat → Bool
  | _, .non => true
  | _, .bl _ => true
  | _, .int _ => true
  | _, .str x => PyData.canLay0 (.str x)
  | n + 1, .tup ds => shps n ds
  | n + 1, .lst ds => shps n ds
  | n + 1, .frl ds => shps n ds
  | _, _ => false
def shps : Nat → List Dat → Bool
  | _, [] => true
  | n, d :: ds => shp n d && shps n ds
end
section
variable {K : PySem.W.Frag} {F : Hp}
mutual
theorem shp_dp : ∀ (n : Nat) (d : Dat) (v : V), shp n d = true → Rep K F v d → Dp K F v (toPy d)
  | _, .non, _, _, r => by cases r; exact .non
  | _, .bl _, _, _, r => by cases r; exact .bl _
  | _, .int _, _, _, r => by cases r; exact .int _
  | _, .str _, _, _, r => by cases r; exact .str _
  | n + 1, .tup ds, _, h, r => by
    cases r with
    | tup q r =>
      unfold toPy
      exact .tup q (shps_dp n ds _ (by unfold shp at h; exact h) r)
  | n + 1, .lst ds, _, h, r => by
    cases r with
    | lst q r =>
      unfold toPy
      exact .lst (SqL.of q) (shps_dp n ds _ (by unfold shp at h; exact h) r)
  | n + 1, .frl ds, _, h, r => by
    cases r with
    | frl q r =>
      unfold toPy
      exact .lst q (shps_dp n ds _ (by unfold shp at h; exact h) r)
  | 0, .tup _, _, h, _ => by unfold shp at h; cases h
  | 0, .lst _, _, h, _ => by unfold shp at h; cases h
  | 0, .frl _, _, h, _ => by unfold shp at h; cases h
  | _, .ty _, _, h, _ => by unfold shp at h; cases h
  | _, .cls _, _, h, _ => by unfold shp at h; cases h
  | _, .dic _, _, h, _ => by unfold shp at h; cases h
  | _, .ins _ _, _, h, _ => by unfold shp at h; cases h
  | _, .ref _, _, h, _ => by unfold shp at h; cases h
theorem shps_dp : ∀ (n : Nat) (ds : List Dat) (vs : List V), shps n ds = true → Reps K F vs ds → DpAll K F vs (toPys ds)
  | _, [], _, _, r => by
    cases r
    unfold toPys
    exact .nil
  | n, d :: ds, _, h, r => by
    cases r with
    | cons r1 r2 =>
      unfold shps at h
      rw [Bool.and_eq_true] at h
      unfold toPys
      exact .cons (shp_dp n d _ h.1 r1) (shps_dp n ds _ h.2 r2)
end
mutual
theorem shp_depth : ∀ (n : Nat) (d : Dat), shp n d = true → (toPy d).depth ≤ n ∧ PyData.canLay0 (toPy d) = true
  | _, .non, _ => by simp [toPy, PyData.depth, PyData.canLay0]
  | _, .bl _, _ => by simp [toPy, PyData.depth, PyData.canLay0]
  | _, .int _, _ => by simp [toPy, PyData.depth, PyData.canLay0]
  | _, .str x, h => by
    unfold shp at h
    simp only [toPy, PyData.depth]
    exact ⟨Nat.zero_le _, h⟩
  | n + 1, .tup ds, h => by
    unfold shp at h
    have := shps_depth n ds h
    simp only [toPy, PyData.depth, PyData.canLay0]
    exact ⟨by omega, this.2⟩
  | n + 1, .lst ds, h => by
    unfold shp at h
    have := shps_depth n ds h
    simp only [toPy, PyData.depth, PyData.canLay0]
    exact ⟨by omega, this.2⟩
  | n + 1, .frl ds, h => by
    unfold shp at h
    have := shps_depth n ds h
    simp only [toPy, PyData.depth, PyData.canLay0]
    exact ⟨by omega, this.2⟩
  | 0, .tup _, h => by unfold shp at h; cases h
  | 0, .lst _, h => by unfold shp at h; cases h
  | 0, .frl _, h => by unfold shp at h; cases h
  | _, .ty _, h => by unfold shp at h; cases h
  | _, .cls _, h => by unfold shp at h; cases h
  | _, .dic _, h => by unfold shp at h; cases h
  | _, .ins _ _, h => by unfold shp at h; cases h
  | _, .ref _, h => by unfold shp at h; cases h
theorem shps_depth : ∀ (n : Nat) (ds : List Dat), shps n ds = true → PyData.depthAll (toPys ds) ≤ n ∧ PyData.canLayAll0 (toPys ds) = true
  | _, [], _ => by simp [toPys, PyData.depthAll, PyData.canLayAll0]
  | n, d :: ds, h => by
    unfold shps at h
    rw [Bool.and_eq_true] at h
    have h1 := shp_depth n d h.1
    have h2 := shps_depth n ds h.2
    simp only [toPys, PyData.depthAll, PyData.canLayAll0, Bool.and_eq_true]
    exact ⟨by omega, h1.2, h2.2⟩
end
theorem shaped_of {d : Dat} (h : shp 64 d = true) : SeqAt.shaped (toPy d) = true := by
  have := shp_depth 64 d h
  unfold SeqAt.shaped
  rw [Bool.and_eq_true]
  exact ⟨this.2, decide_eq_true this.1⟩
mutual
theorem Dp.mono {H H' : Hp} (e : Ext H H') : ∀ {v : V} {d : PyData}, Dp K H v d → Dp K H' v d
  | _, _, .non => .non
  | _, _, .bl b => .bl b
  | _, _, .int i => .int i
  | _, _, .str x => .str x
  | _, _, .lst h r => .lst (ext_l e h) (DpAll.mono e r)
  | _, _, .tup h r => .tup (ext_t e h) (DpAll.mono e r)
theorem DpAll.mono {H H' : Hp} (e : Ext H H') : ∀ {vs : List V} {ds : List PyData}, DpAll K H vs ds → DpAll K H' vs ds
  | _, _, .nil => .nil
  | _, _, .cons h r => .cons (Dp.mono e h) (DpAll.mono e r)
end
end
/-- a list that is to change, as the list that it is -/
def deref (M : MH) : Dat → Dat
  | .ref a => match M a with
    | some (.lst ds) => .lst ds
    | _ => .ref a
  | d => d
theorem deref_dp {K : PySem.W.Frag} {Z F H : Hp} {M : MH} {x : V} {a : Dat} (R : RelM K Z F H M) (r : Rep K F x a) (h : shp 64 (deref M a) = true) : Dp K H x (toPy (deref M a)) := by
  unfold deref at h ⊢
  split at h
  · rename_i p
    split at h
    · rename_i ds e
      cases r
      obtain ⟨xs, q, r⟩ := (R.chg p _ e).2
      simp only [toPy]
      exact .lst (SqL.of q) (DpAll.mono R.sub (shps_dp 63 ds xs (by unfold shp at h; exact h) r))
    · unfold shp at h
      cases h
  · exact Dp.mono R.sub (shp_dp 64 _ x h r)
/-- equal data -/
def eqD (a b : Dat) : Bool := PyData.eqv (toPy a) (toPy b)
def rEqD : R2D := fun x y M Q => match x with
  | .int i => (match y with
    | .int j => Q (.bl (decide (i = j))) M
    | y => shp 64 (deref M y) = true ∧ Q (.bl (eqD (.int i) (deref M y))) M)
  | x => shp 64 (deref M x) = true ∧ shp 64 (deref M y) = true ∧ Q (.bl (eqD (deref M x) (deref M y))) M
def rNeD : R2D := fun x y M Q => match x with
  | .int i => (match y with
    | .int j => Q (.bl (!decide (i = j))) M
    | y => shp 64 (deref M y) = true ∧ Q (.bl (!eqD (.int i) (deref M y))) M)
  | x => shp 64 (deref M x) = true ∧ shp 64 (deref M y) = true ∧ Q (.bl (!eqD (deref M x) (deref M y))) M
theorem od_eq (hu : X.A.units + 64 < cLine) : OpD X (compareOp .Eq) rEqD := ⟨_, OpR.or op_eq (op_eqD hu), fun Z F H M x y a b Q QD R ra rb hd o => by
  unfold rEqD at hd
  split at hd
  · rename_i i
    have ex := ra.toInt
    split at hd
    · rename_i j
      have ey := rb.toInt
      subst ex ey
      refine .inl ⟨rfl, o _ _ F H M (Ext.refl F) R ?_ hd⟩
      have e : decide (V.int i = V.int j) = decide (i = j) := by simp
      rw [e]
      exact .bl _
    · refine .inr ⟨_, _, Dp.mono R.sub (shp_dp 0 (.int i) x rfl ra), deref_dp R rb hd.1, rfl, shaped_of hd.1, o _ _ F H M (Ext.refl F) R (.bl _) hd.2⟩
  · exact .inr ⟨_, _, deref_dp R ra hd.1, deref_dp R rb hd.2.1, shaped_of hd.1, shaped_of hd.2.1, o _ _ F H M (Ext.refl F) R (.bl _) hd.2.2⟩⟩
theorem od_ne (hu : X.A.units + 64 < cLine) : OpD X (compareOp .NotEq) rNeD := ⟨_, OpR.or op_ne (op_neD hu), fun Z F H M x y a b Q QD R ra rb hd o => by
  unfold rNeD at hd
  split at hd
  · rename_i i
    have ex := ra.toInt
    split at hd
    · rename_i j
      have ey := rb.toInt
      subst ex ey
      refine .inl ⟨rfl, o _ _ F H M (Ext.refl F) R ?_ hd⟩
      have e : decide (V.int i = V.int j) = decide (i = j) := by simp
      rw [e]
      exact .bl _
    · refine .inr ⟨_, _, Dp.mono R.sub (shp_dp 0 (.int i) x rfl ra), deref_dp R rb hd.1, rfl, shaped_of hd.1, o _ _ F H M (Ext.refl F) R (.bl _) hd.2⟩
  · exact .inr ⟨_, _, deref_dp R ra hd.1, deref_dp R rb hd.2.1, shaped_of hd.1, shaped_of hd.2.1, o _ _ F H M (Ext.refl F) R (.bl _) hd.2.2⟩⟩
/-- is None, is not None; of bools -/
def isN : Dat → Bool
  | .non => true
  | _ => false
theorem isN_rep {K : PySem.W.Frag} {F : Hp} {x : V} {a : Dat} (r : Rep K F x a) : decide (x = .non) = isN a := by
  cases r <;> simp [isN]
def rIs : R2D := fun x y M Q => match y with
  | .non => Q (.bl (isN x)) M
  | .bl b => (match x with
    | .bl a => Q (.bl (decide (a = b))) M
    | _ => False)
  | _ => False
def rIsNot : R2D := fun x y M Q => match y with
  | .non => Q (.bl (!isN x)) M
  | .bl b => (match x with
    | .bl a => Q (.bl (!decide (a = b))) M
    | _ => False)
  | _ => False
theorem od_is : OpD X (compareOp .Is) rIs := ⟨_, OpR.or op_isN op_isBl, fun Z F H M x y a b Q QD R ra rb hd o => by
  unfold rIs at hd
  split at hd
  · refine .inl ⟨rb.toNon, o _ _ F H M (Ext.refl F) R ?_ hd⟩
    rw [isN_rep ra]
    exact .bl _
  · split at hd
    · exact .inr ⟨_, _, ra.toBl, rb.toBl, o _ _ F H M (Ext.refl F) R (.bl _) hd⟩
    · exact hd.elim
  · exact hd.elim⟩
theorem od_isnot : OpD X (compareOp .IsNot) rIsNot := ⟨_, OpR.or op_notN op_notBl, fun Z F H M x y a b Q QD R ra rb hd o => by
  unfold rIsNot at hd
  split at hd
  · refine .inl ⟨rb.toNon, o _ _ F H M (Ext.refl F) R ?_ hd⟩
    rw [isN_rep ra]
    exact .bl _
  · split at hd
    · exact .inr ⟨_, _, ra.toBl, rb.toBl, o _ _ F H M (Ext.refl F) R (.bl _) hd⟩
    · exact hd.elim
  · exact hd.elim⟩
/-- x in s, x not in s: s a tuple or a list of flat data, x flat -/
def flatD : Dat → Bool
  | .non => true
  | .bl _ => true
  | .int _ => true
  | .str _ => true
  | _ => false
def eqF : Dat → Dat → Bool
  | .non, .non => true
  | .bl a, .bl b => a == b
  | .int a, .int b => a == b
  | .str a, .str b => a == b
  | .bl a, .int b => (if a then 1 else 0) == b
  | .int a, .bl b => a == (if b then 1 else 0)
  | _, _ => false
end
end DL
namespace DL
open PySem PySem.Spec PyProof.Rows L2
section
variable {K : PySem.W.Frag} {Z F H : Hp} {M : MH}
theorem flat_rep {x : V} {a : Dat} (r : Rep K F x a) (h : flatD a = true) : flatV x = true := by
  cases r <;> first | rfl | (unfold flatD at h; cases h)
theorem eqF_rep {x y : V} {a b : Dat} (ra : Rep K F x a) (rb : Rep K F y b) (ha : flatD a = true) (hb : flatD b = true) : eqV x y = eqF a b := by
  cases ra <;> first | (unfold flatD at ha; cases ha; done) | skip
  all_goals (cases rb <;> first | (unfold flatD at hb; cases hb; done) | rfl)
theorem flats_rep {xs : List V} {ds : List Dat} (r : Reps K F xs ds) (h : ds.all flatD = true) : xs.all flatV = true := by
  induction xs generalizing ds with
  | nil => rfl
  | cons x xs ih =>
    cases r with
    | cons r1 r2 =>
      rw [List.all_cons, Bool.and_eq_true] at h ⊢
      exact ⟨flat_rep r1 h.1, ih r2 h.2⟩
def inD (a : Dat) (ds : List Dat) : Bool := ds.any fun b => eqF b a
theorem inD_rep {x : V} {a : Dat} {xs : List V} {ds : List Dat} (ra : Rep K F x a) (r : Reps K F xs ds) (ha : flatD a = true) (h : ds.all flatD = true) : inV x xs = inD a ds := by
  unfold inV inD
  induction xs generalizing ds with
  | nil =>
    cases r
    rfl
  | cons y xs ih =>
    cases r with
    | cons r1 r2 =>
      rw [List.all_cons, Bool.and_eq_true] at h
      rw [List.any_cons, List.any_cons, eqF_rep r1 ra h.1 ha, ih r2 h.2]
/-- the items of a list or a tuple -/
def itemsR (M : MH) : Dat → Option (List Dat)
  | .tup ds => some ds
  | x => lsR M x
theorem itemsR_rep {x : V} {a : Dat} {ds : List Dat} (R : RelM K Z F H M) (r : Rep K F x a) (h : itemsR M a = some ds) : ∃ p xs, x = .ref p ∧ (SqL K H p xs ∨ SqT K H p xs) ∧ Reps K F xs ds := by
  unfold itemsR at h
  split at h
  · cases h
    cases r with
    | tup q r => exact ⟨_, _, rfl, .inr (ext_t R.sub q), r⟩
  · obtain ⟨p, xs, e, q, r⟩ := lsR_rep R r h
    exact ⟨p, xs, e, .inl q, r⟩
end
section
variable {X : Cx}
def rInD : R2D := fun x y M Q => ∃ ds, itemsR M y = some ds ∧ flatD x = true ∧ ds.all flatD = true ∧ Q (.bl (inD x ds)) M
def rNotInD : R2D := fun x y M Q => ∃ ds, itemsR M y = some ds ∧ flatD x = true ∧ ds.all flatD = true ∧ Q (.bl (!inD x ds)) M
theorem od_in : OpD X (compareOp .In) rInD := ⟨_, op_in_seq, fun Z F H M x y a b Q QD R ra rb hd o => by
  obtain ⟨ds, h1, h2, h3, h4⟩ := hd
  obtain ⟨p, xs, rfl, q, r⟩ := itemsR_rep R rb h1
  refine ⟨p, xs, rfl, q, flat_rep ra h2, flats_rep r h3, ?_⟩
  rw [inD_rep ra r h2 h3]
  exact o _ _ F H M (Ext.refl F) R (.bl _) h4⟩
theorem od_notin : OpD X (compareOp .NotIn) rNotInD := ⟨_, op_notIn_seq, fun Z F H M x y a b Q QD R ra rb hd o => by
  obtain ⟨ds, h1, h2, h3, h4⟩ := hd
  obtain ⟨p, xs, rfl, q, r⟩ := itemsR_rep R rb h1
  refine ⟨p, xs, rfl, q, flat_rep ra h2, flats_rep r h3, ?_⟩
  rw [inD_rep ra r h2 h3]
  exact o _ _ F H M (Ext.refl F) R (.bl _) h4⟩
/-! ### subscripts, slices -/
theorem atI_rep {K : PySem.W.Frag} {F : Hp} {xs : List V} {ds : List Dat} {i : Int} {d : Dat} (r : Reps K F xs ds) (h : atI ds i = some d) : ∃ v, atI xs i = some v ∧ Rep K F v d := by
  unfold atI at h ⊢
  rw [r.length]
  cases e : ixN ds.length i with
  | none =>
    rw [e] at h
    cases h
  | some j =>
    rw [e] at h
    exact r.get h
def rIxD : R2D := fun x y M Q => match y with
  | .int i => ∃ ds d, itemsR M x = some ds ∧ atI ds i = some d ∧ Q d M
  | _ => False
variable {a b : Expr} {pos : Pos} {da db : TED}
theorem de_ix (ha : DE X a da) (hb : DE X b db) (hs : PlainIx b := by exact fun _ _ => rfl) : DE X (.Subscript a b pos) (dOp rIxD da db) := pe_w (pe_ix (IxR.or ix_list ix_tup) ha hb hs) fun σ H Q h => up_bin (fun Z F H M x y a b Q QD R ra rb hd o => by
  unfold rIxD at hd
  split at hd
  · obtain ⟨ds, d, h1, h2, h3⟩ := hd
    obtain ⟨p, xs, rfl, q, r⟩ := itemsR_rep R ra h1
    obtain ⟨v, h4, r4⟩ := atI_rep r h2
    rcases q with q | q
    · exact .inl ⟨p, xs, _, v, rfl, rb.toInt, q, h4, o _ _ F H M (Ext.refl F) R r4 h3⟩
    · exact .inr ⟨p, xs, _, v, rfl, rb.toInt, q, h4, o _ _ F H M (Ext.refl F) R r4 h3⟩
  · exact hd.elim) h
/-- the part of a slice -/
abbrev TOD := EnvD → MH → (Option Int → MH → Prop) → Prop
def OkO (K : PySem.W.Frag) (Z F : Hp) (Q : Option Int → Hp → Prop) (QD : Option Int → MH → Prop) : Prop := ∀ i F' H' M', Ext F F' → RelM K Z F' H' M' → QD i M' → Q i H'
def upO (K : PySem.W.Frag) (d : TOD) : TO := fun σ H Q => ∃ Z F M ρ QD, Rel K Z F H M σ ρ ∧ d ρ M QD ∧ OkO K Z F Q QD
theorem po_w {e : Option Expr} {t u : TO} (h : PO X e t) (w : ∀ σ H Q, u σ H Q → t σ H Q) : PO X e u := ⟨fun pins s σ H Q I q => h.run pins s σ H Q I (w σ H Q q)⟩
abbrev DO (X : Cx) (e : Option Expr) (d : TOD) : Prop := PO X e (upO X.K d)
def dNoPart : TOD := fun _ M Q => Q none M
def dPart (d : TED) : TOD := fun ρ M Q => d ρ M fun x M1 => match x with
  | .int i => Q (some i) M1
  | _ => False
theorem do_none : DO X none dNoPart := po_w po_none fun σ H Q ⟨Z, F, M, ρ, QD, R, h, o⟩ => o none F H M (Ext.refl F) R.m h
theorem do_some (h : DE X a da) : DO X (some a) (dPart da) := po_w (po_some h) fun σ H Q ⟨Z, F, M, ρ, QD, R, h, o⟩ => by
  refine ⟨Z, F, M, ρ, _, R, h, fun x a F1 H1 M1 e1 R1 r1 h1 => ?_⟩
  split at h1
  · exact ⟨_, r1.toInt, o _ F1 H1 M1 e1 R1 h1⟩
  · exact h1.elim
def cutD (xs : List Dat) (lo hi : Option Int) : List Dat := (xs.drop (HT.sIx xs.length 0 lo)).take (HT.sIx xs.length xs.length hi - HT.sIx xs.length 0 lo)
theorem cut_rep {K : PySem.W.Frag} {F : Hp} {xs : List V} {ds : List Dat} (r : Reps K F xs ds) (lo hi : Option Int) : Reps K F (cutV xs lo hi) (cutD ds lo hi) := by
  unfold cutV cutD
  rw [r.length]
  exact (r.drop _).take _
/-- xs[lo:hi] -/
def dSl (mk : Bool) (da : TED) (dl dh : TOD) : TED := fun ρ M Q => da ρ M fun x M1 => dl ρ M1 fun lo M2 => dh ρ M2 fun hi M3 => match x with
  | .tup ds => ¬ (HT.sIx ds.length 0 lo = 0 ∧ HT.sIx ds.length ds.length hi = ds.length) ∧ Q (.tup (cutD ds lo hi)) M3
  | x => ∃ ds, lsR M3 x = some ds ∧ newL mk (cutD ds lo hi) M3 Q
variable {lo hi : Option Expr} {dl dh : TOD} {p2 : Pos}
theorem de_sl (mk : Bool) (ha : DE X a da) (hl : DO X lo dl) (hh : DO X hi dh) : DE X (.Subscript a (.Slice lo hi none p2) pos) (dSl mk da dl dh) := pe_w (pe_slice (SlR.or sl_list sl_tup) ha hl hh) fun σ H Q ⟨Z, F, M, ρ, QD, R, h, o⟩ => by
  refine ⟨Z, F, M, ρ, _, R, h, fun x a F1 H1 M1 e1 R1 r1 h1 => ?_⟩
  refine ⟨Z, F1, M1, ρ, _, R.ext e1 R1, h1, fun l F2 H2 M2 e2 R2 h2 => ?_⟩
  refine ⟨Z, F2, M2, ρ, _, R.ext (e1.trans e2) R2, h2, fun u F3 H3 M3 e3 R3 h3 => ?_⟩
  have r3 := r1.mono (e2.trans e3)
  have o3 := o.mono ((e1.trans e2).trans e3)
  split at h3
  · cases r3 with
    | tup q r =>
      refine .inr ⟨_, _, rfl, ext_t R3.sub q, by rw [r.length]; exact h3.1, fun p hp => ?_⟩
      obtain ⟨R4, e4⟩ := R3.newF (o := .tup _) hp
      exact o3 _ _ _ _ M3 e4 R4 (.tup (SqT.of upd_same) ((cut_rep r l u).mono e4)) h3.2
  · obtain ⟨ds, h4, h5⟩ := h3
    obtain ⟨p, xs, rfl, q, r⟩ := lsR_rep R3 r3 h4
    exact .inl ⟨p, xs, rfl, q, fun p hp => sim_new R3 (cut_rep r l u) h5 o3 hp⟩
/-- xs[::-1] -/
def dRev (mk : Bool) (da : TED) : TED := fun ρ M Q => da ρ M fun x M1 => ∃ ds, lsR M1 x = some ds ∧ newL mk ds.reverse M1 Q
theorem de_rev (mk : Bool) {k : Nat} {p1 p3 : Pos} (ha : DE X a da) : DE X (.Subscript a (.Slice none none (some (.UnaryOp .USub (.Constant (.int 1) k p1) p2)) p3) pos) (dRev mk da) := pe_w (pe_revL ha) fun σ H Q ⟨Z, F, M, ρ, QD, R, h, o⟩ => by
  refine ⟨Z, F, M, ρ, _, R, h, fun x a F1 H1 M1 e1 R1 r1 h1 => ?_⟩
  obtain ⟨ds, h4, h5⟩ := h1
  obtain ⟨p, xs, rfl, q, r⟩ := lsR_rep R1 r1 h4
  exact ⟨p, xs, rfl, q, fun p hp => sim_new R1 r.rev h5 (o.mono e1) hp⟩
/-! ### fields -/
theorem repF_at {K : PySem.W.Frag} {F : Hp} {f : Str} {d : Dat} : ∀ {fs : List (Str × V)} {gs : List (Str × Dat)} {i : Nat}, RepF K F fs gs → (fs.map (·.1)).Nodup → gs[i]? = some (f, d) → ∃ v, fs.lookup f = some v ∧ Rep K F v d := by
  intro fs
  induction fs with
  | nil =>
    intro gs i r _ h
    cases r
    simp at h
  | cons p fs ih =>
    intro gs i r n h
    cases r with
    | @cons g v vs d' ds r1 r2 =>
      rw [List.map_cons, List.nodup_cons] at n
      cases i with
      | zero =>
        have e := Option.some.inj h
        cases e
        exact ⟨v, by simp [List.lookup], r1⟩
      | succ i =>
        have h' : ds[i]? = some (f, d) := h
        obtain ⟨w, e1, e2⟩ := ih r2 n.2 h'
        have hne : f ≠ g := fun e => by
          subst e
          refine n.1 ?_
          have hm : ∀ {l : List (Str × V)}, l.lookup f = some w → f ∈ l.map (·.1) := by
            intro l
            induction l with
            | nil => intro h; cases h
            | cons q l ihl =>
              intro h
              obtain ⟨g2, v2⟩ := q
              by_cases eq : f = g2
              · subst eq
                exact List.mem_cons_self ..
              · have e3 : (f == g2) = false := by simpa using eq
                simp only [List.lookup, e3] at h
                exact List.mem_cons_of_mem _ (ihl h)
          exact hm e1
        refine ⟨w, ?_, e2⟩
        have e3 : (f == g) = false := by simpa using hne
        simp only [List.lookup, e3]
        exact e1
/-- what the text's class asks: cl, and that its instances have no class attribute called so -/
def fieldsOf (M : MH) : Dat → Option (Addr × List (Str × Dat))
  | .ins C gs => some (C, gs)
  | .ref a => match M a with
    | some (.ins C gs) => some (C, gs)
    | _ => none
  | _ => none
theorem fieldsOf_rep {K : PySem.W.Frag} {Z F H : Hp} {M : MH} {x : V} {a : Dat} {C : Addr} {gs : List (Str × Dat)} (R : RelM K Z F H M) (r : Rep K F x a) (h : fieldsOf M a = some (C, gs)) : ∃ p dx fs, x = .ref p ∧ H p = some (.ins C dx fs) ∧ RepF K F fs gs ∧ (fs.map (·.1)).Nodup := by
  unfold fieldsOf at h
  split at h
  · cases h
    cases r with
    | ins q r n => exact ⟨_, _, _, rfl, R.sub _ _ q, r, n⟩
  · rename_i p
    split at h
    · rename_i e
      cases h
      cases r
      obtain ⟨dx, fs, q, r, n⟩ := (R.chg p _ e).2
      exact ⟨_, dx, fs, rfl, q, r, n⟩
    · cases h
  · cases h
/-- o.f: number i of its fields; the class is C -/
def dFld (C : Addr) (i : Nat) (f : Str) (da : TED) : TED := fun ρ M Q => da ρ M fun x M1 => ∃ gs d, fieldsOf M1 x = some (C, gs) ∧ gs[i]? = some (f, d) ∧ Q d M1
theorem de_fld (C : Addr) (i : Nat) {f : Str} (cl : Cls X.K C) (nf : NoAttr X.K C f) (ha : DE X a da) (hb : attributeBase a f X.env (eval a X.env) = eval a X.env := by rfl) : DE X (.Attribute a f pos) (dFld C i f da) := pe_w (pe_fld ha hb) fun σ H Q ⟨Z, F, M, ρ, QD, R, h, o⟩ => by
  refine ⟨Z, F, M, ρ, _, R, h, fun x a F1 H1 M1 e1 R1 r1 h1 => ?_⟩
  obtain ⟨gs, d, h2, h3, h4⟩ := h1
  obtain ⟨p, dx, fs, rfl, q, r, n⟩ := fieldsOf_rep R1 r1 h2
  obtain ⟨v, e2, r2⟩ := repF_at r n h3
  exact ⟨p, C, dx, fs, v, rfl, q, cl, nf, e2, o _ _ F1 H1 M1 e1 R1 r2 h4⟩
/-! ### isinstance -/
/-- what the text's class asks of isinstance -/
structure InsK (K : PySem.W.Frag) (C : Addr) : Prop where
  cl : Cls K C
  ha : PySem.W.findIn K (.ref C) "__class__" = some (some (.builtin "object.__class__"))
  hn : PySem.W.specialIn K (.builtin "object.__class__") "__get__" = some (some (.builtin "getset_descriptor.__get__"))
  htk : PySem.W.takesIn K (.builtin "object.__class__") = some true
  hm : PySem.W.mroIn K C (.type "object") = some true
/-- the type of a datum that is no instance -/
def tyD : Dat → Option BT
  | .bl _ => some .bool
  | .int _ => some .int
  | .str _ => some .str
  | .tup _ => some .tup
  | .lst _ => some .lst
  | .frl _ => some .lst
  | .dic _ => some .dic
  | _ => none
def subB : BT → BT → Bool
  | .bool, .int => true
  | a, b => decide (a = b)
theorem kit_sub {K : PySem.W.Frag} (a b : BT) : PySem.W.kitOne K (.type a.nm) (.type b.nm) = some (subB a b) := by
  refine kit_ty ?_
  cases a <;> cases b <;> decide +kernel
theorem kit_none {K : PySem.W.Frag} (b : BT) : PySem.W.kitOne K (.type "NoneType") (.type b.nm) = some false := by
  refine kit_ty ?_
  cases b <;> decide +kernel
/-- the answer; that it is known -/
def isiR (x c : Dat) : Bool := match c with
  | .ty n => (match tyD x with
    | some t => subB t n
    | none => false)
  | .cls C => (match x with
    | .ins D _ => decide (D = C)
    | _ => false)
  | _ => false
/-- the type as the written part takes it -/
def tyV' (x : Dat) : Option Value := match x with
  | .ins D _ => some (.ref D)
  | .non => some (.type "NoneType")
  | x => (tyD x).map fun t => .type t.nm
def clsV' (c : Dat) : Option Value := match c with
  | .ty n => some (.type n.nm)
  | .cls C => some (.ref C)
  | _ => none
def IsiOk (K : PySem.W.Frag) (x c : Dat) : Prop := (∀ D gs, x = .ins D gs → InsK K D) ∧ ∃ t u, tyV' x = some t ∧ clsV' c = some u ∧ PySem.W.kitOne K t u = some (isiR x c)
/-- what is known of a class -/
structure ClsK (K : PySem.W.Frag) (C : Addr) : Prop where
  ik : InsK K C
  kn : PySem.W.kitOne K (.type "NoneType") (.ref C) = some false
  kt : ∀ t : BT, PySem.W.kitOne K (.type t.nm) (.ref C) = some false
  ks : ∀ t : BT, PySem.W.kitOne K (.ref C) (.type t.nm) = some false
  kk : PySem.W.kitOne K (.ref C) (.ref C) = some true
/-- data of no class but C -/
def OneC (C : Addr) : Dat → Prop
  | .ins D _ => D = C
  | .ty _ => False
  | .cls _ => False
  | .ref _ => False
  | _ => True
theorem tyD_or {C : Addr} {x : Dat} (h : OneC C x) : (∃ gs, x = .ins C gs) ∨ x = .non ∨ ∃ t, tyD x = some t := by
  cases x <;> first | (exact h.elim) | (exact .inr (.inl rfl)) | (exact .inr (.inr ⟨_, rfl⟩)) | skip
  rename_i D gs
  have e : D = C := h
  subst e
  exact .inl ⟨gs, rfl⟩
theorem tyV_of {x : Dat} {t : BT} (h : tyD x = some t) : tyV' x = some (.type t.nm) ∧ (∀ D gs, x ≠ .ins D gs) ∧ x ≠ .non := by
  cases x <;> first | (unfold tyD at h; cases h; done) | skip
  all_goals
    refine ⟨?_, fun D gs e => (by cases e), fun e => (by cases e)⟩
    cases h
    rfl
theorem isi_ty {K : PySem.W.Frag} {C : Addr} (k : ClsK K C) {x : Dat} (h : OneC C x) (n : BT) : IsiOk K x (.ty n) := by
  rcases tyD_or h with ⟨gs, rfl⟩ | rfl | ⟨t, e⟩
  · exact ⟨fun D g q => by cases q; exact k.ik, _, _, rfl, rfl, k.ks n⟩
  · exact ⟨(fun D g q => by cases q), _, _, rfl, rfl, kit_none n⟩
  · obtain ⟨e1, e2, e3⟩ := tyV_of e
    refine ⟨fun D g q => absurd q (e2 D g), _, _, e1, rfl, ?_⟩
    have : isiR x (.ty n) = subB t n := by
      unfold isiR
      rw [e]
    rw [this]
    exact kit_sub t n
theorem isi_cls {K : PySem.W.Frag} {C : Addr} (k : ClsK K C) {x : Dat} (h : OneC C x) : IsiOk K x (.cls C) := by
  rcases tyD_or h with ⟨gs, rfl⟩ | rfl | ⟨t, e⟩
  · refine ⟨fun D g q => by cases q; exact k.ik, _, _, rfl, rfl, ?_⟩
    have : isiR (.ins C gs) (.cls C) = true := by simp [isiR]
    rw [this]
    exact k.kk
  · exact ⟨(fun D g q => by cases q), _, _, rfl, rfl, k.kn⟩
  · obtain ⟨e1, e2, e3⟩ := tyV_of e
    refine ⟨fun D g q => absurd q (e2 D g), _, _, e1, rfl, ?_⟩
    have : isiR x (.cls C) = false := by
      cases x <;> first | rfl | (exact absurd rfl (e2 _ _))
    rw [this]
    exact k.kt t
end
section
variable {K : PySem.W.Frag} {Z F H : Hp} {M : MH}
theorem sqt_ty {H : Hp} {p : Addr} {xs : List V} (h : SqT K H p xs) : TyX K H (.ref p) (.type "tuple") := by
  rcases h with (h | ⟨o, h⟩) | ⟨o, its, n, hk, hc, _⟩
  · exact .base (.tup h)
  · exact .fTuple h
  · exact .kTuple hk hc
theorem sql_ty {H : Hp} {p : Addr} {xs : List V} (h : SqL K H p xs) : TyX K H (.ref p) (.type "list") := by
  rcases h with (h | ⟨o, h⟩) | ⟨o, its, n, hk, hc, _⟩
  · exact .base (.lst h)
  · exact .base (.frz h)
  · exact .kList hk hc
theorem tyD_rep {x : V} {a : Dat} {t : BT} (R : RelM K Z F H M) (r : Rep K F x a) (h : tyD a = some t) : TyX K H x (.type t.nm) := by
  cases r with
  | bl b => cases h; exact .base (.bl b)
  | int b => cases h; exact .base (.int b)
  | str b => cases h; exact .base (.str b)
  | tup q r => cases h; exact sqt_ty (ext_t R.sub q)
  | lst q r => cases h; exact .base (.lst (R.sub _ _ q))
  | frl q r => cases h; exact sql_ty (ext_l R.sub q)
  | dic q r => cases h; exact .base (.dK (R.sub _ _ q))
  | non => cases h
  | ty n => cases h
  | cls C => cases h
  | ins q r n => cases h
  | ref a => cases h
end
section
variable {X : Cx}
/-- isinstance(x, c): c a built-in class or one of the text's -/
def rIsiD (K : PySem.W.Frag) : List Dat → MH → VKD → Prop := fun ds M Q => match ds with
  | [x, c] => IsiOk K x c ∧ Q (.bl (isiR x c)) M
  | _ => False
/-- a builtin's call by data -/
def CallD (X : Cx) (f : Value) (d : List Dat → MH → VKD → Prop) : Prop := ∃ r, CallR X f r ∧ ∀ Z F H M vs ds Q QD, RelM X.K Z F H M → Reps X.K F vs ds → d ds M QD → OkV X.K Z F Q QD → r vs H Q
theorem cd_isi : CallD X (.builtin "isinstance") (rIsiD X.K) := ⟨_, call_isi, fun Z F H M vs ds Q QD R rs hd o => by
  unfold rIsiD at hd
  split at hd
  · rename_i x c
    obtain ⟨⟨hk, t, u, h1, h2, h3⟩, q⟩ := hd
    obtain ⟨v, ws, rfl, r1, rs⟩ := rs.uncons
    obtain ⟨y, ws, rfl, r2, rs⟩ := rs.uncons
    cases rs.unnil
    have hc : ClsV y u := by
      unfold clsV' at h2
      split at h2
      · cases h2
        cases r2
        exact .ty _
      · cases h2
        cases r2
        exact .own _
      · cases h2
    have ht : TyX X.K H v t := by
      unfold tyV' at h1
      split at h1
      · cases h1
        have k := hk _ _ rfl
        cases r1 with
        | ins q1 r n => exact .base (.ins (R.sub _ _ q1) k.cl k.ha k.hn k.htk k.hm)
      · cases h1
        cases r1
        exact .base .non
      · cases e : tyD x with
        | none =>
          rw [e] at h1
          cases h1
        | some bt =>
          rw [e] at h1
          cases h1
          exact tyD_rep R r1 e
    exact ⟨v, y, t, u, _, rfl, hc, ht, h3, o _ _ F H M (Ext.refl F) R (.bl _) q⟩
  · exact hd.elim⟩
/-! ### built-ins by their names -/
def dCB (r : List Dat → MH → VKD → Prop) (dA : TAD) : TED := fun ρ M Q => dA ρ M fun ds M1 => r ds M1 Q
variable {e : Expr} {es : List Expr} {pos p : Pos} {dA : TAD} {x : Str} {id T : String} {r : List Dat → MH → VKD → Prop}
theorem up_cb {r : List V → Hp → VK → Prop} {d : List Dat → MH → VKD → Prop} (hs : ∀ Z F H M vs ds Q QD, RelM X.K Z F H M → Reps X.K F vs ds → d ds M QD → OkV X.K Z F Q QD → r vs H Q) {σ : L2.St} {H : Hp} {Q : VK} (h : up X.K (dCB d dA) σ H Q) : tCB r (upA X.K dA) σ H Q := by
  obtain ⟨Z, F, M, ρ, QD, R, h, o⟩ := h
  refine ⟨Z, F, M, ρ, _, R, h, fun xs as F1 H1 M1 e1 R1 r1 h1 => ?_⟩
  exact hs Z F1 H1 M1 xs as Q QD R1 r1 h1 (o.mono e1)
theorem de_cb (hc : CallD X (.builtin id) r) (hg : Gl X x) (hm : X.mg x = none) (hv : bootBuiltins x = some (.builtin id)) (ha : DA X (e :: es) dA) (hn : x ≠ "__name__" := by decide) (hdb : (x == ("__debug__" : Str)) = false := by decide)
    (he : starEach (e :: es) X.env = (false, eval e X.env) :: starEach es X.env := by rfl) (hpl : (backTo pos (starEach es X.env)).any (·.1) = false := by rfl) : DE X (.Call (.Name x p) (e :: es) [] pos) (dCB r dA) := by
  obtain ⟨t, ht, hs⟩ := hc
  exact pe_w (pe_callB ht hg hm hv ha hn hdb he hpl) fun σ H Q h => up_cb hs h
theorem de_ct (hc : CallD X (.type T) r) (hg : Gl X x) (hm : X.mg x = none) (hv : bootBuiltins x = some (.type T)) (ha : DA X (e :: es) dA) (hn : x ≠ "__name__" := by decide) (hdb : (x == ("__debug__" : Str)) = false := by decide)
    (he : starEach (e :: es) X.env = (false, eval e X.env) :: starEach es X.env := by rfl) (hpl : (backTo pos (starEach es X.env)).any (·.1) = false := by rfl) : DE X (.Call (.Name x p) (e :: es) [] pos) (dCB r dA) := by
  obtain ⟨t, ht, hs⟩ := hc
  exact pe_w (pe_callTy ht hg hm hv ha hn hdb he hpl) fun σ H Q h => up_cb hs h
/-- a built-in class as a value -/
theorem de_ty (n : BT) (hg : Gl X x) (hm : X.mg x = none) (hv : bootBuiltins x = some (.type n.nm)) (hn : x ≠ "__name__" := by decide) (hd : (x == ("__debug__" : Str)) = false := by decide) : DE X (.Name x pos) (dC (.ty n)) :=
  de_c (pe_bltn hg hm hv (v := .ty n.nm) rfl hn hd) fun _ => .ty n
/-- a class of the text, a def of the text, as a value -/
theorem de_cls {C : Addr} (hg : Gl X x) (hm : X.mg x = some (.ref C)) (hd : (x == ("__debug__" : Str)) = false := by decide) : DE X (.Name x pos) (dC (.cls C)) :=
  de_c (pe_glob hg hm (v := .ref C) rfl hd) fun _ => .cls C
/-- an int of the module -/
theorem de_gint {i : Int} (hg : Gl X x) (hm : ∃ t, X.mg x = some (.int i t)) (hd : (x == ("__debug__" : Str)) = false := by decide) : DE X (.Name x pos) (dC (.int i)) := by
  obtain ⟨t, hm⟩ := hm
  exact de_c (pe_glob hg hm (v := .int i) ⟨t, rfl⟩ hd) fun _ => .int i
/-- a tuple of texts of the module -/
structure GTup (K : PySem.W.Frag) (mg : Str → Option Value) (x : Str) (xs : List Str) : Prop where
  ex : ∃ a, mg x = some (.ref a) ∧ SqT K (fun _ => none) a (xs.map V.str)
theorem reps_strs {K : PySem.W.Frag} {F : Hp} (xs : List Str) : Reps K F (xs.map V.str) (xs.map Dat.str) := by
  induction xs with
  | nil => exact .nil
  | cons n ns ih => exact .cons (.str n) ih
theorem de_gtup {xs : List Str} (hg : Gl X x) (hm : GTup X.K X.mg x xs) (hd : (x == ("__debug__" : Str)) = false := by decide) : DE X (.Name x pos) (dC (.tup (xs.map Dat.str))) := by
  obtain ⟨a, h1, h2⟩ := hm
  exact de_c (pe_glob hg h1 (v := .ref a) rfl hd) fun F => .tup (ext_t (fun _ _ h => by cases h) h2) (reps_strs xs)
/-- abs, max, min, sum, len, int, bool, divmod, all, any, sorted, list -/
def rAbs : List Dat → MH → VKD → Prop := fun ds M Q => match ds with
  | [.int i] => Q (.int (if i < 0 then -i else i)) M
  | _ => False
theorem cd_abs : CallD X (.builtin "abs") rAbs := ⟨_, call_abs, fun Z F H M vs ds Q QD R rs hd o => by
  unfold rAbs at hd
  split at hd
  · obtain ⟨x, ws, rfl, r1, rs⟩ := rs.uncons
    cases rs.unnil
    cases r1
    exact ⟨_, rfl, o _ _ F H M (Ext.refl F) R (.int _) hd⟩
  · exact hd.elim⟩
theorem sqInts {K : PySem.W.Frag} {Z F H : Hp} {M : MH} {x : V} {a : Dat} {ns : List Int} (R : RelM K Z F H M) (r : Rep K F x a) (h : lsR M a = some (ns.map Dat.int)) : ∃ p, x = .ref p ∧ SqL K H p (ns.map V.int) := by
  obtain ⟨p, xs, e, q, r⟩ := lsR_rep R r h
  rw [r.ints] at q
  exact ⟨p, e, q⟩
/-- the greatest of two ints, of a list of ints -/
def rMaxD : List Dat → MH → VKD → Prop := fun ds M Q => match ds with
  | [.int i, .int j] => Q (.int (if j > i then j else i)) M
  | [x] => ∃ ns : List Int, lsR M x = some (ns.map Dat.int) ∧ 0 < ns.length ∧ ∀ m, m ∈ ns → (∀ y, y ∈ ns → y ≤ m) → Q (.int m) M
  | _ => False
theorem cd_max (hc : X.calm = true) : CallD X (.builtin "max") rMaxD := ⟨_, CallR.or (call_max2 hc) (cr_max hc), fun Z F H M vs ds Q QD R rs hd o => by
  unfold rMaxD at hd
  split at hd
  · obtain ⟨x, ws, rfl, r1, rs⟩ := rs.uncons
    obtain ⟨y, ws, rfl, r2, rs⟩ := rs.uncons
    cases rs.unnil
    cases r1
    cases r2
    exact .inl ⟨_, _, rfl, o _ _ F H M (Ext.refl F) R (.int _) hd⟩
  · obtain ⟨ns, h1, h2, h3⟩ := hd
    obtain ⟨x, ws, rfl, r1, rs⟩ := rs.uncons
    cases rs.unnil
    obtain ⟨p, rfl, q⟩ := sqInts R r1 h1
    exact .inr ⟨p, ns, rfl, q, h2, fun m hm hle => o _ _ F H M (Ext.refl F) R (.int _) (h3 m hm hle)⟩
  · exact hd.elim⟩
def rMinD : List Dat → MH → VKD → Prop := fun ds M Q => match ds with
  | [.int i, .int j] => Q (.int (if j < i then j else i)) M
  | [x] => ∃ ns : List Int, lsR M x = some (ns.map Dat.int) ∧ 0 < ns.length ∧ ∀ m, m ∈ ns → (∀ y, y ∈ ns → m ≤ y) → Q (.int m) M
  | _ => False
theorem cd_min (hc : X.calm = true) : CallD X (.builtin "min") rMinD := ⟨_, CallR.or (call_min2 hc) (cr_min hc), fun Z F H M vs ds Q QD R rs hd o => by
  unfold rMinD at hd
  split at hd
  · obtain ⟨x, ws, rfl, r1, rs⟩ := rs.uncons
    obtain ⟨y, ws, rfl, r2, rs⟩ := rs.uncons
    cases rs.unnil
    cases r1
    cases r2
    exact .inl ⟨_, _, rfl, o _ _ F H M (Ext.refl F) R (.int _) hd⟩
  · obtain ⟨ns, h1, h2, h3⟩ := hd
    obtain ⟨x, ws, rfl, r1, rs⟩ := rs.uncons
    cases rs.unnil
    obtain ⟨p, rfl, q⟩ := sqInts R r1 h1
    exact .inr ⟨p, ns, rfl, q, h2, fun m hm hle => o _ _ F H M (Ext.refl F) R (.int _) (h3 m hm hle)⟩
  · exact hd.elim⟩
def rSumD : List Dat → MH → VKD → Prop := fun ds M Q => match ds with
  | [x] => ∃ ns : List Int, lsR M x = some (ns.map Dat.int) ∧ Q (.int ns.sum) M
  | _ => False
theorem cd_sum (hc : X.calm = true) : CallD X (.builtin "sum") rSumD := ⟨_, cr_sum hc, fun Z F H M vs ds Q QD R rs hd o => by
  unfold rSumD at hd
  split at hd
  · obtain ⟨ns, h1, h3⟩ := hd
    obtain ⟨x, ws, rfl, r1, rs⟩ := rs.uncons
    cases rs.unnil
    obtain ⟨p, rfl, q⟩ := sqInts R r1 h1
    exact ⟨p, ns, rfl, q, o _ _ F H M (Ext.refl F) R (.int _) h3⟩
  · exact hd.elim⟩
def rAllD : List Dat → MH → VKD → Prop := fun ds M Q => match ds with
  | [x] => ∃ bs : List Bool, lsR M x = some (bs.map Dat.bl) ∧ Q (.bl (bs.all _root_.id)) M
  | _ => False
def rAnyD : List Dat → MH → VKD → Prop := fun ds M Q => match ds with
  | [x] => ∃ bs : List Bool, lsR M x = some (bs.map Dat.bl) ∧ Q (.bl (bs.any _root_.id)) M
  | _ => False
theorem cd_all (hc : X.calm = true) : CallD X (.builtin "all") rAllD := ⟨_, cr_all hc, fun Z F H M vs ds Q QD R rs hd o => by
  unfold rAllD at hd
  split at hd
  · obtain ⟨ns, h1, h3⟩ := hd
    obtain ⟨x, ws, rfl, r1, rs⟩ := rs.uncons
    cases rs.unnil
    obtain ⟨p, xs, rfl, q, r⟩ := lsR_rep R r1 h1
    rw [r.bls] at q
    exact ⟨p, ns, rfl, q, o _ _ F H M (Ext.refl F) R (.bl _) h3⟩
  · exact hd.elim⟩
theorem cd_any (hc : X.calm = true) : CallD X (.builtin "any") rAnyD := ⟨_, cr_any hc, fun Z F H M vs ds Q QD R rs hd o => by
  unfold rAnyD at hd
  split at hd
  · obtain ⟨ns, h1, h3⟩ := hd
    obtain ⟨x, ws, rfl, r1, rs⟩ := rs.uncons
    cases rs.unnil
    obtain ⟨p, xs, rfl, q, r⟩ := lsR_rep R r1 h1
    rw [r.bls] at q
    exact ⟨p, ns, rfl, q, o _ _ F H M (Ext.refl F) R (.bl _) h3⟩
  · exact hd.elim⟩
def rLenD : List Dat → MH → VKD → Prop := fun ds M Q => match ds with
  | [x] => ∃ ys, itemsR M x = some ys ∧ Q (.int (ys.length : Int)) M
  | _ => False
theorem cd_len : CallD X (.builtin "len") rLenD := ⟨_, call_len_seq, fun Z F H M vs ds Q QD R rs hd o => by
  unfold rLenD at hd
  split at hd
  · obtain ⟨ys, h1, h3⟩ := hd
    obtain ⟨x, ws, rfl, r1, rs⟩ := rs.uncons
    cases rs.unnil
    obtain ⟨p, xs, rfl, q, r⟩ := itemsR_rep R r1 h1
    refine ⟨p, xs, rfl, q, ?_⟩
    rw [r.length]
    exact o _ _ F H M (Ext.refl F) R (.int _) h3
  · exact hd.elim⟩
def rIntD : List Dat → MH → VKD → Prop := fun ds M Q => match ds with
  | [.int i] => Q (.int i) M
  | [.bl b] => Q (.int (if b then 1 else 0)) M
  | _ => False
theorem cd_int : CallD X (.type "int") rIntD := ⟨_, call_int1, fun Z F H M vs ds Q QD R rs hd o => by
  unfold rIntD at hd
  split at hd
  · obtain ⟨x, ws, rfl, r1, rs⟩ := rs.uncons
    cases rs.unnil
    cases r1
    exact .inl ⟨_, rfl, o _ _ F H M (Ext.refl F) R (.int _) hd⟩
  · obtain ⟨x, ws, rfl, r1, rs⟩ := rs.uncons
    cases rs.unnil
    cases r1
    exact .inr ⟨_, rfl, o _ _ F H M (Ext.refl F) R (.int _) hd⟩
  · exact hd.elim⟩
def rDivmodD : List Dat → MH → VKD → Prop := fun ds M Q => match ds with
  | [.int i, .int j] => CDivP i j ∧ Q (.tup [.int (i / j), .int (i % j)]) M
  | _ => False
theorem cd_divmod : CallD X (.builtin "divmod") rDivmodD := ⟨_, call_divmodW, fun Z F H M vs ds Q QD R rs hd o => by
  unfold rDivmodD at hd
  split at hd
  · obtain ⟨x, ws, rfl, r1, rs⟩ := rs.uncons
    obtain ⟨y, ws, rfl, r2, rs⟩ := rs.uncons
    cases rs.unnil
    cases r1
    cases r2
    refine ⟨_, _, rfl, hd.1, fun p hp => ?_⟩
    obtain ⟨R4, e4⟩ := R.newF (o := .tup _) hp
    exact o _ _ _ _ M e4 R4 (.tup (SqT.of upd_same) (.two (.int _) (.int _))) hd.2
  · exact hd.elim⟩
/-- sorted of ints -/
def rSortedD (mk : Bool) : List Dat → MH → VKD → Prop := fun ds M Q => match ds with
  | [x] => ∃ ns : List Int, lsR M x = some (ns.map Dat.int) ∧ ∀ ns' : List Int, ns'.Perm ns → ns'.Pairwise (· ≤ ·) → newL mk (ns'.map Dat.int) M Q
  | _ => False
theorem cd_sorted (mk : Bool) : CallD X (.builtin "sorted") (rSortedD mk) := ⟨_, cr_sortedI, fun Z F H M vs ds Q QD R rs hd o => by
  unfold rSortedD at hd
  split at hd
  · obtain ⟨ns, h1, h3⟩ := hd
    obtain ⟨x, ws, rfl, r1, rs⟩ := rs.uncons
    cases rs.unnil
    obtain ⟨p, rfl, q⟩ := sqInts R r1 h1
    exact ⟨p, ns, rfl, q, fun ns' p2 h4 h5 hp => sim_new R (reps_ints ns') (h3 ns' h4 h5) o hp⟩
  · exact hd.elim⟩
/-- list(xs) -/
def rListD (mk : Bool) : List Dat → MH → VKD → Prop := fun ds M Q => match ds with
  | [x] => ∃ ys, itemsR M x = some ys ∧ newL mk ys M Q
  | _ => False
theorem cd_list (mk : Bool) : CallD X (.type "list") (rListD mk) := ⟨_, call_list_of, fun Z F H M vs ds Q QD R rs hd o => by
  unfold rListD at hd
  split at hd
  · obtain ⟨ys, h1, h3⟩ := hd
    obtain ⟨x, ws, rfl, r1, rs⟩ := rs.uncons
    cases rs.unnil
    obtain ⟨p, xs, rfl, q, r⟩ := itemsR_rep R r1 h1
    exact ⟨p, xs, rfl, q, fun l hl => sim_new R r h3 o hl⟩
  · exact hd.elim⟩
/-- n.bit_length() -/
def dBits (da : TED) : TED := fun ρ M Q => da ρ M fun x M1 => match x with
  | .int i => Q (.int (Builtin.Int.intBits i : Nat)) M1
  | _ => False
theorem de_bits {o : Expr} {apos : Pos} {da : TED} (ho : DE X o da) (hbase : attributeBase o "bit_length" X.env (eval o X.env) = eval o X.env := by rfl) (hline : (apos.endLine == pos.line) = true := by rfl) : DE X (.Call (.Attribute o "bit_length" apos) [] [] pos) (dBits da) :=
  pe_w (pe_bits ho hbase hline) fun σ H Q ⟨Z, F, M, ρ, QD, R, h, o⟩ => by
    refine ⟨Z, F, M, ρ, _, R, h, fun x a F1 H1 M1 e1 R1 r1 h1 => ?_⟩
    split at h1
    · exact ⟨_, r1.toInt, o _ _ F1 H1 M1 e1 R1 (.int _) h1⟩
    · exact h1.elim
end
end DL
namespace DL
open PySem PySem.Spec PyProof.Rows L2
/-! ### blocks and small statements -/
section
variable {X : Cx} {st : Stmt} {rest : List Stmt} {t u : TSD} {e c a b : Expr} {es : List Expr} {de da db : TED} {dA : TAD} {tc : TTD} {pos : Pos}
def dNext : TSD := fun D ρ M => D.nx ρ M
def dSeq (t u : TSD) : TSD := fun D ρ M => t { D with nx := u D } ρ M
theorem dss_nil : DSs X [] dNext := pss_w pss_nil fun D σ H ⟨Z, F, M, ρ, DD, R, h, o⟩ => o.nx _ _ _ _ _ (Ext.refl F) R h
theorem dss_cons (h1 : DS X st t) (h2 : DSs X rest u) : DSs X (st :: rest) (dSeq t u) := pss_w (pss_cons h1 h2) fun D σ H ⟨Z, F, M, ρ, DD, R, h, o⟩ =>
  ⟨Z, F, M, ρ, _, R, h, ⟨fun σ' ρ' F' H' M' e R' q => ⟨Z, F', M', ρ', DD, R', q, o.mono e⟩, o.rt, o.bk, o.ct⟩⟩
theorem dss_one (h1 : DS X st t) : DSs X [st] t := pss_one h1
/-- a word between a statement and what follows: what follows is shown once -/
def dCut (t u : TSD) : TSD := fun D ρ M => ∃ Mid : EnvD → MH → Prop, t { D with nx := Mid } ρ M ∧ ∀ ρ' M', Mid ρ' M' → u D ρ' M'
theorem dss_cut (h1 : DS X st t) (h2 : DSs X rest u) : DSs X (st :: rest) (dCut t u) := pss_w (pss_cons h1 h2) fun D σ H ⟨Z, F, M, ρ, DD, R, ⟨Mid, h, k⟩, o⟩ =>
  ⟨Z, F, M, ρ, { DD with nx := Mid }, R, h, ⟨fun σ' ρ' F' H' M' e R' q => ⟨Z, F', M', ρ', DD, R', k _ _ q, o.mono e⟩, o.rt, o.bk, o.ct⟩⟩
/-- a slot's list never changes from here on -/
def dFrz (i : Nat) (t : TSD) : TSD := fun D ρ M => match atD ρ i with
  | some (.ref a) => ∃ ds, M a = some (.lst ds) ∧ t D (setD ρ i (some (.lst ds))) (delM M a)
  | _ => False
theorem RelE.reset {K : PySem.W.Frag} {F : Hp} {σ : L2.St} {ρ : EnvD} {v : V} {d d0 : Dat} {i : Nat} (r : RelE K F σ ρ) (h0 : atD ρ i = some d0) (hv : ∀ w, Rep K F w d0 → Rep K F w d) : RelE K F σ (setD ρ i (some d)) := by
  rw [setD_set]
  refine ⟨by rw [List.length_set]; exact r.len, fun j x q => ?_⟩
  by_cases e : i = j
  · subst e
    have hi : i < ρ.length := (List.getElem?_eq_some_iff.mp (atD_get h0)).1
    rw [List.getElem?_set_self hi] at q
    cases q
    obtain ⟨w, q1, g⟩ := r.at_ i d0 (atD_get h0)
    exact ⟨w, q1, hv w g⟩
  · rw [List.getElem?_set_ne e] at q
    exact r.at_ j x q
theorem dss_frz (i : Nat) {sts : List Stmt} (h : DSs X sts t) : DSs X sts (dFrz i t) := pss_w h fun D σ H ⟨Z, F, M, ρ, DD, R, h, o⟩ => by
  unfold dFrz at h
  split at h
  · rename_i a e
    obtain ⟨ds, h1, h2⟩ := h
    obtain ⟨xs, q, r⟩ := (R.m.chg a _ h1).2
    obtain ⟨R2, e2⟩ := R.m.frz h1 q
    refine ⟨Z, _, _, _, DD, ⟨R2, RelE.reset (v := .ref a) (R.e.mono e2) e fun w g => ?_⟩, h2, o.mono e2⟩
    cases g
    exact .lst upd_same (r.mono e2)
  · exact h.elim
def dBreak : TSD := fun D ρ M => D.bk ρ M
def dCont : TSD := fun D ρ M => D.ct ρ M
theorem ds_pass : DS X (.Pass pos) dNext := ps_w ps_pass fun D σ H ⟨Z, F, M, ρ, DD, R, h, o⟩ => o.nx _ _ _ _ _ (Ext.refl F) R h
theorem ds_break : DS X (.Break pos) dBreak := ps_w ps_break fun D σ H ⟨Z, F, M, ρ, DD, R, h, o⟩ => o.bk _ _ _ _ _ (Ext.refl F) R h
theorem ds_cont : DS X (.Continue pos) dCont := ps_w ps_continue fun D σ H ⟨Z, F, M, ρ, DD, R, h, o⟩ => o.ct _ _ _ _ _ (Ext.refl F) R h
def dDrop (de : TED) : TSD := fun D ρ M => de ρ M fun _ M1 => D.nx ρ M1
theorem ds_expr (he : DE X e de) (hs : swapsWith e none pos.line X.env = pure false := by rfl) : DS X (.Expr e pos) (dDrop de) := ps_w (ps_expr he hs) fun D σ H ⟨Z, F, M, ρ, DD, R, h, o⟩ =>
  ⟨Z, F, M, ρ, _, R, h, fun v d F1 H1 M1 e1 R1 r1 h1 => o.nx _ _ _ _ _ e1 (R.ext e1 R1) h1⟩
def dRet (de : TED) : TSD := fun D ρ M => de ρ M D.rt
theorem ds_ret (he : DE X e de) : DS X (.Return (some e) pos) (dRet de) := ps_w (ps_ret he) fun D σ H ⟨Z, F, M, ρ, DD, R, h, o⟩ => ⟨Z, F, M, ρ, _, R, h, o.rt⟩
def dRetN : TSD := fun D _ M => D.rt .non M
theorem ds_retN : DS X (.Return none pos) dRetN := ps_w ps_retN fun D σ H ⟨Z, F, M, ρ, DD, R, h, o⟩ => o.rt _ _ _ _ _ (Ext.refl F) R.m .non h
def dIfS (c : TTD) (t u : TSD) : TSD := fun D ρ M => c ρ M fun b M1 => if b = true then t D ρ M1 else u D ρ M1
theorem ds_if {p q : List Stmt} (hc : DT X c tc) (ha : DSs X p t) (hb : DSs X q u) : DS X (.If c p q pos) (dIfS tc t u) := ps_w (ps_if hc ha hb) fun D σ H ⟨Z, F, M, ρ, DD, R, h, o⟩ => by
  refine ⟨Z, F, M, ρ, _, R, h, fun k F1 H1 M1 e1 R1 h1 => ?_⟩
  cases k with
  | true =>
    rw [if_pos rfl] at h1 ⊢
    exact ⟨Z, F1, M1, ρ, DD, R.ext e1 R1, h1, o.mono e1⟩
  | false =>
    rw [if_neg Bool.false_ne_true] at h1 ⊢
    exact ⟨Z, F1, M1, ρ, DD, R.ext e1 R1, h1, o.mono e1⟩
def dNever : TSD := fun _ _ _ => False
theorem ds_never : DS X st dNever := ps_w ps_never fun D σ H ⟨Z, F, M, ρ, DD, R, h, o⟩ => h.elim
theorem dss_never {sts : List Stmt} : DSs X sts dNever := pss_w pss_never fun D σ H ⟨Z, F, M, ρ, DD, R, h, o⟩ => h.elim
/-! ### targets -/
/-- a target that stores slots among vs alone -/
def upGo (K : PySem.W.Frag) (vs : List Nat) (d : TGD) : TG := fun v σ H Q => ∃ Z F M ρ x QD, Rel K Z F H M σ ρ ∧ Rep K F v x ∧ d x ρ M QD ∧ (∀ σ' ρ' F' H' M', Ext F F' → Rel K Z F' H' M' σ' ρ' → wipe σ' vs = wipe σ vs → QD ρ' M' → Q σ' H')
abbrev DGo (X : Cx) (tg : Expr) (vs : List Nat) (d : TGD) : Prop := PG X tg (upGo X.K vs d)
theorem DGo.dg {tg : Expr} {vs : List Nat} {d : TGD} (h : DGo X tg vs d) : DG X tg d := pg_w h fun v σ H Q ⟨Z, F, M, ρ, x, QD, R, r, h, o⟩ => ⟨Z, F, M, ρ, x, QD, R, r, h, fun σ' ρ' F' H' M' e R' _ q => o σ' ρ' F' H' M' e R' q⟩
theorem wipe_get (σ : L2.St) : ∀ (vs : List Nat) (j : Nat), (wipe σ vs)[j]? = if j ∈ vs ∧ j < σ.length then some none else σ[j]?
  | [], j => by simp [wipe]
  | v :: vs, j => by
    unfold wipe
    by_cases e : v = j
    · subst e
      by_cases hl : v < σ.length
      · rw [List.getElem?_set_self (by rw [wipe_length]; exact hl), if_pos ⟨List.mem_cons_self .., hl⟩]
      · rw [List.getElem?_eq_none (by rw [List.length_set, wipe_length]; omega), if_neg (fun h => hl h.2), List.getElem?_eq_none (by omega)]
    · rw [List.getElem?_set_ne e, wipe_get σ vs j]
      have : (j ∈ v :: vs) ↔ j ∈ vs := by simp [Ne.symm e]
      simp only [this]
theorem wipe_ext {σ τ : L2.St} {vs : List Nat} (hl : σ.length = τ.length) (h : ∀ j, j ∉ vs → σ[j]? = τ[j]?) : wipe σ vs = wipe τ vs := by
  apply List.ext_getElem?
  intro j
  rw [wipe_get, wipe_get, hl]
  by_cases hj : j ∈ vs ∧ j < τ.length
  · rw [if_pos hj, if_pos hj]
  · rw [if_neg hj, if_neg hj]
    by_cases hv : j ∈ vs
    · have : ¬ j < τ.length := fun z => hj ⟨hv, z⟩
      rw [List.getElem?_eq_none (by omega), List.getElem?_eq_none (by omega)]
    · exact h j hv
theorem wipe_set {σ : L2.St} {vs : List Nat} {i : Nat} {v : Option V} (hi : i ∈ vs) : wipe (σ.set i v) vs = wipe σ vs :=
  wipe_ext (List.length_set ..) fun j hj => List.getElem?_set_ne (fun e : i = j => hj (by rw [← e]; exact hi))
theorem wipe_wipe {σ : L2.St} {vs : List Nat} : wipe (wipe σ vs) vs = wipe σ vs := wipe_ext (wipe_length ..) fun j hj => by
  rw [wipe_get, if_neg fun h => hj h.1]
def dgN (i : Nat) : TGD := fun x ρ M Q => Q (setD ρ i (some x)) M
theorem dgo_name {i : Nat} {x : Str} {vs : List Nat} (hm : i ∈ vs) (hN : X.N.Nodup) (hi : X.N[i]? = some x) (hx : Loc X.env.scope x := by first | exact Or.inl rfl | exact Or.inr rfl) (hf : X.fn x = true ∨ X.env.scope.names.lookup x = some .local := by first | exact .inl rfl | exact .inr rfl | assumption) : DGo X (.Name x pos) vs (dgN i) :=
  pg_w (pg_name hN hi hx hf) fun v σ H Q ⟨Z, F, M, ρ, x, QD, R, r, h, o⟩ => by
    refine o _ _ F H M (Ext.refl F) ⟨R.m, ?_⟩ (wipe_set hm) h
    rw [setD_set]
    exact R.e.set r i
theorem dg_name {i : Nat} {x : Str} (hN : X.N.Nodup) (hi : X.N[i]? = some x := by rfl) (hx : Loc X.env.scope x := by first | exact Or.inl rfl | exact Or.inr rfl) (hf : X.fn x = true ∨ X.env.scope.names.lookup x = some .local := by first | exact .inl rfl | exact .inr rfl | assumption) : DG X (.Name x pos) (dgN i) :=
  (dgo_name (vs := [i]) (List.mem_singleton.mpr rfl) hN hi hx hf).dg
/-- several targets -/
abbrev TGsD := List Dat → EnvD → MH → (EnvD → MH → Prop) → Prop
def upGs (K : PySem.W.Frag) (vs : List Nat) (d : TGsD) : TGs := fun v σ H Q => ∃ Z F M ρ x QD, Rel K Z F H M σ ρ ∧ Reps K F v x ∧ d x ρ M QD ∧ (∀ σ' ρ' F' H' M', Ext F F' → Rel K Z F' H' M' σ' ρ' → wipe σ' vs = wipe σ vs → QD ρ' M' → Q σ' H')
abbrev DGs (X : Cx) (ts : List Expr) (vs : List Nat) (d : TGsD) : Prop := PGs X ts (upGs X.K vs d)
theorem pgs_w {ts : List Expr} {t u : TGs} (h : PGs X ts t) (w : ∀ v σ H Q, u v σ H Q → t v σ H Q) : PGs X ts u := ⟨fun pins s σ H vs us Q I r q => h.run pins s σ H vs us Q I r (w vs σ H Q q)⟩
def dgNil : TGsD := fun xs ρ M Q => match xs with
  | [] => Q ρ M
  | _ => False
def dgCons (t : TGD) (u : TGsD) : TGsD := fun xs ρ M Q => match xs with
  | x :: r => t x ρ M fun ρ' M' => u r ρ' M' Q
  | _ => False
theorem dgs_nil {vs : List Nat} : DGs X [] vs dgNil := pgs_w pgs_nil fun v σ H Q ⟨Z, F, M, ρ, x, QD, R, r, h, o⟩ => by
  unfold dgNil at h
  split at h
  · exact ⟨r.unnil, o _ _ F H M (Ext.refl F) R rfl h⟩
  · exact h.elim
theorem dgs_cons {vs : List Nat} {t : TGD} {u : TGsD} (h1 : DGo X e vs t) (h2 : DGs X es vs u) (hs : (assignEach (e :: es) X.env).map (·.2) = assign e X.env :: (assignEach es X.env).map (·.2) := by rfl) : DGs X (e :: es) vs (dgCons t u) :=
  pgs_w (pgs_cons h1 h2 hs) fun v σ H Q ⟨Z, F, M, ρ, x, QD, R, r, h, o⟩ => by
    unfold dgCons at h
    split at h
    · obtain ⟨w, ws, rfl, r1, r2⟩ := r.uncons
      refine ⟨w, ws, rfl, Z, F, M, ρ, _, _, R, r1, h, fun σ' ρ' F' H' M' e1 R1 w1 h1 => ?_⟩
      exact ⟨Z, F', M', ρ', _, QD, R1, r2.mono e1, h1, fun σ2 ρ2 F2 H2 M2 e2 R2 w2 h2 => o σ2 ρ2 F2 H2 M2 (e1.trans e2) R2 (w2.trans w1) h2⟩
    · exact h.elim
def dgT (n : Nat) (t : TGsD) : TGD := fun x ρ M Q => match x with
  | .tup ds => ds.length = n ∧ t ds ρ M Q
  | _ => False
theorem dgo_tup {k n : Nat} {vs : List Nat} {t : TGsD} (h : DGs X es vs t) (hc : X.calm = true := by rfl)
    (hn : (assignEach es X.env).length = n := by rfl) (hst : (assignEach es X.env).findIdx? (·.1) = none := by rfl) : DGo X (.Tuple es k pos) vs (dgT n t) :=
  pg_w (pg_tup hc h hn hst) fun v σ H Q ⟨Z, F, M, ρ, x, QD, R, r, h, o⟩ => by
    unfold dgT at h
    split at h
    · cases r with
      | tup q r => exact ⟨_, _, rfl, ext_t R.m.sub q, by rw [r.length]; exact h.1, Z, F, M, ρ, _, QD, R, r, h.2, o⟩
    · exact h.elim
/-- o[i] = .. of a list that changes -/
def dgSub (do_ di : TED) : TGD := fun x ρ M Q => do_ ρ M fun o M1 => di ρ M1 fun i M2 => match o with
  | .ref a => (match i with
    | .int k => ∃ ds j, M2 a = some (.lst ds) ∧ ixN ds.length k = some j ∧ Q ρ (updM M2 a (.lst (ds.set j x)))
    | _ => False)
  | _ => False
theorem dg_sub {o i : Expr} {do_ di : TED} (ho : DE X o do_) (hi : DE X i di)
    (ha : ∀ v, assign (.Subscript o i pos) X.env v = (do
      let ov ← holding [v] (eval o X.env)
      let iv ← holding [v, ov] (eval i X.env)
      standAt pos
      holding [v, ov, iv] (setItem ov iv v)
      release [v, ov, iv] []) := by intro _; rfl) : DG X (.Subscript o i pos) (dgSub do_ di) :=
  pg_w (pg_sub ho hi set_list ha) fun v σ H Q ⟨Z, F, M, ρ, x, QD, R, r, h, o⟩ => by
    refine ⟨Z, F, M, ρ, _, R, h, fun w a F1 H1 M1 e1 R1 r1 h1 => ?_⟩
    refine ⟨Z, F1, M1, ρ, _, R.ext e1 R1, h1, fun w2 b F2 H2 M2 e2 R2 r2 h2 => ?_⟩
    split at h2
    · rename_i p
      split at h2
      · rename_i k
        obtain ⟨ds, j, q1, q2, q3⟩ := h2
        cases r1
        obtain ⟨xs, q4, r4⟩ := (R2.chg p _ q1).2
        refine ⟨p, xs, k, j, rfl, r2.toInt, q4, by rw [r4.length]; exact q2, ?_⟩
        have R3 := R2.write (o := .lst (xs.set j v)) (m := .lst (ds.set j x)) q1 ⟨_, upd_same, r4.set (r.mono (e1.trans e2)) j⟩
        exact o _ _ _ _ _ (e1.trans e2) (R.ext (e1.trans e2) R3) q3
      · exact h2.elim
    · exact h2.elim
def dAsg (de : TED) (g : TGD) : TSD := fun D ρ M => de ρ M fun x M1 => g x ρ M1 D.nx
theorem up_asg {K : PySem.W.Frag} {g : TGD} {D : Ends} {σ : L2.St} {H : Hp} (h : upS K (dAsg de g) D σ H) : tAsg (up K de) (upG K g) D σ H := by
  obtain ⟨Z, F, M, ρ, DD, R, h, o⟩ := h
  refine ⟨Z, F, M, ρ, _, R, h, fun v d F1 H1 M1 e1 R1 r1 h1 => ?_⟩
  exact ⟨Z, F1, M1, ρ, d, _, R.ext e1 R1, r1, h1, o.nx.mono e1⟩
theorem ds_asg {tg : Expr} {g : TGD} (he : DE X e de) (hg : DG X tg g) (hs : swapsWithSole [tg] e pos.line X.env = pure false := by rfl) (hw : swappedStores [tg] e X.env = pure none := by rfl)
    (h1 : (assignEach [tg] X.env).map (·.2) = [assign tg X.env] := by rfl) : DS X (.Assign [tg] e pos) (dAsg de g) := ps_w (ps_asg he hg hs hw h1) fun D σ H h => up_asg h
theorem ds_set {i : Nat} {x : Str} {pos' : Pos} (hN : X.N.Nodup) (he : DE X e de) (hi : X.N[i]? = some x := by rfl) (hx : Loc X.env.scope x := by first | exact Or.inl rfl | exact Or.inr rfl) (hs : swapsWith e (some (.Name x pos')) pos.line X.env = pure false := by rfl) (hf : X.fn x = true ∨ X.env.scope.names.lookup x = some .local := by first | exact .inl rfl | exact .inr rfl | assumption) :
    DS X (.Assign [.Name x pos'] e pos) (dAsg de (dgN i)) := ps_w (ps_set hN hi hx he hs hf) fun D σ H ⟨Z, F, M, ρ, DD, R, h, o⟩ => by
  refine ⟨Z, F, M, ρ, _, R, h, fun v d F1 H1 M1 e1 R1 r1 h1 => ?_⟩
  refine o.nx _ _ _ _ _ e1 ⟨R1, ?_⟩ h1
  rw [setD_set]
  exact (R.e.mono e1).set r1 i
/-- a, b = x, y and a, b, c = x, y, z of plain local names -/
def dPar (i j : Nat) (dA : TAD) : TSD := fun D ρ M => dA ρ M fun xs M1 => match xs with
  | [x, y] => D.nx (setD (setD ρ i (some x)) j (some y)) M1
  | _ => False
theorem ds_par {i j : Nat} {x y : Str} {px py pt : Pos} {kt k2 pt2} (hN : X.N.Nodup) (ha : DA X [a, b] dA) (hi : X.N[i]? = some x := by rfl) (hj : X.N[j]? = some y := by rfl) (hij : i ≠ j := by decide)
    (hx : X.env.scope.names.lookup x = some .local := by rfl) (hy : X.env.scope.names.lookup y = some .local := by rfl)
    (hw : swappedStores [.Tuple [.Name x px, .Name y py] kt pt] (.Tuple [a, b] k2 pt2) X.env = pure (some [x, y]) := by rfl) (hc : X.calm = true := by rfl)
    (hs : swapsWithSole [.Tuple [.Name x px, .Name y py] kt pt] (.Tuple [a, b] k2 pt2) pos.line X.env = pure false := by rfl) :
    DS X (.Assign [.Tuple [.Name x px, .Name y py] kt pt] (.Tuple [a, b] k2 pt2) pos) (dPar i j dA) := ps_w (ps_par hc hN hi hj hij hx hy ha hw hs) fun D σ H ⟨Z, F, M, ρ, DD, R, h, o⟩ => by
  refine ⟨Z, F, M, ρ, _, R, h, fun vs ds F1 H1 M1 e1 R1 r1 h1 => ?_⟩
  split at h1
  · obtain ⟨v, ws, rfl, q1, r1⟩ := r1.uncons
    obtain ⟨w, ws, rfl, q2, r1⟩ := r1.uncons
    cases r1.unnil
    refine ⟨v, w, rfl, o.nx _ _ _ _ _ e1 ⟨R1, ?_⟩ h1⟩
    rw [setD_set, setD_set]
    exact ((R.e.mono e1).set q1 i).set q2 j
  · exact h1.elim
def dPar3 (i j l : Nat) (dA : TAD) : TSD := fun D ρ M => dA ρ M fun xs M1 => match xs with
  | [x, y, z] => D.nx (setD (setD (setD ρ i (some x)) j (some y)) l (some z)) M1
  | _ => False
theorem ds_par3 {i j l : Nat} {x y z : Str} {px py pz pt : Pos} {kt k2 pt2} (hN : X.N.Nodup) (ha : DA X [a, b, c] dA) (hi : X.N[i]? = some x := by rfl) (hj : X.N[j]? = some y := by rfl) (hl : X.N[l]? = some z := by rfl) (hij : i ≠ j := by decide) (hil : i ≠ l := by decide) (hjl : j ≠ l := by decide)
    (hx : X.env.scope.names.lookup x = some .local := by rfl) (hy : X.env.scope.names.lookup y = some .local := by rfl) (hz : X.env.scope.names.lookup z = some .local := by rfl)
    (hw : swappedStores [.Tuple [.Name x px, .Name y py, .Name z pz] kt pt] (.Tuple [a, b, c] k2 pt2) X.env = pure (some [x, y, z]) := by rfl) (hc : X.calm = true := by rfl)
    (hs : swapsWithSole [.Tuple [.Name x px, .Name y py, .Name z pz] kt pt] (.Tuple [a, b, c] k2 pt2) pos.line X.env = pure false := by rfl) :
    DS X (.Assign [.Tuple [.Name x px, .Name y py, .Name z pz] kt pt] (.Tuple [a, b, c] k2 pt2) pos) (dPar3 i j l dA) := ps_w (ps_par3 hc hN hi hj hl hij hil hjl hx hy hz ha hw hs) fun D σ H ⟨Z, F, M, ρ, DD, R, h, o⟩ => by
  refine ⟨Z, F, M, ρ, _, R, h, fun vs ds F1 H1 M1 e1 R1 r1 h1 => ?_⟩
  split at h1
  · obtain ⟨v, ws, rfl, q1, r1⟩ := r1.uncons
    obtain ⟨w, ws, rfl, q2, r1⟩ := r1.uncons
    obtain ⟨w3, ws, rfl, q3, r1⟩ := r1.uncons
    cases r1.unnil
    refine ⟨v, w, w3, rfl, o.nx _ _ _ _ _ e1 ⟨R1, ?_⟩ h1⟩
    rw [setD_set, setD_set, setD_set]
    exact (((R.e.mono e1).set q1 i).set q2 j).set q3 l
  · exact h1.elim
/-! ### a field stored -/
def putD (f : Str) (d : Dat) : List (Str × Dat) → List (Str × Dat)
  | [] => [(f, d)]
  | (g, x) :: r => if g = f then (g, d) :: r else (g, x) :: putD f d r
theorem put_rep {K : PySem.W.Frag} {F : Hp} {f : Str} {v : V} {d : Dat} (r : Rep K F v d) {fs : List (Str × V)} {gs : List (Str × Dat)} (q : RepF K F fs gs) : RepF K F (putF f v fs) (putD f d gs) := by
  induction fs generalizing gs with
  | nil =>
    cases q
    exact .cons r .nil
  | cons p fs ih =>
    cases q with
    | @cons g w vs d' ds r1 r2 =>
      unfold putF putD
      by_cases e : g = f
      · rw [if_pos e, if_pos e]
        exact .cons r r2
      · rw [if_neg e, if_neg e]
        exact .cons r1 (ih r2)
theorem put_nodup {f : Str} {v : V} : ∀ {fs : List (Str × V)}, (fs.map (·.1)).Nodup → ((putF f v fs).map (·.1)).Nodup := by
  have mem : ∀ {fs : List (Str × V)} {g : Str}, g ∈ (putF f v fs).map (·.1) → g = f ∨ g ∈ fs.map (·.1) := by
    intro fs g
    induction fs with
    | nil =>
      intro h
      unfold putF at h
      simp at h
      exact .inl h
    | cons p fs ih =>
      obtain ⟨k, w⟩ := p
      intro h
      unfold putF at h
      by_cases e : k = f
      · rw [if_pos e] at h
        exact .inr h
      · rw [if_neg e] at h
        rw [List.map_cons] at h ⊢
        rcases List.mem_cons.mp h with h | h
        · exact .inr (by rw [h]; exact List.mem_cons_self ..)
        · rcases ih h with h | h
          · exact .inl h
          · exact .inr (List.mem_cons_of_mem _ h)
  intro fs
  induction fs with
  | nil =>
    intro _
    unfold putF
    simp
  | cons p fs ih =>
    obtain ⟨k, w⟩ := p
    intro h
    unfold putF
    by_cases e : k = f
    · rw [if_pos e]
      exact h
    · rw [if_neg e]
      rw [List.map_cons, List.nodup_cons] at h ⊢
      exact ⟨fun z => (mem z).elim e h.1, ih h.2⟩
def dSetF (C : Addr) (f : Str) (da dv : TED) : TSD := fun D ρ M => dv ρ M fun y M1 => da ρ M1 fun x M2 => match x with
  | .ref a => ∃ gs, M2 a = some (.ins C gs) ∧ gs.length < 1000 ∧ D.nx ρ (updM M2 a (.ins C (putD f y gs)))
  | _ => False
theorem repF_len {K : PySem.W.Frag} {F : Hp} {fs : List (Str × V)} {gs : List (Str × Dat)} (q : RepF K F fs gs) : fs.length = gs.length := by
  induction fs generalizing gs with
  | nil =>
    cases q
    rfl
  | cons p fs ih =>
    cases q with
    | cons r1 r2 => exact congrArg Nat.succ (ih r2)
theorem ds_setF {C : Addr} {f : Str} {o value : Expr} {da dv : TED} {pos' : Pos} (cl : Cls X.K C) (nf : NoAttr X.K C f) (ha : DE X o da) (hv : DE X value dv) (hs : swapsWith value (some (.Attribute o f pos')) pos.line X.env = pure false := by rfl) :
    DS X (.Assign [.Attribute o f pos'] value pos) (dSetF C f da dv) := ps_w (ps_fld ha hv hs) fun D σ H ⟨Z, F, M, ρ, DD, R, h, o⟩ => by
  refine ⟨Z, F, M, ρ, _, R, h, fun y d F1 H1 M1 e1 R1 r1 h1 => ?_⟩
  refine ⟨Z, F1, M1, ρ, _, R.ext e1 R1, h1, fun x b F2 H2 M2 e2 R2 r2 h2 => ?_⟩
  split at h2
  · rename_i p
    obtain ⟨gs, q1, q2, q3⟩ := h2
    cases r2
    obtain ⟨dx, fs, q4, q5, q6⟩ := (R2.chg p _ q1).2
    refine ⟨p, C, dx, fs, rfl, q4, cl, nf, by rw [repF_len q5]; exact q2, ?_⟩
    have R3 := R2.write (o := .ins C dx (putF f y fs)) (m := .ins C (putD f d gs)) q1 ⟨_, _, upd_same, put_rep (r1.mono e2) q5, put_nodup q6⟩
    exact o.nx _ _ _ _ _ (e1.trans e2) (R.ext (e1.trans e2) R3) q3
  · exact h2.elim
/-! ### methods of a list that changes -/
/-- o.m(..), a built-in's: a reading of the object and the arguments -/
def dMt (r : Dat → List Dat → MH → VKD → Prop) (do_ : TED) (dA : TAD) : TED := fun ρ M Q => do_ ρ M fun x M1 => (∃ ds, lsR M1 x = some ds) ∧ dA ρ M1 fun xs M2 => r x xs M2 Q
def MtD (X : Cx) (id : String) (d : Dat → List Dat → MH → VKD → Prop) : Prop := ∃ r, MtM X id r ∧ ∀ Z F H M x xs a as Q QD, RelM X.K Z F H M → Rep X.K F x a → Reps X.K F xs as → d a as M QD → OkV X.K Z F Q QD → r x xs H Q
variable {o : Expr} {do_ : TED} {name : Str} {apos : Pos} {id : String} {r : Dat → List Dat → MH → VKD → Prop}
theorem de_mt (slot : Slot "list" name id) (hty : typeOf (.builtin id) = pure (.type "method_descriptor")) (hm : MtD X id r) (ho : DE X o do_) (ha : DA X (e :: es) dA)
    (hbase : attributeBase o name X.env (eval o X.env) = eval o X.env := by rfl)
    (hfew : ((backTo pos (starEach (e :: es) X.env)).all (fun x => !x.1) && (backToKw pos (keywordEach [] X.env)).all (fun x => x.1.isSome)
      && decide ((e :: es).length + ([] : List Keyword).length + (if ([] : List Keyword).isEmpty then 0 else 1) < 30)) = true := by rfl)
    (hline : (apos.endLine == pos.line) = true := by rfl) (hs : starEach (e :: es) X.env = (false, eval e X.env) :: starEach es X.env := by rfl) (hplain : (backTo pos (starEach es X.env)).any (·.1) = false := by rfl) :
    DE X (.Call (.Attribute o name apos) (e :: es) [] pos) (dMt r do_ dA) := by
  obtain ⟨t, ht, hsim⟩ := hm
  refine pe_w (pe_bm PySem.F.plainAttrs_list slot hty ht ho ha hbase hfew hline hs hplain) fun σ H Q ⟨Z, F, M, ρ, QD, R, h, o⟩ => ?_
  refine ⟨Z, F, M, ρ, _, R, h, fun x a F1 H1 M1 e1 R1 r1 h1 => ?_⟩
  obtain ⟨⟨ds, q1⟩, h1⟩ := h1
  obtain ⟨p, xs, rfl, q, rr⟩ := lsR_rep R1 r1 q1
  refine ⟨.inl ⟨rfl, xs, q⟩, Z, F1, M1, ρ, _, R.ext e1 R1, h1, fun ys bs F2 H2 M2 e2 R2 r2 h2 => ?_⟩
  exact hsim Z F2 H2 M2 _ _ _ _ Q QD R2 (r1.mono e2) r2 h2 (o.mono (e1.trans e2))
theorem de_mt0 (slot : Slot "list" name id) (hty : typeOf (.builtin id) = pure (.type "method_descriptor")) (hm : MtD X id r) (ho : DE X o do_)
    (hbase : attributeBase o name X.env (eval o X.env) = eval o X.env := by rfl) (hline : (apos.endLine == pos.line) = true := by rfl) :
    DE X (.Call (.Attribute o name apos) [] [] pos) (dMt r do_ dNil) := by
  obtain ⟨t, ht, hsim⟩ := hm
  refine pe_w (pe_bm0 PySem.F.plainAttrs_list slot hty ht ho hbase hline) fun σ H Q ⟨Z, F, M, ρ, QD, R, h, o⟩ => ?_
  refine ⟨Z, F, M, ρ, _, R, h, fun x a F1 H1 M1 e1 R1 r1 h1 => ?_⟩
  obtain ⟨⟨ds, q1⟩, h1⟩ := h1
  obtain ⟨p, xs, rfl, q, rr⟩ := lsR_rep R1 r1 q1
  exact ⟨.inl ⟨rfl, xs, q⟩, hsim Z F1 H1 M1 _ _ _ _ Q QD R1 r1 .nil h1 (o.mono e1)⟩
def rAppendD : Dat → List Dat → MH → VKD → Prop := fun x as M Q => match x with
  | .ref a => (match as with
    | [d] => ∃ ds, M a = some (.lst ds) ∧ ds.length < sizeLine ∧ Q .non (updM M a (.lst (ds ++ [d])))
    | _ => False)
  | _ => False
theorem md_append : MtD X "list.append" rAppendD := ⟨_, mt_append, fun Z F H M x xs a as Q QD R ra rs hd o => by
  unfold rAppendD at hd
  split at hd
  · rename_i p
    split at hd
    · rename_i d
      obtain ⟨ds, q1, q2, q3⟩ := hd
      cases ra
      obtain ⟨v, ws, rfl, r1, rs⟩ := rs.uncons
      cases rs.unnil
      obtain ⟨ys, q4, r4⟩ := (R.chg p _ q1).2
      refine ⟨p, ys, v, rfl, rfl, q4, by rw [r4.length]; exact q2, ?_⟩
      have R3 := R.write (o := .lst (ys ++ [v])) (m := .lst (ds ++ [d])) q1 ⟨_, upd_same, r4.app (.one r1)⟩
      exact o _ _ F _ _ (Ext.refl F) R3 .non q3
    · exact hd.elim
  · exact hd.elim⟩
def rPopD : Dat → List Dat → MH → VKD → Prop := fun x as M Q => match x with
  | .ref a => (match as with
    | [] => ∃ ds d, M a = some (.lst ds) ∧ ds[ds.length - 1]? = some d ∧ Q d (updM M a (.lst ds.dropLast))
    | _ => False)
  | _ => False
theorem md_pop : MtD X "list.pop" rPopD := ⟨_, mt_pop, fun Z F H M x xs a as Q QD R ra rs hd o => by
  unfold rPopD at hd
  split at hd
  · rename_i p
    split at hd
    · obtain ⟨ds, d, q1, q2, q3⟩ := hd
      cases ra
      cases rs.unnil
      obtain ⟨ys, q4, r4⟩ := (R.chg p _ q1).2
      obtain ⟨v, q5, r5⟩ := r4.get q2
      refine ⟨p, ys, v, rfl, rfl, q4, by rw [r4.length]; exact q5, ?_⟩
      have R3 := R.write (o := .lst ys.dropLast) (m := .lst ds.dropLast) q1 ⟨_, upd_same, r4.dropLast⟩
      exact o _ _ F _ _ (Ext.refl F) R3 r5 q3
    · exact hd.elim
  · exact hd.elim⟩
/-- xs.extend(ys) -/
def rExtendD : Dat → List Dat → MH → VKD → Prop := fun x as M Q => match x with
  | .ref a => (match as with
    | [d] => ∃ ds es, M a = some (.lst ds) ∧ lsT M d = some es ∧ ds.length + es.length ≤ sizeLine ∧ Q .non (updM M a (.lst (ds ++ es)))
    | _ => False)
  | _ => False
theorem md_extend : MtD X "list.extend" rExtendD := ⟨_, mt_extend, fun Z F H M x xs a as Q QD R ra rs hd o => by
  unfold rExtendD at hd
  split at hd
  · rename_i p
    split at hd
    · rename_i d
      obtain ⟨ds, es, q1, q2, q3, q4⟩ := hd
      cases ra
      obtain ⟨v, ws, rfl, r1, rs⟩ := rs.uncons
      cases rs.unnil
      obtain ⟨ys, q5, r5⟩ := (R.chg p _ q1).2
      obtain ⟨p2, zs, rfl, q6, r6⟩ := lsT_rep R r1 q2
      refine ⟨p, p2, ys, zs, rfl, rfl, q5, q6, by rw [r5.length, r6.length]; exact q3, ?_⟩
      have R3 := R.write (o := .lst (ys ++ zs)) (m := .lst (ds ++ es)) q1 ⟨_, upd_same, r5.app r6⟩
      exact o _ _ F _ _ (Ext.refl F) R3 .non q4
    · exact hd.elim
  · exact hd.elim⟩
end
end DL
namespace DL
open PySem PySem.Spec PyProof.Rows L2
/-! ### what a def promises, over data -/
abbrev SpD := List Dat → MH → VKD → Prop
def toSp (K : PySem.W.Frag) (sp : SpD) : Sp := fun vs H Q _ => ∃ Z F M ds QD, RelM K Z F H M ∧ Reps K F vs ds ∧ sp ds M QD ∧ OkV K Z F Q QD
/-- a def stands in the text -/
structure HasFn (K : PySem.W.Frag) (mg : Str → Option Value) (x qual : Str) (st : Stmt) (ps : List Str) : Prop where
  ex : ∃ f fd, Fun K x qual st f fd ∧ mg x = some (.ref f) ∧ Binds K fd ps []
/-- .. and keeps a promise -/
structure FnD (P : Program) (w : World) (K : PySem.W.Frag) (mg : Str → Option Value) (base : Heap) (k : Nat) (x : Str) (st : Stmt) (ps : List Str) (sp : SpD) : Prop where
  ex : ∃ f fd, Fun K x x st f fd ∧ mg x = some (.ref f) ∧ Binds K fd ps [] ∧ FnOk P w K mg base CX0 k f fd ps (toSp K sp)
/-- a method of the class at C -/
structure HasMt (K : PySem.W.Frag) (C : Addr) (m qual : Str) (st : Stmt) (ps : List Str) : Prop where
  ex : ∃ f fd, Fun K m qual st f fd ∧ Meth K C m f ∧ Binds K fd ps []
structure MtdD (P : Program) (w : World) (K : PySem.W.Frag) (mg : Str → Option Value) (base : Heap) (k : Nat) (C : Addr) (m : Str) (st : Stmt) (ps : List Str) (sp : SpD) : Prop where
  ex : ∃ qual f fd, Fun K m qual st f fd ∧ Meth K C m f ∧ Binds K fd ps [] ∧ FnOk P w K mg base CX0 k f fd ps (toSp K sp)
/-- the class at C and its __init__ -/
structure HasCl (K : PySem.W.Frag) (mg : Str → Option Value) (x : Str) (C : Addr) (qual : Str) (st : Stmt) (ps : List Str) : Prop where
  ex : ∃ f fd, Fun K "__init__" qual st f fd ∧ mg x = some (.ref C) ∧ Mk K C f ∧ Binds K fd ps []
structure ClD (P : Program) (w : World) (K : PySem.W.Frag) (mg : Str → Option Value) (base : Heap) (k : Nat) (x : Str) (C : Addr) (st : Stmt) (ps : List Str) (sp : SpD) : Prop where
  ex : ∃ qual f fd, Fun K "__init__" qual st f fd ∧ mg x = some (.ref C) ∧ Mk K C f ∧ Binds K fd ps [] ∧ FnOk P w K mg base CX0 k f fd ps (toSp K sp)
def endD (Q : VKD) : VKD := fun d M' => ∃ M0, LeM M0 M' ∧ Q d M0
def startD : Nat → List Dat → EnvD
  | 0, _ => []
  | n + 1, [] => none :: startD n []
  | n + 1, d :: ds => some d :: startD n ds
theorem startD_rep {K : PySem.W.Frag} {F : Hp} : ∀ (n : Nat) {vs : List V} {ds : List Dat}, Reps K F vs ds → ds.length ≤ n → RelE K F (vs.map some ++ List.replicate (n - vs.length) none) (startD n ds)
  | 0, vs, ds, r, h => by
    have e : ds = [] := List.length_eq_zero_iff.mp (by omega)
    subst e
    cases r
    exact ⟨rfl, fun i d q => by cases q⟩
  | n + 1, vs, [], r, h => by
    cases r
    have ih := startD_rep (K := K) (F := F) n (vs := []) (ds := []) .nil (Nat.zero_le _)
    refine ⟨congrArg Nat.succ ih.len, fun i d q => ?_⟩
    cases i with
    | zero => cases q
    | succ i => exact ih.at_ i d q
  | n + 1, vs, d :: ds, r, h => by
    obtain ⟨v, ws, rfl, r1, r2⟩ := r.uncons
    have ih := startD_rep (K := K) (F := F) n r2 (by rw [List.length_cons] at h; omega)
    have el : n + 1 - (v :: ws).length = n - ws.length := by rw [List.length_cons]; omega
    rw [el]
    refine ⟨congrArg Nat.succ ih.len, fun i x q => ?_⟩
    cases i with
    | zero =>
      have e := Option.some.inj q
      cases e
      exact ⟨v, rfl, r1⟩
    | succ i => exact ih.at_ i x q
section
variable {P : Program} {w : World} {K : PySem.W.Frag} {mg : Str → Option Value} {base : Heap}
/-- a def's promise by its body -/
theorem fnok_of {x qual : Str} {st : Stmt} {f : Addr} {fd : FuncData} {N ps : List Str} {k : Nat} {sp : SpD} (F : Fun K x qual st f fd) (S : FnScope N ps (defScope st)) (n : Nat) (hn : N.length = n) (len : ∀ ds M Q, sp ds M Q → ds.length = ps.length)
    (body : ∀ (cdv : Value) (A : Around) (outer : List Env) (s : Shared) (H : Hp) (E : XK), Room k (A.deeper (envOfC qual (defScope st) s.heap.objs.size f cdv)) →
      ∃ d, DSs (cxOf CX0 P w K mg base N qual (defScope st) f cdv A outer s H E).nox (defBody st) d ∧ ∀ ds M Q, sp ds M Q → d { nx := fun _ M' => endD Q .non M', rt := endD Q } (startD n ds) M) : FnOk P w K mg base CX0 (k + 1) f fd ps (toSp K sp) := by
  refine F.ok S (fun vs H Q E h => ?_) (fun cdv A outer s H vs Q E hr h => ?_)
  · obtain ⟨Z, F, M, ds, QD, R, r, h, o⟩ := h
    rw [r.length]
    exact len ds M QD h
  · obtain ⟨d, hd, hb⟩ := body cdv A outer s H E hr
    obtain ⟨Z, F, M, ds, QD, R, r, h, o⟩ := h
    refine ⟨_, hd, Z, F, M, startD n ds, { nx := fun _ M' => endD QD .non M', rt := endD QD }, ⟨R, ?_⟩, hb ds M QD h, ⟨?_, ?_, ?_, ?_⟩⟩
    · have hl := len ds M QD h
      have hp : ps.length ≤ N.length := by
        have := congrArg List.length S.pre
        rw [List.length_take] at this
        omega
      unfold L2.start
      rw [← hn]
      exact startD_rep N.length r (by omega)
    · intro σ' ρ' F' H' M' e R' q
      obtain ⟨M0, l, q⟩ := q
      exact o _ _ F' H' M0 e (R'.m.le l) .non q
    · intro v d F' H' M' e R' rr q
      obtain ⟨M0, l, q⟩ := q
      exact o _ _ F' H' M0 e (R'.le l) rr q
    · intro σ' ρ' F' H' M' e R' q
      exact q.elim
    · intro σ' ρ' F' H' M' e R' q
      exact q.elim
theorem fn_mk {x : Str} {st : Stmt} {N ps : List Str} {k : Nat} {sp : SpD} (h : HasFn K mg x x st ps) (S : FnScope N ps (defScope st)) (n : Nat) (hn : N.length = n) (len : ∀ ds M Q, sp ds M Q → ds.length = ps.length)
    (body : ∀ (f : Addr) (cdv : Value) (A : Around) (outer : List Env) (s : Shared) (H : Hp) (E : XK), Room k (A.deeper (envOfC x (defScope st) s.heap.objs.size f cdv)) →
      ∃ d, DSs (cxOf CX0 P w K mg base N x (defScope st) f cdv A outer s H E).nox (defBody st) d ∧ ∀ ds M Q, sp ds M Q → d { nx := fun _ M' => endD Q .non M', rt := endD Q } (startD n ds) M) : FnD P w K mg base (k + 1) x st ps sp := by
  obtain ⟨f, fd, F, hm, hb⟩ := h.ex
  exact ⟨f, fd, F, hm, hb, fnok_of F S n hn len (body f)⟩
theorem mt_mk {C : Addr} {m qual : Str} {st : Stmt} {N ps : List Str} {k : Nat} {sp : SpD} (h : HasMt K C m qual st ps) (S : FnScope N ps (defScope st)) (n : Nat) (hn : N.length = n) (len : ∀ ds M Q, sp ds M Q → ds.length = ps.length)
    (body : ∀ (f : Addr) (cdv : Value) (A : Around) (outer : List Env) (s : Shared) (H : Hp) (E : XK), Room k (A.deeper (envOfC qual (defScope st) s.heap.objs.size f cdv)) →
      ∃ d, DSs (cxOf CX0 P w K mg base N qual (defScope st) f cdv A outer s H E).nox (defBody st) d ∧ ∀ ds M Q, sp ds M Q → d { nx := fun _ M' => endD Q .non M', rt := endD Q } (startD n ds) M) : MtdD P w K mg base (k + 1) C m st ps sp := by
  obtain ⟨f, fd, F, hm, hb⟩ := h.ex
  exact ⟨qual, f, fd, F, hm, hb, fnok_of F S n hn len (body f)⟩
theorem cl_mk {C : Addr} {x qual : Str} {st : Stmt} {N ps : List Str} {k : Nat} {sp : SpD} (h : HasCl K mg x C qual st ps) (S : FnScope N ps (defScope st)) (n : Nat) (hn : N.length = n) (len : ∀ ds M Q, sp ds M Q → ds.length = ps.length)
    (body : ∀ (f : Addr) (cdv : Value) (A : Around) (outer : List Env) (s : Shared) (H : Hp) (E : XK), Room k (A.deeper (envOfC qual (defScope st) s.heap.objs.size f cdv)) →
      ∃ d, DSs (cxOf CX0 P w K mg base N qual (defScope st) f cdv A outer s H E).nox (defBody st) d ∧ ∀ ds M Q, sp ds M Q → d { nx := fun _ M' => endD Q .non M', rt := endD Q } (startD n ds) M) : ClD P w K mg base (k + 1) x C st ps sp := by
  obtain ⟨f, fd, F, hm, mk, hb⟩ := h.ex
  exact ⟨qual, f, fd, F, hm, mk, hb, fnok_of F S n hn len (body f)⟩
end
/-! ### calls -/
section
variable {X : Cx} {k k2 : Nat} {x m : Str} {st : Stmt} {ps : List Str} {sp : SpD} {e o : Expr} {es : List Expr} {p pos apos : Pos} {dA dK : TAD} {do_ : TED} {C : Addr}
def dCall (sp : SpD) (dA : TAD) : TED := fun ρ M Q => dA ρ M fun ds M1 => sp ds M1 Q
theorem up_call {K : PySem.W.Frag} {σ : L2.St} {H : Hp} {Q : VK} (h : up K (dCall sp dA) σ H Q) : tCall (toSp K sp) [] E0 (upA K dA) σ H Q := by
  obtain ⟨Z, F, M, ρ, QD, R, h, o⟩ := h
  refine ⟨Z, F, M, ρ, _, R, h, fun vs ds F1 H1 M1 e1 R1 r1 h1 => ?_⟩
  show toSp K sp (vs ++ []) H1 Q E0
  rw [List.append_nil]
  exact ⟨Z, F1, M1, ds, QD, R1, r1, h1, o.mono e1⟩
theorem de_call (F : FnD X.prog X.w X.K X.mg X.base k x st ps sp) (hr : Room k2 X.A) (ha : DA X (e :: es) dA) (hk : k ≤ k2 := by decide) (hg : Gl X x := by rfl) (hdb : (x == ("__debug__" : Str)) = false := by decide)
    (he : starEach (e :: es) X.env = (false, eval e X.env) :: starEach es X.env := by rfl) (hpl : (backTo pos (starEach es X.env)).any (·.1) = false := by rfl) : DE X (.Call (.Name x p) (e :: es) [] pos) (dCall sp dA) := by
  obtain ⟨f, fd, F, hm, hb, ok⟩ := F.ex
  exact pe_w (pe_call ok (hr.mono hk) hg hm F.kp hb .nil pass0 ha hdb he hpl) fun σ H Q h => up_call h
theorem de_call0 (F : FnD X.prog X.w X.K X.mg X.base k x st ps sp) (hr : Room k2 X.A) (hk : k ≤ k2 := by decide) (hg : Gl X x := by rfl) (hdb : (x == ("__debug__" : Str)) = false := by decide) : DE X (.Call (.Name x p) [] [] pos) (dCall sp dNil) := by
  obtain ⟨f, fd, F, hm, hb, ok⟩ := F.ex
  refine pe_w (pe_call0 ok (hr.mono hk) hg hm F.kp hb .nil pass0 hdb) fun σ H Q h => ?_
  obtain ⟨Z, F, M, ρ, QD, R, h, o⟩ := h
  exact ⟨Z, F, M, [], QD, R.m, .nil, h, o⟩
/-- keywords, from the left -/
abbrev DK (X : Cx) (kws : List Keyword) (d : TAD) : Prop := PK X kws (upA X.K d)
theorem pk_w {kws : List Keyword} {t u : TA} (h : PK X kws t) (w : ∀ σ H Q, u σ H Q → t σ H Q) : PK X kws u := ⟨fun pos pins s σ H Q I q => h.run pos pins s σ H Q I (w σ H Q q)⟩
theorem dk_nil : DK X [] dNil := pk_w pk_nil fun σ H Q ⟨Z, F, M, ρ, QD, R, h, o⟩ => o [] [] F H M (Ext.refl F) R.m .nil h
theorem dk_cons {de : TED} {nm : Option Str} {kpos : Pos} {kws : List Keyword} (ha : DE X e de) (hr : DK X kws dK) : DK X (⟨nm, e, kpos⟩ :: kws) (dCons de dK) := pk_w (pk_cons ha hr) fun σ H Q ⟨Z, F, M, ρ, QD, R, h, o⟩ => by
  refine ⟨Z, F, M, ρ, _, R, h, fun x a F1 H1 M1 e1 R1 r1 h1 => ?_⟩
  refine ⟨Z, F1, M1, ρ, _, R.ext e1 R1, h1, fun xs as F2 H2 M2 e2 R2 r2 h2 => ?_⟩
  exact o _ _ F2 H2 M2 (e1.trans e2) R2 (.cons (r1.mono e2) r2) h2
/-- f(.., k = v, ..): g puts all in the parameters' order -/
def dCallK (n m : Nat) (g : List Dat → List Dat → List Dat) (sp : SpD) (dA dK : TAD) : TED := fun ρ M Q => dA ρ M fun ds M1 => dK ρ M1 fun es M2 => ds.length = n ∧ es.length = m ∧ sp (g ds es) M2 Q
/-- how such a call binds -/
structure KwB (x : Str) (st : Stmt) (ps : List Str) (n : Nat) (ks : List Str) (g : {α : Type} → List α → List α → List α) : Prop where
  to : ∀ (kV doc pm : Value) (an : Option Addr) (cdv ct : Value) (us ws : List Value), us.length = n → ws.length = ks.length →
    bindArgs (PySem.W.fnOf x x (defArgs st) (defBody st) (defScope st) .none kV doc pm an cdv ct) ⟨us, ks.zip ws⟩ = pure (ps.zip (g us ws))
  vals : ∀ {vs : List V} {us : List Value} {zs : List V} {ws : List Value}, Vals vs us → Vals zs ws → Vals (g vs zs) (g us ws)
  reps : ∀ {K : PySem.W.Frag} {F : Hp} {vs zs : List V} {ds es : List Dat}, vs.length = n → zs.length = ks.length → Reps K F vs ds → Reps K F zs es → Reps K F (g vs zs) (g ds es)
theorem pe_callN0 {CX : CXT} {f : Addr} {fd : FuncData} {ks : List Str} {sp : Sp} {E : XK} {kws : List Keyword} {tk : TA} {g : List Value → List Value → List Value} {gV : List V → List V → List V} (F : FnOk X.prog X.w X.K X.mg X.base CX k f fd ps sp) (hr : Room k X.A) (hg : Gl X x) (hm : X.mg x = some (.ref f)) (hk : PySem.W.keepIn X.K (.ref f) = true) (hb : KBn X.K fd ps 0 ks g gV) (hx : Passes CX X E)
    (hkw : PK X kws tk) (hall : (backToKw pos (keywordEach kws X.env)).all (·.1.isSome) = true) (hks : (backToKw pos (keywordEach kws X.env)).filterMap (·.1) = ks) (hdb : (x == ("__debug__" : Str)) = false)
    (hpl : ((backTo pos (starEach [] X.env)).any (·.1) || (backToKw pos (keywordEach kws X.env)).any (·.1.isNone)) = false) :
    PE X (.Call (.Name x p) [] kws pos) (tCallN 0 ks.length sp gV E tNil tk) := by
  refine ⟨fun pins s σ H Q I h => ?_⟩
  refine wpAny_Call_Name_kw (ld_glob I hg hm ?_ hdb)
  refine PySem.W.callWith_KW0 (h₀ := X.base) I.ok.mod.kin hk hall (thn (hkw.run pos pins s σ H _ I h) fun ws s2 ⟨zs, H2, I2, rz, l1, l2, q2⟩ => ⟨I2.kIn, ?_⟩) hpl
  rw [hks]
  exact run_fnN F hr hb hx I2 (us := []) .nil rz l1 l2 q2
theorem up_callK {K : PySem.W.Frag} {n m : Nat} {g : List Dat → List Dat → List Dat} {gV : List V → List V → List V} (hg : ∀ {F : Hp} {vs zs : List V} {ds es : List Dat}, vs.length = n → zs.length = m → Reps K F vs ds → Reps K F zs es → Reps K F (gV vs zs) (g ds es)) {σ : L2.St} {H : Hp} {Q : VK} (h : up K (dCallK n m g sp dA dK) σ H Q) :
    tCallN n m (toSp K sp) gV E0 (upA K dA) (upA K dK) σ H Q := by
  obtain ⟨Z, F, M, ρ, QD, R, h, o⟩ := h
  refine ⟨Z, F, M, ρ, _, R, h, fun vs ds F1 H1 M1 e1 R1 r1 h1 => ?_⟩
  refine ⟨Z, F1, M1, ρ, _, R.ext e1 R1, h1, fun zs es F2 H2 M2 e2 R2 r2 h2 => ?_⟩
  obtain ⟨l1, l2, h2⟩ := h2
  have k1 : vs.length = n := r1.length.trans l1
  have k2 : zs.length = m := r2.length.trans l2
  exact ⟨k1, k2, Z, F2, M2, _, QD, R2, hg k1 k2 (r1.mono e2) r2, h2, o.mono (e1.trans e2)⟩
theorem kbn_of {f : Addr} {fd : FuncData} {n : Nat} {ks : List Str} {g : {α : Type} → List α → List α → List α} (F : Fun X.K x x st f fd) (B : KwB x st ps n ks g) : KBn X.K fd ps n ks g g := by
  obtain ⟨oc, od, kV, doc, pm, an, cdv, ct, osl, rfl, lk, hcd⟩ := F.ex
  exact ⟨fun s us ws _ l1 l2 => .of_eq (B.to kV doc pm an cdv ct us ws l1 l2), fun r q => B.vals r q⟩
theorem de_callK0 {ks : List Str} {kws : List Keyword} (g : {α : Type} → List α → List α → List α) (F : FnD X.prog X.w X.K X.mg X.base k x st ps sp) (B : KwB x st ps 0 ks g) (hr : Room k2 X.A) (hkw : DK X kws dK) (hk : k ≤ k2 := by decide) (hg : Gl X x := by rfl)
    (hall : (backToKw pos (keywordEach kws X.env)).all (·.1.isSome) = true := by rfl) (hks : (backToKw pos (keywordEach kws X.env)).filterMap (·.1) = ks := by rfl) (hdb : (x == ("__debug__" : Str)) = false := by decide)
    (hpl : ((backTo pos (starEach [] X.env)).any (·.1) || (backToKw pos (keywordEach kws X.env)).any (·.1.isNone)) = false := by rfl) : DE X (.Call (.Name x p) [] kws pos) (dCallK 0 ks.length g sp dNil dK) := by
  obtain ⟨f, fd, F, hm, hb, ok⟩ := F.ex
  refine pe_w (pe_callN0 ok (hr.mono hk) hg hm F.kp (kbn_of F B) pass0 hkw hall hks hdb hpl) fun σ H Q h => ?_
  obtain ⟨Z, F, M, ρ, QD, R, h, o⟩ := h
  have h' : dK ρ M (fun es M2 => ([] : List Dat).length = 0 ∧ es.length = ks.length ∧ sp (g [] es) M2 QD) := h
  refine ⟨Z, F, M, ρ, _, R, h', fun zs es F2 H2 M2 e2 R2 r2 h2 => ?_⟩
  obtain ⟨l1, l2, h2⟩ := h2
  have k2 : zs.length = ks.length := r2.length.trans l2
  exact ⟨rfl, k2, Z, F2, M2, _, QD, R2, B.reps rfl k2 .nil r2, h2, o.mono e2⟩
theorem de_callK {n : Nat} {ks : List Str} {kws : List Keyword} (g : {α : Type} → List α → List α → List α) (F : FnD X.prog X.w X.K X.mg X.base k x st ps sp) (B : KwB x st ps n ks g) (hr : Room k2 X.A) (ha : DA X (e :: es) dA) (hkw : DK X kws dK) (hk : k ≤ k2 := by decide) (hg : Gl X x := by rfl)
    (hall : (backToKw pos (keywordEach kws X.env)).all (·.1.isSome) = true := by rfl) (hks : (backToKw pos (keywordEach kws X.env)).filterMap (·.1) = ks := by rfl) (hdb : (x == ("__debug__" : Str)) = false := by decide)
    (he : starEach (e :: es) X.env = (false, eval e X.env) :: starEach es X.env := by rfl)
    (hpl : ((backTo pos (starEach (e :: es) X.env)).any (·.1) || (backToKw pos (keywordEach kws X.env)).any (·.1.isNone)) = false := by rfl) : DE X (.Call (.Name x p) (e :: es) kws pos) (dCallK n ks.length g sp dA dK) := by
  obtain ⟨f, fd, F, hm, hb, ok⟩ := F.ex
  exact pe_w (pe_callN ok (hr.mono hk) hg hm F.kp (kbn_of F B) pass0 ha hkw hall hks hdb he hpl) fun σ H Q h => up_callK (fun l1 l2 r q => B.reps l1 l2 r q) h
/-- o.m(..) of an instance -/
def dMeth (C : Addr) (m : Str) (sp : SpD) (do_ : TED) (dA : TAD) : TED := fun ρ M Q => do_ ρ M fun x M1 => (∃ gs, fieldsOf M1 x = some (C, gs) ∧ (gs.map (·.1)).contains m = false) ∧ dA ρ M1 fun ds M2 => sp (x :: ds) M2 Q
theorem repF_none {K : PySem.W.Frag} {F : Hp} {m : Str} {fs : List (Str × V)} {gs : List (Str × Dat)} (r : RepF K F fs gs) (h : (gs.map (·.1)).contains m = false) : fs.lookup m = none := by
  induction fs generalizing gs with
  | nil => rfl
  | cons q fs ih =>
    cases r with
    | @cons g v vs d ds r1 r2 =>
      rw [List.map_cons, List.contains_cons, Bool.or_eq_false_iff] at h
      simp only [List.lookup, h.1]
      exact ih r2 h.2
theorem de_meth {pl : Sem Bool} (F : MtdD X.prog X.w X.K X.mg X.base k C m st ps sp) (cl : Cls X.K C) (hr : Room k2 X.A) (ho : DE X o do_) (ha : DA X (e :: es) dA) (hk : k ≤ k2 := by decide)
    (hst : starEach (e :: es) X.env = (false, eval e X.env) :: starEach es X.env := by rfl) (hpl : (backTo pos (starEach es X.env)).any (·.1) = false := by rfl)
    (ht : eval (.Call (.Attribute o m apos) (e :: es) [] pos) X.env = (do
      let ov ← eval o X.env
      standAt apos.atName
      let (f, first) ← holding [ov] (getMethod ov m pl)
      callWith pos f first (backTo pos (starEach (e :: es) X.env)) (backToKw pos (keywordEach [] X.env))) := by rfl) : DE X (.Call (.Attribute o m apos) (e :: es) [] pos) (dMeth C m sp do_ dA) := by
  obtain ⟨qual, f, fd, F, hm, hb, ok⟩ := F.ex
  refine pe_w (pe_meth ho cl hm ok (hr.mono hk) hb .nil pass0 ha hst hpl ht) fun σ H Q ⟨Z, F, M, ρ, QD, R, h, o⟩ => ?_
  refine ⟨Z, F, M, ρ, _, R, h, fun x a F1 H1 M1 e1 R1 r1 h1 => ?_⟩
  obtain ⟨⟨gs, q1, q2⟩, h1⟩ := h1
  obtain ⟨pp, dx, fs, rfl, q3, q4, q5⟩ := fieldsOf_rep R1 r1 q1
  refine ⟨pp, dx, fs, rfl, q3, repF_none q4 q2, Z, F1, M1, ρ, _, R.ext e1 R1, h1, fun vs ds F2 H2 M2 e2 R2 r2 h2 => ?_⟩
  show toSp X.K sp (V.ref pp :: (vs ++ [])) H2 Q E0
  rw [List.append_nil]
  exact ⟨Z, F2, M2, _, QD, R2, .cons (r1.mono e2) r2, h2, o.mono (e1.trans e2)⟩
theorem de_meth0 {pl : Sem Bool} (F : MtdD X.prog X.w X.K X.mg X.base k C m st ps sp) (cl : Cls X.K C) (hr : Room k2 X.A) (ho : DE X o do_) (hk : k ≤ k2 := by decide)
    (ht : eval (.Call (.Attribute o m apos) [] [] pos) X.env = (do
      let ov ← eval o X.env
      standAt apos.atName
      let (f, first) ← holding [ov] (getMethod ov m pl)
      callWith pos f first (backTo pos (starEach [] X.env)) (backToKw pos (keywordEach [] X.env))) := by rfl) : DE X (.Call (.Attribute o m apos) [] [] pos) (dMeth C m sp do_ dNil) := by
  obtain ⟨qual, f, fd, F, hm, hb, ok⟩ := F.ex
  refine pe_w (pe_meth0 ho cl hm ok (hr.mono hk) hb .nil pass0 ht) fun σ H Q ⟨Z, F, M, ρ, QD, R, h, o⟩ => ?_
  refine ⟨Z, F, M, ρ, _, R, h, fun x a F1 H1 M1 e1 R1 r1 h1 => ?_⟩
  obtain ⟨⟨gs, q1, q2⟩, h1⟩ := h1
  obtain ⟨pp, dx, fs, rfl, q3, q4, q5⟩ := fieldsOf_rep R1 r1 q1
  refine ⟨pp, dx, fs, rfl, q3, repF_none q4 q2, ?_⟩
  exact ⟨Z, F1, M1, _, QD, R1, .one r1, h1, o.mono e1⟩
/-- C(..): an instance that never changes behind its __init__; one that may -/
def dMake (mk : Bool) (C : Addr) (sp : SpD) (dA : TAD) : TED := fun ρ M Q => dA ρ M fun ds M1 => ∀ a, M1 a = none → sp (.ref a :: ds) (updM M1 a (.ins C [])) fun r M2 => r = .non ∧ (match mk with
  | true => Q (.ref a) M2
  | false => ∃ gs, M2 a = some (.ins C gs) ∧ Q (.ins C gs) (delM M2 a))
theorem upd2_sub {F H : Hp} {a dx C : Addr} {x : Addr} (s : Ext F H) (h1 : H a = none) (h2 : H dx = none) : Ext F (upd (upd H dx (.own x)) a (.ins C dx [])) := fun b u q => by
  rw [upd_ne (ne_of_none (s b u q) h1), upd_ne (ne_of_none (s b u q) h2)]
  exact s b u q
theorem relM_made {K : PySem.W.Frag} {Z F H : Hp} {M : MH} {a dx C : Addr} (R : RelM K Z F H M) (h1 : H a = none) (h2 : H dx = none) (hne : dx ≠ a) : RelM K Z F (upd (upd H dx (.own a)) a (.ins C dx [])) (updM M a (.ins C [])) := by
  have keep : ∀ b u, H b = some u → (upd (upd H dx (.own a)) a (.ins C dx [])) b = some u := fun b u q => by
    rw [upd_ne (ne_of_none q h1), upd_ne (ne_of_none q h2)]
    exact q
  refine ⟨upd2_sub R.sub h1 h2, fun b u q => ?_, fun b m q => ?_⟩
  · obtain ⟨q1, q2, q3⟩ := R.hid b u q
    exact ⟨keep b u q1, q2, by rw [updM_ne (ne_of_none q1 h1)]; exact q3⟩
  · by_cases hb : b = a
    · subst hb
      rw [updM_same] at q
      cases q
      exact ⟨(R.fresh h1).1, dx, [], upd_same, .nil, List.nodup_nil⟩
    · rw [updM_ne hb] at q
      obtain ⟨q1, q2⟩ := R.chg b m q
      obtain ⟨u, hu⟩ := q2.some
      exact ⟨q1, q2.mono (Ext.refl _) (by rw [keep b u hu, hu])⟩
theorem up_make {K : PySem.W.Frag} {mk : Bool} {σ : L2.St} {H : Hp} {Q : VK} (h : up K (dMake mk C sp dA) σ H Q) : tMake C (toSp K sp) [] E0 (upA K dA) σ H Q := by
  obtain ⟨Z, F, M, ρ, QD, R, h, o⟩ := h
  refine ⟨Z, F, M, ρ, _, R, h, fun vs ds F1 H1 M1 e1 R1 r1 h1 => ?_⟩
  intro a dx ha hdx hne
  rw [List.append_nil]
  refine ⟨Z, F1, _, _, _, relM_made R1 ha hdx hne, .cons (.ref a) r1, h1 a (R1.fresh ha).2, fun v d F2 H2 M2 e2 R2 r2 h2 => ?_⟩
  obtain ⟨q1, q2⟩ := h2
  subst q1
  refine ⟨r2.toNon, ?_⟩
  cases mk with
  | true => exact o _ _ F2 H2 M2 (e1.trans e2) R2 (.ref a) q2
  | false =>
    obtain ⟨gs, q3, q4⟩ := q2
    obtain ⟨dx2, fs, q5, q6, q7⟩ := (R2.chg a _ q3).2
    obtain ⟨R3, e3⟩ := R2.frz q3 q5
    exact o _ _ _ H2 _ ((e1.trans e2).trans e3) R3 (.ins upd_same (q6.mono e3) q7) q4
theorem de_make (mk : Bool) (F : ClD X.prog X.w X.K X.mg X.base k x C st ps sp) (hr : Room k2 X.A) (ha : DA X (e :: es) dA) (hk : k + 1 ≤ k2 := by decide) (hg : Gl X x := by rfl) (hdb : (x == ("__debug__" : Str)) = false := by decide)
    (he : starEach (e :: es) X.env = (false, eval e X.env) :: starEach es X.env := by rfl) (hpl : (backTo pos (starEach es X.env)).any (·.1) = false := by rfl) : DE X (.Call (.Name x p) (e :: es) [] pos) (dMake mk C sp dA) := by
  obtain ⟨qual, f, fd, F, hm, M, hb, ok⟩ := F.ex
  exact pe_w (pe_make M ok (hr.mono hk) hg hm hb .nil pass0 ha hdb he hpl) fun σ H Q h => up_make h
end
/-! ### loops -/
section
variable {X : Cx} {c e : Expr} {tc : TTD} {tb : TSD} {body : List Stmt} {pos : Pos} {g : TGD} {tg iter : Expr}
/-- the word W with its measure -/
def dWhile (c : TTD) (tb : TSD) : TSD := fun D ρ M => ∃ W : Nat → EnvD → MH → Prop, (∃ m, W m ρ M) ∧ ∀ m ρ M, W m ρ M →
  c ρ M fun b M1 => if b = true then tb { D with nx := fun ρ' M' => ∃ m', m' < m ∧ W m' ρ' M', ct := fun ρ' M' => ∃ m', m' < m ∧ W m' ρ' M', bk := D.nx } ρ M1 else D.nx ρ M1
theorem ds_while (hc : DT X c tc) (hb : DSs X body tb) (hp : PassesOwn (model X.prog X.w) X.A X.env X.xe := by exact PassesOwn.never) : DS X (.While c body [] pos) (dWhile tc tb) := ps_w (ps_while hp hc hb) fun D σ H ⟨Z, F, M, ρ, DD, R, ⟨W, ⟨m0, w0⟩, turn⟩, o⟩ => by
  refine ⟨fun m σ H => ∃ F' M ρ, Ext F F' ∧ Rel X.K Z F' H M σ ρ ∧ W m ρ M, ⟨m0, F, M, ρ, Ext.refl F, R, w0⟩, ?_⟩
  rintro m σ1 H1 ⟨F1, M1, ρ1, e1, R1, w1⟩
  refine ⟨Z, F1, M1, ρ1, _, R1, turn m ρ1 M1 w1, fun b F2 H2 M2 e2 R2 h2 => ?_⟩
  cases b with
  | true =>
    rw [if_pos rfl] at h2 ⊢
    refine ⟨_, fun _ _ n => n, Z, F2, M2, ρ1, _, R1.ext e2 R2, h2, ⟨?_, o.rt.mono (e1.trans e2), o.nx.mono (e1.trans e2), ?_⟩⟩
    · rintro σ3 ρ3 F3 H3 M3 e3 R3 ⟨m', l, w3⟩
      exact ⟨m', l, F3, M3, ρ3, (e1.trans e2).trans e3, R3, w3⟩
    · rintro σ3 ρ3 F3 H3 M3 e3 R3 ⟨m', l, w3⟩
      exact ⟨m', l, F3, M3, ρ3, (e1.trans e2).trans e3, R3, w3⟩
  | false =>
    rw [if_neg Bool.false_ne_true] at h2 ⊢
    exact o.nx _ _ F2 H2 M2 (e1.trans e2) (R1.ext e2 R2) h2
/-- what an iterator gives -/
structure WalkD (K : PySem.W.Frag) (F : Hp) (J : It) (ds : List Dat) : Prop where
  go : ∀ Z i F' H M, Ext F F' → RelM K Z F' H M → i < ds.length → J.go i H
  stop : ∀ Z F' H M, Ext F F' → RelM K Z F' H M → J.stop ds.length H
  yld : ∀ Z i F' H M x H' d, Ext F F' → RelM K Z F' H M → J.yld i H x H' → ds[i]? = some d → ∃ F'', Ext F' F'' ∧ RelM K Z F'' H' M ∧ Rep K F'' x d
abbrev TID := EnvD → MH → (List Dat → MH → Prop) → Prop
def upI (K : PySem.W.Frag) (d : TID) : TI := fun σ H R => ∃ Z F M ρ RD, Rel K Z F H M σ ρ ∧ d ρ M RD ∧ (∀ ds J F' H' M', Ext F F' → RelM K Z F' H' M' → WalkD K F' J ds → RD ds M' → R J H')
abbrev DI (X : Cx) (tg e : Expr) (d : TID) : Prop := PI X tg e (upI X.K d)
theorem pi_w {wi wu : TI} (h : PI X tg e wi) (w : ∀ σ H R, wu σ H R → wi σ H R) : PI X tg e wu := ⟨fun pins s σ H R I q => h.run pins s σ H R I (w σ H R q)⟩
def dLoop (g : TGD) (tb : TSD) : List Dat → TSD
  | [] => fun D ρ M => D.nx ρ M
  | x :: r => fun D ρ M => g x ρ M fun ρ' M' => tb { D with nx := dLoop g tb r D, ct := dLoop g tb r D, bk := D.nx } ρ' M'
def dFor (di : TID) (g : TGD) (tb : TSD) : TSD := fun D ρ M => di ρ M fun ds M1 => dLoop g tb ds D ρ M1
theorem ds_for {di : TID} (hi : DI X tg iter di) (hg : DG X tg g) (hb : DSs X body tb) (hc : X.calm = true := by rfl) (hp : PassesOwn (model X.prog X.w) X.A X.env X.xe := by exact PassesOwn.never)
    (hs : ∀ x, foldedSetIterable iter X.env x = pure x := by intro _; rfl) : DS X (.For tg iter body [] pos) (dFor di g tb) := ps_w (ps_for hp hc hi hg hb hs) fun D σ H ⟨Z, F, M, ρ, DD, R, h, o⟩ => by
  refine ⟨Z, F, M, ρ, _, R, h, fun ds J F1 H1 M1 e1 R1 w1 h1 => ?_⟩
  refine ⟨fun i m σ H => m = ds.length - i ∧ i ≤ ds.length ∧ ∃ F' M ρ, Ext F1 F' ∧ Rel X.K Z F' H M σ ρ ∧ dLoop g tb (ds.drop i) DD ρ M, ⟨ds.length, by simp, Nat.zero_le _, F1, M1, ρ, Ext.refl _, R.ext e1 R1, h1⟩, ?_⟩
  rintro i m σ2 H2 ⟨rfl, hi, F2, M2, ρ2, e2, R2, h2⟩
  by_cases hlt : i < ds.length
  · obtain ⟨d, hd⟩ : ∃ d, ds[i]? = some d := ⟨ds[i], List.getElem?_eq_getElem hlt⟩
    have hdr : ds.drop i = d :: ds.drop (i + 1) := by
      obtain ⟨h5, h6⟩ := List.getElem?_eq_some_iff.mp hd
      rw [List.drop_eq_getElem_cons h5, h6]
    rw [hdr] at h2
    unfold dLoop at h2
    refine .inr ⟨w1.go Z i F2 H2 M2 e2 R2.m hlt, fun σ' H' => ∃ F' M ρ, Ext F1 F' ∧ Rel X.K Z F' H' M σ' ρ ∧ dLoop g tb (ds.drop (i + 1)) DD ρ M, fun σ' H' n => ⟨ds.length - (i + 1), by omega, rfl, hlt, n⟩, fun x H' y => ?_⟩
    obtain ⟨F3, e3, R3, r3⟩ := w1.yld Z i F2 H2 M2 x H' d e2 R2.m y hd
    refine ⟨Z, F3, M2, ρ2, d, _, R2.ext e3 R3, r3, h2, fun σ4 ρ4 F4 H4 M4 e4 R4 h4 => ?_⟩
    have e14 := (e2.trans e3).trans e4
    refine ⟨Z, F4, M4, ρ4, _, R4, h4, ⟨?_, o.rt.mono (e1.trans e14), o.nx.mono (e1.trans e14), ?_⟩⟩
    · intro σ5 ρ5 F5 H5 M5 e5 R5 h5
      exact ⟨F5, M5, ρ5, e14.trans e5, R5, h5⟩
    · intro σ5 ρ5 F5 H5 M5 e5 R5 h5
      exact ⟨F5, M5, ρ5, e14.trans e5, R5, h5⟩
  · have e : i = ds.length := by omega
    subst e
    rw [List.drop_length] at h2
    exact .inl ⟨w1.stop Z F2 H2 M2 e2 R2.m, o.nx _ _ F2 H2 M2 (e1.trans e2) R2 h2⟩
/-- a list that never changes -/
def lsF : Dat → Option (List Dat)
  | .lst ds => some ds
  | .frl ds => some ds
  | _ => none
theorem lsF_rep {K : PySem.W.Frag} {F : Hp} {x : V} {a : Dat} {ds : List Dat} (r : Rep K F x a) (h : lsF a = some ds) : ∃ p xs, x = .ref p ∧ SqL K F p xs ∧ Reps K F xs ds := by
  unfold lsF at h
  split at h
  · cases h
    cases r with
    | lst q r => exact ⟨_, _, rfl, SqL.of q, r⟩
  · cases h
    cases r with
    | frl q r => exact ⟨_, _, rfl, q, r⟩
  · cases h
theorem walk_lst {K : PySem.W.Frag} {F : Hp} {p : Addr} {xs : List V} {ds : List Dat} (q : SqL K F p xs) (r : Reps K F xs ds) : WalkD K F (Itl K p) ds := by
  refine ⟨fun Z i F' H M e R h => ?_, fun Z F' H M e R => ⟨xs, ext_l (e.trans R.sub) q, by rw [r.length]; exact Nat.le_refl _⟩, fun Z i F' H M x H' d e R y hd => ?_⟩
  · obtain ⟨v, hv, _⟩ := r.get (List.getElem?_eq_getElem h)
    exact ⟨xs, v, ext_l (e.trans R.sub) q, hv⟩
  · obtain ⟨rfl, y⟩ := y
    obtain ⟨v, hv, rv⟩ := r.get hd
    have e2 := (y xs (ext_l (e.trans R.sub) q)).symm.trans hv
    cases e2
    exact ⟨F', Ext.refl _, R, rv.mono e⟩
def dIL (de : TED) : TID := fun ρ M R => de ρ M fun x M1 => ∃ ds, lsF x = some ds ∧ R ds M1
theorem di_lst {de : TED} (he : DE X e de) : DI X tg e (dIL de) := pi_w (pi_list he) fun σ H R ⟨Z, F, M, ρ, RD, R0, h, o⟩ => by
  refine ⟨Z, F, M, ρ, _, R0, h, fun x a F1 H1 M1 e1 R1 r1 h1 => ?_⟩
  obtain ⟨ds, h2, h3⟩ := h1
  obtain ⟨p, xs, rfl, q, r⟩ := lsF_rep r1 h2
  exact ⟨p, rfl, ⟨xs, ext_l R1.sub q⟩, o ds _ F1 H1 M1 e1 R1 (walk_lst q r) h3⟩
def dIT (de : TED) : TID := fun ρ M R => de ρ M fun x M1 => match x with
  | .tup ds => R ds M1
  | _ => False
theorem walk_tupD {K : PySem.W.Frag} {F : Hp} {p : Addr} {xs : List V} {ds : List Dat} (q : SqT K F p xs) (r : Reps K F xs ds) : WalkD K F (Itt K p) ds := by
  refine ⟨fun Z i F' H M e R h => ?_, fun Z F' H M e R => ⟨xs, ext_t (e.trans R.sub) q, by rw [r.length]; exact Nat.le_refl _⟩, fun Z i F' H M x H' d e R y hd => ?_⟩
  · obtain ⟨v, hv, _⟩ := r.get (List.getElem?_eq_getElem h)
    exact ⟨xs, v, ext_t (e.trans R.sub) q, hv⟩
  · obtain ⟨rfl, y⟩ := y
    obtain ⟨v, hv, rv⟩ := r.get hd
    have e2 := (y xs (ext_t (e.trans R.sub) q)).symm.trans hv
    cases e2
    exact ⟨F', Ext.refl _, R, rv.mono e⟩
theorem di_tup {de : TED} (he : DE X e de) : DI X tg e (dIT de) := pi_w (pi_tup he) fun σ H R ⟨Z, F, M, ρ, RD, R0, h, o⟩ => by
  refine ⟨Z, F, M, ρ, _, R0, h, fun x a F1 H1 M1 e1 R1 r1 h1 => ?_⟩
  split at h1
  · cases r1 with
    | tup q r => exact ⟨_, rfl, ⟨_, ext_t R1.sub q⟩, o _ _ F1 H1 M1 e1 R1 (walk_tupD q r) h1⟩
  · exact h1.elim
/-- lo, lo + 1, .. -/
def rngD (lo : Int) (n : Nat) : List Dat := (List.range n).map fun k => Dat.int (lo + (k : Nat))
theorem rngD_at {lo : Int} {n i : Nat} {d : Dat} (h : (rngD lo n)[i]? = some d) : i < n ∧ d = .int (lo + (i : Nat)) := by
  unfold rngD at h
  rw [List.getElem?_map] at h
  cases q : (List.range n)[i]? with
  | none =>
    rw [q] at h
    cases h
  | some k =>
    rw [q] at h
    have h1 := List.getElem?_eq_some_iff.mp q
    obtain ⟨h2, h3⟩ := h1
    rw [List.length_range] at h2
    rw [List.getElem_range] at h3
    subst h3
    exact ⟨h2, (Option.some.inj h).symm⟩
theorem walk_rng {K : PySem.W.Frag} {F : Hp} {lo : Int} {n : Nat} : WalkD K F (Itr lo n) (rngD lo n) := by
  have hl : (rngD lo n).length = n := by
    unfold rngD
    rw [List.length_map, List.length_range]
  refine ⟨fun Z i F' H M e R h => by rw [hl] at h; exact h, fun Z F' H M e R => by rw [hl]; exact Nat.le_refl _, fun Z i F' H M x H' d e R y hd => ?_⟩
  obtain ⟨rfl, rfl⟩ := y
  obtain ⟨_, rfl⟩ := rngD_at hd
  exact ⟨F', Ext.refl _, R, .int _⟩
def dIR1 (dA : TAD) : TID := fun ρ M R => dA ρ M fun xs M1 => match xs with
  | [.int j] => -(2 ^ 62) ≤ j ∧ j < 2 ^ 62 ∧ R (rngD 0 j.toNat) M1
  | _ => False
def dIR2 (dA : TAD) : TID := fun ρ M R => dA ρ M fun xs M1 => match xs with
  | [.int i, .int j] => (-(2 ^ 62) ≤ i ∧ i < 2 ^ 62 ∧ -(2 ^ 62) ≤ j ∧ j < 2 ^ 62) ∧ R (rngD i (j - i).toNat) M1
  | _ => False
variable {a b : Expr} {dA : TAD} {p : Pos}
theorem di_rng1 (hm : X.mg "range" = none) (ha : DA X [a] dA) (hg : Gl X "range" := by rfl) (hs : starEach [a] X.env = [(false, eval a X.env)] := by rfl) : DI X tg (.Call (.Name "range" p) [a] [] pos) (dIR1 dA) := pi_w (pi_range1 hg hm ha hs) fun σ H R ⟨Z, F, M, ρ, RD, R0, h, o⟩ => by
  refine ⟨Z, F, M, ρ, _, R0, h, fun xs as F1 H1 M1 e1 R1 r1 h1 => ?_⟩
  split at h1
  · obtain ⟨v, ws, rfl, q1, r1⟩ := r1.uncons
    cases r1.unnil
    cases q1
    exact ⟨_, rfl, h1.1, h1.2.1, o _ _ F1 H1 M1 e1 R1 walk_rng h1.2.2⟩
  · exact h1.elim
theorem di_rng2 (hm : X.mg "range" = none) (ha : DA X [a, b] dA) (hg : Gl X "range" := by rfl) (hs : starEach [a, b] X.env = [(false, eval a X.env), (false, eval b X.env)] := by rfl) (hs2 : starEach [b] X.env = [(false, eval b X.env)] := by rfl) : DI X tg (.Call (.Name "range" p) [a, b] [] pos) (dIR2 dA) := pi_w (pi_range2 hg hm ha hs hs2) fun σ H R ⟨Z, F, M, ρ, RD, R0, h, o⟩ => by
  refine ⟨Z, F, M, ρ, _, R0, h, fun xs as F1 H1 M1 e1 R1 r1 h1 => ?_⟩
  split at h1
  · obtain ⟨v, ws, rfl, q1, r1⟩ := r1.uncons
    obtain ⟨v2, ws, rfl, q2, r1⟩ := r1.uncons
    cases r1.unnil
    cases q1
    cases q2
    exact ⟨_, _, rfl, h1.1, o _ _ F1 H1 M1 e1 R1 walk_rng h1.2⟩
  · exact h1.elim
/-- enumerate(xs), zip(xs, ys) -/
def enumD (ds : List Dat) : List Dat := (List.range ds.length).map fun k => .tup [.int (k : Nat), ds.getD k .non]
def zipD (ds es : List Dat) : List Dat := (ds.zip es).map fun q => .tup [q.1, q.2]
theorem enumD_at {ds : List Dat} {i : Nat} {d : Dat} (h : (enumD ds)[i]? = some d) : ∃ x, ds[i]? = some x ∧ d = .tup [.int (i : Nat), x] := by
  unfold enumD at h
  rw [List.getElem?_map] at h
  cases q : (List.range ds.length)[i]? with
  | none =>
    rw [q] at h
    cases h
  | some k =>
    rw [q] at h
    obtain ⟨h2, h3⟩ := List.getElem?_eq_some_iff.mp q
    rw [List.length_range] at h2
    rw [List.getElem_range] at h3
    subst h3
    refine ⟨ds[i], List.getElem?_eq_getElem h2, ?_⟩
    have e := (Option.some.inj h).symm
    rw [e]
    show Dat.tup [.int (i : Nat), ds.getD i .non] = _
    rw [List.getD_eq_getElem?_getD, List.getElem?_eq_getElem h2]
    rfl
theorem walk_enumD {K : PySem.W.Frag} {F : Hp} {p : Addr} {xs : List V} {ds : List Dat} (q : SqL K F p xs) (r : Reps K F xs ds) : WalkD K F (Ite K p) (enumD ds) := by
  have hl : (enumD ds).length = ds.length := by
    unfold enumD
    rw [List.length_map, List.length_range]
  refine ⟨fun Z i F' H M e R h => ?_, fun Z F' H M e R => ⟨xs, ext_l (e.trans R.sub) q, by rw [r.length, hl]; exact Nat.le_refl _⟩, fun Z i F' H M x H' d e R y hd => ?_⟩
  · rw [hl] at h
    obtain ⟨v, hv, _⟩ := r.get (List.getElem?_eq_getElem h)
    exact ⟨xs, v, ext_l (e.trans R.sub) q, hv⟩
  · obtain ⟨T, z, rfl, nT, rfl, y⟩ := y
    obtain ⟨d2, hd2, rfl⟩ := enumD_at hd
    obtain ⟨v, hv, rv⟩ := r.get hd2
    have e2 := (y xs (ext_l (e.trans R.sub) q)).symm.trans hv
    cases e2
    obtain ⟨R4, e4⟩ := R.newF (o := .tup _) nT
    exact ⟨_, e4, R4, .tup (SqT.of upd_same) (.two (.int _) (rv.mono (e.trans e4)))⟩
theorem zipD_at {ds es : List Dat} {i : Nat} {d : Dat} (h : (zipD ds es)[i]? = some d) : ∃ x y, ds[i]? = some x ∧ es[i]? = some y ∧ d = .tup [x, y] := by
  unfold zipD at h
  rw [List.getElem?_map] at h
  cases q : (ds.zip es)[i]? with
  | none =>
    rw [q] at h
    cases h
  | some k =>
    rw [q] at h
    obtain ⟨h1, h2⟩ := List.getElem?_zip_eq_some.mp q
    exact ⟨k.1, k.2, h1, h2, (Option.some.inj h).symm⟩
theorem walk_zipD {K : PySem.W.Frag} {F : Hp} {p p2 : Addr} {xs ys : List V} {ds es : List Dat} (q : SqL K F p xs) (r : Reps K F xs ds) (q2 : SqL K F p2 ys) (r2 : Reps K F ys es) : WalkD K F (Itz K p p2) (zipD ds es) := by
  have hl : (zipD ds es).length = min ds.length es.length := by
    unfold zipD
    rw [List.length_map, List.length_zip]
  refine ⟨fun Z i F' H M e R h => ?_, fun Z F' H M e R => ⟨xs, ys, ext_l (e.trans R.sub) q, ext_l (e.trans R.sub) q2, ?_⟩, fun Z i F' H M x H' d e R y hd => ?_⟩
  · rw [hl] at h
    obtain ⟨v, hv, _⟩ := r.get (List.getElem?_eq_getElem (show i < ds.length by omega))
    obtain ⟨v2, hv2, _⟩ := r2.get (List.getElem?_eq_getElem (show i < es.length by omega))
    exact ⟨xs, ys, v, v2, ext_l (e.trans R.sub) q, ext_l (e.trans R.sub) q2, hv, hv2⟩
  · rw [r.length, r2.length, hl]
    omega
  · obtain ⟨T, z, z2, rfl, nT, rfl, y, y2⟩ := y
    obtain ⟨d1, d2, hd1, hd2, rfl⟩ := zipD_at hd
    obtain ⟨v, hv, rv⟩ := r.get hd1
    obtain ⟨v2, hv2, rv2⟩ := r2.get hd2
    have e2 := (y xs (ext_l (e.trans R.sub) q)).symm.trans hv
    cases e2
    have e3 := (y2 ys (ext_l (e.trans R.sub) q2)).symm.trans hv2
    cases e3
    obtain ⟨R4, e4⟩ := R.newF (o := .tup _) nT
    exact ⟨_, e4, R4, .tup (SqT.of upd_same) (.two (rv.mono (e.trans e4)) (rv2.mono (e.trans e4)))⟩
def dIE (dA : TAD) : TID := fun ρ M R => dA ρ M fun xs M1 => match xs with
  | [x] => ∃ ds, lsF x = some ds ∧ R (enumD ds) M1
  | _ => False
def dIZ (dA : TAD) : TID := fun ρ M R => dA ρ M fun xs M1 => match xs with
  | [x, y] => ∃ ds es, lsF x = some ds ∧ lsF y = some es ∧ R (zipD ds es) M1
  | _ => False
variable {elts : List Expr} {kk : Nat} {tpos : Pos}
theorem di_enum (hm : X.mg "enumerate" = none) (ha : DA X [a] dA) (hg : Gl X "enumerate" := by rfl) (hs : starEach [a] X.env = [(false, eval a X.env)] := by rfl) : DI X (.Tuple elts kk tpos) (.Call (.Name "enumerate" p) [a] [] pos) (dIE dA) := pi_w (pi_enum hg hm ha hs) fun σ H R ⟨Z, F, M, ρ, RD, R0, h, o⟩ => by
  refine ⟨Z, F, M, ρ, _, R0, h, fun xs as F1 H1 M1 e1 R1 r1 h1 => ?_⟩
  split at h1
  · obtain ⟨v, ws, rfl, q1, r1⟩ := r1.uncons
    cases r1.unnil
    obtain ⟨ds, h2, h3⟩ := h1
    obtain ⟨p, xs, rfl, q, r⟩ := lsF_rep q1 h2
    exact ⟨p, xs, rfl, ext_l R1.sub q, o _ _ F1 H1 M1 e1 R1 (walk_enumD q r) h3⟩
  · exact h1.elim
theorem di_zip (hm : X.mg "zip" = none) (ha : DA X [a, b] dA) (hg : Gl X "zip" := by rfl) (hs : starEach [a, b] X.env = (false, eval a X.env) :: starEach [b] X.env := by rfl) (hpl : (backTo pos (starEach [b] X.env)).any (·.1) = false := by rfl) : DI X (.Tuple elts kk tpos) (.Call (.Name "zip" p) [a, b] [] pos) (dIZ dA) := pi_w (pi_zip hg hm ha hs hpl) fun σ H R ⟨Z, F, M, ρ, RD, R0, h, o⟩ => by
  refine ⟨Z, F, M, ρ, _, R0, h, fun xs as F1 H1 M1 e1 R1 r1 h1 => ?_⟩
  split at h1
  · obtain ⟨v, ws, rfl, q1, r1⟩ := r1.uncons
    obtain ⟨v2, ws, rfl, q2, r1⟩ := r1.uncons
    cases r1.unnil
    obtain ⟨ds, es, h2, h4, h3⟩ := h1
    obtain ⟨p, xs, rfl, q, r⟩ := lsF_rep q1 h2
    obtain ⟨p2, ys, rfl, q3, r3⟩ := lsF_rep q2 h4
    exact ⟨p, p2, xs, ys, rfl, ext_l R1.sub q, ext_l R1.sub q3, o _ _ F1 H1 M1 e1 R1 (walk_zipD q r q3 r3) h3⟩
  · exact h1.elim
end
/-! ### comprehensions -/
section
variable {X : Cx}
def wipeD (ρ : EnvD) : List Nat → EnvD
  | [] => ρ
  | v :: vs => setD (wipeD ρ vs) v none
theorem wipeD_rep {K : PySem.W.Frag} {F : Hp} {σ : L2.St} {ρ : EnvD} (r : RelE K F σ ρ) : ∀ vs, RelE K F (wipe σ vs) (wipeD ρ vs)
  | [] => r
  | v :: vs => by
    unfold wipe wipeD
    rw [setD_set]
    exact (wipeD_rep r vs).unset v
abbrev DTs (X : Cx) (ifs : List Expr) (d : TTD) : Prop := PTs X ifs (upT X.K d)
theorem pts_w {ifs : List Expr} {t u : TT} (h : PTs X ifs t) (w : ∀ σ H Q, u σ H Q → t σ H Q) : PTs X ifs u := ⟨fun pins s σ H Q I q => h.run pins s σ H Q I (w σ H Q q)⟩
def dYes : TTD := fun _ M Q => Q true M
theorem dts_nil : DTs X [] dYes := pts_w pts_nil fun σ H Q ⟨Z, F, M, ρ, QD, R, h, o⟩ => o true F H M (Ext.refl F) R.m h
theorem dts_one {c : Expr} {t : TTD} (h : DT X c t) : DTs X [c] t := pts_one h
def lcGo (g : TGD) (tt : TTD) (te : TED) (ρ : EnvD) (mk : Bool) (Q : VKD) : List Dat → List Dat → MH → Prop
  | [], acc, M => newL mk acc M Q
  | x :: r, acc, M => g x ρ M fun ρ2 M2 => tt ρ2 M2 fun b M3 => if b = true then te ρ2 M3 fun y M4 => lcGo g tt te ρ mk Q r (acc ++ [y]) M4 else lcGo g tt te ρ mk Q r acc M3
def dLc (mk : Bool) (vs : List Nat) (di : TID) (g : TGD) (tt : TTD) (te : TED) : TED := fun ρ M Q => di ρ M fun ds M1 => ds.length ≤ sizeLine ∧ lcGo g tt te (wipeD ρ vs) mk Q ds [] M1
theorem up_lc {K : PySem.W.Frag} {mk : Bool} {vs : List Nat} {di : TID} {g : TGD} {tt : TTD} {te : TED} {σ : L2.St} {H : Hp} {Q : VK} (h : up K (dLc mk vs di g tt te) σ H Q) : tLc (upI K di) (upGo K vs g) (upT K tt) (up K te) vs σ H Q := by
  obtain ⟨Z, F, M, ρ, QD, R, h, o⟩ := h
  refine ⟨Z, F, M, ρ, _, R, h, fun ds J F1 H1 M1 e1 R1 w1 h1 => ?_⟩
  obtain ⟨hz, h1⟩ := h1
  intro D hD
  have hidD : ∀ {F : Hp} {H : Hp} {M : MH} {accv : List V}, RelM K (upd Z D (.lst accv)) F H M → H D = some (.lst accv) ∧ F D = none ∧ M D = none := fun R => R.hid D _ upd_same
  -- the hidden list, put away and taken up
  have hide : ∀ {F H : Hp} {M : MH} {accv : List V}, RelM K Z F H M → H D = some (.lst accv) → F D = none → M D = none → RelM K (upd Z D (.lst accv)) F H M := fun {F H M accv} R hH hF hM =>
    ⟨R.sub, fun b u q => by
      by_cases hb : b = D
      · subst hb
        rw [upd_same] at q
        cases q
        exact ⟨hH, hF, hM⟩
      · rw [upd_ne hb] at q
        exact R.hid b u q, R.chg⟩
  have hZD : Z D = none := by
    cases q : Z D with
    | none => rfl
    | some u =>
      rw [(R1.hid D u q).1] at hD
      cases hD
  have bare : ∀ {F H : Hp} {M : MH} {accv : List V}, RelM K (upd Z D (.lst accv)) F H M → RelM K Z F H M := fun {F H M accv} R =>
    ⟨R.sub, fun b u q => R.hid b u (by rw [upd_ne (ne_of_none q hZD)]; exact q), R.chg⟩
  refine ⟨fun i m H => m = ds.length - i ∧ i ≤ ds.length ∧ ∃ F' M accv acc, Ext F1 F' ∧ RelM K Z F' H M ∧ H D = some (.lst accv) ∧ F' D = none ∧ M D = none ∧ Reps K F' accv acc ∧ acc.length ≤ i ∧ lcGo g tt te (wipeD ρ vs) mk QD (ds.drop i) acc M,
    ⟨ds.length, by simp, Nat.zero_le _, F1, M1, [], [], Ext.refl _, ⟨fun b u q => ?_, fun b u q => ?_, fun b m q => ?_⟩, upd_same, (R1.fresh hD).1, (R1.fresh hD).2, .nil, Nat.le_refl _, h1⟩, ?_⟩
  · rw [upd_ne (ne_of_none (R1.sub b u q) hD)]
    exact R1.sub b u q
  · obtain ⟨q1, q2, q3⟩ := R1.hid b u q
    exact ⟨by rw [upd_ne (ne_of_none q1 hD)]; exact q1, q2, q3⟩
  · obtain ⟨q1, q2⟩ := R1.chg b m q
    exact ⟨q1, q2.mono (Ext.refl _) (upd_ne (R1.ne hD q))⟩
  rintro i m H2 ⟨rfl, hi, F2, M2, accv, acc, e2, R2, a1, a2, a3, a4, a5, h2⟩
  by_cases hlt : i < ds.length
  · obtain ⟨d, hd⟩ : ∃ d, ds[i]? = some d := ⟨ds[i], List.getElem?_eq_getElem hlt⟩
    have hdr : ds.drop i = d :: ds.drop (i + 1) := by
      obtain ⟨h5, h6⟩ := List.getElem?_eq_some_iff.mp hd
      rw [List.drop_eq_getElem_cons h5, h6]
    rw [hdr] at h2
    unfold lcGo at h2
    refine .inr ⟨w1.go Z i F2 H2 M2 e2 R2 hlt, fun H' => ∃ F' M accv acc, Ext F1 F' ∧ RelM K Z F' H' M ∧ H' D = some (.lst accv) ∧ F' D = none ∧ M D = none ∧ Reps K F' accv acc ∧ acc.length ≤ i + 1 ∧ lcGo g tt te (wipeD ρ vs) mk QD (ds.drop (i + 1)) acc M,
      fun H' n => ⟨ds.length - (i + 1), by omega, rfl, hlt, n⟩, fun x H' y => ?_⟩
    have R2h := hide R2 a1 a2 a3
    · obtain ⟨F3, e3, R3, r3⟩ := w1.yld (upd Z D (.lst accv)) i F2 H2 M2 x H' d e2 R2h y hd
      have R0 : Rel K (upd Z D (.lst accv)) F3 H' M2 (wipe σ vs) (wipeD ρ vs) := ⟨R3, (wipeD_rep R.e vs).mono ((e1.trans e2).trans e3)⟩
      refine ⟨upd Z D (.lst accv), F3, M2, wipeD ρ vs, d, _, R0, r3, h2, fun σ4 ρ4 F4 H4 M4 e4 R4 wp h4 => ⟨wp.trans wipe_wipe, ?_⟩⟩
      refine ⟨upd Z D (.lst accv), F4, M4, ρ4, _, R4, h4, fun b F5 H5 M5 e5 R5 h5 => ?_⟩
      have e15 := ((e2.trans e3).trans e4).trans e5
      cases b with
      | true =>
        dsimp only at h5 ⊢
        rw [if_pos rfl] at h5 ⊢
        refine ⟨upd Z D (.lst accv), F5, M5, ρ4, _, R4.ext e5 R5, h5, fun yv yd F6 H6 M6 e6 R6 r6 h6 => ?_⟩
        obtain ⟨b1, b2, b3⟩ := hidD R6
        refine ⟨accv, b1, by have := a4.length; omega, F6, M6, accv ++ [yv], acc ++ [yd], e15.trans e6, ⟨fun b u q => ?_, fun b u q => ?_, fun b m q => ?_⟩, upd_same, b2, b3, (a4.mono (((e3.trans e4).trans e5).trans e6)).app (.one r6), by rw [List.length_append, List.length_singleton]; omega, h6⟩
        · rw [upd_ne (ne_of_none q b2)]
          exact R6.sub b u q
        · obtain ⟨q1, q2, q3⟩ := (bare R6).hid b u q
          exact ⟨by rw [upd_ne (ne_of_none q hZD)]; exact q1, q2, q3⟩
        · obtain ⟨q1, q2⟩ := R6.chg b m q
          exact ⟨q1, q2.mono (Ext.refl _) (upd_ne (ne_dom q b3))⟩
      | false =>
        dsimp only at h5 ⊢
        rw [if_neg Bool.false_ne_true] at h5 ⊢
        obtain ⟨b1, b2, b3⟩ := hidD R5
        exact ⟨F5, M5, accv, acc, e15, bare R5, b1, b2, b3, a4.mono ((e3.trans e4).trans e5), by omega, h5⟩
  · have e : i = ds.length := by omega
    subst e
    rw [List.drop_length] at h2
    unfold lcGo at h2
    refine .inl ⟨w1.stop Z F2 H2 M2 e2 R2, ?_⟩
    cases mk with
    | false =>
      have h2' : QD (.lst acc) M2 := h2
      have ee := Ext.new (o := .lst accv) a2
      refine o _ _ (upd F2 D (.lst accv)) H2 M2 ((e1.trans e2).trans ee) ⟨fun b u q => ?_, fun b u q => ?_, fun b m q => ?_⟩ (.lst upd_same (a4.mono ee)) h2'
      · by_cases hb : b = D
        · subst hb
          rw [upd_same] at q
          cases q
          exact a1
        · rw [upd_ne hb] at q
          exact R2.sub b u q
      · obtain ⟨q1, q2, q3⟩ := R2.hid b u q
        exact ⟨q1, by rw [upd_ne (ne_of_none q hZD)]; exact q2, q3⟩
      · obtain ⟨q1, q2⟩ := R2.chg b m q
        exact ⟨by rw [upd_ne (ne_dom q a3)]; exact q1, q2.mono ee rfl⟩
    | true =>
      have h2' := (show ∀ a, M2 a = none → QD (.ref a) (updM M2 a (.lst acc)) from h2) D a3
      refine o _ _ F2 H2 (updM M2 D (.lst acc)) (e1.trans e2) ⟨R2.sub, fun b u q => ?_, fun b m q => ?_⟩ (.ref D) h2'
      · obtain ⟨q1, q2, q3⟩ := R2.hid b u q
        exact ⟨q1, q2, by rw [updM_ne (ne_of_none q hZD)]; exact q3⟩
      · by_cases hb : b = D
        · subst hb
          rw [updM_same] at q
          cases q
          exact ⟨a2, accv, a1, a4⟩
        · rw [updM_ne hb] at q
          exact R2.chg b m q
end
end DL
namespace DL
open PySem PySem.Spec PyProof.Rows L2
section
variable {X : Cx}
/-- [elt for target in iter if ..] -/
theorem de_lc (mk : Bool) {elt tg iter : Expr} {ifs : List Expr} {scope : Scope} {own : List (Str × Nat)} {pos : Pos} {di : TID} {g : TGD} {tt : TTD} {te : TED} (hN : X.N.Nodup) (hi : DI X tg iter di) (ok : BlkOk X.N X.env.scope scope own)
    (hg : ∀ (s : Shared) (H : Hp) (C : Addr) (cl : List (Str × Addr)) (fp : List Addr), DGo (X.blk s H scope (compEnvC scope cl C X.env) fp) tg (own.map (·.2)) g) (ht : ∀ (s : Shared) (H : Hp) (C : Addr) (cl : List (Str × Addr)) (fp : List Addr), DTs (X.blk s H scope (compEnvC scope cl C X.env) fp) ifs tt)
    (he : ∀ (s : Shared) (H : Hp) (C : Addr) (cl : List (Str × Addr)) (fp : List Addr), DE (X.blk s H scope (compEnvC scope cl C X.env) fp) elt te) (hc : X.calm = true := by rfl) (hs : ∀ x, foldedSetIterable iter X.env x = pure x := by intro _; rfl) :
    DE X (.ListComp elt [⟨tg, iter, ifs, 0⟩] scope pos) (dLc mk (own.map (·.2)) di g tt te) := pe_w (pe_lc hc hN hi ok hg ht he hs) fun σ H Q h => up_lc h
theorem ds_setLc {i : Nat} (mk : Bool) {y : Str} {py : Pos} {elt tg iter : Expr} {ifs : List Expr} {scope : Scope} {own : List (Str × Nat)} {pos spos : Pos} {di : TID} {g : TGD} {tt : TTD} {te : TED} (hN : X.N.Nodup) (hi : DI X tg iter di) (ok : BlkOk X.N X.env.scope scope own)
    (hg : ∀ (s : Shared) (H : Hp) (C : Addr) (cl : List (Str × Addr)) (fp : List Addr), DGo (X.blk s H scope (compEnvC scope cl C X.env) fp) tg (own.map (·.2)) g) (ht : ∀ (s : Shared) (H : Hp) (C : Addr) (cl : List (Str × Addr)) (fp : List Addr), DTs (X.blk s H scope (compEnvC scope cl C X.env) fp) ifs tt)
    (he : ∀ (s : Shared) (H : Hp) (C : Addr) (cl : List (Str × Addr)) (fp : List Addr), DE (X.blk s H scope (compEnvC scope cl C X.env) fp) elt te) (hy : X.N[i]? = some y := by rfl) (hyl : X.env.scope.names.lookup y = some .local := by rfl)
    (hsw : swapsWith (.ListComp elt [⟨tg, iter, ifs, 0⟩] scope pos) (some (.Name y py)) spos.line X.env = pure true := by exact sw_true rfl rfl rfl (by decide +kernel)) (hc : X.calm = true := by rfl) (hs : ∀ x, foldedSetIterable iter X.env x = pure x := by intro _; rfl) :
    DS X (.Assign [.Name y py] (.ListComp elt [⟨tg, iter, ifs, 0⟩] scope pos) spos) (dAsg (dLc mk (own.map (·.2)) di g tt te) (dgN i)) := ps_w (ps_setLc hc hN hy hyl hsw hi ok hg ht he hs) fun D σ H ⟨Z, F, M, ρ, DD, R, h, o⟩ => by
  refine up_lc (Q := fun x H1 => gName i x σ H1 D.nx) ⟨Z, F, M, ρ, _, R, h, fun v d F1 H1 M1 e1 R1 r1 h1 => ?_⟩
  refine o.nx _ _ _ _ _ e1 ⟨R1, ?_⟩ h1
  rw [setD_set]
  exact (R.e.mono e1).set r1 i
def dDic0 : TED := fun _ M Q => Q (.dic []) M
theorem de_dic0 {pos : Pos} : DE X (.Dict [] [] pos) dDic0 := pe_w pe_dnewK fun σ H Q ⟨Z, F, M, ρ, QD, R, h, o⟩ => by
  intro p hp
  obtain ⟨R2, e2⟩ := R.m.newF (o := .dK []) hp
  exact o _ _ _ _ M e2 R2 (.dic upd_same .nil) h
end
theorem same_fun {K : PySem.W.Frag} {x x2 q q2 : Str} {st st2 : Stmt} {f : Addr} {fd fd2 : FuncData} (F : Fun K x q st f fd) (G : Fun K x2 q2 st2 f fd2) : fd = fd2 := by
  obtain ⟨oc, od, kV, doc, pm, an, cdv, ct, osl, e, lk, hcd⟩ := F.ex
  obtain ⟨oc2, od2, kV2, doc2, pm2, an2, cdv2, ct2, osl2, e2, lk2, hcd2⟩ := G.ex
  rw [lk] at lk2
  have h := Option.some.inj lk2
  injection h with _ _ h3 _
  injection h3
/-- the law's def: a list of ints, True -/
def spLaw : SpD := fun ds M Q => ∃ ns : List Int, ds = [.frl (ns.map Dat.int)] ∧ ns.length ≤ 63 ∧ ∀ M', Q (.bl true) M'
theorem law_in {K : PySem.W.Frag} {H : Hp} {a : Addr} {ns : List Int} (hl : ns.length ≤ 63) (hS : SqL K H a (ns.map V.int)) : toSp K spLaw [.ref a] H (fun v _ => v = .bl true) (fun _ _ _ => False) := by
  refine ⟨fun _ => none, H, fun _ => none, [.frl (ns.map Dat.int)], fun d _ => d = .bl true, ⟨Ext.refl H, fun _ _ h => (by cases h), fun _ _ h => (by cases h)⟩, .one (.frl hS (reps_ints ns)), ⟨ns, rfl, hl, fun _ => rfl⟩, ?_⟩
  intro v d F' H' M' _ _ r h
  subst h
  exact r.toBl
end DL
namespace DL
open PySem PySem.Spec PyProof.Rows L2
theorem endD_of {Q : VKD} {d : Dat} {M : MH} (h : Q d M) : endD Q d M := ⟨M, LeM.refl M, h⟩
theorem endD_le {Q : VKD} {d : Dat} {M M0 : MH} (l : LeM M0 M) (h : Q d M0) : endD Q d M := ⟨M0, l, h⟩
/-! ### loops by what holds before each round -/
theorem loop_by {g : TGD} {tb : TSD} {D : EndsD} (I : List Dat → EnvD → MH → Prop) (hend : ∀ ρ M, I [] ρ M → D.nx ρ M)
    (step : ∀ d r ρ M (k : EnvD → MH → Prop), I (d :: r) ρ M → (∀ ρ M, I r ρ M → k ρ M) → g d ρ M fun ρ' M' => tb { D with nx := k, ct := k, bk := D.nx } ρ' M') : ∀ ds ρ M, I ds ρ M → dLoop g tb ds D ρ M
  | [], ρ, M, h => hend ρ M h
  | d :: r, ρ, M, h => step d r ρ M _ h fun ρ M h => loop_by I hend step r ρ M h
theorem lc_by {g : TGD} {tt : TTD} {te : TED} {ρ : EnvD} {mk : Bool} {Q : VKD} (I : List Dat → List Dat → MH → Prop) (hend : ∀ acc M, I [] acc M → newL mk acc M Q)
    (step : ∀ x r acc M (k : List Dat → MH → Prop), I (x :: r) acc M → (∀ acc M, I r acc M → k acc M) → g x ρ M fun ρ2 M2 => tt ρ2 M2 fun b M3 => if b = true then te ρ2 M3 fun y M4 => k (acc ++ [y]) M4 else k acc M3) : ∀ ds acc M, I ds acc M → lcGo g tt te ρ mk Q ds acc M
  | [], acc, M, h => hend acc M h
  | x :: r, acc, M, h => step x r acc M (fun acc M => lcGo g tt te ρ mk Q r acc M) h fun acc M h => lc_by I hend step r acc M h
/-- .. where only the round's number counts -/
theorem loop_n {g : TGD} {tb : TSD} {D : EndsD} {lo : Int} {n : Nat} {ρ : EnvD} {M : MH} (I : Nat → EnvD → MH → Prop) (h0 : I 0 ρ M) (hend : ∀ ρ M, I n ρ M → D.nx ρ M)
    (step : ∀ i ρ M (k : EnvD → MH → Prop), i < n → I i ρ M → (∀ ρ M, I (i + 1) ρ M → k ρ M) → g (.int (lo + (i : Nat))) ρ M fun ρ' M' => tb { D with nx := k, ct := k, bk := D.nx } ρ' M') : dLoop g tb (rngD lo n) D ρ M := by
  refine loop_by (fun r ρ M => ∃ i, r = (rngD lo n).drop i ∧ i ≤ n ∧ I i ρ M) ?_ ?_ _ _ _ ⟨0, rfl, Nat.zero_le _, h0⟩
  · rintro ρ M ⟨i, hr, hi, h⟩
    have : i = n := by
      have := congrArg List.length hr
      rw [List.length_drop] at this
      unfold rngD at this
      rw [List.length_map, List.length_range, List.length_nil] at this
      omega
    subst this
    exact hend ρ M h
  · rintro d r ρ M k ⟨i, hr, hi, h⟩ hk
    have hl : (rngD lo n).length = n := by unfold rngD; rw [List.length_map, List.length_range]
    have hlt : i < n := by
      rcases Nat.lt_or_ge i n with h | h
      · exact h
      · rw [List.drop_eq_nil_of_le (by omega)] at hr
        cases hr
    have hd : (rngD lo n).drop i = .int (lo + (i : Nat)) :: (rngD lo n).drop (i + 1) := by
      rw [List.drop_eq_getElem_cons (by omega)]
      congr 1
      unfold rngD
      rw [List.getElem_map, List.getElem_range]
    rw [hd] at hr
    injection hr with h1 h2
    subst h1
    exact step i ρ M k hlt h fun ρ M q => hk ρ M ⟨i + 1, h2, by omega, q⟩
theorem lc_n {g : TGD} {tt : TTD} {te : TED} {ρ : EnvD} {mk : Bool} {Q : VKD} {lo : Int} {n : Nat} {M : MH} (I : Nat → List Dat → MH → Prop) (h0 : I 0 [] M) (hend : ∀ acc M, I n acc M → newL mk acc M Q)
    (step : ∀ i acc M (k : List Dat → MH → Prop), i < n → I i acc M → (∀ acc M, I (i + 1) acc M → k acc M) → g (.int (lo + (i : Nat))) ρ M fun ρ2 M2 => tt ρ2 M2 fun b M3 => if b = true then te ρ2 M3 fun y M4 => k (acc ++ [y]) M4 else k acc M3) : lcGo g tt te ρ mk Q (rngD lo n) [] M := by
  refine lc_by (fun r acc M => ∃ i, r = (rngD lo n).drop i ∧ i ≤ n ∧ I i acc M) ?_ ?_ _ _ _ ⟨0, rfl, Nat.zero_le _, h0⟩
  · rintro acc M ⟨i, hr, hi, h⟩
    have : i = n := by
      have := congrArg List.length hr
      rw [List.length_drop] at this
      unfold rngD at this
      rw [List.length_map, List.length_range, List.length_nil] at this
      omega
    subst this
    exact hend acc M h
  · rintro d r acc M k ⟨i, hr, hi, h⟩ hk
    have hl : (rngD lo n).length = n := by unfold rngD; rw [List.length_map, List.length_range]
    have hlt : i < n := by
      rcases Nat.lt_or_ge i n with h | h
      · exact h
      · rw [List.drop_eq_nil_of_le (by omega)] at hr
        cases hr
    have hd : (rngD lo n).drop i = .int (lo + (i : Nat)) :: (rngD lo n).drop (i + 1) := by
      rw [List.drop_eq_getElem_cons (by omega)]
      congr 1
      unfold rngD
      rw [List.getElem_map, List.getElem_range]
    rw [hd] at hr
    injection hr with h1 h2
    subst h1
    exact step i acc M k hlt h fun acc M q => hk acc M ⟨i + 1, h2, by omega, q⟩
/-! ### the numbers -/
theorem fdivP {i j : Int} (h : 0 < j) : i.fdiv j = i / j := Int.fdiv_eq_ediv_of_nonneg i (by omega)
theorem fmodP {i j : Int} (h : 0 < j) : i.fmod j = i % j := Int.fmod_eq_emod_of_nonneg i (by omega)
theorem mulOk_l {a b : Int} (h : a.natAbs < 2 ^ 64) : IntMulOk a b := IntMulOk.of_left (PyProof.Rows.intBits_le h)
theorem mulOk_r {a b : Int} (h : b.natAbs < 2 ^ 64) : IntMulOk a b := IntMulOk.of_right (PyProof.Rows.intBits_le h)
theorem mulOk_b {a b : Int} {m n : Nat} (ha : a.natAbs < 2 ^ m) (hb : b.natAbs < 2 ^ n) (hm : m ≤ 2 ^ 20) (hn : n ≤ 2 ^ 20) : IntMulOk a b :=
  IntMulOk.of_bits (Nat.le_trans (PyProof.Rows.intBits_le ha) hm) (Nat.le_trans (PyProof.Rows.intBits_le hb) hn)
theorem divOk_b {i j : Int} (h0 : 0 < j) (h : j < 2 ^ 9000) : DivOk i j := by
  refine ⟨by omega, PyProof.noPylong_of_log2 ?_⟩
  rw [Nat.log2_lt (by omega)]
  omega
theorem shlOk {i : Int} {j : Nat} (h : i.natAbs < 2 ^ 64) (hn : j ≤ 100000000) : CShl i (j : Int) := shl_ok (n := 64) h (by omega)
theorem shl1 {j : Int} (h0 : 0 ≤ j) (h : j ≤ 100000000) : CShl 1 j := by
  obtain ⟨n, rfl⟩ := Int.eq_ofNat_of_zero_le h0
  exact shlOk (by decide) (by omega)
theorem bits_lt {i : Int} {n : Nat} (h : i.natAbs < 2 ^ n) : Builtin.Int.intBits i ≤ n := PyProof.Rows.intBits_le h
/-! ### isinstance -/
def isIntD : Dat → Bool
  | .int _ => true
  | _ => false
theorem isI_int {x : Dat} : (if isiR x (.ty .int) = true then !isiR x (.ty .bool) else false) = isIntD x := by
  cases x <;> rfl
theorem cd_isiK {X : Cx} (K : PySem.W.Frag) (h : X.K = K) : CallD X (.builtin "isinstance") (rIsiD K) := by
  subst h
  exact cd_isi
/-! ### a condition, a value, by what it is -/
section
variable {X : Cx} {e : Expr}
def dtCut (t : TTD) : TTD := fun ρ M Q => ∃ B : Bool → MH → Prop, t ρ M B ∧ ∀ b M', B b M' → Q b M'
def deCut (t : TED) : TED := fun ρ M Q => ∃ B : VKD, t ρ M B ∧ ∀ d M', B d M' → Q d M'
theorem dt_cut {t : TTD} (h : DT X e t) : DT X e (dtCut t) := pt_w h fun σ H Q ⟨Z, F, M, ρ, QD, R, ⟨B, h, k⟩, o⟩ =>
  ⟨Z, F, M, ρ, B, R, h, fun b F1 H1 M1 e1 R1 h1 => o b F1 H1 M1 e1 R1 (k b M1 h1)⟩
theorem de_cut {t : TED} (h : DE X e t) : DE X e (deCut t) := pe_w h fun σ H Q ⟨Z, F, M, ρ, QD, R, ⟨B, h, k⟩, o⟩ =>
  ⟨Z, F, M, ρ, B, R, h, fun v d F1 H1 M1 e1 R1 r h1 => o v d F1 H1 M1 e1 R1 r (k d M1 h1)⟩
theorem cut_is {t : TTD} {ρ : EnvD} {M : MH} {Q : Bool → MH → Prop} (v : Bool) (h : t ρ M fun b M1 => b = v ∧ M1 = M) (q : Q v M) : dtCut t ρ M Q := ⟨_, h, by
  rintro _ _ ⟨rfl, rfl⟩
  exact q⟩
theorem cutE_is {t : TED} {ρ : EnvD} {M : MH} {Q : VKD} (v : Dat) (h : t ρ M fun b M1 => b = v ∧ M1 = M) (q : Q v M) : deCut t ρ M Q := ⟨_, h, by
  rintro _ _ ⟨rfl, rfl⟩
  exact q⟩
end
/-! ### the readings, each as a row to rewrite by -/
section
variable {ρ : EnvD} {M : MH} {Q : VKD} {i j : Int} {x y : Dat} {s t : Str} {a b : Bool} {mk : Bool} {xs ys : List Dat}
def asBl (x : Dat) (k : Bool → Prop) : Prop := match x with
  | .bl b => k b
  | _ => False
theorem asBl_bl {k : Bool → Prop} : asBl (.bl b) k = k b := rfl
def asInt (x : Dat) (k : Int → Prop) : Prop := match x with
  | .int b => k b
  | _ => False
theorem asInt_int {k : Int → Prop} : asInt (.int i) k = k i := rfl
def asTup (x : Dat) (k : List Dat → Prop) : Prop := match x with
  | .tup b => k b
  | _ => False
theorem asTup_tup {k : List Dat → Prop} : asTup (.tup xs) k = k xs := rfl
theorem w_test {d : TED} {Q : Bool → MH → Prop} : dTest d ρ M Q = d ρ M fun x M1 => asBl x fun b => Q b M1 := rfl
theorem w_chain {r r' : R2D} {da db dc : TED} : dChain r r' da db dc ρ M Q = da ρ M fun x M1 => db ρ M1 fun y M2 => r x y M2 fun z M3 => asBl z fun k => if k = true then dc ρ M3 fun w M4 => r' y w M4 Q else Q (.bl false) M3 := rfl
theorem w_andV {da db : TED} : dAndV da db ρ M Q = da ρ M fun x M1 => asBl x fun k => if k = true then db ρ M1 Q else Q (.bl false) M1 := rfl
theorem w_orV {da db : TED} : dOrV da db ρ M Q = da ρ M fun x M1 => asBl x fun k => if k = true then Q (.bl true) M1 else db ρ M1 Q := rfl
theorem w_notV {da : TED} : dNotV da ρ M Q = da ρ M fun x M1 => asBl x fun k => Q (.bl (!k)) M1 := rfl
theorem w_neg : dNeg x M Q = asInt x fun i => Q (.int (-i)) M := rfl
theorem w_sub : rSub (.int i) (.int j) M Q = Q (.int (i - j)) M := rfl
theorem w_div : rDiv (.int i) (.int j) M Q = (DivOk i j ∧ Q (.int (i.fdiv j)) M) := rfl
theorem w_mod : rMod (.int i) (.int j) M Q = (j ≠ 0 ∧ Q (.int (i.fmod j)) M) := rfl
theorem w_pow : rPow (.int i) (.int j) M Q = (PowOk i j ∧ Q (.int (i ^ j.toNat)) M) := rfl
theorem w_shl : rShl (.int i) (.int j) M Q = (CShl i j ∧ Q (.int (i * 2 ^ j.toNat)) M) := rfl
theorem w_shr : rShr (.int i) (.int j) M Q = (0 ≤ j ∧ Q (.int (i / 2 ^ j.toNat)) M) := rfl
theorem w_and : rAnd (.int i) (.int j) M Q = Q (.int (Builtin.bitAnd i j)) M := rfl
theorem w_or : rOr (.int i) (.int j) M Q = Q (.int (Builtin.bitOr i j)) M := rfl
theorem w_xor : rXor (.int i) (.int j) M Q = Q (.int (Builtin.bitXor i j)) M := rfl
theorem w_lt : rLt (.int i) (.int j) M Q = Q (.bl (decide (i < j))) M := rfl
theorem w_le : rLe (.int i) (.int j) M Q = Q (.bl (decide (i ≤ j))) M := rfl
theorem w_gt : rGt (.int i) (.int j) M Q = Q (.bl (decide (j < i))) M := rfl
theorem w_ge : rGe (.int i) (.int j) M Q = Q (.bl (decide (j ≤ i))) M := rfl
theorem w_add : rAdd mk (.int i) (.int j) M Q = Q (.int (i + j)) M := rfl
theorem w_addS : rAdd mk (.str s) (.str t) M Q = (s.length + t.length ≤ sizeLine ∧ Q (.str (s ++ t)) M) := rfl
theorem w_addT : rAdd mk (.tup xs) (.tup ys) M Q = (xs ≠ [] ∧ ys ≠ [] ∧ xs.length + ys.length ≤ sizeLine ∧ Q (.tup (xs ++ ys)) M) := rfl
theorem w_addL : rAdd mk (.lst xs) y M Q = ∃ i j, lsT M (.lst xs) = some i ∧ lsT M y = some j ∧ i.length + j.length ≤ sizeLine ∧ newL mk (i ++ j) M Q := rfl
theorem w_addF : rAdd mk (.frl xs) y M Q = ∃ i j, lsT M (.frl xs) = some i ∧ lsT M y = some j ∧ i.length + j.length ≤ sizeLine ∧ newL mk (i ++ j) M Q := rfl
theorem w_addR {a : Addr} : rAdd mk (.ref a) y M Q = ∃ i j, lsT M (.ref a) = some i ∧ lsT M y = some j ∧ i.length + j.length ≤ sizeLine ∧ newL mk (i ++ j) M Q := rfl
theorem w_mul : rMul mk (.int i) (.int j) M Q = (IntMulOk i j ∧ Q (.int (i * j)) M) := rfl
theorem w_mulL : rMul mk (.lst xs) y M Q = ∃ ds k, lsT M (.lst xs) = some ds ∧ y = .int k ∧ -(2 ^ 63) ≤ k ∧ k < 2 ^ 63 ∧ ds.length * k.toNat ≤ sizeLine ∧ newL mk (List.replicate k.toNat ds).flatten M Q := rfl
theorem w_eq : rEqD (.int i) (.int j) M Q = Q (.bl (decide (i = j))) M := rfl
theorem w_ne : rNeD (.int i) (.int j) M Q = Q (.bl (!decide (i = j))) M := rfl
/-- .. of two other data -/
theorem eqv_comm1 {i : Int} (h : shp 64 y = true) (hy : ∀ j, y ≠ .int j) (q : Q (.bl (eqD (.int i) y)) M) (hd : deref M y = y) : rEqD (.int i) y M Q := by
  cases y with
  | int j => exact absurd rfl (hy j)
  | _ => exact ⟨by rw [hd]; exact h, by rw [hd]; exact q⟩
theorem w_isN : rIs x .non M Q = Q (.bl (isN x)) M := rfl
theorem w_isB : rIs (.bl a) (.bl b) M Q = Q (.bl (decide (a = b))) M := rfl
theorem w_isntN : rIsNot x .non M Q = Q (.bl (!isN x)) M := rfl
theorem w_isntB : rIsNot (.bl a) (.bl b) M Q = Q (.bl (!decide (a = b))) M := rfl
theorem w_ix : rIxD x (.int i) M Q = ∃ ds d, itemsR M x = some ds ∧ atI ds i = some d ∧ Q d M := rfl
theorem w_isi {K : PySem.W.Frag} : rIsiD K [x, y] M Q = (IsiOk K x y ∧ Q (.bl (isiR x y)) M) := rfl
theorem w_abs : rAbs [.int i] M Q = Q (.int (if i < 0 then -i else i)) M := rfl
theorem w_max2 : rMaxD [.int i, .int j] M Q = Q (.int (if j > i then j else i)) M := rfl
theorem w_min2 : rMinD [.int i, .int j] M Q = Q (.int (if j < i then j else i)) M := rfl
theorem w_max1L : rMaxD [.lst xs] M Q = ∃ ns : List Int, lsR M (.lst xs) = some (ns.map Dat.int) ∧ 0 < ns.length ∧ ∀ m, m ∈ ns → (∀ y, y ∈ ns → y ≤ m) → Q (.int m) M := rfl
theorem w_min1L : rMinD [.lst xs] M Q = ∃ ns : List Int, lsR M (.lst xs) = some (ns.map Dat.int) ∧ 0 < ns.length ∧ ∀ m, m ∈ ns → (∀ y, y ∈ ns → m ≤ y) → Q (.int m) M := rfl
theorem w_sum : rSumD [x] M Q = ∃ ns : List Int, lsR M x = some (ns.map Dat.int) ∧ Q (.int ns.sum) M := rfl
theorem w_all : rAllD [x] M Q = ∃ bs : List Bool, lsR M x = some (bs.map Dat.bl) ∧ Q (.bl (bs.all _root_.id)) M := rfl
theorem w_any : rAnyD [x] M Q = ∃ bs : List Bool, lsR M x = some (bs.map Dat.bl) ∧ Q (.bl (bs.any _root_.id)) M := rfl
theorem w_len : rLenD [x] M Q = ∃ ys, itemsR M x = some ys ∧ Q (.int (ys.length : Int)) M := rfl
theorem w_int : rIntD [.int i] M Q = Q (.int i) M := rfl
theorem w_intB : rIntD [.bl b] M Q = Q (.int (if b then 1 else 0)) M := rfl
theorem w_divmod : rDivmodD [.int i, .int j] M Q = (CDivP i j ∧ Q (.tup [.int (i / j), .int (i % j)]) M) := rfl
theorem w_sorted : rSortedD mk [x] M Q = ∃ ns : List Int, lsR M x = some (ns.map Dat.int) ∧ ∀ ns' : List Int, ns'.Perm ns → ns'.Pairwise (· ≤ ·) → newL mk (ns'.map Dat.int) M Q := rfl
theorem w_list : rListD mk [x] M Q = ∃ ys, itemsR M x = some ys ∧ newL mk ys M Q := rfl
theorem w_bits {da : TED} : dBits da ρ M Q = da ρ M fun x M1 => asInt x fun i => Q (.int (Builtin.Int.intBits i : Nat)) M1 := rfl
def slK (mk : Bool) (lo hi : Option Int) (x : Dat) (M3 : MH) (Q : VKD) : Prop := match x with
  | .tup ds => ¬ (HT.sIx ds.length 0 lo = 0 ∧ HT.sIx ds.length ds.length hi = ds.length) ∧ Q (.tup (cutD ds lo hi)) M3
  | x => ∃ ds, lsR M3 x = some ds ∧ newL mk (cutD ds lo hi) M3 Q
theorem w_sl {da : TED} {dl dh : TOD} : dSl mk da dl dh ρ M Q = da ρ M fun x M1 => dl ρ M1 fun lo M2 => dh ρ M2 fun hi M3 => slK mk lo hi x M3 Q := rfl
theorem w_slL {lo hi : Option Int} : slK mk lo hi (.lst xs) M Q = ∃ ds, lsR M (.lst xs) = some ds ∧ newL mk (cutD ds lo hi) M Q := rfl
theorem w_slF {lo hi : Option Int} : slK mk lo hi (.frl xs) M Q = ∃ ds, lsR M (.frl xs) = some ds ∧ newL mk (cutD ds lo hi) M Q := rfl
theorem w_slR {lo hi : Option Int} {a : Addr} : slK mk lo hi (.ref a) M Q = ∃ ds, lsR M (.ref a) = some ds ∧ newL mk (cutD ds lo hi) M Q := rfl
theorem w_slT {lo hi : Option Int} : slK mk lo hi (.tup xs) M Q = (¬ (HT.sIx xs.length 0 lo = 0 ∧ HT.sIx xs.length xs.length hi = xs.length) ∧ Q (.tup (cutD xs lo hi)) M) := rfl
theorem w_newF : newL false xs M Q = Q (.lst xs) M := rfl
theorem w_newT : newL true xs M Q = ∀ a, M a = none → Q (.ref a) (updM M a (.lst xs)) := rfl
theorem w_eqL : rEqD (.lst xs) y M Q = (shp 64 (.lst xs) = true ∧ shp 64 (deref M y) = true ∧ Q (.bl (eqD (.lst xs) (deref M y))) M) := rfl
theorem w_eqT : rEqD (.tup xs) y M Q = (shp 64 (.tup xs) = true ∧ shp 64 (deref M y) = true ∧ Q (.bl (eqD (.tup xs) (deref M y))) M) := rfl
theorem v_eqB : rEqD (.bl a) y M Q = (shp 64 (.bl a) = true ∧ shp 64 (deref M y) = true ∧ Q (.bl (eqD (.bl a) (deref M y))) M) := rfl
theorem v_eqS : rEqD (.str s) y M Q = (shp 64 (.str s) = true ∧ shp 64 (deref M y) = true ∧ Q (.bl (eqD (.str s) (deref M y))) M) := rfl
theorem w_eqR {c : Addr} : rEqD (.ref c) y M Q = (shp 64 (deref M (.ref c)) = true ∧ shp 64 (deref M y) = true ∧ Q (.bl (eqD (deref M (.ref c)) (deref M y))) M) := rfl
theorem v_eqN : rEqD .non y M Q = (shp 64 .non = true ∧ shp 64 (deref M y) = true ∧ Q (.bl (eqD .non (deref M y))) M) := rfl
theorem w_neL : rNeD (.lst xs) y M Q = (shp 64 (.lst xs) = true ∧ shp 64 (deref M y) = true ∧ Q (.bl (!eqD (.lst xs) (deref M y))) M) := rfl
theorem w_neT : rNeD (.tup xs) y M Q = (shp 64 (.tup xs) = true ∧ shp 64 (deref M y) = true ∧ Q (.bl (!eqD (.tup xs) (deref M y))) M) := rfl
theorem v_neB : rNeD (.bl a) y M Q = (shp 64 (.bl a) = true ∧ shp 64 (deref M y) = true ∧ Q (.bl (!eqD (.bl a) (deref M y))) M) := rfl
theorem v_neS : rNeD (.str s) y M Q = (shp 64 (.str s) = true ∧ shp 64 (deref M y) = true ∧ Q (.bl (!eqD (.str s) (deref M y))) M) := rfl
theorem w_neR {c : Addr} : rNeD (.ref c) y M Q = (shp 64 (deref M (.ref c)) = true ∧ shp 64 (deref M y) = true ∧ Q (.bl (!eqD (deref M (.ref c)) (deref M y))) M) := rfl
theorem v_neN : rNeD .non y M Q = (shp 64 .non = true ∧ shp 64 (deref M y) = true ∧ Q (.bl (!eqD .non (deref M y))) M) := rfl
theorem w_eqSS (h1 : shp 64 (.str s) = true) (h2 : shp 64 (.str t) = true) : rEqD (.str s) (.str t) M Q = Q (.bl (eqD (.str s) (.str t))) M := propext ⟨fun h => h.2.2, fun h => ⟨h1, h2, h⟩⟩
theorem w_eqBB : rEqD (.bl a) (.bl b) M Q = Q (.bl (eqD (.bl a) (.bl b))) M := propext ⟨fun h => h.2.2, fun h => ⟨rfl, rfl, h⟩⟩
theorem w_neSS (h1 : shp 64 (.str s) = true) (h2 : shp 64 (.str t) = true) : rNeD (.str s) (.str t) M Q = Q (.bl (!eqD (.str s) (.str t))) M := propext ⟨fun h => h.2.2, fun h => ⟨h1, h2, h⟩⟩
theorem w_neBB : rNeD (.bl a) (.bl b) M Q = Q (.bl (!eqD (.bl a) (.bl b))) M := propext ⟨fun h => h.2.2, fun h => ⟨rfl, rfl, h⟩⟩
theorem w_eqBI : rEqD (.bl a) (.int i) M Q = Q (.bl (eqD (.bl a) (.int i))) M := propext ⟨fun h => h.2.2, fun h => ⟨rfl, rfl, h⟩⟩
theorem w_eqIN : rEqD (.int i) .non M Q = Q (.bl (eqD (.int i) .non)) M := propext ⟨fun h => h.2, fun h => ⟨rfl, h⟩⟩
theorem w_neIN : rNeD (.int i) .non M Q = Q (.bl (!eqD (.int i) .non)) M := propext ⟨fun h => h.2, fun h => ⟨rfl, h⟩⟩
theorem w_eqNI : rEqD .non (.int i) M Q = Q (.bl (eqD .non (.int i))) M := propext ⟨fun h => h.2.2, fun h => ⟨rfl, rfl, h⟩⟩
theorem w_neNI : rNeD .non (.int i) M Q = Q (.bl (!eqD .non (.int i))) M := propext ⟨fun h => h.2.2, fun h => ⟨rfl, rfl, h⟩⟩
theorem w_eqNN : rEqD .non .non M Q = Q (.bl (eqD .non .non)) M := propext ⟨fun h => h.2.2, fun h => ⟨rfl, rfl, h⟩⟩
theorem w_neNN : rNeD .non .non M Q = Q (.bl (!eqD .non .non)) M := propext ⟨fun h => h.2.2, fun h => ⟨rfl, rfl, h⟩⟩
theorem w_NN : eqD .non .non = true := rfl
theorem w_NI : eqD .non (.int i) = false := rfl
theorem w_IN : eqD (.int i) .non = false := rfl
theorem w_dgT {n : Nat} {t : TGsD} {R : EnvD → MH → Prop} : dgT n t (.tup xs) ρ M R = (xs.length = n ∧ t xs ρ M R) := rfl
theorem w_derL : deref M (.lst xs) = .lst xs := rfl
theorem w_derT : deref M (.tup xs) = .tup xs := rfl
theorem w_derB : deref M (.bl a) = .bl a := rfl
theorem w_derI : deref M (.int i) = .int i := rfl
theorem w_derN : deref M .non = .non := rfl
theorem w_derS : deref M (.str s) = .str s := rfl
theorem eqD_bl : eqD (.bl a) (.bl b) = decide (a = b) := by cases a <;> cases b <;> rfl
theorem eqD_int : eqD (.int i) (.int j) = decide (i = j) := by
  show (i == j) = _
  by_cases h : i = j <;> simp [h]
def eqDs (xs ys : List Dat) : Bool := PyData.eqvAll (toPys xs) (toPys ys)
theorem eqD_tup : eqD (.tup xs) (.tup ys) = eqDs xs ys := by
  unfold eqD eqDs
  simp only [toPy, PyData.eqv]
theorem eqD_lst : eqD (.lst xs) (.lst ys) = eqDs xs ys := by
  unfold eqD eqDs
  simp only [toPy, PyData.eqv]
theorem eqDs_nil : eqDs [] [] = true := rfl
theorem eqDs_nc : eqDs [] (y :: ys) = false := rfl
theorem eqDs_cn : eqDs (x :: xs) [] = false := rfl
theorem eqDs_cons : eqDs (x :: xs) (y :: ys) = (eqD x y && eqDs xs ys) := by
  unfold eqD eqDs
  simp only [toPys, PyData.eqvAll]
theorem eqDs_ints (ns ms : List Int) : eqDs (ns.map Dat.int) (ms.map Dat.int) = decide (ns = ms) := by
  induction ns generalizing ms with
  | nil => cases ms <;> simp [eqDs_nil, eqDs_nc]
  | cons n ns ih =>
    cases ms with
    | nil => simp [eqDs_cn]
    | cons m ms =>
      rw [List.map_cons, List.map_cons, eqDs_cons, eqD_int, ih]
      by_cases h : n = m <;> simp [h]
theorem eqD_str : eqD (.str s) (.str t) = decide (s = t) := by
  unfold eqD
  simp only [toPy, PyData.eqv]
  by_cases h : s = t <;> simp [h]
end
theorem ne_no {α : Type} [DecidableEq α] {a x : α} {A B : Prop} (h : a = x) (q : B) : (if (!decide (a = x)) = true then A else B) := by
  rw [decide_eq_true h]
  exact q
theorem eq_yes {α : Type} [DecidableEq α] {a x : α} {A B : Prop} (h : a = x) (q : A) : (if decide (a = x) = true then A else B) := by
  rw [decide_eq_true h]
  exact q
theorem if_yes {v : Bool} {A B : Prop} (h : v = true) (q : A) : (if v = true then A else B) := by
  rw [h]
  exact q
theorem if_no {v : Bool} {A B : Prop} (h : v = false) (q : B) : (if v = true then A else B) := by
  rw [h]
  exact q
theorem not_no {v : Bool} {A B : Prop} (h : v = true) (q : B) : (if (!v) = true then A else B) := by
  rw [h]
  exact q
theorem not_yes {v : Bool} {A B : Prop} (h : v = false) (q : A) : (if (!v) = true then A else B) := by
  rw [h]
  exact q
theorem strT {a : Str} : decide (a = a) = true := decide_eq_true rfl
theorem strF {a b : Str} (h : a ≠ b) : decide (a = b) = false := decide_eq_false h
theorem inDT {a : Dat} {ds : List Dat} (h : inD a ds = true) : inD a ds = true := h
theorem inDF {a : Dat} {ds : List Dat} (h : inD a ds = false) : inD a ds = false := h
theorem dec_self {i : Int} : decide (i = i) = true := decide_eq_true rfl
theorem or_self2 {Q : VKD} {M : MH} {b : Bool} {d : Dat} (h : b = false) (q : Q d M) : (if b = true then False else Q d M) := by
  rw [h]
  exact q
/-! ### items, slices -/
section
variable {xs : List Dat} {ns : List Int}
theorem atI_ex {α : Type} {xs : List α} {r : Int} (h0 : 0 ≤ r) (h1 : r < xs.length) : ∃ d, atI xs r = some d ∧ d ∈ xs := by
  obtain ⟨n, rfl⟩ := Int.eq_ofNat_of_zero_le h0
  have hn : n < xs.length := by omega
  exact ⟨xs[n], atI_nat (List.getElem?_eq_getElem hn), List.getElem_mem hn⟩
theorem cutD_sub {lo hi : Option Int} {d : Dat} (h : d ∈ cutD xs lo hi) : d ∈ xs := List.mem_of_mem_drop (List.mem_of_mem_take h)
theorem cutD_len {lo hi : Option Int} : (cutD xs lo hi).length ≤ xs.length := by
  unfold cutD
  rw [List.length_take, List.length_drop]
  omega
theorem cutD_take {n : Nat} : cutD xs none (some (n : Int)) = xs.take n := by
  unfold cutD
  rw [HT.sIx_nat, HT.sIx_none, List.drop_zero, Nat.sub_zero]
  rw [Nat.min_def]
  split
  · rfl
  · rw [List.take_of_length_le (Nat.le_refl _), List.take_of_length_le (by omega)]
theorem cutD_drop {n : Nat} : cutD xs (some (n : Int)) none = xs.drop n := by
  unfold cutD
  rw [HT.sIx_nat, HT.sIx_none]
  rw [List.take_of_length_le (by rw [List.length_drop]; exact Nat.le_refl _), Nat.min_def]
  split
  · rfl
  · rw [List.drop_eq_nil_of_le (Nat.le_refl _), List.drop_eq_nil_of_le (by omega)]
theorem cutD_ints (lo hi : Option Int) : ∃ ms : List Int, cutD (ns.map Dat.int) lo hi = ms.map Dat.int ∧ ms.length ≤ ns.length := by
  refine ⟨(ns.drop (HT.sIx ns.length 0 lo)).take (HT.sIx ns.length ns.length hi - HT.sIx ns.length 0 lo), ?_, ?_⟩
  · unfold cutD
    rw [List.length_map, List.map_take, List.map_drop]
  · rw [List.length_take, List.length_drop]
    omega
theorem rngD_len {lo : Int} {n : Nat} : (rngD lo n).length = n := by
  unfold rngD
  rw [List.length_map, List.length_range]
theorem lit_len {n : Nat} (h : n ≤ 1000) : n ≤ sizeLine := by
  rw [sizeLine_eq]
  omega
end
end DL
namespace DL
open PySem PySem.Spec PyProof.Rows L2
/-! ### dicts with keys ints and texts -/
def valD (kvs : List (Key × Dat)) (k : Key) : Option Dat := (kvs.find? fun kv => decide (kv.1 = k)).map (·.2)
def putKD (kvs : List (Key × Dat)) (k : Key) (v : Dat) : List (Key × Dat) :=
  if (kvs.any fun kv => decide (kv.1 = k)) = true then kvs.map (fun kv => if kv.1 = k then (kv.1, v) else kv) else kvs ++ [(k, v)]
def mergeD (kvs more : List (Key × Dat)) : List (Key × Dat) := more.foldl (fun acc kv => putKD acc kv.1 kv.2) kvs
def keyD : Dat → Option Key
  | .int i => some (.inl i)
  | .str s => some (.inr s)
  | _ => none
def kD : Key → Dat
  | .inl i => .int i
  | .inr s => .str s
theorem keyD_rep {K : PySem.W.Frag} {F : Hp} {y : V} {d : Dat} {k : Key} (r : Rep K F y d) (h : keyD d = some k) : y = kV k := by
  cases d <;> first | (cases h; done) | skip
  · cases h
    exact r.toInt
  · cases h
    exact r.toStr
theorem kD_rep {K : PySem.W.Frag} {F : Hp} {y : V} {k : Key} (r : Rep K F y (kD k)) : y = kV k := by
  cases k with
  | inl i => exact r.toInt
  | inr s => exact r.toStr
section
variable {K : PySem.W.Frag} {F : Hp}
theorem RepK.len {vs : List (Key × V)} {ds : List (Key × Dat)} (r : RepK K F vs ds) : vs.length = ds.length := by
  induction ds generalizing vs with
  | nil => cases r; rfl
  | cons d ds ih =>
    cases r with
    | cons r1 r2 => rw [List.length_cons, List.length_cons, ih r2]
theorem RepK.val {vs : List (Key × V)} {ds : List (Key × Dat)} (r : RepK K F vs ds) (k : Key) : match valD ds k with
    | some d => ∃ v, valV vs k = some v ∧ Rep K F v d
    | none => valV vs k = none := by
  induction ds generalizing vs with
  | nil =>
    cases r
    exact valV_nil
  | cons d ds ih =>
    cases r with
    | @cons k2 v vs d ds r1 r2 =>
      by_cases h : k2 = k
      · have e : valD ((k2, d) :: ds) k = some d := by simp [valD, List.find?_cons, h]
        rw [e]
        exact ⟨v, valV_pos h, r1⟩
      · have e : valD ((k2, d) :: ds) k = valD ds k := by simp [valD, List.find?_cons, h]
        rw [e, valV_neg h]
        exact ih r2
theorem RepK.any {vs : List (Key × V)} {ds : List (Key × Dat)} (r : RepK K F vs ds) (k : Key) : (vs.any fun kv => decide (kv.1 = k)) = (ds.any fun kv => decide (kv.1 = k)) := by
  induction ds generalizing vs with
  | nil => cases r; rfl
  | cons d ds ih =>
    cases r with
    | cons r1 r2 => rw [List.any_cons, List.any_cons, ih r2]
theorem RepK.app {vs ws : List (Key × V)} {ds es : List (Key × Dat)} (r : RepK K F vs ds) (q : RepK K F ws es) : RepK K F (vs ++ ws) (ds ++ es) := by
  induction ds generalizing vs with
  | nil => cases r; exact q
  | cons d ds ih =>
    cases r with
    | cons r1 r2 => exact .cons r1 (ih r2)
theorem RepK.over {v : V} {d : Dat} (h : Rep K F v d) (k : Key) : ∀ {vs : List (Key × V)} {ds : List (Key × Dat)}, RepK K F vs ds → RepK K F (vs.map fun kv => if kv.1 = k then (kv.1, v) else kv) (ds.map fun kv => if kv.1 = k then (kv.1, d) else kv) := by
  intro vs ds r
  induction ds generalizing vs with
  | nil => cases r; exact .nil
  | cons e ds ih =>
    cases r with
    | @cons k2 u vs e ds r1 r2 =>
      rw [List.map_cons, List.map_cons]
      by_cases q : k2 = k
      · simp only [q, if_true]
        exact .cons h (ih r2)
      · simp only [q, if_false]
        exact .cons r1 (ih r2)
theorem RepK.put {v : V} {d : Dat} (h : Rep K F v d) {vs : List (Key × V)} {ds : List (Key × Dat)} (r : RepK K F vs ds) (k : Key) : RepK K F (putK vs k v) (putKD ds k d) := by
  unfold putK putKD
  rw [r.any k]
  split
  · exact r.over h k
  · exact r.app (.cons h .nil)
theorem RepK.merge {more : List (Key × V)} {dm : List (Key × Dat)} (q : RepK K F more dm) {vs : List (Key × V)} {ds : List (Key × Dat)} (r : RepK K F vs ds) : RepK K F (mergeK vs more) (mergeD ds dm) := by
  induction dm generalizing more vs ds with
  | nil => cases q; exact r
  | cons e dm ih =>
    cases q with
    | cons r1 r2 => exact ih r2 (r.put r1 _)
end
def dicR (M : MH) : Dat → Option (List (Key × Dat))
  | .dic kvs => some kvs
  | .ref a => match M a with
    | some (.dic kvs) => some kvs
    | _ => none
  | _ => none
theorem dicR_rep {K : PySem.W.Frag} {Z F H : Hp} {M : MH} {x : V} {d : Dat} {kvs : List (Key × Dat)} (R : RelM K Z F H M) (r : Rep K F x d) (h : dicR M d = some kvs) : ∃ p vs, x = .ref p ∧ H p = some (.dK vs) ∧ RepK K F vs kvs := by
  unfold dicR at h
  split at h
  · cases h
    cases r with
    | dic q r => exact ⟨_, _, rfl, R.sub _ _ q, r⟩
  · rename_i a
    split at h
    · rename_i ks e
      cases h
      cases r
      obtain ⟨_, vs, q1, q2⟩ := R.chg _ _ e
      exact ⟨_, _, rfl, q1, q2⟩
    · cases h
  · cases h
section
variable {X : Cx} {o i e f value : Expr} {pos pos' apos cpos : Pos} {dd dy dv dx : TED}
/-- d[y] -/
def dDGet (dd dy : TED) : TED := fun ρ M Q => dd ρ M fun x M1 => dy ρ M1 fun y M2 => ∃ kvs k d, dicR M2 x = some kvs ∧ keyD y = some k ∧ valD kvs k = some d ∧ Q d M2
theorem de_dget (hu : X.A.units + 64 < cLine) (ho : DE X o dd) (hi : DE X i dy) (hs : NoSl i := by exact fun _ _ => rfl) : DE X (.Subscript o i pos) (dDGet dd dy) := pe_w (pe_dget (by omega) ho hi hs) fun σ H Q ⟨Z, F, M, ρ, QD, R, h, o⟩ => by
  refine ⟨Z, F, M, ρ, _, R, h, fun x a F1 H1 M1 e1 R1 r1 h1 => ?_⟩
  refine ⟨Z, F1, M1, ρ, _, R.ext e1 R1, h1, fun y b F2 H2 M2 e2 R2 r2 h2 => ?_⟩
  obtain ⟨kvs, k, d, q1, q2, q3, q4⟩ := h2
  obtain ⟨p, vs, rfl, q5, q6⟩ := dicR_rep R2 (r1.mono e2) q1
  have := q6.val k
  rw [q3] at this
  obtain ⟨v, q7, q8⟩ := this
  refine ⟨p, v, rfl, ?_, o v d F2 H2 M2 (e1.trans e2) R2 q8 q4⟩
  rw [keyD_rep r2 q2, ← q7]
  exact .k q5
/-- d.get(y), d.get(y, x) -/
def dDGet1 (dd dy : TED) : TED := fun ρ M Q => dd ρ M fun x M1 => (∃ kvs, dicR M1 x = some kvs) ∧ dy ρ M1 fun y M2 => ∃ kvs k, dicR M2 x = some kvs ∧ keyD y = some k ∧ Q ((valD kvs k).getD .non) M2
def dDGet2 (dd dy dx : TED) : TED := fun ρ M Q => dd ρ M fun x M1 => (∃ kvs, dicR M1 x = some kvs) ∧ dy ρ M1 fun y M2 => dx ρ M2 fun z M3 => ∃ kvs k, dicR M3 x = some kvs ∧ keyD y = some k ∧ Q ((valD kvs k).getD z) M3
theorem de_dget1 (hu : X.A.units + 64 < cLine) (ho : DE X o dd) (he : DE X e dy) (m : M1 X o "get" apos e cpos := by exact ⟨rfl, rfl, rfl, rfl⟩) : DE X (.Call (.Attribute o "get" apos) [e] [] cpos) (dDGet1 dd dy) := pe_w (pe_dget1 (by omega) ho he m) fun σ H Q ⟨Z, F, M, ρ, QD, R, h, o⟩ => by
  refine ⟨Z, F, M, ρ, _, R, h, fun x a F1 H1 M1 e1 R1 r1 h1 => ?_⟩
  obtain ⟨⟨ks, q0⟩, h1⟩ := h1
  obtain ⟨p, vs, rfl, q5, q6⟩ := dicR_rep R1 r1 q0
  refine ⟨p, rfl, .inl ⟨vs, .inl q5⟩, Z, F1, M1, ρ, _, R.ext e1 R1, h1, fun y b F2 H2 M2 e2 R2 r2 h2 => ?_⟩
  obtain ⟨kvs, k, q1, q2, q4⟩ := h2
  obtain ⟨p, vs, e, q5, q6⟩ := dicR_rep R2 (r1.mono e2) q1
  cases e
  have := q6.val k
  refine ⟨valV vs k, ?_, ?_⟩
  · rw [keyD_rep r2 q2]
    exact .k q5
  · cases q : valD kvs k with
    | none =>
      rw [q] at this q4
      rw [this]
      exact o _ _ F2 H2 M2 (e1.trans e2) R2 .non q4
    | some d =>
      rw [q] at this q4
      obtain ⟨v, q7, q8⟩ := this
      rw [q7]
      exact o v d F2 H2 M2 (e1.trans e2) R2 q8 q4
theorem de_dget2 (hu : X.A.units + 64 < cLine) (ho : DE X o dd) (he : DE X e dy) (hf : DE X f dx) (m : M2 X o "get" apos e f cpos := by exact ⟨rfl, rfl, rfl, rfl⟩) : DE X (.Call (.Attribute o "get" apos) [e, f] [] cpos) (dDGet2 dd dy dx) := pe_w (pe_dget2 (by omega) ho he hf m) fun σ H Q ⟨Z, F, M, ρ, QD, R, h, o⟩ => by
  refine ⟨Z, F, M, ρ, _, R, h, fun x a F1 H1 M1 e1 R1 r1 h1 => ?_⟩
  obtain ⟨⟨ks, q0⟩, h1⟩ := h1
  obtain ⟨p, vs, rfl, q5, q6⟩ := dicR_rep R1 r1 q0
  refine ⟨p, rfl, .inl ⟨vs, .inl q5⟩, Z, F1, M1, ρ, _, R.ext e1 R1, h1, fun y b F2 H2 M2 e2 R2 r2 h2 => ?_⟩
  refine ⟨Z, F2, M2, ρ, _, R.ext (e1.trans e2) R2, h2, fun z c F3 H3 M3 e3 R3 r3 h3 => ?_⟩
  obtain ⟨kvs, k, q1, q2, q4⟩ := h3
  obtain ⟨p, vs, e, q5, q6⟩ := dicR_rep R3 (r1.mono (e2.trans e3)) q1
  cases e
  have := q6.val k
  refine ⟨valV vs k, ?_, ?_⟩
  · rw [keyD_rep r2 q2]
    exact .k q5
  · cases q : valD kvs k with
    | none =>
      rw [q] at this q4
      rw [this]
      exact o _ _ F3 H3 M3 ((e1.trans e2).trans e3) R3 r3 q4
    | some d =>
      rw [q] at this q4
      obtain ⟨v, q7, q8⟩ := this
      rw [q7]
      exact o v d F3 H3 M3 ((e1.trans e2).trans e3) R3 q8 q4
/-- d[y] = v -/
def dDPut (dd dy dv : TED) : TSD := fun D ρ M => dv ρ M fun v M1 => dd ρ M1 fun x M2 => dy ρ M2 fun y M3 => ∃ a kvs k, x = .ref a ∧ M3 a = some (.dic kvs) ∧ keyD y = some k ∧ kvs.length < sizeLine ∧ D.nx ρ (updM M3 a (.dic (putKD kvs k v)))
theorem ds_dput (hu : X.A.units + 64 < cLine) (ho : DE X o dd) (hi : DE X i dy) (hv : DE X value dv) (hs : swapsWith value (some (.Subscript o i pos')) pos.line X.env = pure false := by rfl) : DS X (.Assign [.Subscript o i pos'] value pos) (dDPut dd dy dv) := ps_w (ps_dput (by omega) ho hi hv hs) fun D σ H ⟨Z, F, M, ρ, DD, R, h, o⟩ => by
  refine ⟨Z, F, M, ρ, _, R, h, fun v d F1 H1 M1 e1 R1 r1 h1 => ?_⟩
  refine ⟨Z, F1, M1, ρ, _, R.ext e1 R1, h1, fun x a F2 H2 M2 e2 R2 r2 h2 => ?_⟩
  refine ⟨Z, F2, M2, ρ, _, R.ext (e1.trans e2) R2, h2, fun y b F3 H3 M3 e3 R3 r3 h3 => ?_⟩
  obtain ⟨a, kvs, k, rfl, q1, q2, q3, q4⟩ := h3
  cases r2
  obtain ⟨q5, vs, q6, q7⟩ := R3.chg _ _ q1
  refine ⟨a, upd H3 a (.dK (putK vs k v)), rfl, ?_, ?_⟩
  · rw [keyD_rep r3 q2]
    exact .k (v := v) q6 (by rw [q7.len]; exact q3)
  · refine o.nx _ _ _ _ _ ((e1.trans e2).trans e3) ⟨R3.write (m := .dic (putKD kvs k d)) q1 ⟨_, upd_same, q7.put (r1.mono (e2.trans e3)) k⟩, (R.e.mono ((e1.trans e2).trans e3))⟩ q4
/-! ### displays -/
def dPairs : List (TED × TED) → EnvD → MH → (List (Dat × Dat) → MH → Prop) → Prop
  | [], _, M, Q => Q [] M
  | (dk, dv) :: r, ρ, M, Q => dk ρ M fun x M1 => dv ρ M1 fun y M2 => dPairs r ρ M2 fun ps M3 => Q ((x, y) :: ps) M3
def newD (mk : Bool) (kvs : List (Key × Dat)) (M : MH) (Q : VKD) : Prop := match mk with
  | false => Q (.dic kvs) M
  | true => ∀ a, M a = none → Q (.ref a) (updM M a (.dic kvs))
def dDisp (mk : Bool) (trs : List (TED × TED)) : TED := fun ρ M Q => dPairs trs ρ M fun ps M1 => ∃ kvs : List (Key × Dat), ps = kvs.map (fun kv => (kD kv.1, kv.2)) ∧ kvs.length ≤ 15 ∧ newD mk (mergeD [] kvs) M1 Q
def upP (K : PySem.W.Frag) (trs : List (TED × TED)) : List (TE × TE) := trs.map fun q => (up K q.1, up K q.2)
abbrev DPs (X : Cx) (pos : Pos) (keys : List (Option Expr)) (values : List Expr) (trs : List (TED × TED)) : Prop := PPs X pos keys values (upP X.K trs)
theorem dps_nil : DPs X pos [] [] [] := pps_nil
theorem dps_cons {k v : Expr} {ks : List (Option Expr)} {vs : List Expr} {dk dv : TED} {trs : List (TED × TED)} (hk : DE X k dk) (hv : DE X v dv) (hr : DPs X pos ks vs trs) : DPs X pos (some k :: ks) (v :: vs) ((dk, dv) :: trs) := pps_cons hk hv hr
theorem up_pairs {K : PySem.W.Frag} {Z : Hp} {σ : L2.St} : ∀ {trs : List (TED × TED)} {F H : Hp} {M : MH} {ρ : EnvD} {Q : List (V × V) → Hp → Prop} {QD : List (Dat × Dat) → MH → Prop}, Rel K Z F H M σ ρ → dPairs trs ρ M QD →
    (∀ ps ds F' H' M', Ext F F' → RelM K Z F' H' M' → Reps K F' (ps.map (·.1)) (ds.map (·.1)) → Reps K F' (ps.map (·.2)) (ds.map (·.2)) → QD ds M' → Q ps H') → tPairs (upP K trs) σ H Q
  | [], F, H, M, ρ, Q, QD, R, h, o => o [] [] F H M (Ext.refl F) R.m .nil .nil h
  | (dk, dv) :: r, F, H, M, ρ, Q, QD, R, h, o => by
    refine ⟨Z, F, M, ρ, _, R, h, fun x a F1 H1 M1 e1 R1 r1 h1 => ?_⟩
    refine ⟨Z, F1, M1, ρ, _, R.ext e1 R1, h1, fun y b F2 H2 M2 e2 R2 r2 h2 => ?_⟩
    refine up_pairs (R.ext (e1.trans e2) R2) h2 fun ps ds F3 H3 M3 e3 R3 p1 p2 h3 => ?_
    exact o ((x, y) :: ps) ((a, b) :: ds) F3 H3 M3 ((e1.trans e2).trans e3) R3 (.cons (r1.mono (e2.trans e3)) p1) (.cons (r2.mono e3) p2) h3
theorem keyed {K : PySem.W.Frag} {F : Hp} : ∀ {kvs : List (Key × Dat)} {ps : List (V × V)}, Reps K F (ps.map (·.1)) (kvs.map fun kv => kD kv.1) → Reps K F (ps.map (·.2)) (kvs.map (·.2)) → ∃ vs, ps = vs.map (fun kv => (kV kv.1, kv.2)) ∧ RepK K F vs kvs
  | [], [], _, _ => ⟨[], rfl, .nil⟩
  | [], p :: ps, r, _ => by cases r
  | kv :: kvs, [], r, _ => by cases r
  | kv :: kvs, p :: ps, r, q => by
    obtain ⟨v, ws, e1, r1, r2⟩ := r.uncons
    obtain ⟨u, us, e2, q1, q2⟩ := q.uncons
    injection e1 with e3 e4
    injection e2 with e5 e6
    subst e3 e4 e5 e6
    obtain ⟨vs, rfl, g⟩ := keyed r2 q2
    refine ⟨(kv.1, p.2) :: vs, ?_, .cons q1 g⟩
    have := kD_rep r1
    rw [List.map_cons, ← this]
theorem de_disp (mk : Bool) {keys : List (Option Expr)} {values : List Expr} {trs : List (TED × TED)} (h : DPs X pos keys values trs) (hall : keys.all (·.isSome) = true := by rfl) (hl : keys.length = values.length := by rfl) (h0 : keys ≠ [] := by exact List.cons_ne_nil _ _)
    (h15 : keys.length ≤ 15 := by exact Nat.le_of_ble_eq_true rfl) : DE X (.Dict keys values pos) (dDisp mk trs) := pe_w (pe_disp h hall hl h0 h15) fun σ H Q ⟨Z, F, M, ρ, QD, R, h, o⟩ => by
  intro p hp
  have hZ : Z p = none := by
    cases q : Z p with
    | none => rfl
    | some u =>
      have := (R.m.hid p u q).1
      rw [hp] at this
      cases this
  obtain ⟨hF, hM⟩ := R.m.fresh hp
  have R0 : Rel X.K (upd Z p (.dK [])) F (upd H p (.dK [])) M σ ρ := ⟨⟨fun b u q => by
      rw [upd_ne (ne_of_none (R.m.sub b u q) hp)]
      exact R.m.sub b u q, fun b u q => by
      by_cases hb : b = p
      · subst hb
        rw [upd_same] at q
        cases q
        exact ⟨upd_same, hF, hM⟩
      · rw [upd_ne hb] at q ⊢
        exact R.m.hid b u q, fun b m q => by
      obtain ⟨q1, q2⟩ := R.m.chg b m q
      exact ⟨q1, q2.mono (Ext.refl _) (upd_ne (R.m.ne hp q))⟩⟩, R.e⟩
  refine up_pairs R0 h fun ps ds F2 H2 M2 e2 R2 p1 p2 h2 => ?_
  obtain ⟨kvs, rfl, hk, h2⟩ := h2
  obtain ⟨b1, b2, b3⟩ := R2.hid p _ upd_same
  rw [List.map_map] at p1 p2
  obtain ⟨vs, rfl, rk⟩ := keyed p1 p2
  refine ⟨b1, vs, rfl, by rw [rk.len]; exact hk, ?_⟩
  have rm := rk.merge (.nil : RepK X.K F2 [] [])
  cases mk with
  | false =>
    have h2' : QD (.dic (mergeD [] kvs)) M2 := h2
    have ee := Ext.new (o := .dK (mergeK [] vs)) b2
    refine o _ _ (upd F2 p (.dK (mergeK [] vs))) (upd H2 p (.dK (mergeK [] vs))) M2 (e2.trans ee) ⟨fun b u q => ?_, fun b u q => ?_, fun b m q => ?_⟩ (.dic upd_same (rm.mono ee)) h2'
    · by_cases hb : b = p
      · subst hb
        rw [upd_same] at q ⊢
        exact q
      · rw [upd_ne hb] at q ⊢
        exact R2.sub b u q
    · have hb := ne_of_none q hZ
      obtain ⟨q1, q2, q3⟩ := R2.hid b u (by rw [upd_ne hb]; exact q)
      exact ⟨by rw [upd_ne hb]; exact q1, by rw [upd_ne hb]; exact q2, q3⟩
    · have hb := ne_dom q b3
      obtain ⟨q1, q2⟩ := R2.chg b m q
      exact ⟨by rw [upd_ne hb]; exact q1, q2.mono ee (upd_ne hb)⟩
  | true =>
    have h2' := (show ∀ a, M2 a = none → QD (.ref a) (updM M2 a (.dic (mergeD [] kvs))) from h2) p b3
    refine o _ _ F2 (upd H2 p (.dK (mergeK [] vs))) (updM M2 p (.dic (mergeD [] kvs))) e2 ⟨fun b u q => ?_, fun b u q => ?_, fun b m q => ?_⟩ (.ref p) h2'
    · rw [upd_ne (ne_of_none q b2)]
      exact R2.sub b u q
    · have hb := ne_of_none q hZ
      obtain ⟨q1, q2, q3⟩ := R2.hid b u (by rw [upd_ne hb]; exact q)
      exact ⟨by rw [upd_ne hb]; exact q1, q2, by rw [updM_ne hb]; exact q3⟩
    · by_cases hb : b = p
      · subst hb
        rw [updM_same] at q
        cases q
        exact ⟨b2, _, upd_same, rm⟩
      · rw [updM_ne hb] at q
        obtain ⟨q1, q2⟩ := R2.chg b m q
        exact ⟨q1, q2.mono (Ext.refl _) (upd_ne hb)⟩
end
section
variable {M : MH} {Q : VKD} {kvs : List (Key × Dat)}
def toKvs : List (Dat × Dat) → Option (List (Key × Dat))
  | [] => some []
  | (k, v) :: r => match keyD k, toKvs r with
    | some k, some r => some ((k, v) :: r)
    | _, _ => none
theorem kD_of {d : Dat} {k : Key} (h : keyD d = some k) : d = kD k := by
  cases d <;> first | (cases h; done) | skip
  · cases h; rfl
  · cases h; rfl
theorem keyD_kD (k : Key) : keyD (kD k) = some k := by cases k <;> rfl
theorem toKvs_iff : ∀ {ps : List (Dat × Dat)} {kvs : List (Key × Dat)}, (ps = kvs.map fun kv => (kD kv.1, kv.2)) = (toKvs ps = some kvs)
  | [], [] => by simp [toKvs]
  | [], kv :: kvs => by simp [toKvs]
  | p :: ps, [] => by
    obtain ⟨k, v⟩ := p
    refine propext ⟨fun h => (by cases h), fun h => ?_⟩
    unfold toKvs at h
    split at h <;> cases h
  | p :: ps, kv :: kvs => by
    obtain ⟨k, v⟩ := p
    refine propext ⟨fun h => ?_, fun h => ?_⟩
    · injection h with h1 h2
      injection h1 with h3 h4
      subst h3 h4
      unfold toKvs
      rw [toKvs_iff] at h2
      rw [keyD_kD, h2]
    · unfold toKvs at h
      split at h
      · rename_i k2 r e1 e2
        cases h
        have e3 := (toKvs_iff (ps := ps) (kvs := kvs)).mpr e2
        rw [List.map_cons, ← kD_of e1, ← e3]
      · cases h
theorem w_disp {mk : Bool} {trs : List (TED × TED)} {ρ : EnvD} : dDisp mk trs ρ M Q = dPairs trs ρ M fun ps M1 => ∃ kvs : List (Key × Dat), toKvs ps = some kvs ∧ kvs.length ≤ 15 ∧ newD mk (mergeD [] kvs) M1 Q := by
  unfold dDisp
  simp only [toKvs_iff]
theorem w_newDF : newD false kvs M Q = Q (.dic kvs) M := rfl
theorem w_newDT : newD true kvs M Q = ∀ a, M a = none → Q (.ref a) (updM M a (.dic kvs)) := rfl
end
end DL
namespace DL
open PySem PySem.Spec PyProof.Rows L2
section
variable {X : Cx} {es : List Expr} {pos : Pos}
/-- a, b, .. = a list -/
def dgU (n : Nat) (t : TGsD) : TGD := fun x ρ M Q => ∃ ds, lsR M x = some ds ∧ ds.length = n ∧ t ds ρ M Q
theorem dgo_unl {k n : Nat} {vs : List Nat} {t : TGsD} (h : DGs X es vs t) (hc : X.calm = true := by rfl)
    (hn : (assignEach es X.env).length = n := by rfl) (hst : (assignEach es X.env).findIdx? (·.1) = none := by rfl) : DGo X (.Tuple es k pos) vs (dgU n t) :=
  pg_w (pg_unl hc h hn hst) fun v σ H Q ⟨Z, F, M, ρ, x, QD, R, r, h, o⟩ => by
    obtain ⟨ds, h1, h2, h3⟩ := h
    obtain ⟨p, xs, rfl, q, r2⟩ := lsR_rep R.m r h1
    exact ⟨p, xs, rfl, q, by rw [r2.length]; exact h2, Z, F, M, ρ, _, QD, R, r2, h3, o⟩
end
end DL
namespace DL
open PySem PySem.Spec PyProof.Rows L2
section
variable {X : Cx} {a : Expr} {da : TED} {p q pos ps : Pos}
theorem reps_rg {K : PySem.W.Frag} {F : Hp} (f : Nat → Int) : ∀ l : List Nat, Reps K F (l.map fun i => V.int (f i)) (l.map fun i => Dat.int (f i))
  | [] => .nil
  | i :: l => .cons (.int (f i)) (reps_rg f l)
/-- list(range(n)) -/
def rLRg (mk : Bool) : Dat → MH → VKD → Prop := fun x M Q => match x with
  | .int n => RgOk 0 n ∧ newL mk (rngD 0 n.toNat) M Q
  | _ => False
theorem w_lrg {mk : Bool} {i : Int} {M : MH} {Q : VKD} : rLRg mk (.int i) M Q = (RgOk 0 i ∧ newL mk (rngD 0 i.toNat) M Q) := rfl
theorem de_lrg1 (mk : Bool) (hl : X.mg "list" = none) (hm : X.mg "range" = none) (ha : DE X a da) (gl : Gl X "list" := by rfl) (gr : Gl X "range" := by rfl) (hc : X.calm = true := by rfl)
    (na : starEach [a] X.env = (false, eval a X.env) :: starEach [] X.env := by rfl) (ne : starEach [.Call (.Name "range" p) [a] [] pos] X.env = (false, eval (.Call (.Name "range" p) [a] [] pos) X.env) :: starEach [] X.env := by rfl) :
    DE X (.Call (.Name "list" q) [.Call (.Name "range" p) [a] [] pos] [] ps) (dUn (rLRg mk) da) :=
  pe_w (pe_listRg hc gl hl (prg_1 gr hm ha na) ne) fun σ H Q ⟨Z, F, M, ρ, QD, R, h, o⟩ => by
    refine ⟨Z, F, M, ρ, _, R, h, fun x d F1 H1 M1 e1 R1 r1 h1 => ?_⟩
    unfold rLRg at h1
    split at h1
    · rename_i n
      refine ⟨n, r1.toInt, h1.1, fun q hq => ?_⟩
      refine sim_new R1 ?_ h1.2 (o.mono e1) hq
      unfold rgV rngD
      rw [Int.sub_zero]
      exact reps_rg _ _
    · exact h1.elim
end
end DL
namespace DL
open PySem PySem.Spec PyProof.Rows L2
section
/-- two readings, held where rewriting does not go -/
class Held where
  a : TSD
  b : TSD
variable {X : Cx} {st : Stmt} {rest : List Stmt} {t u : TSD} {D : EndsD} {ρ : EnvD} {M : MH}
/-- a cut that the rows do not open: the rest waits -/
def dStop [h : Held] : TSD := dCut h.a h.b
theorem dss_stop (h1 : DS X st t) (h2 : DSs X rest u) : DSs X (st :: rest) (@dStop ⟨t, u⟩) := dss_cut h1 h2
theorem stop_by (R : EnvD → MH → Prop) (h1 : t { D with nx := R } ρ M) (h2 : ∀ ρ' M', R ρ' M' → u D ρ' M') : @dStop ⟨t, u⟩ D ρ M := ⟨R, h1, h2⟩
/-- .. where the state behind is one -/
theorem stop_is (ρ1 : EnvD) (M1 : MH) (h1 : t { D with nx := fun ρ' M' => ρ' = ρ1 ∧ M' = M1 } ρ M) (h2 : u D ρ1 M1) : @dStop ⟨t, u⟩ D ρ M := ⟨_, h1, by
  rintro _ _ ⟨rfl, rfl⟩
  exact h2⟩
/-- .. where what stands behind goes on at once -/
theorem stop_to (h1 : t { D with nx := u D } ρ M) : @dStop ⟨t, u⟩ D ρ M := ⟨_, h1, fun _ _ h => h⟩
end
end DL
namespace DL
open PySem PySem.Spec PyProof.Rows L2
section
variable {X : Cx}
/-- xs.index(i), a list of ints -/
def rIndexD : Dat → List Dat → MH → VKD → Prop := fun x as M Q => match as with
  | [.int i] => ∃ (ns : List Int) (j : Nat), lsR M x = some (ns.map Dat.int) ∧ ns[j]? = some i ∧ (∀ m, m < j → ns[m]? ≠ some i) ∧ Q (.int (j : Nat)) M
  | _ => False
theorem md_index : MtD X "list.index" rIndexD := ⟨_, mt_index, fun Z F H M x xs a as Q QD R ra rs hd o => by
  unfold rIndexD at hd
  split at hd
  · rename_i i
    obtain ⟨ns, j, q1, q2, q3, q4⟩ := hd
    obtain ⟨v, ws, rfl, r1, rs⟩ := rs.uncons
    cases rs.unnil
    cases r1.toInt
    obtain ⟨p, ys, rfl, q, rr⟩ := lsR_rep R ra q1
    have e := rr.ints
    subst e
    refine ⟨p, _, _, j, .int i, rfl, rfl, q, rfl, ?_, ?_, ?_, ?_, ?_⟩
    · simp [List.all_map, flatV]
    · rw [List.getElem?_map, q2]
      rfl
    · simp [eqV]
    · intro m z' hm hz
      rw [List.getElem?_map] at hz
      cases hn : ns[m]? with
      | none =>
        rw [hn] at hz
        cases hz
      | some k =>
        rw [hn] at hz
        cases hz
        have : k ≠ i := fun h => q3 m hm (by rw [hn, h])
        simpa [eqV] using this
    · exact o _ _ F H M (Ext.refl F) R (.int _) q4
  · exact hd.elim⟩
theorem w_index {x : Dat} {i : Int} {M : MH} {Q : VKD} : rIndexD x [.int i] M Q = ∃ (ns : List Int) (j : Nat), lsR M x = some (ns.map Dat.int) ∧ ns[j]? = some i ∧ (∀ m, m < j → ns[m]? ≠ some i) ∧ Q (.int (j : Nat)) M := rfl
end
end DL
namespace DL
open PySem PySem.Spec PyProof.Rows L2
/-! ### sorted(a list of pairs of ints) -/
/-- at x stands the pair q -/
def PairAt (K : PySem.W.Frag) (H : Hp) (x : V) (q : Int × Int) : Prop := ∃ t : Addr, x = V.ref t ∧ SqT K H t [V.int q.1, V.int q.2]
abbrev lexLe (p q : Int × Int) : Prop := p.1 < q.1 ∨ (p.1 = q.1 ∧ p.2 ≤ q.2)
def rSortQ (K : PySem.W.Frag) : List V → Hp → VK → Prop := fun vs H Q => ∃ (b : Addr) (zs : List V), vs = [V.ref b] ∧ SqL K H b zs ∧ (∀ z ∈ zs, ∃ q, PairAt K H z q) ∧
  ∀ (ws : List V) (g : V → Int × Int) (c : Addr), (∀ z q, PairAt K H z q → g z = q) → ws.Perm zs → (ws.map g).Pairwise lexLe → H c = none → Q (V.ref c) (upd H c (HO.lst ws))
section
variable {X : Cx}
open Classical in
theorem cr_sortQ : CallR X (.builtin "sorted") (rSortQ X.K) := by
  intro pins s σ H vs us Q I rel hyp
  obtain ⟨b, zs, hvs, hb, hall, hq⟩ := hyp
  subst hvs
  obtain ⟨its, hits, hlist, hsize⟩ := I.list hb
  obtain ⟨u0, hu0, hrel⟩ := vals1 rel
  subst hu0
  have hu1 : u0 = Value.ref b := hrel
  subst hu1
  have one : ∀ z q q', PairAt X.K H z q → PairAt X.K H z q' → q = q' := by
    intro z q q' ⟨t, e, h1⟩ ⟨t', e', h2⟩
    rw [e] at e'
    cases e'
    have := I.tuple_inj h1 h2
    injection this with i1 i2
    injection i2 with i3
    injection i1 with i4
    injection i3 with i5
    exact Prod.ext i4 i5
  let g : V → Int × Int := fun z => if h : ∃ q, PairAt X.K H z q then h.choose else (0, 0)
  have hg : ∀ z q, PairAt X.K H z q → g z = q := by
    intro z q h
    have hex : ∃ q, PairAt X.K H z q := ⟨q, h⟩
    show (if h : ∃ q, PairAt X.K H z q then h.choose else (0, 0)) = q
    rw [dif_pos hex]
    exact one z _ _ hex.choose_spec h
  have hrefs := refs_back hits (fun z hz => by
    obtain ⟨q, t, e, _⟩ := hall z hz
    exact ⟨t, e⟩)
  refine SrtO.sorted_pairsO (k := fun v => g (backV v)) hlist.isList ?_ ?_ ?_
  · rw [← hits.length]
    exact hsize
  · intro v hv
    obtain ⟨t, rfl⟩ := hrefs.2 v hv
    have hin : V.ref t ∈ zs := by
      rw [hrefs.1]
      exact List.mem_map.mpr ⟨Value.ref t, hv, rfl⟩
    obtain ⟨q, hpq⟩ := hall _ hin
    have hgq : g (backV (Value.ref t)) = q := hg _ _ hpq
    obtain ⟨t', e, hsq⟩ := hpq
    cases e
    obtain ⟨its2, hv2, ⟨o, ho1, ho2, n, ho3⟩, _⟩ := I.tuple hsq
    obtain ⟨x1, x2, e2, r1, r2⟩ := vals2 hv2
    obtain ⟨k1, rfl⟩ := r1
    obtain ⟨k2, rfl⟩ := r2
    subst e2
    rw [hgq]
    exact ⟨t, o, k1, k2, n, rfl, ho1, ho2, ho3⟩
  · intro h' d out hsorted hstable hkeep hd hnew
    have hperm : out.Perm its := hstable.perm
    have hout : ∀ v ∈ out, ∃ a, v = Value.ref a := fun v hv => hrefs.2 v (hperm.mem_iff.mp hv)
    obtain ⟨n, hn⟩ := hnew
    have hp2 : (out.map backV).Perm zs := by
      rw [hrefs.1]
      exact hperm.map backV
    have hlen : (out.map backV).length = zs.length := hp2.length_eq
    refine ⟨V.ref d, upd H d (HO.lst (out.map backV)), I.laid (t' := s.toks) hkeep hd ⟨by rw [hlen]; exact hsize, out, n, vals_back hout, hn⟩, rfl, ?_⟩
    refine hq (out.map backV) g d hg hp2 ?_ (I.hok.fresh hd)
    rw [List.map_map, List.pairwise_map]
    refine List.Pairwise.imp (fun {v u} hvu => ?_) hsorted
    have := SrtO.lexB_no.mp hvu
    show lexLe (g (backV v)) (g (backV u))
    unfold lexLe
    omega
/-- pairs of ints, as data -/
abbrev prD (q : Int × Int) : Dat := .tup [.int q.1, .int q.2]
def rSortQD (mk : Bool) : List Dat → MH → VKD → Prop := fun ds M Q => match ds with
  | [x] => ∃ ps : List (Int × Int), lsR M x = some (ps.map prD) ∧ ∀ ps' : List (Int × Int), ps'.Perm ps → ps'.Pairwise lexLe → newL mk (ps'.map prD) M Q
  | _ => False
theorem rep_pr {K : PySem.W.Frag} {F : Hp} {v : V} {q : Int × Int} (r : Rep K F v (prD q)) : PairAt K F v q := by
  cases r with
  | tup h rs =>
    have e := rs.ints (ns := [q.1, q.2])
    subst e
    exact ⟨_, rfl, h⟩
theorem reps_mem {K : PySem.W.Frag} {F : Hp} : ∀ {vs : List V} {ps : List (Int × Int)}, Reps K F vs (ps.map prD) → ∀ v ∈ vs, ∃ q, Rep K F v (prD q)
  | [], _, _, v, h => absurd h List.not_mem_nil
  | w :: vs, [], r, _, _ => by cases r
  | w :: vs, q :: ps, r, v, h => by
    cases r with
    | cons r1 rs =>
      rcases List.mem_cons.mp h with e | e
      · exact ⟨q, by rw [e]; exact r1⟩
      · exact reps_mem rs v e
theorem reps_key {K : PySem.W.Frag} {F : Hp} {g : V → Int × Int} (hg : ∀ v q, Rep K F v (prD q) → g v = q) : ∀ {vs : List V} {ps : List (Int × Int)}, Reps K F vs (ps.map prD) → vs.map g = ps
  | [], [], _ => rfl
  | [], _ :: _, r => by cases r
  | _ :: _, [], r => by cases r
  | w :: vs, q :: ps, r => by
    cases r with
    | cons r1 rs =>
      rw [List.map_cons, hg w q r1, reps_key hg rs]
theorem reps_of {K : PySem.W.Frag} {F : Hp} {g : V → Int × Int} : ∀ {vs : List V}, (∀ v ∈ vs, Rep K F v (prD (g v))) → Reps K F vs ((vs.map g).map prD)
  | [], _ => .nil
  | v :: vs, h => .cons (h v (by simp)) (reps_of fun w hw => h w (by simp [hw]))
theorem cd_sortQ (mk : Bool) : CallD X (.builtin "sorted") (rSortQD mk) := ⟨_, cr_sortQ, fun Z F H M vs ds Q QD R rs hd o => by
  unfold rSortQD at hd
  split at hd
  · rename_i x
    obtain ⟨ps, q1, q2⟩ := hd
    obtain ⟨v, ws, rfl, r1, rs⟩ := rs.uncons
    cases rs.unnil
    obtain ⟨p, xs, rfl, q, rr⟩ := lsR_rep R r1 q1
    have up : ∀ {v : V} {q : Int × Int}, PairAt X.K F v q → PairAt X.K H v q := fun ⟨t, e, h⟩ => ⟨t, e, ext_t R.sub h⟩
    refine ⟨p, xs, rfl, q, fun z hz => ?_, fun ys g c hg hperm hs hc => ?_⟩
    · obtain ⟨q, hq⟩ := reps_mem rr z hz
      exact ⟨q, up (rep_pr hq)⟩
    · have hg2 : ∀ v q, Rep X.K F v (prD q) → g v = q := fun v q h => hg v q (up (rep_pr h))
      have hk := reps_key hg2 rr
      have hys : Reps X.K F ys ((ys.map g).map prD) := reps_of fun v hv => by
        obtain ⟨q, hq⟩ := reps_mem rr v (hperm.mem_iff.mp hv)
        rw [hg2 v q hq]
        exact hq
      exact sim_new R hys (q2 _ (by rw [← hk]; exact hperm.map g) hs) o hc
  · exact hd.elim⟩
theorem w_sortQ {mk : Bool} {x : Dat} {M : MH} {Q : VKD} : rSortQD mk [x] M Q = ∃ ps : List (Int × Int), lsR M x = some (ps.map prD) ∧ ∀ ps' : List (Int × Int), ps'.Perm ps → ps'.Pairwise lexLe → newL mk (ps'.map prD) M Q := rfl
end
end DL
namespace DL
open PySem PySem.Spec PyProof.Rows L2 L2.DX
/-! ### sorted(d.items()), a dict of ints by ints -/
theorem RelM.more {K : PySem.W.Frag} {Z F H H' : Hp} {M : MH} (r : RelM K Z F H M) (e : Ext H H') : RelM K Z F H' M := ⟨r.sub.trans e, fun a o h => ⟨e a o (r.hid a o h).1, (r.hid a o h).2⟩, fun a m h => ⟨(r.chg a m h).1, by
  have q := (r.chg a m h).2
  obtain ⟨o, ho⟩ := q.some
  exact q.mono (Ext.refl F) ((e a o ho).trans ho.symm)⟩⟩
abbrev entI (q : Int × Int) : L2.Key × V := (Sum.inl q.1, V.int q.2)
def adr : Value → Addr
  | .ref a => a
  | _ => 0
theorem pairs_nth {prog : Program} {w : World} {κ : Type} [DecidableEq κ] {knd : PySem.KeyKind prog w κ} {es : List DictEntry} {kvs : List (κ × Value)} (h : PySem.Pairs knd es kvs) : ∀ {j : Nat} {e : DictEntry}, es[j]? = some e → ∃ kv, kvs[j]? = some kv ∧ knd.is kv.1 e.key = true ∧ e.val = kv.2 := by
  induction h with
  | nil =>
    intro j e h
    simp at h
  | @cons e0 kv es kvs h1 h2 _ ih =>
    intro j e h
    cases j with
    | zero =>
      cases h
      exact ⟨kv, rfl, h1, h2⟩
    | succ j => exact ih h
theorem kv_nth {κ : Type} {l : List (κ × V)} {m : List (κ × Value)} (h : KV l m) : ∀ {j : Nat} {q : κ × Value}, m[j]? = some q → ∃ p, l[j]? = some p ∧ p.1 = q.1 ∧ RelV p.2 q.2 := by
  intro j q hq
  obtain ⟨y, h1, h2⟩ := pget h hq
  exact ⟨y, h1, h2⟩
theorem isPair_one {h : Heap} {v : Value} {x y x' y' : Int} (a : Srt.IsPair h v x y) (b : Srt.IsPair h v x' y') : x = x' ∧ y = y' := by
  obtain ⟨a1, o1, t1, u1, n1, e1, g1, c1, d1⟩ := a
  obtain ⟨a2, o2, t2, u2, n2, e2, g2, c2, d2⟩ := b
  rw [e1] at e2
  cases e2
  rw [g1] at g2
  cases g2
  rw [d1] at d2
  injection d2 with d3
  simp at d3
  exact ⟨d3.1.1, d3.2.1⟩
section
variable {X : Cx}
def rItemsK : V → List V → Hp → VK → Prop := fun x xs H Q => ∃ (d : Addr) (ps : List (L2.Key × V)), x = .ref d ∧ xs = [] ∧ H d = some (.dK ps) ∧ ∀ c, H c = none → Q (.ref c) (upd H c (itemsO c d))
theorem mt_itemsK : MtR X "dict.items" rItemsK := by
  intro pins s σ H x xs v us Q I rx rxs hyp
  obtain ⟨d, ps, hx, hxs, hd, hq⟩ := hyp
  subst hx
  subst hxs
  cases rx
  cases rxs
  obtain ⟨hz, hsys, ws, hkv, o, es, ep, ho, hex, hdat, hrest⟩ := dk_of I.hok hd
  refine DT.callItems (es := es) (ep := ep) hsys ⟨o, ho, hex, hdat⟩ ?_
  have hnew : H s.heap.objs.size = none := I.hok.fresh (Nat.le_refl _)
  refine ⟨V.ref s.heap.objs.size, upd H s.heap.objs.size (itemsO s.heap.objs.size d), ?_, rfl, hq _ hnew⟩
  exact I.laid (t' := s.toks) (fun b u eb => Heap.get?_push_of_some _ eb) (Nat.le_refl _) (itemsO_ok (Heap.get?_push_size _ rfl))
def rSortIK : List V → Hp → VK → Prop := fun vs H Q => ∃ (c d : Addr) (ps : List (Int × Int)), vs = [.ref c] ∧ H c = some (itemsO c d) ∧ H d = some (.dK (ps.map entI)) ∧
  ∀ (H' : Hp) (l : Addr) (ts : List Addr) (qs : List (Int × Int)), Ext H H' → qs.Perm ps → qs.Pairwise lexLe → H l = none → (∀ t ∈ ts, H t = none) → H' l = some (.lst (ts.map V.ref)) → ts.length = qs.length →
    (∀ (j : Nat) (t : Addr) (q : Int × Int), ts[j]? = some t → qs[j]? = some q → H' t = some (.tup [V.int q.1, V.int q.2])) → Q (.ref l) H'
open Classical in
theorem cr_sortIK (hc : X.calm = true) : CallR X (.builtin "sorted") rSortIK := by
  intro pins s σ H xs us Q I rel hyp
  obtain ⟨c, d, ps, hvs, hcv, hdv, hq⟩ := hyp
  subst hvs
  cases Vals.ref1 rel
  have view : s.heap.IsItemsView c d := (show ObjOk X.prog X.w H s.heap c (itemsO c d) from I.hok c _ hcv).1
  obtain ⟨hz, hsys, ws, hkv, o, es, ep, ho, hex, hdat, hkeys, hprs, hnd⟩ := dk_of I.hok hdv
  have hlen : es.size = ps.length := by
    have h1 := hprs.length
    have h2 := Paired.length hkv
    rw [List.length_map] at h2
    rw [← Array.length_toList, h1, ← h2]
  have hzp : ps.length ≤ sizeLine := by rw [List.length_map] at hz; exact hz
  refine DT.sortedI (es := es) (ep := ep) (I.ok.hd hc) view ⟨o, ho, hex, hdat⟩ (by rw [hlen]; exact hzp) fun h' tk as hk hlt hl hG => ?_
  have lak : as.length = ps.length := by omega
  have nd : as.Nodup := List.Pairwise.imp (fun h => Nat.ne_of_lt h) hG.rise
  -- the pairs that were made
  have made : ∀ (j : Nat) (b : Addr), as[j]? = some b → ∃ q, ps[j]? = some q ∧ Srt.IsPair h' (.ref b) q.1 q.2 := by
    intro j b hj
    obtain ⟨en, he, hg⟩ := hG.pairs j b hj
    rw [← Array.getElem?_toList] at he
    obtain ⟨kv, hkv1, hkv2, hkv3⟩ := pairs_nth hprs he
    obtain ⟨p, hp1, hp2, hp3⟩ := kv_nth hkv hkv1
    rw [List.getElem?_map] at hp1
    cases hpj : ps[j]? with
    | none =>
      rw [hpj] at hp1
      cases hp1
    | some q =>
      rw [hpj] at hp1
      cases hp1
      rw [← hp2] at hkv2
      obtain ⟨t1, ht1⟩ : RelV (kV (Sum.inl q.1)) en.key := keyIs_rel hkv2
      obtain ⟨t2, ht2⟩ : RelV (V.int q.2) kv.2 := hp3
      refine ⟨q, rfl, b, _, t1, t2, 0, rfl, hg, rfl, ?_⟩
      rw [hkv3, ht1, ht2]
  -- the list that is sorted
  have hob : (h'.push { cls := .type "list", data := .seq (as.map Value.ref).toArray }).get? h'.objs.size = some (seqObj "list" (as.map Value.ref).toArray 0) := Heap.get?_push_size _ rfl
  have up : ∀ b u, h'.get? b = some u → (h'.push { cls := .type "list", data := .seq (as.map Value.ref).toArray }).get? b = some u := fun b u e => Heap.get?_push_of_some _ e
  have ne0 : ∀ b u, h'.get? b = some u → b ≠ h'.objs.size := fun b u e => Nat.ne_of_lt (Heap.lt_size e)
  generalize hh2 : h'.push { cls := .type "list", data := .seq (as.map Value.ref).toArray } = h2 at hob up ⊢
  have made2 : ∀ (j : Nat) (b : Addr), as[j]? = some b → ∃ q, ps[j]? = some q ∧ Srt.IsPair h2 (Value.ref b) q.1 q.2 := fun j b hj => by
    obtain ⟨q, hq1, a0, o0, t0, u0, n0, e0, g0, c0, d0⟩ := made j b hj
    exact ⟨q, hq1, a0, o0, t0, u0, n0, e0, up _ _ g0, c0, d0⟩
  let key : Value → Int × Int := fun v => if h : ∃ q : Int × Int, Srt.IsPair h2 v q.1 q.2 then h.choose else (0, 0)
  have hkey : ∀ (v : Value) (q : Int × Int), Srt.IsPair h2 v q.1 q.2 → key v = q := fun v q h => by
    have hex2 : ∃ q : Int × Int, Srt.IsPair h2 v q.1 q.2 := ⟨q, h⟩
    show (if h : ∃ q : Int × Int, Srt.IsPair h2 v q.1 q.2 then h.choose else (0, 0)) = q
    rw [dif_pos hex2]
    obtain ⟨e1, e2⟩ := isPair_one hex2.choose_spec h
    exact Prod.ext e1 e2
  have hall : ∀ v ∈ as.map Value.ref, Srt.IsPair h2 v (key v).1 (key v).2 := fun v hv => by
    obtain ⟨b, hb, rfl⟩ := List.mem_map.mp hv
    obtain ⟨j, hj⟩ := List.mem_iff_getElem?.mp hb
    obtain ⟨q, _, hq2⟩ := made2 j b hj
    rw [hkey _ q hq2]
    exact hq2
  have hvz : (as.map Value.ref).length ≤ sizeLine := by rw [List.length_map, lak]; exact hzp
  refine wpAny_call_entry PyProof.Rows.slot_list_sort ⟨_, hob, rfl⟩ PyProof.Rows.entry_list_sort (SrtO.list_sort_ord (s := { s with heap := h2, toks := tk }) (ltv := fun v u => SrtO.lexB (key v) (key u)) (SrtO.swo_lex key) hob hvz
    (fun h2v => SrtO.pairs_sortableO (by omega) hall fun u eu => ?_) fun out hsort hstab => ⟨_, rfl, ?_⟩) (PyProof.Rows.args_list_sort _)
  · have e : some (seqObj "list" (as.map Value.ref).toArray 0) = some u := hob.symm.trans eu
    cases e
    intro z
    exact absurd (Value.type.inj z) (by decide)
  -- behind the sort
  have hperm : out.Perm (as.map Value.ref) := hstab.perm
  have houtref : ∀ v ∈ out, ∃ b, v = Value.ref b ∧ b ∈ as := fun v hv => by
    obtain ⟨b, hb, e⟩ := List.mem_map.mp (hperm.mem_iff.mp hv)
    exact ⟨b, e.symm, hb⟩
  have hout : out = (out.map adr).map Value.ref := by
    rw [List.map_map]
    conv => lhs; rw [← List.map_id out]
    refine List.map_congr_left fun v hv => ?_
    obtain ⟨b, rfl, _⟩ := houtref v hv
    rfl
  have htperm : (out.map adr).Perm as := by
    have := hperm.map adr
    rw [List.map_map] at this
    have e : as.map (adr ∘ Value.ref) = as := by
      conv => rhs; rw [← List.map_id as]
      exact List.map_congr_left fun _ _ => rfl
    rw [e] at this
    exact this
  have hps : as.map (fun t => key (.ref t)) = ps := by
    refine List.ext_getElem? fun j => ?_
    rw [List.getElem?_map]
    cases hj : as[j]? with
    | none =>
      have : ps.length ≤ j := by rw [← lak]; exact List.getElem?_eq_none_iff.mp hj
      rw [List.getElem?_eq_none this]
      rfl
    | some b =>
      obtain ⟨q, hq1, hq2⟩ := made2 j b hj
      rw [hq1]
      show some (key (.ref b)) = some q
      rw [hkey _ q hq2]
  generalize hts : out.map adr = ts at hout htperm
  have old : ∀ b u, b ≠ h'.objs.size → h2.get? b = some u → (sortedHeap h2 h'.objs.size (as.map Value.ref) out.toArray).get? b = some u := fun b u hb e => (PyProof.Rows.sortedHeap_old hb (Heap.lt_size e)).trans e
  have oldS : ∀ b u, s.heap.get? b = some u → (sortedHeap h2 h'.objs.size (as.map Value.ref) out.toArray).get? b = some u := fun b u e => old b u (ne0 _ _ (hk b u e)) (up b u (hk b u e))
  obtain ⟨n3, hn3⟩ := PyProof.Rows.sortedHeap_at (vs := as.map Value.ref) (out := out.toArray) hob
  generalize sortedHeap h2 h'.objs.size (as.map Value.ref) out.toArray = h3 at old oldS hn3 ⊢
  have I1 : Inv X pins σ H { s with heap := h3, toks := tk } := I.kept (t' := tk) oldS
  have hn0 : H h'.objs.size = none := I.hok.fresh (Nat.le_of_lt hlt)
  have hlents : ts.length = ps.length := htperm.length_eq.trans lak
  have hvals : Vals (ts.map V.ref) out := by
    rw [hout]
    exact vals_refs ts
  have I2 : Inv X pins σ (upd H h'.objs.size (.lst (ts.map V.ref))) { s with heap := h3, toks := tk } :=
    I1.take (h' := h3) (t' := tk) (fun b u _ e => e) (I.fpOk (Nat.le_of_lt hlt) hn0) ⟨by rw [List.length_map, hlents]; exact hzp, out, n3, hvals, hn3⟩
  obtain ⟨H2, I3, hgr, htup⟩ := takeT (P := fun b zs => zs = [V.int (key (.ref b)).1, V.int (key (.ref b)).2]) I as _ I2 nd fun b hb => by
    obtain ⟨j, hj⟩ := List.mem_iff_getElem?.mp hb
    obtain ⟨q, _, hq2⟩ := made2 j b hj
    have hkq := hkey _ q hq2
    obtain ⟨a0, o0, t0, u0, n0, e0, g0, c0, d0⟩ := hq2
    cases e0
    have hsz : s.heap.objs.size ≤ b := Nat.le_of_lt (hG.above b hb)
    have hb0 : b ≠ h'.objs.size := Nat.ne_of_lt (hG.there hb)
    refine ⟨hsz, by rw [upd_ne hb0]; exact I.hok.fresh hsz, _, rfl, fun H3 => ⟨?_, [Value.int q.1 t0, Value.int q.2 u0], ?_, o0, old _ _ hb0 g0, c0, n0, d0⟩⟩
    · rw [sizeLine_eq]
      show 2 ≤ _
      decide
    · rw [hkq]
      exact .cons ⟨t0, rfl⟩ (.cons ⟨u0, rfl⟩ .nil)
  refine ⟨V.ref h'.objs.size, H2, I3, rfl, hq H2 h'.objs.size ts (ts.map fun t => key (.ref t)) (fun b u e => hgr b u (by rw [upd_ne (ne_of_none e hn0)]; exact e)) ?_ ?_ hn0 (fun t ht => I.hok.fresh (Nat.le_of_lt (hG.above t (htperm.mem_iff.mp ht)))) (hgr _ _ upd_same) (by rw [List.length_map]) fun j t q hj hqj => ?_⟩
  · rw [← hps]
    exact htperm.map _
  · have hsort2 : (ts.map Value.ref).Pairwise fun x y => SrtO.lexB (key y) (key x) = false := by
      rw [← hout]
      exact hsort
    rw [List.pairwise_map] at hsort2
    rw [List.pairwise_map]
    refine List.Pairwise.imp (fun {v u} hvu => ?_) hsort2
    have := SrtO.lexB_no.mp hvu
    show lexLe (key (.ref v)) (key (.ref u))
    unfold lexLe
    omega
  · rw [List.getElem?_map, hj] at hqj
    cases hqj
    obtain ⟨zs, hz1, hz2⟩ := htup t (htperm.mem_iff.mp (List.mem_of_getElem? hj))
    rw [hz2, hz1]
/-- what is new, never changes from now on -/
def nwF (F H' : Hp) (as : List Addr) : Hp := fun b => if b ∈ as then H' b else F b
theorem nwF_in {F H' : Hp} {as : List Addr} {a : Addr} (h : a ∈ as) : nwF F H' as a = H' a := if_pos h
theorem nwF_ext {F H H' : Hp} {as : List Addr} (hs : Ext F H) (hn : ∀ a ∈ as, H a = none) : Ext F (nwF F H' as) := fun b o h => by
  have : b ∉ as := fun hb => by
    have h1 := hn b hb
    rw [hs b o h] at h1
    cases h1
  show (if b ∈ as then H' b else F b) = some o
  rw [if_neg this]
  exact h
theorem RelM.news {K : PySem.W.Frag} {Z F H H' : Hp} {M : MH} (r : RelM K Z F H M) (e : Ext H H') {as : List Addr} (hn : ∀ a ∈ as, H a = none) : RelM K Z (nwF F H' as) H' M := by
  have r2 := r.more e
  have hout : ∀ b o, H b = some o → b ∉ as := fun b o h hb => by
    have h1 := hn b hb
    rw [h] at h1
    cases h1
  refine ⟨fun b o h => ?_, fun b o h => ?_, fun b m h => ?_⟩
  · by_cases hb : b ∈ as
    · rw [nwF_in hb] at h
      exact h
    · rw [show nwF F H' as b = F b from if_neg hb] at h
      exact r2.sub b o h
  · obtain ⟨q1, q2, q3⟩ := r.hid b o h
    exact ⟨e b o q1, by rw [show nwF F H' as b = F b from if_neg (hout b o q1)]; exact q2, q3⟩
  · obtain ⟨q1, q2⟩ := r.chg b m h
    obtain ⟨o, ho⟩ := q2.some
    refine ⟨by rw [show nwF F H' as b = F b from if_neg (hout b o ho)]; exact q1, (r2.chg b m h).2.mono (nwF_ext r.sub hn) rfl⟩
theorem reps_prs {K : PySem.W.Frag} {F : Hp} : ∀ {ts : List Addr} {qs : List (Int × Int)}, ts.length = qs.length → (∀ (j : Nat) (t : Addr) (q : Int × Int), ts[j]? = some t → qs[j]? = some q → F t = some (.tup [V.int q.1, V.int q.2])) → Reps K F (ts.map V.ref) (qs.map prD)
  | [], [], _, _ => .nil
  | t :: ts, q :: qs, hl, h => .cons (.tup (SqT.of (h 0 t q rfl rfl)) (.cons (.int _) (.cons (.int _) .nil))) (reps_prs (by simpa using hl) fun j t q h1 h2 => h (j + 1) t q h1 h2)
  | [], _ :: _, hl, _ => by cases hl
  | _ :: _, [], hl, _ => by cases hl
abbrev entD (q : Int × Int) : Key × Dat := (Sum.inl q.1, .int q.2)
theorem repK_ents {K : PySem.W.Frag} {F : Hp} : ∀ {vs : List (Key × V)} {ps : List (Int × Int)}, RepK K F vs (ps.map entD) → vs = ps.map entI
  | _, [], r => by
    cases r
    rfl
  | _, p :: ps, r => by
    cases r with
    | cons r1 r2 => rw [r1.toInt, repK_ents r2]; rfl
variable {d e : Expr} {da : TED} {pos p apos cpos : Pos}
/-- sorted(d.items()) -/
def dSortI (da : TED) : TED := fun ρ M Q => da ρ M fun x M1 => ∃ ps : List (Int × Int), dicR M1 x = some (ps.map entD) ∧ ∀ qs : List (Int × Int), qs.Perm ps → qs.Pairwise lexLe → Q (.lst (qs.map prD)) M1
theorem de_sortItems (hc : X.calm = true) (ho : DE X d da) (hg : Gl X "sorted") (hm : X.mg "sorted" = none) (hbase : attributeBase d "items" X.env (eval d X.env) = eval d X.env := by rfl) (hline : (apos.endLine == cpos.line) = true := by rfl)
    (he : starEach [.Call (.Attribute d "items" apos) [] [] cpos] X.env = (false, eval (.Call (.Attribute d "items" apos) [] [] cpos) X.env) :: starEach [] X.env := by rfl) : DE X (.Call (.Name "sorted" p) [.Call (.Attribute d "items" apos) [] [] cpos] [] pos) (dSortI da) :=
  pe_w (pe_callB (cr_sortIK hc) hg hm rfl (pa_cons (pe_bm0 PySem.F.plainAttrs_dict PySem.F.slot_dict_items PySem.F.type_dict_items mt_itemsK ho hbase hline) pa_nil he) (by decide) (by decide) he rfl) fun σ H Q ⟨Z, F, M, ρ, QD, R, h, o⟩ => by
    refine ⟨Z, F, M, ρ, _, R, h, fun x a F1 H1 M1 e1 R1 r1 h1 => ?_⟩
    obtain ⟨ps, q1, q2⟩ := h1
    obtain ⟨dd, vs, rfl, q5, q6⟩ := dicR_rep R1 r1 q1
    cases repK_ents q6
    refine ⟨Or.inr (Or.inr (Or.inl ⟨rfl, Or.inl ⟨_, q5⟩⟩)), dd, _, rfl, rfl, q5, fun c hc => ?_⟩
    have hcd : dd ≠ c := ne_of_none q5 hc
    refine ⟨c, dd, ps, rfl, upd_same, by rw [upd_ne hcd]; exact q5, fun H' l ts qs x1 hp hs hl hts hl' hlen hall => ?_⟩
    have R2 := R1.more (Ext.new (o := itemsO c dd) hc)
    have hn : ∀ a ∈ l :: ts, upd H1 c (itemsO c dd) a = none := fun a ha => by
      rcases List.mem_cons.mp ha with h | h
      · rw [h]
        exact hl
      · exact hts a h
    have R3 := R2.news x1 hn
    have x2 := nwF_ext (H' := H') R2.sub hn
    refine o _ _ _ _ M1 (e1.trans x2) R3 (.lst (xs := ts.map V.ref) ?_ (reps_prs hlen fun j t q h1 h2 => ?_)) (q2 qs hp hs)
    · rw [nwF_in (List.mem_cons_self ..)]
      exact hl'
    · rw [nwF_in (List.mem_cons_of_mem _ (List.mem_of_getElem? h1))]
      exact hall j t q h1 h2
end
end DL
namespace DL
open PySem PySem.Spec PyProof.Rows L2 L2.DX
/-! ### for k, v in d.items(), where d is not used afterwards -/
def tLockV (t : TE) : TE := fun σ H Q => t σ H fun x H1 => ∃ d u, x = .ref d ∧ H1 d = some u ∧ Mut (some u) ∧ ∀ od, Q x (upd H1 d (.frz od u))
theorem pe_lockV {X : Cx} {e : Expr} {t : TE} (h : PE X e t) : PE X e (tLockV t) := by
  refine ⟨fun pins s σ H Q I hw => ?_⟩
  refine thn (h.run pins s σ H _ I hw) fun v s1 ⟨x, H1, I1, r, d, u, ex, hd, mu, q⟩ => ?_
  obtain ⟨od, I2⟩ := I1.lock hd mu
  exact ⟨x, _, I2, r, q od⟩
theorem RelM.lockD {K : PySem.W.Frag} {Z F H : Hp} {M : MH} {p : Addr} {m : MO} {o : HO} (r : RelM K Z F H M) (h : M p = some m) : RelM K Z (upd F p o) (upd H p o) (delM M p) ∧ Ext F (upd F p o) := by
  have hf := (r.chg p m h).1
  have e := Ext.new (o := o) hf
  refine ⟨⟨fun b u q => ?_, fun b u q => ?_, fun b n q => ?_⟩, e⟩
  · by_cases hb : b = p
    · subst hb
      rw [upd_same] at q ⊢
      exact q
    · rw [upd_ne hb] at q ⊢
      exact r.sub b u q
  · obtain ⟨q1, q2, q3⟩ := r.hid b u q
    have hb : b ≠ p := (ne_dom h q3).symm
    exact ⟨by rw [upd_ne hb]; exact q1, by rw [upd_ne hb]; exact q2, by rw [delM_ne hb]; exact q3⟩
  · by_cases hb : b = p
    · subst hb
      rw [delM_same] at q
      cases q
    · rw [delM_ne hb] at q
      obtain ⟨q1, q2⟩ := r.chg b n q
      exact ⟨by rw [upd_ne hb]; exact q1, q2.mono e (upd_ne hb)⟩
def itemsD (kvs : List (Key × Dat)) : List Dat := kvs.map fun e => .tup [kD e.1, e.2]
theorem kD_repV {K : PySem.W.Frag} {F : Hp} (k : Key) : Rep K F (kV k) (kD k) := by
  cases k with
  | inl i => exact .int i
  | inr s => exact .str s
theorem RepK.get {K : PySem.W.Frag} {F : Hp} : ∀ {vs : List (Key × V)} {ds : List (Key × Dat)}, RepK K F vs ds → ∀ {i : Nat} {e : Key × Dat}, ds[i]? = some e → ∃ v, vs[i]? = some (e.1, v) ∧ Rep K F v e.2
  | _, [], _, _, _, h => by simp at h
  | _, d :: ds, r, i, e, h => by
    cases r with
    | cons r1 r2 =>
      cases i with
      | zero =>
        cases h
        exact ⟨_, rfl, r1⟩
      | succ i => exact RepK.get r2 h
theorem walk_items {K : PySem.W.Frag} {F : Hp} {d : Addr} {o : Obj} {vs : List (Key × V)} {kvs : List (Key × Dat)} (q : F d = some (.frz o (.dK vs))) (r : RepK K F vs kvs) : WalkD K F (Iti d o vs) (itemsD kvs) := by
  have hl : (itemsD kvs).length = vs.length := by
    unfold itemsD
    rw [List.length_map, r.len]
  refine ⟨fun Z i F' H M e R h => ⟨(e.trans R.sub) _ _ q, by omega⟩, fun Z F' H M e R => ⟨(e.trans R.sub) _ _ q, by omega⟩, fun Z i F' H M x H' dd e R y hd => ?_⟩
  obtain ⟨T, k, v, h1, rfl, nT, rfl⟩ := y
  unfold itemsD at hd
  rw [List.getElem?_map] at hd
  cases h2 : kvs[i]? with
  | none =>
    rw [h2] at hd
    cases hd
  | some en =>
    rw [h2] at hd
    cases hd
    obtain ⟨v2, h3, rv⟩ := r.get h2
    rw [h1] at h3
    cases h3
    obtain ⟨R4, e4⟩ := R.newF (o := .tup [kV en.1, v]) nT
    exact ⟨_, e4, R4, .tup (SqT.of upd_same) (.two (kD_repV _) (rv.mono (e.trans e4)))⟩
section
variable {X : Cx} {e : Expr} {elts : List Expr} {kk : Nat} {tpos apos cpos : Pos}
def dIItems (de : TED) : TID := fun ρ M R => de ρ M fun x M1 => ∃ a kvs, x = .ref a ∧ M1 a = some (.dic kvs) ∧ R (itemsD kvs) (delM M1 a)
theorem di_items {de : TED} (he : DE X e de) (hbase : attributeBase e "items" X.env (eval e X.env) = eval e X.env := by rfl) (hline : (apos.endLine == cpos.line) = true := by rfl) :
    DI X (.Tuple elts kk tpos) (.Call (.Attribute e "items" apos) [] [] cpos) (dIItems de) := pi_w (pi_items (pe_lockV he) hbase hline) fun σ H R ⟨Z, F, M, ρ, RD, R0, h, o⟩ => by
  refine ⟨Z, F, M, ρ, _, R0, h, fun x a F1 H1 M1 e1 R1 r1 h1 => ?_⟩
  obtain ⟨p, kvs, rfl, q1, q2⟩ := h1
  cases r1
  obtain ⟨q3, vs, q4, q5⟩ := R1.chg _ _ q1
  refine ⟨p, _, rfl, q4, trivial, fun od => ⟨p, od, vs, rfl, upd_same, ?_⟩⟩
  obtain ⟨R2, e2⟩ := R1.lockD (o := .frz od (.dK vs)) q1
  exact o _ _ _ _ _ (e1.trans e2) R2 (walk_items upd_same (q5.mono e2)) q2
end
end DL
namespace DL
open PySem PySem.Spec PyProof.Rows L2 L2.DX
/-! ### dict comprehensions -/
def dcGo (g : TGD) (tt : TTD) (tk tv : TED) (ρ : EnvD) (mk : Bool) (Q : VKD) : List Dat → List (Key × Dat) → MH → Prop
  | [], acc, M => newD mk acc M Q
  | x :: r, acc, M => g x ρ M fun ρ2 M2 => tt ρ2 M2 fun b M3 => if b = true then tk ρ2 M3 fun y M4 => tv ρ2 M4 fun z M5 => ∃ k, keyD y = some k ∧ dcGo g tt tk tv ρ mk Q r (putKD acc k z) M5 else dcGo g tt tk tv ρ mk Q r acc M3
def dDc (mk : Bool) (vs : List Nat) (di : TID) (g : TGD) (tt : TTD) (tk tv : TED) : TED := fun ρ M Q => di ρ M fun ds M1 => ds.length ≤ sizeLine ∧ dcGo g tt tk tv (wipeD ρ vs) mk Q ds [] M1
theorem putKD_len (ds : List (Key × Dat)) (k : Key) (v : Dat) : (putKD ds k v).length ≤ ds.length + 1 := by
  unfold putKD
  split
  · rw [List.length_map]
    omega
  · rw [List.length_append, List.length_singleton]
    omega
theorem up_dc {K : PySem.W.Frag} {mk : Bool} {vs : List Nat} {di : TID} {g : TGD} {tt : TTD} {tk tv : TED} {σ : L2.St} {H : Hp} {Q : VK} (h : up K (dDc mk vs di g tt tk tv) σ H Q) : tDc (upI K di) (upGo K vs g) (upT K tt) (up K tk) (up K tv) vs σ H Q := by
  obtain ⟨Z, F, M, ρ, QD, R, h, o⟩ := h
  refine ⟨Z, F, M, ρ, _, R, h, fun ds J F1 H1 M1 e1 R1 w1 h1 => ?_⟩
  obtain ⟨hz, h1⟩ := h1
  intro D hD
  have hidD : ∀ {F : Hp} {H : Hp} {M : MH} {accv : List (Key × V)}, RelM K (upd Z D (.dK accv)) F H M → H D = some (.dK accv) ∧ F D = none ∧ M D = none := fun R => R.hid D _ upd_same
  -- the hidden list, put away and taken up
  have hide : ∀ {F H : Hp} {M : MH} {accv : List (Key × V)}, RelM K Z F H M → H D = some (.dK accv) → F D = none → M D = none → RelM K (upd Z D (.dK accv)) F H M := fun {F H M accv} R hH hF hM =>
    ⟨R.sub, fun b u q => by
      by_cases hb : b = D
      · subst hb
        rw [upd_same] at q
        cases q
        exact ⟨hH, hF, hM⟩
      · rw [upd_ne hb] at q
        exact R.hid b u q, R.chg⟩
  have hZD : Z D = none := by
    cases q : Z D with
    | none => rfl
    | some u =>
      rw [(R1.hid D u q).1] at hD
      cases hD
  have bare : ∀ {F H : Hp} {M : MH} {accv : List (Key × V)}, RelM K (upd Z D (.dK accv)) F H M → RelM K Z F H M := fun {F H M accv} R =>
    ⟨R.sub, fun b u q => R.hid b u (by rw [upd_ne (ne_of_none q hZD)]; exact q), R.chg⟩
  refine ⟨fun i m H => m = ds.length - i ∧ i ≤ ds.length ∧ ∃ F' M accv acc, Ext F1 F' ∧ RelM K Z F' H M ∧ H D = some (.dK accv) ∧ F' D = none ∧ M D = none ∧ RepK K F' accv acc ∧ acc.length ≤ i ∧ dcGo g tt tk tv (wipeD ρ vs) mk QD (ds.drop i) acc M,
    ⟨ds.length, by simp, Nat.zero_le _, F1, M1, [], [], Ext.refl _, ⟨fun b u q => ?_, fun b u q => ?_, fun b m q => ?_⟩, upd_same, (R1.fresh hD).1, (R1.fresh hD).2, .nil, Nat.le_refl _, h1⟩, ?_⟩
  · rw [upd_ne (ne_of_none (R1.sub b u q) hD)]
    exact R1.sub b u q
  · obtain ⟨q1, q2, q3⟩ := R1.hid b u q
    exact ⟨by rw [upd_ne (ne_of_none q1 hD)]; exact q1, q2, q3⟩
  · obtain ⟨q1, q2⟩ := R1.chg b m q
    exact ⟨q1, q2.mono (Ext.refl _) (upd_ne (R1.ne hD q))⟩
  rintro i m H2 ⟨rfl, hi, F2, M2, accv, acc, e2, R2, a1, a2, a3, a4, a5, h2⟩
  by_cases hlt : i < ds.length
  · obtain ⟨d, hd⟩ : ∃ d, ds[i]? = some d := ⟨ds[i], List.getElem?_eq_getElem hlt⟩
    have hdr : ds.drop i = d :: ds.drop (i + 1) := by
      obtain ⟨h5, h6⟩ := List.getElem?_eq_some_iff.mp hd
      rw [List.drop_eq_getElem_cons h5, h6]
    rw [hdr] at h2
    unfold dcGo at h2
    refine .inr ⟨w1.go Z i F2 H2 M2 e2 R2 hlt, fun H' => ∃ F' M accv acc, Ext F1 F' ∧ RelM K Z F' H' M ∧ H' D = some (.dK accv) ∧ F' D = none ∧ M D = none ∧ RepK K F' accv acc ∧ acc.length ≤ i + 1 ∧ dcGo g tt tk tv (wipeD ρ vs) mk QD (ds.drop (i + 1)) acc M,
      fun H' n => ⟨ds.length - (i + 1), by omega, rfl, hlt, n⟩, fun x H' y => ?_⟩
    have R2h := hide R2 a1 a2 a3
    · obtain ⟨F3, e3, R3, r3⟩ := w1.yld (upd Z D (.dK accv)) i F2 H2 M2 x H' d e2 R2h y hd
      have R0 : Rel K (upd Z D (.dK accv)) F3 H' M2 (wipe σ vs) (wipeD ρ vs) := ⟨R3, (wipeD_rep R.e vs).mono ((e1.trans e2).trans e3)⟩
      refine ⟨upd Z D (.dK accv), F3, M2, wipeD ρ vs, d, _, R0, r3, h2, fun σ4 ρ4 F4 H4 M4 e4 R4 wp h4 => ⟨wp.trans wipe_wipe, ?_⟩⟩
      refine ⟨upd Z D (.dK accv), F4, M4, ρ4, _, R4, h4, fun b F5 H5 M5 e5 R5 h5 => ?_⟩
      have e15 := ((e2.trans e3).trans e4).trans e5
      cases b with
      | true =>
        dsimp only at h5 ⊢
        rw [if_pos rfl] at h5 ⊢
        refine ⟨upd Z D (.dK accv), F5, M5, ρ4, _, R4.ext e5 R5, h5, fun yv yd F7 H7 M7 e7 R7 r7 h7 => ?_⟩
        refine ⟨upd Z D (.dK accv), F7, M7, ρ4, _, (R4.ext e5 R5).ext e7 R7, h7, fun zv zd F6 H6 M6 e6 R6 r6 h6 => ?_⟩
        obtain ⟨k, hk, h6⟩ := h6
        obtain ⟨b1, b2, b3⟩ := hidD R6
        refine ⟨accv, k, keyD_rep r7 hk, b1, by have := a4.len; omega, F6, M6, putK accv k zv, putKD acc k zd, (e15.trans e7).trans e6, ⟨fun b u q => ?_, fun b u q => ?_, fun b m q => ?_⟩, upd_same, b2, b3, (a4.mono ((((e3.trans e4).trans e5).trans e7).trans e6)).put r6 k, by have := putKD_len acc k zd; omega, h6⟩
        · rw [upd_ne (ne_of_none q b2)]
          exact R6.sub b u q
        · obtain ⟨q1, q2, q3⟩ := (bare R6).hid b u q
          exact ⟨by rw [upd_ne (ne_of_none q hZD)]; exact q1, q2, q3⟩
        · obtain ⟨q1, q2⟩ := R6.chg b m q
          exact ⟨q1, q2.mono (Ext.refl _) (upd_ne (ne_dom q b3))⟩
      | false =>
        dsimp only at h5 ⊢
        rw [if_neg Bool.false_ne_true] at h5 ⊢
        obtain ⟨b1, b2, b3⟩ := hidD R5
        exact ⟨F5, M5, accv, acc, e15, bare R5, b1, b2, b3, a4.mono ((e3.trans e4).trans e5), by omega, h5⟩
  · have e : i = ds.length := by omega
    subst e
    rw [List.drop_length] at h2
    unfold dcGo at h2
    refine .inl ⟨w1.stop Z F2 H2 M2 e2 R2, ?_⟩
    cases mk with
    | false =>
      have h2' : QD (.dic acc) M2 := h2
      have ee := Ext.new (o := .dK accv) a2
      refine o _ _ (upd F2 D (.dK accv)) H2 M2 ((e1.trans e2).trans ee) ⟨fun b u q => ?_, fun b u q => ?_, fun b m q => ?_⟩ (.dic upd_same (a4.mono ee)) h2'
      · by_cases hb : b = D
        · subst hb
          rw [upd_same] at q
          cases q
          exact a1
        · rw [upd_ne hb] at q
          exact R2.sub b u q
      · obtain ⟨q1, q2, q3⟩ := R2.hid b u q
        exact ⟨q1, by rw [upd_ne (ne_of_none q hZD)]; exact q2, q3⟩
      · obtain ⟨q1, q2⟩ := R2.chg b m q
        exact ⟨by rw [upd_ne (ne_dom q a3)]; exact q1, q2.mono ee rfl⟩
    | true =>
      have h2' := (show ∀ a, M2 a = none → QD (.ref a) (updM M2 a (.dic acc)) from h2) D a3
      refine o _ _ F2 H2 (updM M2 D (.dic acc)) (e1.trans e2) ⟨R2.sub, fun b u q => ?_, fun b m q => ?_⟩ (.ref D) h2'
      · obtain ⟨q1, q2, q3⟩ := R2.hid b u q
        exact ⟨q1, q2, by rw [updM_ne (ne_of_none q hZD)]; exact q3⟩
      · by_cases hb : b = D
        · subst hb
          rw [updM_same] at q
          cases q
          exact ⟨a2, accv, a1, a4⟩
        · rw [updM_ne hb] at q
          exact R2.chg b m q
section
variable {X : Cx}
theorem de_dc (mk : Bool) {kx vx tg iter : Expr} {ifs : List Expr} {scope : Scope} {own : List (Str × Nat)} {pos : Pos} {di : TID} {g : TGD} {tt : TTD} {tk tv : TED} (hN : X.N.Nodup) (hi : DI X tg iter di) (ok : BlkOk X.N X.env.scope scope own)
    (hg : ∀ (s : Shared) (H : Hp) (C : Addr) (cl : List (Str × Addr)) (fp : List Addr), DGo (X.blk s H scope (compEnvC scope cl C X.env) fp) tg (own.map (·.2)) g) (ht : ∀ (s : Shared) (H : Hp) (C : Addr) (cl : List (Str × Addr)) (fp : List Addr), DTs (X.blk s H scope (compEnvC scope cl C X.env) fp) ifs tt)
    (hk : ∀ (s : Shared) (H : Hp) (C : Addr) (cl : List (Str × Addr)) (fp : List Addr), DE (X.blk s H scope (compEnvC scope cl C X.env) fp) kx tk)
    (he : ∀ (s : Shared) (H : Hp) (C : Addr) (cl : List (Str × Addr)) (fp : List Addr), DE (X.blk s H scope (compEnvC scope cl C X.env) fp) vx tv) (hc : X.calm = true := by rfl) (hs : ∀ x, foldedSetIterable iter X.env x = pure x := by intro _; rfl) :
    DE X (.DictComp kx vx [⟨tg, iter, ifs, 0⟩] scope pos) (dDc mk (own.map (·.2)) di g tt tk tv) := pe_w (pe_dc hc hN hi ok hg ht hk he hs) fun σ H Q h => up_dc h
theorem swd_true {kx vx : Expr} {gs : List Comprehension} {scope : Scope} {pos py : Pos} {y : Str} {l : Nat} {env : Env} (hk : env.scope.kind = .function) (hy : env.scope.names.lookup y = some .local) (hl : (py.line == pos.line) = true)
    (ha : (scope.names.any fun (n, k) => n == y && (k == .local || k == .cell)) = false) : swapsWith (.DictComp kx vx gs scope pos) (some (.Name y py)) l env = pure true := by
  have ky : env.kindOf y = some .local := hy
  have hb : env.blockKind = .function := by unfold Env.blockKind; rw [hk]; rfl
  unfold swapsWith
  simp only [hb, ky, ha, Expr.pos, hl]
  rfl
theorem ps_setDc {i : Nat} {y : Str} {py : Pos} {kx vx tg iter : Expr} {ifs : List Expr} {scope : Scope} {own : List (Str × Nat)} {pos spos : Pos} {wi : TI} {g : TG} {tt : TT} {tk tv : TE} (hc : X.calm = true) (hN : X.N.Nodup) (hy : X.N[i]? = some y) (hyl : X.env.scope.names.lookup y = some .local)
    (hsw : swapsWith (.DictComp kx vx [⟨tg, iter, ifs, 0⟩] scope pos) (some (.Name y py)) spos.line X.env = pure true) (hi : PI X tg iter wi) (ok : BlkOk X.N X.env.scope scope own)
    (hg : ∀ (s : Shared) (H : Hp) (C : Addr) (cl : List (Str × Addr)) (fp : List Addr), PG (X.blk s H scope (compEnvC scope cl C X.env) fp) tg g) (ht : ∀ (s : Shared) (H : Hp) (C : Addr) (cl : List (Str × Addr)) (fp : List Addr), PTs (X.blk s H scope (compEnvC scope cl C X.env) fp) ifs tt)
    (hk : ∀ (s : Shared) (H : Hp) (C : Addr) (cl : List (Str × Addr)) (fp : List Addr), PE (X.blk s H scope (compEnvC scope cl C X.env) fp) kx tk)
    (he : ∀ (s : Shared) (H : Hp) (C : Addr) (cl : List (Str × Addr)) (fp : List Addr), PE (X.blk s H scope (compEnvC scope cl C X.env) fp) vx tv) (hs : ∀ x, foldedSetIterable iter X.env x = pure x := by intro _; rfl) :
    PS X (.Assign [.Name y py] (.DictComp kx vx [⟨tg, iter, ifs, 0⟩] scope pos) spos) (tAsg (tDc wi g tt tk tv (own.map (·.2))) (gName i)) := by
  refine ⟨fun pins s σ H D I h => ?_⟩
  rw [exec_Assign_Name_used _ _ _ _ hsw]
  refine wpAny_bind (wpAny_standAt (wpAny_bind ?_))
  show wpAny _ X.A (do let _ ← comprehension (.DictComp kx vx [⟨tg, iter, ifs, 0⟩] scope pos) scope X.env (firstIterPos [⟨tg, iter, ifs, 0⟩] pos) newDict false (eval iter X.env) (some (assign (.Name y py) X.env))) _ _ s
  have h : tDc wi g tt tk tv (own.map (·.2)) σ H (fun x H1 => gName i x σ H1 D.nx) := h
  refine wpAny_bind (thn (dc_core (Qf := fun _ s' => SP X pins D .next s') hc hN I hi ok hg ht hk he hs h fun L C s' m H' I' q hn f => ?_) fun _ s' hq => wpAny_pure (wpAny_pure hq))
  show wpAny _ _ (assign (.Name y py) X.env (.ref L)) _ _ _
  refine wpAny_assign_Name (store_ok2 (v := V.ref L) I' hN hy (.inl hyl) rfl (fun s2 I2 ⟨a, sb, ha⟩ => ?_) (.inr hyl))
  obtain ⟨f0, f1, f2, f3, f4, f5⟩ := f
  have haC : C ≠ a := by
    rcases ha with z | z
    · rw [z]; exact f1
    · exact fun e => f4 y a z e.symm
  refine ⟨m, hn.sameBut sb haC, fun h3 sb3 => ?_⟩
  exact ⟨_, H', I2.turned (t' := s2.toks) (fun b o hb e => (sb3.2 b hb).trans e) f0 f1 f3 f4 f5, q⟩
theorem ds_setDc {i : Nat} (mk : Bool) {y : Str} {py : Pos} {kx vx tg iter : Expr} {ifs : List Expr} {scope : Scope} {own : List (Str × Nat)} {pos spos : Pos} {di : TID} {g : TGD} {tt : TTD} {tk tv : TED} (hN : X.N.Nodup) (hi : DI X tg iter di) (ok : BlkOk X.N X.env.scope scope own)
    (hg : ∀ (s : Shared) (H : Hp) (C : Addr) (cl : List (Str × Addr)) (fp : List Addr), DGo (X.blk s H scope (compEnvC scope cl C X.env) fp) tg (own.map (·.2)) g) (ht : ∀ (s : Shared) (H : Hp) (C : Addr) (cl : List (Str × Addr)) (fp : List Addr), DTs (X.blk s H scope (compEnvC scope cl C X.env) fp) ifs tt)
    (hk : ∀ (s : Shared) (H : Hp) (C : Addr) (cl : List (Str × Addr)) (fp : List Addr), DE (X.blk s H scope (compEnvC scope cl C X.env) fp) kx tk)
    (he : ∀ (s : Shared) (H : Hp) (C : Addr) (cl : List (Str × Addr)) (fp : List Addr), DE (X.blk s H scope (compEnvC scope cl C X.env) fp) vx tv) (hy : X.N[i]? = some y := by rfl) (hyl : X.env.scope.names.lookup y = some .local := by rfl)
    (hsw : swapsWith (.DictComp kx vx [⟨tg, iter, ifs, 0⟩] scope pos) (some (.Name y py)) spos.line X.env = pure true := by exact swd_true rfl rfl rfl (by decide +kernel)) (hc : X.calm = true := by rfl) (hs : ∀ x, foldedSetIterable iter X.env x = pure x := by intro _; rfl) :
    DS X (.Assign [.Name y py] (.DictComp kx vx [⟨tg, iter, ifs, 0⟩] scope pos) spos) (dAsg (dDc mk (own.map (·.2)) di g tt tk tv) (dgN i)) := ps_w (ps_setDc hc hN hy hyl hsw hi ok hg ht hk he hs) fun D σ H ⟨Z, F, M, ρ, DD, R, h, o⟩ => by
  refine up_dc (Q := fun x H1 => gName i x σ H1 D.nx) ⟨Z, F, M, ρ, _, R, h, fun v d F1 H1 M1 e1 R1 r1 h1 => ?_⟩
  refine o.nx _ _ _ _ _ e1 ⟨R1, ?_⟩ h1
  rw [setD_set]
  exact (R.e.mono e1).set r1 i
end
def dDicM : TED := fun _ M Q => ∀ a, M a = none → Q (.ref a) (updM M a (.dic []))
theorem de_dicM {X : Cx} {pos : Pos} : DE X (.Dict [] [] pos) dDicM := pe_w pe_dnewK fun σ H Q ⟨Z, F, M, ρ, QD, R, h, o⟩ => by
  intro p hp
  have R2 := R.m.newM (o := .dK []) (m := .dic []) hp ⟨[], upd_same, .nil⟩
  exact o _ _ F _ _ (Ext.refl F) R2 (.ref p) (h p (R.m.fresh hp).2)
theorem dc_by {g : TGD} {tt : TTD} {tk tv : TED} {ρ : EnvD} {mk : Bool} {Q : VKD} (I : List Dat → List (Key × Dat) → MH → Prop) (hend : ∀ acc M, I [] acc M → newD mk acc M Q)
    (step : ∀ x r acc M (k : List (Key × Dat) → MH → Prop), I (x :: r) acc M → (∀ acc M, I r acc M → k acc M) → g x ρ M fun ρ2 M2 => tt ρ2 M2 fun b M3 => if b = true then tk ρ2 M3 fun y M4 => tv ρ2 M4 fun z M5 => ∃ kk, keyD y = some kk ∧ k (putKD acc kk z) M5 else k acc M3) : ∀ ds acc M, I ds acc M → dcGo g tt tk tv ρ mk Q ds acc M
  | [], acc, M, h => hend acc M h
  | x :: r, acc, M, h => step x r acc M (fun acc M => dcGo g tt tk tv ρ mk Q r acc M) h fun acc M h => dc_by I hend step r acc M h
theorem dc_n {g : TGD} {tt : TTD} {tk tv : TED} {ρ : EnvD} {mk : Bool} {Q : VKD} {lo : Int} {n : Nat} {M : MH} (I : Nat → List (Key × Dat) → MH → Prop) (h0 : I 0 [] M) (hend : ∀ acc M, I n acc M → newD mk acc M Q)
    (step : ∀ i acc M (k : List (Key × Dat) → MH → Prop), i < n → I i acc M → (∀ acc M, I (i + 1) acc M → k acc M) → g (.int (lo + (i : Nat))) ρ M fun ρ2 M2 => tt ρ2 M2 fun b M3 => if b = true then tk ρ2 M3 fun y M4 => tv ρ2 M4 fun z M5 => ∃ kk, keyD y = some kk ∧ k (putKD acc kk z) M5 else k acc M3) : dcGo g tt tk tv ρ mk Q (rngD lo n) [] M := by
  refine dc_by (fun r acc M => ∃ i, r = (rngD lo n).drop i ∧ i ≤ n ∧ I i acc M) ?_ ?_ _ _ _ ⟨0, rfl, Nat.zero_le _, h0⟩
  · rintro acc M ⟨i, hr, hi, h⟩
    have : i = n := by
      have := congrArg List.length hr
      rw [List.length_drop] at this
      unfold rngD at this
      rw [List.length_map, List.length_range, List.length_nil] at this
      omega
    subst this
    exact hend acc M h
  · rintro d r acc M k ⟨i, hr, hi, h⟩ hk
    have hl : (rngD lo n).length = n := by unfold rngD; rw [List.length_map, List.length_range]
    have hlt : i < n := by
      rcases Nat.lt_or_ge i n with h | h
      · exact h
      · rw [List.drop_eq_nil_of_le (by omega)] at hr
        cases hr
    have hd : (rngD lo n).drop i = .int (lo + (i : Nat)) :: (rngD lo n).drop (i + 1) := by
      rw [List.drop_eq_getElem_cons (by omega)]
      congr 1
      unfold rngD
      rw [List.getElem_map, List.getElem_range]
    rw [hd] at hr
    injection hr with h1 h2
    subst h1
    exact step i acc M k hlt h fun acc M q => hk acc M ⟨i + 1, h2, by omega, q⟩
theorem putKD_new {ds : List (Key × Dat)} {k : Key} {v : Dat} (h : ∀ e ∈ ds, e.1 ≠ k) : putKD ds k v = ds ++ [(k, v)] := by
  unfold putKD
  rw [if_neg]
  rw [List.any_eq_true]
  rintro ⟨e, he, h2⟩
  exact h e he (of_decide_eq_true h2)
/-- a dict of ints by ints, as pairs -/
def putP (ps : List (Int × Int)) (k v : Int) : List (Int × Int) := if (ps.any fun q => decide (q.1 = k)) = true then ps.map (fun q => if q.1 = k then (q.1, v) else q) else ps ++ [(k, v)]
def getP (ps : List (Int × Int)) (k : Int) : Int := match ps.find? (fun q => decide (q.1 = k)) with
  | some q => q.2
  | none => 0
theorem putKD_ents (ps : List (Int × Int)) (k v : Int) : putKD (ps.map entD) (.inl k) (.int v) = (putP ps k v).map entD := by
  have e : ∀ q : Int × Int, decide ((entD q).1 = Sum.inl k) = decide (q.1 = k) := fun q => by
    by_cases h : q.1 = k
    · rw [decide_eq_true h, decide_eq_true (by show Sum.inl q.1 = Sum.inl k; rw [h])]
    · rw [decide_eq_false h, decide_eq_false (fun h2 => h (Sum.inl.inj h2))]
  unfold putKD putP
  rw [List.any_map, show ((fun kv : Key × Dat => decide (kv.1 = Sum.inl k)) ∘ entD) = fun q => decide (q.1 = k) from funext e]
  split
  · rw [List.map_map, List.map_map]
    refine List.map_congr_left fun q _ => ?_
    show (if (entD q).1 = Sum.inl k then ((entD q).1, Dat.int v) else entD q) = entD (if q.1 = k then (q.1, v) else q)
    by_cases h : q.1 = k
    · rw [if_pos h, if_pos (by show Sum.inl q.1 = Sum.inl k; rw [h])]
    · rw [if_neg h, if_neg (fun h2 => h (Sum.inl.inj h2))]
  · rw [List.map_append]
    rfl
theorem getKD_ents (ps : List (Int × Int)) (k : Int) : (valD (ps.map entD) (.inl k)).getD (.int 0) = .int (getP ps k) := by
  unfold valD getP
  rw [List.find?_map]
  rw [show ((fun kv : Key × Dat => decide (kv.1 = Sum.inl k)) ∘ entD) = fun q => decide (q.1 = k) from funext fun q => by
    by_cases h : q.1 = k
    · show decide (Sum.inl q.1 = (Sum.inl k : Key)) = _
      rw [decide_eq_true h, h, decide_eq_true rfl]
    · show decide (Sum.inl q.1 = (Sum.inl k : Key)) = _
      rw [decide_eq_false h, decide_eq_false (fun h2 => h (Sum.inl.inj h2))]]
  cases ps.find? fun q => decide (q.1 = k) <;> rfl
end DL
namespace DL
open PySem PySem.Spec PyProof.Rows L2 L2.DX
/-! ### len(set(xs)), distinct ints -/
section
variable {X : Cx}
def tLenSetB (K : PySem.W.Frag) (ta : TE) : TE := fun σ H Q => ta σ H fun x H1 => ∃ (l : Addr) (ns : List Int), x = V.ref l ∧ SqL K H1 l (ns.map V.int) ∧ ns.length < 4000 ∧ ns.Nodup ∧ Q (.int ns.length) H1
theorem pe_lenSetB {a : Expr} {ta : TE} {p p2 q pos : Pos} (hc : X.calm = true) (hg : Gl X "len") (hm : X.mg "len" = none) (hg2 : Gl X "set") (hm2 : X.mg "set" = none) (ha : PE X a ta)
    (na : starEach [a] X.env = (false, eval a X.env) :: starEach [] X.env := by rfl) : PE X (.Call (.Name "len" p) [.Call (.Name "set" p2) [a] [] q] [] pos) (tLenSetB X.K ta) := by
  refine ⟨fun pins s σ H Q I h => ?_⟩
  refine Call_ (ld_blt I hg hm PySem.boot_len ?_)
  refine PyProof.Rows.callWith_builtin1 (PyProof.Rows.args_cons ?_ rfl) rfl rfl
  refine Call_ (ld_blt I hg2 hm2 PyProof.Rows.boot_set ?_)
  refine PyProof.Rows.callWith_type1 (PyProof.Rows.args_cons (thn (ha.run pins s σ H _ I h) fun v s1 ⟨x, H1, I1, r1, q1⟩ => PyProof.Rows.args_nil ?_) na) na rfl
  obtain ⟨l, ns, rfl, hq, h1, hnd, q1⟩ := q1
  cases r1
  obtain ⟨its, r, pl, hz⟩ := I1.list hq
  have hl : its.toArray.size = ns.length := by rw [List.size_toArray, ← r.length, List.length_map]
  refine call_set_list (I1.ok.hd hc) pl.isList (ns := ns) (by simpa using r.ints) (by unfold scanBound; omega) fun h' tk hS hk => ?_
  rw [hl, firstMet_nodup ns hnd ns.length (Nat.le_refl _), List.take_length] at hS
  refine PyProof.Rows.args_nil ?_
  obtain ⟨o, es, ep, t, ho, hex, hd, _, _, _, hf, hn⟩ := hS
  have I2 : Inv X pins σ H1 { s1 with heap := h', toks := tk } := I1.kept fun b o e => hk b o (Heap.lt_size e) e
  refine call_len_set ho hex hd hf (by rw [hn] <;> omega) ⟨.int ns.length, H1, I2.tok _, ⟨_, by rw [hn]⟩, q1⟩
def dLenSet (da : TED) : TED := fun ρ M Q => da ρ M fun x M1 => ∃ ns : List Int, lsR M1 x = some (ns.map Dat.int) ∧ ns.length < 4000 ∧ ns.Nodup ∧ Q (.int (ns.length : Nat)) M1
theorem de_lenSet {a : Expr} {da : TED} {p p2 q pos : Pos} (hc : X.calm = true) (ha : DE X a da) (hg : Gl X "len") (hm : X.mg "len" = none) (hg2 : Gl X "set") (hm2 : X.mg "set" = none)
    (na : starEach [a] X.env = (false, eval a X.env) :: starEach [] X.env := by rfl) : DE X (.Call (.Name "len" p) [.Call (.Name "set" p2) [a] [] q] [] pos) (dLenSet da) :=
  pe_w (pe_lenSetB hc hg hm hg2 hm2 ha na) fun σ H Q ⟨Z, F, M, ρ, QD, R, h, o⟩ => by
    refine ⟨Z, F, M, ρ, _, R, h, fun x a F1 H1 M1 e1 R1 r1 h1 => ?_⟩
    obtain ⟨ns, q1, q2, q3, q4⟩ := h1
    obtain ⟨p, xs, rfl, q, rr⟩ := lsR_rep R1 r1 q1
    have e := rr.ints
    subst e
    exact ⟨p, ns, rfl, q, q2, q3, o _ _ F1 H1 M1 e1 R1 (.int _) q4⟩
end
end DL
namespace DL
open PySem PySem.Spec PyProof.Rows L2 LamX NdefX
/-! ### lambdas -/
/-- the words of a lambda -/
structure LamC where
  params : Arguments
  body : Expr
  scope : Scope
/-- .. and what its making gave: its name, its cells, its code object -/
structure LF where
  L : LamC
  qual : Str
  cl : List (Str × Addr)
  c : Addr
abbrev LF.nf (F : LF) : NF := ⟨"<lambda>", F.qual, F.L.params, [], F.L.scope, F.cl, F.c⟩
abbrev LF.fd (F : LF) (pm ctv : Value) : FuncData := PySem.W.kla_fn "<lambda>" F.qual F.L.params F.L.body F.L.scope F.cl pm (.ref F.c) ctv
/-- the object at f is the lambda F -/
def LamO (f : Addr) (F : LF) : HO := .ext fun h => ∃ (od : Option Addr) (sl : Array (Option Value)) (pm ctv : Value), h.get? f = some (⟨.type "function", od, .func (F.fd pm ctv), sl⟩ : Obj)
theorem lamO_at {P : Program} {w : World} {H : Hp} {h : Heap} {f : Addr} {F : LF} (hok : HOk P w H h) (e : H f = some (LamO f F)) : ∃ (od : Option Addr) (sl : Array (Option Value)) (pm ctv : Value), h.get? f = some (⟨.type "function", od, .func (F.fd pm ctv), sl⟩ : Obj) := by
  obtain ⟨z, _, _⟩ := hok f _ e
  exact z
/-- what a lambda promises: fr its captured names, ws what their cells hold at the call -/
structure LOk (P : Program) (w : World) (K : PySem.W.Frag) (mg : Str → Option Value) (base : Heap) (CX : CXT) (k : Nat) (F : LF) (ps fr : List Str) (sp : List (Option V) → Sp) : Prop where
  run : ∀ (A : Around) (outer : List Env) (s : Shared) (H : Hp) (f : Addr) (us : List Value) (vs : List V) (ws : List (Option V)) (Q : VK) (E : XK), Room k A → Env0 P w K mg base A outer s H → H f = some (LamO f F) → H F.c = some (CodeO F.c F.qual) →
    CellsAt F.cl fr ws s.heap H → Vals vs us → sp ws vs H Q E → codeAny (model P w) A (.call (.ref f) ⟨us, []⟩) (CR CX outer P w H s Q E) s
section
variable {CX : CXT} {P : Program} {w : World} {K : PySem.W.Frag} {mg : Str → Option Value} {base : Heap} {N ps fr : List Str} {F : LF} {k : Nat} {sp : List (Option V) → Sp}
theorem lok_of (S : NScope N ps fr F.L.scope) (hb : ∀ (pm ctv : Value) (us : List Value), us.length = ps.length → bindArgs (F.fd pm ctv) ⟨us, []⟩ = pure (ps.zip us)) (len : ∀ ws vs H Q E, ws.length = fr.length → sp ws vs H Q E → vs.length = ps.length)
    (hbody : ∀ (f : Addr) (A : Around) (outer : List Env) (s : Shared) (H : Hp) (vs : List V) (ws : List (Option V)) (Q : VK) (E : XK), Room k (A.deeper (envF F.nf f s.heap.objs.size)) → ws.length = fr.length → sp ws vs H Q E →
      ∃ t, PE (ncx CX P w K mg base N F.nf f A outer s H E) F.L.body t ∧ t (startF N vs ws) H Q) :
    LOk P w K mg base CX (k + 1) F ps fr sp := by
  refine ⟨fun A outer s H f us vs ws Q E hr e0 hf hc C r hsp => ?_⟩
  have hl := len _ _ _ _ _ C.len hsp
  have lim : s.heap.NoLimit := e0.mod.nolimit.keeps fun b o e => (e0.bs b o e).1
  obtain ⟨od, sl, pm, ctv, ho⟩ := lamO_at e0.hok hf
  refine PySem.W.kla_callFunE hr.depth ho rfl S.co S.gen rfl (codeO_at e0.hok hc) ?_
  rw [hb pm ctv us (by rw [← r.length]; exact hl)]
  refine wpAny_pure (wpAny_newFunctionEnv S.nocell (fun ⟨n, _⟩ hy => S.par n (List.of_mem_zip hy).1) (fun h₁ hns hsb => ⟨lim.fresh _ hsb, ?_⟩) S.kind)
  show codeAny _ _ (.expr F.L.body (envF F.nf f s.heap.objs.size)) _ _
  have kp : ∀ b o, s.heap.get? b = some o → h₁.get? b = some o := fun b o e => hsb.extBut b o (Nat.ne_of_lt (Heap.lt_size e)) (Heap.get?_push_of_some _ e)
  obtain ⟨t, ht, hq⟩ := hbody f A outer s H vs ws Q E (hr.deeper _) C.len hsp
  have I : Inv (ncx CX P w K mg base N F.nf f A outer s H E) [] (startF N vs ws) H { s with heap := h₁, toks := s.toks + (ps.zip us).length } := inv_startN S hr.hd e0 hl r C hns kp
  refine PySem.W.kla_codeExpr (wpAny_mono (ht.run [] _ (startF N vs ws) H Q I hq) (fun v s' hs => ?_) fun e s' hs => hs)
  obtain ⟨v', H', J, rv, q⟩ := hs
  exact ⟨v', H', J.os, J.bare, J.base, J.hok, rv, q⟩
end
/-! ### .. over data -/
def toSpL (K : PySem.W.Frag) (sp : SpD) : List (Option V) → Sp := fun ws vs H Q _ => ∃ Z F M ds cs QD ws', RelM K Z F H M ∧ Reps K F vs ds ∧ ws = ws'.map some ∧ Reps K F ws' cs ∧ sp (ds ++ cs) M QD ∧ OkV K Z F Q QD
/-- the lambda with these words keeps a promise of its arguments and captured values, wherever it is made -/
structure LamD (P : Program) (w : World) (K : PySem.W.Frag) (mg : Str → Option Value) (base : Heap) (k : Nat) (L : LamC) (ps fr : List Str) (sp : SpD) : Prop where
  ok : ∀ (qual : Str) (cl : List (Str × Addr)) (c : Addr), LOk P w K mg base CX0 k ⟨L, qual, cl, c⟩ ps fr (toSpL K sp)
section
variable {P : Program} {w : World} {K : PySem.W.Frag} {mg : Str → Option Value} {base : Heap} {N ps fr : List Str} {k : Nat} {L : LamC}
theorem lam_mk {sp : SpD} (S : NScope N ps fr L.scope) (n : Nat) (hn : N.length = n) (hb : ∀ (qual : Str) (cl : List (Str × Addr)) (c : Addr) (pm ctv : Value) (us : List Value), us.length = ps.length → bindArgs ((⟨L, qual, cl, c⟩ : LF).fd pm ctv) ⟨us, []⟩ = pure (ps.zip us)) (len : ∀ ds M Q, sp ds M Q → ds.length = ps.length + fr.length)
    (body : ∀ (qual : Str) (cl : List (Str × Addr)) (c f : Addr) (A : Around) (outer : List Env) (s : Shared) (H : Hp) (E : XK), Room k (A.deeper (envF (⟨L, qual, cl, c⟩ : LF).nf f s.heap.objs.size)) →
      ∃ d, DE (ncx CX0 P w K mg base N (⟨L, qual, cl, c⟩ : LF).nf f A outer s H E) L.body d ∧ ∀ ds M Q, sp ds M Q → d (startD n ds) M (endD Q)) : LamD P w K mg base (k + 1) L ps fr sp := by
  have hnl : ps.length + fr.length ≤ n := by
    have := congrArg List.length S.pre
    rw [List.length_take, List.length_append] at this
    omega
  refine ⟨fun qual cl c => lok_of S (hb qual cl c) (fun ws vs H Q E hw h => ?_) fun f A outer s H vs ws Q E hr hw h => ?_⟩
  · obtain ⟨Z, F, M, ds, cs, QD, ws', R, r1, rfl, r2, h, o⟩ := h
    have h1 := len _ _ _ h
    rw [List.length_append] at h1
    rw [List.length_map] at hw
    have h2 := r2.length
    rw [r1.length]
    omega
  · obtain ⟨d, hd, hb2⟩ := body qual cl c f A outer s H E hr
    obtain ⟨Z, F, M, ds, cs, QD, ws', R, r1, rfl, r2, h, o⟩ := h
    refine ⟨_, hd, Z, F, M, startD n (ds ++ cs), endD QD, ⟨R, ?_⟩, hb2 _ M QD h, ?_⟩
    · have h1 := len _ _ _ h
      have h2 := startD_rep (K := K) (F := F) n (r1.app r2) (by rw [h1]; exact hnl)
      unfold startF
      rw [List.map_append, List.append_assoc, List.length_append] at h2
      rw [hn, List.length_map, Nat.sub_sub]
      exact h2
    · intro v d F' H' M' e R' rr q
      obtain ⟨M0, l, q⟩ := q
      exact o _ _ F' H' M0 e (R'.le l) rr q
/-! ### a def that is handed a closure -/
/-- what is known of the closure at fc while the frames outer wait: φ tells it in M, C is its promise -/
structure Clo (P : Program) (w : World) (K : PySem.W.Frag) (mg : Str → Option Value) (base : Heap) (kc : Nat) (outer : List Env) (s : Shared) (H : Hp) (fc : Addr) (φ : OthR) (C : SpD) : Prop where
  isL : ∀ F o, φ.rel F o → ∃ LF, o = LamO fc LF
  run : ∀ (A' : Around) (outer' : List Env) (s1 : Shared) (HZ : Hp) (us : List Value) (vs : List V) (Q : VK) (E : XK), Room kc A' → Env0 P w K mg base A' outer' s1 HZ → Un (frs outer) [] H HZ s.heap s1.heap → Vals vs us →
    toSp K (fun ds M QD => M fc = some (.oth φ) ∧ C ds M QD) vs HZ Q E → codeAny (model P w) A' (.call (.ref fc) ⟨us, []⟩) (CR CX0 outer' P w HZ s1 Q E) s1
abbrev GSp := Addr → OthR → SpD → SpD
structure GnD (P : Program) (w : World) (K : PySem.W.Frag) (mg : Str → Option Value) (base : Heap) (k kc : Nat) (x : Str) (st : Stmt) (ps : List Str) (G : GSp) : Prop where
  ex : ∃ f fd, Fun K x x st f fd ∧ mg x = some (.ref f) ∧ Binds K fd ps [] ∧ (∀ fc φ C ds M Q, G fc φ C ds M Q → ds.length = ps.length) ∧
    ∀ (A : Around) (outer : List Env) (s : Shared) (H : Hp) (fc : Addr) (φ : OthR) (C : SpD) (args : Args) (us : List Value) (vs : List V) (Q : VK) (E : XK), Clo P w K mg base kc outer s H fc φ C → Room k A → Env0 P w K mg base A outer s H →
      BindsTo s fd args (ps.zip us) → Vals vs us → toSp K (G fc φ C) vs H Q E → codeAny (model P w) A (.call (.ref f) args) (CR CX0 outer P w H s Q E) s
theorem gn_mk {kc : Nat} {x : Str} {st : Stmt} {N ps : List Str} {k : Nat} {G : GSp} (h : HasFn K mg x x st ps) (S : FnScope N ps (defScope st)) (n : Nat) (hn : N.length = n) (len : ∀ fc φ C ds M Q, G fc φ C ds M Q → ds.length = ps.length)
    (body : ∀ (f : Addr) (cdv : Value) (A : Around) (outer : List Env) (s : Shared) (H : Hp) (E : XK), Room k (A.deeper (envOfC x (defScope st) s.heap.objs.size f cdv)) → ∀ (fc : Addr) (φ : OthR) (C : SpD), Clo P w K mg base kc outer s H fc φ C →
      ∃ d, DSs (cxOf CX0 P w K mg base N x (defScope st) f cdv A outer s H E).nox (defBody st) d ∧ ∀ ds M Q, G fc φ C ds M Q → d { nx := fun _ M' => endD Q .non M', rt := endD Q } (startD n ds) M) : GnD P w K mg base (k + 1) kc x st ps G := by
  obtain ⟨f, fd, F, hm, hb⟩ := h.ex
  refine ⟨f, fd, F, hm, hb, len, fun A outer s H fc φ C args us vs Q E hC hr e0 hbd r h => ?_⟩
  obtain ⟨oc, od, kV, doc, pm, an, cdv, ct, osl, rfl, lk, hcd⟩ := F.ex
  obtain ⟨Z, F1, M, ds, QD, R, rr, h, o⟩ := h
  have hl := len _ _ _ _ _ _ h
  refine run_ofS (N := N) (ps := ps) (us := us) (vs := vs) lk hcd S hr e0 hbd r (by rw [rr.length]; exact hl) fun hr' => ?_
  obtain ⟨d, hd, hb⟩ := body f cdv A outer s H E hr' fc φ C hC
  refine ⟨_, hd.nox, Z, F1, M, startD n ds, { nx := fun _ M' => endD QD .non M', rt := endD QD }, ⟨R, ?_⟩, hb ds M QD h, ⟨?_, ?_, ?_, ?_⟩⟩
  · have hp : ps.length ≤ N.length := by
      have := congrArg List.length S.pre
      rw [List.length_take] at this
      omega
    unfold L2.start
    rw [← hn]
    exact startD_rep N.length rr (by omega)
  · intro σ' ρ' F' H' M' e R' q
    obtain ⟨M0, l, q⟩ := q
    exact o _ _ F' H' M0 e (R'.m.le l) .non q
  · intro v d F' H' M' e R' rr q
    obtain ⟨M0, l, q⟩ := q
    exact o _ _ F' H' M0 e (R'.le l) rr q
  · intro σ' ρ' F' H' M' e R' q
    exact q.elim
  · intro σ' ρ' F' H' M' e R' q
    exact q.elim
end
/-! ### the closure called -/
def dCallC (i : Nat) (fc : Addr) (φ : OthR) (C : SpD) (dA : TAD) : TED := fun ρ M Q => (∃ d, atD ρ i = some d ∧ d = .ref fc) ∧ M fc = some (.oth φ) ∧ dA ρ M fun ds M1 => M1 fc = some (.oth φ) ∧ C ds M1 Q
section
variable {X : Cx} {kc k2 i : Nat} {fc : Addr} {φ : OthR} {C : SpD} {x : Str} {p pos : Pos} {e : Expr} {es : List Expr} {dA : TAD}
theorem clo_fnAt {P : Program} {w : World} {K : PySem.W.Frag} {Z F H : Hp} {M : MH} {h : Heap} (hL : ∀ F o, φ.rel F o → ∃ LF, o = LamO fc LF) (R : RelM K Z F H M) (hok : HOk P w H h) (hM : M fc = some (.oth φ)) : PySem.W.FnAt fc h := by
  obtain ⟨o, h1, h2⟩ := (R.chg fc _ hM).2
  obtain ⟨LF, rfl⟩ := hL F o h2
  obtain ⟨od, sl, pm, ctv, ho⟩ := lamO_at hok h1
  exact ⟨_, od, _, sl, ho⟩
theorem run_clo {pins : List (Addr × Obj)} {σ : L2.St} {H : Hp} {s : Shared} {Q : VK} {us : List Value} {vs : List V} (hC : Clo X.prog X.w X.K X.mg X.base kc X.outer X.s_0 X.H_0 fc φ C) (hr : Room kc X.A) (hex : X.ex = []) (I : Inv X pins σ H s) (r : Vals vs us)
    (q : toSp X.K (fun ds M QD => M fc = some (.oth φ) ∧ C ds M QD) vs H Q E0) : wpAny (model X.prog X.w) X.A (call (.ref fc) us) (EP X pins σ Q) X.xe s := by
  have un : Un (frs X.outer) [] X.H_0 H X.s_0.heap s.heap := by
    have := I.base
    rw [hex] at this
    exact this
  refine wpAny_call (codeAny_mono (hC.run X.A X.stack s H us vs Q E0 hr I.env0 un r q) fun r s' hq => ?_)
  cases r with
  | error e => exact (show False from hq).elim
  | ok fl =>
    cases fl with
    | ret u => exact I.after hq
    | next => exact False.elim hq
    | brk => exact False.elim hq
    | cont => exact False.elim hq
theorem de_callC (hC : Clo X.prog X.w X.K X.mg X.base kc X.outer X.s_0 X.H_0 fc φ C) (hr : Room k2 X.A) (ha : DA X (e :: es) dA) (hk : kc ≤ k2 := by decide) (hN : X.N[i]? = some x := by rfl) (hv : Vis X.env.scope x := by first | exact Or.inl rfl | exact Or.inr (Or.inl rfl) | exact Or.inr (Or.inr rfl)) (hex : X.ex = [] := by rfl)
    (hdb : (x == ("__debug__" : Str)) = false := by decide) (hcd : (x == ("__classdict__" : Str)) = false := by decide)
    (he : starEach (e :: es) X.env = (false, eval e X.env) :: starEach es X.env := by rfl) (hpl : (backTo pos (starEach es X.env)).any (·.1) = false := by rfl) : DE X (.Call (.Name x p) (e :: es) [] pos) (dCallC i fc φ C dA) := by
  refine ⟨fun pins s σ H Q I h => ?_⟩
  obtain ⟨Z, F, M, ρ, QD, R, ⟨⟨d, h1, rfl⟩, hM, h⟩, o⟩ := h
  obtain ⟨v, q, r⟩ := R.e.at_ i _ (atD_get h1)
  cases r
  refine wpAny_Call_Name_kw (thn ((pe_var (pos := p) hN hv hdb hcd).run pins s σ H (fun v H1 => v = .ref fc ∧ H1 = H) I ⟨.ref fc, q, rfl, rfl⟩) fun u s1 ⟨v, H1, I1, r1, q1⟩ => ?_)
  obtain ⟨rfl, rfl⟩ := q1
  cases r1
  refine PySem.W.callWith_F (first := []) (clo_fnAt hC.isL R.m I1.hok hM) (thn (ha.run pos pins s1 σ _ (fun vs H2 => ∃ Z F M ds QD, RelM X.K Z F H2 M ∧ Reps X.K F vs ds ∧ (M fc = some (.oth φ) ∧ C ds M QD) ∧ OkV X.K Z F Q QD) I1 ⟨Z, F, M, ρ, _, R, h, fun vs ds F' H' M' e R' rr hh => ⟨Z, F', M', ds, QD, R', rr, hh, o.mono e⟩⟩) fun us s2 ⟨vs, H2, I2, r, q⟩ => ?_) he hpl
  obtain ⟨Z2, F2, M2, ds2, QD2, R2, rr2, hh2, o2⟩ := q
  exact ⟨clo_fnAt hC.isL R2 I2.hok hh2.1, run_clo hC (hr.mono hk) hex I2 r ⟨Z2, F2, M2, ds2, QD2, R2, rr2, hh2, o2⟩⟩
theorem de_callC0 (hC : Clo X.prog X.w X.K X.mg X.base kc X.outer X.s_0 X.H_0 fc φ C) (hr : Room k2 X.A) (hk : kc ≤ k2 := by decide) (hN : X.N[i]? = some x := by rfl) (hv : Vis X.env.scope x := by first | exact Or.inl rfl | exact Or.inr (Or.inl rfl) | exact Or.inr (Or.inr rfl)) (hex : X.ex = [] := by rfl)
    (hdb : (x == ("__debug__" : Str)) = false := by decide) (hcd : (x == ("__classdict__" : Str)) = false := by decide) : DE X (.Call (.Name x p) [] [] pos) (dCallC i fc φ C dNil) := by
  refine ⟨fun pins s σ H Q I h => ?_⟩
  obtain ⟨Z, F, M, ρ, QD, R, ⟨⟨d, h1, rfl⟩, hM, h⟩, o⟩ := h
  obtain ⟨v, q, r⟩ := R.e.at_ i _ (atD_get h1)
  cases r
  refine wpAny_Call_Name_kw (thn ((pe_var (pos := p) hN hv hdb hcd).run pins s σ H (fun v H1 => v = .ref fc ∧ H1 = H) I ⟨.ref fc, q, rfl, rfl⟩) fun u s1 ⟨v, H1, I1, r1, q1⟩ => ?_)
  obtain ⟨rfl, rfl⟩ := q1
  cases r1
  exact PySem.W.callWith_F0 (first := []) (clo_fnAt hC.isL R.m I1.hok hM) (run_clo hC (hr.mono hk) hex I1 .nil ⟨Z, F, M, [], QD, R.m, .nil, h, o⟩)
end
end DL
namespace DL
open PySem PySem.Spec PyProof.Rows L2 LamX NdefX
/-! ### a lambda made, and handed on -/
/-- the table of the code objects of a def's lambdas, all of the name q -/
def tblR (q : Str) : OthR := ⟨fun F o => ∃ ps : Array Value, o = .tbl ps ∧ TriplesOk ps.toList ∧ ∀ (pos : Pos) (cv : Value), codeAmong pos ps.toList = some cv → ∃ c, cv = .ref c ∧ F c = some (CodeO c q),
  fun F F' o e ⟨ps, h1, h2, h3⟩ => ⟨ps, h1, h2, fun pos cv h => by
    obtain ⟨c, h4, h5⟩ := h3 pos cv h
    exact ⟨c, h4, e _ _ h5⟩⟩⟩
/-- the lambda F at fc, with what it captured -/
def cloR (K : PySem.W.Frag) (F : LF) (fc : Addr) (ws : List V) (cs : List Dat) : OthR := ⟨fun Fz o => o = LamO fc F ∧ Fz F.c = some (CodeO F.c F.qual) ∧ Reps K Fz ws cs, fun Fz F' o e ⟨h1, h2, h3⟩ => ⟨h1, e _ _ h2, h3.mono e⟩⟩
theorem tblR_nil (F : Hp) (q : Str) : (tblR q).rel F (.tbl #[]) := ⟨#[], rfl, True.intro, fun pos cv hc => by
  have z : codeAmong pos [] = some cv := hc
  simp [codeAmong] at z⟩
section
variable {X : Cx} {pins : List (Addr × Obj)} {σ : L2.St} {H : Hp} {s : Shared}
/-- a lambda's object just made is known from now on -/
theorem inv_lam {F : LF} {o : Obj} {t' : Nat} {pm ctv : Value} (I : Inv X pins σ H s) (ho : o = { cls := .type "function", data := .func (F.fd pm ctv) }) :
    Inv X pins σ (upd H s.heap.objs.size (LamO s.heap.objs.size F)) { s with heap := s.heap.push o, toks := t' } := by
  subst ho
  refine I.laid (a := s.heap.objs.size) (fun b u e => Heap.get?_push_of_some _ e) (Nat.le_refl _) ?_
  have e : (s.heap.push ({ cls := .type "function", data := .func (F.fd pm ctv) } : Obj)).get? s.heap.objs.size = some ({ cls := .type "function", data := .func (F.fd pm ctv) } : Obj) := Heap.get?_push_size _ rfl
  exact ⟨⟨_, _, pm, ctv, e⟩, ⟨_, e⟩, fun h1 h2 ⟨od, sl, p, t, z⟩ st => ⟨od, sl, p, t, st _ z⟩⟩
/-- the lambda's object is made: its code object is new, or found in the table -/
theorem lam_make3 {c P : Addr} {L : LamC} {pos : Pos} {E : Value → Shared → Prop} {Q : Value → Shared → Prop} {ps : Array Value} (I : Inv X pins σ H s) (TB : TabB X.base X.mg c P) (hcode : X.env.code = .ref c)
    (hP : H P = some (.tbl ps)) (ht : TriplesOk ps.toList) (hdef : defaultsOf L.params X.env = ([], [])) (hfree : ∀ y ∈ L.scope.names, y.2 = .free → ∃ c, X.env.cells.lookup y.1 = some c)
    (hnew : codeAmong pos ps.toList = none → ∀ (f c' : Addr) (s' : Shared), f ≠ c' → H c' = none → H f = none → H P = some (.tbl ps) →
      Inv X pins σ (upd (upd (upd H P (.tbl (ps ++ #[rawInt pos.line, rawInt pos.col, .ref c']))) c' (CodeO c' (X.env.qual ++ "<lambda>"))) f (LamO f ⟨L, X.env.qual ++ "<lambda>", cloFrom X.env.cells L.scope.names [], c'⟩)) s' → Q (.ref f) s')
    (hhit : ∀ cv, codeAmong pos ps.toList = some cv → ∃ c', cv = .ref c' ∧ ∀ (f : Addr) (s' : Shared), H f = none → Inv X pins σ (upd H f (LamO f ⟨L, X.env.qual ++ "<lambda>", cloFrom X.env.cells L.scope.names [], c'⟩)) s' → Q (.ref f) s') :
    wpAny (model X.prog X.w) X.A (eval (.Lambda L.params L.body L.scope pos) X.env) Q E s := by
  refine PySem.W.kla_eval hdef ?_
  have bP : s.heap.BuiltinsAt X.mg P := TB.bm.keeps I.bk
  have hP' : s.heap.get? P = some { cls := .none, data := .fields ps } := I.hok P _ hP
  cases hc : codeAmong pos ps.toList with
  | none =>
    refine PySem.W.kla_makeFunction (mg := X.mg) (c := c) (P := P) (ps := ps) (closure_ok hfree) I.ok.glob (I.mod.glob.keeps I.bk) hcode (TB.code.keeps I.bk) hP' ht hc TB.gP bP fun c' ctv h' tk hx hge hlt hrec htb => ?_
    obtain ⟨c2, oc, vs, t, e2, hoc, hd, hv⟩ := hrec
    cases e2
    have nC : H c' = none := I.hok.fresh hge
    have I1 := inv_table (t' := tk) (more := #[rawInt pos.line, rawInt pos.col, .ref c']) (h' := h') I hP (fun b o hb e => hx b o hb e) htb hge ⟨oc, vs, t, hoc, hd, hv⟩
    have nF := I1.hok.fresh (Nat.le_refl _)
    have I2 := inv_lam (F := ⟨L, X.env.qual ++ "<lambda>", cloFrom X.env.cells L.scope.names [], c'⟩) (t' := tk) (pm := (X.mg "__name__").getD .none) (ctv := ctv) I1 rfl
    exact hnew hc _ _ _ (fun z => absurd (show c' < h'.objs.size from hlt) (by rw [← z]; exact Nat.lt_irrefl _)) nC (upd_none (upd_none nF)) hP I2
  | some cv =>
    obtain ⟨c', e, hh⟩ := hhit cv hc
    subst e
    refine PySem.W.kla_makeFunctionHit (mg := X.mg) (c := c) (P := P) (ps := ps) (closure_ok hfree) I.ok.glob (I.mod.glob.keeps I.bk) hcode (TB.code.keeps I.bk) hP' ht hc bP fun ctv h' tk hx hsz => ?_
    have I1 : Inv X pins σ H { s with heap := h', toks := tk } := I.kept hx
    have nF : H h'.objs.size = none := I1.hok.fresh (Nat.le_refl _)
    have I2 := inv_lam (F := ⟨L, X.env.qual ++ "<lambda>", cloFrom X.env.cells L.scope.names [], c'⟩) (t' := tk) (pm := (X.mg "__name__").getD .none) (ctv := ctv) I1 rfl
    exact hh _ _ nF I2
end
section
variable {K : PySem.W.Frag} {Z F H : Hp} {M : MH}
theorem relM_hit {f : Addr} {L : LF} {ws : List V} {cs : List Dat} (R : RelM K Z F H M) (nf : H f = none) (hc : F L.c = some (CodeO L.c L.qual)) (r : Reps K F ws cs) : RelM K Z F (upd H f (LamO f L)) (updM M f (.oth (cloR K L f ws cs))) :=
  R.newM nf ⟨_, upd_same, rfl, hc, r⟩
theorem relM_new {f c P : Addr} {L : LF} {ws : List V} {cs : List Dat} {ps more : Array Value} (R : RelM K Z F H M) (nf : H f = none) (nc : H L.c = none) (hne : f ≠ L.c) (hP : H P = some (.tbl ps)) (hMP : M P = some (.oth (tblR L.qual)))
    (ht : TriplesOk (ps ++ more).toList) (hin : ∀ (pos : Pos) (cv : Value), codeAmong pos (ps ++ more).toList = some cv → (∃ c, cv = .ref c ∧ F c = some (CodeO c L.qual)) ∨ cv = .ref L.c) (r : Reps K F ws cs) :
    RelM K Z (upd F L.c (CodeO L.c L.qual)) (upd (upd (upd H P (.tbl (ps ++ more))) L.c (CodeO L.c L.qual)) f (LamO f L)) (updM M f (.oth (cloR K L f ws cs))) ∧ Ext F (upd F L.c (CodeO L.c L.qual)) := by
  have e := Ext.new (o := CodeO L.c L.qual) (R.fresh nc).1
  have hPf : P ≠ f := ne_of_none hP nf
  have hPc : P ≠ L.c := ne_of_none hP nc
  have hFP : F P = none := (R.chg P _ hMP).1
  have at_ : ∀ b, b ≠ P → b ≠ L.c → b ≠ f → (upd (upd (upd H P (.tbl (ps ++ more))) L.c (CodeO L.c L.qual)) f (LamO f L)) b = H b := fun b h1 h2 h3 => by
    rw [upd_ne h3, upd_ne h2, upd_ne h1]
  refine ⟨⟨fun b u q => ?_, fun b u q => ?_, fun b m q => ?_⟩, e⟩
  · by_cases hb : b = L.c
    · subst hb
      rw [upd_same] at q
      cases q
      rw [upd_ne (Ne.symm hne), upd_same]
    · rw [upd_ne hb] at q
      have hbH := R.sub b u q
      have hbP : b ≠ P := fun z => by
        rw [z, hFP] at q
        cases q
      rw [at_ b hbP hb (ne_of_none hbH nf)]
      exact hbH
  · obtain ⟨q1, q2, q3⟩ := R.hid b u q
    have hbP : b ≠ P := fun z => by
      rw [z, hMP] at q3
      cases q3
    have hbc := ne_of_none q1 nc
    have hbf := ne_of_none q1 nf
    exact ⟨by rw [at_ b hbP hbc hbf]; exact q1, by rw [upd_ne hbc]; exact q2, by rw [updM_ne hbf]; exact q3⟩
  · by_cases hb : b = f
    · subst hb
      rw [updM_same] at q
      cases q
      refine ⟨?_, _, upd_same, rfl, upd_same, r.mono e⟩
      rw [upd_ne hne]
      exact (R.fresh nf).1
    · rw [updM_ne hb] at q
      obtain ⟨q1, q2⟩ := R.chg b m q
      have hbc : b ≠ L.c := R.ne nc q
      refine ⟨by rw [upd_ne hbc]; exact q1, ?_⟩
      by_cases hbP : b = P
      · subst hbP
        rw [hMP] at q
        cases q
        refine ⟨.tbl (ps ++ more), by rw [upd_ne hb, upd_ne hbc, upd_same], ps ++ more, rfl, ht, fun pos cv hcv => ?_⟩
        rcases hin pos cv hcv with ⟨c0, h1, h2⟩ | h1
        · exact ⟨c0, h1, e _ _ h2⟩
        · exact ⟨L.c, h1, upd_same⟩
      · exact q2.mono e (at_ b hbP hbc hb)
end
/-! ### arguments, one of them a lambda -/
abbrev TADL := EnvD → MH → (List Dat → Addr → OthR → List Dat → MH → Prop) → Prop
/-- the slots of the captured names -/
def atDs (ρ : EnvD) : List Nat → Option (List Dat)
  | [] => some []
  | j :: js => match atD ρ j, atDs ρ js with
    | some d, some ds => some (d :: ds)
    | _, _ => none
theorem atDs_rep {K : PySem.W.Frag} {F : Hp} {σ : L2.St} {ρ : EnvD} (r : RelE K F σ ρ) : ∀ {js : List Nat} {cs : List Dat}, atDs ρ js = some cs → ∃ ws : List V, js.map (slotAt σ) = ws.map some ∧ Reps K F ws cs
  | [], cs, h => by
    cases h
    exact ⟨[], rfl, .nil⟩
  | j :: js, cs, h => by
    unfold atDs at h
    split at h
    · rename_i d ds h1 h2
      cases h
      obtain ⟨ws, e, rr⟩ := atDs_rep r h2
      obtain ⟨v, hv, rv⟩ := r.at_ j d (atD_get h1)
      exact ⟨v :: ws, by rw [List.map_cons, List.map_cons, e, slotAt_of hv], .cons rv rr⟩
    · cases h
structure DAL (X : Cx) (es : List Expr) (L : LamC) (js : List Nat) (d : TADL) : Prop where
  run : ∀ (pos : Pos) (pins : List (Addr × Obj)) (s : Shared) (σ : L2.St) (H : Hp) (Z F : Hp) (M : MH) (ρ : EnvD) (QD : List Dat → Addr → OthR → List Dat → MH → Prop) (Q : List V → LF → Hp → Prop), Inv X pins σ H s → Rel X.K Z F H M σ ρ → d ρ M QD →
    (∀ (vs : List V) (ds : List Dat) (fc : Addr) (G : LF) (ws : List V) (cs : List Dat) (F' H' : Hp) (M' : MH), Ext F F' → RelM X.K Z F' H' M' → Reps X.K F' vs ds → G.L = L → G.cl = cloFrom X.env.cells L.scope.names [] → js.map (slotAt σ) = ws.map some → QD ds fc (cloR X.K G fc ws cs) cs M' → Q vs G H') →
    wpAny (model X.prog X.w) X.A (spliced (backTo pos (starEach es X.env))) (fun us s' => ∃ vs G H', Inv X pins σ H' s' ∧ Vals vs us ∧ Q vs G H') X.xe s
def dConsL (da : TED) (dr : TADL) : TADL := fun ρ M Q => da ρ M fun x M1 => dr ρ M1 fun xs fc φ cs M2 => Q (x :: xs) fc φ cs M2
def dLam (P : Addr) (q : Str) (js : List Nat) (dr : TAD) : TADL := fun ρ M Q => M P = some (.oth (tblR q)) ∧ ∃ cs, atDs ρ js = some cs ∧ ∀ fc φ, M fc = none → dr ρ (updM M fc (.oth φ)) fun xs M2 => Q (.ref fc :: xs) fc φ cs M2
section
variable {X : Cx} {L : LamC} {js : List Nat} {e : Expr} {es : List Expr}
theorem dal_cons {de : TED} {dr : TADL} (ha : DE X e de) (hr : DAL X es L js dr) (hs : starEach (e :: es) X.env = (false, eval e X.env) :: starEach es X.env := by rfl) : DAL X (e :: es) L js (dConsL de dr) := by
  refine ⟨fun pos pins s σ H Z F M ρ QD Q I R h o => ?_⟩
  rw [hs]
  show wpAny _ _ (spliced ((false, eval e X.env) :: backTo pos (starEach es X.env))) _ _ _
  refine Calls.spliced_cons (wpAny_mono (ha.run pins s σ H (fun v H1 => ∃ F1 M1 d, Ext F F1 ∧ Rel X.K Z F1 H1 M1 σ ρ ∧ Rep X.K F1 v d ∧ dr ρ M1 fun xs fc φ cs M2 => QD (d :: xs) fc φ cs M2) I ⟨Z, F, M, ρ, _, R, h, fun v d F' H' M' e' R' r' h' => ⟨F', M', d, e', R.ext e' R', r', h'⟩⟩) (fun u s1 h1 => ?_) fun _ _ h => h)
  obtain ⟨v, H1, I1, r1, F1, M1, d, e1, R1, rd, h1⟩ := h1
  refine wpAny_mono (hr.run pos pins s1 σ H1 Z F1 M1 ρ _ (fun vs G H' => Q (v :: vs) G H') I1 R1 h1 fun vs ds fc G ws cs F' H' M' e' R' rr a1 a2 a3 h' => o (v :: vs) (d :: ds) fc G ws cs F' H' M' (e1.trans e') R' (.cons (rd.mono e') rr) a1 a2 a3 h') (fun us s2 h2 => ?_) fun _ _ h => h
  obtain ⟨vs, G, H', I2, r2, q⟩ := h2
  exact ⟨v :: vs, G, H', I2, .cons r1 r2, q⟩
theorem dal_lam {c P : Addr} {dr : TAD} {pos' : Pos} {params : Arguments} {body : Expr} {scope : Scope} (TB : TabB X.base X.mg c P) (hcode : X.env.code = .ref c) (hr : DA X es dr) (hp : params = L.params) (hbd : body = L.body) (hsc : scope = L.scope) (hdef : defaultsOf L.params X.env = ([], []))
    (hfree : ∀ y ∈ L.scope.names, y.2 = .free → X.env.scope.names.lookup y.1 = some .cell ∨ X.env.scope.names.lookup y.1 = some .free) (hs : starEach (.Lambda params body scope pos' :: es) X.env = (false, eval (.Lambda params body scope pos') X.env) :: starEach es X.env := by rfl) :
    DAL X (.Lambda params body scope pos' :: es) L js (dLam P (X.env.qual ++ "<lambda>") js dr) := by
  subst hp hbd hsc
  refine ⟨fun pos pins s σ H Z F M ρ QD Q I R h o => ?_⟩
  obtain ⟨hMP, cs, hcs, h⟩ := h
  obtain ⟨ws, hws, rws⟩ := atDs_rep R.e hcs
  obtain ⟨oP, hP, ps, rfl, ht, hin⟩ := (R.m.chg P _ hMP).2
  have hfr : ∀ y ∈ L.scope.names, y.2 = .free → ∃ c, X.env.cells.lookup y.1 = some c := fun y hy e => (hfree y hy e).elim (fun z => I.ok.has _ (.inl z)) fun z => I.ok.has _ (.inr z)
  rw [hs]
  show wpAny _ _ (spliced ((false, eval (.Lambda L.params L.body L.scope pos') X.env) :: backTo pos (starEach es X.env))) _ _ _
  have fin : ∀ (G : LF) (f : Addr) (F1 H1 : Hp) (s1 : Shared), Ext F F1 → RelM X.K Z F1 H1 (updM M f (.oth (cloR X.K G f ws cs))) → M f = none → G.L = L → G.cl = cloFrom X.env.cells L.scope.names [] → Inv X pins σ H1 s1 →
      wpAny (model X.prog X.w) X.A (spliced (backTo pos (starEach es X.env))) (fun vs s₂ => ∃ vs_1 G H', Inv X pins σ H' s₂ ∧ Vals vs_1 (.ref f :: vs) ∧ Q vs_1 G H') X.xe s1 := by
    intro G f F1 H1 s1 e1 R1 nf a1 a2 I1
    refine wpAny_mono (hr.run pos pins s1 σ H1 (fun vs H' => Q (.ref f :: vs) G H') I1 ⟨Z, F1, _, ρ, _, R.ext e1 R1, h f _ nf, fun vs ds F' H' M' e' R' rr h' => o (.ref f :: vs) (.ref f :: ds) f G ws cs F' H' M' (e1.trans e') R' (.cons (.ref f) rr) a1 a2 hws h'⟩) (fun us s2 h2 => ?_) fun _ _ h => h
    obtain ⟨vs, H', I2, r2, q⟩ := h2
    exact ⟨.ref f :: vs, G, H', I2, .cons rfl r2, q⟩
  refine Calls.spliced_cons (lam_make3 (c := c) (P := P) (L := L) I TB hcode hP ht hdef hfr (fun hno f c' s' hne nc nf _ I1 => ?_) fun cv hcv => ?_)
  · have eL : (ps ++ #[rawInt pos'.line, rawInt pos'.col, .ref c']).toList = ps.toList ++ [rawInt pos'.line, rawInt pos'.col, .ref c'] := by simp
    obtain ⟨R1, e1⟩ := relM_new (c := c') (L := ⟨L, X.env.qual ++ "<lambda>", cloFrom X.env.cells L.scope.names [], c'⟩) (more := #[rawInt pos'.line, rawInt pos'.col, .ref c']) R.m nf nc hne hP hMP (by rw [eL]; exact PySem.TriplesOk_snoc _ _ _ _ ht) (fun p' cv hcv => by
      rw [eL] at hcv
      rcases among_app _ ht hcv with z | z
      · exact .inl (hin p' cv z)
      · exact .inr z) rws
    exact fin _ f _ _ s' e1 R1 (R.m.fresh nf).2 rfl rfl I1
  · obtain ⟨c', rfl, hc'⟩ := hin pos' cv hcv
    exact ⟨c', rfl, fun f s' nf I1 => fin ⟨L, X.env.qual ++ "<lambda>", cloFrom X.env.cells L.scope.names [], c'⟩ f F _ s' (Ext.refl F) (relM_hit R.m nf hc' rws) (R.m.fresh nf).2 rfl rfl I1⟩
end
/-! ### the call -/
def dCallG (G : GSp) (sp : SpD) (dAL : TADL) : TED := fun ρ M Q => dAL ρ M fun ds fc φ cs M1 => M1 fc = some (.oth φ) ∧ G fc φ (fun es M' Q' => sp (es ++ cs) M' Q') ds M1 Q
section
variable {X : Cx} {L : LamC} {js : List Nat} {pl fr : List Str} {k kc kl k2 : Nat} {x : Str} {st : Stmt} {ps : List Str} {G : GSp} {sp : SpD} {dAL : TADL} {e : Expr} {es : List Expr} {p pos : Pos}
theorem clo_of {pins : List (Addr × Obj)} {σ : L2.St} {H Z F : Hp} {M : MH} {s : Shared} {fc : Addr} {Gf : LF} {ws : List V} {cs : List Dat} (ld : LamD X.prog X.w X.K X.mg X.base kl L pl fr sp) (hk : kl ≤ kc) (I : Inv X pins σ H s) (h1 : Gf.L = L) (h2 : Gf.cl = cloFrom X.env.cells L.scope.names []) (h3 : js.map (slotAt σ) = ws.map some)
    (hcap : X.Ok → Caps X (cloFrom X.env.cells L.scope.names []) fr js) : Clo X.prog X.w X.K X.mg X.base kc X.stack s H fc (cloR X.K Gf fc ws cs) (fun es M' Q' => sp (es ++ cs) M' Q') := by
  obtain ⟨L', qual, cl, c⟩ := Gf
  have h1 : L' = L := h1
  have h2 : cl = cloFrom X.env.cells L.scope.names [] := h2
  subst h1
  subst h2
  refine ⟨fun F o h => ⟨_, h.1⟩, fun A' outer' s1 HZ us vs Q E hr e0 un r h => ?_⟩
  obtain ⟨Z2, F2, M2, ds, QD, R2, rr, ⟨hM, hsp⟩, o⟩ := h
  obtain ⟨ob, hob, hL, hc, rws⟩ := (R2.chg fc _ hM).2
  subst hL
  have C := cells_of I (hcap I.ok)
  have C2 : CellsAt (cloFrom X.env.cells L'.scope.names []) fr (js.map (slotAt σ)) s1.heap HZ := by
    have kp : ∀ y c, (cloFrom X.env.cells L'.scope.names []).lookup y = some c → ∀ v, s.heap.IsCell c v → s1.heap.IsCell c v := fun y c e v ⟨o, ho, hd⟩ => by
      obtain ⟨sl, q⟩ := un.any ho (C.all y c e).1 (by simp)
      exact ⟨_, q, hd⟩
    refine ⟨C.len, fun y c e => ?_, C.inj, fun i y e => ?_⟩
    · obtain ⟨n, v, z⟩ := C.all y c e
      refine ⟨?_, v, kp y c e v z⟩
      obtain ⟨o, ho, _⟩ := z
      exact un.free c o ho n (by simp)
    · obtain ⟨c, hc, hv⟩ := C.has i y e
      refine ⟨c, hc, fun v ev => ?_⟩
      obtain ⟨u, r, z⟩ := hv v ev
      exact ⟨u, r, kp y c hc _ z⟩
  rw [h3] at C2
  exact (ld.ok qual _ c).run A' outer' s1 HZ fc us vs (ws.map some) Q E (hr.mono hk) e0 hob (R2.sub _ _ hc) C2 r ⟨Z2, F2, M2, ds, cs, QD, ws, R2, rr, rfl, rws, hsp, o⟩
theorem de_callG (Gd : GnD X.prog X.w X.K X.mg X.base k kc x st ps G) (ld : LamD X.prog X.w X.K X.mg X.base kl L pl fr sp) (hkl : kl ≤ kc) (hr : Room k2 X.A) (ha : DAL X (e :: es) L js dAL) (hk : k ≤ k2) (hcap : X.Ok → Caps X (cloFrom X.env.cells L.scope.names []) fr js) (hg : Gl X x := by rfl) (hdb : (x == ("__debug__" : Str)) = false := by decide)
    (he : starEach (e :: es) X.env = (false, eval e X.env) :: starEach es X.env := by rfl) (hpl : (backTo pos (starEach es X.env)).any (·.1) = false := by rfl) : DE X (.Call (.Name x p) (e :: es) [] pos) (dCallG G sp dAL) := by
  obtain ⟨f, fd, F, hm, hb, len, run⟩ := Gd.ex
  refine ⟨fun pins s σ H Q I h => ?_⟩
  obtain ⟨Z, F0, M, ρ, QD, R, h, o⟩ := h
  refine wpAny_Call_Name_kw (ld_glob I hg hm ?_ hdb)
  refine PySem.W.callWith_K (h₀ := X.base) I.ok.mod.kin F.kp (wpAny_mono (ha.run pos pins s σ H Z F0 M ρ _ (fun vs Gf H' => ∃ ds fc ws cs F' M', Ext F0 F' ∧ RelM X.K Z F' H' M' ∧ Reps X.K F' vs ds ∧ Gf.L = L ∧ Gf.cl = cloFrom X.env.cells L.scope.names [] ∧ js.map (slotAt σ) = ws.map some ∧
      G fc (cloR X.K Gf fc ws cs) (fun es M' Q' => sp (es ++ cs) M' Q') ds M' QD) I R h fun vs ds fc Gf ws cs F' H' M' e' R' rr a1 a2 a3 h' => ⟨ds, fc, ws, cs, F', M', e', R', rr, a1, a2, a3, h'.2⟩) (fun us s1 h1 => ?_) fun _ _ h => h) he hpl
  obtain ⟨vs, Gf, H1, I1, r1, ds, fc, ws, cs, F1, M1, e1, R1, rr, a1, a2, a3, hG⟩ := h1
  refine ⟨I1.kIn, ?_⟩
  have hl : us.length = ps.length := by rw [← r1.length, rr.length]; exact len _ _ _ _ _ _ hG
  have hb1 := hb s1 us I1.kIn (by rw [List.append_nil]; exact hl)
  rw [List.append_nil] at hb1
  refine wpAny_call (codeAny_mono (run X.A X.stack s1 H1 fc _ _ ⟨us, []⟩ us vs Q E0 (clo_of (F := F1) (M := M1) (Z := Z) ld hkl I1 a1 a2 a3 hcap) (hr.mono hk) I1.env0 hb1 r1 ⟨Z, F1, M1, ds, QD, R1, rr, hG, o.mono e1⟩) fun r s' hq => ?_)
  cases r with
  | error e => exact (show False from hq).elim
  | ok fl =>
    cases fl with
    | ret u => exact I1.after hq
    | next => exact False.elim hq
    | brk => exact False.elim hq
    | cont => exact False.elim hq
end
end DL
namespace DL
open PySem PySem.Spec PyProof.Rows L2 LamX NdefX
/-! ### parts of a text -/
def exK (e : Expr) (i : Nat) : Expr := match e, i with
  | .IfExp c _ _ _, 0 => c
  | .IfExp _ a _ _, 1 => a
  | .IfExp _ _ b _, _ => b
  | .Call f _ _ _, 0 => f
  | .Call _ as _ _, n + 1 => as.getD n e
  | .Tuple es _ _, n => es.getD n e
  | .List es _, n => es.getD n e
  | .BinOp a _ _ _, 0 => a
  | .BinOp _ _ b _, _ => b
  | .Compare a _ _ _, 0 => a
  | .Compare _ _ bs _, n + 1 => bs.getD n e
  | .BoolOp _ es _, n => es.getD n e
  | .UnaryOp _ a _, _ => a
  | .ListComp a _ _ _, 0 => a
  | .ListComp _ gs _ _, _ => (match gs with
    | ⟨_, _, c :: _, _⟩ :: _ => c
    | _ => e)
  | e, _ => e
def stE (d : Expr) : Stmt → Expr
  | .Return (some e) _ => e
  | .Assign _ e _ => e
  | .Expr e _ => e
  | .If t _ _ _ => t
  | .While t _ _ _ => t
  | .For _ i _ _ _ => i
  | _ => d
def stB : Stmt → List Stmt
  | .If _ b _ _ => b
  | .While _ b _ _ => b
  | .For _ _ b _ _ => b
  | .Try b _ _ _ _ => b
  | _ => []
def stO : Stmt → List Stmt
  | .If _ _ b _ => b
  | _ => []
def lamW (st : Stmt) : Expr → LamC
  | .Lambda p b s _ => ⟨p, b, s⟩
  | e => ⟨defArgs st, e, defScope st⟩
abbrev noE : Expr := .Constant .none 0 ⟨0, 0, 0, 0⟩
def nthS (l : List Stmt) (i : Nat) : Stmt := l.getD i (.Pass ⟨0, 0, 0, 0⟩)
/-! ### a def that makes lambdas: its code object is told -/
structure HasFnC (K : PySem.W.Frag) (mg : Str → Option Value) (x qual : Str) (st : Stmt) (ps : List Str) (c : Addr) : Prop where
  ex : ∃ (f : Addr) (oc : Value) (od : Option Addr) (kV doc pm : Value) (an : Option Addr) (ct : Value) (osl : Array (Option Value)),
    K.lookup f = some ⟨oc, od, .func (PySem.W.fnOf x qual (defArgs st) (defBody st) (defScope st) .none kV doc pm an (.ref c) ct), osl⟩ ∧ PySem.W.codeIn K (.ref c) qual = true ∧ PySem.W.keepIn K (.ref f) = true ∧ mg x = some (.ref f) ∧
    Binds K (PySem.W.fnOf x qual (defArgs st) (defBody st) (defScope st) .none kV doc pm an (.ref c) ct) ps []
section
variable {P : Program} {w : World} {K : PySem.W.Frag} {mg : Str → Option Value} {base : Heap}
theorem fn_mkC {x : Str} {st : Stmt} {N ps : List Str} {k : Nat} {sp : SpD} {c : Addr} (h : HasFnC K mg x x st ps c) (S : FnScope N ps (defScope st)) (n : Nat) (hn : N.length = n) (len : ∀ ds M Q, sp ds M Q → ds.length = ps.length)
    (body : ∀ (f : Addr) (A : Around) (outer : List Env) (s : Shared) (H : Hp) (E : XK), Room k (A.deeper (envOfC x (defScope st) s.heap.objs.size f (.ref c))) →
      ∃ d, DSs (cxOf CX0 P w K mg base N x (defScope st) f (.ref c) A outer s H E).nox (defBody st) d ∧ ∀ ds M Q, sp ds M Q → d { nx := fun _ M' => endD Q .non M', rt := endD Q } (startD n ds) M) : FnD P w K mg base (k + 1) x st ps sp := by
  obtain ⟨f, oc, od, kV, doc, pm, an, ct, osl, lk, hcd, hk, hm, hb⟩ := h.ex
  refine ⟨f, _, ⟨⟨oc, od, kV, doc, pm, an, .ref c, ct, osl, rfl, lk, hcd⟩, hk⟩, hm, hb, ?_⟩
  refine fn_of lk hcd S (fun vs H Q E h => ?_) (fun A outer s H vs Q E hr h => ?_)
  · obtain ⟨Z, F, M, ds, QD, R, r, h, o⟩ := h
    rw [r.length]
    exact len ds M QD h
  · obtain ⟨d, hd, hb⟩ := body f A outer s H E hr
    obtain ⟨Z, F, M, ds, QD, R, r, h, o⟩ := h
    refine ⟨_, hd.nox, Z, F, M, startD n ds, { nx := fun _ M' => endD QD .non M', rt := endD QD }, ⟨R, ?_⟩, hb ds M QD h, ⟨?_, ?_, ?_, ?_⟩⟩
    · have hl := len ds M QD h
      have hp : ps.length ≤ N.length := by
        have := congrArg List.length S.pre
        rw [List.length_take] at this
        omega
      unfold L2.start
      rw [← hn]
      exact startD_rep N.length r (by omega)
    · intro σ' ρ' F' H' M' e R' q
      obtain ⟨M0, l, q⟩ := q
      exact o _ _ F' H' M0 e (R'.m.le l) .non q
    · intro v d F' H' M' e R' rr q
      obtain ⟨M0, l, q⟩ := q
      exact o _ _ F' H' M0 e (R'.le l) rr q
    · intro σ' ρ' F' H' M' e R' q
      exact q.elim
    · intro σ' ρ' F' H' M' e R' q
      exact q.elim
end
/-- the table of the def x's lambdas stands at P -/
def lamQ (x : Str) : Str := x ++ ".<locals>." ++ "<lambda>"
abbrev Tb (P : Addr) (x : Str) (M : MH) : Prop := M P = some (.oth (tblR (lamQ x)))
/-! ### defs as values -/
section
variable {P : Program} {w : World} {K : PySem.W.Frag} {mg : Str → Option Value} {base : Heap} {k : Nat} {x : Str} {st : Stmt} {ps : List Str} {sp : SpD}
noncomputable def FnD.addr (F : FnD P w K mg base k x st ps sp) : Addr := F.ex.choose
theorem FnD.at_addr (F : FnD P w K mg base k x st ps sp) : ∃ fd, Fun K x x st F.addr fd ∧ mg x = some (.ref F.addr) ∧ Binds K fd ps [] ∧ FnOk P w K mg base CX0 k F.addr fd ps (toSp K sp) := F.ex.choose_spec
end
def dCallV (i : Nat) (fs : List (Addr × SpD)) (dA : TAD) : TED := fun ρ M Q => ∃ d, atD ρ i = some d ∧ ∃ q ∈ fs, d = .cls q.1 ∧ dA ρ M fun ds M1 => q.2 ds M1 Q
section
variable {X : Cx} {k k2 i : Nat} {x y : Str} {st : Stmt} {ps : List Str} {sp : SpD} {e : Expr} {es : List Expr} {p pos : Pos} {dA : TAD} {fs : List (Addr × SpD)}
theorem de_fnv (F : FnD X.prog X.w X.K X.mg X.base k x st ps sp) (hg : Gl X x := by rfl) (hd : (x == ("__debug__" : Str)) = false := by decide) : DE X (.Name x pos) (dC (.cls F.addr)) := by
  obtain ⟨fd, h1, h2, _⟩ := F.at_addr
  exact de_c (v := .ref F.addr) (pe_glob hg h2 rfl hd) fun _ => .cls _
/-- a def that a name may hold -/
structure HeldD (P : Program) (w : World) (K : PySem.W.Frag) (mg : Str → Option Value) (base : Heap) (k : Nat) (f : Addr) (sp : SpD) : Prop where
  ex : ∃ (fd : FuncData) (ps : List Str), FnOk P w K mg base CX0 k f fd ps (toSp K sp) ∧ PySem.W.keepIn K (.ref f) = true ∧ Binds K fd ps []
theorem FnD.held {P : Program} {w : World} {K : PySem.W.Frag} {mg : Str → Option Value} {base : Heap} {j : Nat} (F : FnD P w K mg base j x st ps sp) (h : j ≤ k := by decide) : HeldD P w K mg base k F.addr sp := by
  obtain ⟨fd, h1, h2, h3, h4⟩ := F.at_addr
  exact ⟨fd, ps, h4.mono h, h1.kp, h3⟩
theorem de_callV (hs : ∀ q ∈ fs, HeldD X.prog X.w X.K X.mg X.base k2 q.1 q.2) (hr : Room k2 X.A) (ha : DA X (e :: es) dA) (hN : X.N[i]? = some y := by rfl) (hv : Vis X.env.scope y := by first | exact Or.inl rfl | exact Or.inr (Or.inl rfl) | exact Or.inr (Or.inr rfl))
    (hdb : (y == ("__debug__" : Str)) = false := by decide) (hcd : (y == ("__classdict__" : Str)) = false := by decide)
    (he : starEach (e :: es) X.env = (false, eval e X.env) :: starEach es X.env := by rfl) (hpl : (backTo pos (starEach es X.env)).any (·.1) = false := by rfl) : DE X (.Call (.Name y p) (e :: es) [] pos) (dCallV i fs dA) := by
  refine ⟨fun pins s σ H Q I h => ?_⟩
  obtain ⟨Z, F, M, ρ, QD, R, ⟨d, h1, q, hq, rfl, h⟩, o⟩ := h
  obtain ⟨v, hv1, r⟩ := R.e.at_ i _ (atD_get h1)
  cases r
  obtain ⟨fd, ps, ok, hk, hb⟩ := (hs q hq).ex
  refine (pe_callL (i := i) (E := E0) ok hr hN hv hk hb .nil pass0 ha hdb hcd he hpl).run pins s σ H Q I ⟨hv1, Z, F, M, ρ, _, R, h, fun vs ds F1 H1 M1 e1 R1 r1 h1 => ?_⟩
  show toSp X.K q.2 (vs ++ []) H1 Q E0
  rw [List.append_nil]
  exact ⟨Z, F1, M1, ds, QD, R1, r1, h1, o.mono e1⟩
end
/-! ### the law's entry, with tables -/
def spLawT (T : List (Addr × Str)) : SpD := fun ds M Q => ∃ ns : List Int, ds = [.frl (ns.map Dat.int)] ∧ ns.length ≤ 63 ∧ (∀ p ∈ T, Tb p.1 p.2 M) ∧ ∀ M', Q (.bl true) M'
def tabM (T : List (Addr × Str)) : MH := fun a => match T.find? (fun p => decide (p.1 = a)) with
  | some p => some (.oth (tblR (lamQ p.2)))
  | none => none
theorem tabM_at {T : List (Addr × Str)} (hn : (T.map (·.1)).Nodup) {p : Addr × Str} (h : p ∈ T) : Tb p.1 p.2 (tabM T) := by
  unfold Tb tabM
  have : T.find? (fun q => decide (q.1 = p.1)) = some p := by
    induction T with
    | nil => cases h
    | cons t T ih =>
      rw [List.map_cons, List.nodup_cons] at hn
      rw [List.find?_cons]
      rcases List.mem_cons.mp h with rfl | g
      · rw [decide_eq_true rfl]
      · rw [decide_eq_false (fun z => hn.1 (List.mem_map.mpr ⟨p, g, z.symm⟩))]
        exact ih hn.2 g
  rw [this]
theorem law_inT {K : PySem.W.Frag} {T : List (Addr × Str)} {H : Hp} {a : Addr} {ns : List Int} (hn : (T.map (·.1)).Nodup) (hl : ns.length ≤ 63) (hT : ∀ p ∈ T, H p.1 = some (.tbl #[])) (hS : SqL K H a (ns.map V.int)) : toSp K (spLawT T) [.ref a] H (fun v _ => v = .bl true) (fun _ _ _ => False) := by
  have hM : ∀ b m, tabM T b = some m → ∃ q : Str, m = .oth (tblR q) ∧ H b = some (.tbl #[]) := fun b m h => by
    unfold tabM at h
    split at h
    · rename_i p hp
      cases h
      have h1 := List.find?_some hp
      have h2 := List.mem_of_find?_eq_some hp
      have h3 : p.1 = b := of_decide_eq_true h1
      exact ⟨_, rfl, by rw [← h3]; exact hT p h2⟩
    · cases h
  rcases hS with hS | hS
  · have hne : ∀ b, H b = some (.tbl #[]) → b ≠ a := fun b hb z => by
      rw [z] at hb
      rcases hS with h | ⟨o, h⟩
      · rw [hb] at h
        cases h
      · rw [hb] at h
        cases h
    have e : (fun b => if b = a then H a else none) a = H a := if_pos rfl
    refine ⟨fun _ => none, fun b => if b = a then H a else none, tabM T, [.frl (ns.map Dat.int)], fun d _ => d = .bl true, ⟨fun b o h => ?_, fun _ _ h => (by cases h), fun b m h => ?_⟩, .one (.frl (.inl ?_) (reps_ints ns)), ⟨ns, rfl, hl, fun p hp => tabM_at hn hp, fun _ => rfl⟩, ?_⟩
    · by_cases hb : b = a
      · rw [if_pos hb] at h
        rw [hb]
        exact h
      · rw [if_neg hb] at h
        cases h
    · obtain ⟨q, rfl, hH⟩ := hM b m h
      exact ⟨if_neg (hne b hH), .tbl #[], hH, tblR_nil _ q⟩
    · rcases hS with h | ⟨o, h⟩
      · exact .inl (e.trans h)
      · exact .inr ⟨o, e.trans h⟩
    · intro v d F' H' M' _ _ r h
      subst h
      exact r.toBl
  · refine ⟨fun _ => none, fun _ => none, tabM T, [.frl (ns.map Dat.int)], fun d _ => d = .bl true, ⟨fun b o h => (by cases h), fun _ _ h => (by cases h), fun b m h => ?_⟩, .one (.frl (.inr hS) (reps_ints ns)), ⟨ns, rfl, hl, fun p hp => tabM_at hn hp, fun _ => rfl⟩, ?_⟩
    · obtain ⟨q, rfl, hH⟩ := hM b m h
      exact ⟨rfl, .tbl #[], hH, tblR_nil _ q⟩
    · intro v d F' H' M' _ _ r h
      subst h
      exact r.toBl
end DL
namespace DL
open PySem PySem.Spec PyProof.Rows L2 LamX NdefX
/-! ### ranges of great integers -/
theorem turn_long {P : Program} {w : World} {K : PySem.W.Frag} {tg : Expr} (it : Addr) (lo : Int) (n : Nat) : Turn P w K tg (Itr lo n) [it] it (fun i h => IsLongIter h it (lo + (i : Nat) * 1) ((n : Int) - (i : Nat)) 1) := by
  refine ⟨by simp, fun i h st b hb => ?_, fun i h h' st k => k it (by simp) _ st, ?_, ?_, fun _ _ _ _ _ st h => wpAny_pyIter_longiter st h⟩
  · obtain rfl : b = it := by simpa using hb
    exact ⟨_, st, fun v z => by
      have z' : Data.fields _ = Data.cell v := z
      cases z'⟩
  · rintro X rfl rfl rfl hc i pins s σ H E I hf st hg
    obtain ⟨f0, f1, f2, f3, f4, f5⟩ := hf it (by simp)
    refine (Walks.longrange (prog := X.prog) (w := X.w) (I.ok.hd hc) it lo 1 n).item i s _ _ hg st fun v h' tk ⟨t, ht⟩ st' kk => ?_
    subst ht
    have I1 : Inv X pins σ H { s with heap := h', toks := tk } := I.turned (fun b o hb e => kk b o (by simpa using hb) e) f0 f1 f3 f4 f5
    exact ⟨_, rfl, go_of (s := { s with heap := h', toks := tk }) (n := "longrange_iterator") st' rfl rfl (by decide) ⟨.int (lo + i), H, I1, ⟨t, by rw [Int.mul_one]⟩, ⟨rfl, rfl⟩, st', fun b hb => (hf b hb).1⟩⟩
  · rintro X rfl rfl rfl hc i pins s σ H E I hf st hg
    obtain ⟨f0, f1, f2, f3, f4, f5⟩ := hf it (by simp)
    have hn : n ≤ i := hg
    exact wpAny_pyNext_long_end (I.ok.hd hc) st (by omega) fun h' eb => ⟨rfl, I.turned (t' := s.toks) (fun b o hb e => eb b o hb e) f0 f1 f3 f4 f5⟩
section
variable {X : Cx} {tg : Expr}
theorem range_itL {pins : List (Addr × Obj)} {σ : L2.St} {H : Hp} {s : Shared} {R : It → Hp → Prop} {E : Value → Shared → Prop} {lo hi : Int} {t u v : Tok} {tk : Nat} (I : Inv X pins σ H s)
    (q : R (Itr lo (hi - lo).toNat) H) : wpAny (model X.prog X.w) X.A (pyIter (.ref s.heap.objs.size)) (PIE X pins σ tg R) E { s with heap := s.heap.push { cls := .type "range", data := .fields #[.int lo t, .int hi u, .int 1 v] }, toks := tk } := by
  have e1 : lo + ((0 : Nat) : Int) * 1 = lo := by simp
  have e2 : (((hi - lo).toNat : Nat) : Int) - ((0 : Nat) : Int) = Builtin.Range.rangeSize lo hi 1 := by rw [rangeSize_one]; split <;> omega
  have I1 : Inv X pins σ H { s with heap := s.heap.push { cls := .type "range", data := .fields #[.int lo t, .int hi u, .int 1 v] }, toks := tk } := I.kept fun b o e => Heap.get?_push_of_some _ e
  cases hs : Builtin.Range.small lo hi 1 with
  | true =>
    refine wpAny_pyIter_range (IsRange.new ..) hs ?_
    refine ⟨(s.heap.push { cls := .type "range", data := .fields #[.int lo t, .int hi u, .int 1 v] }).objs.size, [(s.heap.push { cls := .type "range", data := .fields #[.int lo t, .int hi u, .int 1 v] }).objs.size], _, _, H, rfl,
      I1.kept (t' := tk) fun b o e => Heap.get?_push_of_some _ e, turn_range _ lo (hi - lo).toNat, ?_, fun b hb => ?_, q⟩
    · show IsRangeIter _ _ (lo + ((0 : Nat) : Int) * 1) ((((hi - lo).toNat : Nat) : Int) - ((0 : Nat) : Int)) 1
      rw [e1, e2]
      exact Heap.get?_push_size _ rfl
    · obtain rfl : b = (s.heap.push { cls := .type "range", data := .fields #[.int lo t, .int hi u, .int 1 v] }).objs.size := by simpa using hb
      exact I1.fpOk (Nat.le_refl _) (I1.hok.fresh (Nat.le_refl _))
  | false =>
    refine wpAny_pyIter_longrange (IsRange.new ..) hs ?_
    refine ⟨(s.heap.push { cls := .type "range", data := .fields #[.int lo t, .int hi u, .int 1 v] }).objs.size, [(s.heap.push { cls := .type "range", data := .fields #[.int lo t, .int hi u, .int 1 v] }).objs.size], _, _, H, rfl,
      I1.kept (t' := tk) fun b o e => Heap.get?_push_of_some _ e, turn_long _ lo (hi - lo).toNat, ?_, fun b hb => ?_, q⟩
    · show IsLongIter _ _ (lo + ((0 : Nat) : Int) * 1) ((((hi - lo).toNat : Nat) : Int) - ((0 : Nat) : Int)) 1
      rw [e1, e2]
      exact Heap.get?_push_size _ rfl
    · obtain rfl : b = (s.heap.push { cls := .type "range", data := .fields #[.int lo t, .int hi u, .int 1 v] }).objs.size := by simpa using hb
      exact I1.fpOk (Nat.le_refl _) (I1.hok.fresh (Nat.le_refl _))
def iRngL (ta : TA) : TI := fun σ H R => ta σ H fun vs H1 => ∃ i j : Int, vs = [.int i, .int j] ∧ R (Itr i (j - i).toNat) H1
theorem pi_rangeL {a b : Expr} {ta : TA} {p pos : Pos} (hg : Gl X "range") (hm : X.mg "range" = none) (ha : PA X [a, b] ta) (hs : starEach [a, b] X.env = [(false, eval a X.env), (false, eval b X.env)] := by rfl) (hs2 : starEach [b] X.env = [(false, eval b X.env)] := by rfl) :
    PI X tg (.Call (.Name "range" p) [a, b] [] pos) (iRngL ta) := by
  refine ⟨fun pins s σ H R I h => Call_ (ld_blt I hg hm boot_range (PyProof.Rows.callWith_type1 (thn (ha.run pos pins s σ H _ I h) fun us s1 ⟨vs, H1, I1, r1, i, j, e, q⟩ => ?_) (by rw [hs, hs2]) (by rw [hs2]; rfl)))⟩
  subst e
  cases r1 with
  | cons r rr =>
    cases rr with
    | cons r' rr =>
      cases rr
      obtain ⟨t, rfl⟩ := r
      obtain ⟨t', rfl⟩ := r'
      exact call_range_2 (range_itL I1 q)
def dIRL (dA : TAD) : TID := fun ρ M R => dA ρ M fun xs M1 => match xs with
  | [.int i, .int j] => R (rngD i (j - i).toNat) M1
  | _ => False
theorem di_rngL {a b : Expr} {dA : TAD} {p pos : Pos} (hm : X.mg "range" = none) (ha : DA X [a, b] dA) (hg : Gl X "range" := by rfl) (hs : starEach [a, b] X.env = [(false, eval a X.env), (false, eval b X.env)] := by rfl) (hs2 : starEach [b] X.env = [(false, eval b X.env)] := by rfl) : DI X tg (.Call (.Name "range" p) [a, b] [] pos) (dIRL dA) := pi_w (pi_rangeL hg hm ha hs hs2) fun σ H R ⟨Z, F, M, ρ, RD, R0, h, o⟩ => by
  refine ⟨Z, F, M, ρ, _, R0, h, fun xs as F1 H1 M1 e1 R1 r1 h1 => ?_⟩
  split at h1
  · obtain ⟨v, ws, rfl, q1, r1⟩ := r1.uncons
    obtain ⟨v2, ws, rfl, q2, r1⟩ := r1.uncons
    cases r1.unnil
    cases q1
    cases q2
    exact ⟨_, _, rfl, o _ _ F1 H1 M1 e1 R1 walk_rng h1⟩
  · exact h1.elim
end
end DL
namespace DL
open PySem PySem.Spec PyProof.Rows L2 LamX NdefX
/-! ### a key in a dict -/
def rInDic : R2D := fun y x M Q => ∃ kvs k, dicR M x = some kvs ∧ keyD y = some k ∧ Q (.bl (valD kvs k).isSome) M
def rNotInDic : R2D := fun y x M Q => ∃ kvs k, dicR M x = some kvs ∧ keyD y = some k ∧ Q (.bl (!(valD kvs k).isSome)) M
section
variable {X : Cx}
def rvInDic (f : Bool → Bool) : R2 := fun y x H Q => ∃ a o, x = .ref a ∧ DGet H a y o ∧ Q (.bl (f o.isSome)) H
theorem op_inDic (hu : X.A.units + 1 < cLine) : OpR X (compareOp .In) (rvInDic fun b => b) := by
  intro pins s σ H y x iv u Q I ry rx h
  obtain ⟨a, o, rfl, g, q⟩ := h
  cases rx
  exact d_in hu I g ry fun s3 I3 => ⟨.bl o.isSome, H, I3, rfl, q⟩
theorem op_notInDic (hu : X.A.units + 1 < cLine) : OpR X (compareOp .NotIn) (rvInDic fun b => !b) := by
  intro pins s σ H y x iv u Q I ry rx h
  obtain ⟨a, o, rfl, g, q⟩ := h
  cases rx
  exact d_notIn hu I g ry fun s3 I3 => ⟨.bl (!o.isSome), H, I3, rfl, q⟩
theorem inDic_get {K : PySem.W.Frag} {F H : Hp} {y : V} {vs : List (Key × V)} {kvs : List (Key × Dat)} {k : Key} {a : Addr} (q5 : H a = some (.dK vs)) (r : RepK K F vs kvs) (e : y = kV k) : ∃ o : Option V, DGet H a y o ∧ o.isSome = (valD kvs k).isSome := by
  subst e
  refine ⟨valV vs k, .k q5, ?_⟩
  have := r.val k
  split at this
  · rename_i d h
    obtain ⟨v, h1, _⟩ := this
    rw [h1, h]
    rfl
  · rename_i h
    rw [this, h]
    rfl
theorem od_inDic (hu : X.A.units + 64 < cLine) : OpD X (compareOp .In) rInDic := ⟨_, op_inDic (by omega), fun Z F H M y x a b Q QD R ra rb hd o => by
  obtain ⟨kvs, k, h1, h2, h3⟩ := hd
  obtain ⟨p, vs, rfl, q5, q6⟩ := dicR_rep R rb h1
  obtain ⟨ov, g1, g2⟩ := inDic_get q5 q6 (keyD_rep ra h2)
  refine ⟨p, ov, rfl, g1, ?_⟩
  rw [g2]
  exact o _ _ F H M (Ext.refl F) R (.bl _) h3⟩
theorem od_notInDic (hu : X.A.units + 64 < cLine) : OpD X (compareOp .NotIn) rNotInDic := ⟨_, op_notInDic (by omega), fun Z F H M y x a b Q QD R ra rb hd o => by
  obtain ⟨kvs, k, h1, h2, h3⟩ := hd
  obtain ⟨p, vs, rfl, q5, q6⟩ := dicR_rep R rb h1
  obtain ⟨ov, g1, g2⟩ := inDic_get q5 q6 (keyD_rep ra h2)
  refine ⟨p, ov, rfl, g1, ?_⟩
  rw [g2]
  exact o _ _ F H M (Ext.refl F) R (.bl _) h3⟩
end
end DL
namespace DL
open PySem PySem.Spec PyProof.Rows L2 LamX NdefX
open PySem.W (DatumOrd Datum Holds HoldAll minOf)
/-! ### min(xs, default=d): ints, pairs of ints -/
section
variable {α : Type} [DecidableEq α] [DatumOrd α]
theorem holds_one {h : Heap} {v : Value} {x y : α} (a : Holds h v x) (b : Holds h v y) : x = y := by
  obtain ⟨as, ra⟩ := a
  obtain ⟨bs, rb⟩ := b
  have e := PySem.SeqAt.plain_unique _ _ v as bs (Datum.plain x) ra rb
  have h1 := Datum.eqv x y
  rw [← e, Datum.eqv x x, decide_eq_true rfl] at h1
  exact of_decide_eq_true h1.symm
/-- the least one is the least -/
def LeastOk (α : Type) [DecidableEq α] [DatumOrd α] : Prop := ∀ (y : α) (ys : List α), ∀ p ∈ y :: ys, DatumOrd.lt p (minOf y ys) = false
def rMinV (K : PySem.W.Frag) (At : Hp → V → α → Prop) : List V → List V → Hp → VK → Prop := fun vs zs H Q => ∃ (b : Addr) (xs : List V) (qs : List α) (d : V), vs = [V.ref b] ∧ zs = [d] ∧ SqL K H b xs ∧ Paired (At H) xs qs ∧
  (qs = [] → Q d H) ∧ ∀ (i : Nat) (v : V) (q : α), xs[i]? = some v → qs[i]? = some q → (∀ p ∈ qs, DatumOrd.lt p q = false) → Q v H
theorem paired_at {β γ : Type} {R : β → γ → Prop} : ∀ {xs : List β} {ys : List γ}, Paired R xs ys → ∀ {i : Nat} {x : β}, xs[i]? = some x → ∃ y, ys[i]? = some y ∧ R x y
  | _, _, .nil, i, x, h => by simp at h
  | _, _, .cons r rs, 0, x, h => by
    cases Option.some.inj (show some _ = some x from h)
    exact ⟨_, rfl, r⟩
  | _, _, .cons r rs, i + 1, x, h => paired_at rs (i := i) (by simpa using h)
theorem paired_to {β γ : Type} {R : β → γ → Prop} : ∀ {xs : List β} {ys : List γ}, Paired R xs ys → ∀ {i : Nat} {y : γ}, ys[i]? = some y → ∃ x, xs[i]? = some x ∧ R x y
  | _, _, .nil, i, x, h => by simp at h
  | _, _, .cons r rs, 0, x, h => by
    cases Option.some.inj (show some _ = some x from h)
    exact ⟨_, rfl, r⟩
  | _, _, .cons r rs, i + 1, x, h => paired_to rs (i := i) (by simpa using h)
theorem hold_all {h : Heap} {R : V → α → Prop} : ∀ {xs : List V} {us : List Value} {qs : List α}, (∀ v u q, R v q → RelV v u → Holds h u q) → Vals xs us → Paired R xs qs → HoldAll h us qs
  | _, _, _, _, .nil, .nil => ⟨_, .nil⟩
  | _, _, _, f, .cons r rs, .cons p ps => by
    obtain ⟨as, ra⟩ := f _ _ _ p r
    obtain ⟨bs, rb⟩ := hold_all f rs ps
    exact ⟨_, .cons ra rb⟩
variable {X : Cx}
theorem cr_minDef (At : Hp → V → α → Prop) (hAt : ∀ (pins : List (Addr × Obj)) (σ : L2.St) (H : Hp) (s : Shared) (v : V) (u : Value) (q : α), Inv X pins σ H s → At H v q → RelV v u → Holds s.heap u q) (hmin : LeastOk α) (hc : X.calm = true)
    (hu : X.A.units + 1 + Datum.depth α < cLine) : CallRK X (.builtin "min") [Str.ofString "default"] (rMinV X.K At) := by
  intro pins s σ H vs zs us ws Q I r rz h
  obtain ⟨b, xs, qs, d, rfl, rfl, hb, hp, h0, h1⟩ := h
  obtain rfl := Vals.ref1 r
  obtain ⟨wd, rfl, ed⟩ := vals1 rz
  obtain ⟨its, rv, hl, hz⟩ := I.list hb
  have hall : HoldAll s.heap its qs := hold_all (fun v u q a e => hAt pins σ H s v u q I a e) rv hp
  show wpAny _ _ (call (.builtin "min") [.ref b] [(Str.ofString "default", wd)]) _ _ _
  refine PySem.W.min_list_datum_default (I.ok.hd hc) hl.isList (by simpa using hall) hu (fun e h' tk k => ?_) fun y ys i v h' tk e hi hv k => ?_
  · exact ⟨d, H, I.kept (t' := tk) k, ed, h0 e⟩
  · have hi' : its[i]? = some v := by simpa using hi
    obtain ⟨x, hx, hxv⟩ := paired_to rv hi'
    obtain ⟨q, hq, hxq⟩ := paired_at hp hx
    have hq2 := holds_one ((hAt pins σ H s x v q I hxq hxv).keeps k) hv
    refine ⟨x, H, I.kept (t' := tk) k, hxv, h1 i x q hx hq fun p hpm => ?_⟩
    rw [hq2]
    rw [e] at hpm
    exact hmin y ys p hpm
end
theorem least_ints : LeastOk Int := by
  have key : ∀ (ys : List Int) (y : Int), (minOf y ys ≤ y) ∧ ∀ p ∈ ys, minOf y ys ≤ p := by
    intro ys
    induction ys with
    | nil => exact fun y => ⟨Int.le_refl _, fun p h => by cases h⟩
    | cons z ys ih =>
      intro y
      have e : minOf y (z :: ys) = minOf (if DatumOrd.lt z y = true then z else y) ys := rfl
      rw [e]
      have hlt : (DatumOrd.lt z y = true) ↔ z < y := by
        show decide (z < y) = true ↔ _
        exact decide_eq_true_iff
      obtain ⟨a, b⟩ := ih (if DatumOrd.lt z y = true then z else y)
      by_cases g : DatumOrd.lt z y = true
      · rw [if_pos g] at a b ⊢
        have := hlt.mp g
        exact ⟨by omega, fun p hp => by
          rcases List.mem_cons.mp hp with rfl | hp
          · exact a
          · exact b p hp⟩
      · rw [if_neg g] at a b ⊢
        have : ¬ z < y := fun h => g (hlt.mpr h)
        exact ⟨a, fun p hp => by
          rcases List.mem_cons.mp hp with rfl | hp
          · omega
          · exact b p hp⟩
  intro y ys p hp
  show decide (p < minOf y ys) = false
  refine decide_eq_false ?_
  rcases List.mem_cons.mp hp with rfl | hp
  · have := (key ys p).1
    omega
  · have := (key ys y).2 p hp
    omega
theorem lt_pair {p q : Int × Int} : (DatumOrd.lt p q = false) ↔ lexLe q p := by
  show (if p.1 = q.1 then decide (p.2 < q.2) else decide (p.1 < q.1)) = false ↔ (q.1 < p.1 ∨ (q.1 = p.1 ∧ q.2 ≤ p.2))
  by_cases h : p.1 = q.1
  · rw [if_pos h, decide_eq_false_iff_not]
    omega
  · rw [if_neg h, decide_eq_false_iff_not]
    omega
theorem least_pairs : LeastOk (Int × Int) := by
  have tr : ∀ {p q r : Int × Int}, lexLe p q → lexLe q r → lexLe p r := by
    intro p q r h1 h2
    unfold lexLe at *
    omega
  have key : ∀ (ys : List (Int × Int)) (y : Int × Int), lexLe (minOf y ys) y ∧ ∀ p ∈ ys, lexLe (minOf y ys) p := by
    intro ys
    induction ys with
    | nil => exact fun y => ⟨Or.inr ⟨rfl, Int.le_refl _⟩, fun p h => by cases h⟩
    | cons z ys ih =>
      intro y
      have e : minOf y (z :: ys) = minOf (if DatumOrd.lt z y = true then z else y) ys := rfl
      rw [e]
      obtain ⟨a, b⟩ := ih (if DatumOrd.lt z y = true then z else y)
      by_cases g : DatumOrd.lt z y = true
      · rw [if_pos g] at a b ⊢
        have hzy : lexLe z y := by
          have : ¬ lexLe y z := fun h => by
            rw [lt_pair.mpr h] at g
            cases g
          unfold lexLe at *
          omega
        exact ⟨tr a hzy, fun p hp => by
          rcases List.mem_cons.mp hp with rfl | hp
          · exact a
          · exact b p hp⟩
      · rw [if_neg g] at a b ⊢
        have hyz : lexLe y z := lt_pair.mp (by simpa using g)
        exact ⟨a, fun p hp => by
          rcases List.mem_cons.mp hp with rfl | hp
          · exact tr a hyz
          · exact b p hp⟩
  intro y ys p hp
  refine lt_pair.mpr ?_
  rcases List.mem_cons.mp hp with rfl | hp
  · exact (key ys p).1
  · exact (key ys y).2 p hp
section
variable {X : Cx} {e : Expr} {kws : List Keyword} {pos p : Pos} {dA dK : TAD}
/-- over data: α's values are shown by D, the lesser one stands first by le -/
def dMinDef {α : Type} (D : α → Dat) (le : α → α → Prop) (dA dK : TAD) : TED := fun ρ M Q => dA ρ M fun ds M1 => dK ρ M1 fun es M2 => ∃ (x d : Dat) (qs : List α), ds = [x] ∧ es = [d] ∧ lsR M2 x = some (qs.map D) ∧
  (qs = [] → Q d M2) ∧ ∀ q ∈ qs, (∀ p ∈ qs, le q p) → Q (D q) M2
theorem de_minDefG {α : Type} [DecidableEq α] [DatumOrd α] (D : α → Dat) (le : α → α → Prop) (hle : ∀ p q : α, DatumOrd.lt p q = false → le q p) (hmin : LeastOk α) (At : Hp → V → α → Prop)
    (hRep : ∀ F H v q, Ext F H → Rep X.K F v (D q) → At H v q) (hAt : ∀ (pins : List (Addr × Obj)) (σ : L2.St) (H : Hp) (s : Shared) (v : V) (u : Value) (q : α), Inv X pins σ H s → At H v q → RelV v u → Holds s.heap u q)
    (hc : X.calm = true) (hu : X.A.units + 1 + Datum.depth α < cLine) (hg : Gl X "min") (hm : X.mg "min" = none) (ha : DA X [e] dA) (hk : DK X kws dK)
    (he : backTo pos (starEach [e] X.env) = (false, eval e X.env) :: backTo pos (starEach [] X.env)) (hpl : (backTo pos (starEach [e] X.env)).any (·.1) = false)
    (hall : (backToKw pos (keywordEach kws X.env)).all (·.1.isSome) = true) (hnone : (backToKw pos (keywordEach kws X.env)).any (·.1.isNone) = false) (hks : (backToKw pos (keywordEach kws X.env)).filterMap (·.1) = [Str.ofString "default"]) :
    DE X (.Call (.Name "min" p) [e] kws pos) (dMinDef D le dA dK) :=
  pe_w (pe_callBK (cr_minDef At hAt hmin hc hu) hg hm (by decide +kernel) ha hk (by decide) (by decide) he hpl hall hnone hks) fun σ H Q ⟨Z, F, M, ρ, QD, R, h, o⟩ => by
    refine ⟨Z, F, M, ρ, _, R, h, fun vs ds F1 H1 M1 e1 R1 r1 h1 => ?_⟩
    refine ⟨Z, F1, M1, ρ, _, R.ext e1 R1, h1, fun zs es F2 H2 M2 e2 R2 r2 h2 => ?_⟩
    obtain ⟨x, d, qs, rfl, rfl, q1, q2, q3⟩ := h2
    obtain ⟨vx, ws, rfl, rx, rs⟩ := (r1.mono e2).uncons
    cases rs.unnil
    obtain ⟨vd, ws, rfl, rd, rs⟩ := r2.uncons
    cases rs.unnil
    obtain ⟨pp, xs, rfl, hq, rr⟩ := lsR_rep R2 rx q1
    have pr : ∀ {xs : List V} {qs : List α}, Reps X.K F2 xs (qs.map D) → Paired (At H2) xs qs := by
      intro xs
      induction xs with
      | nil =>
        intro qs r
        cases qs with
        | nil => exact .nil
        | cons q qs => cases r
      | cons v xs ih =>
        intro qs r
        cases qs with
        | nil => cases r
        | cons q qs =>
          cases r with
          | cons r1 rs => exact .cons (hRep F2 H2 v q R2.sub r1) (ih rs)
    refine ⟨pp, xs, qs, vd, rfl, rfl, hq, pr rr, fun h => o _ _ F2 H2 M2 (e1.trans e2) R2 rd (q2 h), fun i v q h3 h4 h5 => ?_⟩
    obtain ⟨v', h6, h7⟩ := rr.get (i := i) (d := D q) (by rw [List.getElem?_map, h4]; rfl)
    rw [h3] at h6
    cases h6
    exact o _ _ F2 H2 M2 (e1.trans e2) R2 h7 (q3 q (List.mem_of_getElem? h4) fun p hp => hle p q (h5 p hp))
theorem de_minDefI (hu : X.A.units + 64 < cLine) (ha : DA X [e] dA) (hk : DK X kws dK) (hm : X.mg "min" = none) (hc : X.calm = true := by rfl) (hg : Gl X "min" := by rfl)
    (he : backTo pos (starEach [e] X.env) = (false, eval e X.env) :: backTo pos (starEach [] X.env) := by rfl) (hpl : (backTo pos (starEach [e] X.env)).any (·.1) = false := by rfl)
    (hall : (backToKw pos (keywordEach kws X.env)).all (·.1.isSome) = true := by rfl) (hnone : (backToKw pos (keywordEach kws X.env)).any (·.1.isNone) = false := by rfl) (hks : (backToKw pos (keywordEach kws X.env)).filterMap (·.1) = [Str.ofString "default"] := by rfl) :
    DE X (.Call (.Name "min" p) [e] kws pos) (dMinDef Dat.int (· ≤ ·) dA dK) :=
  de_minDefG Dat.int (· ≤ ·) (fun p q h => by
    have : ¬ p < q := of_decide_eq_false h
    omega) least_ints (fun _ v q => v = .int q) (fun F H v q _ r => r.toInt) (fun pins σ H s v u q I e r => by
      subst e
      obtain ⟨t, rfl⟩ := r
      exact PySem.W.holds_int q t) hc (by show _ + 1 + 0 < _; omega) hg hm ha hk he hpl hall hnone hks
theorem de_minDefQ (hu : X.A.units + 64 < cLine) (ha : DA X [e] dA) (hk : DK X kws dK) (hm : X.mg "min" = none) (hc : X.calm = true := by rfl) (hg : Gl X "min" := by rfl)
    (he : backTo pos (starEach [e] X.env) = (false, eval e X.env) :: backTo pos (starEach [] X.env) := by rfl) (hpl : (backTo pos (starEach [e] X.env)).any (·.1) = false := by rfl)
    (hall : (backToKw pos (keywordEach kws X.env)).all (·.1.isSome) = true := by rfl) (hnone : (backToKw pos (keywordEach kws X.env)).any (·.1.isNone) = false := by rfl) (hks : (backToKw pos (keywordEach kws X.env)).filterMap (·.1) = [Str.ofString "default"] := by rfl) :
    DE X (.Call (.Name "min" p) [e] kws pos) (dMinDef prD lexLe dA dK) :=
  de_minDefG prD lexLe (fun p q h => lt_pair.mp h) least_pairs (PairAt X.K) (fun F H v q e r => by
    obtain ⟨t, e1, h⟩ := rep_pr r
    exact ⟨t, e1, ext_t e h⟩) (fun pins σ H s v u q I e r => by
      obtain ⟨t, rfl, h⟩ := e
      cases r
      obtain ⟨its, rv, ht, _⟩ := I.tuple h
      obtain ⟨x1, x2, e2, r1, r2⟩ := vals2 rv
      obtain ⟨k1, rfl⟩ := r1
      obtain ⟨k2, rfl⟩ := r2
      subst e2
      exact PySem.W.holds_pair ht (PySem.W.holds_int _ _) (PySem.W.holds_int _ _)) hc (by show _ + 1 + (1 + max 0 0) < _; simp; omega) hg hm ha hk he hpl hall hnone hks
end
section
variable {X : Cx}
def rReverseD : Dat → List Dat → MH → VKD → Prop := fun x as M Q => match x with
  | .ref a => (match as with
    | [] => ∃ ds, M a = some (.lst ds) ∧ Q .non (updM M a (.lst ds.reverse))
    | _ => False)
  | _ => False
theorem md_reverse : MtD X "list.reverse" rReverseD := ⟨_, mt_reverse, fun Z F H M x xs a as Q QD R ra rs hd o => by
  unfold rReverseD at hd
  split at hd
  · rename_i p
    split at hd
    · obtain ⟨ds, q1, q3⟩ := hd
      cases ra
      cases rs.unnil
      obtain ⟨ys, q4, r4⟩ := (R.chg p _ q1).2
      have R3 := R.write (o := .lst ys.reverse) (m := .lst ds.reverse) q1 ⟨_, upd_same, r4.rev⟩
      exact ⟨p, ys, rfl, rfl, q4, o _ _ F _ _ (Ext.refl F) R3 .non q3⟩
    · exact hd.elim
  · exact hd.elim⟩
end
/-! ### isinstance of a list that may change -/
section
variable {X : Cx}
def rIsiM (K : PySem.W.Frag) : List Dat → MH → VKD → Prop := fun ds M Q => match ds with
  | [.ref a, .ty n] => ∃ l, M a = some (.lst l) ∧ Q (.bl (subB .lst n)) M
  | _ => rIsiD K ds M Q
theorem cd_isiM (K : PySem.W.Frag) (h : X.K = K) : CallD X (.builtin "isinstance") (rIsiM K) := by
  subst h
  have main : ∃ r, CallR X (.builtin "isinstance") r ∧ r = rIsi X.K := ⟨_, call_isi, rfl⟩
  obtain ⟨r0, h0, hs0⟩ := cd_isi (X := X)
  refine ⟨fun vs H Q => rIsi X.K vs H Q ∨ r0 vs H Q, CallR.or call_isi h0, fun Z F H M vs ds Q QD R rs hd o => ?_⟩
  unfold rIsiM at hd
  split at hd
  · rename_i a n
    obtain ⟨l, q1, q2⟩ := hd
    obtain ⟨v, ws, rfl, r1, rs⟩ := rs.uncons
    obtain ⟨y, ws, rfl, r2, rs⟩ := rs.uncons
    cases rs.unnil
    cases r1
    cases r2
    obtain ⟨xs, q3, _⟩ := (R.chg a _ q1).2
    exact .inl ⟨.ref a, _, _, _, _, rfl, .ty _, .base (.lst q3), kit_sub .lst n, o _ _ F H M (Ext.refl F) R (.bl _) q2⟩
  · exact .inr (hs0 Z F H M vs ds Q QD R rs hd o)
theorem w_isiM {K : PySem.W.Frag} {a : Addr} {n : BT} {M : MH} {Q : VKD} : rIsiM K [.ref a, .ty n] M Q = ∃ l, M a = some (.lst l) ∧ Q (.bl (subB .lst n)) M := rfl
end
/-! ### comprehensions over a list that may change, but does not meanwhile -/
section
def lcGoM (p : Addr) (all : List Dat) (g : TGD) (tt : TTD) (te : TED) (ρ : EnvD) (mk : Bool) (Q : VKD) : List Dat → List Dat → MH → Prop
  | [], acc, M => M p = some (.lst all) ∧ newL mk acc M Q
  | x :: r, acc, M => M p = some (.lst all) ∧ g x ρ M fun ρ2 M2 => tt ρ2 M2 fun b M3 => if b = true then te ρ2 M3 fun y M4 => lcGoM p all g tt te ρ mk Q r (acc ++ [y]) M4 else lcGoM p all g tt te ρ mk Q r acc M3
def dLcM (mk : Bool) (vs : List Nat) (de : TED) (g : TGD) (tt : TTD) (te : TED) : TED := fun ρ M Q => de ρ M fun x M1 => ∃ (p : Addr) (ds : List Dat), x = .ref p ∧ M1 p = some (.lst ds) ∧ ds.length ≤ sizeLine ∧ lcGoM p ds g tt te (wipeD ρ vs) mk Q ds [] M1
theorem lcM_by {p : Addr} {all : List Dat} {g : TGD} {tt : TTD} {te : TED} {ρ : EnvD} {mk : Bool} {Q : VKD} (I : List Dat → List Dat → MH → Prop) (hend : ∀ acc M, I [] acc M → M p = some (.lst all) ∧ newL mk acc M Q)
    (step : ∀ x r acc M (k : List Dat → MH → Prop), I (x :: r) acc M → (∀ acc M, I r acc M → k acc M) → M p = some (.lst all) ∧ g x ρ M fun ρ2 M2 => tt ρ2 M2 fun b M3 => if b = true then te ρ2 M3 fun y M4 => k (acc ++ [y]) M4 else k acc M3) : ∀ ds acc M, I ds acc M → lcGoM p all g tt te ρ mk Q ds acc M
  | [], acc, M, h => hend acc M h
  | x :: r, acc, M, h => step x r acc M (fun acc M => lcGoM p all g tt te ρ mk Q r acc M) h fun acc M h => lcM_by I hend step r acc M h
theorem up_lcM {K : PySem.W.Frag} {mk : Bool} {vs : List Nat} {de : TED} {g : TGD} {tt : TTD} {te : TED} {σ : L2.St} {H : Hp} {Q : VK} (h : up K (dLcM mk vs de g tt te) σ H Q) : tLc (iList K (up K de)) (upGo K vs g) (upT K tt) (up K te) vs σ H Q := by
  obtain ⟨Z, F, M, ρ, QD, R, h, o⟩ := h
  refine ⟨Z, F, M, ρ, _, R, h, fun xv xd F1 H1 M1 e1 R1 rx h1 => ?_⟩
  obtain ⟨p, ds, rfl, hp1, hz, h1⟩ := h1
  cases rx
  have atp : ∀ {F' H' : Hp} {M' : MH}, RelM K Z F' H' M' → M' p = some (.lst ds) → ∃ xs, H' p = some (.lst xs) ∧ Reps K F' xs ds := fun R q => (R.chg p _ q).2
  refine ⟨p, rfl, ?_, ?_⟩
  · obtain ⟨xs, q, _⟩ := atp R1 hp1
    exact ⟨xs, SqL.of q⟩
  intro D hD
  have hidD : ∀ {F : Hp} {H : Hp} {M : MH} {accv : List V}, RelM K (upd Z D (.lst accv)) F H M → H D = some (.lst accv) ∧ F D = none ∧ M D = none := fun R => R.hid D _ upd_same
  -- the hidden list, put away and taken up
  have hide : ∀ {F H : Hp} {M : MH} {accv : List V}, RelM K Z F H M → H D = some (.lst accv) → F D = none → M D = none → RelM K (upd Z D (.lst accv)) F H M := fun {F H M accv} R hH hF hM =>
    ⟨R.sub, fun b u q => by
      by_cases hb : b = D
      · subst hb
        rw [upd_same] at q
        cases q
        exact ⟨hH, hF, hM⟩
      · rw [upd_ne hb] at q
        exact R.hid b u q, R.chg⟩
  have hZD : Z D = none := by
    cases q : Z D with
    | none => rfl
    | some u =>
      rw [(R1.hid D u q).1] at hD
      cases hD
  have bare : ∀ {F H : Hp} {M : MH} {accv : List V}, RelM K (upd Z D (.lst accv)) F H M → RelM K Z F H M := fun {F H M accv} R =>
    ⟨R.sub, fun b u q => R.hid b u (by rw [upd_ne (ne_of_none q hZD)]; exact q), R.chg⟩
  refine ⟨fun i m H => m = ds.length - i ∧ i ≤ ds.length ∧ ∃ F' M accv acc, Ext F1 F' ∧ RelM K Z F' H M ∧ H D = some (.lst accv) ∧ F' D = none ∧ M D = none ∧ Reps K F' accv acc ∧ acc.length ≤ i ∧ lcGoM p ds g tt te (wipeD ρ vs) mk QD (ds.drop i) acc M,
    ⟨ds.length, by simp, Nat.zero_le _, F1, M1, [], [], Ext.refl _, ⟨fun b u q => ?_, fun b u q => ?_, fun b m q => ?_⟩, upd_same, (R1.fresh hD).1, (R1.fresh hD).2, .nil, Nat.le_refl _, h1⟩, ?_⟩
  · rw [upd_ne (ne_of_none (R1.sub b u q) hD)]
    exact R1.sub b u q
  · obtain ⟨q1, q2, q3⟩ := R1.hid b u q
    exact ⟨by rw [upd_ne (ne_of_none q1 hD)]; exact q1, q2, q3⟩
  · obtain ⟨q1, q2⟩ := R1.chg b m q
    exact ⟨q1, q2.mono (Ext.refl _) (upd_ne (R1.ne hD q))⟩
  rintro i m H2 ⟨rfl, hi, F2, M2, accv, acc, e2, R2, a1, a2, a3, a4, a5, h2⟩
  by_cases hlt : i < ds.length
  · obtain ⟨d, hd⟩ : ∃ d, ds[i]? = some d := ⟨ds[i], List.getElem?_eq_getElem hlt⟩
    have hdr : ds.drop i = d :: ds.drop (i + 1) := by
      obtain ⟨h5, h6⟩ := List.getElem?_eq_some_iff.mp hd
      rw [List.drop_eq_getElem_cons h5, h6]
    rw [hdr] at h2
    unfold lcGoM at h2
    obtain ⟨hp2, h2⟩ := h2
    obtain ⟨xs2, q2, r2⟩ := atp R2 hp2
    obtain ⟨v2, hv2, rv2⟩ := r2.get hd
    refine .inr ⟨⟨xs2, v2, SqL.of q2, hv2⟩, fun H' => ∃ F' M accv acc, Ext F1 F' ∧ RelM K Z F' H' M ∧ H' D = some (.lst accv) ∧ F' D = none ∧ M D = none ∧ Reps K F' accv acc ∧ acc.length ≤ i + 1 ∧ lcGoM p ds g tt te (wipeD ρ vs) mk QD (ds.drop (i + 1)) acc M,
      fun H' n => ⟨ds.length - (i + 1), by omega, rfl, hlt, n⟩, fun x H' y => ?_⟩
    have R2h := hide R2 a1 a2 a3
    · obtain ⟨rfl, y⟩ := y
      have ex2 := (y xs2 (SqL.of q2)).symm.trans hv2
      cases ex2
      obtain ⟨F3, e3, R3, r3⟩ : ∃ F'', Ext F2 F'' ∧ RelM K (upd Z D (.lst accv)) F'' _ M2 ∧ Rep K F'' _ d := ⟨F2, Ext.refl _, R2h, rv2⟩
      have R0 : Rel K (upd Z D (.lst accv)) F3 H' M2 (wipe σ vs) (wipeD ρ vs) := ⟨R3, (wipeD_rep R.e vs).mono ((e1.trans e2).trans e3)⟩
      refine ⟨upd Z D (.lst accv), F3, M2, wipeD ρ vs, d, _, R0, r3, h2, fun σ4 ρ4 F4 H4 M4 e4 R4 wp h4 => ⟨wp.trans wipe_wipe, ?_⟩⟩
      refine ⟨upd Z D (.lst accv), F4, M4, ρ4, _, R4, h4, fun b F5 H5 M5 e5 R5 h5 => ?_⟩
      have e15 := ((e2.trans e3).trans e4).trans e5
      cases b with
      | true =>
        dsimp only at h5 ⊢
        rw [if_pos rfl] at h5 ⊢
        refine ⟨upd Z D (.lst accv), F5, M5, ρ4, _, R4.ext e5 R5, h5, fun yv yd F6 H6 M6 e6 R6 r6 h6 => ?_⟩
        obtain ⟨b1, b2, b3⟩ := hidD R6
        refine ⟨accv, b1, by have := a4.length; omega, F6, M6, accv ++ [yv], acc ++ [yd], e15.trans e6, ⟨fun b u q => ?_, fun b u q => ?_, fun b m q => ?_⟩, upd_same, b2, b3, (a4.mono (((e3.trans e4).trans e5).trans e6)).app (.one r6), by rw [List.length_append, List.length_singleton]; omega, h6⟩
        · rw [upd_ne (ne_of_none q b2)]
          exact R6.sub b u q
        · obtain ⟨q1, q2, q3⟩ := (bare R6).hid b u q
          exact ⟨by rw [upd_ne (ne_of_none q hZD)]; exact q1, q2, q3⟩
        · obtain ⟨q1, q2⟩ := R6.chg b m q
          exact ⟨q1, q2.mono (Ext.refl _) (upd_ne (ne_dom q b3))⟩
      | false =>
        dsimp only at h5 ⊢
        rw [if_neg Bool.false_ne_true] at h5 ⊢
        obtain ⟨b1, b2, b3⟩ := hidD R5
        exact ⟨F5, M5, accv, acc, e15, bare R5, b1, b2, b3, a4.mono ((e3.trans e4).trans e5), by omega, h5⟩
  · have e : i = ds.length := by omega
    subst e
    rw [List.drop_length] at h2
    unfold lcGoM at h2
    obtain ⟨hp2, h2⟩ := h2
    obtain ⟨xs2, q2, r2⟩ := atp R2 hp2
    refine .inl ⟨⟨xs2, SqL.of q2, by rw [r2.length]; exact Nat.le_refl _⟩, ?_⟩
    cases mk with
    | false =>
      have h2' : QD (.lst acc) M2 := h2
      have ee := Ext.new (o := .lst accv) a2
      refine o _ _ (upd F2 D (.lst accv)) H2 M2 ((e1.trans e2).trans ee) ⟨fun b u q => ?_, fun b u q => ?_, fun b m q => ?_⟩ (.lst upd_same (a4.mono ee)) h2'
      · by_cases hb : b = D
        · subst hb
          rw [upd_same] at q
          cases q
          exact a1
        · rw [upd_ne hb] at q
          exact R2.sub b u q
      · obtain ⟨q1, q2, q3⟩ := R2.hid b u q
        exact ⟨q1, by rw [upd_ne (ne_of_none q hZD)]; exact q2, q3⟩
      · obtain ⟨q1, q2⟩ := R2.chg b m q
        exact ⟨by rw [upd_ne (ne_dom q a3)]; exact q1, q2.mono ee rfl⟩
    | true =>
      have h2' := (show ∀ a, M2 a = none → QD (.ref a) (updM M2 a (.lst acc)) from h2) D a3
      refine o _ _ F2 H2 (updM M2 D (.lst acc)) (e1.trans e2) ⟨R2.sub, fun b u q => ?_, fun b m q => ?_⟩ (.ref D) h2'
      · obtain ⟨q1, q2, q3⟩ := R2.hid b u q
        exact ⟨q1, q2, by rw [updM_ne (ne_of_none q hZD)]; exact q3⟩
      · by_cases hb : b = D
        · subst hb
          rw [updM_same] at q
          cases q
          exact ⟨a2, accv, a1, a4⟩
        · rw [updM_ne hb] at q
          exact R2.chg b m q
variable {X : Cx}
theorem de_lcM (mk : Bool) {elt tg iter : Expr} {ifs : List Expr} {scope : Scope} {own : List (Str × Nat)} {pos : Pos} {de : TED} {g : TGD} {tt : TTD} {te : TED} (hN : X.N.Nodup) (hi : DE X iter de) (ok : BlkOk X.N X.env.scope scope own)
    (hg : ∀ (s : Shared) (H : Hp) (C : Addr) (cl : List (Str × Addr)) (fp : List Addr), DGo (X.blk s H scope (compEnvC scope cl C X.env) fp) tg (own.map (·.2)) g) (ht : ∀ (s : Shared) (H : Hp) (C : Addr) (cl : List (Str × Addr)) (fp : List Addr), DTs (X.blk s H scope (compEnvC scope cl C X.env) fp) ifs tt)
    (he : ∀ (s : Shared) (H : Hp) (C : Addr) (cl : List (Str × Addr)) (fp : List Addr), DE (X.blk s H scope (compEnvC scope cl C X.env) fp) elt te) (hc : X.calm = true := by rfl) (hs : ∀ x, foldedSetIterable iter X.env x = pure x := by intro _; rfl) :
    DE X (.ListComp elt [⟨tg, iter, ifs, 0⟩] scope pos) (dLcM mk (own.map (·.2)) de g tt te) := pe_w (pe_lc hc hN (pi_list hi) ok hg ht he hs) fun σ H Q h => up_lcM h
theorem ds_setLcM {i : Nat} (mk : Bool) {y : Str} {py : Pos} {elt tg iter : Expr} {ifs : List Expr} {scope : Scope} {own : List (Str × Nat)} {pos spos : Pos} {de : TED} {g : TGD} {tt : TTD} {te : TED} (hN : X.N.Nodup) (hi : DE X iter de) (ok : BlkOk X.N X.env.scope scope own)
    (hg : ∀ (s : Shared) (H : Hp) (C : Addr) (cl : List (Str × Addr)) (fp : List Addr), DGo (X.blk s H scope (compEnvC scope cl C X.env) fp) tg (own.map (·.2)) g) (ht : ∀ (s : Shared) (H : Hp) (C : Addr) (cl : List (Str × Addr)) (fp : List Addr), DTs (X.blk s H scope (compEnvC scope cl C X.env) fp) ifs tt)
    (he : ∀ (s : Shared) (H : Hp) (C : Addr) (cl : List (Str × Addr)) (fp : List Addr), DE (X.blk s H scope (compEnvC scope cl C X.env) fp) elt te) (hy : X.N[i]? = some y := by rfl) (hyl : X.env.scope.names.lookup y = some .local := by rfl)
    (hsw : swapsWith (.ListComp elt [⟨tg, iter, ifs, 0⟩] scope pos) (some (.Name y py)) spos.line X.env = pure true := by exact sw_true rfl rfl rfl (by decide +kernel)) (hc : X.calm = true := by rfl) (hs : ∀ x, foldedSetIterable iter X.env x = pure x := by intro _; rfl) :
    DS X (.Assign [.Name y py] (.ListComp elt [⟨tg, iter, ifs, 0⟩] scope pos) spos) (dAsg (dLcM mk (own.map (·.2)) de g tt te) (dgN i)) := ps_w (ps_setLc hc hN hy hyl hsw (pi_list hi) ok hg ht he hs) fun D σ H ⟨Z, F, M, ρ, DD, R, h, o⟩ => by
  refine up_lcM (Q := fun x H1 => gName i x σ H1 D.nx) ⟨Z, F, M, ρ, _, R, h, fun v d F1 H1 M1 e1 R1 r1 h1 => ?_⟩
  refine o.nx _ _ _ _ _ e1 ⟨R1, ?_⟩ h1
  rw [setD_set]
  exact (R.e.mono e1).set r1 i
end
end DL
/-! own exceptions over ArithmeticError, whose __init__ hands a text to the base's and stores one field -/
namespace PySem
namespace AEX
open PySem.W PySem.Calls PyProof.Rows PySem.HandSPX Builtin Builtin.ObjectAttr
abbrev aeTail : List Value := [.type "ArithmeticError", .type "Exception", .type "BaseException", .type "object"]
/-- classes of the text, then ArithmeticError's own row -/
def overAE : List Value → Bool
  | .ref _ :: r => overAE r
  | l => l == aeTail
theorem overAE_or (l : List Value) (h : overAE l = true) : l = aeTail ∨ ∃ c r, l = Value.ref c :: r ∧ overAE r = true := by
  unfold overAE at h
  split at h
  · exact Or.inr ⟨_, _, rfl, h⟩
  · exact Or.inl (beq_iff_eq.mp h)
theorem overAE_passes (x : Value) (l : List Value) : overAE l = true → refuseLoop x "__setattr__" l = pure () := by
  induction l with
  | nil => exact fun h => absurd h (by decide)
  | cons y l ih =>
    intro h
    rcases overAE_or _ h with e | ⟨c, r, e, h2⟩
    · rw [e]
      exact F.store_ArithmeticError.passes x
    · injection e with e1 e2
      subst e1 e2
      rw [refuseLoop_ref]
      exact ih h2
theorem overAE_has (T : String) (l : List Value) : overAE l = true → l.contains (.type T) = aeTail.contains (.type T) := by
  induction l with
  | nil => exact fun h => absurd h (by decide)
  | cons y l ih =>
    intro h
    rcases overAE_or _ h with e | ⟨c, r, e, h2⟩
    · rw [e]
    · injection e with e1 e2
      subst e1 e2
      rw [List.contains_cons, ih h2]
      rfl
theorem overAE_some {l : List Value} (h : overAE l = true) : l.isEmpty = false := by
  cases l with
  | nil => exact absurd h (by decide)
  | cons y l => rfl
section
variable {prog : Program} {w : World} {A : Around} {E : Value → Shared → Prop} {R : Result → Shared → Prop} {hp : Heap} {g : Array GenState} {dr : Drawn} {tc : Nat} {os : OsState}
/-- the first field of a fresh exception -/
theorem sets_first {K : W.Frag} {name : Str} {tk : Tok} {v : Value} {x C : Addr} {fv : Array Value} {cd : ClassData} (kin : K.In hp) (hx : hp.get? x = some { cls := .ref C, data := .fields fv })
    (hcd : W.clsIn K C = some cd) (hm : overAE cd.mro = true) (hdict : cd.hasDict = true) (hno : W.findIn K (.ref C) name = some none)
    (hq : ∀ h' tk' dx, (∀ b o, b ≠ x → hp.get? b = some o → h'.get? b = some o) → hp.objs.size ≤ dx → dx ≠ x →
      h'.get? x = some { cls := .ref C, dict := some dx, data := .fields fv } → h'.Ns1 dx (fun y => if y = name then some v else none) → R (.ok (.ret .none)) ⟨h', g, dr, tk', os⟩) :
    codeAny (model prog w) A (.call (.builtin "object.__setattr__") ⟨[.ref x, .str name tk, v], []⟩) R ⟨hp, g, dr, tc, os⟩ := by
  have J : W.InstAt hp x { cls := .ref C, data := .fields fv } C none := ⟨hx, rfl, rfl, trivial⟩
  have S := F.store_object
  have isObj : cd.mro.contains (.type "object") = true := by
    rw [overAE_has "object" _ hm]
    decide +kernel
  have hxs : x ≠ hp.objs.size := Nat.ne_of_lt (Heap.lt_size hx)
  have mro : W.mroIn K C (.type "object") = some true := by
    unfold W.mroIn
    rw [hcd, Option.bind_some, if_neg (by rw [overAE_some hm]; decide), isObj]
  have below : W.Looks (model prog w) hp (isInstance (.ref x) (.type "object")) true := J.type.andThen (W.looks_mroIn kin mro)
  refine codeAny_call_builtin S.slot.plain S.entry (W.check_slot (s := ⟨hp, g, dr, tc, os⟩) (i := "object.__setattr__") S.kind S.split below (S.args (.ref x) (.str name tk) v) ?_)
  have hrow : W.Looks (model prog w) hp (mroOf (.ref C)) cd.mro := (W.looks_clsIn kin hcd).andThen .now
  have hnone : W.Looks (model prog w) hp (storeTaker? none) none := .now
  have hthe : W.Looks (model prog w) hp (classData C) cd := W.looks_clsIn kin hcd
  rw [W.osa_eq, refuse_eq]
  refine wpAny_bind (wpAny_bind (J.type.at (wpAny_bind (hrow.at ?_))))
  rw [overAE_passes _ _ hm]
  refine wpAny_pure (wpAny_bind (J.type.at (wpAny_bind ((W.looks_findIn kin hno).at (wpAny_bind (hnone.at ?_))))))
  show wpAny _ _ (storeInOwnDict (.ref x) (.ref C) (.str name tk) name v false) _ _ _
  obtain ⟨n1, n2, mro1, n3, n4, hasD, n5, n6, n7, n8, n9⟩ := cd
  dsimp only at hdict
  subst hdict
  unfold storeInOwnDict ownDictForStores
  repeat (first | with_reducible refine store_in_new ?_ ?_ | with_reducible refine wpAny_loadPart_at hx ?_ | with_reducible refine hthe.at ?_ | wp_step)
  · exact ⟨_, #[], _, (Heap.get?_update_ne _ _ _ _ hxs.symm).trans (Heap.get?_push_at rfl rfl), rfl, fun e he => absurd he (by simp), fun _ => rfl⟩
  intro h' tk' hn' hs
  have hx1 : (hp.push { cls := .type "dict", data := .dict #[] }).get? x = some { cls := .ref C, data := .fields fv } := Heap.get?_push_of_some _ hx
  refine hq h' tk' hp.objs.size (fun b o hb ho => ?_) (Nat.le_refl _) hxs.symm ?_ hn'
  · refine (hs.2 b (Nat.ne_of_lt (Heap.lt_size ho))).trans ?_
    exact (Heap.get?_update_ne _ _ _ _ hb).trans (Heap.get?_push_of_some _ ho)
  · exact (hs.2 x hxs).trans (Heap.get?_update_self _ hx1 rfl)
end
end AEX
end PySem
namespace DL
open PySem PySem.Spec PyProof.Rows L2
/-- what the written part says of such a class -/
structure AeC (K : PySem.W.Frag) (C : Addr) : Prop where
  cls : ∃ nm q N bs bm sn sub ab col dd k0 k1 k2 k3 k5, K.lookup C = some (excClassObj nm q C N bs bm true sn sub ab col dd k0 k1 k2 k3 k5 "ArithmeticError.__new__") ∧ PySem.AEX.overAE bm = true
  sa : PySem.W.findIn K (.ref C) "__setattr__" = some (some (.builtin "object.__setattr__"))
  exC : PySem.W.subIn K (.ref C) (.type "BaseException") = some true
  tyC : PySem.W.typeIn K (.ref C) = some (.type "type")
  kC : PySem.W.keepIn K (.ref C) = true
theorem ext_ne {a b : Addr} {H : Hp} {p : Heap → Prop} {q : HO} (ha : H a = some (.ext p)) (hb : H b = some q) (n : ∀ p, HO.ext p ≠ q) : b ≠ a := fun e => by
  rw [e, ha] at hb
  exact n p (Option.some.inj hb)
theorem exo_is {e C : Addr} {d : Option Addr} : ∃ p, exo e C d = .ext p := ⟨_, rfl⟩
section
variable {X : Cx} {pins : List (Addr × Obj)} {σ : L2.St} {H : Hp} {s : Shared} {a C : Addr} {f : Str} {y : V} {u : Value} {A : Around} {E : Value → Shared → Prop}
/-- self.f = y, on the exception that is being made -/
theorem ae_set {Q : Unit → Shared → Prop} (T : AeC X.K C) (I : Inv X pins σ H s) (e : H a = some (exo a C none)) (hno : PySem.W.findIn X.K (.ref C) f = some none) (ry : RelV y u)
    (h : ∀ dx s', H dx = none → dx ≠ a → Inv X pins σ (upd (upd H dx (exd dx [(f, y)])) a (exo a C (some dx))) s' → Q () s') : wpAny (model X.prog X.w) A (setAttr (.ref a) f u) Q E s := by
  obtain ⟨n1, n2, N, bs, bm, sn, sub, ab, col, dd, k0, k1, k2, k3, k5, hC, hbm⟩ := T.cls
  have hcl : PySem.W.clsIn X.K C = some { name := n1, bases := bs, mro := .ref C :: bm, ns := N, qualname := n2, hasDict := true, slotNames := sn, subclasses := sub, abstract := ab, collection := col, hasDel := false } := by
    unfold PySem.W.clsIn
    rw [hC] <;> rfl
  obtain ⟨t1, ho⟩ := exo_at I.hok e
  obtain ⟨p0, hp0⟩ := exo_is (e := a) (C := C) (d := none)
  have e0 : H a = some (.ext p0) := by rw [e, hp0]
  obtain ⟨hp, g, dr, tc, os⟩ := s
  refine PySem.W.set_plain I.kIn (od := none) ⟨ho, rfl, rfl, trivial⟩ T.sa ?_
  refine PySem.AEX.sets_first I.kIn ho hcl (show PySem.AEX.overAE (.ref C :: bm) = true from hbm) rfl hno (fun h' tk' dx kept dn dne hx hn => ?_)
  have dnone : H dx = none := I.hok.fresh dn
  have ndx : ∀ {b : Addr} {o : Obj}, hp.get? b = some o → b ≠ dx := fun {b o} q => Nat.ne_of_lt (Nat.lt_of_lt_of_le (Heap.lt_size q) dn)
  have nea : ∀ {b : Addr}, H b = none → b ≠ a := fun {b} n z => by
    rw [z, e] at n
    cases n
  have there : ∀ {b : Addr} {o : HO}, H b = some o → b ≠ dx := fun {b o} q => ne_of_none q dnone
  have U : Un X.fs [] H (upd (upd H dx (exd dx [(f, y)])) a (exo a C (some dx))) hp h' := by
    refine ⟨fun b o q n _ _ => kept b o (nea n) q, fun b o q n _ _ => ⟨o.slots, kept b o (nea n) q⟩, fun b o q n _ => ?_, fun b o q _ => ?_, fun b xs q => ?_, fun b o v q => ?_, fun b ps q => ⟨#[], ?_⟩⟩
    · rw [upd_ne (nea n), upd_ne (ndx q)]
      exact n
    · by_cases hb : b = a
      · exact ⟨_, by rw [hb]; exact hx⟩
      · exact ⟨o, kept b o hb q⟩
    · rw [upd_ne (ext_ne e0 q fun _ z => by cases z), upd_ne (there q)]
      exact q
    · rw [upd_ne (ext_ne e0 q fun _ z => by cases z), upd_ne (there q)]
      exact q
    · rw [upd_ne (ext_ne e0 q fun _ z => by cases z), upd_ne (there q), q]
      simp
  refine h dx _ dnone dne (I.un (t' := tk') U fun b o q => ?_)
  by_cases hb : b = a
  · subst hb
    rw [upd_same] at q
    cases q
    exact exo_ok hx
  rw [upd_ne hb] at q
  by_cases hd : b = dx
  · subst hd
    rw [upd_same] at q
    cases q
    exact exd_ok hn (relO_put (fs := []) ry fun g => True.intro)
  rw [upd_ne hd] at q
  refine (I.hok b o q).stay (fun c v hc z => kept c v ?_ z) (fun c hc => ?_) fun c xs hc => ?_
  · rcases hc with hc | hc
    · rw [hc]
      exact hb
    · exact ext_ne e0 hc fun _ z => by cases z
  · rw [upd_ne (ext_ne e0 hc fun _ z => by cases z), upd_ne (there hc)]
    exact hc
  · rw [upd_ne (ext_ne e0 hc fun _ z => by cases z), upd_ne (there hc)]
    exact hc
/-- the base's __init__ -/
theorem ae_base {us : List Value} {Q : Value → Shared → Prop} (T : AeC X.K C) (I : Inv X pins σ H s) (e : H a = some (exo a C none)) (hl : us.length ≤ sizeLine) (h : ∀ s', Inv X pins σ H s' → Q .none s') :
    wpAny (model X.prog X.w) A (call (.builtin "ArithmeticError.__init__") (.ref a :: us)) Q E s := by
  obtain ⟨n1, n2, N, bs, bm, sn, sub, ab, col, dd, k0, k1, k2, k3, k5, hC, hbm⟩ := T.cls
  obtain ⟨t1, ho⟩ := exo_at I.hok e
  obtain ⟨hp, g, dr, tc, os⟩ := s
  refine wpAny_call (PySem.HandSPX.init_base F.excBase_ArithmeticError (fun Y => PySem.AEX.overAE_has Y bm hbm) (I.kIn _ _ hC) ho hl fun h' t2 kept hx => ?_)
  have J := I.write (t' := tc) (x := a) (e := a) (o := exo a C none) (by rw [e]; trivial) (.inl rfl) kept ⟨_, hx⟩ (exo_ok hx)
  have same : upd H a (exo a C none) = H := by
    funext b
    by_cases hb : b = a
    · rw [hb, upd_same, e]
    · exact upd_ne hb
  rw [same] at J
  exact h _ J
end
/-! ### the base's __init__ by the name of its own class -/
/-- the base class of the text, at B -/
structure AeB (K : PySem.W.Frag) (mg : Str → Option Value) (x : Str) (B : Addr) : Prop where
  gB : mg x = some (.ref B)
  rd : PySem.W.readsIn K B (.type "type") = true
  ga : PySem.W.specialIn K (.ref B) "__getattribute__" = some (some (.builtin "type.__getattribute__"))
  fi : PySem.W.findCls K (.ref B) (.type "type") "__init__" = some (.val (.builtin "ArithmeticError.__init__"))
def tAeI (K : PySem.W.Frag) (ta : TA) : TE := fun σ H Q => ta σ H fun vs H1 => ∃ (a C : Addr) (ws : List V), vs = .ref a :: ws ∧ ws.length ≤ 1000 ∧ AeC K C ∧ H1 a = some (exo a C none) ∧ Q .non H1
def tAeS (K : PySem.W.Frag) (f : Str) (to te : TE) : TS := fun D σ H => te σ H fun y H1 => to σ H1 fun x H2 => ∃ a C : Addr, x = .ref a ∧ AeC K C ∧ PySem.W.findIn K (.ref C) f = some none ∧
  H2 a = some (exo a C none) ∧ ∀ dx, H2 dx = none → dx ≠ a → D.nx σ (upd (upd H2 dx (exd dx [(f, y)])) a (exo a C (some dx)))
section
variable {X : Cx} {B : Addr} {x f : Str} {o e : Expr} {es : List Expr} {to te : TE} {ta : TA} {p p' p1 p2 pos : Pos}
theorem pe_aeInit {pl : Sem Bool} (b : AeB X.K X.mg x B) (hg : Gl X x) (ha : PA X (e :: es) ta) (hdb : (x == ("__debug__" : Str)) = false)
    (hc : eval (.Call (.Attribute (.Name x p1) "__init__" p2) (e :: es) [] pos) X.env = (do
      let ov ← eval (.Name x p1) X.env
      standAt p2.atName
      let (f, first) ← holding [ov] (getMethod ov "__init__" pl)
      callWith pos f first (backTo pos (starEach (e :: es) X.env)) (backToKw pos (keywordEach [] X.env))))
    (he : starEach (e :: es) X.env = (false, eval e X.env) :: starEach es X.env) (hpl : (backTo pos (starEach es X.env)).any (·.1) = false) :
    PE X (.Call (.Attribute (.Name x p1) "__init__" p2) (e :: es) [] pos) (tAeI X.K ta) := by
  refine ⟨fun pins s σ H Q I h => ?_⟩
  refine PySem.W.methodCall_KW (ld_glob I hg b.gB ?_ hdb) hc
  refine PySem.W.method_cls I.kIn b.ga (PySem.W.cls_value I.kIn b.rd b.fi (by decide +kernel) ?_)
  show wpAny _ _ (callWith pos (Value.builtin "ArithmeticError.__init__") [] (backTo pos (starEach (e :: es) X.env)) []) _ _ _
  refine PyProof.Rows.callWith_method1 (thn (ha.run pos pins _ σ H _ (I.tok _) h) fun us s1 ⟨vs, H1, I1, r1, a, C, ws, ev, hl, T, ea, q⟩ => ?_) he hpl
  subst ev
  cases r1 with
  | @cons _ u0 _ ur ra rw' =>
    have hu : u0 = Value.ref a := ra
    subst hu
    have hlen : ur.length ≤ sizeLine := by
      have := Paired.length rw'
      rw [sizeLine_eq]
      omega
    exact ae_base T I1 ea hlen fun s' J => ⟨.non, H1, J, rfl, q⟩
theorem ps_aeSet (ho : PE X o to) (he : PE X e te) (hs : swapsWith e (some (.Attribute o f p')) pos.line X.env = pure false) : PS X (.Assign [.Attribute o f p'] e pos) (tAeS X.K f to te) := by
  refine ⟨fun pins s σ H D I h => ?_⟩
  refine plainObj_wpAny_Assign_Attribute (thn (he.run pins s σ H _ I h) fun v s1 ⟨y, H1, I1, r1, q1⟩ => thn (ho.run pins s1 σ H1 _ I1 q1) fun u s2 ⟨x, H2, I2, r2, a, C, ex, T, hno, ea, q⟩ => ?_) hs
  subst ex
  have hu : u = Value.ref a := r2
  subst hu
  exact ae_set T I2 ea hno r1 fun dx s' n ne J => ⟨σ, _, J, q dx n ne⟩
end
/-! ### the exception made -/
/-- what __init__ keeps -/
def spAe (K : PySem.W.Frag) (C : Addr) (f : Str) : Sp := fun vs H Q _ => ∃ (a : Addr) (v : V), vs = [.ref a, v] ∧ H a = some (exo a C none) ∧ ∀ dx, H dx = none → dx ≠ a → Q .non (upd (upd H dx (exd dx [(f, v)])) a (exo a C (some dx)))
/-- the class x at C, whose __init__(self, f) is walked -/
structure ErrD (P : Program) (w : World) (K : PySem.W.Frag) (mg : Str → Option Value) (base : Heap) (x : Str) (C : Addr) (f : Str) : Prop where
  ae : AeC K C
  gC : mg x = some (.ref C)
  ex : ∃ (fI : Addr) (fd : FuncData), PySem.W.findIn K (.ref C) "__init__" = some (some (.ref fI)) ∧ PySem.W.typeIn K (.ref fI) = some (.type "function") ∧ Binds K fd ["self", f] [] ∧ FnOk P w K mg base CX0 2 fI fd ["self", f] (spAe K C f)
theorem ae_ok {P : Program} {w : World} {K : PySem.W.Frag} {mg : Str → Option Value} {base : Heap} {qual f : Str} {st : Stmt} {fI : Addr} {fd : FuncData} {C : Addr} (T : AeC K C) (F : Fun K "__init__" qual st fI fd) (S : FnScope ["self", f] ["self", f] (defScope st)) (hno : PySem.W.findIn K (.ref C) f = some none) {m : Str}
    (body : ∀ (cdv : Value) (A : Around) (outer : List Env) (s : Shared) (H : Hp) (E : XK), PSs (cxOf CX0 P w K mg base ["self", f] qual (defScope st) fI cdv A outer s H E).nox (defBody st) (tSeq (tDrop (tAeI K (tCons (tVar 0) (tCons (tC (.str m)) tNil)))) (tAeS K f (tVar 0) (tVar 1)))) :
    FnOk P w K mg base CX0 2 fI fd ["self", f] (spAe K C f) := by
  refine F.ok S (fun vs H Q E h => ?_) (fun cdv A outer s H vs Q E hr h => ⟨_, body cdv A outer s H E, ?_⟩)
  · obtain ⟨a, v, rfl, _⟩ := h
    rfl
  · obtain ⟨a, v, rfl, h1, h2⟩ := h
    refine ⟨.ref a, rfl, a, C, [.str m], rfl, (show 1 ≤ 1000 by decide), T, h1, ?_⟩
    exact ⟨v, rfl, .ref a, rfl, a, C, rfl, T, hno, h1, h2⟩
section
variable {X : Cx} {x f : Str} {C : Addr} {e : Expr} {ta : TA} {p pos pos2 : Pos}
theorem pmk_ae {k : Nat} (T : ErrD X.prog X.w X.K X.mg X.base x C f) (hr : Room k X.A) (hk : 3 ≤ k) (hg : Gl X x) (ha : PA X [e] ta) (hdb : (x == ("__debug__" : Str)) = false)
    (he : starEach [e] X.env = (false, eval e X.env) :: starEach [] X.env) (hpl : (backTo pos (starEach [] X.env)).any (·.1) = false) :
    PMk X (.Call (.Name x p) [e] [] pos) (fun σ H Q => ta σ H fun vs H1 => ∃ v, vs = [v] ∧ ∀ d, H1 d = none → Q (.ref C) (some d) (upd H1 d (.xd [(f, v)]))) := by
  obtain ⟨T0, gC, fI, fd, iC, tI, hb, F1⟩ := T
  have hr1 : Room (2 + 1) X.A := hr.mono hk
  intro pins s σ H Q I h
  obtain ⟨n1, n2, N, bs, bm, sn, sub, ab, col, dd, k0, k1, k2, k3, k5, hC, hbm⟩ := T0.cls
  refine wpAny_Call_Name_kw (ld_glob I hg gC ?_ hdb)
  refine PySem.W.callWith_K (h₀ := X.base) I.ok.mod.kin T0.kC (thn (ha.run pos pins s σ H _ I h) fun us s1 ⟨vs, H1, I1, r1, v, ev, q1⟩ => ⟨I1.kIn, ?_⟩) he hpl
  subst ev
  show wpAny _ _ (call (.ref C) us) _ _ _
  obtain ⟨hp, g, dr, tc, os⟩ := s1
  have big : hp.objs.size ≤ hp.objs.size + 1 := Nat.le_succ _
  have hn : H1 (hp.objs.size + 1) = none := I1.hok.fresh big
  generalize ha0 : hp.objs.size + 1 = a at hn big
  have kept : ∀ b o, hp.get? b = some o → ((hp.push (PySem.W.kdv_tup us)).push (PySem.HandSPX.excO C hp.objs.size)).get? b = some o := fun b o e => Heap.get?_push_of_some _ (Heap.get?_push_of_some _ e)
  have here : ((hp.push (PySem.W.kdv_tup us)).push (PySem.HandSPX.excO C hp.objs.size)).get? a = some (PySem.HandSPX.excO C hp.objs.size) := by
    rw [← ha0]
    heap_get
  have I2 := I1.laid (t' := tc) (a := a) (o := exo a C none) kept big (exo_ok here)
  have r2 : Vals [V.ref a, v] (Value.ref a :: us) := .cons rfl r1
  have hl2 : (Value.ref a :: us).length = (["self", f] : List Str).length := r2.length.symm
  have hus : us.length ≤ sizeLine := by
    have := r1.length
    rw [sizeLine_eq, ← this]
    exact (show 1 ≤ 16777216 by decide)
  have hsp : spAe X.K C f [V.ref a, v] (upd H1 a (exo a C none)) (fun r H2 => r = .non ∧ ∃ (d : Addr) (fs : List (Str × V)), H2 a = some (exo a C (some d)) ∧ H2 d = some (exd d fs) ∧ H1 d = none ∧ Q (.ref C) (some d) (upd (del H2 a) d (.xd fs))) (fun _ _ _ => False) := by
    refine ⟨a, v, rfl, upd_same, fun dx hdx hne => ⟨rfl, dx, [(f, v)], upd_same, ?_, ?_, ?_⟩⟩
    · rw [upd_ne hne, upd_same]
    · rw [upd_ne hne] at hdx
      exact hdx
    · rw [upd_ne hne] at hdx
      have := q1 dx hdx
      refine Eq.mp (congrArg (Q (.ref C) (some dx)) ?_) this
      funext b
      by_cases b1 : b = dx
      · subst b1
        rw [upd_same, upd_same]
      rw [upd_ne b1, upd_ne b1]
      by_cases b2 : b = a
      · subst b2
        rw [del_same, hn]
      · rw [del_ne b2, upd_ne b2, upd_ne b1, upd_ne b2]
  have hbind := hb (⟨(hp.push (PySem.W.kdv_tup us)).push (PySem.HandSPX.excO C hp.objs.size), g, dr, tc, os⟩ : Shared) (Value.ref a :: us) I2.kIn (by rw [List.append_nil]; exact hl2)
  rw [List.append_nil] at hbind
  refine wpAny_call (PySem.HandSPX.call_own F.excBase_ArithmeticError (fun Y => PySem.AEX.overAE_has Y bm hbm) (I1.kIn _ _ hC) (PySem.W.looks_findIn I1.kIn iC) (fun self => PySem.W.bind_fn I1.kIn self tI) hus ?_)
  rw [ha0]
  refine codeAny_mono (F1.run _ X.stack _ _ ⟨Value.ref a :: us, []⟩ (Value.ref a :: us) _ _ (fun _ _ _ => False) (hr1.make C us []) (I2.env0.make C us []) hbind r2 hsp) fun r s' hq' => ?_
  cases r with
  | error er => exact (show False from hq').elim
  | ok fl =>
    cases fl with
    | ret u =>
      obtain ⟨v2, H2, os2, bare2, un2, hok2, rv, ev, d, fs, ea, ed, hd1, q2⟩ := hq'
      subst ev
      obtain ⟨h2, g2, d2, t2, os'⟩ := s'
      exact ⟨rv, mk_end (raises_own T0.exC T0.tyC) I1 big kept un2 hok2 os2 bare2 ea ed hd1 q2⟩
    | next => exact False.elim hq'
    | brk => exact False.elim hq'
    | cont => exact False.elim hq'
end
end DL
/-! exceptions over data: defs that may raise, try .. except C as e -/
namespace DL
open PySem PySem.Spec PyProof.Rows L2 LamX NdefX
/-- what is wished of an exception: its class, its field, what this holds -/
abbrev XKD := Addr → Str → Dat → MH → Prop
abbrev XDt := Addr → Str → Dat → EnvD → MH → Prop
abbrev SpXD := List Dat → MH → VKD → XKD → Prop
/-- an exception's dict, with its one field -/
def xdR (K : PySem.W.Frag) (f : Str) (x : Dat) : OthR := ⟨fun F o => ∃ v, o = .xd [(f, v)] ∧ Rep K F v x, fun F F' o e ⟨v, h1, h2⟩ => ⟨v, h1, h2.mono e⟩⟩
def OkE (K : PySem.W.Frag) (Z F : Hp) (E : XK) (ED : XKD) : Prop := ∀ (C dd : Addr) (f : Str) (x : Dat) (F' H' : Hp) (M' : MH), Ext F F' → RelM K Z F' H' (updM M' dd (.oth (xdR K f x))) → M' dd = none → ED C f x M' → E (.ref C) (some dd) H'
def OkW (K : PySem.W.Frag) (Z F : Hp) (W : WX) (WD : XDt) : Prop := ∀ (C dd : Addr) (f : Str) (x : Dat) (σ' : L2.St) (ρ' : EnvD) (F' H' : Hp) (M' : MH), Ext F F' → RelM K Z F' H' (updM M' dd (.oth (xdR K f x))) → M' dd = none → RelE K F' σ' ρ' → WD C f x ρ' M' → W (.ref C) (some dd) σ' H'
theorem OkE.mono {K : PySem.W.Frag} {Z F F' : Hp} {E : XK} {ED : XKD} (o : OkE K Z F E ED) (e : Ext F F') : OkE K Z F' E ED := fun C dd f x G H M g => o C dd f x G H M (e.trans g)
theorem OkW.mono {K : PySem.W.Frag} {Z F F' : Hp} {W : WX} {WD : XDt} (o : OkW K Z F W WD) (e : Ext F F') : OkW K Z F' W WD := fun C dd f x σ ρ G H M g => o C dd f x σ ρ G H M (e.trans g)
def upX (K : PySem.W.Frag) (W : WX) (d : XDt → TED) : TE := fun σ H Q => ∃ Z F M ρ QD WD, Rel K Z F H M σ ρ ∧ d WD ρ M QD ∧ OkV K Z F Q QD ∧ OkW K Z F W WD
def upSX (K : PySem.W.Frag) (W : WX) (d : XDt → TSD) : TS := fun D σ H => ∃ Z F M ρ DD WD, Rel K Z F H M σ ρ ∧ d WD DD ρ M ∧ OkS K Z F D DD ∧ OkW K Z F W WD
abbrev DEX (X : Cx) (W : WX) (e : Expr) (d : XDt → TED) : Prop := PE X e (upX X.K W d)
abbrev DSX (X : Cx) (W : WX) (st : Stmt) (d : XDt → TSD) : Prop := PS X st (upSX X.K W d)
abbrev DSsX (X : Cx) (W : WX) (sts : List Stmt) (d : XDt → TSD) : Prop := PSs X sts (upSX X.K W d)
/-! ### blocks -/
section
variable {X : Cx} {W : WX} {st : Stmt} {rest : List Stmt} {t u : XDt → TSD} {t0 : TSD} {e : Expr} {de : XDt → TED} {de0 : TED} {tc : TTD} {pos : Pos}
theorem PS.ofNox {t : TS} (h : PS X.nox st t) : PS X st t := ⟨fun pins s σ H D I hw => wpAny_mono (h.run pins s σ H D (I.wish _) hw) (fun _ _ q => q.unwish) fun _ _ z => False.elim z⟩
theorem dsx_of (h : DS X.nox st t0) : DSX X W st (fun _ => t0) := ps_w (PS.ofNox h) fun D σ H ⟨Z, F, M, ρ, DD, WD, R, h, o, _⟩ => ⟨Z, F, M, ρ, DD, R, h, o⟩
theorem dssx_of (h : DSs X.nox rest t0) : DSsX X W rest (fun _ => t0) := pss_w h.nox fun D σ H ⟨Z, F, M, ρ, DD, WD, R, h, o, _⟩ => ⟨Z, F, M, ρ, DD, R, h, o⟩
theorem dex_of (h : DE X e de0) : DEX X W e (fun _ => de0) := pe_w h fun σ H Q ⟨Z, F, M, ρ, QD, WD, R, h, o, _⟩ => ⟨Z, F, M, ρ, QD, R, h, o⟩
def xNext : XDt → TSD := fun _ D ρ M => D.nx ρ M
def xSeq (t u : XDt → TSD) : XDt → TSD := fun WD D ρ M => t WD { D with nx := u WD D } ρ M
def xNever : XDt → TSD := fun _ _ _ _ => False
theorem dssx_never : DSsX X W rest xNever := pss_w pss_never fun D σ H ⟨Z, F, M, ρ, DD, WD, R, h, _⟩ => h.elim
theorem dssx_nil : DSsX X W [] xNext := dssx_of dss_nil
theorem dssx_one (h1 : DSX X W st t) : DSsX X W [st] t := pss_one h1
theorem dssx_cons (h1 : DSX X W st t) (h2 : DSsX X W rest u) : DSsX X W (st :: rest) (xSeq t u) := pss_w (pss_cons h1 h2) fun D σ H ⟨Z, F, M, ρ, DD, WD, R, h, o, ow⟩ =>
  ⟨Z, F, M, ρ, _, WD, R, h, ⟨fun σ' ρ' F' H' M' e R' q => ⟨Z, F', M', ρ', DD, WD, R', q, o.mono e, ow.mono e⟩, o.rt, o.bk, o.ct⟩, ow⟩
def xIf (c : TTD) (t u : XDt → TSD) : XDt → TSD := fun WD D ρ M => c ρ M fun b M1 => if b = true then t WD D ρ M1 else u WD D ρ M1
theorem dsx_if {c : Expr} {p q : List Stmt} (hc : DT X c tc) (ha : DSsX X W p t) (hb : DSsX X W q u) : DSX X W (.If c p q pos) (xIf tc t u) := ps_w (ps_if hc ha hb) fun D σ H ⟨Z, F, M, ρ, DD, WD, R, h, o, ow⟩ => by
  refine ⟨Z, F, M, ρ, _, R, h, fun k F1 H1 M1 e1 R1 h1 => ?_⟩
  cases k with
  | true =>
    rw [if_pos rfl] at h1 ⊢
    exact ⟨Z, F1, M1, ρ, DD, WD, R.ext e1 R1, h1, o.mono e1, ow.mono e1⟩
  | false =>
    rw [if_neg Bool.false_ne_true] at h1 ⊢
    exact ⟨Z, F1, M1, ρ, DD, WD, R.ext e1 R1, h1, o.mono e1, ow.mono e1⟩
def xDrop (de : XDt → TED) : XDt → TSD := fun WD D ρ M => de WD ρ M fun _ M1 => D.nx ρ M1
theorem dsx_expr (he : DEX X W e de) (hs : swapsWith e none pos.line X.env = pure false := by rfl) : DSX X W (.Expr e pos) (xDrop de) := ps_w (ps_expr he hs) fun D σ H ⟨Z, F, M, ρ, DD, WD, R, h, o, ow⟩ =>
  ⟨Z, F, M, ρ, _, WD, R, h, fun v d F1 H1 M1 e1 R1 r1 h1 => o.nx _ _ _ _ _ e1 (R.ext e1 R1) h1, ow⟩
def xRet (de : XDt → TED) : XDt → TSD := fun WD D ρ M => de WD ρ M D.rt
theorem dsx_ret (he : DEX X W e de) : DSX X W (.Return (some e) pos) (xRet de) := ps_w (ps_ret he) fun D σ H ⟨Z, F, M, ρ, DD, WD, R, h, o, ow⟩ => ⟨Z, F, M, ρ, _, WD, R, h, o.rt, ow⟩
def xAsg (de : XDt → TED) (g : TGD) : XDt → TSD := fun WD D ρ M => de WD ρ M fun x M1 => g x ρ M1 D.nx
theorem dsx_set {i : Nat} {x : Str} {pos' : Pos} (hN : X.N.Nodup) (he : DEX X W e de) (hi : X.N[i]? = some x := by rfl) (hx : Loc X.env.scope x := by first | exact Or.inl rfl | exact Or.inr rfl) (hs : swapsWith e (some (.Name x pos')) pos.line X.env = pure false := by rfl) (hf : X.fn x = true ∨ X.env.scope.names.lookup x = some .local := by first | exact .inl rfl | exact .inr rfl | assumption) :
    DSX X W (.Assign [.Name x pos'] e pos) (xAsg de (dgN i)) := ps_w (ps_set hN hi hx he hs hf) fun D σ H ⟨Z, F, M, ρ, DD, WD, R, h, o, ow⟩ => by
  refine ⟨Z, F, M, ρ, _, WD, R, h, fun v d F1 H1 M1 e1 R1 r1 h1 => ?_, ow⟩
  refine o.nx _ _ _ _ _ e1 ⟨R1, ?_⟩ h1
  rw [setD_set]
  exact (R.e.mono e1).set r1 i
end
/-! ### raise, calls that may raise -/
def toSpX (K : PySem.W.Frag) (sp : SpXD) : Sp := fun vs H Q E => ∃ Z F M ds QD ED, RelM K Z F H M ∧ Reps K F vs ds ∧ sp ds M QD ED ∧ OkV K Z F Q QD ∧ OkE K Z F E ED
structure FnX (P : Program) (w : World) (K : PySem.W.Frag) (mg : Str → Option Value) (base : Heap) (k : Nat) (x : Str) (st : Stmt) (ps : List Str) (sp : SpXD) : Prop where
  ex : ∃ f fd, Fun K x x st f fd ∧ mg x = some (.ref f) ∧ Binds K fd ps [] ∧ FnOk P w K mg base (L2.CX P w) k f fd ps (toSpX K sp)
section
variable {X : Cx} {W : WX} {x f : Str} {C : Addr} {k k2 : Nat} {st : Stmt} {ps : List Str} {sp : SpXD} {e : Expr} {es : List Expr} {de : TED} {dA : TAD} {p pos pos2 : Pos}
def xRaise (C : Addr) (f : Str) (de : TED) : XDt → TSD := fun WD _ ρ M => de ρ M fun y M1 => WD C f y ρ M1
theorem dsx_raise (T : ErrD X.prog X.w X.K X.mg X.base x C f) (hr : Room k2 X.A) (tk : Takes X W) (he : DE X e de) (hk : 3 ≤ k2 := by decide) (hc : X.calm = true := by rfl) (hg : Gl X x := by rfl) (hdb : (x == ("__debug__" : Str)) = false := by decide)
    (hee : starEach [e] X.env = (false, eval e X.env) :: starEach [] X.env := by rfl) (hpl : (backTo pos (starEach [] X.env)).any (·.1) = false := by rfl) : DSX X W (.Raise (some (.Call (.Name x p) [e] [] pos)) none pos2) (xRaise C f de) :=
  ps_w (ps_raise hc tk (pmk_ae T hr hk hg (da_cons he da_nil hee) hdb hee hpl)) fun D σ H ⟨Z, F, M, ρ, DD, WD, R, h, o, ow⟩ => by
    refine ⟨Z, F, M, ρ, (fun ds M1 => match ds with | [y] => WD C f y ρ M1 | _ => False), R, h, fun vs ds F1 H1 M1 e1 R1 r1 h1 => ?_⟩
    dsimp only at h1 ⊢
    split at h1
    · rename_i y
      obtain ⟨v, ws, rfl, rv, r2⟩ := r1.uncons
      cases r2.unnil
      refine ⟨v, rfl, fun d hd => ow C d f y σ ρ F1 _ M1 e1 ?_ (R1.fresh hd).2 (R.e.mono e1) h1⟩
      exact R1.newM hd ⟨_, upd_same, v, rfl, rv⟩
    · exact h1.elim
def xCall (sp : SpXD) (dA : TAD) : XDt → TED := fun WD ρ M Q => dA ρ M fun ds M1 => sp ds M1 Q fun C f x M' => WD C f x ρ M'
theorem dex_call (F : FnX X.prog X.w X.K X.mg X.base k x st ps sp) (hr : Room k2 X.A) (tk : Takes X W) (ha : DA X (e :: es) dA) (hk : k ≤ k2 := by decide) (hg : Gl X x := by rfl) (hdb : (x == ("__debug__" : Str)) = false := by decide)
    (he : starEach (e :: es) X.env = (false, eval e X.env) :: starEach es X.env := by rfl) (hpl : (backTo pos (starEach es X.env)).any (·.1) = false := by rfl) : DEX X W (.Call (.Name x p) (e :: es) [] pos) (xCall sp dA) := by
  obtain ⟨f, fd, F, hm, hb, ok⟩ := F.ex
  refine pe_w (pe_callS ok (hr.mono hk) hg hm F.kp hb (fun σ => passAt tk σ) ha hdb he hpl) fun σ H Q ⟨Z, F, M, ρ, QD, WD, R, h, o, ow⟩ => ?_
  refine ⟨Z, F, M, ρ, _, R, h, fun vs ds F1 H1 M1 e1 R1 r1 h1 => ⟨Z, F1, M1, ds, QD, _, R1, r1, h1, o.mono e1, ?_⟩⟩
  exact fun C dd f x F' H' M' e' R' n q => ow C dd f x σ ρ F' H' M' (e1.trans e') R' n (R.e.mono (e1.trans e')) q
end
/-- behind a def: what it has made beside is forgotten -/
def endX (ED : XKD) : XDt := fun C f x _ M' => ∃ M0, LeM M0 M' ∧ ED C f x M0
theorem endX_of {ED : XKD} {C : Addr} {f : Str} {x : Dat} {ρ : EnvD} {M : MH} (h : ED C f x M) : endX ED C f x ρ M := ⟨M, LeM.refl M, h⟩
theorem okW_end {K : PySem.W.Frag} {Z F : Hp} {E : XK} {ED : XKD} (o : OkE K Z F E ED) : OkW K Z F (fun cls d _ H => E cls d H) (endX ED) := fun C dd f x σ ρ F' H' M' e R n re ⟨M0, l, q⟩ => o C dd f x F' H' M0 e (R.le l.upd) (l.none n) q
theorem okS_end {K : PySem.W.Frag} {Z F : Hp} {Q : VK} {QD : VKD} (o : OkV K Z F Q QD) : OkS K Z F { nx := fun _ H' => Q .non H', rt := Q } { nx := fun _ M' => endD QD .non M', rt := endD QD } := by
  refine ⟨?_, ?_, ?_, ?_⟩
  · intro σ' ρ' F' H' M' e R' q
    obtain ⟨M0, l, q⟩ := q
    exact o _ _ F' H' M0 e (R'.m.le l) .non q
  · intro v d F' H' M' e R' rr q
    obtain ⟨M0, l, q⟩ := q
    exact o _ _ F' H' M0 e (R'.le l) rr q
  · intro σ' ρ' F' H' M' e R' q
    exact q.elim
  · intro σ' ρ' F' H' M' e R' q
    exact q.elim
section
variable {P : Program} {w : World} {K : PySem.W.Frag} {mg : Str → Option Value} {base : Heap}
abbrev wishE (E : XK) : WX := fun cls d _ H => E cls d H
theorem fnx_mk {x : Str} {st : Stmt} {N ps : List Str} {k : Nat} {sp : SpXD} (h : HasFn K mg x x st ps) (S : FnScope N ps (defScope st)) (n : Nat) (hn : N.length = n) (len : ∀ ds M Q ED, sp ds M Q ED → ds.length = ps.length)
    (body : ∀ (f : Addr) (cdv : Value) (A : Around) (outer : List Env) (s : Shared) (H : Hp) (E : XK), Room k (A.deeper (envOfC x (defScope st) s.heap.objs.size f cdv)) → Takes (cxOf (L2.CX P w) P w K mg base N x (defScope st) f cdv A outer s H E) (wishE E) →
      ∃ d, DSsX (cxOf (L2.CX P w) P w K mg base N x (defScope st) f cdv A outer s H E) (wishE E) (defBody st) d ∧ ∀ ds M Q ED, sp ds M Q ED → d (endX ED) { nx := fun _ M' => endD Q .non M', rt := endD Q } (startD n ds) M) : FnX P w K mg base (k + 1) x st ps sp := by
  obtain ⟨f, fd, F, hm, hb⟩ := h.ex
  refine ⟨f, fd, F, hm, hb, F.okX S (fun vs H Q E h => ?_) (fun cdv A outer s H vs Q E hr h => ?_)⟩
  · obtain ⟨Z, F, M, ds, QD, ED, R, r, h, _⟩ := h
    rw [r.length]
    exact len ds M QD ED h
  · obtain ⟨d, hd, hb2⟩ := body f cdv A outer s H E hr (takes_of rfl rfl rfl rfl)
    obtain ⟨Z, F1, M, ds, QD, ED, R, r, h, o, oe⟩ := h
    refine ⟨_, hd, Z, F1, M, startD n ds, _, _, ⟨R, ?_⟩, hb2 ds M QD ED h, okS_end o, okW_end oe⟩
    have hl := len ds M QD ED h
    have hp : ps.length ≤ N.length := by
      have := congrArg List.length S.pre
      rw [List.length_take] at this
      omega
    unfold L2.start
    rw [← hn]
    exact startD_rep N.length r (by omega)
end
/-! ### try: body, except x as n: suite -/
def wipeE (i : Nat) (D : EndsD) : EndsD := { nx := fun ρ M => D.nx (setD ρ i none) M, rt := D.rt, bk := fun ρ M => D.bk (setD ρ i none) M, ct := fun ρ M => D.ct (setD ρ i none) M }
def dTryAs (K : PySem.W.Frag) (c : Value) (i : Nat) (tb : XDt → TSD) (ts : Addr → Addr → Addr → TSD) : TSD := fun D ρ M =>
  tb (fun C f x ρ' M' => PySem.W.exmOne K (.ref C) c = some true ∧ ∀ a dd, M' a = none → M' dd = none → a ≠ dd → ts a C dd (wipeE i D) (setD ρ' i (some (.ref a))) (updM M' dd (.oth (xdR K f x)))) D ρ M
section
variable {X : Cx} {x n : Str} {c : Value} {i : Nat} {body suite : List Stmt} {b₀ : Stmt} {np pos pos' : Pos} {tb : XDt → TSD} {ts : Addr → Addr → Addr → TSD}
theorem takes_no : Takes X (fun _ _ _ _ => False) := fun _ _ ⟨_, _, _, _, _, _, _, _, _, _, _, _, _, _, _, _, w⟩ => w.elim
theorem okS_wipe {K : PySem.W.Frag} {Z F : Hp} {D : Ends} {DD : EndsD} (i : Nat) (o : OkS K Z F D DD) : OkS K Z F { nx := fun σ' H' => D.nx (σ'.set i none) H', rt := D.rt, bk := fun σ' H' => D.bk (σ'.set i none) H', ct := fun σ' H' => D.ct (σ'.set i none) H' } (wipeE i DD) := by
  have go : ∀ {F' H' : Hp} {M' : MH} {σ' : L2.St} {ρ' : EnvD}, Rel K Z F' H' M' σ' ρ' → Rel K Z F' H' M' (σ'.set i none) (setD ρ' i none) := fun R => ⟨R.m, by
    rw [setD_set]
    exact R.e.unset i⟩
  exact ⟨fun σ' ρ' F' H' M' e R q => o.nx _ _ F' H' M' e (go R) q, o.rt, fun σ' ρ' F' H' M' e R q => o.bk _ _ F' H' M' e (go R) q, fun σ' ρ' F' H' M' e R q => o.ct _ _ F' H' M' e (go R) q⟩
theorem ds_try_as (hN : X.N.Nodup) (hc : Names X x c) (hb : ∀ (W : WX) (pn : List (Addr × Obj)) (xe : Value → Shared → Prop), Takes (X.tr pn xe) W → DSsX (X.tr pn xe) W body tb)
    (hsu : ∀ (a C dd : Addr) (oe : Obj) (pn : List (Addr × Obj)), Zc (.ref C) (some dd) oe → (∃ vs, oe.data = .fields vs) → DSs (X.suite a ((a, oe) :: pn)) (b₀ :: suite) (ts a C dd))
    (hi : X.N[i]? = some n := by rfl) (hln : X.env.kindOf n = some .local := by rfl) (hs : X.stack = X.env :: X.outer := by rfl) (hf : X.env.frame = some X.env.locals := by rfl) :
    DS X (.Try body [.ExceptHandler (some (.Name x np)) (some n) (b₀ :: suite) pos'] [] [] pos) (dTryAs X.K c i tb ts) := by
  refine ps_w (ps_try_as (tb := fun W => upSX X.K W tb) (ts := fun a cls d D σ H => ∃ C dd, cls = .ref C ∧ d = some dd ∧ upS X.K (ts a C dd) D σ H) hs hf hN hi hln hc takes_no (fun W pn xe tk _ => hb W pn xe tk) fun a oe cls d pn hz hd => ⟨fun pins s σ H D I h => ?_⟩) fun D σ H ⟨Z, F, M, ρ, DD, R, h, o⟩ => ?_
  · obtain ⟨C, dd, rfl, rfl, h⟩ := h
    exact (hsu a C dd oe pn hz hd).run pins s σ H D I h
  · refine ⟨Z, F, M, ρ, DD, _, R, h, o, fun C dd f x σ' ρ' F' H' M' e' R' nd re q => ⟨true, q.1, fun _ a ha => ?_, fun z => nomatch z⟩⟩
    have hne : a ≠ dd := fun z => by
      have := (R'.fresh ha).2
      rw [z, updM_same] at this
      cases this
    have hMa : M' a = none := by
      have := (R'.fresh ha).2
      rw [updM_ne hne] at this
      exact this
    refine ⟨C, dd, rfl, rfl, Z, F', _, _, wipeE i DD, ⟨R', ?_⟩, q.2 a dd hMa nd hne, okS_wipe i (o.mono e')⟩
    rw [setD_set]
    exact re.set (.ref a) i
/-- e.f of the exception that the suite holds -/
def dXf (K : PySem.W.Frag) (a C dd : Addr) (f : Str) (de : TED) : TED := fun ρ M Q => (XfC K C ∧ PySem.W.findIn K (.ref C) f = some none) ∧ de ρ M fun y M1 => y = .ref a ∧ ∃ x, M1 dd = some (.oth (xdR K f x)) ∧ Q x M1
theorem de_xf {a C dd : Addr} {oe : Obj} {pn : List (Addr × Obj)} {e : Expr} {de : TED} {f : Str} (hz : Zc (.ref C) (some dd) oe) (hd : ∃ vs, oe.data = .fields vs) (he : DE (X.suite a ((a, oe) :: pn)) e de) (hb : attributeBase e f X.env (eval e X.env) = eval e X.env := by rfl) :
    DE (X.suite a ((a, oe) :: pn)) (.Attribute e f pos) (dXf X.K a C dd f de) := by
  refine ⟨fun pins s σ H Q I h => ?_⟩
  obtain ⟨Z, F, M, ρ, QD, R, ⟨⟨T, hno⟩, h⟩, o⟩ := h
  refine (pe_xf T hno hz hd he hb).run pins s σ H Q I ⟨Z, F, M, ρ, _, R, h, fun v y F1 H1 M1 e1 R1 r1 h1 => ?_⟩
  obtain ⟨rfl, x, h2, h3⟩ := h1
  cases r1
  obtain ⟨ob, q1, w, rfl, rw⟩ := (R1.chg dd _ h2).2
  exact ⟨rfl, rfl, dd, _, w, rfl, q1, by simp [List.lookup], o _ _ F1 H1 M1 e1 R1 rw h3⟩
end
end DL
/-! lambdas that may raise, and defs that call them in a try -/
namespace DL
open PySem PySem.Spec PyProof.Rows L2 LamX NdefX
def toSpLX (K : PySem.W.Frag) (sp : SpXD) : List (Option V) → Sp := fun ws vs H Q E => ∃ Z F M ds cs QD ED ws', RelM K Z F H M ∧ Reps K F vs ds ∧ ws = ws'.map some ∧ Reps K F ws' cs ∧ sp (ds ++ cs) M QD ED ∧ OkV K Z F Q QD ∧ OkE K Z F E ED
structure LamXD (P : Program) (w : World) (K : PySem.W.Frag) (mg : Str → Option Value) (base : Heap) (k : Nat) (L : LamC) (ps fr : List Str) (sp : SpXD) : Prop where
  ok : ∀ (qual : Str) (cl : List (Str × Addr)) (c : Addr), LOk P w K mg base (L2.CX P w) k ⟨L, qual, cl, c⟩ ps fr (toSpLX K sp)
/-- the object at f is the lambda F, its defaults dv -/
def LamDO (f : Addr) (F : LF) (dv : Value) : HO := .ext fun h => ∃ (od : Option Addr) (sl : Array (Option Value)) (pm ctv doc : Value), h.get? f = some (⟨.type "function", od, .func { F.fd pm ctv with defaults := dv, doc := doc }, sl⟩ : Obj)
theorem lamDO_at {P : Program} {w : World} {H : Hp} {h : Heap} {f : Addr} {F : LF} {dv : Value} (hok : HOk P w H h) (e : H f = some (LamDO f F dv)) : ∃ (od : Option Addr) (sl : Array (Option Value)) (pm ctv doc : Value), h.get? f = some (⟨.type "function", od, .func { F.fd pm ctv with defaults := dv, doc := doc }, sl⟩ : Obj) := by
  obtain ⟨z, _, _⟩ := hok f _ e
  exact z
/-- whatever heap bears this at fc: a function stands there -/
def IsFnO (fc : Addr) (o : HO) : Prop := ∀ (P : Program) (w : World) (H : Hp) (h : Heap), ObjOk P w H h fc o → PySem.W.FnAt fc h
theorem isFnO_lam (fc : Addr) (F : LF) : IsFnO fc (LamO fc F) := fun P w H h ⟨⟨od, sl, pm, ctv, ho⟩, _⟩ => ⟨_, od, _, sl, ho⟩
theorem isFnO_lamD (fc : Addr) (F : LF) (dv : Value) : IsFnO fc (LamDO fc F dv) := fun P w H h ⟨⟨od, sl, pm, ctv, doc, ho⟩, _⟩ => ⟨_, od, _, sl, ho⟩
/-- what is known of the closure at fc, which may raise -/
structure CloX (P : Program) (w : World) (K : PySem.W.Frag) (mg : Str → Option Value) (base : Heap) (kc : Nat) (outer : List Env) (s : Shared) (H : Hp) (fc : Addr) (φ : OthR) (C : SpXD) : Prop where
  isL : ∀ F o, φ.rel F o → IsFnO fc o
  run : ∀ (A' : Around) (outer' : List Env) (s1 : Shared) (HZ : Hp) (us : List Value) (vs : List V) (Q : VK) (E : XK), Room kc A' → Env0 P w K mg base A' outer' s1 HZ → Un (frs outer) [] H HZ s.heap s1.heap → Vals vs us →
    toSpX K (fun ds M QD ED => M fc = some (.oth φ) ∧ C ds M QD ED) vs HZ Q E → codeAny (model P w) A' (.call (.ref fc) ⟨us, []⟩) (CR (L2.CX P w) outer' P w HZ s1 Q E) s1
abbrev GSpX := Addr → OthR → SpXD → SpD
structure GnXD (P : Program) (w : World) (K : PySem.W.Frag) (mg : Str → Option Value) (base : Heap) (k kc : Nat) (x : Str) (st : Stmt) (ps : List Str) (G : GSpX) : Prop where
  ex : ∃ f fd, Fun K x x st f fd ∧ mg x = some (.ref f) ∧ Binds K fd ps [] ∧ (∀ fc φ C ds M Q, G fc φ C ds M Q → ds.length = ps.length) ∧
    ∀ (A : Around) (outer : List Env) (s : Shared) (H : Hp) (fc : Addr) (φ : OthR) (C : SpXD) (args : Args) (us : List Value) (vs : List V) (Q : VK) (E : XK), CloX P w K mg base kc outer s H fc φ C → Room k A → Env0 P w K mg base A outer s H →
      BindsTo s fd args (ps.zip us) → Vals vs us → toSp K (G fc φ C) vs H Q E → codeAny (model P w) A (.call (.ref f) args) (CR CX0 outer P w H s Q E) s
section
variable {P : Program} {w : World} {K : PySem.W.Frag} {mg : Str → Option Value} {base : Heap} {N ps fr : List Str} {k : Nat} {L : LamC}
theorem lamx_mk {sp : SpXD} (S : NScope N ps fr L.scope) (n : Nat) (hn : N.length = n) (hb : ∀ (qual : Str) (cl : List (Str × Addr)) (c : Addr) (pm ctv : Value) (us : List Value), us.length = ps.length → bindArgs ((⟨L, qual, cl, c⟩ : LF).fd pm ctv) ⟨us, []⟩ = pure (ps.zip us)) (len : ∀ ds M Q ED, sp ds M Q ED → ds.length = ps.length + fr.length)
    (body : ∀ (qual : Str) (cl : List (Str × Addr)) (c f : Addr) (A : Around) (outer : List Env) (s : Shared) (H : Hp) (E : XK), Room k (A.deeper (envF (⟨L, qual, cl, c⟩ : LF).nf f s.heap.objs.size)) → Takes (ncx (L2.CX P w) P w K mg base N (⟨L, qual, cl, c⟩ : LF).nf f A outer s H E) (wishE E) →
      ∃ d, DEX (ncx (L2.CX P w) P w K mg base N (⟨L, qual, cl, c⟩ : LF).nf f A outer s H E) (wishE E) L.body d ∧ ∀ ds M Q ED, sp ds M Q ED → d (endX ED) (startD n ds) M (endD Q)) : LamXD P w K mg base (k + 1) L ps fr sp := by
  have hnl : ps.length + fr.length ≤ n := by
    have := congrArg List.length S.pre
    rw [List.length_take, List.length_append] at this
    omega
  refine ⟨fun qual cl c => lok_of S (hb qual cl c) (fun ws vs H Q E hw h => ?_) fun f A outer s H vs ws Q E hr hw h => ?_⟩
  · obtain ⟨Z, F, M, ds, cs, QD, ED, ws', R, r1, rfl, r2, h, o, oe⟩ := h
    have h1 := len _ _ _ _ h
    rw [List.length_append] at h1
    rw [List.length_map] at hw
    have h2 := r2.length
    rw [r1.length]
    omega
  · obtain ⟨d, hd, hb2⟩ := body qual cl c f A outer s H E hr (takes_of rfl rfl rfl rfl)
    obtain ⟨Z, F, M, ds, cs, QD, ED, ws', R, r1, rfl, r2, h, o, oe⟩ := h
    refine ⟨_, hd, Z, F, M, startD n (ds ++ cs), endD QD, _, ⟨R, ?_⟩, hb2 _ M QD ED h, ?_, okW_end oe⟩
    · have h1 := len _ _ _ _ h
      have h2 := startD_rep (K := K) (F := F) n (r1.app r2) (by rw [h1]; exact hnl)
      unfold startF
      rw [List.map_append, List.append_assoc, List.length_append] at h2
      rw [hn, List.length_map, Nat.sub_sub]
      exact h2
    · intro v d F' H' M' e R' rr q
      obtain ⟨M0, l, q⟩ := q
      exact o _ _ F' H' M0 e (R'.le l) rr q
theorem gnx_mk {kc : Nat} {x : Str} {st : Stmt} {N ps : List Str} {k : Nat} {G : GSpX} (h : HasFn K mg x x st ps) (S : FnScope N ps (defScope st)) (n : Nat) (hn : N.length = n) (len : ∀ fc φ C ds M Q, G fc φ C ds M Q → ds.length = ps.length)
    (body : ∀ (f : Addr) (cdv : Value) (A : Around) (outer : List Env) (s : Shared) (H : Hp) (E : XK), Room k (A.deeper (envOfC x (defScope st) s.heap.objs.size f cdv)) → ∀ (fc : Addr) (φ : OthR) (C : SpXD), CloX P w K mg base kc outer s H fc φ C →
      ∃ d, DSs (cxOf CX0 P w K mg base N x (defScope st) f cdv A outer s H E).nox (defBody st) d ∧ ∀ ds M Q, G fc φ C ds M Q → d { nx := fun _ M' => endD Q .non M', rt := endD Q } (startD n ds) M) : GnXD P w K mg base (k + 1) kc x st ps G := by
  obtain ⟨f, fd, F, hm, hb⟩ := h.ex
  refine ⟨f, fd, F, hm, hb, len, fun A outer s H fc φ C args us vs Q E hC hr e0 hbd r h => ?_⟩
  obtain ⟨oc, od, kV, doc, pm, an, cdv, ct, osl, rfl, lk, hcd⟩ := F.ex
  obtain ⟨Z, F1, M, ds, QD, R, rr, h, o⟩ := h
  have hl := len _ _ _ _ _ _ h
  refine run_ofS (N := N) (ps := ps) (us := us) (vs := vs) lk hcd S hr e0 hbd r (by rw [rr.length]; exact hl) fun hr' => ?_
  obtain ⟨d, hd, hb⟩ := body f cdv A outer s H E hr' fc φ C hC
  refine ⟨_, hd.nox, Z, F1, M, startD n ds, { nx := fun _ M' => endD QD .non M', rt := endD QD }, ⟨R, ?_⟩, hb ds M QD h, ⟨?_, ?_, ?_, ?_⟩⟩
  · have hp : ps.length ≤ N.length := by
      have := congrArg List.length S.pre
      rw [List.length_take] at this
      omega
    unfold L2.start
    rw [← hn]
    exact startD_rep N.length rr (by omega)
  · intro σ' ρ' F' H' M' e R' q
    obtain ⟨M0, l, q⟩ := q
    exact o _ _ F' H' M0 e (R'.m.le l) .non q
  · intro v d F' H' M' e R' rr q
    obtain ⟨M0, l, q⟩ := q
    exact o _ _ F' H' M0 e (R'.le l) rr q
  · intro σ' ρ' F' H' M' e R' q
    exact q.elim
  · intro σ' ρ' F' H' M' e R' q
    exact q.elim
end
/-- the closure called -/
def xCallC (i : Nat) (fc : Addr) (φ : OthR) (C : SpXD) (dA : TAD) : XDt → TED := fun WD ρ M Q => (∃ d, atD ρ i = some d ∧ d = .ref fc) ∧ M fc = some (.oth φ) ∧ dA ρ M fun ds M1 => M1 fc = some (.oth φ) ∧ C ds M1 Q fun C' f x M' => WD C' f x ρ M'
section
variable {X : Cx} {W : WX} {kc k2 i : Nat} {fc : Addr} {φ : OthR} {C : SpXD} {x : Str} {p pos : Pos}
theorem clo_fnAtD {P : Program} {w : World} {K : PySem.W.Frag} {Z F H : Hp} {M : MH} {h : Heap} (hL : ∀ F o, φ.rel F o → IsFnO fc o) (R : RelM K Z F H M) (hok : HOk P w H h) (hM : M fc = some (.oth φ)) : PySem.W.FnAt fc h := by
  obtain ⟨o, h1, h2⟩ := (R.chg fc _ hM).2
  exact hL F o h2 _ _ _ _ (hok fc _ h1)
theorem run_cloX {pins : List (Addr × Obj)} {σ : L2.St} {H : Hp} {s : Shared} {Q : VK} {us : List Value} {vs : List V} (hC : CloX X.prog X.w X.K X.mg X.base kc X.outer X.s_0 X.H_0 fc φ C) (hr : Room kc X.A) (tk : Takes X W) (hex : X.ex = []) (I : Inv X pins σ H s) (r : Vals vs us)
    (q : toSpX X.K (fun ds M QD ED => M fc = some (.oth φ) ∧ C ds M QD ED) vs H Q (WE W σ)) : wpAny (model X.prog X.w) X.A (call (.ref fc) us) (EP X pins σ Q) X.xe s := by
  have un : Un (frs X.outer) [] X.H_0 H X.s_0.heap s.heap := by
    have := I.base
    rw [hex] at this
    exact this
  refine wpAny_call (codeAny_mono (hC.run X.A X.stack s H us vs Q (WE W σ) hr I.env0 un r q) fun r s' hq => ?_)
  cases r with
  | error e => exact passAt tk σ pins H s e s' I hq
  | ok fl =>
    cases fl with
    | ret u => exact I.after hq
    | next => exact False.elim hq
    | brk => exact False.elim hq
    | cont => exact False.elim hq
theorem dex_callC0 (hC : CloX X.prog X.w X.K X.mg X.base kc X.outer X.s_0 X.H_0 fc φ C) (hr : Room k2 X.A) (tk : Takes X W) (hk : kc ≤ k2 := by decide) (hN : X.N[i]? = some x := by rfl) (hv : Vis X.env.scope x := by first | exact Or.inl rfl | exact Or.inr (Or.inl rfl) | exact Or.inr (Or.inr rfl)) (hex : X.ex = [] := by rfl)
    (hdb : (x == ("__debug__" : Str)) = false := by decide) (hcd : (x == ("__classdict__" : Str)) = false := by decide) : DEX X W (.Call (.Name x p) [] [] pos) (xCallC i fc φ C dNil) := by
  refine ⟨fun pins s σ H Q I h => ?_⟩
  obtain ⟨Z, F, M, ρ, QD, WD, R, ⟨⟨d, h1, rfl⟩, hM, h⟩, o, ow⟩ := h
  obtain ⟨v, q, r⟩ := R.e.at_ i _ (atD_get h1)
  cases r
  refine wpAny_Call_Name_kw (thn ((pe_var (pos := p) hN hv hdb hcd).run pins s σ H (fun v H1 => v = .ref fc ∧ H1 = H) I ⟨.ref fc, q, rfl, rfl⟩) fun u s1 ⟨v, H1, I1, r1, q1⟩ => ?_)
  obtain ⟨rfl, rfl⟩ := q1
  cases r1
  exact PySem.W.callWith_F0 (first := []) (clo_fnAtD hC.isL R.m I1.hok hM) (run_cloX hC (hr.mono hk) tk hex I1 .nil ⟨Z, F, M, [], QD, _, R.m, .nil, h, o, fun C dd f x F' H' M' e' R' n q => ow C dd f x σ ρ F' H' M' e' R' n (R.e.mono e') q⟩)
end
/-! ### a def called with a lambda that may raise -/
def dCallGX (G : GSpX) (sp : SpXD) (dAL : TADL) : TED := fun ρ M Q => dAL ρ M fun ds fc φ cs M1 => M1 fc = some (.oth φ) ∧ G fc φ (fun es M' Q' ED => sp (es ++ cs) M' Q' ED) ds M1 Q
section
variable {X : Cx} {L : LamC} {js : List Nat} {pl fr : List Str} {k kc kl k2 : Nat} {x : Str} {st : Stmt} {ps : List Str} {G : GSpX} {sp : SpXD} {dAL : TADL} {e : Expr} {es : List Expr} {p pos : Pos}
theorem clo_ofX {pins : List (Addr × Obj)} {σ : L2.St} {H Z F : Hp} {M : MH} {s : Shared} {fc : Addr} {Gf : LF} {ws : List V} {cs : List Dat} (ld : LamXD X.prog X.w X.K X.mg X.base kl L pl fr sp) (hk : kl ≤ kc) (I : Inv X pins σ H s) (h1 : Gf.L = L) (h2 : Gf.cl = cloFrom X.env.cells L.scope.names []) (h3 : js.map (slotAt σ) = ws.map some)
    (hcap : X.Ok → Caps X (cloFrom X.env.cells L.scope.names []) fr js) : CloX X.prog X.w X.K X.mg X.base kc X.stack s H fc (cloR X.K Gf fc ws cs) (fun es M' Q' ED => sp (es ++ cs) M' Q' ED) := by
  obtain ⟨L', qual, cl, c⟩ := Gf
  have h1 : L' = L := h1
  have h2 : cl = cloFrom X.env.cells L.scope.names [] := h2
  subst h1
  subst h2
  refine ⟨fun F o h => (by rw [h.1]; exact isFnO_lam _ _), fun A' outer' s1 HZ us vs Q E hr e0 un r h => ?_⟩
  obtain ⟨Z2, F2, M2, ds, QD, ED, R2, rr, ⟨hM, hsp⟩, o, oe⟩ := h
  obtain ⟨ob, hob, hL, hc, rws⟩ := (R2.chg fc _ hM).2
  subst hL
  have C := cells_of I (hcap I.ok)
  have C2 : CellsAt (cloFrom X.env.cells L'.scope.names []) fr (js.map (slotAt σ)) s1.heap HZ := by
    have kp : ∀ y c, (cloFrom X.env.cells L'.scope.names []).lookup y = some c → ∀ v, s.heap.IsCell c v → s1.heap.IsCell c v := fun y c e v ⟨o, ho, hd⟩ => by
      obtain ⟨sl, q⟩ := un.any ho (C.all y c e).1 (by simp)
      exact ⟨_, q, hd⟩
    refine ⟨C.len, fun y c e => ?_, C.inj, fun i y e => ?_⟩
    · obtain ⟨n, v, z⟩ := C.all y c e
      refine ⟨?_, v, kp y c e v z⟩
      obtain ⟨o, ho, _⟩ := z
      exact un.free c o ho n (by simp)
    · obtain ⟨c, hc, hv⟩ := C.has i y e
      refine ⟨c, hc, fun v ev => ?_⟩
      obtain ⟨u, r, z⟩ := hv v ev
      exact ⟨u, r, kp y c hc _ z⟩
  rw [h3] at C2
  exact (ld.ok qual _ c).run A' outer' s1 HZ fc us vs (ws.map some) Q E (hr.mono hk) e0 hob (R2.sub _ _ hc) C2 r ⟨Z2, F2, M2, ds, cs, QD, ED, ws, R2, rr, rfl, rws, hsp, o, oe⟩
theorem de_callGX (Gd : GnXD X.prog X.w X.K X.mg X.base k kc x st ps G) (ld : LamXD X.prog X.w X.K X.mg X.base kl L pl fr sp) (hkl : kl ≤ kc) (hr : Room k2 X.A) (ha : DAL X (e :: es) L js dAL) (hk : k ≤ k2) (hcap : X.Ok → Caps X (cloFrom X.env.cells L.scope.names []) fr js) (hg : Gl X x := by rfl) (hdb : (x == ("__debug__" : Str)) = false := by decide)
    (he : starEach (e :: es) X.env = (false, eval e X.env) :: starEach es X.env := by rfl) (hpl : (backTo pos (starEach es X.env)).any (·.1) = false := by rfl) : DE X (.Call (.Name x p) (e :: es) [] pos) (dCallGX G sp dAL) := by
  obtain ⟨f, fd, F, hm, hb, len, run⟩ := Gd.ex
  refine ⟨fun pins s σ H Q I h => ?_⟩
  obtain ⟨Z, F0, M, ρ, QD, R, h, o⟩ := h
  refine wpAny_Call_Name_kw (ld_glob I hg hm ?_ hdb)
  refine PySem.W.callWith_K (h₀ := X.base) I.ok.mod.kin F.kp (wpAny_mono (ha.run pos pins s σ H Z F0 M ρ _ (fun vs Gf H' => ∃ ds fc ws cs F' M', Ext F0 F' ∧ RelM X.K Z F' H' M' ∧ Reps X.K F' vs ds ∧ Gf.L = L ∧ Gf.cl = cloFrom X.env.cells L.scope.names [] ∧ js.map (slotAt σ) = ws.map some ∧
      G fc (cloR X.K Gf fc ws cs) (fun es M' Q' ED => sp (es ++ cs) M' Q' ED) ds M' QD) I R h fun vs ds fc Gf ws cs F' H' M' e' R' rr a1 a2 a3 h' => ⟨ds, fc, ws, cs, F', M', e', R', rr, a1, a2, a3, h'.2⟩) (fun us s1 h1 => ?_) fun _ _ h => h) he hpl
  obtain ⟨vs, Gf, H1, I1, r1, ds, fc, ws, cs, F1, M1, e1, R1, rr, a1, a2, a3, hG⟩ := h1
  refine ⟨I1.kIn, ?_⟩
  have hl : us.length = ps.length := by rw [← r1.length, rr.length]; exact len _ _ _ _ _ _ hG
  have hb1 := hb s1 us I1.kIn (by rw [List.append_nil]; exact hl)
  rw [List.append_nil] at hb1
  refine wpAny_call (codeAny_mono (run X.A X.stack s1 H1 fc _ _ ⟨us, []⟩ us vs Q E0 (clo_ofX (F := F1) (M := M1) (Z := Z) ld hkl I1 a1 a2 a3 hcap) (hr.mono hk) I1.env0 hb1 r1 ⟨Z, F1, M1, ds, QD, R1, rr, hG, o.mono e1⟩) fun r s' hq => ?_)
  cases r with
  | error e => exact (show False from hq).elim
  | ok fl =>
    cases fl with
    | ret u => exact I1.after hq
    | next => exact False.elim hq
    | brk => exact False.elim hq
    | cont => exact False.elim hq
end
theorem HasFnC.fn {K : PySem.W.Frag} {mg : Str → Option Value} {x qual : Str} {st : Stmt} {ps : List Str} {c : Addr} (h : HasFnC K mg x qual st ps c) : HasFn K mg x qual st ps := by
  obtain ⟨f, oc, od, kV, doc, pm, an, ct, osl, lk, hcd, kp, hm, hb⟩ := h.ex
  exact ⟨f, _, fun_mk lk hcd kp, hm, hb⟩
/-- what an except clause asks of a class of the text -/
theorem exm_two {K : PySem.W.Frag} {S B : Addr} {b : Bool} (h1 : PySem.W.subIn K (.ref B) (.type "BaseException") = some true) (h2 : PySem.W.isClsIn K B = true) (h3 : PySem.W.typeIn K (.ref B) = some (.type "type")) (h4 : PySem.W.subIn K (.ref S) (.ref B) = some b) :
    PySem.W.exmOne K (.ref S) (.ref B) = some b := by
  have e1 : (PySem.W.subIn K (.ref B) (.type "BaseException") == some true) = true := by
    rw [h1]
    rfl
  have h2' : (PySem.W.clsIn K B).isSome = true := h2
  have e2 : ((PySem.W.clsIn K B).isSome && PySem.W.typeIn K (.ref B) == some (.type "type")) = true := by
    rw [h2', h3]
    rfl
  show (if (PySem.W.subIn K (.ref B) (.type "BaseException") == some true) = true then (if ((PySem.W.clsIn K B).isSome && PySem.W.typeIn K (.ref B) == some (.type "type")) = true then PySem.W.subIn K (.ref S) (.ref B) else none) else none) = some b
  rw [if_pos e1, if_pos e2, h4]
end DL
/-! lists of instances compared by the class's own ==: for lists that are the same -/
namespace NeQ
open PySem PySem.SeqAt
open AutoSeq1 (wpAny_loadPart')
open MeetsSeq MeetsSeq2 MeetsSeq3 SeqRoads2 GQ
section
variable {prog : Program} {w : World} {A : Around} {R : Result → Shared → Prop}
/-- at each turn the two lists are read anew: N items each, the i-th two equal -/
def ListJ (prog : Program) (w : World) (A : Around) (E : Value → Shared → Prop) (l b : Addr) (N : Nat) (I : Nat → Shared → Prop) : Prop :=
  ∀ i s, I i s → ∃ (items items2 : Array Value) (n n2 : Nat) (sl sl2 : Array (Option Value)), s.heap.get? l = some { cls := .type "list", dict := none, data := .seq items n, slots := sl } ∧ s.heap.get? b = some { cls := .type "list", dict := none, data := .seq items2 n2, slots := sl2 } ∧ items.size = N ∧ items2.size = N ∧
    ∀ (h1 : i < items.size) (h2 : i < items2.size), wpAny (model prog w) A.in1 (eqBool items[i] items2[i]) (fun r s' => r = true ∧ I (i + 1) s') E s
theorem ne_loopG (l b : Addr) (N : Nat) (I : Nat → Shared → Prop) (hl : ListJ prog w A (fun e s' => R (.error e) s') l b N I)
    (fin : ∀ s, I N s → R (.ok (.ret (.bool false))) s) (k : Nat) :
    ∀ i : Nat, N - i = k → i ≤ N → ∀ s, I i s →
      wpAny (model prog w) A.in1 (Builtin.«list.__eq__.loop» ⟨[.ref l, .ref b, rawInt i, rawInt 3], []⟩) (FinOf prog w A R) (fun e s' => R (.error e) s') s := by
  induction k with
  | zero =>
    intro i hk hi s h
    obtain ⟨items, items2, n, n2, sl, sl2, hl1, hb1, hs1, hs2, _⟩ := hl _ _ h
    have hi' : i = N := by omega
    have hR : R (.ok (.ret (.bool false))) s := fin s (hi' ▸ h)
    obtain ⟨hp, g, d, tk, os⟩ := s
    wp_walk using wpAny_loadPart' hl1, wpAny_loadPart' hb1
    have hi1 : items[((i : Nat) : Int).toNat]? = none := by simp; omega
    have hi2 : items2[((i : Nat) : Int).toNat]? = none := by simp; omega
    rw [hi1, hi2]
    wp_walk using wpAny_loadPart' hl1, wpAny_loadPart' hb1
    show R (.ok (.ret (.bool (items.size != items2.size)))) _
    rw [hs1, hs2]
    simpa using hR
  | succ k ih =>
    intro i hk hi s h
    obtain ⟨items, items2, n, n2, sl, sl2, hl1, hb1, hs1, hs2, turn⟩ := hl _ _ h
    have hlt : i < items.size := by omega
    have hlt2 : i < items2.size := by omega
    have ht := turn hlt hlt2
    obtain ⟨hp, g, d, tk, os⟩ := s
    wp_walk using wpAny_loadPart' hl1, wpAny_loadPart' hb1
    have hi1 : items[((i : Nat) : Int).toNat]? = some items[i] := by simp [hlt]
    have hi2 : items2[((i : Nat) : Int).toNat]? = some items2[i] := by simp [hlt2]
    have hc : ((i : Int) + 1) = ((i + 1 : Nat) : Int) := by omega
    rw [hi1, hi2]
    refine wpAny_bind (wpAny_mono ht (fun r s2 h2 => ?_) fun _ _ x => x)
    obtain ⟨hr, h2⟩ := h2
    subst hr
    have hrec := ih (i + 1) (by omega) (by omega) s2 h2
    obtain ⟨hp2, g2, d2, tk2, os2⟩ := s2
    wp_walk
    rw [hc]
    exact ⟨plainId_quiet plain_eq_loop _, codeAny_builtin entry_eq_loop (by
      rw [Around.under_plainId plain_eq_loop _]
      exact hrec)⟩
theorem list_neG (l b : Addr) (N : Nat) (I : Nat → Shared → Prop) (hl : ListJ prog w A (fun e s' => R (.error e) s') l b N I)
    (fin : ∀ s, I N s → R (.ok (.ret (.bool false))) s) {s : Shared} (h : I 0 s) :
    wpAny (model prog w) A.in1 (Builtin.«list.__ne__» ⟨[.ref l, .ref b], []⟩) (FinOf prog w A R) (fun e s' => R (.error e) s') s := by
  obtain ⟨items, items2, n, n2, sl, sl2, hl1, hb1, hs1, hs2, _⟩ := hl _ _ h
  have hrec := ne_loopG (A := A) (R := R) l b N I hl fin _ 0 rfl (Nat.zero_le _) s h
  obtain ⟨hp, g, d, tk, os⟩ := s
  have f3 := AutoSeq1.sub_list_list
  have hne : ¬ (items.size != items2.size) = true := by simp [hs1, hs2]
  wp_walk using wpAny_loadPart' hl1, wpAny_loadPart' hb1
  exact ⟨plainId_quiet plain_eq_loop _, codeAny_builtin entry_eq_loop (by
    rw [Around.under_plainId plain_eq_loop _]
    exact hrec)⟩
theorem eq_loopJ (l b : Addr) (N : Nat) (I : Nat → Shared → Prop) (hl : ListJ prog w A (fun e s' => R (.error e) s') l b N I)
    (fin : ∀ s, I N s → R (.ok (.ret (.bool true))) s) (k : Nat) :
    ∀ i : Nat, N - i = k → i ≤ N → ∀ s, I i s →
      wpAny (model prog w) A.in1 (Builtin.«list.__eq__.loop» ⟨[.ref l, .ref b, rawInt i, rawInt 2], []⟩) (FinOf prog w A R) (fun e s' => R (.error e) s') s := by
  induction k with
  | zero =>
    intro i hk hi s h
    obtain ⟨items, items2, n, n2, sl, sl2, hl1, hb1, hs1, hs2, _⟩ := hl _ _ h
    have hi' : i = N := by omega
    have hR : R (.ok (.ret (.bool true))) s := fin s (hi' ▸ h)
    obtain ⟨hp, g, d, tk, os⟩ := s
    wp_walk using wpAny_loadPart' hl1, wpAny_loadPart' hb1
    have hi1 : items[((i : Nat) : Int).toNat]? = none := by simp; omega
    have hi2 : items2[((i : Nat) : Int).toNat]? = none := by simp; omega
    rw [hi1, hi2]
    wp_walk using wpAny_loadPart' hl1, wpAny_loadPart' hb1
    show R (.ok (.ret (.bool (items.size == items2.size)))) _
    rw [hs1, hs2]
    simpa using hR
  | succ k ih =>
    intro i hk hi s h
    obtain ⟨items, items2, n, n2, sl, sl2, hl1, hb1, hs1, hs2, turn⟩ := hl _ _ h
    have hlt : i < items.size := by omega
    have hlt2 : i < items2.size := by omega
    have ht := turn hlt hlt2
    obtain ⟨hp, g, d, tk, os⟩ := s
    wp_walk using wpAny_loadPart' hl1, wpAny_loadPart' hb1
    have hi1 : items[((i : Nat) : Int).toNat]? = some items[i] := by simp [hlt]
    have hi2 : items2[((i : Nat) : Int).toNat]? = some items2[i] := by simp [hlt2]
    have hc : ((i : Int) + 1) = ((i + 1 : Nat) : Int) := by omega
    rw [hi1, hi2]
    refine wpAny_bind (wpAny_mono ht (fun r s2 h2 => ?_) fun _ _ x => x)
    obtain ⟨hr, h2⟩ := h2
    subst hr
    have hrec := ih (i + 1) (by omega) (by omega) s2 h2
    obtain ⟨hp2, g2, d2, tk2, os2⟩ := s2
    wp_walk
    rw [hc]
    exact ⟨plainId_quiet plain_eq_loop _, codeAny_builtin entry_eq_loop (by
      rw [Around.under_plainId plain_eq_loop _]
      exact hrec)⟩
theorem list_eqJ (l b : Addr) (N : Nat) (I : Nat → Shared → Prop) (hl : ListJ prog w A (fun e s' => R (.error e) s') l b N I)
    (fin : ∀ s, I N s → R (.ok (.ret (.bool true))) s) {s : Shared} (h : I 0 s) :
    wpAny (model prog w) A.in1 (Builtin.«list.__eq__» ⟨[.ref l, .ref b], []⟩) (FinOf prog w A R) (fun e s' => R (.error e) s') s := by
  obtain ⟨items, items2, n, n2, sl, sl2, hl1, hb1, hs1, hs2, _⟩ := hl _ _ h
  have hrec := eq_loopJ (A := A) (R := R) l b N I hl fin _ 0 rfl (Nat.zero_le _) s h
  obtain ⟨hp, g, d, tk, os⟩ := s
  have f3 := AutoSeq1.sub_list_list
  have hne : ¬ (items.size != items2.size) = true := by simp [hs1, hs2]
  wp_walk using wpAny_loadPart' hl1, wpAny_loadPart' hb1
  exact ⟨plainId_quiet plain_eq_loop _, codeAny_builtin entry_eq_loop (by
    rw [Around.under_plainId plain_eq_loop _]
    exact hrec)⟩
end
section
variable {prog : Program} {w : World} {A : Around} {E : Value → Shared → Prop} {s : Shared}
theorem ne_listG {l b : Addr} {N : Nat} {Q : Value → Shared → Prop} (hu : A.units < cLine) (I : Nat → Shared → Prop) (hl : ListJ prog w A E l b N I)
    (fin : ∀ s, I N s → Q (.bool false) s) (h : I 0 s) : wpAny (model prog w) A (richCompare .NotEq (.ref l) (.ref b)) Q E s := by
  obtain ⟨items, items2, n, n2, sl, sl2, hl1, hb1, _, _, _⟩ := hl _ _ h
  refine wpAny_richCompare_same_room (op := .NotEq) ⟨_, hl1, rfl⟩ ⟨_, hb1, rfl⟩ F.slot_list_ne (call_here F.slot_list_ne ⟨_, hl1, rfl⟩ F.entry_list_ne (F.args_list_ne_2 _ _) ?_) hu
  exact list_neG (R := wants (fun v s' => v ≠ .notImplemented ∧ Q v s') E) l b N I hl (fun s' q => ⟨(fun x => nomatch x), fin s' q⟩) h
theorem eq_listJ {l b : Addr} {N : Nat} {Q : Value → Shared → Prop} (hu : A.units < cLine) (I : Nat → Shared → Prop) (hl : ListJ prog w A E l b N I)
    (fin : ∀ s, I N s → Q (.bool true) s) (h : I 0 s) : wpAny (model prog w) A (richCompare .Eq (.ref l) (.ref b)) Q E s := by
  obtain ⟨items, items2, n, n2, sl, sl2, hl1, hb1, _, _, _⟩ := hl _ _ h
  refine wpAny_richCompare_same_room (op := .Eq) ⟨_, hl1, rfl⟩ ⟨_, hb1, rfl⟩ F.slot_list_eq (call_here F.slot_list_eq ⟨_, hl1, rfl⟩ F.entry_list_eq (F.args_list_eq_2 _ _) ?_) hu
  exact list_eqJ (R := wants (fun v s' => v ≠ .notImplemented ∧ Q v s') E) l b N I hl (fun s' q => ⟨(fun x => nomatch x), fin s' q⟩) h
end
end NeQ
namespace L2
open PySem PySem.Spec PyProof.Rows
section
variable {X : Cx} {n : Nat} {D : Eqv}
/-- lists that are read, item by item -/
def DLq (K : PySem.W.Frag) (D : Eqv) : Eqv := fun x y H => ∃ a b xs ys, x = .ref a ∧ y = .ref b ∧ SqL K H a xs ∧ SqL K H b ys ∧ Prs D xs ys H
theorem loopQ (hD : Mon D) (h : EqG X n D) {A : Around} {pins : List (Addr × Obj)} {s : Shared} {σ : St} {H : Hp} {a b : Addr} {xs ys : List V} (sb : Sub X (n + 1) A)
    (ha : SqL X.K H a xs) (hb : SqL X.K H b ys) (p : Prs D xs ys H) : NeQ.ListJ X.prog X.w A X.xe a b xs.length (fun _ s' => LoopI X pins σ H s') := by
  intro i s' q
  obtain ⟨H1, I1, e1⟩ := id q
  obtain ⟨its, r, e, z⟩ := I1.list (ha.ext e1)
  obtain ⟨its2, r2, e2, z2⟩ := I1.list (hb.ext e1)
  obtain ⟨⟨c1, d1, t1, sl⟩, k, e, h3, h4, h5⟩ := e
  obtain ⟨⟨c2, d2, t2, sl2⟩, k2, e2, g3, g4, g5⟩ := e2
  simp only at h3 h4 h5 g3 g4 g5
  subst h3 h4 h5 g3 g4 g5
  refine ⟨its.toArray, its2.toArray, k, k2, sl, sl2, e, e2, by rw [List.size_toArray, ← r.length], by rw [List.size_toArray, ← r2.length, ← p.1], fun h1 h2 => ?_⟩
  exact turnG hD h sb p r r2 i h1 h2 s' q
theorem op_eqQ (hD : Mon D) (h : EqG X n D) (hr : Room (n + 1) X.A) : OpR X (compareOp .Eq) (rEqG (DLq X.K D)) := by
  intro pins s σ H x y v u Q I rx ry hq
  obtain ⟨⟨a, b, xs, ys, rfl, rfl, ha, hb, p⟩, q⟩ := hq
  cases rx
  cases ry
  have sb : Sub X (n + 1) X.A := ⟨hr, rfl⟩
  refine NeQ.eq_listJ (N := xs.length) sb.room.units0 (fun _ s' => LoopI X pins σ H s') (loopQ (s := s) hD h sb ha hb p) (fun s' q' => ?_) ⟨H, I, Ext.rfl'⟩
  obtain ⟨H', I', e⟩ := q'
  exact ⟨.bl true, H', I', rfl, q H' e⟩
def rNeG (D : Eqv) : R2 := fun x y H Q => D x y H ∧ ∀ H', Ext H H' → Q (.bl false) H'
theorem op_neQ (hD : Mon D) (h : EqG X n D) (hr : Room (n + 1) X.A) : OpR X (compareOp .NotEq) (rNeG (DLq X.K D)) := by
  intro pins s σ H x y v u Q I rx ry hq
  obtain ⟨⟨a, b, xs, ys, rfl, rfl, ha, hb, p⟩, q⟩ := hq
  cases rx
  cases ry
  have sb : Sub X (n + 1) X.A := ⟨hr, rfl⟩
  refine NeQ.ne_listG (N := xs.length) sb.room.units0 (fun _ s' => LoopI X pins σ H s') (loopQ (s := s) hD h sb ha hb p) (fun s' q' => ?_) ⟨H, I, Ext.rfl'⟩
  obtain ⟨H', I', e⟩ := q'
  exact ⟨.bl false, H', I', rfl, q H' e⟩
end
end L2
namespace DL
open PySem PySem.Spec PyProof.Rows L2
theorem RelM.grow {K : PySem.W.Frag} {Z F H H' : Hp} {M : MH} (R : RelM K Z F H M) (e : Ext H H') : RelM K Z F H' M :=
  ⟨fun a o h => e _ _ (R.sub _ _ h), fun a o h => ⟨e _ _ (R.hid a o h).1, (R.hid a o h).2⟩, fun a m h => ⟨(R.chg a m h).1, by
    obtain ⟨o, ho⟩ := (R.chg a m h).2.some
    exact (R.chg a m h).2.mono (Ext.refl F) (by rw [ho]; exact e _ _ ho)⟩⟩
/-- the own == says True of the two -/
def TrueK (C : Addr) (sp : SpD) (d e : Dat) : Prop := ∃ fs gs, d = .ins C fs ∧ e = .ins C gs ∧ ∀ M Q, Q (.bl true) M → sp [d, e] M Q
def PairsK (C : Addr) (sp : SpD) : List Dat → List Dat → Prop
  | [], [] => True
  | d :: ds, e :: es => TrueK C sp d e ∧ PairsK C sp ds es
  | _, _ => False
def rEqK (C : Addr) (sp : SpD) : R2D := fun x y M Q => ∃ xs ys, lsR M x = some xs ∧ lsR M y = some ys ∧ PairsK C sp xs ys ∧ Q (.bl true) M
def rNeK (C : Addr) (sp : SpD) : R2D := fun x y M Q => ∃ xs ys, lsR M x = some xs ∧ lsR M y = some ys ∧ PairsK C sp xs ys ∧ Q (.bl false) M
/-- two references at which such instances stand -/
def atK (K : PySem.W.Frag) (C : Addr) (sp : SpD) (a b : Addr) (H : Hp) : Prop := ∃ F d e, Ext F H ∧ Rep K F (.ref a) d ∧ Rep K F (.ref b) e ∧ TrueK C sp d e
theorem sp_eqK {K : PySem.W.Frag} {C : Addr} {sp : SpD} (vs : List V) (H : Hp) (Q : VK) (E : XK) (h : spEq (atK K C sp) vs H Q E) : toSp K sp vs H Q E := by
  obtain ⟨a, b, rfl, ⟨F, d, e, x, ra, rb, fs, gs, rfl, rfl, t⟩, q⟩ := h
  refine ⟨fun p => if F p = none then H p else none, F, fun _ => none, [.ins C fs, .ins C gs], fun v _ => v = .bl true, ⟨x, fun p o hp => ?_, fun p m hm => nomatch hm⟩, .two ra rb, t _ _ rfl, fun v d F' H' M' e' R' r' hd => ?_⟩
  · split at hp
    · exact ⟨hp, by assumption, rfl⟩
    · cases hp
  · subst hd
    cases r'
    refine q H' fun p o hp => ?_
    cases hF : F p with
    | none => exact (R'.hid p o (by rw [if_pos hF]; exact hp)).1
    | some o' =>
      have := x p o' hF
      rw [hp] at this
      cases this
      exact R'.sub _ _ (e' _ _ hF)
theorem PairsK.get {C : Addr} {sp : SpD} {K : PySem.W.Frag} {F H : Hp} (e : Ext F H) : ∀ {ds es : List Dat} {xs ys : List V}, PairsK C sp ds es → Reps K F xs ds → Reps K F ys es → Prs (DIns C (atK K C sp)) xs ys H
  | [], [], _, _, _, .nil, .nil => Prs.nil
  | d :: ds, e' :: es, _, _, p, .cons r rs, .cons q qs => by
    obtain ⟨t, p⟩ := p
    obtain ⟨fs, gs, rfl, rfl, t⟩ := t
    refine Prs.cons ?_ (PairsK.get e p rs qs)
    cases r with
    | ins r1 r2 r3 =>
      cases q with
      | ins q1 q2 q3 => exact ⟨_, _, _, _, _, _, rfl, rfl, e _ _ r1, e _ _ q1, F, _, _, e, .ins r1 r2 r3, .ins q1 q2 q3, fs, gs, rfl, rfl, t⟩
section
variable {X : Cx} {k k2 : Nat} {C : Addr} {st : Stmt} {ps : List Str} {sp : SpD}
theorem eqG_K (F : MtdD X.prog X.w X.K X.mg X.base k C "__eq__" st ps sp) : EqG X k (DIns C (atK X.K C sp)) := by
  obtain ⟨qual, f, fd, F, hm, hb, ok⟩ := F.ex
  exact eqG_ins (E := E0) (ok.imp (sp' := spEq (atK X.K C sp)) fun vs H Q E h => sp_eqK vs H Q E h) hm.at_ hm.fn hb pass0
theorem mon_K {K : PySem.W.Frag} : Mon (DIns C (atK K C sp)) := mon_ins fun a b H H' e ⟨F, d, e', x, r⟩ => ⟨F, d, e', fun p o h => e _ _ (x p o h), r⟩
theorem od_eqK (F : MtdD X.prog X.w X.K X.mg X.base k C "__eq__" st ps sp) (hr : Room k2 X.A) (hk : k + 1 ≤ k2 := by decide) : OpD X (compareOp .Eq) (rEqK C sp) :=
  ⟨_, op_eqQ mon_K (eqG_K F) (hr.mono hk), fun Z F H M x y a b Q QD R ra rb hd o => by
    obtain ⟨xs, ys, h1, h2, p, q⟩ := hd
    obtain ⟨pa, us, rfl, s1, r1⟩ := lsR_rep R ra h1
    obtain ⟨pb, vs, rfl, s2, r2⟩ := lsR_rep R rb h2
    refine ⟨⟨pa, pb, us, vs, rfl, rfl, s1, s2, p.get R.sub r1 r2⟩, fun H' e => ?_⟩
    exact o _ _ F H' M (Ext.refl F) (R.grow e) (.bl true) q⟩
theorem od_neK (F : MtdD X.prog X.w X.K X.mg X.base k C "__eq__" st ps sp) (hr : Room k2 X.A) (hk : k + 1 ≤ k2 := by decide) : OpD X (compareOp .NotEq) (rNeK C sp) :=
  ⟨_, op_neQ mon_K (eqG_K F) (hr.mono hk), fun Z F H M x y a b Q QD R ra rb hd o => by
    obtain ⟨xs, ys, h1, h2, p, q⟩ := hd
    obtain ⟨pa, us, rfl, s1, r1⟩ := lsR_rep R ra h1
    obtain ⟨pb, vs, rfl, s2, r2⟩ := lsR_rep R rb h2
    refine ⟨⟨pa, pb, us, vs, rfl, rfl, s1, s2, p.get R.sub r1 r2⟩, fun H' e => ?_⟩
    exact o _ _ F H' M (Ext.refl F) (R.grow e) (.bl false) q⟩
end
end DL
/-! t1 = t2 = e and t1 = t2 = t3 = e -/
namespace DL
open PySem PySem.Spec PyProof.Rows L2
def dAsg2 (de : TED) (g1 g2 : TGD) : TSD := fun D ρ M => de ρ M fun x M1 => g1 x ρ M1 fun ρ2 M2 => g2 x ρ2 M2 D.nx
def dAsg3 (de : TED) (g1 g2 g3 : TGD) : TSD := fun D ρ M => de ρ M fun x M1 => g1 x ρ M1 fun ρ2 M2 => g2 x ρ2 M2 fun ρ3 M3 => g3 x ρ3 M3 D.nx
section
variable {X : Cx} {e t1 t2 t3 : Expr} {de : TED} {g1 g2 g3 : TGD} {pos : Pos}
theorem ds_asg2 (he : DE X e de) (h1 : DG X t1 g1) (h2 : DG X t2 g2) (ha : (assignEach [t1, t2] X.env).map (·.2) = [assign t1 X.env, assign t2 X.env] := by rfl) (hw : swappedStores [t1, t2] e X.env = pure none := by rfl) :
    DS X (.Assign [t1, t2] e pos) (dAsg2 de g1 g2) := ps_w (ps_asg2 he h1 h2 ha hw) fun D σ H ⟨Z, F, M, ρ, DD, R, h, o⟩ =>
  ⟨Z, F, M, ρ, _, R, h, fun v d F1 H1 M1 e1 R1 r1 q1 => ⟨Z, F1, M1, ρ, d, _, R.ext e1 R1, r1, q1, fun σ2 ρ2 F2 H2 M2 e2 R2 q2 => ⟨Z, F2, M2, ρ2, d, _, R2, r1.mono e2, q2, o.nx.mono (e1.trans e2)⟩⟩⟩
theorem ds_asg3 (he : DE X e de) (h1 : DG X t1 g1) (h2 : DG X t2 g2) (h3 : DG X t3 g3)
    (ha : (assignEach [t1, t2, t3] X.env).map (·.2) = [assign t1 X.env, assign t2 X.env, assign t3 X.env] := by rfl) (hw : swappedStores [t1, t2, t3] e X.env = pure none := by rfl) :
    DS X (.Assign [t1, t2, t3] e pos) (dAsg3 de g1 g2 g3) := ps_w (ps_asg3 he h1 h2 h3 ha hw) fun D σ H ⟨Z, F, M, ρ, DD, R, h, o⟩ =>
  ⟨Z, F, M, ρ, _, R, h, fun v d F1 H1 M1 e1 R1 r1 q1 => ⟨Z, F1, M1, ρ, d, _, R.ext e1 R1, r1, q1, fun σ2 ρ2 F2 H2 M2 e2 R2 q2 => ⟨Z, F2, M2, ρ2, d, _, R2, r1.mono e2, q2, fun σ3 ρ3 F3 H3 M3 e3 R3 q3 => ⟨Z, F3, M3, ρ3, d, _, R3, r1.mono (e2.trans e3), q3, o.nx.mono ((e1.trans e2).trans e3)⟩⟩⟩⟩
end
end DL
/-! isinstance of the exception that the suite holds; list.count(True) -/
namespace DL
open PySem PySem.Spec PyProof.Rows L2 LamX NdefX
/-- isinstance(e, c), e the exception with a dict that the suite holds -/
def rIsX (K : PySem.W.Frag) (D a dd : Addr) : List V → Hp → VK → Prop := fun xs H Q => ExcC K D ∧ ∃ (c : V) (cv : Value) (b : Bool) (fs : List (Str × V)), xs = [.ref a, c] ∧ (∀ u, RelV c u → u = cv) ∧ H dd = some (.xd fs) ∧ PySem.W.kitOne K (.ref D) cv = some b ∧ Q (.bl b) H
theorem call_isX {X : Cx} {a D dd : Addr} {oe : Obj} {pn : List (Addr × Obj)} (hz : Zc (.ref D) (some dd) oe) (hf : ∃ vs, oe.data = .fields vs) : CallR (X.suite a ((a, oe) :: pn)) (.builtin "isinstance") (rIsX X.K D a dd) := by
  intro pins s σ H xs us Q I r h
  obtain ⟨C, c, cv, b, fs, rfl, hcv, hx, e, q⟩ := h
  cases r with
  | cons rx rr =>
    cases rr with
    | cons rt rr =>
      cases rr
      cases rx
      have ec := hcv _ rt
      subst ec
      obtain ⟨hget, _⟩ := I.pin (a, oe) (List.mem_append.mpr (.inl List.mem_cons_self))
      obtain ⟨vs, hv⟩ := hf
      have hx2 : ObjOk X.prog X.w H s.heap dd (.xd fs) := I.hok dd _ hx
      obtain ⟨mA, hns, hr⟩ := hx2
      obtain ⟨od, ho, hl⟩ := lookIn_ns hns
      have J : PySem.W.InstAt s.heap a oe D (some od) := ⟨hget, hz.1, by unfold PySem.W.notCls; rw [hv] <;> rfl, by rw [hz.2]; exact ho⟩
      have hcl : (PySem.W.clsIn X.K D).isSome = true := by
        obtain ⟨cd, hc, _⟩ := PySem.W.any_some C.hd
        rw [hc]
        rfl
      exact PySem.W.kia_one (PySem.W.kitx_exc hcl C.hg C.hk C.hs C.ha C.hn C.ht C.hm) I.kIn J e (fun z => nomatch z) fun tk => ⟨.bl b, H, I.kept (t' := tk) fun _ _ z => z, rfl, q⟩
def dIsE (K : PySem.W.Frag) (a C dd : Addr) (cv : Value) (de : TED) : TED := fun ρ M Q => ExcC K C ∧ de ρ M fun y M1 => y = .ref a ∧ (∃ f x, M1 dd = some (.oth (xdR K f x))) ∧ ∃ b, PySem.W.kitOne K (.ref C) cv = some b ∧ Q (.bl b) M1
theorem de_isE {X : Cx} {a C dd : Addr} {oe : Obj} {pn : List (Addr × Obj)} {e e2 : Expr} {de : TED} {c : V} {cv : Value} {p pos : Pos} (hz : Zc (.ref C) (some dd) oe) (hd : ∃ vs, oe.data = .fields vs) (he : DE (X.suite a ((a, oe) :: pn)) e de) (h2 : PE (X.suite a ((a, oe) :: pn)) e2 (tC c)) (hcv : ∀ u, RelV c u → u = cv)
    (hm : X.mg "isinstance" = none) (hg : Gl X "isinstance" := by rfl) (hv : bootBuiltins "isinstance" = some (.builtin "isinstance") := by decide +kernel) (hs1 : starEach [e2] X.env = (false, eval e2 X.env) :: starEach [] X.env := by rfl)
    (hs : starEach (e :: [e2]) X.env = (false, eval e X.env) :: starEach [e2] X.env := by rfl) (hpl : (backTo pos (starEach [e2] X.env)).any (·.1) = false := by rfl) :
    DE (X.suite a ((a, oe) :: pn)) (.Call (.Name "isinstance" p) [e, e2] [] pos) (dIsE X.K a C dd cv de) := by
  refine pe_w (pe_callB (X := X.suite a ((a, oe) :: pn)) (call_isX (X := X) hz hd) hg hm hv (pa_cons he (pa_cons h2 pa_nil hs1) hs) (by decide) (by decide) hs hpl) fun σ H Q h => ?_
  obtain ⟨Z, F, M, ρ, QD, R, ⟨T, h⟩, o⟩ := h
  refine ⟨Z, F, M, ρ, _, R, h, fun v y F1 H1 M1 e1 R1 r1 h1 => ?_⟩
  obtain ⟨rfl, ⟨f, x, hx⟩, b, hb, q⟩ := h1
  cases r1
  obtain ⟨ob, q1, w, rfl, rw⟩ := (R1.chg dd _ hx).2
  exact ⟨T, c, cv, b, _, rfl, hcv, q1, hb, o _ _ F1 H1 M1 e1 R1 (.bl b) q⟩
/-! list.count(True) of a list of truth values -/
def eqT (v : Value) : Bool := match v with
  | .bool b => b
  | _ => false
theorem bools_of {K : PySem.W.Frag} {F : Hp} : ∀ {bs : List Bool} {vs : List V} {us : List Value}, Reps K F vs (bs.map Dat.bl) → Vals vs us → us = bs.map Value.bool
  | [], _, _, .nil, .nil => rfl
  | b :: bs, _, _, .cons h r, .cons g s => by
    cases h
    cases g
    rw [bools_of r s]
    rfl
theorem eqT_count : ∀ (bs : List Bool), (bs.map Value.bool).countP eqT = bs.count true
  | [] => rfl
  | b :: bs => by
    have ih := eqT_count bs
    rw [List.map_cons, List.countP_cons, List.count_cons, ih]
    cases b <;> rfl
def rCntT : Dat → List Dat → MH → VKD → Prop := fun x xs M Q => xs = [.bl true] ∧ ∃ bs : List Bool, lsR M x = some (bs.map Dat.bl) ∧ Q (.int (bs.count true : Nat)) M
theorem md_countT {X : Cx} : MtD X "list.count" rCntT := ⟨fun x xs H Q => ∃ (p : Addr) (bs : List Bool) (vs : List V), x = .ref p ∧ xs = [.bl true] ∧ SqL X.K H p vs ∧ (∀ us, Vals vs us → us = bs.map Value.bool) ∧ Q (.int (bs.count true : Nat)) H, fun pins s σ H x xs v us Q I rx rxs h => by
    obtain ⟨p, bs, vs, rfl, rfl, hs, hb, q⟩ := h
    cases rx
    obtain ⟨u, rfl, ru⟩ := rxs.one
    cases ru
    obtain ⟨its, rv, ⟨⟨cls, dd, data, sl⟩, n, ho, hc, hdn, hd⟩, hlen⟩ := I.list hs
    simp only at hc hd
    subst hc hd
    have hi := hb _ rv
    subst hi
    refine call_meets PySem.F.slot_list_count ⟨_, ho, rfl⟩ PySem.F.entry_list_count (PySem.F.args_list_count_2 _ _)
      (SeqAt.list_countAt p (bs.map Value.bool).toArray n dd sl (.bool true) eqT) ⟨ho, fun y hy => ?_, ?_⟩
    · have hy : y ∈ bs.map Value.bool := by simpa using hy
      obtain ⟨b, _, rfl⟩ := List.mem_map.mp hy
      have e := SeqAt.EqAt.bool_bool (A := X.A.in1) (s := s) b true
      cases b <;> exact e
    · refine ⟨.int (bs.count true : Nat), H, I.tok _, ⟨s.toks, ?_⟩, q⟩
      show Value.int (((bs.map Value.bool).toArray.toList.countP eqT : Nat) : Int) s.toks = _
      rw [List.toList_toArray, eqT_count], fun Z F H M x xs a as Q QD R ra rs hd o => by
    obtain ⟨rfl, bs, q1, q2⟩ := hd
    obtain ⟨v, ws, rfl, r1, rs⟩ := rs.uncons
    cases rs.unnil
    cases r1
    obtain ⟨p, ys, rfl, q, rr⟩ := lsR_rep R ra q1
    exact ⟨p, bs, ys, rfl, rfl, q, fun us hv => bools_of rr hv, o _ _ F H M (Ext.refl F) R (.int _) q2⟩⟩
end DL
/-! sorted(set(xs)) of ints, fewer than 64; list.insert -/
namespace L2
open PySem PySem.Spec PyProof.Rows
section
variable {P : Program} {w : World} {A : Around} {E : Value → Shared → Prop} {s : Shared}
set_option maxHeartbeats 6400000 in
/-- set(l) of a list of ints, read so that its members may be walked -/
theorem set_of_listI {l : Addr} {items : Array Value} (ns : List Int) {Q : Value → Shared → Prop} (hh : A.handled = none) (hl : s.heap.IsList l items) (hit : IntsAre items.toList ns) (hb : ns.length + 1 < scanBound)
    (h : ∀ (h' : Heap) (tk c : Nat), SetR w h' s.heap.objs.size (fun j => decide (j ∈ ns)) c → c ≤ ns.length → (∀ b o, s.heap.get? b = some o → h'.get? b = some o) → Q (.ref s.heap.objs.size) { s with heap := h', toks := tk }) :
    wpAny (model P w) A (call (.type "set") [.ref l]) Q E s := by
  have hisz : items.size = ns.length := by
    have q := IntsAre.length hit
    rw [Array.length_toList] at q
    exact q
  obtain ⟨c, tl, hmro⟩ := F.called_set.mro
  have hmade := F.called_set.made
  have hsub := F.called_set.sub
  refine wpAny_call (codeAny_of_tree ?_)
  show wpAny _ _ (callAny (.type "set") _) _ _ _
  refine wpAny_pure ⟨Code.quiet_builtin _ (by decide +kernel), codeAny_builtin F.entry_type_call ?_⟩
  rw [Around.under_plain (weight_type_call_type "set" [.ref l] []) rfl]
  have h1 := F.called_set.notType
  have h2 := F.called_set.canCreate
  have hct := F.typeCall_set_1 (.ref l)
  repeat (any_goals (first | assumption | wp_step))
  refine codeAny_mono (code_set_led1 (.ref l) (E := E) (Q₁ := fun obj s₁ => obj = .ref s.heap.objs.size ∧ s₁ = { s with heap := s.heap.push { cls := .type "set", dict := none, data := .set #[] 0 (.fresh 0 0 (!w.params.followText "set-order")) } }) ⟨rfl, rfl⟩) fun r s₁ hr => ?_
  cases r with
  | error e => exact hr
  | ok fl =>
    cases fl with
    | ret obj =>
      obtain ⟨rfl, rfl⟩ := hr
      have hS : (s.heap.push { cls := .type "set", dict := none, data := .set #[] 0 (.fresh 0 0 (!w.params.followText "set-order")) }).get? s.heap.objs.size = some { cls := .type "set", dict := none, data := .set #[] 0 (.fresh 0 0 (!w.params.followText "set-order")) } := Heap.get?_push_size _ rfl
      have hT : Shared.TypeIs { s with heap := s.heap.push { cls := .type "set", dict := none, data := .set #[] 0 (.fresh 0 0 (!w.params.followText "set-order")) } } (.ref s.heap.objs.size) "set" := ⟨_, hS, rfl⟩
      have hli := F.called_set.init.lookup
      have hbi := F.called_set.init.bind (.ref s.heap.objs.size)
      repeat (any_goals (first | assumption | wp_step))
      refine codeAny_mono (codeAny_call_builtin (R := wants (fun r s₂ => r = .none ∧ ∃ h' tk c, s₂ = { s with heap := h', toks := tk } ∧ SetR w h' s.heap.objs.size (fun j => decide (j ∈ ns)) c ∧ c ≤ ns.length ∧
          (∀ b o, s.heap.get? b = some o → h'.get? b = some o)) E) F.called_set.init.plain F.entry_set_init (check_set_init_1 hT ?_)) fun r₂ s₂ hr₂ => ?_
      · obtain ⟨ol, hol, hcl, nl, hdl⟩ := hl
        obtain ⟨ocls, odict, odata, oslots⟩ := ol
        simp only at hcl hdl
        subst hcl; subst hdl
        have hol' : (s.heap.push { cls := .type "set", dict := none, data := .set #[] 0 (.fresh 0 0 (!w.params.followText "set-order")) }).get? l = some { cls := .type "list", dict := odict, data := .seq items nl, slots := oslots } := Heap.get?_push_of_some _ hol
        have hsls := F.sub_list_set
        have hslf := F.sub_list_frozenset
        have hne : (Value.type "list" == Value.type "dict") = false := by decide
        have hl1 : (s.heap.push { cls := .type "set", dict := none, data := .set #[] 0 (.fresh 0 0 (!w.params.followText "set-order")) }).IsList l items := ⟨_, hol', rfl, nl, rfl⟩
        unfold Builtin.«set.__init__» noKeywords Builtin.Frozenset.updateFrom
        generalize hPI : pyIter = PI
        wp_walk
        subst hPI
        refine wpAny_pyIter_list hl1 ?_
        refine wpAny_bind (wpAny_runValue ?_)
        have hlS : l < s.heap.objs.size := Heap.lt_size hol
        have hh3 : A.in1.in1.in1.handled = none := by simp [hh]
        have hneI : l ≠ (s.heap.push { cls := .type "set", dict := none, data := .set #[] 0 (.fresh 0 0 (!w.params.followText "set-order")) }).objs.size := by
          rw [Heap.size_push]; exact Nat.ne_of_lt (Nat.lt_succ_of_lt hlS)
        have hSf : s.heap.objs.size ∉ [(s.heap.push { cls := .type "set", dict := none, data := .set #[] 0 (.fresh 0 0 (!w.params.followText "set-order")) }).objs.size, l] := by
          rw [Heap.size_push]; simp only [List.mem_cons, List.mem_singleton, List.not_mem_nil, or_false, not_or]
          exact ⟨Nat.ne_of_lt (Nat.lt_succ_self _), Nat.ne_of_gt hlS⟩
        have hval : ∀ (i : Nat) (v : Value), items[i]? = some v → ∃ k t, ns[i]? = some k ∧ v = .int k t := fun i v hv => by
          have hi : i < ns.length := by rw [← hisz]; exact (Array.getElem?_eq_some_iff.mp hv).1
          obtain ⟨t, e⟩ := PyProof.Rows.IntsAre.int_at hit i v (by rw [Array.getElem?_toList]; exact hv)
          refine ⟨ns[i], t, List.getElem?_eq_getElem hi, ?_⟩
          rw [e, List.getD_eq_getElem?_getD, List.getElem?_eq_getElem hi] <;> rfl
        refine set_update_ints ((Walks.list hh3 _ l hneI items).toS) s.heap.objs.size
          hSf ns hisz hb hval (items.size - 0) 0 _ (by omega) (Nat.zero_le _)
          ⟨⟨_, Heap.get?_push_size _ rfl, rfl, rfl⟩, (hl1.push _)⟩ ?hS0 ?hR
        case hS0 =>
          have hget : ((s.heap.push { cls := .type "set", dict := none, data := .set #[] 0 (.fresh 0 0 (!w.params.followText "set-order")) }).push { cls := .type "list_iterator", data := .fields #[.ref l, .int 0 0] }).get? s.heap.objs.size = some { cls := .type "set", dict := none, data := .set #[] 0 (.fresh 0 0 (!w.params.followText "set-order")) } := Heap.get?_push_of_some _ hS
          exact ⟨0, Nat.le_refl 0, setR_new_at hget⟩
        case hR =>
          intro s' c' hm hc' hS'
          obtain ⟨h', g2, d', tk', os'⟩ := s'
          have eg : g2 = s.gens := hm.gens
          have ed : d' = s.drawn := hm.drawn
          have eo : os' = s.os := hm.os
          subst eg; subst ed; subst eo
          show wpAny _ _ _ _ _ _
          refine wpAny_pure ?_
          show wpAny _ _ (ret Value.none) _ _ _
          rw [hisz] at hc'
          refine wpAny_pure ⟨rfl, h', tk', c', rfl, hS', hc', fun b o e => ?_⟩
          have hb0 : b < s.heap.objs.size := Heap.lt_size e
          have hb1 : b ≠ s.heap.objs.size := Nat.ne_of_lt hb0
          have hb2 : b ≠ (s.heap.push { cls := .type "set", dict := none, data := .set #[] 0 (.fresh 0 0 (!w.params.followText "set-order")) }).objs.size := by
            rw [Heap.size_push]; exact Nat.ne_of_lt (Nat.lt_succ_of_lt hb0)
          exact hm.heap b o (by simp only [List.mem_cons, List.mem_singleton, List.not_mem_nil, or_false, not_or]; exact ⟨hb1, hb2⟩) (Heap.get?_push_of_some _ (Heap.get?_push_of_some _ e))
      · cases r₂ with
        | error e => exact hr₂
        | ok fl₂ =>
          cases fl₂ with
          | ret r =>
            obtain ⟨rfl, h', tk, c, rfl, hS', hc', hk'⟩ := hr₂
            repeat (any_goals (first | assumption | wp_step))
            exact h _ _ _ hS' hc' hk'
          | _ => exact hr₂.elim
    | _ => exact hr.elim
end
end L2
namespace DL
open PySem PySem.Spec PyProof.Rows L2
section
variable {X : Cx}
/-- sorted(set(a)), a a list of fewer than 64 ints -/
def tSortSet (K : PySem.W.Frag) (ta : TE) : TE := fun σ H Q => ta σ H fun x H1 => ∃ (l : Addr) (ns : List Int), x = V.ref l ∧ SqL K H1 l (ns.map V.int) ∧ ns.length < 64 ∧
  ∀ (p : Addr) (ms : List Int), ms.Pairwise (· < ·) → (∀ k, k ∈ ms ↔ k ∈ ns) → H1 p = none → Q (.ref p) (L2.upd H1 p (.lst (ms.map V.int)))
theorem pe_sortSet {a : Expr} {ta : TE} {p p2 q pos : Pos} (hc : X.calm = true) (hg : Gl X "sorted") (hm : X.mg "sorted" = none) (hg2 : Gl X "set") (hm2 : X.mg "set" = none) (ha : PE X a ta)
    (na : starEach [a] X.env = (false, eval a X.env) :: starEach [] X.env := by rfl) : PE X (.Call (.Name "sorted" p) [.Call (.Name "set" p2) [a] [] q] [] pos) (tSortSet X.K ta) := by
  refine ⟨fun pins s σ H Q I h => ?_⟩
  refine Call_ (ld_blt I hg hm (by decide +kernel : bootBuiltins "sorted" = some (.builtin "sorted")) ?_)
  refine PyProof.Rows.callWith_builtin1 (PyProof.Rows.args_cons ?_ rfl) rfl rfl
  refine Call_ (ld_blt I hg2 hm2 PyProof.Rows.boot_set ?_)
  refine PyProof.Rows.callWith_type1 (PyProof.Rows.args_cons (thn (ha.run pins s σ H _ I h) fun v s1 ⟨x, H1, I1, r1, q1⟩ => PyProof.Rows.args_nil ?_) na) na rfl
  obtain ⟨l, ns, rfl, hq, h64, q1⟩ := q1
  cases r1
  obtain ⟨its, r, pl, hz⟩ := I1.list hq
  refine set_of_listI ns (I1.ok.hd hc) pl.isList (by simpa using r.ints) (by unfold scanBound; omega) fun h' tk c hS hcl hk => ?_
  refine PyProof.Rows.args_nil ?_
  have I2 : Inv X pins σ H1 { s1 with heap := h', toks := tk } := I1.kept fun b o e => hk b o e
  refine sorted_set (s := { s1 with heap := h', toks := tk }) hS (I2.ok.hd hc) (by omega) fun s' p out c2 ms k g o hp hg' hi hs hm' hl => ?_
  have hlen : (ms.map V.int).length ≤ sizeLine := by rw [List.length_map, hl, sizeLine_eq]; omega
  have hn : H1 p = none := I2.hok.fresh hp
  have J : Inv X pins σ (L2.upd H1 p (.lst (ms.map V.int))) { ({ s1 with heap := h', toks := tk } : Shared) with heap := s'.heap, gens := s'.gens, drawn := s'.drawn, toks := s'.toks } :=
    I2.call (ch := []) (Un.laid k hp hn) (I2.hok.laid k hp ⟨hlen, out.toList, c2, vals_of_ints hi, hg'⟩) (by rw [g]; exact I2.bare) (fun _ z => nomatch z)
  have e : s' = { s1 with heap := s'.heap, gens := s'.gens, drawn := s'.drawn, toks := s'.toks } := by
    cases s'
    cases s1
    cases o
    rfl
  rw [e]
  exact ⟨.ref p, _, J, rfl, q1 p ms hs (fun k => (hm' k).trans (by simp)) hn⟩
def dSortSet (mk : Bool) (da : TED) : TED := fun ρ M Q => da ρ M fun x M1 => ∃ ns : List Int, lsR M1 x = some (ns.map Dat.int) ∧ ns.length < 64 ∧ ∀ ms : List Int, ms.Pairwise (· < ·) → (∀ k, k ∈ ms ↔ k ∈ ns) → newL mk (ms.map Dat.int) M1 Q
theorem de_sortSet (mk : Bool) {a : Expr} {da : TED} {p p2 q pos : Pos} (hc : X.calm = true) (ha : DE X a da) (hg : Gl X "sorted") (hm : X.mg "sorted" = none) (hg2 : Gl X "set") (hm2 : X.mg "set" = none)
    (na : starEach [a] X.env = (false, eval a X.env) :: starEach [] X.env := by rfl) : DE X (.Call (.Name "sorted" p) [.Call (.Name "set" p2) [a] [] q] [] pos) (dSortSet mk da) :=
  pe_w (pe_sortSet hc hg hm hg2 hm2 ha na) fun σ H Q ⟨Z, F, M, ρ, QD, R, h, o⟩ => by
    refine ⟨Z, F, M, ρ, _, R, h, fun x a F1 H1 M1 e1 R1 r1 h1 => ?_⟩
    obtain ⟨ns, q1, q2, q3⟩ := h1
    obtain ⟨p, xs, rfl, q, rr⟩ := lsR_rep R1 r1 q1
    have e := rr.ints
    subst e
    exact ⟨p, ns, rfl, q, q2, fun p2 ms m1 m2 hp => sim_new R1 (reps_ints ms) (q3 ms m1 m2) (o.mono e1) hp⟩
/-- xs.insert(i, y) -/
def rInsertD : Dat → List Dat → MH → VKD → Prop := fun x xs M Q => match x with
  | .ref a => (match xs with
    | [.int i, y] => ∃ ds, M a = some (.lst ds) ∧ ds.length < sizeLine ∧ 0 ≤ i ∧ i < 2 ^ 63 ∧ Q .non (updM M a (.lst (ds.take i.toNat ++ [y] ++ ds.drop i.toNat)))
    | _ => False)
  | _ => False
theorem md_insert : MtD X "list.insert" rInsertD := ⟨_, mt_insert, fun Z F H M x xs a as Q QD R ra rs hd o => by
  unfold rInsertD at hd
  split at hd
  · rename_i p
    split at hd
    · rename_i i y
      obtain ⟨ds, q1, q2, q3, q4, q5⟩ := hd
      obtain ⟨v, ws, rfl, r1, rs⟩ := rs.uncons
      obtain ⟨u, ws, rfl, r2, rs⟩ := rs.uncons
      cases rs.unnil
      cases r1.toInt
      cases ra
      obtain ⟨ys, q6, r6⟩ := (R.chg p _ q1).2
      refine ⟨p, ys, i, u, rfl, rfl, q6, by rw [r6.length]; exact q2, q3, q4, ?_⟩
      have R3 := R.write (o := .lst (ys.take i.toNat ++ [u] ++ ys.drop i.toNat)) (m := .lst (ds.take i.toNat ++ [y] ++ ds.drop i.toNat)) q1 ⟨_, upd_same, ((r6.take _).app (.one r2)).app (r6.drop _)⟩
      exact o _ _ _ _ _ (Ext.refl F) R3 .non q5
    · exact hd.elim
  · exact hd.elim⟩
end
end DL
/-! list(range(a, b)) -/
namespace DL
open PySem PySem.Spec PyProof.Rows L2
section
variable {X : Cx} {a b : Expr} {da db : TED} {p q pos ps : Pos}
def dLRg2 (mk : Bool) (da db : TED) : TED := fun ρ M Q => da ρ M fun x M1 => db ρ M1 fun y M2 => ∃ i j : Int, x = .int i ∧ y = .int j ∧ RgOk i j ∧ newL mk (rngD i (j - i).toNat) M2 Q
theorem de_lrg2 (mk : Bool) (hl : X.mg "list" = none) (hm : X.mg "range" = none) (ha : DE X a da) (hb : DE X b db) (gl : Gl X "list" := by rfl) (gr : Gl X "range" := by rfl) (hc : X.calm = true := by rfl)
    (na : starEach [a, b] X.env = (false, eval a X.env) :: starEach [b] X.env := by rfl) (nb : starEach [b] X.env = (false, eval b X.env) :: starEach [] X.env := by rfl) (hp : (backTo pos (starEach [b] X.env)).any (·.1) = false := by rfl)
    (ne : starEach [.Call (.Name "range" p) [a, b] [] pos] X.env = (false, eval (.Call (.Name "range" p) [a, b] [] pos) X.env) :: starEach [] X.env := by rfl) :
    DE X (.Call (.Name "list" q) [.Call (.Name "range" p) [a, b] [] pos] [] ps) (dLRg2 mk da db) :=
  pe_w (pe_listRg hc gl hl (prg_2 gr hm ha hb na nb hp) ne) fun σ H Q ⟨Z, F, M, ρ, QD, R, h, o⟩ => by
    refine ⟨Z, F, M, ρ, _, R, h, fun x d F1 H1 M1 e1 R1 r1 h1 => ?_⟩
    refine ⟨Z, F1, M1, ρ, _, R.ext e1 R1, h1, fun y d2 F2 H2 M2 e2 R2 r2 h2 => ?_⟩
    obtain ⟨i, j, rfl, rfl, h3, h4⟩ := h2
    refine ⟨i, j, r1.toInt, r2.toInt, h3, fun q hq => ?_⟩
    refine sim_new R2 ?_ h4 (o.mono (e1.trans e2)) hq
    unfold rgV rngD
    exact reps_rg _ _
end
end DL
/-! xs or ys of lists -/
namespace DL
open PySem PySem.Spec PyProof.Rows L2
section
variable {X : Cx} {a b : Expr} {da db : TED} {pos : Pos} {rest : List Expr}
def dOrL (da db : TED) : TED := fun ρ M Q => da ρ M fun x M1 => ∃ ds, lsR M1 x = some ds ∧ if ds.isEmpty = true then db ρ M1 Q else Q x M1
theorem reps_empty {K : PySem.W.Frag} {F : Hp} {xs : List V} {ds : List Dat} (r : Reps K F xs ds) : xs.isEmpty = ds.isEmpty := by
  cases r <;> rfl
theorem de_orL (ha : DE X a da) (hb : DE X (.BoolOp .Or (b :: rest) pos) db) : DE X (.BoolOp .Or (a :: b :: rest) pos) (dOrL da db) := pe_w (pe_orT ha hb) fun σ H Q ⟨Z, F, M, ρ, QD, R, h, o⟩ => by
  refine ⟨Z, F, M, ρ, _, R, h, fun x a F1 H1 M1 e1 R1 r1 h1 => ?_⟩
  obtain ⟨ds, hd, h1⟩ := h1
  obtain ⟨p, xs, rfl, hs, rr⟩ := lsR_rep R1 r1 hd
  refine ⟨!ds.isEmpty, .inl ⟨xs, hs, by rw [reps_empty rr]⟩, ?_⟩
  cases he : ds.isEmpty with
  | true =>
    rw [he, if_pos rfl] at h1
    exact ⟨Z, F1, M1, ρ, QD, R.ext e1 R1, h1, o.mono e1⟩
  | false =>
    rw [he, if_neg Bool.false_ne_true] at h1
    exact o _ _ F1 H1 M1 e1 R1 r1 h1
end
end DL
/-! try with several except clauses, each with a name or without one -/
namespace DL
open PySem PySem.Spec PyProof.Rows L2 LamX NdefX
/-- a clause: its class, the slot of its name, its suite -/
abbrev HdT := Value × Option Nat × (Addr → Value → Option Addr → TS)
def wipeO (o : Option Nat) (D : Ends) : Ends := match o with
  | none => D
  | some i => { nx := fun z J => D.nx (z.set i none) J, rt := D.rt, bk := fun z J => D.bk (z.set i none) J, ct := fun z J => D.ct (z.set i none) J }
def setO (o : Option Nat) (a : Addr) (z : L2.St) : L2.St := match o with
  | none => z
  | some i => z.set i (some (.ref a))
def wHs (K : PySem.W.Frag) (Wo : WX) (D : Ends) : List HdT → WX
  | [] => Wo
  | q :: r => fun cl dx z J => ∃ b, PySem.W.exmOne K cl q.1 = some b ∧ (b = true → ∀ a, J a = none → q.2.2 a cl dx (wipeO q.2.1 D) (setO q.2.1 a z) J) ∧ (b = false → wHs K Wo D r cl dx z J)
inductive HsOk (X : Cx) : List ExceptHandler → List HdT → Prop
  | nil : HsOk X [] []
  | bare {x : Str} {c : Value} {ts : Addr → Value → Option Addr → TS} {b0 : Stmt} {su : List Stmt} {np p : Pos} {hs : List ExceptHandler} {l : List HdT} (hc : Names X x c)
      (hsu : ∀ (a : Addr) (ob : Obj) (cl : Value) (dx : Option Addr) (pn : List (Addr × Obj)), Zc cl dx ob → (∃ us, ob.data = .fields us) → PSs (X.suite a ((a, ob) :: pn)) (b0 :: su) (ts a cl dx)) (r : HsOk X hs l) :
      HsOk X (.ExceptHandler (some (.Name x np)) none (b0 :: su) p :: hs) ((c, none, ts) :: l)
  | named {x n : Str} {i : Nat} {c : Value} {ts : Addr → Value → Option Addr → TS} {b0 : Stmt} {su : List Stmt} {np p : Pos} {hs : List ExceptHandler} {l : List HdT} (hN : X.N.Nodup) (hi : X.N[i]? = some n) (hln : X.env.kindOf n = some .local) (hc : Names X x c)
      (hsu : ∀ (a : Addr) (ob : Obj) (cl : Value) (dx : Option Addr) (pn : List (Addr × Obj)), Zc cl dx ob → (∃ us, ob.data = .fields us) → PSs (X.suite a ((a, ob) :: pn)) (b0 :: su) (ts a cl dx)) (r : HsOk X hs l) :
      HsOk X (.ExceptHandler (some (.Name x np)) (some n) (b0 :: su) p :: hs) ((c, some i, ts) :: l)
section
variable {X : Cx} {body : List Stmt} {h0 : ExceptHandler} {hs : List ExceptHandler} {l : List HdT} {pos : Pos} {tb : WX → TS} {Wo : WX}
theorem ps_try_hs (hst : X.stack = X.env :: X.outer) (hef : X.env.frame = some X.env.locals) (tk : Takes X Wo)
    (hbd : ∀ (V : WX) (pp : List (Addr × Obj)) (xf : Value → Shared → Prop), Takes (X.tr pp xf) V → PassesOwn (model X.prog X.w) X.A X.env xf → PSs (X.tr pp xf) body (tb V))
    (hh : HsOk X (h0 :: hs) l) : PS X (.Try body (h0 :: hs) [] [] pos) (fun D z J => tb (wHs X.K Wo D l) D z J) := by
  constructor
  intro pins s z J D I h
  have ok := I.ok
  have hfr : X.A.frames = some (X.env :: X.outer) := ok.frames.trans (congrArg some hst)
  refine wpAny_Try_except ?_
  have hbody := (hbd (wHs X.K Wo D l) (X.pn ++ pins) (fun e t => wpAny (model X.prog X.w) X.A (noteFrame e X.env) (fun _ t2 => wpAny (model X.prog X.w) X.A (setFlight e none) (fun _ t3 => wpAny (model X.prog X.w) X.A (handleBy e X.env (h0 :: hs)) (SP X pins D) X.xe t3) X.xe t2) X.xe t) (fun u t xx => ?_) PassesOwn.looking).run [] s z J D (I.toTry _) h
  · refine wpAny_mono hbody (fun f t q => ?_) (fun _ _ q => q)
    cases f with
    | ret u =>
      obtain ⟨v, z2, J2, K2, rv, q⟩ := q
      exact ⟨v, z2, J2, K2.ofTry ok, rv, q⟩
    | next =>
      obtain ⟨z2, J2, K2, q⟩ := q
      exact wpAny_execs_nil ⟨z2, J2, K2.ofTry ok, q⟩
    | brk =>
      obtain ⟨z2, J2, K2, q⟩ := q
      exact ⟨z2, J2, K2.ofTry ok, q⟩
    | cont =>
      obtain ⟨z2, J2, K2, q⟩ := q
      exact ⟨z2, J2, K2.ofTry ok, q⟩
  · obtain ⟨a, B, sI, pins2, z2, J2, cl, dx, rfl, I2, nb, up, sky, na, os, ag, w⟩ := xx
    have I1 : Inv X pins z2 J2 sI := I2.ofTry ok
    have sky1 : Sky B (X.env :: X.outer) a (Zc cl dx) X.env.locals t.heap := hst ▸ sky
    show wpAny (model X.prog X.w) X.A (noteFrame (Value.ref a) X.env) _ _ _
    refine Sky.land Zc.steady hfr hef sky1 fun g fl upg => ?_
    have I3 : Inv X pins z2 J2 { t with heap := g } := I1.landed nb fl.1 (up.trans upg) os ag
    obtain ⟨ob, vs, hob, hzc, hdt⟩ := fl.there
    have nfr : a ∉ frs (X.env :: X.outer) := fun hm => by
      obtain ⟨_, ob', hob', hnf⟩ := fl.2.2.1.mem hm
      have : ob' = ob := Option.some.inj (hob'.symm.trans hob)
      exact hnf _ (this ▸ hdt)
    have nL : a ≠ X.env.locals := fun e => nfr (List.mem_filterMap.mpr ⟨X.env, by simp, by rw [hef, e]⟩)
    have nF : a ∉ X.fs := fun hm => by
      obtain ⟨en, hen, q⟩ := List.mem_filterMap.mp hm
      exact nfr (List.mem_filterMap.mpr ⟨en, by simp [hen], q⟩)
    have S3 := I3.suite hob hdt na nL nF
    -- the test of a clause
    have look : ∀ {x : Str} {c : Value} {np : Pos}, Names X x c → ∀ {Q E : Value → Shared → Prop}, Q c { t with heap := g } → wpAny (model X.prog X.w) (X.A.mark (some (Value.ref a))) (eval (.Name x np) X.env) Q E { t with heap := g } := by
      rintro x c np ⟨hg, hdb, hm | ⟨hm, hv, hnn⟩⟩ Q E q
      · exact ld_glob (X := X.suite a ((a, ob) :: (X.pn ++ pins))) S3 hg hm q hdb
      · exact ld_blt (X := X.suite a ((a, ob) :: (X.pn ++ pins))) S3 hg hm hv q hnn hdb
    have LT : PySem.W.Looks (model X.prog X.w) g (typeOf (.ref a)) cl := fun A Q E s2 k q => wpAny_typeOf_ref (k _ _ hob) (by rw [hzc.1]; exact q)
    suffices go : ∀ {hs2 : List ExceptHandler} {l2 : List HdT}, HsOk X hs2 l2 → wHs X.K Wo D l2 cl dx z2 J2 → wpAny (model X.prog X.w) X.A (handleBy (.ref a) X.env hs2) (SP X pins D) X.xe { t with heap := g } from go hh w
    intro hs2 l2 hk
    induction hk with
    | nil =>
      intro w
      refine wpAny_handleBy_nil ?_
      obtain ⟨_, _, _, o3, v3, T3, oT, ts3, u1, u2, u3, u4, u5⟩ := id fl
      unfold PySem.passOn
      refine wpAny_bind (wpAny_field u1 u3 u4 ?_)
      rw [if_neg (show ¬ ((Value.ref T3 == Value.none) = true) by simp)]
      have fin : wpAny (model X.prog X.w) X.A (setFlight (.ref a) X.env.frame) (fun _ s4 => wpAny (model X.prog X.w) X.A (throw (.ref a) : Sem Flow) (SP X pins D) X.xe s4) X.xe { t with heap := g } := by
        rw [hef]
        refine HandSPX.setFlight_upZ fl fun g4 hg4 up4 => wpAny_throw (tk _ _ ?_)
        exact ⟨a, B, sI, pins, z2, J2, cl, dx, rfl, I1, nb, (up.trans upg).trans up4, .inr (.inr (hst.symm ▸ hg4)), na, os, ag, w⟩
      first | exact wpAny_bind (wpAny_pure (wpAny_bind fin)) | exact wpAny_bind fin
    | bare hc hsu r ih =>
      intro w
      obtain ⟨b, hb1, yes, no⟩ := w
      refine wpAny_handleBy_cons (codeAny_handlers_test ?_) (fun e => nomatch e)
      refine look hc ((PySem.W.exm_one (M := model X.prog X.w) I3.kIn LT hb1).here ?_)
      cases b with
      | false => exact ih (no rfl)
      | true =>
        refine codeAny_handlers_suite (HandSPX.lands_againZ fl fun g4 fl4 up4 => ?_)
        have I4 : Inv X pins z2 J2 { t with heap := g4 } := I1.landed nb fl4.1 ((up.trans upg).trans up4) os ag
        obtain ⟨o4, v4, k1, k2, k3⟩ := fl4.there
        refine wpAny_mono ((hsu a o4 cl dx (X.pn ++ pins) k2 ⟨_, k3⟩).run [] _ _ J2 _ (I4.suite k1 k3 na nL nF) (yes rfl a na)) (fun f s6 q => ?_) (fun _ _ e => e.elim)
        cases f with
        | ret u =>
          obtain ⟨v6, z6, J6, S6, r6, q6⟩ := q
          exact ⟨v6, z6, J6, S6.unsuite ok, r6, q6⟩
        | next =>
          obtain ⟨z6, J6, S6, q6⟩ := q
          exact ⟨z6, J6, S6.unsuite ok, q6⟩
        | brk =>
          obtain ⟨z6, J6, S6, q6⟩ := q
          exact ⟨z6, J6, S6.unsuite ok, q6⟩
        | cont =>
          obtain ⟨z6, J6, S6, q6⟩ := q
          exact ⟨z6, J6, S6.unsuite ok, q6⟩
    | @named x n i c ts b0 su np p hs3 l3 hN hi hln hc hsu r ih =>
      intro w
      obtain ⟨b, hb1, yes, no⟩ := w
      refine wpAny_handleBy_cons (codeAny_handlers_test ?_) (fun e => nomatch e)
      refine look hc ((PySem.W.exm_one (M := model X.prog X.w) I3.kIn LT hb1).here ?_)
      cases b with
      | false => exact ih (no rfl)
      | true =>
        refine codeAny_handlers_suite_as (HandSPX.lands_againZ fl fun g4 fl4 up4 => ?_)
        have I4 : Inv X pins z2 J2 { t with heap := g4 } := I1.landed nb fl4.1 ((up.trans upg).trans up4) os ag
        obtain ⟨o4, v4, k1, k2, k3⟩ := fl4.there
        have hl1 : Loc X.env.scope n := .inl hln
        refine store_ok (X := X.suite a ((a, o4) :: (X.pn ++ pins))) (v := .ref a) (I4.suite k1 k3 na nL nF) hN hi hl1 rfl (fun s5 S5 => ?_) (.inr hln)
        refine wpAny_mono ((hsu a o4 cl dx (X.pn ++ pins) k2 ⟨_, k3⟩).run [] s5 _ J2 _ S5 (yes rfl a na)) (fun f s6 q => ?_) (fun _ _ e => e.elim)
        have gone : ∀ {z6 : L2.St} {J6 : Hp} {R : Shared → Prop}, Inv (X.suite a ((a, o4) :: (X.pn ++ pins))) [] z6 J6 s6 → (∀ s7, Inv X pins (z6.set i none) J6 s7 → R s7) → wpAny (model X.prog X.w) X.A (do bindName X.env n .none; unbindBehindTheSuite X.env n p) (fun _ s7 => R s7) X.xe s6 :=
          fun S6 hq => gone_ok (S6.unsuite ok) hN hi hln hq
        cases f with
        | ret u =>
          obtain ⟨v6, z6, J6, S6, r6, q6⟩ := q
          exact gone S6 fun s7 I7 => ⟨v6, _, J6, I7, r6, q6⟩
        | next =>
          obtain ⟨z6, J6, S6, q6⟩ := q
          exact gone S6 fun s7 I7 => ⟨_, J6, I7, q6⟩
        | brk =>
          obtain ⟨z6, J6, S6, q6⟩ := q
          exact gone S6 fun s7 I7 => ⟨_, J6, I7, q6⟩
        | cont =>
          obtain ⟨z6, J6, S6, q6⟩ := q
          exact gone S6 fun s7 I7 => ⟨_, J6, I7, q6⟩
end
/-! ### .. over data -/
abbrev HdD := Value × Option Nat × (Addr → Addr → Addr → TSD)
def wipeOD (o : Option Nat) (D : EndsD) : EndsD := match o with
  | none => D
  | some i => wipeE i D
def setOD (o : Option Nat) (a : Addr) (ρ : EnvD) : EnvD := match o with
  | none => ρ
  | some i => setD ρ i (some (.ref a))
def hsD (K : PySem.W.Frag) (D : EndsD) : List HdD → XDt
  | [] => fun _ _ _ _ _ => False
  | q :: r => fun C f x ρ M => ∃ b, PySem.W.exmOne K (.ref C) q.1 = some b ∧ if b = true then ∀ a dd, M a = none → M dd = none → a ≠ dd → q.2.2 a C dd (wipeOD q.2.1 D) (setOD q.2.1 a ρ) (updM M dd (.oth (xdR K f x))) else hsD K D r C f x ρ M
def dTryH (K : PySem.W.Frag) (tb : XDt → TSD) (l : List HdD) : TSD := fun D ρ M => tb (hsD K D l) D ρ M
def HdD.up (K : PySem.W.Frag) (q : HdD) : HdT := (q.1, q.2.1, fun a cl dx D z J => ∃ C dd, cl = .ref C ∧ dx = some dd ∧ upS K (q.2.2 a C dd) D z J)
inductive HsD (X : Cx) : List ExceptHandler → List HdD → Prop
  | nil : HsD X [] []
  | bare {x : Str} {c : Value} {ts : Addr → Addr → Addr → TSD} {b0 : Stmt} {su : List Stmt} {np p : Pos} {hs : List ExceptHandler} {l : List HdD} (hc : Names X x c)
      (hsu : ∀ (a C dd : Addr) (oe : Obj) (pn : List (Addr × Obj)), Zc (.ref C) (some dd) oe → (∃ vs, oe.data = .fields vs) → DSs (X.suite a ((a, oe) :: pn)) (b0 :: su) (ts a C dd)) (r : HsD X hs l) :
      HsD X (.ExceptHandler (some (.Name x np)) none (b0 :: su) p :: hs) ((c, none, ts) :: l)
  | named {x n : Str} {i : Nat} {c : Value} {ts : Addr → Addr → Addr → TSD} {b0 : Stmt} {su : List Stmt} {np p : Pos} {hs : List ExceptHandler} {l : List HdD} (hN : X.N.Nodup) (hc : Names X x c)
      (hsu : ∀ (a C dd : Addr) (oe : Obj) (pn : List (Addr × Obj)), Zc (.ref C) (some dd) oe → (∃ vs, oe.data = .fields vs) → DSs (X.suite a ((a, oe) :: pn)) (b0 :: su) (ts a C dd)) (r : HsD X hs l) (hi : X.N[i]? = some n := by rfl) (hln : X.env.kindOf n = some .local := by rfl) :
      HsD X (.ExceptHandler (some (.Name x np)) (some n) (b0 :: su) p :: hs) ((c, some i, ts) :: l)
theorem HsD.ok {X : Cx} {hs : List ExceptHandler} {l : List HdD} (h : HsD X hs l) : HsOk X hs (l.map (HdD.up X.K)) := by
  induction h with
  | nil => exact .nil
  | bare hc hsu r ih =>
    refine .bare hc (fun a ob cl dx pn hz hd => ⟨fun pins s σ H D I h => ?_⟩) ih
    obtain ⟨C, dd, rfl, rfl, hup⟩ := h
    exact (hsu a C dd ob pn hz hd).run pins s σ H D I hup
  | named hN hc hsu r hi hln ih =>
    refine .named hN hi hln hc (fun a ob cl dx pn hz hd => ⟨fun pins s σ H D I h => ?_⟩) ih
    obtain ⟨C, dd, rfl, rfl, hup⟩ := h
    exact (hsu a C dd ob pn hz hd).run pins s σ H D I hup
section
variable {X : Cx} {body : List Stmt} {h0 : ExceptHandler} {hs : List ExceptHandler} {l : List HdD} {pos : Pos} {tb : XDt → TSD}
theorem okW_hs {K : PySem.W.Frag} {Z F : Hp} {D : Ends} {DD : EndsD} (o : OkS K Z F D DD) : ∀ l : List HdD, OkW K Z F (wHs K (fun _ _ _ _ => False) D (l.map (HdD.up K))) (hsD K DD l)
  | [] => fun C dd f x σ' ρ' F' H' M' e' R' nd re q => q
  | q :: r => fun C dd f x σ' ρ' F' H' M' e' R' nd re h => by
    obtain ⟨b, hb, h⟩ := h
    refine ⟨b, hb, fun e a ha => ?_, fun e => ?_⟩
    · rw [e, if_pos rfl] at h
      have hne : a ≠ dd := fun z => by
        have := (R'.fresh ha).2
        rw [z, updM_same] at this
        cases this
      have hMa : M' a = none := by
        have := (R'.fresh ha).2
        rwa [updM_ne hne] at this
      have h2 := h a dd hMa nd hne
      obtain ⟨c, oi, ts⟩ := q
      cases oi with
      | none => exact ⟨C, dd, rfl, rfl, Z, F', _, ρ', DD, ⟨R', re⟩, h2, o.mono e'⟩
      | some i =>
        refine ⟨C, dd, rfl, rfl, Z, F', _, setD ρ' i (some (.ref a)), wipeE i DD, ⟨R', ?_⟩, h2, okS_wipe i (o.mono e')⟩
        rw [setD_set]
        exact re.set (.ref a) i
    · rw [e, if_neg Bool.false_ne_true] at h
      exact okW_hs o r C dd f x σ' ρ' F' H' M' e' R' nd re h
theorem ds_try_hs (hb : ∀ (W : WX) (pn : List (Addr × Obj)) (xe : Value → Shared → Prop), Takes (X.tr pn xe) W → DSsX (X.tr pn xe) W body tb) (hh : HsD X (h0 :: hs) l)
    (hs2 : X.stack = X.env :: X.outer := by rfl) (hf : X.env.frame = some X.env.locals := by rfl) : DS X (.Try body (h0 :: hs) [] [] pos) (dTryH X.K tb l) := by
  refine ps_w (ps_try_hs (tb := fun W => upSX X.K W tb) hs2 hf takes_no (fun W pn xe tk _ => hb W pn xe tk) hh.ok) fun D σ H ⟨Z, F, M, ρ, DD, R, h, o⟩ => ?_
  exact ⟨Z, F, M, ρ, DD, _, R, h, o, okW_hs o l⟩
end
end DL
/-! dict(a list of pairs), len of a dict -/
namespace DL
open PySem PySem.Spec PyProof.Rows L2
section
variable {X : Cx}
theorem call_lenDic : CallR X (.builtin "len") (fun xs H Q => ∃ (a : Addr) (kvs : List (Key × V)), xs = [.ref a] ∧ H a = some (.dK kvs) ∧ Q (.int kvs.length) H) := by
  intro pins s σ H xs us Q I r q
  obtain ⟨a, kvs, rfl, e, q⟩ := q
  obtain ⟨u, eu, rx⟩ := vals1 r
  subst eu
  cases rx
  exact d_len I (.inl e) fun t s' I' => ⟨.int kvs.length, H, I', by first | exact ⟨t, rfl⟩ | exact ⟨_, rfl⟩ | simp [L2.RelV], q⟩
def rLenDic : List Dat → MH → VKD → Prop := fun ds M Q => match ds with
  | [x] => ∃ kvs, dicR M x = some kvs ∧ Q (.int (kvs.length : Int)) M
  | _ => False
theorem cd_lenDic : CallD X (.builtin "len") rLenDic := ⟨_, call_lenDic, fun Z F H M vs ds Q QD R rs hd o => by
  unfold rLenDic at hd
  split at hd
  · obtain ⟨kvs, h1, h3⟩ := hd
    obtain ⟨x, ws, rfl, r1, rs⟩ := rs.uncons
    cases rs.unnil
    obtain ⟨p, vs, rfl, q5, q6⟩ := dicR_rep R r1 h1
    refine ⟨p, vs, rfl, q5, ?_⟩
    rw [q6.len]
    exact o _ _ F H M (Ext.refl F) R (.int _) h3
  · exact hd.elim⟩
/-- the pairs of a list -/
theorem pairs_rep {K : PySem.W.Frag} {F H : Hp} (e : Ext F H) : ∀ {kvs : List (Key × Dat)} {xs : List V}, Reps K F xs (kvs.map fun kv => Dat.tup [kD kv.1, kv.2]) → ∃ (ps : List Addr) (vs : List (Key × V)), xs = ps.map V.ref ∧ Paired (fun p kv => SqT K H p [kV kv.1, kv.2]) ps vs ∧ RepK K F vs kvs
  | [], xs, r => by
    cases r.unnil
    exact ⟨[], [], rfl, .nil, .nil⟩
  | kv :: kvs, xs, r => by
    obtain ⟨v, ws, rfl, r1, r2⟩ := r.uncons
    obtain ⟨ps, vs, rfl, h1, h2⟩ := pairs_rep e r2
    cases r1 with
    | tup q r3 =>
      rename_i p ys
      obtain ⟨y, zs, rfl, k1, k2⟩ := r3.uncons
      obtain ⟨z, ts, rfl, k3, k4⟩ := k2.uncons
      cases k4.unnil
      cases kD_rep k1
      exact ⟨p :: ps, (kv.1, z) :: vs, rfl, .cons (ext_t e q) h1, .cons k3 h2⟩
def rDictP (mk : Bool) : List Dat → MH → VKD → Prop := fun ds M Q => match ds with
  | [x] => ∃ kvs : List (Key × Dat), lsR M x = some (kvs.map fun kv => Dat.tup [kD kv.1, kv.2]) ∧ newD mk (mergeD [] kvs) M Q
  | _ => False
theorem cd_dictP (mk : Bool) (hc : X.calm = true := by rfl) : CallD X (.type "dict") (rDictP mk) := ⟨_, call_dictP hc, fun Z F H M vs ds Q QD R rs hd o => by
  unfold rDictP at hd
  split at hd
  · obtain ⟨kvs, h1, h3⟩ := hd
    obtain ⟨x, ws, rfl, r1, rs⟩ := rs.uncons
    cases rs.unnil
    obtain ⟨p, xs, rfl, q, r⟩ := lsR_rep R r1 h1
    obtain ⟨ps, us, rfl, g1, g2⟩ := pairs_rep R.sub r
    refine ⟨p, ps, us, rfl, q, g1, fun d hd => ?_⟩
    have rm := g2.merge (.nil : RepK X.K F [] [])
    cases mk with
    | false =>
      obtain ⟨R2, e2⟩ := R.newF (o := .dK (mergeK [] us)) hd
      exact o _ _ _ _ M e2 R2 (.dic upd_same (rm.mono e2)) h3
    | true =>
      have R2 := R.newM (o := .dK (mergeK [] us)) (m := .dic (mergeD [] kvs)) hd ⟨_, upd_same, rm⟩
      exact o _ _ F _ _ (Ext.refl F) R2 (.ref d) (h3 d (R.fresh hd).2)
  · exact hd.elim⟩
theorem w_lenDic {x : Dat} {M : MH} {Q : VKD} : rLenDic [x] M Q = ∃ kvs, dicR M x = some kvs ∧ Q (.int (kvs.length : Int)) M := rfl
theorem w_dictP {mk : Bool} {x : Dat} {M : MH} {Q : VKD} : rDictP mk [x] M Q = ∃ kvs : List (Key × Dat), lsR M x = some (kvs.map fun kv => Dat.tup [kD kv.1, kv.2]) ∧ newD mk (mergeD [] kvs) M Q := rfl
end
end DL
/-! slices with a step; a value that is never changed from here on -/
namespace DL
open PySem PySem.Spec PyProof.Rows L2
/-- the places that a slice with a step picks -/
def pkIx (n : Nat) (lo hi st : Option Int) : List Nat := sliceRange (sliceBounds lo hi st n).1 (sliceBounds lo hi st n).2.1 (sliceBounds lo hi st n).2.2
def pkL {α : Type} (xs : List α) (lo hi st : Option Int) : List α := (pkIx xs.length lo hi st).filterMap (xs[·]?)
theorem pk_paired {α β : Type} {R : List α → List β → Prop} (nl : R [] []) (cn : ∀ (x : α) (u : β) (xs : List α) (us : List β) (i : Nat) (as : List α) (bs : List β), as[i]? = some x → bs[i]? = some u → R as bs → R xs us → R (x :: xs) (u :: us)) {as : List α} {bs : List β} (r : R as bs)
    (hl : as.length = bs.length) : ∀ l : List Nat, R (l.filterMap (as[·]?)) (l.filterMap (bs[·]?))
  | [] => nl
  | i :: l => by
    have ih := pk_paired nl cn r hl l
    rcases Nat.lt_or_ge i as.length with h | h
    · have h1 : as[i]? = some as[i] := List.getElem?_eq_getElem h
      have h2 : bs[i]? = some (bs[i]'(by omega)) := List.getElem?_eq_getElem (by omega)
      rw [List.filterMap_cons_some h1, List.filterMap_cons_some h2]
      exact cn _ _ _ _ i as bs h1 h2 r ih
    · rw [List.filterMap_cons_none (List.getElem?_eq_none h), List.filterMap_cons_none (List.getElem?_eq_none (by omega))]
      exact ih
theorem pk_vals {xs : List V} {us : List Value} (r : Vals xs us) (lo hi st : Option Int) : Vals (pkL xs lo hi st) (pkL us lo hi st) := by
  unfold pkL
  rw [r.length]
  refine pk_paired (R := Vals) .nil (fun x u ys vs i as bs h1 h2 ra rb => ?_) r r.length _
  obtain ⟨u', g1, g2⟩ := ra.get h1
  rw [h2] at g1
  cases g1
  exact .cons g2 rb
theorem pk_reps {K : PySem.W.Frag} {F : Hp} {xs : List V} {ds : List Dat} (r : Reps K F xs ds) (lo hi st : Option Int) : Reps K F (pkL xs lo hi st) (pkL ds lo hi st) := by
  unfold pkL
  rw [r.length]
  refine pk_paired (R := Reps K F) .nil (fun x d ys es i as bs h1 h2 ra rb => ?_) r r.length _
  obtain ⟨v, g1, g2⟩ := ra.get h2
  rw [h1] at g1
  cases g1
  exact .cons g2 rb
theorem pk_pick (us : List Value) (lo hi st : Option Int) : slicePick us.toArray lo hi st = (pkL us lo hi st).toArray := by
  unfold slicePick pkL pkIx
  rw [List.size_toArray]
  congr 2
  funext i
  simp
section
variable {X : Cx} {a e lo hi st : Expr} {da : TED} {te : TE} {pos p2 : Pos}
/-- x[lo:hi:st] of a list, the parts written out -/
def tSl3 (K : PySem.W.Frag) (l u c : Option Int) (te : TE) : TE := fun σ H Q => te σ H fun x H1 => ∃ a xs, x = .ref a ∧ SqL K H1 a xs ∧ ∀ p, H1 p = none → Q (.ref p) (upd H1 p (.lst (pkL xs l u c)))
/-- a part of a slice that is a constant -/
def PcO (X : Cx) (e : Option Expr) (o : Option Int) : Prop := ∃ t : TO, PO X e t ∧ ∀ σ H, t σ H fun o' H' => o' = o ∧ H' = H
theorem pc_none : PcO X none none := ⟨_, po_none, fun _ _ => ⟨rfl, rfl⟩⟩
theorem pc_neg {n : Int} {k : Nat} {p q : Pos} : PcO X (some (.UnaryOp .USub (.Constant (.int n) k p) q)) (some (-n)) := ⟨_, po_some (pe_un un_neg pe_int), fun _ _ => ⟨n, rfl, -n, rfl, rfl, rfl⟩⟩
theorem pe_sl3 {lo hi : Option Expr} {st : Expr} {l u c : Option Int} (he : PE X e te) (hl : PcO X lo l) (hu : PcO X hi u) (hs : PcO X (some st) c) (h0 : c ≠ some 0) : PE X (.Subscript e (.Slice lo hi (some st) p2) pos) (tSl3 X.K l u c te) := by
  obtain ⟨tl, gl, kl⟩ := hl
  obtain ⟨tu, gu, ku⟩ := hu
  obtain ⟨ts, gs, ks⟩ := hs
  refine ⟨fun pins s σ H Q I h => Subscript_ (thn (he.run pins s σ H _ I h) ?_)⟩
  rintro v s1 ⟨_, H1, I1, r1, a, xs, rfl, hx, q⟩
  cases r1
  refine wpAny_Slice (thn (gl.run pins s1 σ H1 _ I1 (kl σ H1)) ?_)
  rintro vl s2 ⟨_, _, I2, pl, el, rfl⟩
  rw [el] at pl
  refine thn (gu.run pins s2 σ _ _ I2 (ku σ _)) ?_
  rintro vu s3 ⟨_, _, I3, pu, eu, rfl⟩
  rw [eu] at pu
  refine thn (gs.run pins s3 σ _ _ I3 (ks σ _)) ?_
  rintro vs s4 ⟨_, H4, I4, ps, es, rfl⟩
  rw [es] at ps
  have I5 : Inv X pins σ H4 { s4 with heap := s4.heap.push { cls := .type "slice", data := .fields #[vl, vu, vs] } } := I4.kept (t' := s4.toks) fun _ _ => Heap.get?_push_of_some _
  generalize hS : ({ s4 with heap := s4.heap.push { cls := .type "slice", data := .fields #[vl, vu, vs] } } : Shared) = S at I5
  have hsl : S.heap.IsSliceOf s4.heap.objs.size vl vu vs := by subst hS; exact Heap.IsSliceOf.new _ vl vu vs
  obtain ⟨us, r, ht, hz⟩ := I5.list hx
  have hlen := r.length
  have hw : ∀ R : Value → Shared → Prop, R (.ref S.heap.objs.size) { S with heap := S.heap.push { cls := .type "list", data := .seq (pkL us l u c).toArray } } → wpAny (model X.prog X.w) X.A (getItem (.ref a) (.ref s4.heap.objs.size)) R X.xe S := fun R hR => by
    refine wpAny_getItem_list_slice ht.isList hsl pl pu ps h0 ?_ (by rw [List.size_toArray]; omega)
    rw [pk_pick]
    exact hR
  refine tail_any (ops := [.ref a, .ref s4.heap.objs.size]) ht.isList.typeIs (PySem.slot_list_getitem.lookup) (hw _ ?_) (by with_unfolding_all rfl)
  have hsz : (pkL us l u c).length ≤ us.length := by
    have := slicePick_size_le us.toArray l u c
    rw [pk_pick, List.size_toArray, List.size_toArray] at this
    exact this
  have rp := pk_vals r l u c
  exact ⟨.ref _, _, I5.laid (t' := S.toks) (o := .lst (pkL xs l u c)) (fun _ _ => Heap.get?_push_of_some _) (Nat.le_refl _) ⟨by rw [rp.length]; omega, _, 0, rp, Heap.get?_push_size _ rfl⟩, rfl, q _ (I5.hok.fresh (Nat.le_refl _))⟩
def dSl3 (mk : Bool) (l u c : Option Int) (da : TED) : TED := fun ρ M Q => da ρ M fun x M1 => ∃ ds, lsR M1 x = some ds ∧ newL mk (pkL ds l u c) M1 Q
theorem de_sl3 (mk : Bool) {lo hi : Option Expr} {st : Expr} {l u c : Option Int} (ha : DE X a da) (hl : PcO X lo l) (hu : PcO X hi u) (hs : PcO X (some st) c) (h0 : c ≠ some 0) : DE X (.Subscript a (.Slice lo hi (some st) p2) pos) (dSl3 mk l u c da) := pe_w (pe_sl3 ha hl hu hs h0) fun σ H Q ⟨Z, F, M, ρ, QD, R, h, o⟩ => by
  refine ⟨Z, F, M, ρ, _, R, h, fun x a F1 H1 M1 e1 R1 r1 h1 => ?_⟩
  obtain ⟨ds, h2, h3⟩ := h1
  obtain ⟨p, xs, rfl, k, rr⟩ := lsR_rep R1 r1 h2
  exact ⟨p, xs, rfl, k, fun _ new => sim_new R1 (pk_reps rr l u c) h3 (o.mono e1) new⟩
/-- a list that a call has told, from here on for good -/
def dFrzV (da : TED) : TED := fun ρ M Q => da ρ M fun x M1 => ∃ a ds, x = .ref a ∧ M1 a = some (.lst ds) ∧ Q (.lst ds) (delM M1 a)
theorem de_frzV (ha : DE X a da) : DE X a (dFrzV da) := pe_w ha fun σ H Q ⟨Z, F, M, ρ, QD, R, h, o⟩ => by
  refine ⟨Z, F, M, ρ, _, R, h, fun x d F1 H1 M1 e1 R1 r1 h1 => ?_⟩
  obtain ⟨p, ds, rfl, h2, h3⟩ := h1
  obtain ⟨xs, k, rr⟩ := (R1.chg p _ h2).2
  obtain ⟨R2, e2⟩ := R1.frz h2 k
  cases r1
  exact o _ _ _ _ _ (e1.trans e2) R2 (.lst upd_same (rr.mono e2)) h3
/-- xs[-2::-1]: all but the last one, from behind -/
theorem pk_but {α : Type} (xs : List α) : pkL xs (some (-2)) none (some (-1)) = (xs.take (xs.length - 1)).reverse := by
  unfold pkL pkIx
  have e : sliceRange (sliceBounds (some (-2)) none (some (-1)) xs.length).1 (sliceBounds (some (-2)) none (some (-1)) xs.length).2.1 (sliceBounds (some (-2)) none (some (-1)) xs.length).2.2 = (List.range (xs.length - 1)).reverse := by
    have e1 : sliceBounds (some (-2)) none (some (-1)) xs.length = (((xs.length - 1 : Nat) : Int) - 1, -1, -1) := by
      unfold sliceBounds
      simp only [Option.getD_some, show ¬ ((-1 : Int) > 0) by decide, if_false, show ((-2 : Int) < 0) = True by simp, if_true]
      congr 1
      omega
    rw [e1, PySem.W.krv_sliceRange, PySem.W.krv_range]
  rw [e, List.filterMap_reverse]
  congr 1
  have g : ∀ m, m ≤ xs.length → (List.range m).filterMap (xs[·]?) = xs.take m := by
    intro m
    induction m with
    | zero => intro _; rfl
    | succ m ih =>
      intro hm
      rw [List.range_succ, List.filterMap_append, ih (by omega), List.take_add_one]
      rw [List.getElem?_eq_getElem (by omega)]
      simp [List.getElem?_eq_getElem (show m < xs.length by omega)]
  exact g _ (by omega)
end
end DL
/-! range(i, j, -1) -/
namespace DL
open PySem PySem.Spec PyProof.Rows L2
/-- top, top - 1, .. -/
def rdnD (top : Int) (n : Nat) : List Dat := (List.range n).map fun (k : Nat) => Dat.int (top - (k : Int))
theorem rdn_len {top : Int} {n : Nat} : (rdnD top n).length = n := by
  unfold rdnD
  rw [List.length_map, List.length_range]
theorem rdn_at {top : Int} {n i : Nat} {d : Dat} (h : (rdnD top n)[i]? = some d) : i < n ∧ d = .int (top - (i : Int)) := by
  have hi : i < n := by
    have := (List.getElem?_eq_some_iff.mp h).1
    rw [rdn_len] at this
    exact this
  unfold rdnD at h
  rw [List.getElem?_map, List.getElem?_range hi] at h
  exact ⟨hi, (Option.some.inj h).symm⟩
theorem walk_dn {K : PySem.W.Frag} {F : Hp} {top : Int} {n : Nat} : WalkD K F (Itc top (-1) n) (rdnD top n) where
  go := fun Z i F' H M e R h => by
    rw [rdn_len] at h
    exact h
  stop := fun Z F' H M e R => by
    show n ≤ (rdnD top n).length
    rw [rdn_len]
    exact Nat.le_refl _
  yld := by
    rintro Z i F' H M x H' d e R ⟨rfl, rfl⟩ hd
    obtain ⟨_, rfl⟩ := rdn_at hd
    refine ⟨F', Ext.refl _, R, ?_⟩
    rw [show top + (i : Int) * -1 = top - (i : Int) by omega]
    exact .int _
def dIR3 (dA : TAD) : TID := fun ρ M R => dA ρ M fun xs M1 => match xs with
  | [.int i, .int j, .int c] => c = -1 ∧ (-(2 ^ 62) ≤ i ∧ i < 2 ^ 62) ∧ (-(2 ^ 62) ≤ j ∧ j < 2 ^ 62) ∧ R (rdnD i (i - j).toNat) M1
  | _ => False
theorem di_rng3 {X : Cx} {tg a b c : Expr} {dA : TAD} {p pos : Pos} (hm : X.mg "range" = none) (ha : DA X [a, b, c] dA) (hg : Gl X "range" := by rfl)
    (hs : starEach [a, b, c] X.env = (false, eval a X.env) :: starEach [b, c] X.env := by rfl) (hpl : (backTo pos (starEach [b, c] X.env)).any (·.1) = false := by rfl) : DI X tg (.Call (.Name "range" p) [a, b, c] [] pos) (dIR3 dA) :=
  pi_w (pi_range3 hg hm ha hs hpl) fun σ H R ⟨Z, F, M, ρ, RD, R0, h, o⟩ => by
    refine ⟨Z, F, M, ρ, _, R0, h, fun xs as F1 H1 M1 e1 R1 r1 h1 => ?_⟩
    split at h1
    · obtain ⟨u, us, rfl, g1, r1⟩ := r1.uncons
      obtain ⟨u2, us, rfl, g2, r1⟩ := r1.uncons
      obtain ⟨u3, us, rfl, g3, r1⟩ := r1.uncons
      cases r1.unnil
      cases g1
      cases g2
      cases g3
      obtain ⟨rfl, b1, b2, h2⟩ := h1
      exact ⟨_, _, _, _, rfl, RgC.neg b1.1 b1.2 b2.1 b2.2, o _ _ F1 H1 M1 e1 R1 walk_dn h2⟩
    · exact h1.elim
end DL
/-! comparisons in a row; a list in a list of lists -/
namespace DL
open PySem PySem.Spec PyProof.Rows L2
section
variable {X : Cx} {a b e : Expr} {op op' : CmpOp} {ops : List CmpOp} {es : List Expr} {pos : Pos}
/-- the rest of a row of comparisons, behind a value -/
def LkP (X : Cx) (pos : Pos) (ops : List CmpOp) (es : List Expr) (t : V → TE) : Prop := ∀ (pins : List (Addr × Obj)) (s : Shared) (σ : L2.St) (H : Hp) (Q : VK) (x : V) (v : Value), L2.Inv X pins σ H s → RelV x v → t x σ H Q →
  wpAny (model X.prog X.w) X.A (compareChain pos v ops (evalEach es X.env)) (EP X pins σ Q) X.xe s
def LkT (X : Cx) (pos : Pos) (ops : List CmpOp) (es : List Expr) (t : V → TE) : Prop := ∀ (pins : List (Addr × Obj)) (s : Shared) (σ : L2.St) (H : Hp) (Q : Bool → Hp → Prop) (x : V) (v : Value), L2.Inv X pins σ H s → RelV x v → t x σ H (fun z H' => ∃ k, z = .bl k ∧ Q k H') →
  wpAny (model X.prog X.w) X.A (testChain pos v ops (evalEach es X.env)) (TP X pins σ Q) X.xe s
def tLk1 (r : R2) (te : TE) : V → TE := fun x σ H Q => te σ H fun y H1 => r x y H1 Q
def tLk (r : R2) (te : TE) (t : V → TE) : V → TE := fun x σ H Q => te σ H fun y H1 => r x y H1 fun z H2 => ∃ k, z = .bl k ∧ if k = true then t y σ H2 Q else Q (.bl false) H2
variable {r : R2} {te ta : TE} {t : V → TE}
theorem lkp_one (ho : OpR X (compareOp op) r) (he : PE X e te) : LkP X pos [op] [e] (tLk1 r te) := fun pins s σ H Q x v I rx h =>
  chain_last (thn (he.run pins s σ H _ I h) fun u s1 ⟨y, H1, I1, ry, q⟩ => ho pins s1 σ H1 x y v u Q I1 rx ry q)
theorem lkp_cons (ho : OpR X (compareOp op) r) (he : PE X e te) (hl : LkP X pos (op' :: ops) (b :: es) t) : LkP X pos (op :: op' :: ops) (e :: b :: es) (tLk r te t) := fun pins s σ H Q x v I rx h => by
  refine chain_link (thn (he.run pins s σ H _ I h) fun u s1 ⟨y, H1, I1, ry, q⟩ => thn (ho pins s1 σ H1 x y v u _ I1 rx ry q) ?_)
  rintro c s2 ⟨z, H2, I2, rz, k, rfl, q2⟩
  cases rz
  refine wpAny_truthy_bool ?_
  cases k with
  | true => exact hl pins s2 σ H2 Q y u I2 ry q2
  | false => exact ⟨.bl false, H2, I2, rfl, q2⟩
theorem lkt_one (ho : OpR X (compareOp op) r) (he : PE X e te) : LkT X pos [op] [e] (tLk1 r te) := fun pins s σ H Q x v I rx h => by
  refine test_last (thn (he.run pins s σ H _ I h) fun u s1 ⟨y, H1, I1, ry, q⟩ => thn (ho pins s1 σ H1 x y v u _ I1 rx ry q) ?_)
  rintro c s2 ⟨z, H2, I2, rz, k, rfl, q2⟩
  cases rz
  exact wpAny_truthy_bool ⟨H2, I2, q2⟩
theorem lkt_cons (ho : OpR X (compareOp op) r) (he : PE X e te) (hl : LkT X pos (op' :: ops) (b :: es) t) : LkT X pos (op :: op' :: ops) (e :: b :: es) (tLk r te t) := fun pins s σ H Q x v I rx h => by
  refine test_link (thn (he.run pins s σ H _ I h) fun u s1 ⟨y, H1, I1, ry, q⟩ => thn (ho pins s1 σ H1 x y v u _ I1 rx ry q) ?_)
  rintro c s2 ⟨z, H2, I2, rz, k, rfl, q2⟩
  cases rz
  refine wpAny_truthy_bool ?_
  cases k with
  | true => exact hl pins s2 σ H2 Q y u I2 ry q2
  | false =>
    obtain ⟨k', e', q3⟩ := q2
    cases e'
    exact ⟨H2, I2, q3⟩
def tRow (ta : TE) (t : V → TE) : TE := fun σ H Q => ta σ H fun x H1 => t x σ H1 Q
theorem pe_row (ha : PE X a ta) (hl : LkP X pos (op :: op' :: ops) (e :: b :: es) t) (hm : lastMarks (op :: op' :: ops) (e :: b :: es) = false := by with_unfolding_all rfl) : PE X (.Compare a (op :: op' :: ops) (e :: b :: es) pos) (tRow ta t) :=
  ⟨fun pins s σ H Q I h => Compare_chain (thn (ha.run pins s σ H _ I h) fun v s1 ⟨x, H1, I1, rx, q⟩ => hl pins s1 σ H1 Q x v I1 rx q) hm⟩
theorem pt_row (ha : PE X a ta) (hl : LkT X pos (op :: op' :: ops) (e :: b :: es) t) (hm : lastMarks (op :: op' :: ops) (e :: b :: es) = false := by with_unfolding_all rfl) : PT X (.Compare a (op :: op' :: ops) (e :: b :: es) pos) (tTest (tRow ta t)) :=
  ⟨fun pins s σ H Q I h => isTrue_chain (thn (ha.run pins s σ H _ I h) fun v s1 ⟨x, H1, I1, rx, q⟩ => hl pins s1 σ H1 Q x v I1 rx q) hm⟩
/-- the same over data -/
def upL (K : PySem.W.Frag) (d : Dat → TED) : V → TE := fun x σ H Q => ∃ Z F M ρ QD y, Rel K Z F H M σ ρ ∧ Rep K F x y ∧ d y ρ M QD ∧ OkV K Z F Q QD
structure DLk (X : Cx) (pos : Pos) (ops : List CmpOp) (es : List Expr) (d : Dat → TED) : Prop where
  p : LkP X pos ops es (upL X.K d)
  t : LkT X pos ops es (upL X.K d)
def dChOne (r : R2D) (de : TED) : Dat → TED := fun x ρ M Q => de ρ M fun y M1 => r x y M1 Q
def dLk (r : R2D) (de : TED) (d : Dat → TED) : Dat → TED := fun x ρ M Q => de ρ M fun y M1 => r x y M1 fun z M2 => match z with
  | .bl k => if k = true then d y ρ M2 Q else Q (.bl false) M2
  | _ => False
def dChRow (da : TED) (d : Dat → TED) : TED := fun ρ M Q => da ρ M fun x M1 => d x ρ M1 Q
variable {d2 : R2D} {de da : TED} {d : Dat → TED}
theorem up_lk1 {K : PySem.W.Frag} {x : V} {σ : L2.St} {H : Hp} {Q : VK} (hs : SimO K r d2) (h : upL K (dChOne d2 de) x σ H Q) : tLk1 r (up K de) x σ H Q := by
  obtain ⟨Z, F, M, ρ, QD, y, R, rx, h, o⟩ := h
  exact ⟨Z, F, M, ρ, _, R, h, fun u c F1 H1 M1 e1 R1 r1 h1 => hs Z F1 H1 M1 x u y c Q QD R1 (rx.mono e1) r1 h1 (o.mono e1)⟩
theorem up_lk {K : PySem.W.Frag} {x : V} {σ : L2.St} {H : Hp} {Q : VK} (hs : SimO K r d2) (h : upL K (dLk d2 de d) x σ H Q) : tLk r (up K de) (upL K d) x σ H Q := by
  obtain ⟨Z, F, M, ρ, QD, y, R, rx, h, o⟩ := h
  refine ⟨Z, F, M, ρ, _, R, h, fun u c F1 H1 M1 e1 R1 r1 h1 => ?_⟩
  refine hs Z F1 H1 M1 x u y c _ _ R1 (rx.mono e1) r1 h1 fun z g F2 H2 M2 e2 R2 r2 h2 => ?_
  split at h2
  · rename_i k
    refine ⟨k, r2.toBl, ?_⟩
    cases k with
    | true =>
      rw [if_pos rfl] at h2 ⊢
      exact ⟨Z, F2, M2, ρ, QD, c, R.ext (e1.trans e2) R2, r1.mono e2, h2, o.mono (e1.trans e2)⟩
    | false =>
      rw [if_neg Bool.false_ne_true] at h2 ⊢
      exact o _ _ F2 H2 M2 (e1.trans e2) R2 (.bl false) h2
  · exact h2.elim
theorem dlk_one (ho : OpD X (compareOp op) d2) (he : DE X e de) : DLk X pos [op] [e] (dChOne d2 de) := by
  obtain ⟨r, hr, hs⟩ := ho
  exact ⟨fun pins s σ H Q x v I rx h => lkp_one hr he pins s σ H Q x v I rx (up_lk1 hs h), fun pins s σ H Q x v I rx h => lkt_one hr he pins s σ H Q x v I rx (up_lk1 hs h)⟩
theorem dlk_cons (ho : OpD X (compareOp op) d2) (he : DE X e de) (hl : DLk X pos (op' :: ops) (b :: es) d) : DLk X pos (op :: op' :: ops) (e :: b :: es) (dLk d2 de d) := by
  obtain ⟨r, hr, hs⟩ := ho
  exact ⟨fun pins s σ H Q x v I rx h => lkp_cons hr he hl.p pins s σ H Q x v I rx (up_lk hs h), fun pins s σ H Q x v I rx h => lkt_cons hr he hl.t pins s σ H Q x v I rx (up_lk hs h)⟩
theorem up_row {K : PySem.W.Frag} {σ : L2.St} {H : Hp} {Q : VK} (h : up K (dChRow da d) σ H Q) : tRow (up K da) (upL K d) σ H Q := by
  obtain ⟨Z, F, M, ρ, QD, R, h, o⟩ := h
  exact ⟨Z, F, M, ρ, _, R, h, fun u c F1 H1 M1 e1 R1 r1 h1 => ⟨Z, F1, M1, ρ, QD, c, R.ext e1 R1, r1, h1, o.mono e1⟩⟩
theorem de_row (ha : DE X a da) (hl : DLk X pos (op :: op' :: ops) (e :: b :: es) d) (hm : lastMarks (op :: op' :: ops) (e :: b :: es) = false := by with_unfolding_all rfl) : DE X (.Compare a (op :: op' :: ops) (e :: b :: es) pos) (dChRow da d) :=
  pe_w (pe_row ha hl.p hm) fun σ H Q h => up_row h
theorem dt_row (ha : DE X a da) (hl : DLk X pos (op :: op' :: ops) (e :: b :: es) d) (hm : lastMarks (op :: op' :: ops) (e :: b :: es) = false := by with_unfolding_all rfl) : DT X (.Compare a (op :: op' :: ops) (e :: b :: es) pos) (dTest (dChRow da d)) :=
  pt_w (pt_row ha hl.t hm) fun σ H Q h => up_row (up_test h)
theorem w_chLk {x : Dat} {ρ : EnvD} {M : MH} {Q : VKD} : dLk d2 de d x ρ M Q = de ρ M fun y M1 => d2 x y M1 fun z M2 => asBl z fun k => if k = true then d y ρ M2 Q else Q (.bl false) M2 := rfl
theorem room65 {k : Nat} {A : Around} (r : Room k A) : A.units + 65 < cLine := by
  have := r.un
  omega
/-- a list in a list of lists -/
def inLs (x : Dat) (ds : List Dat) : Bool := (toPys ds).any fun z => PyData.eqv z (toPy x)
def rInNest : R2D := fun x y M Q => ∃ ds, deref M y = .lst ds ∧ shp 64 (deref M x) = true ∧ shp 64 (.lst ds) = true ∧ Q (.bl (inLs (deref M x) ds)) M
theorem od_inL (hu : X.A.units + 65 < cLine) : OpD X (compareOp .In) rInNest := ⟨_, L2.op_inD hu, fun Z F H M x y a b Q QD R ra rb hd o => by
  obtain ⟨ds, h1, h2, h3, h4⟩ := hd
  have hb := deref_dp R rb (by rw [h1]; exact h3)
  rw [h1] at hb
  simp only [toPy] at hb
  have hs := shaped_of h3
  simp only [toPy] at hs
  exact ⟨_, _, deref_dp R ra h2, hb, shaped_of h2, hs, o _ _ F H M (Ext.refl F) R (.bl _) h4⟩⟩
theorem inLs_cons (x y : Dat) (ds : List Dat) : inLs x (y :: ds) = (eqD y x || inLs x ds) := by
  unfold inLs eqD
  simp only [toPys, List.any_cons]
theorem inLs_nil (x : Dat) : inLs x [] = false := rfl
end
end DL
/-! a, b = a tuple or a list -/
namespace DL
open PySem PySem.Spec PyProof.Rows L2
section
variable {X : Cx} {tg : Expr}
def dgTU (g1 g2 : TGD) : TGD := fun x ρ M Q => match x with
  | .tup xs => g1 (.tup xs) ρ M Q
  | x => g2 x ρ M Q
theorem dgo_tul {vs : List Nat} {g1 g2 : TGD} (h1 : DGo X tg vs g1) (h2 : DGo X tg vs g2) : DGo X tg vs (dgTU g1 g2) := ⟨fun pins s σ H v x Q I r ⟨Z, F, M, ρ, y, QD, R, ry, h, o⟩ => by
  unfold dgTU at h
  split at h
  · exact h1.run pins s σ H v x Q I r ⟨Z, F, M, ρ, _, QD, R, ry, h, o⟩
  · exact h2.run pins s σ H v x Q I r ⟨Z, F, M, ρ, _, QD, R, ry, h, o⟩⟩
theorem w_tuT {g1 g2 : TGD} {xs : List Dat} {ρ : EnvD} {M : MH} {Q : EnvD → MH → Prop} : dgTU g1 g2 (.tup xs) ρ M Q = g1 (.tup xs) ρ M Q := rfl
theorem w_tuL {g1 g2 : TGD} {xs : List Dat} {ρ : EnvD} {M : MH} {Q : EnvD → MH → Prop} : dgTU g1 g2 (.lst xs) ρ M Q = g2 (.lst xs) ρ M Q := rfl
end
end DL
/-! a tuple or list that is not in a list of them -/
namespace DL
open PySem PySem.Spec PyProof.Rows L2
section
variable {X : Cx}
def rNotInNest : R2D := fun x y M Q => ∃ ds, deref M y = .lst ds ∧ shp 64 (deref M x) = true ∧ shp 64 (.lst ds) = true ∧ Q (.bl (!inLs (deref M x) ds)) M
theorem od_notinL (hu : X.A.units + 65 < cLine) : OpD X (compareOp .NotIn) rNotInNest := ⟨_, L2.op_notInD hu, fun Z F H M x y a b Q QD R ra rb hd o => by
  obtain ⟨ds, h1, h2, h3, h4⟩ := hd
  have hb := deref_dp R rb (by rw [h1]; exact h3)
  rw [h1] at hb
  simp only [toPy] at hb
  have hs := shaped_of h3
  simp only [toPy] at hs
  exact ⟨_, _, deref_dp R ra h2, hb, shaped_of h2, hs, o _ _ F H M (Ext.refl F) R (.bl _) h4⟩⟩
/-- of pairs of ints -/
theorem inLs_prs (q : Int × Int) : ∀ l : List (Int × Int), inLs (prD q) (l.map prD) = decide (q ∈ l)
  | [] => rfl
  | p :: l => by
    have e : eqD (prD p) (prD q) = decide (p = q) := by
      unfold prD
      rw [eqD_tup, eqDs_cons, eqDs_cons, eqD_int, eqD_int, eqDs_nil, Bool.and_true]
      by_cases h : p = q
      · subst h
        simp
      · rw [decide_eq_false h]
        by_cases h1 : p.1 = q.1
        · have h2 : p.2 ≠ q.2 := fun h2 => h (Prod.ext h1 h2)
          simp [h1, h2]
        · simp [h1]
    rw [List.map_cons, inLs_cons, inLs_prs q l, e]
    by_cases h : p = q
    · subst h
      simp
    · by_cases h2 : q ∈ l
      · simp [h, h2]
      · have : ¬ q = p := fun c => h c.symm
        simp [h, h2, this]
theorem shps_prN (n : Nat) : ∀ l : List (Int × Int), shps (n + 1) (l.map prD) = true
  | [] => rfl
  | q :: l => by
    rw [List.map_cons]
    unfold shps
    rw [shps_prN n l]
    rfl
theorem shp_prN (l : List (Int × Int)) : shp 64 (.lst (l.map prD)) = true := shps_prN 62 l
end
end DL
/-! tuple(list), list.count(an int), range(i, j, step) of a positive step -/
namespace DL
open PySem PySem.Spec PyProof.Rows L2
/-! tuple(xs) of a list -/
def rTupD : List Dat → MH → VKD → Prop := fun ds M Q => match ds with
  | [x] => ∃ ys, lsR M x = some ys ∧ Q (.tup ys) M
  | _ => False
theorem cd_tuple {X : Cx} : CallD X (.type "tuple") rTupD := ⟨_, call_tuple_of, fun Z F H M vs ds Q QD R rs hd o => by
  unfold rTupD at hd
  split at hd
  · obtain ⟨ys, h1, h3⟩ := hd
    obtain ⟨x, ws, rfl, r1, rs⟩ := rs.uncons
    cases rs.unnil
    obtain ⟨p, xs, rfl, q, r⟩ := lsR_rep R r1 h1
    refine ⟨p, xs, rfl, .inl ⟨q, fun l hl => ?_⟩⟩
    obtain ⟨R2, e2⟩ := R.newF (o := .tup xs) hl
    exact o _ _ _ _ M e2 R2 (.tup (SqT.of upd_same) (r.mono e2)) h3
  · exact hd.elim⟩
/-! list.count(k) of a list of ints -/
def eqN (k : Int) (v : Value) : Bool := match v with
  | .int i _ => i == k
  | _ => false
theorem eqN_count {K : PySem.W.Frag} {F : Hp} (k : Int) : ∀ {ns : List Int} {vs : List V} {us : List Value}, Reps K F vs (ns.map Dat.int) → Vals vs us → us.countP (eqN k) = ns.count k ∧ ∀ u ∈ us, ∃ i t, u = Value.int i t
  | [], _, _, .nil, .nil => ⟨rfl, fun _ h => (by cases h)⟩
  | n :: ns, _, _, .cons h r, .cons g s => by
    cases h
    obtain ⟨t, rfl⟩ := g
    obtain ⟨i1, i2⟩ := eqN_count k r s
    refine ⟨?_, fun u hu => ?_⟩
    · rw [List.countP_cons, List.count_cons, i1]
      rfl
    · rcases List.mem_cons.mp hu with rfl | hu
      · exact ⟨_, _, rfl⟩
      · exact i2 u hu
def rCntN : Dat → List Dat → MH → VKD → Prop := fun x xs M Q => ∃ (k : Int) (ns : List Int), xs = [.int k] ∧ lsR M x = some (ns.map Dat.int) ∧ Q (.int (ns.count k : Nat)) M
theorem md_countN {X : Cx} : MtD X "list.count" rCntN := ⟨fun x xs H Q => ∃ (p : Addr) (k : Int) (ns : List Int) (vs : List V), x = .ref p ∧ xs = [.int k] ∧ SqL X.K H p vs ∧ (∀ us, Vals vs us → us.countP (eqN k) = ns.count k ∧ ∀ u ∈ us, ∃ i t, u = Value.int i t) ∧ Q (.int (ns.count k : Nat)) H, fun pins s σ H x xs v us Q I rx rxs h => by
    obtain ⟨p, k, ns, vs, rfl, rfl, hs, hb, q⟩ := h
    cases rx
    obtain ⟨u, rfl, ru⟩ := rxs.one
    obtain ⟨tk, rfl⟩ := ru
    obtain ⟨its, rv, ⟨⟨cls, dd, data, sl⟩, n, ho, hc, hdn, hd⟩, hlen⟩ := I.list hs
    simp only at hc hd
    subst hc hd
    obtain ⟨h1, h2⟩ := hb _ rv
    refine call_meets PySem.F.slot_list_count ⟨_, ho, rfl⟩ PySem.F.entry_list_count (PySem.F.args_list_count_2 _ _)
      (SeqAt.list_countAt p its.toArray n dd sl (.int k tk) (eqN k)) ⟨ho, fun y hy => ?_, ?_⟩
    · have hy : y ∈ its := by simpa using hy
      obtain ⟨i, t, rfl⟩ := h2 y hy
      exact SeqAt.EqAt.int_int i t k tk
    · refine ⟨.int (ns.count k : Nat), H, I.tok _, ⟨s.toks, ?_⟩, q⟩
      show Value.int ((its.toArray.toList.countP (eqN k) : Nat) : Int) s.toks = _
      rw [List.toList_toArray, h1], fun Z F H M x xs a as Q QD R ra rs hd o => by
    obtain ⟨k, ns, rfl, q1, q2⟩ := hd
    obtain ⟨v, ws, rfl, r1, rs⟩ := rs.uncons
    cases rs.unnil
    cases r1
    obtain ⟨p, ys, rfl, q, rr⟩ := lsR_rep R ra q1
    exact ⟨p, k, ns, ys, rfl, rfl, q, fun us hv => eqN_count k rr hv, o _ _ F H M (Ext.refl F) R (.int _) q2⟩⟩
/-! range(i, j, c) of a positive c -/
def rstD (i c : Int) (n : Nat) : List Dat := (List.range n).map fun (k : Nat) => Dat.int (i + (k : Int) * c)
theorem rst_len {i c : Int} {n : Nat} : (rstD i c n).length = n := by
  unfold rstD
  rw [List.length_map, List.length_range]
theorem rst_at {i0 c : Int} {n i : Nat} {d : Dat} (h : (rstD i0 c n)[i]? = some d) : i < n ∧ d = .int (i0 + (i : Int) * c) := by
  have hi : i < n := by
    have := (List.getElem?_eq_some_iff.mp h).1
    rw [rst_len] at this
    exact this
  unfold rstD at h
  rw [List.getElem?_map, List.getElem?_range hi] at h
  exact ⟨hi, (Option.some.inj h).symm⟩
theorem walk_st {K : PySem.W.Frag} {F : Hp} {i0 c : Int} {n : Nat} : WalkD K F (Itc i0 c n) (rstD i0 c n) where
  go := fun Z i F' H M e R h => by
    rw [rst_len] at h
    exact h
  stop := fun Z F' H M e R => by
    show n ≤ (rstD i0 c n).length
    rw [rst_len]
    exact Nat.le_refl _
  yld := by
    rintro Z i F' H M x H' d e R ⟨rfl, rfl⟩ hd
    obtain ⟨_, rfl⟩ := rst_at hd
    exact ⟨F', Ext.refl _, R, .int _⟩
/-- how many items -/
def rstN (i j c : Int) : Nat := ((j - i + c - 1) / c).toNat
theorem rgC_pos {i j c : Int} (hc : 0 < c) (hc2 : c < 1000) (ha : -(2 ^ 61) ≤ i) (ha' : i < 2 ^ 61) (hb : -(2 ^ 61) ≤ j) (hb' : j < 2 ^ 61) : RgC i j c (rstN i j c) := by
  have hsz : Builtin.Range.rangeSize i j c = (rstN i j c : Int) := by
    unfold Builtin.Range.rangeSize rstN
    rw [if_pos hc]
    split
    · have e : j - i + c - 1 = (j - i - 1) + c := by omega
      rw [e, Int.add_ediv_of_dvd_right ⟨1, by omega⟩, Int.ediv_self (by omega), Int.toNat_of_nonneg]
      have := Int.ediv_nonneg (show 0 ≤ j - i - 1 by omega) (show 0 ≤ c by omega)
      omega
    · have : (j - i + c - 1) / c ≤ 0 := by
        have := Int.ediv_le_ediv hc (show j - i + c - 1 ≤ c - 1 by omega)
        rw [Int.ediv_eq_zero_of_lt (show 0 ≤ c - 1 by omega) (by omega)] at this
        exact this
      omega
  refine ⟨by omega, by omega, ?_, hsz⟩
  unfold Builtin.Range.small
  rw [hsz]
  have h0 : (rstN i j c : Int) = if i < j then (j - i - 1) / c + 1 else 0 := by
    rw [← hsz]
    unfold Builtin.Range.rangeSize
    rw [if_pos hc]
  have h1 : i < j → 0 ≤ (j - i - 1) / c ∧ (j - i - 1) / c ≤ j - i - 1 := fun h => by
    have := Int.ediv_nonneg (show 0 ≤ j - i - 1 by omega) (show 0 ≤ c by omega)
    have := Int.ediv_le_self c (show 0 ≤ j - i - 1 by omega)
    omega
  simp only [Builtin.Range.rangeFitsLong, Bool.and_eq_true, Bool.or_eq_true, decide_eq_true_eq, beq_iff_eq]
  have h2 : 0 ≤ (rstN i j c : Int) ∧ (rstN i j c : Int) < 2 ^ 63 := by
    by_cases h : i < j
    · rw [if_pos h] at h0
      have := h1 h
      omega
    · rw [if_neg h] at h0
      omega
  refine ⟨⟨⟨⟨⟨by omega, by omega⟩, by omega, by omega⟩, by omega, by omega⟩, by omega, h2.2⟩, Or.inr ?_⟩
  rw [if_pos hc, Bool.and_eq_true, decide_eq_true_eq, decide_eq_true_eq]
  omega
def dIRS (dA : TAD) : TID := fun ρ M R => dA ρ M fun xs M1 => match xs with
  | [.int i, .int j, .int c] => (0 < c ∧ c < 1000) ∧ (-(2 ^ 61) ≤ i ∧ i < 2 ^ 61) ∧ (-(2 ^ 61) ≤ j ∧ j < 2 ^ 61) ∧ R (rstD i c (rstN i j c)) M1
  | _ => False
theorem di_rngS {X : Cx} {tg a b c : Expr} {dA : TAD} {p pos : Pos} (hm : X.mg "range" = none) (ha : DA X [a, b, c] dA) (hg : Gl X "range" := by rfl)
    (hs : starEach [a, b, c] X.env = (false, eval a X.env) :: starEach [b, c] X.env := by rfl) (hpl : (backTo pos (starEach [b, c] X.env)).any (·.1) = false := by rfl) : DI X tg (.Call (.Name "range" p) [a, b, c] [] pos) (dIRS dA) :=
  pi_w (pi_range3 hg hm ha hs hpl) fun σ H R ⟨Z, F, M, ρ, RD, R0, h, o⟩ => by
    refine ⟨Z, F, M, ρ, _, R0, h, fun xs as F1 H1 M1 e1 R1 r1 h1 => ?_⟩
    split at h1
    · obtain ⟨u, us, rfl, g1, r1⟩ := r1.uncons
      obtain ⟨u2, us, rfl, g2, r1⟩ := r1.uncons
      obtain ⟨u3, us, rfl, g3, r1⟩ := r1.uncons
      cases r1.unnil
      cases g1
      cases g2
      cases g3
      obtain ⟨c1, b1, b2, h2⟩ := h1
      exact ⟨_, _, _, _, rfl, rgC_pos c1.1 c1.2 b1.1 b1.2 b2.1 b2.2, o _ _ F1 H1 M1 e1 R1 walk_st h2⟩
    · exact h1.elim
end DL
/-! lambdas that are kept: closures as values, with what their cells hold -/
namespace DL
open PySem PySem.Spec PyProof.Rows L2 LamX NdefX
/-! ### cells that are told -/
/-- the object at a is o -/
def CelO (a : Addr) (o : Obj) : HO := .ext fun h => h.get? a = some o
def celR (K : PySem.W.Frag) (a : Addr) (o : Obj) (d : Dat) : OthR := ⟨fun F x => x = CelO a o ∧ ∃ v u, o.data = .cell (some u) ∧ RelV v u ∧ Rep K F v d, fun F F' x e ⟨h1, v, u, h2, h3, h4⟩ => ⟨h1, v, u, h2, h3, h4.mono e⟩⟩
/-- a cell: where it stands, its object, what it holds -/
abbrev Tc := Addr × Obj × Dat
def fndC (ts : List Tc) (b : Addr) : Option Tc := ts.find? fun t => decide (t.1 = b)
theorem fndC_some {ts : List Tc} {b : Addr} {t : Tc} (h : fndC ts b = some t) : t ∈ ts ∧ t.1 = b := ⟨List.mem_of_find?_eq_some h, of_decide_eq_true (List.find?_some (p := fun t : Tc => decide (t.1 = b)) h)⟩
theorem fndC_none {ts : List Tc} {b : Addr} (h : ∀ t ∈ ts, t.1 ≠ b) : fndC ts b = none := List.find?_eq_none.mpr fun t ht z => h t ht (of_decide_eq_true z)
theorem fndC_has {ts : List Tc} {t : Tc} (h : t ∈ ts) : ∃ u, fndC ts t.1 = some u := by
  cases q : fndC ts t.1 with
  | some u => exact ⟨u, rfl⟩
  | none => exact absurd (decide_eq_true rfl) (List.find?_eq_none.mp q t h)
def hidH (H : Hp) (ts : List Tc) : Hp := fun b => match fndC ts b with
  | some _ => none
  | none => H b
def shwH (H : Hp) (ts : List Tc) : Hp := fun b => match fndC ts b with
  | some t => some (CelO b t.2.1)
  | none => H b
def hidM (M : MH) (ts : List Tc) : MH := fun b => match fndC ts b with
  | some _ => none
  | none => M b
def shwM (K : PySem.W.Frag) (M : MH) (ts : List Tc) : MH := fun b => match fndC ts b with
  | some t => some (.oth (celR K b t.2.1 t.2.2))
  | none => M b
theorem hidH_no {H : Hp} {ts : List Tc} {b : Addr} (h : fndC ts b = none) : hidH H ts b = H b := by unfold hidH; rw [h]
theorem hidH_at {H : Hp} {ts : List Tc} {b : Addr} {t : Tc} (h : fndC ts b = some t) : hidH H ts b = none := by unfold hidH; rw [h]
theorem shwH_no {H : Hp} {ts : List Tc} {b : Addr} (h : fndC ts b = none) : shwH H ts b = H b := by unfold shwH; rw [h]
theorem shwH_at {H : Hp} {ts : List Tc} {b : Addr} {t : Tc} (h : fndC ts b = some t) : shwH H ts b = some (CelO b t.2.1) := by unfold shwH; rw [h]
theorem hidM_no {M : MH} {ts : List Tc} {b : Addr} (h : fndC ts b = none) : hidM M ts b = M b := by unfold hidM; rw [h]
theorem hidM_at {M : MH} {ts : List Tc} {b : Addr} {t : Tc} (h : fndC ts b = some t) : hidM M ts b = none := by unfold hidM; rw [h]
theorem shwM_no {K : PySem.W.Frag} {M : MH} {ts : List Tc} {b : Addr} (h : fndC ts b = none) : shwM K M ts b = M b := by unfold shwM; rw [h]
theorem shwM_at {K : PySem.W.Frag} {M : MH} {ts : List Tc} {b : Addr} {t : Tc} (h : fndC ts b = some t) : shwM K M ts b = some (.oth (celR K b t.2.1 t.2.2)) := by unfold shwM; rw [h]
theorem hidH_some {H : Hp} {ts : List Tc} {b : Addr} {o : HO} (h : hidH H ts b = some o) : fndC ts b = none ∧ H b = some o := by
  cases q : fndC ts b with
  | some t => rw [hidH_at q] at h; cases h
  | none => rw [hidH_no q] at h; exact ⟨rfl, h⟩
/-- M tells these cells -/
def CelsM (K : PySem.W.Frag) (M : MH) (ts : List Tc) : Prop := ∀ t ∈ ts, M t.1 = some (.oth (celR K t.1 t.2.1 t.2.2))
def CelsH (H : Hp) (ts : List Tc) : Prop := ∀ t ∈ ts, H t.1 = some (CelO t.1 t.2.1)
section
variable {P : Program} {w : World} {K : PySem.W.Frag} {Z F H H2 : Hp} {M M2 : MH} {ts : List Tc} {h h2 B : Heap}
theorem CelsM.at_ (C : CelsM K M ts) {b : Addr} {t : Tc} (q : fndC ts b = some t) : M b = some (.oth (celR K b t.2.1 t.2.2)) := by
  obtain ⟨h1, rfl⟩ := fndC_some q
  exact C t h1
theorem CelsH.at_ (C : CelsH H ts) {b : Addr} {t : Tc} (q : fndC ts b = some t) : H b = some (CelO b t.2.1) := by
  obtain ⟨h1, rfl⟩ := fndC_some q
  exact C t h1
theorem shw_hid (C : CelsM K M ts) : shwM K (hidM M ts) ts = M := by
  funext b
  cases q : fndC ts b with
  | some t => rw [shwM_at q, C.at_ q]
  | none => rw [shwM_no q, hidM_no q]
theorem CelsM.heap (C : CelsM K M ts) (R : RelM K Z F H M) : CelsH H ts := fun t ht => by
  obtain ⟨_, o, h1, h2, _⟩ := R.chg _ _ (C t ht)
  rw [h1, h2]
theorem CelsM.cel (C : CelsM K M ts) (R : RelM K Z F H M) : ∀ t ∈ ts, ∃ v u, t.2.1.data = .cell (some u) ∧ RelV v u ∧ Rep K F v t.2.2 := fun t ht => by
  obtain ⟨_, o, h1, h2, h3⟩ := R.chg _ _ (C t ht)
  exact h3
theorem relM_hid (R : RelM K Z F H M) (C : CelsM K M ts) : RelM K Z F (hidH H ts) (hidM M ts) := by
  have no : ∀ a, M a = none → fndC ts a = none := fun a h => by
    cases q : fndC ts a with
    | some t => rw [C.at_ q] at h; cases h
    | none => rfl
  refine ⟨fun a o h => ?_, fun a o h => ?_, fun a m h => ?_⟩
  · have q : fndC ts a = none := by
      cases q : fndC ts a with
      | some t =>
        have := (R.chg _ _ (C.at_ q)).1
        rw [h] at this
        cases this
      | none => rfl
    rw [hidH_no q]
    exact R.sub a o h
  · obtain ⟨h1, h2, h3⟩ := R.hid a o h
    have q := no a h3
    rw [hidH_no q, hidM_no q]
    exact ⟨h1, h2, h3⟩
  · cases q : fndC ts a with
    | some t => rw [hidM_at q] at h; cases h
    | none =>
      rw [hidM_no q] at h
      obtain ⟨h1, h2⟩ := R.chg a m h
      exact ⟨h1, h2.mono (Ext.refl F) (hidH_no q)⟩
theorem relM_shw (R : RelM K Z F H M) (n : ∀ t ∈ ts, H t.1 = none) (c : ∀ t ∈ ts, ∃ v u, t.2.1.data = .cell (some u) ∧ RelV v u ∧ Rep K F v t.2.2) : RelM K Z F (shwH H ts) (shwM K M ts) := by
  have no : ∀ a o, H a = some o → fndC ts a = none := fun a o h => fndC_none fun t ht e => by
    have := n t ht
    rw [e, h] at this
    cases this
  refine ⟨fun a o h => ?_, fun a o h => ?_, fun a m h => ?_⟩
  · have h1 := R.sub a o h
    rw [shwH_no (no a o h1)]
    exact h1
  · obtain ⟨h1, h2, h3⟩ := R.hid a o h
    have q := no a o h1
    rw [shwH_no q, shwM_no q]
    exact ⟨h1, h2, h3⟩
  · cases q : fndC ts a with
    | some t =>
      rw [shwM_at q] at h
      cases h
      obtain ⟨h1, rfl⟩ := fndC_some q
      refine ⟨?_, _, shwH_at q, rfl, c t h1⟩
      cases e : F t.1 with
      | none => rfl
      | some o =>
        have := R.sub _ _ e
        rw [n t h1] at this
        cases this
    | none =>
      rw [shwM_no q] at h
      obtain ⟨h1, h2⟩ := R.chg a m h
      exact ⟨h1, h2.mono (Ext.refl F) (shwH_no q)⟩
theorem hok_hid (k : HOk P w H h) (C : CelsH H ts) : HOk P w (hidH H ts) h := fun a o e => by
  have keep : ∀ b x, H b = some x → (∀ u, x ≠ CelO b u) → hidH H ts b = some x := fun b x h1 h2 => by
    cases q : fndC ts b with
    | none => rw [hidH_no q]; exact h1
    | some t => exact absurd (Option.some.inj (h1.symm.trans (C.at_ q))) (h2 _)
  refine (k a o (hidH_some e).2).stay (fun _ _ _ q => q) (fun b q => keep b _ q fun u z => by cases z) fun b xs q => keep b _ q fun u z => by cases z
theorem hok_shw (k : HOk P w H h) (n : ∀ t ∈ ts, H t.1 = none) (g : ∀ t ∈ ts, h.get? t.1 = some t.2.1) : HOk P w (shwH H ts) h := fun a o e => by
  have keep : ∀ b x, H b = some x → shwH H ts b = some x := fun b x h1 => by
    rw [shwH_no (fndC_none fun t ht z => ?_)]
    · exact h1
    · have := n t ht
      rw [z, h1] at this
      cases this
  cases q : fndC ts a with
  | none =>
    rw [shwH_no q] at e
    exact (k a o e).stay (fun _ _ _ q => q) (fun b q => keep b _ q) fun b xs q => keep b _ q
  | some t =>
    rw [shwH_at q] at e
    cases e
    obtain ⟨h1, rfl⟩ := fndC_some q
    exact ⟨g t h1, ⟨_, g t h1⟩, fun h1 h2 z st => st _ z⟩
theorem un_shw {fs ex : List Addr} (u : Un fs ex (hidH H ts) H2 h h2) (C : CelsH H ts) : Un fs ex H (shwH H2 ts) h h2 := by
  have hn : ∀ b, H b = none → fndC ts b = none ∧ hidH H ts b = none := fun b e => by
    cases q : fndC ts b with
    | some t => rw [C.at_ q] at e; cases e
    | none => exact ⟨rfl, by rw [hidH_no q]; exact e⟩
  have ks : ∀ b x, H b = some x → (∀ u, x ≠ CelO b u) → fndC ts b = none ∧ hidH H ts b = some x := fun b x h1 h2 => by
    cases q : fndC ts b with
    | none => exact ⟨rfl, by rw [hidH_no q]; exact h1⟩
    | some t => exact absurd (Option.some.inj (h1.symm.trans (C.at_ q))) (h2 _)
  refine ⟨fun b o e n => u.keep b o e (hn b n).2, fun b o e n => u.slot b o e (hn b n).2, fun b o e n x => ?_, u.there, fun b xs e => ?_, fun b o y e => ?_, fun b ps e => ?_⟩
  · rw [shwH_no (hn b n).1]
    exact u.free b o e (hn b n).2 x
  · obtain ⟨q1, q2⟩ := ks b _ e fun u z => by cases z
    rw [shwH_no q1]
    exact u.tups b xs q2
  · obtain ⟨q1, q2⟩ := ks b _ e fun u z => by cases z
    rw [shwH_no q1]
    exact u.frzs b o y q2
  · obtain ⟨q1, q2⟩ := ks b _ e fun u z => by cases z
    rw [shwH_no q1]
    exact u.tbls b ps q2
theorem ub_shw {fs : List Addr} (u : UB fs (hidH H ts) H2 h B h2) (C : CelsH H ts) : UB fs H (shwH H2 ts) h B h2 := by
  have hn : ∀ b, H b = none → fndC ts b = none ∧ hidH H ts b = none := fun b e => by
    cases q : fndC ts b with
    | some t => rw [C.at_ q] at e; cases e
    | none => exact ⟨rfl, by rw [hidH_no q]; exact e⟩
  have ks : ∀ b x, H b = some x → (∀ u, x ≠ CelO b u) → fndC ts b = none ∧ hidH H ts b = some x := fun b x h1 h2 => by
    cases q : fndC ts b with
    | none => exact ⟨rfl, by rw [hidH_no q]; exact h1⟩
    | some t => exact absurd (Option.some.inj (h1.symm.trans (C.at_ q))) (h2 _)
  refine ⟨fun b o e n => u.keep b o e (hn b n).2, u.slot, fun b o e n => ?_, u.there, fun b xs e => ?_, fun b o y e => ?_, fun b ps e => ?_⟩
  · rw [shwH_no (hn b n).1]
    exact u.free b o e (hn b n).2
  · obtain ⟨q1, q2⟩ := ks b _ e fun u z => by cases z
    rw [shwH_no q1]
    exact u.tups b xs q2
  · obtain ⟨q1, q2⟩ := ks b _ e fun u z => by cases z
    rw [shwH_no q1]
    exact u.frzs b o y q2
  · obtain ⟨q1, q2⟩ := ks b _ e fun u z => by cases z
    rw [shwH_no q1]
    exact u.tbls b ps q2
theorem env0_hid {mg : Str → Option Value} {base : Heap} {A : Around} {outer : List Env} {s : Shared} (e : Env0 P w K mg base A outer s H) (C : CelsH H ts) : Env0 P w K mg base A outer s (hidH H ts) := by
  have hn : ∀ b, H b = none → hidH H ts b = none := fun b e => by
    cases q : fndC ts b with
    | some t => rw [C.at_ q] at e; cases e
    | none => rw [hidH_no q]; exact e
  exact ⟨e.frames, e.mod, fun b o z => ⟨(e.bs b o z).1, hn b (e.bs b o z).2⟩, e.bsz, e.funs, fun b hb => hn b (e.frf b hb), hok_hid e.hok C, e.bare⟩
/-- a call that ran with the cells untold: they are told again behind it -/
theorem cr_shw {mg : Str → Option Value} {base : Heap} {A : Around} {outer : List Env} {s s' : Shared} {Q : VK} {E : XK} {r : Result} (e0 : Env0 P w K mg base A outer s H) (C : CelsH H ts)
    (c : CR (L2.CX P w) outer P w (hidH H ts) s (fun v H2 => (∀ t ∈ ts, H2 t.1 = none) → Q v (shwH H2 ts)) (fun cls d H2 => (∀ t ∈ ts, H2 t.1 = none) → E cls d (shwH H2 ts)) r s') : CR (L2.CX P w) outer P w H s Q E r s' := by
  have gt : ∀ t ∈ ts, s.heap.get? t.1 = some t.2.1 := fun t ht => (e0.hok _ _ (C t ht)).1
  have nt : ∀ t ∈ ts, hidH H ts t.1 = none := fun t ht => by
    obtain ⟨u, q⟩ := fndC_has ht
    exact hidH_at q
  have nf : ∀ t ∈ ts, t.1 ∉ frs outer := fun t ht z => by
    have := e0.frf _ z
    rw [C t ht] at this
    cases this
  cases r with
  | ok fl =>
    cases fl with
    | ret u =>
      obtain ⟨v, H', os, bare, un, hok, rv, q⟩ := c
      have n2 : ∀ t ∈ ts, H' t.1 = none := fun t ht => un.free _ _ (gt t ht) (nt t ht) (by simp)
      exact ⟨v, _, os, bare, un_shw un C, hok_shw hok n2 (fun t ht => un.keep _ _ (gt t ht) (nt t ht) (nf t ht) (by simp)), rv, q n2⟩
    | next => exact c
    | brk => exact c
    | cont => exact c
  | error u =>
    obtain ⟨a, B, H', cls, d, rfl, fl, hok, ub, na, os, ag, q⟩ := c
    have n2 : ∀ t ∈ ts, H' t.1 = none := fun t ht => ub.free _ _ (gt t ht) (nt t ht)
    have gB : ∀ t ∈ ts, B.get? t.1 = some t.2.1 := fun t ht => ub.keep _ _ (gt t ht) (nt t ht) (nf t ht)
    refine ⟨a, B, _, cls, d, rfl, fl, hok_shw hok n2 gB, ub_shw ub C, ?_, os, ag, q n2⟩
    rw [shwH_no (fndC_none fun t ht z => ?_)]
    · exact na
    · have h1 := gB t ht
      rw [z, fl.2.1] at h1
      cases h1
end
end DL
/-! lambdas that are kept: what they promise, how they are called -/
namespace DL
open PySem PySem.Spec PyProof.Rows L2 LamX NdefX
/-- the defaults of a lambda: none, or integers in a tuple -/
def DfO (Fz : Hp) (dv : Value) (dfs : List Int) : Prop := (dfs = [] ∧ dv = .none) ∨ dfs ≠ [] ∧ ∃ T, dv = .ref T ∧ Fz T = some (.tup (dfs.map V.int))
theorem DfO.mono {F F' : Hp} {dv : Value} {dfs : List Int} (e : Ext F F') (h : DfO F dv dfs) : DfO F' dv dfs := by
  rcases h with h | ⟨h0, T, h1, h2⟩
  · exact .inl h
  · exact .inr ⟨h0, T, h1, e _ _ h2⟩
/-- what is asked of a lambda's words that it binds so -/
def BindD (L : LamC) (dfs : List Int) (ps : List Str) : Prop :=
  (dfs = [] ∧ ps = [] ∧ ∀ (qual : Str) (cl : List (Str × Addr)) (c : Addr) (pm ctv doc : Value), bindArgs { (⟨L, qual, cl, c⟩ : LF).fd pm ctv with defaults := .none, doc := doc } ⟨[], []⟩ = pure []) ∨
  (ps.length = dfs.length ∧ dfs ≠ [] ∧ ∀ (qual : Str) (cl : List (Str × Addr)) (c : Addr) (pm ctv doc : Value) (T : Addr) (its : List Value), its.length = dfs.length → ∃ k : Option (Array Value) → Sem (List (Str × Value)),
    bindArgs { (⟨L, qual, cl, c⟩ : LF).fd pm ctv with defaults := .ref T, doc := doc } ⟨[], []⟩ = seqItems? (.ref T) >>= k ∧ k (some its.toArray) = pure (ps.zip its))
/-- what a lambda promises that is called without arguments -/
structure LOkD (P : Program) (w : World) (K : PySem.W.Frag) (mg : Str → Option Value) (base : Heap) (CX : CXT) (k : Nat) (F : LF) (dfs : List Int) (fr : List Str) (sp : List (Option V) → Sp) : Prop where
  run : ∀ (A : Around) (outer : List Env) (s : Shared) (H : Hp) (f : Addr) (dv : Value) (ws : List (Option V)) (Q : VK) (E : XK), Room k A → Env0 P w K mg base A outer s H → H f = some (LamDO f F dv) → DfO H dv dfs → H F.c = some (CodeO F.c F.qual) →
    CellsAt F.cl fr ws s.heap H → sp ws [] H Q E → codeAny (model P w) A (.call (.ref f) ⟨[], []⟩) (CR CX outer P w H s Q E) s
section
variable {CX : CXT} {P : Program} {w : World} {K : PySem.W.Frag} {mg : Str → Option Value} {base : Heap} {N ps fr : List Str} {F : LF} {k : Nat} {dfs : List Int} {sp : List (Option V) → Sp}
theorem lokd_of (S : NScope N ps fr F.L.scope) (hb : BindD F.L dfs ps)
    (hbody : ∀ (f : Addr) (A : Around) (outer : List Env) (s : Shared) (H : Hp) (ws : List (Option V)) (Q : VK) (E : XK), Room k (A.deeper (envF F.nf f s.heap.objs.size)) → ws.length = fr.length → sp ws [] H Q E →
      ∃ t, PE (ncx CX P w K mg base N F.nf f A outer s H E) F.L.body t ∧ t (startF N (dfs.map V.int) ws) H Q) :
    LOkD P w K mg base CX (k + 1) F dfs fr sp := by
  refine ⟨fun A outer s H f dv ws Q E hr e0 hf hdv hc C hsp => ?_⟩
  obtain ⟨od, sl, pm, ctv, doc, ho⟩ := lamDO_at e0.hok hf
  have both : ∃ its : List Value, Vals (dfs.map V.int) its ∧ (dfs.map V.int).length = ps.length ∧ BindsTo s { F.fd pm ctv with defaults := dv, doc := doc } ⟨[], []⟩ (ps.zip its) := by
    obtain ⟨L, qual, cl, c⟩ := F
    rcases hdv with ⟨h1, rfl⟩ | ⟨h0, T, rfl, hT⟩
    · rcases hb with ⟨rfl, rfl, hb⟩ | ⟨_, h2, _⟩
      · exact ⟨[], .nil, rfl, .of_eq (hb qual cl c pm ctv doc)⟩
      · exact absurd h1 h2
    · obtain ⟨_, its, r, o, he, _, n, hd⟩ := e0.hok T _ hT
      rcases hb with ⟨rfl, rfl, hb⟩ | ⟨h1, h2, hb⟩
      · exact absurd rfl h0
      · have hl : its.length = dfs.length := by rw [← r.length, List.length_map]
        obtain ⟨kk, e1, e2⟩ := hb qual cl c pm ctv doc T its hl
        exact ⟨its, r, by rw [List.length_map, h1], .of_defaults rfl he hd e1 e2⟩
  obtain ⟨its, r, hl, hbt⟩ := both
  have lim : s.heap.NoLimit := e0.mod.nolimit.keeps fun b o e => (e0.bs b o e).1
  refine PySem.W.kla_callFunE hr.depth ho rfl S.co S.gen rfl (codeO_at e0.hok hc) (hbt _ _ _ _ ?_)
  refine wpAny_newFunctionEnv S.nocell (fun ⟨n, _⟩ hy => S.par n (List.of_mem_zip hy).1) (fun h₁ hns hsb => ⟨lim.fresh _ hsb, ?_⟩) S.kind
  show codeAny _ _ (.expr F.L.body (envF F.nf f s.heap.objs.size)) _ _
  have kp : ∀ b o, s.heap.get? b = some o → h₁.get? b = some o := fun b o e => hsb.extBut b o (Nat.ne_of_lt (Heap.lt_size e)) (Heap.get?_push_of_some _ e)
  obtain ⟨t, ht, hq⟩ := hbody f A outer s H ws Q E (hr.deeper _) C.len hsp
  have I := inv_startN (F := F.nf) (CX := CX) (f := f) (E := E) (tk := s.toks + (ps.zip its).length) S hr.hd e0 hl r C hns kp
  refine PySem.W.kla_codeExpr (wpAny_mono (ht.run [] _ _ H Q I hq) (fun v s' ⟨v', H', J, rv, q⟩ => ?_) fun e s' hs => hs)
  exact ⟨v', H', J.os, J.bare, J.base, J.hok, rv, q⟩
end
/-! ### .. over data -/
def toSpLV (K : PySem.W.Frag) (sp : SpXD) : List (Option V) → Sp := fun ws vs H Q E => ∃ Z F M cs QD ED ws', RelM K Z F H M ∧ ws = ws'.map some ∧ Reps K F ws' cs ∧ sp cs M QD ED ∧ OkV K Z F Q QD ∧ OkE K Z F E ED
/-- the lambda with these words, called without arguments, keeps a promise of what it captured -/
structure LamV (P : Program) (w : World) (K : PySem.W.Frag) (mg : Str → Option Value) (base : Heap) (k : Nat) (L : LamC) (dfs : List Int) (fr : List Str) (sp : SpXD) : Prop where
  ok : ∀ (qual : Str) (cl : List (Str × Addr)) (c : Addr), LOkD P w K mg base (L2.CX P w) k ⟨L, qual, cl, c⟩ dfs fr (toSpLV K sp)
section
variable {P : Program} {w : World} {K : PySem.W.Frag} {mg : Str → Option Value} {base : Heap} {N ps fr : List Str} {k : Nat} {L : LamC} {dfs : List Int}
theorem reps_dfs {F : Hp} (dfs : List Int) : Reps K F (dfs.map V.int) (dfs.map Dat.int) := reps_ints dfs
theorem lamv_mk {sp : SpXD} (S : NScope N ps fr L.scope) (n : Nat) (hn : N.length = n) (hb : BindD L dfs ps) (hp : ps.length = dfs.length) (len : ∀ cs M Q ED, sp cs M Q ED → cs.length = fr.length)
    (body : ∀ (qual : Str) (cl : List (Str × Addr)) (c f : Addr) (A : Around) (outer : List Env) (s : Shared) (H : Hp) (E : XK), Room k (A.deeper (envF (⟨L, qual, cl, c⟩ : LF).nf f s.heap.objs.size)) → Takes (ncx (L2.CX P w) P w K mg base N (⟨L, qual, cl, c⟩ : LF).nf f A outer s H E) (wishE E) →
      ∃ d, DEX (ncx (L2.CX P w) P w K mg base N (⟨L, qual, cl, c⟩ : LF).nf f A outer s H E) (wishE E) L.body d ∧ ∀ cs M Q ED, sp cs M Q ED → d (endX ED) (startD n (dfs.map Dat.int ++ cs)) M (endD Q)) : LamV P w K mg base (k + 1) L dfs fr sp := by
  have hnl : ps.length + fr.length ≤ n := by
    have := congrArg List.length S.pre
    rw [List.length_take, List.length_append] at this
    omega
  refine ⟨fun qual cl c => lokd_of S hb fun f A outer s H ws Q E hr hw h => ?_⟩
  obtain ⟨d, hd, hb2⟩ := body qual cl c f A outer s H E hr (takes_of rfl rfl rfl rfl)
  obtain ⟨Z, F, M, cs, QD, ED, ws', R, rfl, r2, h, o, oe⟩ := h
  refine ⟨_, hd, Z, F, M, startD n (dfs.map Dat.int ++ cs), endD QD, _, ⟨R, ?_⟩, hb2 _ M QD ED h, ?_, okW_end oe⟩
  · have h1 := len _ _ _ _ h
    have h2 := startD_rep (K := K) (F := F) n ((reps_dfs dfs).app r2) (by rw [List.length_append, List.length_map, h1]; omega)
    unfold startF
    rw [List.map_append, List.append_assoc, List.length_append] at h2
    rw [hn, List.length_map (f := some), Nat.sub_sub]
    exact h2
  · intro v d F' H' M' e R' rr q
    obtain ⟨M0, l, q⟩ := q
    exact o _ _ F' H' M0 e (R'.le l) rr q
end
/-- the captured names' cells, in their order -/
def CelsIn (cl : List (Str × Addr)) (fr : List Str) (as : List Addr) : Prop := as.length = fr.length ∧ (∀ (i : Nat) (y : Str), fr[i]? = some y → ∃ a, as[i]? = some a ∧ cl.lookup y = some a) ∧ (∀ y c, cl.lookup y = some c → c ∈ as) ∧ ∀ x y c, cl.lookup x = some c → cl.lookup y = some c → x = y
/-- the lambda L stands at fc, its captured names at as -/
def lamR (L : LamC) (dfs : List Int) (fr : List Str) (fc : Addr) (as : List Addr) : OthR := ⟨fun Fz x => ∃ q cl c dv, x = LamDO fc ⟨L, q, cl, c⟩ dv ∧ Fz c = some (CodeO c q) ∧ DfO Fz dv dfs ∧ CelsIn cl fr as,
  fun F F' x e ⟨q, cl, c, dv, h1, h2, h3, h4⟩ => ⟨q, cl, c, dv, h1, e _ _ h2, h3.mono e, h4⟩⟩
/-- what its call promises -/
def cloC (K : PySem.W.Frag) (as : List Addr) (sp : SpXD) : SpXD := fun ds M Q ED => ds = [] ∧ ∃ ts : List Tc, ts.map (·.1) = as ∧ CelsM K M ts ∧ sp (ts.map (·.2.2)) (hidM M ts) (fun d M' => Q d (shwM K M' ts)) (fun C f x M' => ED C f x (shwM K M' ts))
theorem cels_reps {K : PySem.W.Frag} {F : Hp} : ∀ {ts : List Tc}, (∀ t ∈ ts, ∃ v u, t.2.1.data = .cell (some u) ∧ RelV v u ∧ Rep K F v t.2.2) → ∃ ws : List V, Reps K F ws (ts.map (·.2.2)) ∧ ws.length = ts.length ∧ ∀ (i : Nat) (t : Tc) (v : V), ts[i]? = some t → ws[i]? = some v → ∃ u, t.2.1.data = .cell (some u) ∧ RelV v u
  | [], _ => ⟨[], .nil, rfl, fun i t v h => by cases h⟩
  | t :: ts, h => by
    obtain ⟨ws, h1, h2, h3⟩ := cels_reps (ts := ts) fun t ht => h t (List.mem_cons_of_mem _ ht)
    obtain ⟨v, u, g1, g2, g3⟩ := h t (List.mem_cons_self ..)
    refine ⟨v :: ws, .cons g3 h1, congrArg Nat.succ h2, fun i t' v' e1 e2 => ?_⟩
    cases i with
    | zero =>
      cases e1
      cases e2
      exact ⟨u, g1, g2⟩
    | succ i => exact h3 i t' v' e1 e2
theorem clo_tr {P : Program} {w : World} {K : PySem.W.Frag} {mg : Str → Option Value} {base : Heap} {kl kc : Nat} {L : LamC} {dfs : List Int} {fr : List Str} {sp : SpXD} (ld : LamV P w K mg base kl L dfs fr sp) (hk : kl ≤ kc) (outer : List Env) (s : Shared) (H : Hp) (fc : Addr) (as : List Addr) :
    CloX P w K mg base kc outer s H fc (lamR L dfs fr fc as) (cloC K as sp) := by
  refine ⟨fun F o ⟨q, cl, c, dv, h, _⟩ => (by rw [h]; exact isFnO_lamD _ _ _), fun A' outer' s1 HZ us vs Q E hr e0 un r h => ?_⟩
  obtain ⟨Z, F, M, ds, QD, ED, R, rr, ⟨hM, rfl, ts, hts, C, hsp⟩, o, oe⟩ := h
  cases rr
  cases r
  obtain ⟨_, x, hx, q, cl, c, dv, rfl, hc, hdv, hci⟩ := R.chg _ _ hM
  have CH := C.heap R
  have cel := C.cel R
  obtain ⟨ws, r1, r2, r3⟩ := cels_reps cel
  have R1 := relM_hid R C
  have g : ∀ t ∈ ts, s1.heap.get? t.1 = some t.2.1 := fun t ht => (e0.hok _ _ (CH t ht)).1
  have nt : ∀ t ∈ ts, hidH HZ ts t.1 = none := fun t ht => by
    obtain ⟨u, q⟩ := fndC_has ht
    exact hidH_at q
  have hfc : fndC ts fc = none := fndC_none fun t ht z => by
    obtain ⟨od, sl, pm, ctv, doc, ho⟩ := lamDO_at e0.hok hx
    obtain ⟨v, u, g1, _, _⟩ := cel t ht
    have := g t ht
    rw [z, ho] at this
    rw [← Option.some.inj this] at g1
    cases g1
  obtain ⟨c1, c2, c3, c4⟩ := hci
  have hlen : ts.length = fr.length := by rw [← c1, ← hts, List.length_map]
  have CA : CellsAt cl fr (ws.map some) s1.heap (hidH HZ ts) := by
    have mem : ∀ a, a ∈ as → ∃ t ∈ ts, t.1 = a := fun a ha => by
      rw [← hts] at ha
      obtain ⟨t, ht, e⟩ := List.mem_map.mp ha
      exact ⟨t, ht, e⟩
    refine ⟨by rw [List.length_map, r2, hlen], fun y a e => ?_, c4, fun i y e => ?_⟩
    · obtain ⟨t, ht, rfl⟩ := mem a (c3 y a e)
      obtain ⟨v, u, g1, _, _⟩ := cel t ht
      exact ⟨nt t ht, some u, t.2.1, g t ht, g1⟩
    · obtain ⟨a, h1, h2⟩ := c2 i y e
      refine ⟨a, h2, fun v hv => ?_⟩
      rw [← hts, List.getElem?_map] at h1
      obtain ⟨t, ht, rfl⟩ := Option.map_eq_some_iff.mp h1
      rw [List.getElem?_map] at hv
      obtain ⟨v', hv', e2⟩ := Option.map_eq_some_iff.mp hv
      cases e2
      obtain ⟨u, g1, g2⟩ := r3 i t v ht hv'
      exact ⟨u, g2, t.2.1, g t (List.mem_of_getElem? ht), g1⟩
  refine codeAny_mono ((ld.ok q cl c).run A' outer' s1 (hidH HZ ts) fc dv (ws.map some) (fun v H2 => (∀ t ∈ ts, H2 t.1 = none) → Q v (shwH H2 ts)) (fun cls d H2 => (∀ t ∈ ts, H2 t.1 = none) → E cls d (shwH H2 ts)) (hr.mono hk) (env0_hid e0 CH) ?_ ?_ ?_ CA
    ⟨Z, F, hidM M ts, ts.map (·.2.2), fun d M' => QD d (shwM K M' ts), fun C f x M' => ED C f x (shwM K M' ts), ws, R1, rfl, r1, hsp, ?_, ?_⟩) fun r s' hq => cr_shw (mg := mg) (base := base) e0 CH hq
  · rw [hidH_no hfc]
    exact hx
  · rcases hdv with h | ⟨h0, T, h1, h2⟩
    · exact .inl h
    · exact .inr ⟨h0, T, h1, R1.sub _ _ h2⟩
  · exact R1.sub _ _ hc
  · intro v d F' H' M' e R' rv q n
    exact o v d F' _ _ e (relM_shw R' n fun t ht => by
      obtain ⟨v, u, g1, g2, g3⟩ := cel t ht
      exact ⟨v, u, g1, g2, g3.mono e⟩) rv q
  · intro C0 dd f x F' H' M' e R' nd q n
    have hd : fndC ts dd = none := fndC_none fun t ht z => by
      obtain ⟨_, ob, q1, _⟩ := R'.chg dd _ updM_same
      have := n t ht
      rw [z, q1] at this
      cases this
    refine oe C0 dd f x F' _ (shwM K M' ts) e ?_ (by rw [shwM_no hd]; exact nd) q
    have R2 := relM_shw R' n fun t ht => by
      obtain ⟨v, u, g1, g2, g3⟩ := cel t ht
      exact ⟨v, u, g1, g2, g3.mono e⟩
    have eM : shwM K (updM M' dd (.oth (xdR K f x))) ts = updM (shwM K M' ts) dd (.oth (xdR K f x)) := by
      funext b
      by_cases hb : b = dd
      · subst hb
        rw [updM_same, shwM_no hd, updM_same]
      · rw [updM_ne hb]
        cases q : fndC ts b with
        | some t => rw [shwM_at q, shwM_at q]
        | none => rw [shwM_no q, shwM_no q, updM_ne hb]
    rw [← eM]
    exact R2
theorem LOkD.mono {P : Program} {w : World} {K : PySem.W.Frag} {mg : Str → Option Value} {base : Heap} {CX : CXT} {j k : Nat} {F : LF} {dfs : List Int} {fr : List Str} {sp : List (Option V) → Sp} (o : LOkD P w K mg base CX j F dfs fr sp) (h : j ≤ k) : LOkD P w K mg base CX k F dfs fr sp :=
  ⟨fun A outer s H f dv ws Q E hr => o.run A outer s H f dv ws Q E (hr.mono h)⟩
theorem LamV.mono {P : Program} {w : World} {K : PySem.W.Frag} {mg : Str → Option Value} {base : Heap} {j k : Nat} {L : LamC} {dfs : List Int} {fr : List Str} {sp : SpXD} (o : LamV P w K mg base j L dfs fr sp) (h : j ≤ k) : LamV P w K mg base k L dfs fr sp :=
  ⟨fun q cl c => (o.ok q cl c).mono h⟩
end DL
/-! lambdas that are kept: their making -/
namespace DL
open PySem PySem.Spec PyProof.Rows L2 LamX NdefX
/-- the cell of a name -/
def cadr (cells : List (Str × Addr)) (y : Str) : Addr := (cells.lookup y).getD 0
section
variable {X : Cx} {pins : List (Addr × Obj)} {σ : L2.St} {H : Hp} {s : Shared}
theorem inv_lamD {F : LF} {o : Obj} {t' : Nat} {pm ctv doc dv : Value} (I : Inv X pins σ H s) (ho : o = { cls := .type "function", data := .func { F.fd pm ctv with defaults := dv, doc := doc } }) :
    Inv X pins σ (upd H s.heap.objs.size (LamDO s.heap.objs.size F dv)) { s with heap := s.heap.push o, toks := t' } := by
  subst ho
  refine I.laid (a := s.heap.objs.size) (fun b u e => Heap.get?_push_of_some _ e) (Nat.le_refl _) ?_
  have e := Heap.get?_push_size s.heap (o := ({ cls := .type "function", data := .func { F.fd pm ctv with defaults := dv, doc := doc } } : Obj)) rfl
  exact ⟨⟨_, _, pm, ctv, doc, e⟩, ⟨_, e⟩, fun h1 h2 ⟨od, sl, p, t, d, z⟩ st => ⟨od, sl, p, t, d, st _ z⟩⟩
theorem lam_tail {c P : Addr} {L : LamC} {pos : Pos} {E : Value → Shared → Prop} {Q : Value → Shared → Prop} {ps : Array Value} (dv : Value) (I : Inv X pins σ H s) (TB : TabB X.base X.mg c P) (hcode : X.env.code = .ref c)
    (hP : H P = some (.tbl ps)) (ht : TriplesOk ps.toList) (hfree : ∀ y ∈ L.scope.names, y.2 = .free → ∃ c, X.env.cells.lookup y.1 = some c)
    (hnew : codeAmong pos ps.toList = none → ∀ (f c' : Addr) (s' : Shared), f ≠ c' → H c' = none → H f = none → f ≠ P →
      Inv X pins σ (upd (upd (upd H P (.tbl (ps ++ #[rawInt pos.line, rawInt pos.col, .ref c']))) c' (CodeO c' (X.env.qual ++ "<lambda>"))) f (LamDO f ⟨L, X.env.qual ++ "<lambda>", cloFrom X.env.cells L.scope.names [], c'⟩ dv)) s' → Q (.ref f) s')
    (hhit : ∀ cv, codeAmong pos ps.toList = some cv → ∃ c', cv = .ref c' ∧ ∀ (f : Addr) (s' : Shared), H f = none → Inv X pins σ (upd H f (LamDO f ⟨L, X.env.qual ++ "<lambda>", cloFrom X.env.cells L.scope.names [], c'⟩ dv)) s' → Q (.ref f) s') :
    wpAny (model X.prog X.w) X.A (makeTail "<lambda>" (X.env.qual ++ "<lambda>") L.params (.expr L.body) L.scope X.env dv .none none pos pos.line) Q E s := by
  have hbP := TB.bm.keeps I.bk
  have hCd := TB.code.keeps I.bk
  have hgl := I.mod.glob.keeps I.bk
  have hP' := I.hok P _ hP
  cases hc : codeAmong pos ps.toList with
  | some cv =>
    obtain ⟨c', e, hh⟩ := hhit cv hc
    refine PySem.W.kdv_makeTailHit (closure_ok hfree) I.ok.glob hgl hcode hCd hP' ht hc hbP fun ctv doc h' tk hx _ => ?_
    have J : Inv X pins σ H { s with heap := h', toks := tk } := I.kept hx
    refine hh _ _ (J.hok.fresh (Nat.le_refl _)) (inv_lamD (F := ⟨L, _, _, c'⟩) (t' := tk) (pm := (X.mg "__name__").getD .none) (ctv := ctv) (doc := doc) J ?_)
    rw [e]
  | none =>
    refine PySem.W.kdv_makeTail (closure_ok hfree) I.ok.glob hgl hcode hCd hP' ht hc TB.gP hbP fun c' ctv doc h' tk hx hge hlt hrec htb => ?_
    obtain ⟨_, oc, vs, t, e2, r⟩ := hrec
    cases e2
    have J := inv_table (t' := tk) (more := #[rawInt pos.line, rawInt pos.col, .ref c']) I hP hx htb hge ⟨oc, vs, t, r⟩
    have nJ := J.hok.fresh (Nat.le_refl _)
    have hPn : h'.objs.size ≠ P := fun z => by
      rw [z] at nJ
      rw [upd_ne (ne_of_none hP (I.hok.fresh hge)), upd_same] at nJ
      cases nJ
    exact hnew hc _ _ _ (Nat.ne_of_gt hlt) (I.hok.fresh hge) (upd_none (upd_none nJ)) hPn (inv_lamD (F := ⟨L, _, _, c'⟩) (t' := tk) (pm := (X.mg "__name__").getD .none) (ctv := ctv) (doc := doc) J rfl)
end
section
variable {K : PySem.W.Frag} {Z F H : Hp} {M : MH}
/-- a table grows by a new code object -/
theorem relM_tab {P c : Addr} {q : Str} {ps more : Array Value} (R : RelM K Z F H M) (nc : H c = none) (hP : H P = some (.tbl ps)) (hMP : M P = some (.oth (tblR q))) (ht : TriplesOk (ps ++ more).toList)
    (hin : ∀ (pos : Pos) (cv : Value), codeAmong pos (ps ++ more).toList = some cv → (∃ c0, cv = .ref c0 ∧ F c0 = some (CodeO c0 q)) ∨ cv = .ref c) :
    RelM K Z (upd F c (CodeO c q)) (upd (upd H P (.tbl (ps ++ more))) c (CodeO c q)) M ∧ Ext F (upd F c (CodeO c q)) := by
  have nF := (R.fresh nc).1
  have e : Ext F (upd F c (CodeO c q)) := Ext.new nF
  have hPc := ne_of_none hP nc
  have FP := (R.chg P _ hMP).1
  have out : ∀ b, b ≠ P → b ≠ c → upd (upd H P (.tbl (ps ++ more))) c (CodeO c q) b = H b := fun b h1 h2 => by rw [upd_ne h2, upd_ne h1]
  refine ⟨⟨fun b u z => ?_, fun b u z => ?_, fun b m z => ?_⟩, e⟩
  · by_cases hb : b = c
    · subst hb
      rw [upd_same] at z
      rw [upd_same]
      exact z
    · rw [upd_ne hb] at z
      rw [out b (fun y => by rw [y, FP] at z; cases z) hb]
      exact R.sub b u z
  · obtain ⟨h1, h2, h3⟩ := R.hid b u z
    have hb := ne_of_none h1 nc
    exact ⟨by rw [out b (fun y => by rw [y, hMP] at h3; cases h3) hb]; exact h1, by rw [upd_ne hb]; exact h2, h3⟩
  · obtain ⟨h1, h2⟩ := R.chg b m z
    have hb : b ≠ c := R.ne nc z
    refine ⟨by rw [upd_ne hb]; exact h1, ?_⟩
    by_cases hp : b = P
    · subst hp
      rw [hMP] at z
      cases z
      refine ⟨_, by rw [upd_ne hb, upd_same], _, rfl, ht, fun pos cv hcv => ?_⟩
      rcases hin pos cv hcv with ⟨c0, g1, g2⟩ | g1
      · exact ⟨c0, g1, e _ _ g2⟩
      · exact ⟨c, g1, upd_same⟩
    · exact h2.mono e (out b hp hb)
end
/-- a lambda as a value -/
def dLamV (P : Addr) (q : Str) (L : LamC) (dfs : List Int) (fr : List Str) (cells : List (Str × Addr)) : TED := fun _ M Q => M P = some (.oth (tblR q)) ∧ ∀ fc, M fc = none → Q (.ref fc) (updM M fc (.oth (lamR L dfs fr fc (fr.map (cadr cells)))))
/-- the lambda's free names are the told ones -/
def FrOk (L : LamC) (fr : List Str) : Prop := (∀ y ∈ L.scope.names, y.2 = .free → y.1 ∈ fr) ∧ ∀ y ∈ fr, (y, NameKind.free) ∈ L.scope.names
def frB (L : LamC) (fr : List Str) : Bool := L.scope.names.all (fun y => !decide (y.2 = .free) || decide (y.1 ∈ fr)) && fr.all (fun y => decide ((y, NameKind.free) ∈ L.scope.names))
theorem frOk_by {L : LamC} {fr : List Str} (h : frB L fr = true) : FrOk L fr := by
  unfold frB at h
  simp only [Bool.and_eq_true, List.all_eq_true, Bool.or_eq_true, Bool.not_eq_true', decide_eq_false_iff_not, decide_eq_true_eq] at h
  exact ⟨fun y hy e => (h.1 y hy).elim (fun z => absurd e z) id, h.2⟩
theorem cloFrom_look {cells : List (Str × Addr)} {names : List (Str × NameKind)} {y : Str} {c : Addr} (h : (cloFrom cells names []).lookup y = some c) : (y, NameKind.free) ∈ names ∧ c = cadr cells y := by
  rcases cloFrom_mem (PySem.mem_of_lookup h) with hm | hm
  · cases hm
  · exact hm
theorem celsIn_of {X : Cx} {L : LamC} {fr : List Str} (ok : X.Ok) (hf : FrOk L fr) (hfree : ∀ y ∈ L.scope.names, y.2 = .free → ∃ c, X.env.cells.lookup y.1 = some c) : CelsIn (cloFrom X.env.cells L.scope.names []) fr (fr.map (cadr X.env.cells)) := by
  have at_ : ∀ y c, (cloFrom X.env.cells L.scope.names []).lookup y = some c → X.env.cells.lookup y = some c := fun y c e => by
    obtain ⟨h1, h2⟩ := cloFrom_look e
    obtain ⟨c', hc⟩ := hfree _ h1 rfl
    have hc : X.env.cells.lookup y = some c' := hc
    rw [h2]
    unfold cadr
    rw [hc] <;> rfl
  refine ⟨List.length_map .., fun i y e => ⟨cadr X.env.cells y, by rw [List.getElem?_map, e]; rfl, ?_⟩, fun y c e => ?_, fun x y c e1 e2 => ok.inj x y c (at_ x c e1) (at_ y c e2)⟩
  · have hm := hf.2 y (List.mem_of_getElem? e)
    obtain ⟨c, hc⟩ := mem_lookup (cloFrom_has (cells := X.env.cells) (acc := []) hm)
    rw [hc, (cloFrom_look hc).2]
  · obtain ⟨h1, h2⟩ := cloFrom_look e
    rw [h2]
    exact List.mem_map.mpr ⟨y, hf.1 _ h1 rfl, rfl⟩
section
variable {X : Cx} {L : LamC} {fr : List Str} {c P : Addr} {pos pos' : Pos} {params : Arguments} {body : Expr} {scope : Scope}
theorem lam_put {pins : List (Addr × Obj)} {σ : L2.St} {s : Shared} {H Z F : Hp} {M : MH} {QD : VKD} {Q : VK} {dfs : List Int} (dv : Value) (TB : TabB X.base X.mg c P) (hcode : X.env.code = .ref c) (hf : FrOk L fr)
    (hfree : ∀ y ∈ L.scope.names, y.2 = .free → X.env.scope.names.lookup y.1 = some .cell ∨ X.env.scope.names.lookup y.1 = some .free) (I : Inv X pins σ H s) (R : RelM X.K Z F H M) (hMP : M P = some (.oth (tblR (X.env.qual ++ "<lambda>")))) (hdv : DfO F dv dfs)
    (h : ∀ fc, M fc = none → QD (.ref fc) (updM M fc (.oth (lamR L dfs fr fc (fr.map (cadr X.env.cells)))))) (o : OkV X.K Z F Q QD) :
    wpAny (model X.prog X.w) X.A (makeTail "<lambda>" (X.env.qual ++ "<lambda>") L.params (.expr L.body) L.scope X.env dv .none none pos pos.line) (EP X pins σ Q) X.xe s := by
  have hfr : ∀ y ∈ L.scope.names, y.2 = .free → ∃ c, X.env.cells.lookup y.1 = some c := fun y hy e => (hfree y hy e).elim (fun z => I.ok.has _ (.inl z)) fun z => I.ok.has _ (.inr z)
  have ci := celsIn_of I.ok hf hfr
  obtain ⟨_, hP, ps, rfl, ht, hin⟩ := (R.chg P _ hMP).2
  refine lam_tail dv I TB hcode hP ht hfr (fun hno f c' s' hne nc nf hfP J => ?_) fun cv hcv => ?_
  · have eL : (ps ++ #[rawInt pos.line, rawInt pos.col, .ref c']).toList = ps.toList ++ [rawInt pos.line, rawInt pos.col, .ref c'] := by simp
    obtain ⟨R1, e1⟩ := relM_tab (more := #[rawInt pos.line, rawInt pos.col, .ref c']) R nc hP hMP (by rw [eL]; exact PySem.TriplesOk_snoc _ _ _ _ ht) fun p' cv hcv => by
      rw [eL] at hcv
      rcases among_app _ ht hcv with z | z
      · exact .inl (hin p' cv z)
      · exact .inr z
    have nf1 : upd (upd H P (.tbl (ps ++ #[rawInt pos.line, rawInt pos.col, .ref c']))) c' (CodeO c' (X.env.qual ++ "<lambda>")) f = none := by rw [upd_ne hne, upd_ne hfP]; exact nf
    have R2 := R1.newM (o := LamDO f ⟨L, X.env.qual ++ "<lambda>", cloFrom X.env.cells L.scope.names [], c'⟩ dv) (m := .oth (lamR L dfs fr f (fr.map (cadr X.env.cells)))) nf1 ⟨_, upd_same, _, _, c', dv, rfl, upd_same, hdv.mono e1, ci⟩
    exact ⟨.ref f, _, J, rfl, o _ _ _ _ _ e1 R2 (.ref f) (h f (R.fresh nf).2)⟩
  · obtain ⟨c', rfl, hc'⟩ := hin pos cv hcv
    refine ⟨c', rfl, fun f s' nf J => ?_⟩
    have R2 := R.newM (o := LamDO f ⟨L, X.env.qual ++ "<lambda>", cloFrom X.env.cells L.scope.names [], c'⟩ dv) (m := .oth (lamR L dfs fr f (fr.map (cadr X.env.cells)))) nf ⟨_, upd_same, _, _, c', dv, rfl, hc', hdv, ci⟩
    exact ⟨.ref f, _, J, rfl, o _ _ _ _ _ (Ext.refl F) R2 (.ref f) (h f (R.fresh nf).2)⟩
theorem de_lamV (TB : TabB X.base X.mg c P) (hcode : X.env.code = .ref c) (hp : params = L.params) (hbd : body = L.body) (hsc : scope = L.scope) (hdef : defaultsOf L.params X.env = ([], [])) (hf : FrOk L fr)
    (hfree : ∀ y ∈ L.scope.names, y.2 = .free → X.env.scope.names.lookup y.1 = some .cell ∨ X.env.scope.names.lookup y.1 = some .free) :
    DE X (.Lambda params body scope pos) (dLamV P (X.env.qual ++ "<lambda>") L [] fr X.env.cells) := by
  subst hp hbd hsc
  refine ⟨fun pins s σ H Q I ⟨Z, F, M, ρ, QD, R, ⟨hMP, h⟩, o⟩ => ?_⟩
  refine PySem.W.kla_eval hdef ?_
  rw [makeFunction_eq]
  simp only [List.zip_nil_right, List.filterMap_nil, List.isEmpty_nil, if_true, pure_bind]
  exact lam_put .none TB hcode hf hfree I R.m hMP (.inl ⟨rfl, rfl⟩) h o
theorem de_lamV1 {i : Int} {dpos : Pos} {t : Nat} (TB : TabB X.base X.mg c P) (hcode : X.env.code = .ref c) (hp : params = L.params) (hbd : body = L.body) (hsc : scope = L.scope) (hd1 : L.params.defaults = [.Constant (.int i) t dpos]) (hk0 : L.params.kw_defaults = []) (hf : FrOk L fr)
    (hfree : ∀ y ∈ L.scope.names, y.2 = .free → X.env.scope.names.lookup y.1 = some .cell ∨ X.env.scope.names.lookup y.1 = some .free) :
    DE X (.Lambda params body scope pos) (dLamV P (X.env.qual ++ "<lambda>") L [i] fr X.env.cells) := by
  subst hp hbd hsc
  refine ⟨fun pins s σ H Q I ⟨Z, F, M, ρ, QD, R, ⟨hMP, h⟩, o⟩ => ?_⟩
  refine PySem.W.kdv_lam (by rw [hd1]; rfl) hk0 ?_
  rw [hd1]
  refine PySem.W.kdv_all1 (thn (pe_int.run pins s σ H (fun v H1 => v = .int i ∧ H1 = H) I ⟨rfl, rfl⟩) fun u s1 ⟨v, H1, I1, rv, e1, e2⟩ => PySem.W.kdv_all0 ?_)
  subst e1 e2
  rw [makeFunction_eq]
  simp only [List.zip_nil_right, List.filterMap_nil, List.isEmpty_nil, if_true, pure_bind, List.isEmpty_cons, Bool.false_eq_true, if_false]
  refine wpAny_bind (wpAny_newTextTuple ?_)
  have J := I1.laid (a := s1.heap.objs.size) (o := .tup [.int i]) (t' := s1.toks) (h' := s1.heap.push { cls := .type "tuple", data := .seq [u].toArray }) (fun b x e => Heap.get?_push_of_some _ e) (Nat.le_refl _) ⟨by show 1 ≤ sizeLine; decide, [u], .cons rv .nil, _, Heap.get?_push_size _ rfl, rfl, 0, rfl⟩
  obtain ⟨R2, e2⟩ := R.m.newF (o := .tup [.int i]) (I1.hok.fresh (Nat.le_refl _))
  exact lam_put (.ref _) TB hcode hf hfree J R2 hMP (.inr ⟨by simp, _, rfl, upd_same⟩) h (o.mono e2)
end
end DL
/-! lambdas that are kept: defs that return them, defs that are handed them -/
namespace DL
open PySem PySem.Spec PyProof.Rows L2 LamX NdefX
/-! ### a body whose last row returns: the state behind it is told with the names' values -/
abbrev RS := V → L2.St → Hp → Prop
structure PSR (X : Cx) (sts : List Stmt) (t : RS → L2.St → Hp → Prop) : Prop where
  run : ∀ (s : Shared) (σ : L2.St) (H : Hp) (R : RS), Inv X [] σ H s → t R σ H → wpAny (model X.prog X.w) X.A (execs sts X.env) (fun f s' => ∃ u v σ' H', f = Flow.ret u ∧ Inv X [] σ' H' s' ∧ RelV v u ∧ R v σ' H') X.xe s
abbrev TRD := (Dat → EnvD → MH → Prop) → EnvD → MH → Prop
def upR (K : PySem.W.Frag) (d : TRD) : RS → L2.St → Hp → Prop := fun R σ H => ∃ Z F M ρ RD, Rel K Z F H M σ ρ ∧ d RD ρ M ∧ ∀ v x σ' ρ' F' H' M', Ext F F' → Rel K Z F' H' M' σ' ρ' → Rep K F' v x → RD x ρ' M' → R v σ' H'
abbrev DSR (X : Cx) (sts : List Stmt) (d : TRD) : Prop := PSR X sts (upR X.K d)
def rSeq (t : TSD) (u : TRD) : TRD := fun RD ρ M => t { nx := fun ρ1 M1 => u RD ρ1 M1, rt := fun _ _ => False } ρ M
def rRet (de : TED) : TRD := fun RD ρ M => de ρ M fun x M1 => RD x ρ M1
section
variable {X : Cx} {st : Stmt} {rest : List Stmt} {e : Expr} {pos : Pos}
theorem psr_cons {t : TS} {u : RS → L2.St → Hp → Prop} (h1 : PS X st t) (h2 : PSR X rest u) : PSR X (st :: rest) (fun R σ H => t { nx := u R, rt := fun _ _ => False } σ H) := by
  refine ⟨fun s σ H R I h => wpAny_execs_cons (thn (h1.run [] s σ H _ I h) fun fl s1 q => ?_)⟩
  rcases fl with _ | _ | _ | x
  · obtain ⟨σ1, H1, J, q⟩ := q
    exact h2.run s1 σ1 H1 R J q
  · exact q.choose_spec.choose_spec.2.elim
  · exact q.choose_spec.choose_spec.2.elim
  · exact q.choose_spec.choose_spec.choose_spec.2.2.elim
theorem psr_ret {te : TE} (he : PE X e te) : PSR X [.Return (some e) pos] (fun R σ H => te σ H fun v H1 => R v σ H1) :=
  ⟨fun s σ H R I h => wpAny_execs_cons (wpAny_Return_some (thn (he.run [] s σ H _ I h) fun u s1 ⟨v, H1, J, rv, q⟩ => ⟨u, v, σ, H1, rfl, J, rv, q⟩))⟩
theorem dsr_cons {t : TSD} {u : TRD} (h1 : DS X st t) (h2 : DSR X rest u) : DSR X (st :: rest) (rSeq t u) := ⟨fun s σ H R I ⟨Z, F, M, ρ, RD, r, h, o⟩ => (psr_cons h1 h2).run s σ H R I
  ⟨Z, F, M, ρ, _, r, h, ⟨fun σ' ρ' F' H' M' e' r' q => ⟨Z, F', M', ρ', RD, r', q, fun v x σ2 ρ2 F2 H2 M2 e2 => o v x σ2 ρ2 F2 H2 M2 (e'.trans e2)⟩, fun _ _ _ _ _ _ _ _ q => q.elim, fun _ _ _ _ _ _ _ q => q.elim, fun _ _ _ _ _ _ _ q => q.elim⟩⟩⟩
theorem dsr_ret {de : TED} (he : DE X e de) : DSR X [.Return (some e) pos] (rRet de) := ⟨fun s σ H R I ⟨Z, F, M, ρ, RD, r, h, o⟩ => (psr_ret he).run s σ H R I
  ⟨Z, F, M, ρ, _, r, h, fun v d F' H' M' e' r' rr q => o v d σ ρ F' H' M' e' (r.ext e' r') rr q⟩⟩
end
/-! ### the cells of a def that ends are told from then on -/
/-- the captured names ys stand in the slots js -/
def CapD (X : Cx) (ys : List Str) (js : List Nat) : Prop := (js.map fun j => X.N[j]?) = ys.map some ∧ ∀ y ∈ ys, X.env.scope.names.lookup y = some .cell
theorem tell_cells {X : Cx} {pins : List (Addr × Obj)} {σ : L2.St} {H Z F : Hp} {M : MH} {ρ : EnvD} {s : Shared} (I : Inv X pins σ H s) (R : Rel X.K Z F H M σ ρ) : ∀ {ys : List Str} {js : List Nat} {cs : List Dat}, CapD X ys js → atDs ρ js = some cs →
    ∃ ts : List Tc, ts.map (·.1) = ys.map (cadr X.env.cells) ∧ ts.map (·.2.2) = cs ∧ ∀ t ∈ ts, s.heap.get? t.1 = some t.2.1 ∧ (∃ v u, t.2.1.data = .cell (some u) ∧ RelV v u ∧ Rep X.K F v t.2.2) ∧ ∃ y, X.env.cells.lookup y = some t.1
  | [], [], cs, _, hd => by
    cases hd
    exact ⟨[], rfl, rfl, fun t ht => by cases ht⟩
  | y :: ys, [], cs, hc, _ => by cases hc.1
  | [], j :: js, cs, hc, _ => by cases hc.1
  | y :: ys, j :: js, cs, hc, hd => by
    obtain ⟨h1, h2⟩ := List.cons.inj hc.1
    unfold atDs at hd
    split at hd
    · rename_i d ds e1 e2
      cases hd
      obtain ⟨ts, g1, g2, g3⟩ := tell_cells I R (ys := ys) (js := js) ⟨h2, fun z hz => hc.2 z (List.mem_cons_of_mem _ hz)⟩ e2
      obtain ⟨v, hv, rv⟩ := R.e.at_ j d (atD_get e1)
      obtain ⟨m, _, hl⟩ := I.loc
      have hy := hc.2 y (List.mem_cons_self ..)
      obtain ⟨u, ru, lk⟩ := hl j y v h1 hv (.inr (.inl hy))
      rcases lk with ⟨k, _⟩ | ⟨_, c, hcl, o, ho, hod⟩
      · have k : X.env.scope.names.lookup y = some .local := k
        rw [hy] at k
        cases k
      · refine ⟨(c, o, d) :: ts, ?_, congrArg (List.cons d) g2, fun t ht => ?_⟩
        · rw [List.map_cons, List.map_cons, g1]
          congr 1
          unfold cadr
          rw [hcl] <;> rfl
        · rcases List.mem_cons.mp ht with rfl | ht
          · exact ⟨ho, ⟨v, u, hod, ru, rv⟩, y, hcl⟩
          · exact g3 t ht
    · cases hd
theorem nodup_map_inj {α β : Type} {f : α → β} {l : List α} (h : l.Nodup) (hf : ∀ x ∈ l, ∀ y ∈ l, f x = f y → x = y) : (l.map f).Nodup := by
  induction l with
  | nil => exact .nil
  | cons a l ih =>
    rw [List.nodup_cons] at h
    rw [List.map_cons, List.nodup_cons]
    refine ⟨fun hm => ?_, ih h.2 fun x hx y hy => hf x (List.mem_cons_of_mem _ hx) y (List.mem_cons_of_mem _ hy)⟩
    obtain ⟨b, hb, e⟩ := List.mem_map.mp hm
    have := hf b (List.mem_cons_of_mem _ hb) a (List.mem_cons_self ..) e
    subst this
    exact h.1 hb
theorem cadr_nodup {X : Cx} {ys : List Str} (ok : X.Ok) (h : ys.Nodup) (hc : ∀ y ∈ ys, X.env.scope.names.lookup y = some .cell) : (ys.map (cadr X.env.cells)).Nodup := by
  have at_ : ∀ y ∈ ys, X.env.cells.lookup y = some (cadr X.env.cells y) := fun y hy => by
    obtain ⟨c, e⟩ := ok.has y (.inl (hc y hy))
    unfold cadr
    rw [e] <;> rfl
  exact nodup_map_inj h fun x hx y hy e => ok.inj x y _ (at_ x hx) (by rw [e]; exact at_ y hy)
theorem un_new {fs ex : List Addr} {H H2 : Hp} {ts : List Tc} {h h2 : Heap} (u : Un fs ex H H2 h h2) (nw : ∀ t ∈ ts, h.get? t.1 = none) (n : ∀ t ∈ ts, H2 t.1 = none) : Un fs ex H (shwH H2 ts) h h2 := by
  have ks : ∀ b x, H2 b = some x → shwH H2 ts b = some x := fun b x e => by
    rw [shwH_no (fndC_none fun t ht z => ?_)]
    · exact e
    · have := n t ht
      rw [z, e] at this
      cases this
  refine ⟨u.keep, u.slot, fun b o e h0 x => ?_, u.there, fun b xs e => ks b _ (u.tups b xs e), fun b o y e => ks b _ (u.frzs b o y e), fun b ps e => ?_⟩
  · rw [shwH_no (fndC_none fun t ht z => ?_)]
    · exact u.free b o e h0 x
    · have := nw t ht
      rw [z, e] at this
      cases this
  · obtain ⟨more, q⟩ := u.tbls b ps e
    exact ⟨more, ks b _ q⟩
def mkrE (K : PySem.W.Frag) (ys : List Str) (js : List Nat) (cells : List (Str × Addr)) (Q : VKD) : Dat → EnvD → MH → Prop := fun x ρ M => ∃ cs, atDs ρ js = some cs ∧ ∀ ts : List Tc, ts.map (·.1) = ys.map (cadr cells) → ts.map (·.2.2) = cs → (∀ t ∈ ts, M t.1 = none) → (ts.map (·.1)).Nodup → ∃ M0, LeM M0 (shwM K M ts) ∧ Q x M0
section
variable {P : Program} {w : World} {K : PySem.W.Frag} {mg : Str → Option Value} {base : Heap}
theorem fn_mkE {x : Str} {st : Stmt} {N ps : List Str} {k : Nat} {sp : SpD} {c : Addr} (ys : List Str) (js : List Nat) (h : HasFnC K mg x x st ps c) (S : FnScope N ps (defScope st)) (n : Nat) (hn : N.length = n) (len : ∀ ds M Q, sp ds M Q → ds.length = ps.length) (hys : ys.Nodup)
    (hcap : ∀ (f : Addr) (A : Around) (outer : List Env) (s : Shared) (H : Hp) (E : XK), CapD (cxOf CX0 P w K mg base N x (defScope st) f (.ref c) A outer s H E).nox ys js)
    (body : ∀ (f : Addr) (A : Around) (outer : List Env) (s : Shared) (H : Hp) (E : XK), Room k (A.deeper (envOfC x (defScope st) s.heap.objs.size f (.ref c))) →
      ∃ d, DSR (cxOf CX0 P w K mg base N x (defScope st) f (.ref c) A outer s H E).nox (defBody st) d ∧ ∀ ds M Q, sp ds M Q → d (mkrE K ys js (cxOf CX0 P w K mg base N x (defScope st) f (.ref c) A outer s H E).env.cells Q) (startD n ds) M) : FnD P w K mg base (k + 1) x st ps sp := by
  obtain ⟨f, oc, od, kV, doc, pm, an, ct, osl, lk, hcd, hk, hm, hb⟩ := h.ex
  refine ⟨f, _, ⟨⟨oc, od, kV, doc, pm, an, .ref c, ct, osl, rfl, lk, hcd⟩, hk⟩, hm, hb, ⟨fun vs H Q E ⟨Z, F, M, ds, QD, _, r, h, _⟩ => by rw [r.length]; exact len ds M QD h, fun A outer s H args us vs Q E hr e0 hbd r hsp => ?_⟩⟩
  obtain ⟨Z, F, M, ds, QD, R, rr, hsp, o⟩ := hsp
  have hl := len ds M QD hsp
  have hKs := e0.mod.kin.keeps fun b o z => (e0.bs b o z).1
  have kinds : ∀ p ∈ ps.zip us, (defScope st).names.lookup p.1 = some .local ∨ ((defScope st).names.lookup p.1 = some .cell ∧ ((cellsFrom (s.heap.objs.size + 1) (defScope st).names []).lookup p.1).isSome = true) := by
    rintro ⟨y, u⟩ hy
    exact (S.par y (List.of_mem_zip hy).1).imp_right fun q => ⟨q, PySem.W.cellsFrom_some _ _ _ (.inl q)⟩
  refine codeAny_call_function hr.depth (hKs _ _ lk) rfl S.co S.gen rfl (PySem.W.codeRec_of hKs hcd) (hbd _ _ _ _ (wpAny_newFunctionEnv_cells S.kind kinds fun env he s1 z => ?_))
  cases he
  refine ⟨(e0.mod.nolimit.keeps fun b o q => (e0.bs b o q).1).keeps z.toInCall.keep, codeAny_func ?_⟩
  obtain ⟨d, hd, hb2⟩ := body f A outer s H E (hr.deeper _)
  have cap := hcap f A outer s H E
  generalize hX : (cxOf CX0 P w K mg base N x (defScope st) f (.ref c) A outer s H E) = X at hd hb2 cap
  have I0 : Inv X [] (L2.start N vs) H s1 := by
    rw [← hX]
    exact inv_start S hr.hd e0 (by rw [rr.length]; exact hl) r z
  have I := I0.wish fun _ _ => False
  have hp : ps.length ≤ N.length := by
    have := congrArg List.length S.pre
    rw [List.length_take] at this
    omega
  have RE : RelE K F (L2.start N vs) (startD n ds) := by
    unfold L2.start
    rw [← hn]
    exact startD_rep N.length rr (by omega)
  have hK : X.K = K := by rw [← hX]; rfl
  have w1 := hd.run s1 (L2.start N vs) H (fun v σ' H' => ∃ F' M' ρ' xd, Ext F F' ∧ Rel K Z F' H' M' σ' ρ' ∧ Rep K F' v xd ∧ mkrE K ys js X.env.cells QD xd ρ' M') I
    ⟨Z, F, M, startD n ds, mkrE K ys js X.env.cells QD, by rw [show X.nox.K = K from hK]; exact ⟨R, RE⟩, hb2 ds M QD hsp, fun v xd σ' ρ' F' H' M' e' r' rv q => by
      rw [show X.nox.K = K from hK] at r' rv
      exact ⟨F', M', ρ', xd, e', r', rv, q⟩⟩
  have w2 : wpAny (model P w) X.A (execs (defBody st) X.env) (fun f s' => ∃ u v σ' H', f = Flow.ret u ∧ Inv X.nox [] σ' H' s' ∧ RelV v u ∧ ∃ F' M' ρ' xd, Ext F F' ∧ Rel K Z F' H' M' σ' ρ' ∧ Rep K F' v xd ∧ mkrE K ys js X.env.cells QD xd ρ' M') (fun _ _ => False) s1 := by
    have e1 : X.nox.prog = P := by rw [← hX]; rfl
    have e2 : X.nox.w = w := by rw [← hX]; rfl
    rw [e1, e2] at w1
    exact w1
  have go : ∀ {G : Flow → Shared → Prop} {G' : Value → Shared → Prop}, wpAny (model P w) X.A (execs (defBody st) X.env) G G' s1 → wpAny (model P w) (A.deeper (envOfC x (defScope st) s.heap.objs.size f (.ref c))) (execs (defBody st) (envOfC x (defScope st) s.heap.objs.size f (.ref c))) G G' s1 := by
    intro G G' q
    rw [← hX] at q
    exact q
  refine go ?_
  refine wpAny_mono w2 (fun fl s' hq => ?_) fun _ _ z => z.elim
  obtain ⟨u, v, σ', H', rfl, J, rv, F', M', ρ', xd, e', R', rx, cs, hcs, hq⟩ := hq
  obtain ⟨ts, t1, t2, t3⟩ := tell_cells J (by rw [show X.nox.K = K from hK]; exact R') cap hcs
  have nH : ∀ t ∈ ts, H' t.1 = none := fun t ht => by
    obtain ⟨_, _, y, hy⟩ := t3 t ht
    exact J.freeC y _ hy
  have cel : ∀ t ∈ ts, ∃ v u, t.2.1.data = .cell (some u) ∧ RelV v u ∧ Rep K F' v t.2.2 := fun t ht => by
    have := (t3 t ht).2.1
    rw [show X.nox.K = K from hK] at this
    exact this
  have nM : ∀ t ∈ ts, M' t.1 = none := fun t ht => (R'.m.fresh (nH t ht)).2
  have nd : (ts.map (·.1)).Nodup := by
    rw [t1]
    exact cadr_nodup J.ok hys cap.2
  have new : ∀ t ∈ ts, s.heap.get? t.1 = none := fun t ht => by
    obtain ⟨_, _, y, hy⟩ := t3 t ht
    have ab := J.ok.cab y t.1 (by rw [← hX]; rfl) hy
    exact Heap.get?_none_of_le (by rw [← hX] at ab; exact ab)
  obtain ⟨M0, l, q⟩ := hq ts t1 t2 nM nd
  have hbase : Un (frs outer) [] H H' s.heap s'.heap := by
    have := J.base
    rw [← hX] at this
    exact this
  have hos : s'.os = s.os := by
    have := J.os
    rw [← hX] at this
    exact this
  have hok : HOk P w H' s'.heap := by
    have := J.hok
    rw [← hX] at this
    exact this
  exact ⟨v, shwH H' ts, hos, J.bare, un_new hbase new nH, hok_shw hok nH fun t ht => (t3 t ht).1, rv, o v xd F' _ M0 e' ((relM_shw R'.m nH cel).le l) rx q⟩
end
/-! ### kept lambdas handed to a def -/
structure LamE where
  L : LamC
  dfs : List Int
  fr : List Str
  sp : SpXD
/-- at fc stands the lambda e, which captured cs -/
def CloV (K : PySem.W.Frag) (M : MH) (fc : Addr) (e : LamE) (cs : List Dat) : Prop := ∃ ts : List Tc, M fc = some (.oth (lamR e.L e.dfs e.fr fc (ts.map (·.1)))) ∧ CelsM K M ts ∧ ts.map (·.2.2) = cs
def spT (K : PySem.W.Frag) (G : GSpX) (tbl : List LamE) : SpD := fun ds M Q => ∃ fc as e, e ∈ tbl ∧ M fc = some (.oth (lamR e.L e.dfs e.fr fc as)) ∧ G fc (lamR e.L e.dfs e.fr fc as) (cloC K as e.sp) ds M Q
/-- every lambda of the table keeps its promise -/
def TblOk (P : Program) (w : World) (K : PySem.W.Frag) (mg : Str → Option Value) (base : Heap) (k : Nat) (tbl : List LamE) : Prop := ∀ e ∈ tbl, LamV P w K mg base k e.L e.dfs e.fr e.sp
theorem gn_fn {P : Program} {w : World} {K : PySem.W.Frag} {mg : Str → Option Value} {base : Heap} {k kc : Nat} {x : Str} {st : Stmt} {ps : List Str} {G : GSpX} (Gd : GnXD P w K mg base k kc x st ps G) {tbl : List LamE} (tb : TblOk P w K mg base kc tbl) : FnD P w K mg base k x st ps (spT K G tbl) := by
  obtain ⟨f, fd, F, hm, hb, len, run⟩ := Gd.ex
  refine ⟨f, fd, F, hm, hb, ⟨fun vs H Q E ⟨Z, F, M, ds, QD, _, r, ⟨fc, as, e, _, _, h⟩, _⟩ => by rw [r.length]; exact len _ _ _ _ _ _ h, fun A outer s H args us vs Q E hr e0 hbd r hsp => ?_⟩⟩
  obtain ⟨Z, F0, M, ds, QD, R, rr, ⟨fc, as, e, he, hM, h⟩, o⟩ := hsp
  exact run A outer s H fc _ _ args us vs Q E (clo_tr (tb e he) (Nat.le_refl _) outer s H fc as) hr e0 hbd r ⟨Z, F0, M, ds, QD, R, rr, h, o⟩
/-! ### a call behind which the frame's own cells are as they were -/
def dCallE (K : PySem.W.Frag) (ys : List Str) (js : List Nat) (cells : List (Str × Addr)) (sp : SpD) (dA : TAD) : TED := fun ρ M Q => dA ρ M fun ds M1 => ∃ cs, atDs ρ js = some cs ∧ ∀ ts : List Tc, ts.map (·.1) = ys.map (cadr cells) → ts.map (·.2.2) = cs → (∀ t ∈ ts, M1 t.1 = none) → (ts.map (·.1)).Nodup →
  sp ds (shwM K M1 ts) fun d M2 => CelsM K M2 ts ∧ Q d (hidM M2 ts)
theorem un_hid {fs ex : List Addr} {H H2 : Hp} {ts : List Tc} {h h2 : Heap} (u : Un fs ex (shwH H ts) H2 h h2) (n : ∀ t ∈ ts, H t.1 = none) (g : ∀ t ∈ ts, h.get? t.1 = some t.2.1) (g2 : ∀ t ∈ ts, h2.get? t.1 = some t.2.1) : Un fs ex H (hidH H2 ts) h h2 := by
  have ks : ∀ b x, H b = some x → fndC ts b = none := fun b x e => fndC_none fun t ht z => by
    have := n t ht
    rw [z, e] at this
    cases this
  have st : ∀ b o, h.get? b = some o → (∃ t, fndC ts b = some t) → h2.get? b = some o := fun b o e ⟨t, q⟩ => by
    obtain ⟨ht, rfl⟩ := fndC_some q
    rw [g2 t ht, ← g t ht, e]
  refine ⟨fun b o e h0 hb hx => ?_, fun b o e h0 hb hx => ?_, fun b o e h0 hx => ?_, u.there, fun b xs e => ?_, fun b o y e => ?_, fun b ps e => ?_⟩
  · cases q : fndC ts b with
    | some t => exact st b o e ⟨t, q⟩
    | none => exact u.keep b o e (by rw [shwH_no q]; exact h0) hb hx
  · cases q : fndC ts b with
    | some t => exact ⟨o.slots, st b o e ⟨t, q⟩⟩
    | none => exact u.slot b o e (by rw [shwH_no q]; exact h0) hb hx
  · cases q : fndC ts b with
    | some t => exact hidH_at q
    | none => rw [hidH_no q]; exact u.free b o e (by rw [shwH_no q]; exact h0) hx
  · have q := ks b _ e
    rw [hidH_no q]
    exact u.tups b xs (by rw [shwH_no q]; exact e)
  · have q := ks b _ e
    rw [hidH_no q]
    exact u.frzs b o y (by rw [shwH_no q]; exact e)
  · have q := ks b _ e
    rw [hidH_no q]
    exact u.tbls b ps (by rw [shwH_no q]; exact e)
section
variable {X : Cx} {k k2 : Nat} {x : Str} {st : Stmt} {ps : List Str} {sp : SpD} {e : Expr} {es : List Expr} {p pos : Pos} {dA : TAD}
theorem de_callE (ys : List Str) (js : List Nat) (F : FnD X.prog X.w X.K X.mg X.base k x st ps sp) (hr : Room k2 X.A) (ha : DA X (e :: es) dA) (cap : CapD X ys js) (hys : ys.Nodup) (hfn : ∀ y, X.fn y = true) (hk : k ≤ k2 := by decide) (hg : Gl X x := by rfl) (hdb : (x == ("__debug__" : Str)) = false := by decide)
    (he : starEach (e :: es) X.env = (false, eval e X.env) :: starEach es X.env := by rfl) (hpl : (backTo pos (starEach es X.env)).any (·.1) = false := by rfl) : DE X (.Call (.Name x p) (e :: es) [] pos) (dCallE X.K ys js X.env.cells sp dA) := by
  obtain ⟨f, fd, F, hm, hb, ok⟩ := F.ex
  refine ⟨fun pins s σ H Q I ⟨Z, F0, M, ρ, QD, R, h, o⟩ => wpAny_Call_Name_kw (ld_glob I hg hm ?_ hdb)⟩
  refine PySem.W.callWith_K (h₀ := X.base) I.ok.mod.kin F.kp (thn (ha.run pos pins s σ H (fun vs H' => ∃ ds F' M', Ext F0 F' ∧ RelM X.K Z F' H' M' ∧ Reps X.K F' vs ds ∧ ∃ cs, atDs ρ js = some cs ∧ ∀ ts : List Tc, ts.map (·.1) = ys.map (cadr X.env.cells) → ts.map (·.2.2) = cs → (∀ t ∈ ts, M' t.1 = none) → (ts.map (·.1)).Nodup →
    sp ds (shwM X.K M' ts) fun d M2 => CelsM X.K M2 ts ∧ QD d (hidM M2 ts)) I ⟨Z, F0, M, ρ, _, R, h, fun vs ds F' H' M' e' R' rr h' => ⟨ds, F', M', e', R', rr, h'⟩⟩) fun us s1 hq => ⟨?_, ?_⟩) he hpl
  · obtain ⟨vs, H1, I1, _⟩ := hq
    exact I1.kIn
  obtain ⟨vs, H1, I1, rv, ds, F1, M1, e1, R1, rr, cs, hcs, hq⟩ := hq
  obtain ⟨ts, t1, t2, t3⟩ := tell_cells I1 (R.ext e1 R1) cap hcs
  have nH : ∀ t ∈ ts, H1 t.1 = none := fun t ht => by
    obtain ⟨_, _, y, hy⟩ := t3 t ht
    exact I1.freeC y _ hy
  have cel := fun t ht => (t3 t ht).2.1
  have g1 := fun t ht => (t3 t ht).1
  have nd : (ts.map (·.1)).Nodup := by
    rw [t1]
    exact cadr_nodup I1.ok hys cap.2
  have hsp := hq ts t1 t2 (fun t ht => (R1.fresh (nH t ht)).2) nd
  have e0 := I1.env0
  have e0' : Env0 X.prog X.w X.K X.mg X.base X.A X.stack s1 (shwH H1 ts) := by
    have low : ∀ t ∈ ts, X.s_0.heap.objs.size ≤ t.1 := fun t ht => by
      obtain ⟨_, _, y, hy⟩ := t3 t ht
      exact I1.ok.cab y t.1 (hfn y) hy
    refine ⟨e0.frames, e0.mod, fun b o z => ⟨(e0.bs b o z).1, ?_⟩, e0.bsz, e0.funs, fun b hbf => ?_, hok_shw e0.hok nH g1, e0.bare⟩
    · rw [shwH_no (fndC_none fun t ht q => ?_)]
      · exact (e0.bs b o z).2
      · have := low t ht
        rw [q] at this
        exact absurd (Heap.lt_size z) (Nat.not_lt.mpr (Nat.le_trans I1.ok.bsz this))
    · rw [shwH_no (fndC_none fun t ht q => ?_)]
      · exact e0.frf b hbf
      · obtain ⟨_, _, y, hy⟩ := t3 t ht
        rcases List.mem_cons.mp (I1.stkSub b hbf) with z | z
        · exact I1.cne y t.1 hy (q.trans z)
        · obtain ⟨ob, hob⟩ : ∃ ob, X.s_0.heap.get? b = some ob := by
            obtain ⟨_, o, ho, _⟩ := I1.ok.funs.mem z
            exact ⟨o, ho⟩
          have := low t ht
          rw [q] at this
          exact absurd (Heap.lt_size hob) (Nat.not_lt.mpr this)
  have hl : us.length = ps.length := by
    rw [← rv.length]
    exact ok.len _ _ (fun _ _ => True) E0 ⟨Z, F1, _, ds, _, relM_shw R1 nH cel, rr, hsp, fun _ _ _ _ _ _ _ _ _ => True.intro⟩
  have hb1 := hb s1 us I1.kIn (by rw [List.append_nil]; exact hl)
  rw [List.append_nil] at hb1
  refine wpAny_call (codeAny_mono (ok.run X.A X.stack s1 (shwH H1 ts) ⟨us, []⟩ us vs (fun v H2 => ∃ d F2 M2, Ext F1 F2 ∧ RelM X.K Z F2 H2 M2 ∧ Rep X.K F2 v d ∧ CelsM X.K M2 ts ∧ QD d (hidM M2 ts)) E0 (hr.mono hk) e0' hb1 rv ⟨Z, F1, _, ds, _, relM_shw R1 nH cel, rr, hsp, fun v d F2 H2 M2 e2 R2 rd q => ⟨d, F2, M2, e2, R2, rd, q.1, q.2⟩⟩) fun r s' hc => ?_)
  cases r with
  | error _ => exact (show False from hc).elim
  | ok fl =>
    cases fl with
    | ret u =>
      obtain ⟨v, H2, os, bare, un, hok, rv2, d, F2, M2, e2, R2, rd, C2, q⟩ := hc
      have CH := C2.heap R2
      have g2 : ∀ t ∈ ts, s'.heap.get? t.1 = some t.2.1 := fun t ht => (hok _ _ (CH t ht)).1
      exact I1.after ⟨v, hidH H2 ts, os, bare, un_hid un nH g1 g2, hok_hid hok CH, rv2, o v d F2 _ _ (e1.trans e2) (relM_hid R2 C2) rd q⟩
    | next => exact False.elim hc
    | brk => exact False.elim hc
    | cont => exact False.elim hc
end
def rFrz (i : Nat) (t : TRD) : TRD := fun RD ρ M => match atD ρ i with
  | some (.ref a) => ∃ ds, M a = some (.lst ds) ∧ t RD (setD ρ i (some (.lst ds))) (delM M a)
  | _ => False
theorem dsr_frz {X : Cx} (i : Nat) {sts : List Stmt} {t : TRD} (h : DSR X sts t) : DSR X sts (rFrz i t) := ⟨fun s σ H RS I ⟨Z, F, M, ρ, RD, R, hw, o⟩ => by
  unfold rFrz at hw
  split at hw
  · rename_i a e
    obtain ⟨ds, h1, h2⟩ := hw
    obtain ⟨xs, q, r⟩ := (R.m.chg a _ h1).2
    obtain ⟨R2, e2⟩ := R.m.frz h1 q
    refine h.run s σ H RS I ⟨Z, _, _, _, RD, ⟨R2, RelE.reset (v := .ref a) (R.e.mono e2) e fun w g => ?_⟩, h2, fun v x σ' ρ' F' H' M' e' => o v x σ' ρ' F' H' M' (e2.trans e')⟩
    cases g
    exact .lst upd_same (r.mono e2)
  · exact hw.elim⟩
theorem cap_by {sc : Scope} {ys : List Str} (h : ys.all (fun y => decide (sc.names.lookup y = some .cell)) = true) : ∀ y ∈ ys, sc.names.lookup y = some .cell := fun y hy => of_decide_eq_true (List.all_eq_true.mp h y hy)
/-! ### what is known of kept lambdas, over data -/
theorem fnd_mem {ts : List Tc} (h : (ts.map (·.1)).Nodup) {t : Tc} (ht : t ∈ ts) : fndC ts t.1 = some t := by
  induction ts with
  | nil => cases ht
  | cons u ts ih =>
    rw [List.map_cons, List.nodup_cons] at h
    unfold fndC
    rw [List.find?_cons]
    rcases List.mem_cons.mp ht with rfl | g
    · rw [decide_eq_true rfl]
    · rw [decide_eq_false (fun z => h.1 (List.mem_map.mpr ⟨t, g, z.symm⟩))]
      exact ih h.2 g
theorem cels_sub {K : PySem.W.Frag} {M : MH} {ts ts' : List Tc} (h : (ts.map (·.1)).Nodup) (hs : ∀ t ∈ ts', t ∈ ts) : CelsM K (shwM K M ts) ts' := fun t ht => shwM_at (fnd_mem h (hs t ht))
theorem le_shw {K : PySem.W.Frag} {M : MH} {ts : List Tc} (n : ∀ t ∈ ts, M t.1 = none) : LeM M (shwM K M ts) := fun a o e => by
  rw [shwM_no (fndC_none fun t ht z => ?_)]
  · exact e
  · have := n t ht
    rw [z, e] at this
    cases this
theorem CloV.le {K : PySem.W.Frag} {M M' : MH} {fc : Addr} {e : LamE} {cs : List Dat} (h : CloV K M fc e cs) (l : LeM M M') : CloV K M' fc e cs := by
  obtain ⟨ts, h1, h2, h3⟩ := h
  exact ⟨ts, l _ _ h1, fun t ht => l _ _ (h2 t ht), h3⟩
theorem cloV_of {K : PySem.W.Frag} {M : MH} {ts : List Tc} {fc : Addr} (e : LamE) (ts' : List Tc) (nd : (ts.map (·.1)).Nodup) (n : ∀ t ∈ ts, M t.1 = none) (hs : ∀ t ∈ ts', t ∈ ts) (h : M fc = some (.oth (lamR e.L e.dfs e.fr fc (ts'.map (·.1))))) : CloV K (shwM K M ts) fc e (ts'.map (·.2.2)) :=
  ⟨ts', le_shw n _ _ h, cels_sub nd hs, rfl⟩
theorem shw_hid' {K : PySem.W.Frag} {M : MH} {ts : List Tc} (C : CelsM K M ts) : shwM K (hidM M ts) ts = M := shw_hid C
end DL
/-! a def that raises for some arguments, and answers for others -/
namespace DL
open PySem PySem.Spec PyProof.Rows L2 LamX NdefX
section
variable {P : Program} {w : World} {K : PySem.W.Frag} {mg : Str → Option Value} {base : Heap} {x : Str} {st : Stmt} {ps : List Str}
theorem fnx_or {k j n : Nat} {sx : SpXD} {sp : SpD} (hx : FnX P w K mg base k x st ps sx) (hd : FnD P w K mg base j x st ps sp) (hk : k ≤ n) (hj : j ≤ n) : FnX P w K mg base n x st ps (fun ds M Q ED => sx ds M Q ED ∨ sp ds M Q) := by
  obtain ⟨f, fd, F, hm, hb, ok⟩ := hx.ex
  obtain ⟨f', fd', F', hm', hb', ok'⟩ := hd.ex
  have e := hm.symm.trans hm'
  cases e
  have e2 := same_fun F F'
  subst e2
  refine ⟨f, fd, F, hm, hb, ⟨fun vs H Q E ⟨Z, F0, M, ds, QD, ED, R, rr, h, o, oe⟩ => ?_, fun A outer s H args us vs Q E hr e0 hbd r h => ?_⟩⟩
  · rcases h with h | h
    · exact ok.len vs H Q E ⟨Z, F0, M, ds, QD, ED, R, rr, h, o, oe⟩
    · exact ok'.len vs H Q E ⟨Z, F0, M, ds, QD, R, rr, h, o⟩
  · obtain ⟨Z, F0, M, ds, QD, ED, R, rr, h, o, oe⟩ := h
    rcases h with h | h
    · exact ok.run A outer s H args us vs Q E (hr.mono hk) e0 hbd r ⟨Z, F0, M, ds, QD, ED, R, rr, h, o, oe⟩
    · refine codeAny_mono (ok'.run A outer s H args us vs Q E (hr.mono hj) e0 hbd r ⟨Z, F0, M, ds, QD, R, rr, h, o⟩) fun r s' hq => ?_
      cases r with
      | error e => exact (show False from hq).elim
      | ok fl =>
        cases fl with
        | ret u => exact hq
        | next => exact hq
        | brk => exact hq
        | cont => exact hq
end
end DL
/-! enumerate over a tuple; loops and arguments that may raise -/
namespace DL
open PySem PySem.Spec PyProof.Rows L2 LamX NdefX
open AutoSeq1 (wpAny_loadPart')
/-- what the call makes for the tuple at t: one that walks, one that counts -/
abbrev wlkO (t : Addr) : Obj := { cls := .type "tuple_iterator", data := .fields #[.ref t, .int 0 0] }
abbrev ctrO (w : Addr) : Obj := { cls := .type "enumerate", data := .fields #[.none, .bool false, .ref w, rawInt 0, .none, .none] }
theorem made_two {t : Addr} {us : Array Value} {n : Nat} {ob : Obj} (e1 : ob.cls = .type "tuple") (e2 : ob.data = .seq us n) :
    Meets (Builtin.«enumerate.__new__» ⟨[.type "enumerate", .ref t], []⟩) fun _ R s => s.heap.get? t = some ob ∧
      R (.ok (.ret (.ref (s.heap.push (wlkO t)).objs.size))) { s with heap := (s.heap.push (wlkO t)).push (ctrO s.heap.objs.size) } := by
  refine .of_wp fun P w A R s ⟨at_t, fin⟩ => ?_
  rcases s with ⟨hp, gs, dr, tk, os⟩
  rcases ob with ⟨_, dct, _, sl⟩
  cases e1
  cases e2
  have sub := sub_enumerate
  have tup : Heap.IsTuple (Shared.heap ⟨hp, gs, dr, tk, os⟩) t us := ⟨_, at_t, rfl, n, rfl⟩
  wp_walk using wpAny_loadPart' at_t
  apply wpAny_stack_any
  intro st
  apply wpAny_pure
  split
  next c _ _ _ _ _ => cases hb : c == Value.type "enumerate" <;> (wp_walk using wpAny_loadPart' at_t, wpAny_pyIter_tuple tup; exact ⟨_, rfl, fin⟩)
  next => wp_walk using wpAny_loadPart' at_t, wpAny_pyIter_tuple tup; exact ⟨_, rfl, fin⟩
/-- the two of them, i items on -/
structure EnT (t e w : Addr) (i : Nat) (h : Heap) : Prop where
  ew : e ≠ w
  te : t ≠ e
  tw : t ≠ w
  walker : h.IsTupleIter w t i
  counter : ∃ last, IsEnum h e w (i : Nat) last
theorem EnT.held {t e w : Addr} {i : Nat} {h g : Heap} (S : EnT t e w i h) (k : ∀ b ∈ [e, w], ∀ o, h.get? b = some o → g.get? b = some o) : EnT t e w i g :=
  { S with walker := S.walker.at (k w (by simp)), counter := S.counter.imp fun _ q => k e (by simp) _ q }
/-- the call: both are new, and nothing else is touched -/
theorem made_enT {P : Program} {w : World} {A : Around} {E : Value → Shared → Prop} {s : Shared} {t : Addr} {us : Array Value} {Q : Value → Shared → Prop} (tup : s.heap.IsTuple t us)
    (fin : ∀ g, EnT t (s.heap.objs.size + 1) s.heap.objs.size 0 g → (∀ b o, s.heap.get? b = some o → g.get? b = some o) → Q (.ref (s.heap.objs.size + 1)) { s with heap := g }) : wpAny (model P w) A (call (.type "enumerate") [.ref t]) Q E s := by
  obtain ⟨ob, at_t, e1, n, e2⟩ := id tup
  have lt : t < s.heap.objs.size := Heap.lt_size at_t
  have sz : (s.heap.push (wlkO t)).objs.size = s.heap.objs.size + 1 := Heap.size_push ..
  have c1 : IsEnum ((s.heap.push (wlkO t)).push (ctrO s.heap.objs.size)) (s.heap.objs.size + 1) s.heap.objs.size 0 .none := sz ▸ Heap.get?_push_size (s.heap.push (wlkO t)) rfl
  apply callType_new F.called_enumerate (by decide) (F.typeCall_enumerate_1 _) (F.newCall_enumerate_1 _) (fun o => F.args_object_init_2 o _) F.entry_enumerate_new (made_two e1 e2)
  refine ⟨at_t, ?_⟩
  show _ ∧ _
  rw [sz]
  exact ⟨⟨_, c1, rfl⟩, fin _ ⟨Nat.succ_ne_self _, Nat.ne_of_lt (Nat.lt_succ_of_lt lt), Nat.ne_of_lt lt, ⟨_, Heap.get?_push_of_some _ (Heap.get?_push_size _ rfl), rfl, rfl⟩, _, c1⟩ fun b o q => Heap.get?_push_of_some _ (Heap.get?_push_of_some _ q)⟩
/-- each item in a new pair behind its number -/
def EnIt (K : PySem.W.Frag) (t : Addr) : It where
  go i H := ∃ vs : List V, SqT K H t vs ∧ i < vs.length
  yld i H v H' := ∃ (p : Addr) (y : V), H p = none ∧ v = .ref p ∧ H' = upd H p (.tup [.int (i : Nat), y]) ∧ ∀ vs, SqT K H t vs → vs[i]? = some y
  stop i H := ∃ vs : List V, SqT K H t vs ∧ vs.length = i
theorem EnT.turn {P : Program} {w0 : World} {K : PySem.W.Frag} {elts : List Expr} {kk : Nat} {tpos : Pos} (t e w : Addr) : Turn P w0 K (.Tuple elts kk tpos) (EnIt K t) [e, w] e (EnT t e w) where
  mem := List.mem_cons_self ..
  obj i h S b hb := by
    obtain ⟨last, q⟩ := S.counter
    obtain ⟨o, ho, _, hd⟩ := S.walker
    rcases List.mem_cons.mp hb with rfl | hb
    · exact ⟨_, q, fun v z => nomatch z⟩
    · cases List.mem_singleton.mp hb
      exact ⟨o, ho, fun v z => by rw [hd] at z; cases z⟩
  keep i h g S k := S.held k
  self A i s Q E S q := by
    obtain ⟨_, c⟩ := S.counter
    exact wpAny_pyIter_enum c q
  done X hP hw hK calm i pins s σ H E I fresh S z := by
    subst hP hw hK
    obtain ⟨vs, sq, rfl⟩ := z
    obtain ⟨us, rel, tup, _⟩ := I.tuple sq
    obtain ⟨_, c⟩ := S.counter
    obtain ⟨f0, f1, _, f3, f4, f5⟩ := fresh w (by simp)
    have S' : s.heap.IsTupleIter w t us.toArray.size ∧ s.heap.IsTuple t us.toArray := ⟨by simpa [rel.length] using S.walker, tup⟩
    exact wpAny_pyNext_enum_endD (Draws.tuple (A := X.A.in1) (I.ok.hd calm) w t S.tw us.toArray) c S' fun g same => ⟨rfl, I.turned (t' := s.toks) (fun b o hb q => same b o hb q) f0 f1 f3 f4 f5⟩
  item X hP hw hK calm i pins s σ H E I fresh S z := by
    subst hP hw hK
    obtain ⟨vs, sq, lt⟩ := z
    obtain ⟨us, rel, tup, _⟩ := I.tuple sq
    obtain ⟨_, c⟩ := S.counter
    have hy : vs[i]? = some vs[i] := List.getElem?_eq_getElem lt
    have hen : e < s.heap.objs.size := Heap.lt_size c
    have hwn : w < s.heap.objs.size := S.walker.elim fun _ q => Heap.lt_size q.1
    have p0 : H s.heap.objs.size = none := I.hok.fresh (Nat.le_refl _)
    refine wpAny_pyNext_enum_itemD (Draws.tuple (A := X.A.in1) (I.ok.hd calm) w t S.tw us.toArray) c ⟨S.walker, tup⟩ (by simpa [← rel.length] using lt) S.ew (by simp [S.ew, S.te.symm]) fun u g tk hu out next pair _ stay => ⟨_, rfl, ?_⟩
    refine wpAny_letOwnedTupleGo_enum (s := { s with heap := g, toks := tk + 1 }) out fun g2 back only => ?_
    obtain ⟨u', hu', ru⟩ := rel.get hy
    obtain rfl : u' = u := Option.some.inj (hu'.symm.trans (by simpa using hu))
    have pair2 := (only.2 _ (Nat.ne_of_gt hen)).trans pair
    have oths : ∀ b o, b ∉ [e, w] → s.heap.get? b = some o → g2.get? b = some o := fun b o nb q => by
      simp only [List.mem_cons, List.not_mem_nil, or_false, not_or] at nb
      exact (only.2 b nb.1).trans (stay b o nb.1 nb.2 q)
    have I2 := I.turnedNew (t' := tk + 1) (ob := .tup [.int (i : Nat), vs[i]]) oths fresh (Nat.le_refl _) ⟨by show 2 ≤ sizeLine; decide, _, .cons ⟨_, rfl⟩ (.cons ru .nil), ⟨_, pair2, rfl, _, rfl⟩⟩
    refine ⟨.ref s.heap.objs.size, _, I2, rfl, ⟨_, _, p0, rfl, rfl, fun ws q => by rw [I.tuple_inj q sq]; exact hy⟩, ?_, fun b hb => ?_⟩
    · exact ⟨S.ew, S.te, S.tw, next.1.at fun o q => (only.2 w S.ew.symm).trans q, u', by rw [show ((i + 1 : Nat) : Int) = (i : Int) + 1 from rfl]; exact back⟩
    · have hb2 : b < s.heap.objs.size := by
        simp only [List.mem_cons, List.not_mem_nil, or_false] at hb
        rcases hb with rfl | rfl <;> assumption
      rw [upd_ne (Nat.ne_of_lt hb2)]
      exact (fresh b hb).1
theorem pi_enT {X : Cx} {a : Expr} {ta : TA} {p pos tpos : Pos} {elts : List Expr} {kk : Nat} (hg : Gl X "enumerate") (hm : X.mg "enumerate" = none) (ha : PA X [a] ta) (hs : starEach [a] X.env = [(false, eval a X.env)] := by rfl) :
    PI X (.Tuple elts kk tpos) (.Call (.Name "enumerate" p) [a] [] pos) (fun σ H R => ta σ H fun vs H1 => ∃ t xs, vs = [.ref t] ∧ SqT X.K H1 t xs ∧ R (EnIt X.K t) H1) := by
  constructor
  intro pins s σ H R I h
  refine Call_ (ld_blt I hg hm boot_enumerate (PyProof.Rows.callWith_type1 (thn (ha.run pos pins s σ H _ I h) ?_) hs rfl))
  rintro us s1 ⟨vs, H1, I1, rel, t, xs, rfl, sq, fin⟩
  obtain ⟨u, ru, rfl⟩ : ∃ u, RelV (.ref t) u ∧ us = [u] := by
    cases rel with
    | cons r rr =>
      cases rr
      exact ⟨_, r, rfl⟩
  cases ru
  obtain ⟨_, _, tup, _⟩ := I1.tuple sq
  refine made_enT tup fun g S old => ?_
  obtain ⟨_, c⟩ := S.counter
  refine wpAny_pyIter_enum c ⟨_, [s1.heap.objs.size + 1, s1.heap.objs.size], _, _, H1, rfl, I1.kept (t' := s1.toks) old, EnT.turn t _ _, S, fun b hb => ?_, fin⟩
  have up : s1.heap.objs.size ≤ b := by
    simp only [List.mem_cons, List.not_mem_nil, or_false] at hb
    rcases hb with rfl | rfl
    · exact Nat.le_succ _
    · exact Nat.le_refl _
  exact I1.fpOk up (I1.hok.fresh up)
theorem en_walk {K : PySem.W.Frag} {F : Hp} {p : Addr} {xs : List V} {ds : List Dat} (q : SqT K F p xs) (r : Reps K F xs ds) : WalkD K F (EnIt K p) (enumD ds) := by
  have hl : (enumD ds).length = xs.length := by simp [enumD, r.length]
  refine ⟨fun Z i G H M e R lt => ⟨xs, ext_t (e.trans R.sub) q, by omega⟩, fun Z G H M e R => ⟨xs, ext_t (e.trans R.sub) q, hl.symm⟩, fun Z i G H M x H2 d e R y hd => ?_⟩
  obtain ⟨T, z, nT, rfl, rfl, hz⟩ := y
  obtain ⟨d2, hd2, rfl⟩ := enumD_at hd
  obtain ⟨v, hv, rv⟩ := r.get hd2
  cases Option.some.inj ((hz xs (ext_t (e.trans R.sub) q)).symm.trans hv)
  obtain ⟨R4, e4⟩ := R.newF (o := .tup _) nT
  exact ⟨_, e4, R4, .tup (SqT.of upd_same) (.two (.int _) (rv.mono (e.trans e4)))⟩
def dIET (dA : TAD) : TID := fun ρ M R => dA ρ M fun xs M1 => match xs with
  | [.tup ds] => R (enumD ds) M1
  | _ => False
section
variable {X : Cx} {a : Expr} {dA : TAD} {p pos tpos : Pos} {elts : List Expr} {kk : Nat}
theorem di_enumT (hm : X.mg "enumerate" = none) (ha : DA X [a] dA) (hg : Gl X "enumerate" := by rfl) (hs : starEach [a] X.env = [(false, eval a X.env)] := by rfl) : DI X (.Tuple elts kk tpos) (.Call (.Name "enumerate" p) [a] [] pos) (dIET dA) := pi_w (pi_enT hg hm ha hs) fun σ H R ⟨Z, F, M, ρ, RD, R0, h, o⟩ => by
  refine ⟨Z, F, M, ρ, _, R0, h, fun xs as F1 H1 M1 e1 R1 r1 h1 => ?_⟩
  split at h1
  · obtain ⟨v, ws, rfl, q1, r1⟩ := r1.uncons
    cases r1.unnil
    cases q1 with
    | tup q r => exact ⟨_, _, rfl, ext_t R1.sub q, o _ _ F1 H1 M1 e1 R1 (en_walk q r) h1⟩
  · exact h1.elim
end
/-! ### a loop whose body may raise -/
def xLoop (g : TGD) (tb : XDt → TSD) : List Dat → XDt → TSD
  | [] => fun _ D ρ M => D.nx ρ M
  | x :: r => fun WD D ρ M => g x ρ M fun ρ' M' => tb WD { D with nx := xLoop g tb r WD D, ct := xLoop g tb r WD D, bk := D.nx } ρ' M'
def xFor (di : TID) (g : TGD) (tb : XDt → TSD) : XDt → TSD := fun WD D ρ M => di ρ M fun ds M1 => xLoop g tb ds WD D ρ M1
theorem dsx_for {X : Cx} {W : WX} {tg iter : Expr} {body : List Stmt} {di : TID} {g : TGD} {tb : XDt → TSD} {pos : Pos} (hp : PassesOwn (model X.prog X.w) X.A X.env X.xe) (hi : DI X tg iter di) (hg : DG X tg g) (hb : DSsX X W body tb) (hc : X.calm = true := by rfl)
    (hs : ∀ x, foldedSetIterable iter X.env x = pure x := by intro _; rfl) : DSX X W (.For tg iter body [] pos) (xFor di g tb) := ps_w (ps_for hp hc hi hg hb hs) fun D σ H ⟨Z, F, M, ρ, DD, WD, R, h, o, ow⟩ => by
  refine ⟨Z, F, M, ρ, _, R, h, fun ds J F1 H1 M1 e1 R1 w1 h1 => ?_⟩
  refine ⟨fun i m σ H => m = ds.length - i ∧ i ≤ ds.length ∧ ∃ F' M ρ, Ext F1 F' ∧ Rel X.K Z F' H M σ ρ ∧ xLoop g tb (ds.drop i) WD DD ρ M, ⟨ds.length, by simp, Nat.zero_le _, F1, M1, ρ, Ext.refl _, R.ext e1 R1, h1⟩, ?_⟩
  rintro i m σ2 H2 ⟨rfl, hi, F2, M2, ρ2, e2, R2, h2⟩
  by_cases hlt : i < ds.length
  · obtain ⟨d, hd⟩ : ∃ d, ds[i]? = some d := ⟨ds[i], List.getElem?_eq_getElem hlt⟩
    have hdr : ds.drop i = d :: ds.drop (i + 1) := by
      obtain ⟨h5, h6⟩ := List.getElem?_eq_some_iff.mp hd
      rw [List.drop_eq_getElem_cons h5, h6]
    rw [hdr] at h2
    unfold xLoop at h2
    refine .inr ⟨w1.go Z i F2 H2 M2 e2 R2.m hlt, fun σ' H' => ∃ F' M ρ, Ext F1 F' ∧ Rel X.K Z F' H' M σ' ρ ∧ xLoop g tb (ds.drop (i + 1)) WD DD ρ M, fun σ' H' n => ⟨ds.length - (i + 1), by omega, rfl, hlt, n⟩, fun x H' y => ?_⟩
    obtain ⟨F3, e3, R3, r3⟩ := w1.yld Z i F2 H2 M2 x H' d e2 R2.m y hd
    refine ⟨Z, F3, M2, ρ2, d, _, R2.ext e3 R3, r3, h2, fun σ4 ρ4 F4 H4 M4 e4 R4 h4 => ?_⟩
    have e14 := (e2.trans e3).trans e4
    refine ⟨Z, F4, M4, ρ4, _, WD, R4, h4, ⟨?_, o.rt.mono (e1.trans e14), o.nx.mono (e1.trans e14), ?_⟩, ow.mono (e1.trans e14)⟩
    · intro σ5 ρ5 F5 H5 M5 e5 R5 h5
      exact ⟨F5, M5, ρ5, e14.trans e5, R5, h5⟩
    · intro σ5 ρ5 F5 H5 M5 e5 R5 h5
      exact ⟨F5, M5, ρ5, e14.trans e5, R5, h5⟩
  · have e : i = ds.length := by omega
    subst e
    rw [List.drop_length] at h2
    exact .inl ⟨w1.stop Z F2 H2 M2 e2 R2.m, o.nx _ _ F2 H2 M2 (e1.trans e2) R2 h2⟩
/-! ### a call whose first argument raises -/
def xArg (de : XDt → TED) : XDt → TED := fun WD ρ M _ => de WD ρ M fun _ _ => False
theorem dex_arg {X : Cx} {W : WX} {x : Str} {k k2 : Nat} {st : Stmt} {ps : List Str} {sp : SpD} {e : Expr} {es : List Expr} {de : XDt → TED} {dr : TAD} {p pos : Pos} (F : FnD X.prog X.w X.K X.mg X.base k x st ps sp) (hr : Room k2 X.A) (ha : DEX X W e de) (hb2 : DA X es dr) (hk : k ≤ k2 := by decide) (hg : Gl X x := by rfl) (hdb : (x == ("__debug__" : Str)) = false := by decide)
    (he : starEach (e :: es) X.env = (false, eval e X.env) :: starEach es X.env := by rfl) (hpl : (backTo pos (starEach es X.env)).any (·.1) = false := by rfl) : DEX X W (.Call (.Name x p) (e :: es) [] pos) (xArg de) := by
  obtain ⟨f, fd, F, hm, hb, ok⟩ := F.ex
  exact pe_w (pe_call ok (hr.mono hk) hg hm F.kp hb .nil pass0 (pa_cons ha hb2 he) hdb he hpl) fun σ H Q ⟨Z, F1, M, ρ, QD, WD, R, h, o, ow⟩ =>
    ⟨Z, F1, M, ρ, _, WD, R, h, fun v d F' H' M' e' R' r' h' => h'.elim, ow⟩
end DL
/-! a method's call whose object raises; an assignment, to any target, of a value that may raise -/
namespace DL
open PySem PySem.Spec PyProof.Rows L2
section
variable {X : Cx} {W : WX} {C : Addr} {m : Str} {k k2 : Nat} {st : Stmt} {ps : List Str} {sp : SpD} {o e tg : Expr} {es : List Expr} {de : XDt → TED} {dA : TAD} {g : TGD} {p pos apos : Pos}
theorem dex_recv {pl : Sem Bool} (F : MtdD X.prog X.w X.K X.mg X.base k C m st ps sp) (cl : Cls X.K C) (hr : Room k2 X.A) (ho : DEX X W o de) (ha : DA X (e :: es) dA) (hk : k ≤ k2 := by decide)
    (hst : starEach (e :: es) X.env = (false, eval e X.env) :: starEach es X.env := by rfl) (hpl : (backTo pos (starEach es X.env)).any (·.1) = false := by rfl)
    (ht : eval (.Call (.Attribute o m apos) (e :: es) [] pos) X.env = (do
      let ov ← eval o X.env
      standAt apos.atName
      let (f, first) ← holding [ov] (getMethod ov m pl)
      callWith pos f first (backTo pos (starEach (e :: es) X.env)) (backToKw pos (keywordEach [] X.env))) := by rfl) : DEX X W (.Call (.Attribute o m apos) (e :: es) [] pos) (xArg de) := by
  obtain ⟨qual, f, fd, F, hm, hb, ok⟩ := F.ex
  exact pe_w (pe_meth ho cl hm ok (hr.mono hk) hb .nil pass0 ha hst hpl ht) fun σ H Q ⟨Z, F1, M, ρ, QD, WD, R, h, o, ow⟩ =>
    ⟨Z, F1, M, ρ, _, WD, R, h, fun v d F' H' M' e' R' r' h' => h'.elim, ow⟩
theorem dsx_asg (he : DEX X W e de) (hg : DG X tg g) (hs : swapsWithSole [tg] e pos.line X.env = pure false := by rfl) (hw : swappedStores [tg] e X.env = pure none := by rfl) (h1 : (assignEach [tg] X.env).map (·.2) = [assign tg X.env] := by rfl) : DSX X W (.Assign [tg] e pos) (xAsg de g) :=
  ps_w (ps_asg he hg hs hw h1) fun D σ H ⟨Z, F1, M, ρ, DD, WD, R, h, o, ow⟩ => ⟨Z, F1, M, ρ, _, WD, R, h, fun v d F2 H2 M2 e2 R2 r2 h2 => ⟨Z, F2, M2, ρ, d, _, R.ext e2 R2, r2, h2, o.nx.mono e2⟩, ow⟩
end
/-! isinstance(e, (c, d)), e the exception with a dict that the suite holds -/
section
open LamX NdefX
def rIsXT (K : PySem.W.Frag) (D a dd : Addr) : List V → Hp → VK → Prop := fun xs H Q => ExcC K D ∧ ∃ (tp : Addr) (cs : List V) (us : List Value) (b : Bool) (fs : List (Str × V)), xs = [.ref a, .ref tp] ∧ SqT K H tp cs ∧ (∀ ws, Vals cs ws → ws = us) ∧ H dd = some (.xd fs) ∧ PySem.W.kitAny K (.ref D) us = some b ∧ Q (.bl b) H
theorem call_isXT {X : Cx} {a D dd : Addr} {oe : Obj} {pn : List (Addr × Obj)} (hz : Zc (.ref D) (some dd) oe) (hf : ∃ vs, oe.data = .fields vs) : CallR (X.suite a ((a, oe) :: pn)) (.builtin "isinstance") (rIsXT X.K D a dd) := by
  intro pins s σ H xs us Q I r h
  obtain ⟨C, tp, cs, ws, b, fs, rfl, sq, hcs, hx, e, q⟩ := h
  obtain ⟨u1, u2, rfl, r1, r2⟩ := vals2 r
  cases r1
  cases r2
  obtain ⟨its, rv, tup, _⟩ := I.tuple sq
  have ei := hcs _ rv
  subst ei
  obtain ⟨⟨oc, od, dt, sl⟩, ho, hc, n, hdt⟩ := tup
  simp only at hc hdt
  subst hc hdt
  have pin := (I.pin (a, oe) (List.mem_append.mpr (.inl List.mem_cons_self))).1
  obtain ⟨vs, hv⟩ := hf
  obtain ⟨mA, hns, _⟩ := (show ObjOk X.prog X.w H s.heap dd (.xd fs) from I.hok dd _ hx)
  obtain ⟨od2, ho2, _⟩ := lookIn_ns hns
  have J : PySem.W.InstAt s.heap a oe D (some od2) := ⟨pin, hz.1, by unfold PySem.W.notCls; rw [hv] <;> rfl, by rw [hz.2]; exact ho2⟩
  have hcl : (PySem.W.clsIn X.K D).isSome = true := by
    obtain ⟨cd, z, _⟩ := PySem.W.any_some C.hd
    rw [z]
    rfl
  exact PySem.W.kia_tup (PySem.W.kitx_exc hcl C.hg C.hk C.hs C.ha C.hn C.ht C.hm) I.kIn J ho e (fun z => nomatch z) fun tk => ⟨.bl b, H, I.kept (t' := tk) fun _ _ z => z, rfl, q⟩
def dIsE2 (K : PySem.W.Frag) (a C dd : Addr) (de d2 : TED) : TED := fun ρ M Q => ExcC K C ∧ de ρ M fun y M1 => y = .ref a ∧ (d2 ρ M1 fun z M2 => ∃ c1 c2 : Addr, z = .tup [.cls c1, .cls c2] ∧ (∃ f x, M2 dd = some (.oth (xdR K f x))) ∧ ∃ b, PySem.W.kitAny K (.ref C) [.ref c1, .ref c2] = some b ∧ Q (.bl b) M2)
theorem de_isE2 {X : Cx} {a C dd : Addr} {oe : Obj} {pn : List (Addr × Obj)} {e e2 : Expr} {de d2 : TED} {p pos : Pos} (hz : Zc (.ref C) (some dd) oe) (hd : ∃ vs, oe.data = .fields vs) (he : DE (X.suite a ((a, oe) :: pn)) e de) (h2 : DE (X.suite a ((a, oe) :: pn)) e2 d2)
    (hm : X.mg "isinstance" = none) (hg : Gl X "isinstance" := by rfl) (hv : bootBuiltins "isinstance" = some (.builtin "isinstance") := by decide +kernel) (hs1 : starEach [e2] X.env = (false, eval e2 X.env) :: starEach [] X.env := by rfl)
    (hs : starEach (e :: [e2]) X.env = (false, eval e X.env) :: starEach [e2] X.env := by rfl) (hpl : (backTo pos (starEach [e2] X.env)).any (·.1) = false := by rfl) :
    DE (X.suite a ((a, oe) :: pn)) (.Call (.Name "isinstance" p) [e, e2] [] pos) (dIsE2 X.K a C dd de d2) := by
  refine pe_w (pe_callB (X := X.suite a ((a, oe) :: pn)) (call_isXT (X := X) hz hd) hg hm hv (pa_cons he (pa_cons h2 pa_nil hs1) hs) (by decide) (by decide) hs hpl) fun σ H Q h => ?_
  obtain ⟨Z, F, M, ρ, QD, R, ⟨T, h⟩, o⟩ := h
  refine ⟨Z, F, M, ρ, _, R, h, fun v y F1 H1 M1 e1 R1 r1 h1 => ?_⟩
  obtain ⟨rfl, h1⟩ := h1
  cases r1
  refine ⟨Z, F1, M1, ρ, _, R.ext e1 R1, h1, fun v2 y2 F2 H2 M2 e3 R2 r2 h2 => ?_⟩
  obtain ⟨c1, c2, rfl, ⟨f, x, hx⟩, b, hb, q⟩ := h2
  cases r2 with
  | tup sq rr =>
    obtain ⟨ob, q1, w, rfl, rw⟩ := (R2.chg dd _ hx).2
    obtain ⟨v1, vs1, rfl, g1, rr⟩ := rr.uncons
    obtain ⟨v3, vs3, rfl, g3, rr⟩ := rr.uncons
    cases rr.unnil
    cases g1
    cases g3
    refine ⟨T, _, _, [.ref c1, .ref c2], b, _, rfl, ext_t R2.sub sq, fun ws hw => ?_, q1, hb, o _ _ F2 H2 M2 (e1.trans e3) R2 (.bl b) q⟩
    cases hw with
    | cons k1 k2 =>
      cases k2 with
      | cons k3 k4 =>
        cases k4
        cases k1
        cases k3
        rfl
end
end DL
/-! arguments, operands and items that may raise -/
namespace DL
open PySem PySem.Spec PyProof.Rows L2
abbrev XAt := XDt → TAD
def upAX (K : PySem.W.Frag) (W : WX) (d : XAt) : TA := fun σ H Q => ∃ Z F M ρ QD WD, Rel K Z F H M σ ρ ∧ d WD ρ M QD ∧ OkA K Z F Q QD ∧ OkW K Z F W WD
abbrev DAX (X : Cx) (W : WX) (es : List Expr) (d : XAt) : Prop := PA X es (upAX X.K W d)
section
variable {X : Cx} {W : WX} {e a b : Expr} {es : List Expr} {de : XDt → TED} {dr dA : XAt} {d0 : TAD} {pos p : Pos}
theorem dax_of (h : DA X es d0) : DAX X W es (fun _ => d0) := pa_w h fun σ H Q ⟨Z, F, M, ρ, QD, WD, R, h, o, _⟩ => ⟨Z, F, M, ρ, QD, R, h, o⟩
def xCons (de : XDt → TED) (dr : XAt) : XAt := fun WD ρ M Q => de WD ρ M fun x M1 => dr WD ρ M1 fun xs M2 => Q (x :: xs) M2
theorem dax_cons (ha : DEX X W e de) (hr : DAX X W es dr) (hs : starEach (e :: es) X.env = (false, eval e X.env) :: starEach es X.env := by rfl) : DAX X W (e :: es) (xCons de dr) := pa_w (pa_cons ha hr hs) fun σ H Q ⟨Z, F, M, ρ, QD, WD, R, h, o, ow⟩ =>
  ⟨Z, F, M, ρ, _, WD, R, h, fun x y F1 H1 M1 e1 R1 r1 h1 => ⟨Z, F1, M1, ρ, _, WD, R.ext e1 R1, h1, fun xs ys F2 H2 M2 e2 R2 r2 h2 => o _ _ F2 H2 M2 (e1.trans e2) R2 (.cons (r1.mono e2) r2) h2, ow.mono e1⟩, ow⟩
/-- f(..): the arguments may raise, and so may the call -/
def xCallX (sp : SpXD) (dA : XAt) : XDt → TED := fun WD ρ M Q => dA WD ρ M fun ds M1 => sp ds M1 Q fun C f x M' => WD C f x ρ M'
theorem dex_callX {x : Str} {k k2 : Nat} {st : Stmt} {ps : List Str} {sp : SpXD} (F : FnX X.prog X.w X.K X.mg X.base k x st ps sp) (hr : Room k2 X.A) (tk : Takes X W) (ha : DAX X W (e :: es) dA) (hk : k ≤ k2 := by decide) (hg : Gl X x := by rfl) (hdb : (x == ("__debug__" : Str)) = false := by decide)
    (he : starEach (e :: es) X.env = (false, eval e X.env) :: starEach es X.env := by rfl) (hpl : (backTo pos (starEach es X.env)).any (·.1) = false := by rfl) : DEX X W (.Call (.Name x p) (e :: es) [] pos) (xCallX sp dA) := by
  obtain ⟨f, fd, F, hm, hb, ok⟩ := F.ex
  refine pe_w (pe_callS ok (hr.mono hk) hg hm F.kp hb (fun σ => passAt tk σ) ha hdb he hpl) fun σ H Q ⟨Z, F, M, ρ, QD, WD, R, h, o, ow⟩ => ?_
  exact ⟨Z, F, M, ρ, _, WD, R, h, fun vs ds F1 H1 M1 e1 R1 r1 h1 => ⟨Z, F1, M1, ds, QD, _, R1, r1, h1, o.mono e1, fun C dd f x F' H' M' e' R' n q => ow C dd f x σ ρ F' H' M' (e1.trans e') R' n (R.e.mono (e1.trans e')) q⟩, ow⟩
/-- a op b, both of which may raise -/
def xOp (r : R2D) (da db : XDt → TED) : XDt → TED := fun WD ρ M Q => da WD ρ M fun x M1 => db WD ρ M1 fun y M2 => r x y M2 Q
theorem dex_op {op : Operator} {d : R2D} {da db : XDt → TED} (ho : OpD X (binaryOp op) d) (ha : DEX X W a da) (hb : DEX X W b db) : DEX X W (.BinOp a op b pos) (xOp d da db) := by
  obtain ⟨r, hr, hs⟩ := ho
  exact pe_w (pe_op hr ha hb) fun σ H Q ⟨Z, F, M, ρ, QD, WD, R, h, o, ow⟩ =>
    ⟨Z, F, M, ρ, _, WD, R, h, fun x u F1 H1 M1 e1 R1 r1 h1 => ⟨Z, F1, M1, ρ, _, WD, R.ext e1 R1, h1, fun y v F2 H2 M2 e2 R2 r2 h2 => hs Z F2 H2 M2 x y u v Q QD R2 (r1.mono e2) r2 h2 (o.mono (e1.trans e2)), ow.mono e1⟩, ow⟩
end
end DL
/-! a list comprehension whose block is told of the state at its start; in it, calls of closures of the block's own def -/
namespace DL
open PySem PySem.Spec PyProof.Rows L2
/-- in a comprehension's block, ahead of turn i -/
structure BlkAt (B : Cx) (fp : List Addr) (tn : Nat → Heap → Prop) (σ : L2.St) (i : Nat) (H : Hp) (s : Shared) : Prop where
  inv : L2.Inv B [] σ H s
  itr : tn i s.heap
  no : ∀ b ∈ fp, H b = none
section
variable {B : Cx} {fp : List Addr} {tn : Nat → Heap → Prop} {σ : L2.St} {i : Nat} {H : Hp} {s : Shared}
theorem inv_fp (I : L2.Inv B [] σ H s) (n : ∀ b ∈ fp, H b = none) (e1 : B.ex = fp) (e2 : B.pn = []) : ∀ b ∈ fp, FpOk B [] H b := by
  subst e1
  intro b hb
  obtain ⟨x1, x2⟩ := I.ok.exf b hb
  refine ⟨n b hb, x1, I.ok.exfs b hb, Or.inl hb, x2, fun p hp => ?_⟩
  rw [e2] at hp
  cases hp
theorem blk_turn {tg elt : Expr} {g : TG} {te : TE} {J : It} {it D : Addr} {vs : List Nat} {Nx : Hp → Prop} (T : Turn B.prog B.w B.K tg J fp it tn) (hc : B.calm = true) (e1 : B.ex = fp) (e2 : B.pn = []) (pg : PG B tg g) (pe : PE B elt te) (hx : B.xe = fun _ _ => False)
    (W : BlkAt B fp tn (wipe σ vs) i H s) (go : J.go i H) (step : ∀ x H1, J.yld i H x H1 → g x (wipe σ vs) H1 fun σ2 H2 => wipe σ2 vs = wipe σ vs ∧ te σ2 H2 fun y H3 => ∃ acc, H3 D = some (.lst acc) ∧ acc.length < sizeLine ∧ Nx (upd H3 D (.lst (acc ++ [y])))) :
    wpAny (model B.prog B.w) B.A (pyNext (.ref it)) (fun r s1 => ∃ u, r = some u ∧ wpAny (model B.prog B.w) B.A (letOwnedTupleGo tg (.ref it) u) (fun _ s2 => wpAny (model B.prog B.w) B.A (assign tg B.env u) (fun _ s3 => wpAny (model B.prog B.w) B.A (eval elt B.env) (fun z s4 =>
      wpAny (model B.prog B.w) B.A (call (.builtin "list.append") [.ref D, z]) (fun _ s5 => ∃ H5, Nx H5 ∧ BlkAt B fp tn (wipe σ vs) (i + 1) H5 s5) (fun _ _ => False) s4) (fun _ _ => False) s3) (fun _ _ => False) s2) (fun _ _ => False) s1) (fun _ _ => False) s := by
  have first := T.item B rfl rfl rfl hc i [] s _ H (fun _ _ => False) W.inv (inv_fp W.inv W.no e1 e2) W.itr go
  refine wpAny_mono first ?_ fun _ _ z => z
  rintro r s1 ⟨u, rfl, more⟩
  refine ⟨u, rfl, wpAny_mono more ?_ fun _ _ z => z⟩
  rintro _ s2 ⟨x, H1, I1, rx, y, t1, n1⟩
  have P1 := I1.pinned (inv_fp I1 n1 e1 e2) (T.obj _ _ t1)
  have st := pg.run _ s2 _ H1 x u _ P1 rx (step x H1 y)
  rw [hx] at st
  refine wpAny_mono st ?_ fun _ _ z => z
  rintro _ s3 ⟨σ2, H2, I2, same, q2⟩
  have ev := pe.run _ s3 σ2 H2 _ I2 q2
  rw [hx] at ev
  refine wpAny_mono ev ?_ fun _ _ z => z
  rintro z s4 ⟨v, H3, I3, rv, acc, hD, hz, nx⟩
  refine app_ok I3 hD hz rv fun s5 I5 => ⟨_, nx, ?_⟩
  have kept : ∀ b ∈ fp, ∀ o, s2.heap.get? b = some o → s5.heap.get? b = some o ∧ upd H3 D (.lst (acc ++ [v])) b = none := fun b hb o e => by
    have w := I5.pin (b, o) (List.mem_append_right _ (List.mem_append_right _ (mem_pinsAt hb e)))
    exact ⟨w.1, w.2.1⟩
  constructor
  · refine (I5.unpinned (pins := [])).weak ?_ ?_
    · rw [← same, wipe_length]
    · intro j v2 e
      rw [← same] at e
      exact (wipe_some e).1
  · exact T.keep _ _ _ t1 fun b hb o e => (kept b hb o e).1
  · intro b hb
    obtain ⟨o, e, _⟩ := T.obj _ _ t1 b hb
    exact (kept b hb o e).2
end
section
variable {X : Cx} {pins : List (Addr × Obj)} {s : Shared} {σ : L2.St} {H : Hp}
/-- the block's promise may rest on the state at its start -/
theorem lc_start {Q : VK} {elt tg iter : Expr} {scope : Scope} {own : List (Str × Nat)} {pos pos' : Pos} {wi : TI} {g : TG} {te : TE} {use : Option (Value → Sem Unit)} {Qf : Value → Shared → Prop} (hc : X.calm = true) (hN : X.N.Nodup) (I : L2.Inv X pins σ H s) (hi : PI X tg iter wi)
    (ok : BlkOk X.N X.env.scope scope own) (hg : ∀ (s : Shared) (H : Hp) (C : Addr) (cl : List (Str × Addr)) (fp : List Addr), PG (X.blk s H scope (compEnvC scope cl C X.env) fp) tg g)
    (he : ∀ (s : Shared) (H : Hp) (C : Addr) (cl : List (Str × Addr)) (fp : List Addr), L2.Inv X pins σ H s → (∀ b ∈ fp, FpOk X pins H b) → PE (X.blk s H scope (compEnvC scope cl C X.env) fp) elt te) (hs : ∀ x, foldedSetIterable iter X.env x = pure x) (h : tLc wi g tYes te (own.map (·.2)) σ H Q)
    (last : ∀ D C s' m H', L2.Inv X pins σ H' s' → Q (.ref D) H' → s'.heap.Ns C m → FpOk X pins H' C → compPost (model X.prog X.w) X.A X.xe use Qf (.ref D) C (.ok .next) s') :
    wpAny (model X.prog X.w) X.A (comprehension (.ListComp elt [⟨tg, iter, [], 0⟩] scope pos) scope X.env pos' (newList []) false (eval iter X.env) use) Qf X.xe s := by
  have free : ∀ y ∈ scope.names, y.2 = .free → ∃ c, X.env.cells.lookup y.1 = some c := fun y hy e => (ok.free y hy e).elim (fun k => I.ok.has _ (.inl k)) (fun k => I.ok.has _ (.inr k))
  apply wpAny_comprehension_free (use := use) rfl hs (closure_ok free) ok.kind (fun y hy e => (ok.uniq y hy).trans (congrArg some e))
  refine thn (hi.run pins s σ H _ I h) fun _ s1 got => thn got ?_
  rintro itv s2 ⟨it, fp, tn, J, H2, rfl, I2, T, t2, f2, q⟩
  apply wpAny_newObj_type (T := "list")
  · apply newEnv_comp
    obtain ⟨D, hD⟩ : ∃ D, s2.heap.objs.size = D := ⟨_, rfl⟩
    have nD : H2 D = none := I2.hok.fresh (Nat.le_of_eq hD)
    obtain ⟨W, ⟨m0, w0⟩, turn⟩ := q D nD
    have old : ∀ b o, s2.heap.get? b = some o → (s2.heap.push { cls := .type "list", data := .seq ([] : List Value).toArray }).get? b = some o := fun b o e => Heap.get?_push_of_some _ e
    have I3 : L2.Inv X pins σ (upd H2 D (.lst [])) { s2 with heap := s2.heap.push { cls := .type "list", data := .seq ([] : List Value).toArray } } :=
      I2.laid (t' := s2.toks) old (Nat.le_of_eq hD) ⟨Nat.zero_le _, [], 0, .nil, hD ▸ Heap.get?_push_size _ rfl⟩
    obtain ⟨s3, e3⟩ : ∃ s3 : Shared, s3 = { s2 with heap := s2.heap.push { cls := .type "list", data := .seq ([] : List Value).toArray } } := ⟨_, rfl⟩
    rw [← e3] at I3
    have old3 : ∀ b o, s2.heap.get? b = some o → s3.heap.get? b = some o := fun b o e => by
      rw [e3]
      exact old b o e
    have size3 : s2.heap.objs.size ≤ s3.heap.objs.size := by
      rw [e3]
      show _ ≤ (s2.heap.push _).objs.size
      rw [Heap.size_push]
      exact Nat.le_succ _
    have f3 : ∀ b ∈ fp, FpOk X pins (upd H2 D (.lst [])) b ∧ b < s3.heap.objs.size := fun b hb => by
      obtain ⟨o, e, _⟩ := T.obj _ _ t2 b hb
      have lt := Heap.lt_size e
      obtain ⟨y0, y1⟩ := f2 b hb
      refine ⟨⟨?_, y1⟩, Nat.lt_of_lt_of_le lt size3⟩
      rw [upd_ne (fun z => Nat.ne_of_lt lt (z.trans hD.symm))]
      exact y0
    have B0 := block_start I3 ok hN f3
    have pg := hg s3 (upd H2 D (.lst [])) s3.heap.objs.size (cellsFrom (s3.heap.objs.size + 1) scope.names (cloFrom X.env.cells scope.names [])) fp
    have pe := he s3 (upd H2 D (.lst [])) s3.heap.objs.size (cellsFrom (s3.heap.objs.size + 1) scope.names (cloFrom X.env.cells scope.names [])) fp I3 fun b hb => (f3 b hb).1
    have keep4 : ∀ b o, s3.heap.get? b = some o → (pushCells (s3.heap.push { cls := .type "dict", data := .dict #[] }) scope.names).get? b = some o := fun b o e => pushCells_keeps _ _ _ _ (Heap.get?_push_of_some _ e)
    have t4 : tn 0 (pushCells (s3.heap.push { cls := .type "dict", data := .dict #[] }) scope.names) := T.keep _ _ _ t2 fun b _ o e => keep4 b o (old3 b o e)
    have start : BlkAt (X.blk s3 (upd H2 D (.lst [])) scope (compEnvC scope (cellsFrom (s3.heap.objs.size + 1) scope.names (cloFrom X.env.cells scope.names [])) s3.heap.objs.size X.env) fp) fp tn (wipe σ (own.map (·.2))) 0 (upd H2 D (.lst [])) { s3 with heap := pushCells (s3.heap.push { cls := .type "dict", data := .dict #[] }) scope.names } :=
      ⟨B0, t4, fun b hb => (f3 b hb).1.1⟩
    have all : codeAny (model X.prog X.w) X.A (.compLoop (.ListComp elt [⟨tg, iter, [], 0⟩] scope pos) 0 (.ref it) (.ref D) (compEnvC scope (cellsFrom (s3.heap.objs.size + 1) scope.names (cloFrom X.env.cells scope.names [])) s3.heap.objs.size X.env)) (compPost (model X.prog X.w) X.A X.xe use Qf (.ref D) s3.heap.objs.size) { s3 with heap := pushCells (s3.heap.push { cls := .type "dict", data := .dict #[] }) scope.names } := by
      generalize hB : X.blk s3 (upd H2 D (.lst [])) scope (compEnvC scope (cellsFrom (s3.heap.objs.size + 1) scope.names (cloFrom X.env.cells scope.names [])) s3.heap.objs.size X.env) fp = B at start pg pe
      have b1 : B.prog = X.prog := by rw [← hB]
      have b2 : B.w = X.w := by rw [← hB]
      have b3 : B.K = X.K := by rw [← hB]
      have b4 : B.A = X.A := by rw [← hB]
      have b5 : B.env = compEnvC scope (cellsFrom (s3.heap.objs.size + 1) scope.names (cloFrom X.env.cells scope.names [])) s3.heap.objs.size X.env := by rw [← hB]
      have b6 : B.calm = true := by rw [← hB]; exact hc
      have b7 : B.ex = fp := by rw [← hB]
      have b8 : B.pn = [] := by rw [← hB]
      have b9 : B.xe = fun _ _ => False := by rw [← hB]
      have TB : Turn B.prog B.w B.K tg J fp it tn := by
        rw [b1, b2, b3]
        exact T
      refine compLoop_any (fun n s' => ∃ i H', BlkAt B fp tn (wipe σ (own.map (·.2))) i H' s' ∧ W i n H') ?_ m0 ⟨0, _, start, w0⟩
      rintro n s5 ⟨i, H5, W5, w5⟩
      rcases turn i n H5 w5 with ⟨stop, good⟩ | ⟨go, Nx, less, step⟩
      · have over := TB.done B rfl rfl rfl b6 i [] s5 _ H5 (fun _ _ => False) W5.inv (inv_fp W5.inv W5.no b7 b8) W5.itr stop
        rw [b1, b2, b4] at over
        refine wpAny_mono over ?_ fun _ _ z => z.elim
        rintro r s6 ⟨rfl, I6⟩
        subst hB
        have back : L2.Inv X pins σ H5 s6 := I3.call' (ch := fp) I6.os I6.base I6.hok I6.bare fun b hb => by
          obtain ⟨_, y2, _, y4, y5, y6⟩ := (f3 b hb).1
          exact ⟨y4, y2, y5, y6⟩
        obtain ⟨m, hm, _⟩ := I6.loc
        exact last D s3.heap.objs.size s6 m H5 back good hm (I3.fpOk (Nat.le_refl _) I6.free)
      · have one := blk_turn (D := D) TB b6 b7 b8 pg pe b9 W5 go (fun x H1 y => by
          obtain ⟨z⟩ : True := True.intro
          exact step x H1 y)
        rw [b1, b2, b4, b5] at one
        refine wpAny_mono one ?_ fun _ _ z => z.elim
        rintro r s6 ⟨u, rfl, h6⟩
        refine wpAny_mono h6 ?_ fun _ _ z => z.elim
        rintro _ s7 h7
        refine wpAny_mono h7 ?_ fun _ _ z => z.elim
        rintro _ s8 h8
        apply wpAny_tests_nil
        rw [if_pos rfl]
        refine wpAny_mono h8 ?_ fun _ _ z => z.elim
        rintro z s9 h9
        refine wpAny_mono h9 ?_ fun _ _ z => z.elim
        rintro _ s10 ⟨H6, nx, J6⟩
        obtain ⟨m', hm, w'⟩ := less H6 nx
        exact ⟨m', hm, _, _, J6, w'⟩
    subst e3 hD
    exact codeAny_compStart_list all (T.self X.A 0 _ _ _ t4 all)
end
section
variable {X : Cx} {pins pins' : List (Addr × Obj)} {s s' : Shared} {σ σ' : L2.St} {H H' : Hp} {scope : Scope} {cenv : Env} {fp : List Addr}
theorem cell_low (I : L2.Inv X pins σ H s) (hfn : ∀ y, X.fn y = true) {y : Str} {c : Addr} (hy : X.env.cells.lookup y = some c) : c ∉ frs X.stack ∧ ∀ o, X.base.get? c ≠ some o := by
  have low := I.ok.cab y c (hfn y) hy
  refine ⟨fun z => ?_, fun o e => absurd (Heap.lt_size e) (Nat.not_lt.mpr (Nat.le_trans I.ok.bsz low))⟩
  rcases List.mem_cons.mp (I.stkSub c z) with q | q
  · exact I.cne y c hy q
  · obtain ⟨_, o, e, _⟩ := I.ok.funs.mem q
    exact absurd (Heap.lt_size e) (Nat.not_lt.mpr low)
theorem blk_cell (I : L2.Inv X pins σ H s) (hfn : ∀ y, X.fn y = true) (f : ∀ b ∈ fp, FpOk X pins H b) (J : L2.Inv (X.blk s H scope cenv fp) pins' σ' H' s') {y : Str} {c : Addr} {o : Obj} (hy : X.env.cells.lookup y = some c) (ho : s.heap.get? c = some o) : s'.heap.get? c = some o ∧ H' c = none := by
  have n := I.freeC y c hy
  have x : c ∉ fp := fun z => (f c z).2.2.2.2.1 y c hy rfl
  exact ⟨J.base.keep c o ho n (cell_low I hfn hy).1 x, J.base.free c o ho n x⟩
/-- what stands in a block, over a frozen part that is known -/
def upE (K : PySem.W.Frag) (F0 : Hp) (d : TED) : TE := fun σ H Q => ∃ Z F M ρ QD, Ext F0 F ∧ Rel K Z F H M σ ρ ∧ d ρ M QD ∧ OkV K Z F Q QD
def dCallB (K : PySem.W.Frag) (as : List Addr) (cs : List Dat) (sp : SpD) (dA : TAD) : TED := fun ρ M Q => dA ρ M fun ds M1 => ∀ ts : List Tc, ts.map (·.1) = as → ts.map (·.2.2) = cs → (∀ t ∈ ts, M1 t.1 = none) → (ts.map (·.1)).Nodup → sp ds (shwM K M1 ts) fun d M2 => CelsM K M2 ts ∧ Q d (hidM M2 ts)
theorem pe_callB {k k2 : Nat} {x : Str} {st : Stmt} {ps : List Str} {sp : SpD} {e : Expr} {es : List Expr} {p pos : Pos} {dA : TAD} {F0 : Hp} {as : List Addr} {cs : List Dat} {ts : List Tc} (I : L2.Inv X pins σ H s) (hfn : ∀ y, X.fn y = true) (f : ∀ b ∈ fp, FpOk X pins H b) (F : FnD X.prog X.w X.K X.mg X.base k x st ps sp)
    (hr : Room k2 X.A) (ha : DA (X.blk s H scope cenv fp) (e :: es) dA) (told : ∀ t ∈ ts, s.heap.get? t.1 = some t.2.1 ∧ (∃ v u, t.2.1.data = .cell (some u) ∧ RelV v u ∧ Rep X.K F0 v t.2.2) ∧ ∃ y, X.env.cells.lookup y = some t.1) (t1 : ts.map (·.1) = as) (t2 : ts.map (·.2.2) = cs) (nd : (ts.map (·.1)).Nodup) (hk : k ≤ k2 := by decide)
    (hg : Gl (X.blk s H scope cenv fp) x := by rfl) (hdb : (x == ("__debug__" : Str)) = false := by decide) (he : starEach (e :: es) cenv = (false, eval e cenv) :: starEach es cenv := by rfl) (hpl : (backTo pos (starEach es cenv)).any (·.1) = false := by rfl) :
    PE (X.blk s H scope cenv fp) (.Call (.Name x p) (e :: es) [] pos) (upE X.K F0 (dCallB X.K as cs sp dA)) := by
  obtain ⟨fa, fd, F, hm, hb, ok⟩ := F.ex
  refine ⟨fun pn s0 σ0 H0 Q I0 ⟨Z, F1, M, ρ, QD, e1, R, h, o⟩ => wpAny_Call_Name_kw (ld_glob I0 hg hm ?_ hdb)⟩
  refine PySem.W.callWith_K (h₀ := X.base) I0.ok.mod.kin F.kp (thn (ha.run pos pn s0 σ0 H0 (fun vs H2 => ∃ ds F2 M2, Ext F1 F2 ∧ RelM X.K Z F2 H2 M2 ∧ Reps X.K F2 vs ds ∧ ∀ ts : List Tc, ts.map (·.1) = as → ts.map (·.2.2) = cs → (∀ t ∈ ts, M2 t.1 = none) → (ts.map (·.1)).Nodup → sp ds (shwM X.K M2 ts) fun d M3 => CelsM X.K M3 ts ∧ QD d (hidM M3 ts)) I0 ⟨Z, F1, M, ρ, _, R, h, fun vs ds F2 H2 M2 e2 R2 rr h2 => ⟨ds, F2, M2, e2, R2, rr, h2⟩⟩) fun us s1 hq => ⟨?_, ?_⟩) he hpl
  · obtain ⟨vs, H1, I1, _⟩ := hq
    exact I1.kIn
  obtain ⟨vs, H1, I1, rv, ds, F2, M1, e2, R1, rr, hsq⟩ := hq
  have now : ∀ t ∈ ts, s1.heap.get? t.1 = some t.2.1 ∧ H1 t.1 = none := fun t ht => by
    obtain ⟨q1, _, y, hy⟩ := told t ht
    exact blk_cell I hfn f I1 hy q1
  have nH : ∀ t ∈ ts, H1 t.1 = none := fun t ht => (now t ht).2
  have g1 : ∀ t ∈ ts, s1.heap.get? t.1 = some t.2.1 := fun t ht => (now t ht).1
  have hsp := hsq ts t1 t2 (fun t ht => (R1.fresh (nH t ht)).2) nd
  have cel : ∀ t ∈ ts, ∃ v u, t.2.1.data = .cell (some u) ∧ RelV v u ∧ Rep X.K F2 v t.2.2 := fun t ht => by
    obtain ⟨_, ⟨v, u, q1, q2, q3⟩, _⟩ := told t ht
    exact ⟨v, u, q1, q2, q3.mono (e1.trans e2)⟩
  have far : ∀ b, (b ∈ frs X.stack ∨ ∃ o, X.base.get? b = some o) → fndC ts b = none := fun b hb => fndC_none fun t ht z => by
    obtain ⟨_, _, y, hy⟩ := told t ht
    have w := cell_low I hfn hy
    rcases hb with q | ⟨o, q⟩
    · exact w.1 (z ▸ q)
    · exact w.2 o (z ▸ q)
  have e0 := I1.env0
  have e0' : Env0 X.prog X.w X.K X.mg X.base X.A X.stack s1 (shwH H1 ts) :=
    ⟨e0.frames, e0.mod, fun b o z => ⟨(e0.bs b o z).1, (shwH_no (far b (.inr ⟨o, z⟩))).trans (e0.bs b o z).2⟩, e0.bsz, e0.funs, fun b hbf => (shwH_no (far b (.inl hbf))).trans (e0.frf b hbf), hok_shw e0.hok nH g1, e0.bare⟩
  have hl : us.length = ps.length := by
    rw [← rv.length]
    exact ok.len _ _ (fun _ _ => True) E0 ⟨Z, F2, _, ds, _, relM_shw R1 nH cel, rr, hsp, fun _ _ _ _ _ _ _ _ _ => True.intro⟩
  have hb1 := hb s1 us I1.kIn (by rw [List.append_nil]; exact hl)
  rw [List.append_nil] at hb1
  refine wpAny_call (codeAny_mono (ok.run X.A X.stack s1 (shwH H1 ts) ⟨us, []⟩ us vs (fun v H2 => ∃ d F3 M2, Ext F2 F3 ∧ RelM X.K Z F3 H2 M2 ∧ Rep X.K F3 v d ∧ CelsM X.K M2 ts ∧ QD d (hidM M2 ts)) E0 (hr.mono hk) e0' hb1 rv ⟨Z, F2, _, ds, _, relM_shw R1 nH cel, rr, hsp, fun v d F3 H2 M2 e3 R2 rd q => ⟨d, F3, M2, e3, R2, rd, q.1, q.2⟩⟩) fun r s2 hc => ?_)
  cases r with
  | error _ => exact (show False from hc).elim
  | ok fl =>
    cases fl with
    | ret u =>
      obtain ⟨v, H2, os, bare, un, hok, rv2, d, F3, M2, e3, R2, rd, C2, q⟩ := hc
      have CH := C2.heap R2
      have g2 : ∀ t ∈ ts, s2.heap.get? t.1 = some t.2.1 := fun t ht => (hok _ _ (CH t ht)).1
      exact I1.after ⟨v, hidH H2 ts, os, bare, un_hid un nH g1 g2, hok_hid hok CH, rv2, o v d F3 _ _ (e2.trans e3) (relM_hid R2 C2) rd q⟩
    | next => exact False.elim hc
    | brk => exact False.elim hc
    | cont => exact False.elim hc
end
theorem tell_cellsE {X : Cx} {pins : List (Addr × Obj)} {σ : L2.St} {H F : Hp} {ρ : EnvD} {s : Shared} (I : L2.Inv X pins σ H s) (R : RelE X.K F σ ρ) : ∀ {ys : List Str} {js : List Nat} {cs : List Dat}, CapD X ys js → atDs ρ js = some cs →
    ∃ ts : List Tc, ts.map (·.1) = ys.map (cadr X.env.cells) ∧ ts.map (·.2.2) = cs ∧ ∀ t ∈ ts, s.heap.get? t.1 = some t.2.1 ∧ (∃ v u, t.2.1.data = .cell (some u) ∧ RelV v u ∧ Rep X.K F v t.2.2) ∧ ∃ y, X.env.cells.lookup y = some t.1
  | [], [], cs, _, hd => by
    cases hd
    exact ⟨[], rfl, rfl, fun t ht => by cases ht⟩
  | y :: ys, [], cs, hc, _ => by cases hc.1
  | [], j :: js, cs, hc, _ => by cases hc.1
  | y :: ys, j :: js, cs, hc, hd => by
    obtain ⟨h1, h2⟩ := List.cons.inj hc.1
    unfold atDs at hd
    split at hd
    · rename_i d ds e1 e2
      cases hd
      obtain ⟨ts, g1, g2, g3⟩ := tell_cellsE I R (ys := ys) (js := js) ⟨h2, fun z hz => hc.2 z (List.mem_cons_of_mem _ hz)⟩ e2
      obtain ⟨v, hv, rv⟩ := R.at_ j d (atD_get e1)
      obtain ⟨m, _, hl⟩ := I.loc
      have hy := hc.2 y (List.mem_cons_self ..)
      obtain ⟨u, ru, lk⟩ := hl j y v h1 hv (.inr (.inl hy))
      rcases lk with ⟨k, _⟩ | ⟨_, c, hcl, o, ho, hod⟩
      · have k : X.env.scope.names.lookup y = some .local := k
        rw [hy] at k
        cases k
      · refine ⟨(c, o, d) :: ts, ?_, congrArg (List.cons d) g2, fun t ht => ?_⟩
        · rw [List.map_cons, List.map_cons, g1]
          congr 1
          unfold cadr
          rw [hcl] <;> rfl
        · rcases List.mem_cons.mp ht with rfl | ht
          · exact ⟨ho, ⟨v, u, hod, ru, rv⟩, y, hcl⟩
          · exact g3 t ht
    · cases hd
def dLcE (mk : Bool) (K : PySem.W.Frag) (ys : List Str) (js : List Nat) (cells : List (Str × Addr)) (vs : List Nat) (di : TID) (g : TGD) (sp : SpD) (dA : TAD) : TED := fun ρ M Q => ∃ cs, atDs ρ js = some cs ∧ dLc mk vs di g dYes (dCallB K (ys.map (cadr cells)) cs sp dA) ρ M Q
theorem up_lcE {K : PySem.W.Frag} {mk : Bool} {vs : List Nat} {di : TID} {g : TGD} {te : TED} {σ : L2.St} {H Z F : Hp} {M : MH} {ρ : EnvD} {QD : VKD} {Q : VK} (R : Rel K Z F H M σ ρ) (h : dLc mk vs di g dYes te ρ M QD) (o : OkV K Z F Q QD) : tLc (upI K di) (upGo K vs g) tYes (upE K F te) vs σ H Q := by
  refine ⟨Z, F, M, ρ, _, R, h, fun ds J F1 H1 M1 e1 R1 w1 h1 => ?_⟩
  obtain ⟨hz, h1⟩ := h1
  intro D hD
  have hidD : ∀ {F : Hp} {H : Hp} {M : MH} {accv : List V}, RelM K (upd Z D (.lst accv)) F H M → H D = some (.lst accv) ∧ F D = none ∧ M D = none := fun R => R.hid D _ upd_same
  -- the hidden list, put away and taken up
  have hide : ∀ {F H : Hp} {M : MH} {accv : List V}, RelM K Z F H M → H D = some (.lst accv) → F D = none → M D = none → RelM K (upd Z D (.lst accv)) F H M := fun {F H M accv} R hH hF hM =>
    ⟨R.sub, fun b u q => by
      by_cases hb : b = D
      · subst hb
        rw [upd_same] at q
        cases q
        exact ⟨hH, hF, hM⟩
      · rw [upd_ne hb] at q
        exact R.hid b u q, R.chg⟩
  have hZD : Z D = none := by
    cases q : Z D with
    | none => rfl
    | some u =>
      rw [(R1.hid D u q).1] at hD
      cases hD
  have bare : ∀ {F H : Hp} {M : MH} {accv : List V}, RelM K (upd Z D (.lst accv)) F H M → RelM K Z F H M := fun {F H M accv} R =>
    ⟨R.sub, fun b u q => R.hid b u (by rw [upd_ne (ne_of_none q hZD)]; exact q), R.chg⟩
  refine ⟨fun i m H => m = ds.length - i ∧ i ≤ ds.length ∧ ∃ F' M accv acc, Ext F1 F' ∧ RelM K Z F' H M ∧ H D = some (.lst accv) ∧ F' D = none ∧ M D = none ∧ Reps K F' accv acc ∧ acc.length ≤ i ∧ lcGo g dYes te (wipeD ρ vs) mk QD (ds.drop i) acc M,
    ⟨ds.length, by simp, Nat.zero_le _, F1, M1, [], [], Ext.refl _, ⟨fun b u q => ?_, fun b u q => ?_, fun b m q => ?_⟩, upd_same, (R1.fresh hD).1, (R1.fresh hD).2, .nil, Nat.le_refl _, h1⟩, ?_⟩
  · rw [upd_ne (ne_of_none (R1.sub b u q) hD)]
    exact R1.sub b u q
  · obtain ⟨q1, q2, q3⟩ := R1.hid b u q
    exact ⟨by rw [upd_ne (ne_of_none q1 hD)]; exact q1, q2, q3⟩
  · obtain ⟨q1, q2⟩ := R1.chg b m q
    exact ⟨q1, q2.mono (Ext.refl _) (upd_ne (R1.ne hD q))⟩
  rintro i m H2 ⟨rfl, hi, F2, M2, accv, acc, e2, R2, a1, a2, a3, a4, a5, h2⟩
  by_cases hlt : i < ds.length
  · obtain ⟨d, hd⟩ : ∃ d, ds[i]? = some d := ⟨ds[i], List.getElem?_eq_getElem hlt⟩
    have hdr : ds.drop i = d :: ds.drop (i + 1) := by
      obtain ⟨h5, h6⟩ := List.getElem?_eq_some_iff.mp hd
      rw [List.drop_eq_getElem_cons h5, h6]
    rw [hdr] at h2
    unfold lcGo at h2
    refine .inr ⟨w1.go Z i F2 H2 M2 e2 R2 hlt, fun H' => ∃ F' M accv acc, Ext F1 F' ∧ RelM K Z F' H' M ∧ H' D = some (.lst accv) ∧ F' D = none ∧ M D = none ∧ Reps K F' accv acc ∧ acc.length ≤ i + 1 ∧ lcGo g dYes te (wipeD ρ vs) mk QD (ds.drop (i + 1)) acc M,
      fun H' n => ⟨ds.length - (i + 1), by omega, rfl, hlt, n⟩, fun x H' y => ?_⟩
    have R2h := hide R2 a1 a2 a3
    · obtain ⟨F3, e3, R3, r3⟩ := w1.yld (upd Z D (.lst accv)) i F2 H2 M2 x H' d e2 R2h y hd
      have R0 : Rel K (upd Z D (.lst accv)) F3 H' M2 (wipe σ vs) (wipeD ρ vs) := ⟨R3, (wipeD_rep R.e vs).mono ((e1.trans e2).trans e3)⟩
      refine ⟨upd Z D (.lst accv), F3, M2, wipeD ρ vs, d, _, R0, r3, h2, fun σ4 ρ4 F4 H4 M4 e4 R4 wp h4 => ⟨wp.trans wipe_wipe, ?_⟩⟩
      have e14 := ((e1.trans e2).trans e3).trans e4
      have h4 := (show (if true = true then te ρ4 M4 fun y M4 => lcGo g dYes te (wipeD ρ vs) mk QD (ds.drop (i + 1)) (acc ++ [y]) M4 else lcGo g dYes te (wipeD ρ vs) mk QD (ds.drop (i + 1)) acc M4) from h4)
      rw [if_pos rfl] at h4
      unfold tYes
      dsimp only
      rw [if_pos rfl]
      refine ⟨upd Z D (.lst accv), F4, M4, ρ4, _, e14, R4, h4, fun yv yd F6 H6 M6 e6 R6 r6 h6 => ?_⟩
      obtain ⟨b1, b2, b3⟩ := hidD R6
      refine ⟨accv, b1, by have := a4.length; omega, F6, M6, accv ++ [yv], acc ++ [yd], ((e2.trans e3).trans e4).trans e6, ⟨fun b u q => ?_, fun b u q => ?_, fun b m q => ?_⟩, upd_same, b2, b3, (a4.mono ((e3.trans e4).trans e6)).app (.one r6), by rw [List.length_append, List.length_singleton]; omega, h6⟩
      · rw [upd_ne (ne_of_none q b2)]
        exact R6.sub b u q
      · obtain ⟨q1, q2, q3⟩ := (bare R6).hid b u q
        exact ⟨by rw [upd_ne (ne_of_none q hZD)]; exact q1, q2, q3⟩
      · obtain ⟨q1, q2⟩ := R6.chg b m q
        exact ⟨q1, q2.mono (Ext.refl _) (upd_ne (ne_dom q b3))⟩
  · have e : i = ds.length := by omega
    subst e
    rw [List.drop_length] at h2
    unfold lcGo at h2
    refine .inl ⟨w1.stop Z F2 H2 M2 e2 R2, ?_⟩
    cases mk with
    | false =>
      have h2' : QD (.lst acc) M2 := h2
      have ee := Ext.new (o := .lst accv) a2
      refine o _ _ (upd F2 D (.lst accv)) H2 M2 ((e1.trans e2).trans ee) ⟨fun b u q => ?_, fun b u q => ?_, fun b m q => ?_⟩ (.lst upd_same (a4.mono ee)) h2'
      · by_cases hb : b = D
        · subst hb
          rw [upd_same] at q
          cases q
          exact a1
        · rw [upd_ne hb] at q
          exact R2.sub b u q
      · obtain ⟨q1, q2, q3⟩ := R2.hid b u q
        exact ⟨q1, by rw [upd_ne (ne_of_none q hZD)]; exact q2, q3⟩
      · obtain ⟨q1, q2⟩ := R2.chg b m q
        exact ⟨by rw [upd_ne (ne_dom q a3)]; exact q1, q2.mono ee rfl⟩
    | true =>
      have h2' := (show ∀ a, M2 a = none → QD (.ref a) (updM M2 a (.lst acc)) from h2) D a3
      refine o _ _ F2 H2 (updM M2 D (.lst acc)) (e1.trans e2) ⟨R2.sub, fun b u q => ?_, fun b m q => ?_⟩ (.ref D) h2'
      · obtain ⟨q1, q2, q3⟩ := R2.hid b u q
        exact ⟨q1, q2, by rw [updM_ne (ne_of_none q hZD)]; exact q3⟩
      · by_cases hb : b = D
        · subst hb
          rw [updM_same] at q
          cases q
          exact ⟨a2, accv, a1, a4⟩
        · rw [updM_ne hb] at q
          exact R2.chg b m q
theorem de_lcE (mk : Bool) (ys : List Str) (js : List Nat) {X : Cx} {k k2 : Nat} {x : Str} {st : Stmt} {ps : List Str} {sp : SpD} {e : Expr} {es : List Expr} {p pos pos' : Pos} {dA : TAD} {tg iter : Expr} {scope : Scope} {own : List (Str × Nat)} {di : TID} {g : TGD} (F : FnD X.prog X.w X.K X.mg X.base k x st ps sp) (hr : Room k2 X.A) (hN : X.N.Nodup) (hi : DI X tg iter di) (ok : BlkOk X.N X.env.scope scope own)
    (hg : ∀ (s : Shared) (H : Hp) (C : Addr) (cl : List (Str × Addr)) (fp : List Addr), DGo (X.blk s H scope (compEnvC scope cl C X.env) fp) tg (own.map (·.2)) g) (ha : ∀ (s : Shared) (H : Hp) (C : Addr) (cl : List (Str × Addr)) (fp : List Addr), DA (X.blk s H scope (compEnvC scope cl C X.env) fp) (e :: es) dA)
    (cap : CapD X ys js) (hys : ys.Nodup) (hfn : ∀ y, X.fn y = true) (hk : k ≤ k2 := by decide)
    (hgl : ∀ (s : Shared) (H : Hp) (C : Addr) (cl : List (Str × Addr)) (fp : List Addr), Gl (X.blk s H scope (compEnvC scope cl C X.env) fp) x := by intro _ _ _ _ _; rfl) (hdb : (x == ("__debug__" : Str)) = false := by decide) (he : ∀ cenv, starEach (e :: es) cenv = (false, eval e cenv) :: starEach es cenv := by intro _; rfl) (hpl : ∀ cenv, (backTo pos' (starEach es cenv)).any (·.1) = false := by intro _; rfl) (hc : X.calm = true := by rfl) (hs : ∀ x, foldedSetIterable iter X.env x = pure x := by intro _; rfl) :
    DE X (.ListComp (.Call (.Name x p) (e :: es) [] pos') [⟨tg, iter, [], 0⟩] scope pos) (dLcE mk X.K ys js X.env.cells (own.map (·.2)) di g sp dA) := by
  refine ⟨fun pins s σ H Q I ⟨Z, F0, M, ρ, QD, R, ⟨cs, hcs, h⟩, o⟩ => ?_⟩
  rw [eval_ListComp]
  refine lc_start hc hN I hi ok hg (fun s1 H1 C cl fp I1 f1 => ?_) hs (up_lcE R h o) fun D C s' m H' I' q hn f => ⟨m, hn, fun h'' sb => ?_⟩
  · obtain ⟨ts, t1, t2, t3⟩ := tell_cellsE I1 R.e cap hcs
    exact pe_callB I1 hfn f1 F hr (ha s1 H1 C cl fp) t3 t1 t2 (by rw [t1]; exact cadr_nodup I1.ok hys cap.2) hk (hgl s1 H1 C cl fp) hdb (he _) (hpl _)
  · obtain ⟨f0, f1, f2, f3, f4, f5⟩ := f
    exact ⟨.ref D, H', I'.turned (t' := s'.toks) (fun b o hb e => (sb.2 b hb).trans e) f0 f1 f3 f4 f5, rfl, q⟩
end DL
/-! methods that may raise -/
namespace DL
open PySem PySem.Spec PyProof.Rows L2
structure MtX (P : Program) (w : World) (K : PySem.W.Frag) (mg : Str → Option Value) (base : Heap) (k : Nat) (C : Addr) (m : Str) (st : Stmt) (ps : List Str) (sp : SpXD) : Prop where
  ex : ∃ qual f fd, Fun K m qual st f fd ∧ Meth K C m f ∧ Binds K fd ps [] ∧ FnOk P w K mg base (L2.CX P w) k f fd ps (toSpX K sp)
def xMeth (C : Addr) (m : Str) (sp : SpXD) (do_ : TED) (dA : TAD) : XDt → TED := fun WD ρ M Q => do_ ρ M fun x M1 => (∃ gs, fieldsOf M1 x = some (C, gs) ∧ (gs.map (·.1)).contains m = false) ∧ dA ρ M1 fun ds M2 => sp (x :: ds) M2 Q fun D f y M' => WD D f y ρ M'
section
variable {X : Cx} {W : WX} {C : Addr} {m : Str} {k k2 : Nat} {st : Stmt} {ps : List Str} {sp : SpXD} {o e : Expr} {es : List Expr} {do_ : TED} {dA : TAD} {pos apos : Pos}
theorem dex_meth {pl : Sem Bool} (F : MtX X.prog X.w X.K X.mg X.base k C m st ps sp) (cl : Cls X.K C) (hr : Room k2 X.A) (tk : Takes X W) (ho : DE X o do_) (ha : DA X (e :: es) dA) (hk : k ≤ k2 := by decide)
    (hst : starEach (e :: es) X.env = (false, eval e X.env) :: starEach es X.env := by rfl) (hpl : (backTo pos (starEach es X.env)).any (·.1) = false := by rfl)
    (ht : eval (.Call (.Attribute o m apos) (e :: es) [] pos) X.env = (do
      let ov ← eval o X.env
      standAt apos.atName
      let (f, first) ← holding [ov] (getMethod ov m pl)
      callWith pos f first (backTo pos (starEach (e :: es) X.env)) (backToKw pos (keywordEach [] X.env))) := by rfl) : DEX X W (.Call (.Attribute o m apos) (e :: es) [] pos) (xMeth C m sp do_ dA) := by
  obtain ⟨qual, f, fd, F, hm, hb, ok⟩ := F.ex
  refine ⟨fun pins s σ H Q I ⟨Z, F0, M, ρ, QD, WD, R, h, oq, ow⟩ => PySem.W.methodCall_KW (pl := pl) (thn (ho.run pins s σ H (fun v H1 => ∃ F1 M1 d, Ext F0 F1 ∧ RelM X.K Z F1 H1 M1 ∧ Rep X.K F1 v d ∧ (∃ gs, fieldsOf M1 d = some (C, gs) ∧ (gs.map (·.1)).contains m = false) ∧ dA ρ M1 fun ds M2 => sp (d :: ds) M2 QD fun D f y M' => WD D f y ρ M') I
    ⟨Z, F0, M, ρ, _, R, h, fun v d F1 H1 M1 e1 R1 r1 h1 => ⟨F1, M1, d, e1, R1, r1, h1⟩⟩) fun u s1 got => ?_) ht⟩
  obtain ⟨v, H1, I1, rv, F1, M1, d, e1, R1, r1, ⟨gs, q1, q2⟩, h1⟩ := got
  obtain ⟨a, dx, fs, rfl, q3, q4, q5⟩ := fieldsOf_rep R1 r1 q1
  obtain rfl : u = Value.ref a := rv
  refine getmeth_ok I1 q3 cl hm (repF_none q4 q2) (PySem.W.callWith_K (first := [.ref a]) (h₀ := X.base) I1.ok.mod.kin hm.kp (thn (ha.run pos pins s1 σ H1 (fun vs H2 => toSpX X.K sp (.ref a :: vs) H2 Q (WE W σ)) I1 ⟨Z, F1, M1, ρ, _, R.ext e1 R1, h1, fun vs ds F2 H2 M2 e2 R2 r2 h2 => ?_⟩) fun us s2 got => ?_) hst hpl)
  · have e12 := e1.trans e2
    exact ⟨Z, F2, M2, _, QD, _, R2, .cons (r1.mono e2) r2, h2, oq.mono e12, fun D dd f x F' H' M' e' R' n q => ow D dd f x σ ρ F' H' M' (e12.trans e') R' n (R.e.mono (e12.trans e')) q⟩
  · obtain ⟨vs, H2, I2, r2, q⟩ := got
    exact ⟨I2.kIn, run_fnS (us := .ref a :: us) (vs := .ref a :: vs) ok (hr.mono hk) hb (passAt tk σ) I2 (.cons rfl r2) q⟩
end
section
variable {P : Program} {w : World} {K : PySem.W.Frag} {mg : Str → Option Value} {base : Heap}
theorem mtx_mk {C : Addr} {m qual : Str} {st : Stmt} {N ps : List Str} {k : Nat} {sp : SpXD} (h : HasMt K C m qual st ps) (S : FnScope N ps (defScope st)) (n : Nat) (hn : N.length = n) (len : ∀ ds M Q ED, sp ds M Q ED → ds.length = ps.length)
    (body : ∀ (f : Addr) (cdv : Value) (A : Around) (outer : List Env) (s : Shared) (H : Hp) (E : XK), Room k (A.deeper (envOfC qual (defScope st) s.heap.objs.size f cdv)) → Takes (cxOf (L2.CX P w) P w K mg base N qual (defScope st) f cdv A outer s H E) (wishE E) →
      ∃ d, DSsX (cxOf (L2.CX P w) P w K mg base N qual (defScope st) f cdv A outer s H E) (wishE E) (defBody st) d ∧ ∀ ds M Q ED, sp ds M Q ED → d (endX ED) { nx := fun _ M' => endD Q .non M', rt := endD Q } (startD n ds) M) : MtX P w K mg base (k + 1) C m st ps sp := by
  obtain ⟨f, fd, F, hm, hb⟩ := h.ex
  refine ⟨qual, f, fd, F, hm, hb, F.okX S (fun vs H Q E z => ?_) fun cdv A outer s H vs Q E hr z => ?_⟩
  · obtain ⟨_, _, _, ds, _, _, _, r, z, _⟩ := z
    exact r.length.trans (len ds _ _ _ z)
  · obtain ⟨Z, F0, M, ds, QD, ED, R, r, z, ov, oe⟩ := z
    obtain ⟨d, hd, hd2⟩ := body f cdv A outer s H E hr (takes_of rfl rfl rfl rfl)
    have la : ds.length ≤ n := by
      have := congrArg List.length S.pre
      rw [List.length_take, len ds _ _ _ z] at *
      omega
    refine ⟨_, hd, Z, F0, M, startD n ds, _, _, ⟨R, ?_⟩, hd2 ds M QD ED z, okS_end ov, okW_end oe⟩
    show RelE K F0 (L2.start N vs) (startD n ds)
    unfold L2.start
    rw [← hn]
    exact startD_rep N.length r (hn ▸ la)
/-- a method that raises for some arguments, and answers for others -/
theorem mtx_or {C : Addr} {m : Str} {st : Stmt} {ps : List Str} {k j n : Nat} {sx : SpXD} {sp : SpD} (hx : MtX P w K mg base k C m st ps sx) (hd : MtdD P w K mg base j C m st ps sp) (hk : k ≤ n) (hj : j ≤ n) : MtX P w K mg base n C m st ps (fun ds M Q ED => sx ds M Q ED ∨ sp ds M Q) := by
  obtain ⟨q1, f, fd, F, hm, hb, ok⟩ := hx.ex
  obtain ⟨q2, f', fd', F', hm', hb', ok'⟩ := hd.ex
  have e : f = f' := by
    have z := hm.at_.symm.trans hm'.at_
    injection z with z
    injection z with z
    injection z
  subst e
  have e2 := same_fun F F'
  subst e2
  refine ⟨q1, f, fd, F, hm, hb, ⟨fun vs H Q E ⟨Z, F0, M, ds, QD, ED, R, rr, h, o, oe⟩ => ?_, fun A outer s H args us vs Q E hr e0 hbd r h => ?_⟩⟩
  · rcases h with h | h
    · exact ok.len vs H Q E ⟨Z, F0, M, ds, QD, ED, R, rr, h, o, oe⟩
    · exact ok'.len vs H Q E ⟨Z, F0, M, ds, QD, R, rr, h, o⟩
  · obtain ⟨Z, F0, M, ds, QD, ED, R, rr, h, o, oe⟩ := h
    rcases h with h | h
    · exact ok.run A outer s H args us vs Q E (hr.mono hk) e0 hbd r ⟨Z, F0, M, ds, QD, ED, R, rr, h, o, oe⟩
    · refine codeAny_mono (ok'.run A outer s H args us vs Q E (hr.mono hj) e0 hbd r ⟨Z, F0, M, ds, QD, R, rr, h, o⟩) fun r s' hq => ?_
      cases r with
      | error e => exact (show False from hq).elim
      | ok fl =>
        cases fl with
        | ret u => exact hq
        | next => exact hq
        | brk => exact hq
        | cont => exact hq
end
end DL
/-! for i, x in enumerate(xs): .., where xs may change but does not meanwhile -/
namespace DL
open PySem PySem.Spec PyProof.Rows L2
def dLoopM (p : Addr) (all : List Dat) (g : TGD) (tb : TSD) : List Dat → TSD
  | [] => fun D ρ M => M p = some (.lst all) ∧ D.nx ρ M
  | x :: r => fun D ρ M => M p = some (.lst all) ∧ g x ρ M fun ρ' M' => tb { D with nx := dLoopM p all g tb r D, ct := dLoopM p all g tb r D, bk := D.nx } ρ' M'
theorem dLoopM_at {p : Addr} {all : List Dat} {g : TGD} {tb : TSD} {D : EndsD} {ρ : EnvD} {M : MH} : ∀ {r : List Dat}, dLoopM p all g tb r D ρ M → M p = some (.lst all)
  | [], h => h.1
  | _ :: _, h => h.1
def dForEM (dA : TAD) (g : TGD) (tb : TSD) : TSD := fun D ρ M => dA ρ M fun xs M1 => ∃ p ds, xs = [.ref p] ∧ M1 p = some (.lst ds) ∧ dLoopM p ds g tb (enumD ds) D ρ M1
theorem loopM_by {p : Addr} {all : List Dat} {g : TGD} {tb : TSD} {D : EndsD} (I : List Dat → EnvD → MH → Prop) (hend : ∀ ρ M, I [] ρ M → M p = some (.lst all) ∧ D.nx ρ M)
    (step : ∀ d r ρ M (k : EnvD → MH → Prop), I (d :: r) ρ M → (∀ ρ M, I r ρ M → k ρ M) → M p = some (.lst all) ∧ g d ρ M fun ρ' M' => tb { D with nx := k, ct := k, bk := D.nx } ρ' M') : ∀ ds ρ M, I ds ρ M → dLoopM p all g tb ds D ρ M
  | [], ρ, M, h => hend ρ M h
  | d :: r, ρ, M, h => step d r ρ M (dLoopM p all g tb r D) h (loopM_by I hend step r)
section
variable {X : Cx} {tg e : Expr} {body : List Stmt} {dA : TAD} {g : TGD} {tb : TSD} {pos p pos2 tpos : Pos} {elts : List Expr} {kk : Nat}
theorem enumD_len (ds : List Dat) : (enumD ds).length = ds.length := by
  unfold enumD
  rw [List.length_map, List.length_range]
theorem ds_forEM (hm : X.mg "enumerate" = none) (ha : DA X [e] dA) (hg : DG X (.Tuple elts kk tpos) g) (hb : DSs X body tb) (hgl : Gl X "enumerate" := by rfl) (hse : starEach [e] X.env = [(false, eval e X.env)] := by rfl) (hc : X.calm = true := by rfl)
    (hp : PassesOwn (model X.prog X.w) X.A X.env X.xe := by exact PassesOwn.never) (hs : ∀ x, foldedSetIterable (.Call (.Name "enumerate" p) [e] [] pos2) X.env x = pure x := by intro _; rfl) :
    DS X (.For (.Tuple elts kk tpos) (.Call (.Name "enumerate" p) [e] [] pos2) body [] pos) (dForEM dA g tb) := ps_w (ps_for hp hc (pi_enum hgl hm ha hse) hg hb hs) fun D σ H ⟨Z, F, M, ρ, DD, R, h, o⟩ => by
  refine ⟨Z, F, M, ρ, _, R, h, fun vs xs F1 H1 M1 e1 R1 r1 h1 => ?_⟩
  obtain ⟨a, ds, rfl, hd, h1⟩ := h1
  obtain ⟨v, ws, rfl, q1, r1⟩ := r1.uncons
  cases r1.unnil
  cases q1
  have at_ : ∀ {F' H' : Hp} {M' : MH}, RelM X.K Z F' H' M' → M' a = some (.lst ds) → ∃ ys, H' a = some (.lst ys) ∧ Reps X.K F' ys ds := fun R q => (R.chg a _ q).2
  obtain ⟨ys1, w1, _⟩ := at_ R1 hd
  refine ⟨a, ys1, rfl, SqL.of w1, ?_⟩
  have el := enumD_len ds
  refine ⟨fun n left σ H => left = ds.length - n ∧ n ≤ ds.length ∧ ∃ F' M ρ, Ext F1 F' ∧ Rel X.K Z F' H M σ ρ ∧ dLoopM a ds g tb ((enumD ds).drop n) DD ρ M, ⟨_, rfl, Nat.zero_le _, F1, M1, ρ, Ext.refl _, R.ext e1 R1, h1⟩, ?_⟩
  rintro n left σ2 H2 ⟨rfl, hn, F2, M2, ρ2, e2, R2, h2⟩
  obtain ⟨ys, w2, ry⟩ := at_ R2.m (dLoopM_at h2)
  rcases Nat.lt_or_ge n ds.length with lt | ge
  · have gx : (enumD ds)[n]? = some ((enumD ds)[n]'(by omega)) := List.getElem?_eq_getElem _
    rw [List.drop_eq_getElem_cons (by omega)] at h2
    generalize (enumD ds)[n]'(by omega) = x at gx h2
    obtain ⟨y, gy, rfl⟩ := enumD_at gx
    obtain ⟨v, gv, rv⟩ := ry.get gy
    refine .inr ⟨⟨ys, v, SqL.of w2, gv⟩, fun σ' H' => ∃ F' M ρ, Ext F1 F' ∧ Rel X.K Z F' H' M σ' ρ ∧ dLoopM a ds g tb ((enumD ds).drop (n + 1)) DD ρ M, fun _ _ k => ⟨_, by omega, rfl, lt, k⟩, fun z H' yl => ?_⟩
    obtain ⟨T, u, rfl, nT, rfl, same⟩ := yl
    cases (same ys (SqL.of w2)).symm.trans gv
    obtain ⟨R4, e4⟩ := R2.m.newF (o := .tup _) nT
    refine ⟨Z, _, M2, ρ2, _, _, R2.ext e4 R4, .tup (SqT.of upd_same) (.two (.int _) (rv.mono e4)), h2.2, fun σ5 ρ5 F5 H5 M5 e5 R5 h5 => ?_⟩
    have e25 := (e2.trans e4).trans e5
    exact ⟨Z, F5, M5, ρ5, _, R5, h5, fun _ ρ6 F6 _ M6 e6 R6 h6 => ⟨F6, M6, ρ6, e25.trans e6, R6, h6⟩, o.rt.mono (e1.trans e25), o.nx.mono (e1.trans e25), fun _ ρ6 F6 _ M6 e6 R6 h6 => ⟨F6, M6, ρ6, e25.trans e6, R6, h6⟩⟩
  · obtain rfl : n = ds.length := by omega
    rw [← el, List.drop_length] at h2
    refine .inl ⟨⟨ys, SqL.of w2, by rw [ry.length]; exact Nat.le_refl _⟩, o.nx _ _ F2 H2 M2 (e1.trans e2) R2 h2.2⟩
end
end DL
/-! tuples and lists that hold instances with an own ==, compared where they are the same -/
namespace NeQ
open PySem PySem.SeqAt
open AutoSeq1 (wpAny_loadPart')
open MeetsSeq MeetsSeq2 MeetsSeq3 SeqRoads2 GQ
section
variable {prog : Program} {w : World} {A : Around} {R : Result → Shared → Prop} {E : Value → Shared → Prop}
theorem tup_ne_body (l b : Addr) (xs ys : Array Value) (n n2 : Nat) (dd dd2 : Option Addr) (sl sl2 : Array (Option Value)) (hsz : xs.size = ys.size) (I : Nat → Shared → Prop)
    (turn : ∀ i (h1 : i < xs.size) (h2 : i < ys.size) s, I i s → wpAny (model prog w) A.in1 (eqBool xs[i] ys[i]) (fun r s' => r = true ∧ I (i + 1) s') (fun e s' => R (.error e) s') s)
    (fin : ∀ s, I xs.size s → R (.ok (.ret (.bool false))) s) {s : Shared} (gl : s.heap.get? l = some { cls := .type "tuple", dict := dd, data := .seq xs n, slots := sl }) (gb : s.heap.get? b = some { cls := .type "tuple", dict := dd2, data := .seq ys n2, slots := sl2 }) (h : I 0 s) :
    wpAny (model prog w) A.in1 (Builtin.«tuple.__ne__» ⟨[.ref l, .ref b], []⟩) (FinOf prog w A R) (fun e s' => R (.error e) s') s := by
  have two := AutoSeq1.sub_tuple_tuple
  have len : (xs.toList.zip ys.toList).length = xs.size := by simp [hsz]
  have hstart := h
  obtain ⟨hp, g, d, tk, os⟩ := s
  wp_walk using wpAny_loadPart' gl, wpAny_loadPart' gb, wpAny_forIn_list _ (fun rest b s' => b.1 = none ∧ ∃ i, rest = (xs.toList.zip ys.toList).drop i ∧ i ≤ xs.size ∧ I i s') _
  case h => exact ⟨rfl, 0, rfl, Nat.zero_le _, hstart⟩
  case fin =>
    rintro ⟨b1, b2⟩ s' ⟨rfl, i, hz, hi, q⟩
    obtain rfl : i = xs.size := by
      have := congrArg List.length hz
      rw [List.length_drop, len] at this
      simp only [List.length_nil] at this
      omega
    have hR := fin s' q
    wp_walk
    simpa [Builtin.Tuple.tupleCompareSizes, hsz] using hR
  case turn =>
    rintro ⟨y, x⟩ rest b s' ⟨_, i, hz, hi, q⟩
    have lt : i < (xs.toList.zip ys.toList).length := by
      have := congrArg List.length hz
      rw [List.length_drop, List.length_cons] at this
      omega
    rw [List.drop_eq_getElem_cons lt] at hz
    injection hz with e1 e2
    rw [List.getElem_zip] at e1
    injection e1 with e3 e4
    have i1 : i < xs.size := len ▸ lt
    have i2 : i < ys.size := hsz ▸ i1
    obtain rfl : y = xs[i] := by simpa using e3
    obtain rfl : x = ys[i] := by simpa using e4
    refine wpAny_bind (wpAny_mono (turn i i1 i2 s' q) (fun r s2 z => ?_) fun _ _ x => x)
    obtain ⟨rfl, z⟩ := z
    wp_walk
    exact ⟨rfl, i + 1, e2, i1, z⟩
theorem ne_tupG {s : Shared} {l b : Addr} {xs ys : Array Value} {Q : Value → Shared → Prop} (hsz : xs.size = ys.size) (hu : A.units < cLine) (I : Nat → Shared → Prop) (hl : s.heap.IsTuple l xs) (hb : s.heap.IsTuple b ys)
    (turn : ∀ i (h1 : i < xs.size) (h2 : i < ys.size) s, I i s → wpAny (model prog w) A.in1 (eqBool xs[i] ys[i]) (fun r s' => r = true ∧ I (i + 1) s') E s)
    (fin : ∀ s, I xs.size s → Q (.bool false) s) (h : I 0 s) : wpAny (model prog w) A (richCompare .NotEq (.ref l) (.ref b)) Q E s := by
  obtain ⟨⟨_, dd, _, sl⟩, gl, rfl, n, rfl⟩ := hl
  obtain ⟨⟨_, dd2, _, sl2⟩, gb, rfl, n2, rfl⟩ := hb
  exact wpAny_richCompare_same_room (op := .NotEq) ⟨_, gl, rfl⟩ ⟨_, gb, rfl⟩ F.slot_tuple_ne (call_here F.slot_tuple_ne ⟨_, gl, rfl⟩ F.entry_tuple_ne (F.args_tuple_ne_2 _ _)
    (tup_ne_body (R := wants (fun v s' => v ≠ .notImplemented ∧ Q v s') E) l b xs ys n n2 dd dd2 sl sl2 hsz I turn (fun s' q => ⟨(fun x => nomatch x), fin s' q⟩) gl gb h)) hu
end
end NeQ
namespace DL
open PySem PySem.Spec PyProof.Rows L2
def plainD : Dat → Bool
  | .non => true
  | .bl _ => true
  | .int _ => true
  | .str _ => true
  | _ => false
/-- two that are seen to be the same: flat values, instances, and lists and tuples of such -/
def Sam1 (C : Addr) (sp : SpD) (d e : Dat) : Prop := (d = e ∧ plainD d = true) ∨ TrueK C sp d e
def AllS (R : Dat → Dat → Prop) (xs ys : List Dat) : Prop := xs.length = ys.length ∧ ∀ (i : Nat) d e, xs[i]? = some d → ys[i]? = some e → R d e
def Sam2 (C : Addr) (sp : SpD) (M : MH) (d e : Dat) : Prop := Sam1 C sp d e ∨ (∃ xs ys, lsT M d = some xs ∧ lsT M e = some ys ∧ AllS (Sam1 C sp) xs ys) ∨ ∃ xs ys, d = .tup xs ∧ e = .tup ys ∧ AllS (Sam1 C sp) xs ys
def TopS (C : Addr) (sp : SpD) (M : MH) (x y : Dat) : Prop := (∃ xs ys, x = .tup xs ∧ y = .tup ys ∧ AllS (Sam2 C sp M) xs ys) ∨ ∃ xs ys, lsR M x = some xs ∧ lsR M y = some ys ∧ AllS (Sam2 C sp M) xs ys
def rEqS (C : Addr) (sp : SpD) : R2D := fun x y M Q => TopS C sp M x y ∧ Q (.bl true) M
def rNeS (C : Addr) (sp : SpD) : R2D := fun x y M Q => TopS C sp M x y ∧ Q (.bl false) M
def Eq1 (K : PySem.W.Frag) (C : Addr) (sp : SpD) : Eqv := fun x y H => DFlat x y H ∨ DIns C (atK K C sp) x y H
def Eq2 (K : PySem.W.Frag) (C : Addr) (sp : SpD) : Eqv := fun x y H => Eq1 K C sp x y H ∨ (DList (Eq1 K C sp) x y H ∨ DTup K (Eq1 K C sp) x y H)
section
variable {K : PySem.W.Frag} {C : Addr} {sp : SpD} {F H : Hp}
theorem mon_1 : Mon (Eq1 K C sp) := Mon.or mon_flat mon_K
theorem mon_2 : Mon (Eq2 K C sp) := Mon.or mon_1 (Mon.or (mon_list mon_1) (mon_tup mon_1))
theorem AllS.prs {D : Eqv} {R : Dat → Dat → Prop} (lift : ∀ x y d e, Rep K F x d → Rep K F y e → R d e → D x y H) {xs ys : List V} {ds es : List Dat} (r : Reps K F xs ds) (q : Reps K F ys es) (h : AllS R ds es) : Prs D xs ys H := by
  refine ⟨by rw [r.length, q.length]; exact h.1, fun i x y hx hy => ?_⟩
  have lx : i < ds.length := by
    rw [← r.length]
    exact (List.getElem?_eq_some_iff.mp hx).1
  have ly : i < es.length := h.1 ▸ lx
  obtain ⟨v, hv, rv⟩ := r.get (List.getElem?_eq_getElem lx)
  obtain ⟨u, hu, ru⟩ := q.get (List.getElem?_eq_getElem ly)
  cases hv.symm.trans hx
  cases hu.symm.trans hy
  exact lift _ _ _ _ rv ru (h.2 i _ _ (List.getElem?_eq_getElem lx) (List.getElem?_eq_getElem ly))
theorem Sam1.lift (e : Ext F H) {x y : V} {d d2 : Dat} (r : Rep K F x d) (q : Rep K F y d2) (h : Sam1 C sp d d2) : Eq1 K C sp x y H := by
  rcases h with ⟨rfl, hf⟩ | h
  · left
    cases r <;> first | (cases hf; done) | (cases q; exact ⟨rfl, rfl, by simp [eqV]⟩)
  · obtain ⟨fs, gs, rfl, rfl, t⟩ := h
    right
    cases r with
    | ins r1 r2 r3 =>
      cases q with
      | ins q1 q2 q3 => exact ⟨_, _, _, _, _, _, rfl, rfl, e _ _ r1, e _ _ q1, F, _, _, e, .ins r1 r2 r3, .ins q1 q2 q3, fs, gs, rfl, rfl, t⟩
theorem Sam2.lift {Z : Hp} {M : MH} (R : RelM K Z F H M) {x y : V} {d d2 : Dat} (r : Rep K F x d) (q : Rep K F y d2) (h : Sam2 C sp M d d2) : Eq2 K C sp x y H := by
  have e : Ext F H := R.sub
  rcases h with h | ⟨xs, ys, h1, h2, h⟩ | ⟨xs, ys, rfl, rfl, h⟩
  · exact .inl (h.lift e r q)
  · obtain ⟨pa, us, rfl, s1, r1⟩ := lsT_rep R r h1
    obtain ⟨pb, vs, rfl, s2, r2⟩ := lsT_rep R q h2
    exact .inr (.inl ⟨_, _, _, _, rfl, rfl, s1, s2, AllS.prs (fun _ _ _ _ a b c => Sam1.lift e a b c) r1 r2 h⟩)
  · cases r with
    | tup r1 r2 =>
      cases q with
      | tup q1 q2 => exact .inr (.inr ⟨_, _, _, _, rfl, rfl, ext_t e r1, ext_t e q1, AllS.prs (fun _ _ _ _ a b c => Sam1.lift e a b c) r2 q2 h⟩)
end
section
variable {X : Cx} {k k2 : Nat} {C : Addr} {st : Stmt} {ps : List Str} {sp : SpD}
theorem eqG_1 (F : MtdD X.prog X.w X.K X.mg X.base k C "__eq__" st ps sp) : EqG X k (Eq1 X.K C sp) := (eqG_flat.mono (Nat.zero_le _)).or (eqG_K F)
theorem eqG_2 (F : MtdD X.prog X.w X.K X.mg X.base k C "__eq__" st ps sp) : EqG X (k + 1) (Eq2 X.K C sp) := ((eqG_1 F).mono (Nat.le_succ _)).or ((eqG_list mon_1 (eqG_1 F)).or (eqG_tup mon_1 (eqG_1 F)))
theorem op_neT {n : Nat} {D : Eqv} (hD : Mon D) (h : EqG X n D) (hr : Room (n + 1) X.A) : OpR X (compareOp .NotEq) (rNeG (DTup X.K D)) := by
  rintro pins s σ H x y v u Q I rx ry ⟨⟨a, b, xs, ys, rfl, rfl, ha, hb, p⟩, q⟩
  cases rx
  cases ry
  obtain ⟨is, r, o1, _⟩ := I.tuple ha
  obtain ⟨js, r2, o2, _⟩ := I.tuple hb
  refine NeQ.ne_tupG ?_ hr.units0 (fun _ s' => LoopI X pins σ H s') o1 o2 (fun i h1 h2 s' z => turnG hD h ⟨hr, rfl⟩ p r r2 i h1 h2 s' z) (fun s' ⟨H', I', e⟩ => ⟨.bl false, H', I', rfl, q H' e⟩) ⟨H, I, Ext.rfl'⟩
  rw [List.size_toArray, List.size_toArray, ← r.length, ← r2.length]
  exact p.1
theorem od_eqS (F : MtdD X.prog X.w X.K X.mg X.base k C "__eq__" st ps sp) (hr : Room k2 X.A) (hk : k + 2 ≤ k2 := by decide) : OpD X (compareOp .Eq) (rEqS C sp) :=
  ⟨_, OpR.or (op_eqG (rcG_tup mon_2 (eqG_2 F)) (hr.mono hk)) (op_eqQ mon_2 (eqG_2 F) (hr.mono hk)), fun Z F H M x y a b Q QD R ra rb hd o => by
    obtain ⟨⟨xs, ys, rfl, rfl, h⟩ | ⟨xs, ys, h1, h2, h⟩, q⟩ := hd
    · left
      cases ra with
      | tup r1 r2 =>
        cases rb with
        | tup q1 q2 => exact ⟨⟨_, _, _, _, rfl, rfl, ext_t R.sub r1, ext_t R.sub q1, AllS.prs (fun _ _ _ _ a b c => Sam2.lift R a b c) r2 q2 h⟩, fun H' e => o _ _ F H' M (Ext.refl F) (R.grow e) (.bl true) q⟩
    · right
      obtain ⟨pa, us, rfl, s1, r1⟩ := lsR_rep R ra h1
      obtain ⟨pb, vs, rfl, s2, r2⟩ := lsR_rep R rb h2
      exact ⟨⟨pa, pb, us, vs, rfl, rfl, s1, s2, AllS.prs (fun _ _ _ _ a b c => Sam2.lift R a b c) r1 r2 h⟩, fun H' e => o _ _ F H' M (Ext.refl F) (R.grow e) (.bl true) q⟩⟩
theorem od_neS (F : MtdD X.prog X.w X.K X.mg X.base k C "__eq__" st ps sp) (hr : Room k2 X.A) (hk : k + 2 ≤ k2 := by decide) : OpD X (compareOp .NotEq) (rNeS C sp) :=
  ⟨_, OpR.or (op_neT mon_2 (eqG_2 F) (hr.mono hk)) (op_neQ mon_2 (eqG_2 F) (hr.mono hk)), fun Z F H M x y a b Q QD R ra rb hd o => by
    obtain ⟨⟨xs, ys, rfl, rfl, h⟩ | ⟨xs, ys, h1, h2, h⟩, q⟩ := hd
    · left
      cases ra with
      | tup r1 r2 =>
        cases rb with
        | tup q1 q2 => exact ⟨⟨_, _, _, _, rfl, rfl, ext_t R.sub r1, ext_t R.sub q1, AllS.prs (fun _ _ _ _ a b c => Sam2.lift R a b c) r2 q2 h⟩, fun H' e => o _ _ F H' M (Ext.refl F) (R.grow e) (.bl false) q⟩
    · right
      obtain ⟨pa, us, rfl, s1, r1⟩ := lsR_rep R ra h1
      obtain ⟨pb, vs, rfl, s2, r2⟩ := lsR_rep R rb h2
      exact ⟨⟨pa, pb, us, vs, rfl, rfl, s1, s2, AllS.prs (fun _ _ _ _ a b c => Sam2.lift R a b c) r1 r2 h⟩, fun H' e => o _ _ F H' M (Ext.refl F) (R.grow e) (.bl false) q⟩⟩
end
end DL
/-! a tuple so many times -/
namespace TupQ
open PySem PySem.Spec PyProof.Rows
/-- once: the tuple itself -/
theorem mul_once (l : Addr) (xs : Array Value) (n : Nat) (dd : Option Addr) (sl : Array (Option Value)) (u : Tok) :
    Meets (Builtin.«tuple.__mul__» ⟨[.ref l, .int 1 u], []⟩) (fun _ R s => s.heap.get? l = some { cls := .type "tuple", dict := dd, data := .seq xs n, slots := sl } ∧ R (.ok (.ret (Value.ref l))) s) :=
  .of_wp fun prog w A R s ⟨gl, h⟩ => by
    obtain ⟨hp, g, d, tk, os⟩ := s
    have f1 := AutoSeq1.idx_int
    wp_walk using AutoSeq1.wpAny_loadPart' gl
    exact ⟨_, rfl, h⟩
end TupQ
namespace DL
open PySem PySem.Spec PyProof.Rows L2
theorem tup_obj {h : Heap} {a : Addr} {xs : Array Value} (q : h.IsTuple a xs) : ∃ dd n sl, h.get? a = some { cls := .type "tuple", dict := dd, data := .seq xs n, slots := sl } := by
  obtain ⟨⟨_, dd, _, sl⟩, g, rfl, n, rfl⟩ := q
  exact ⟨dd, n, sl, g⟩
theorem op_onceT {X : Cx} : OpR X (binaryOp .Mult) (fun x y H Q => ∃ l xs, x = .ref l ∧ y = .int 1 ∧ SqT X.K H l xs ∧ Q x H) := by
  rintro pins s σ H x y v u Q I rx ry ⟨l, xs, rfl, rfl, hT, q⟩
  cases rx
  obtain ⟨t, rfl⟩ := ry
  obtain ⟨its, r, o, _⟩ := I.tuple hT
  obtain ⟨dd, n, sl, ho⟩ := tup_obj o
  have ty : s.TypeIs (.ref l) "tuple" := ⟨_, ho, rfl⟩
  refine wpAny_binaryOp_repeat_ref (T := "tuple") (U := "int") (by decide) ty (fun s' => typeIs_int s' 1 t) noFill_tuple_mul F.fills_int_mul F.slot_int_rmul repeat_tuple F.slot_int_index.lookup ?_
  refine call_meets F.slot_int_rmul (typeIs_int s 1 t) F.entry_int_rmul (F.args_int_rmul_2 _ _) (int_rmul_tuple 1 t l its.toArray n dd sl) ⟨ho, rfl, ty, ?_⟩
  refine call_meets F.slot_tuple_mul ty F.entry_tuple_mul (F.args_tuple_mul_2 _ _) (TupQ.mul_once l its.toArray n dd sl t) ⟨ho, ?_⟩
  exact ⟨.ref l, H, I, rfl, q⟩
/-- a tuple times an int -/
def rMulT : R2D := fun x y M Q => ∃ ds k, x = .tup ds ∧ y = .int k ∧ ds ≠ [] ∧ 1 ≤ k ∧ k ≤ 1000 ∧ ds.length ≤ 1000 ∧ Q (.tup (List.replicate k.toNat ds).flatten) M
theorem od_mulT {X : Cx} : OpD X (binaryOp .Mult) rMulT := ⟨_, OpR.or op_onceT op_repT, fun Z F H M x y a b Q QD R ra rb hd o => by
  obtain ⟨ds, k, rfl, rfl, h0, h1, h2, h3, h4⟩ := hd
  cases ra with
  | tup r1 r2 =>
    cases rb
    by_cases e : k = 1
    · subst e
      rw [show List.replicate (Int.toNat 1) ds = [ds] from rfl, List.flatten_cons, List.flatten_nil, List.append_nil] at h4
      exact .inl ⟨_, _, rfl, rfl, ext_t R.sub r1, o _ _ F H M (Ext.refl F) R (.tup r1 r2) h4⟩
    · refine .inr ⟨_, _, _, rfl, rfl, ext_t R.sub r1, reps_ne r2 h0, by omega, h2, by rw [r2.length]; exact h3, fun p hp => ?_⟩
      obtain ⟨R2, e2⟩ := R.newF (o := .tup _) hp
      exact o _ _ _ _ M e2 R2 (.tup (SqT.of upd_same) ((r2.rep _).mono e2)) h4⟩
end DL
/-! a tuple that is not empty, asked whether it is -/
namespace NeQ
open PySem PySem.SeqAt
open AutoSeq1 (wpAny_loadPart')
open MeetsSeq MeetsSeq2 MeetsSeq3 SeqRoads2 GQ
section
variable {prog : Program} {w : World} {A : Around} {R : Result → Shared → Prop} {E : Value → Shared → Prop}
theorem tup_nil_body (l b : Addr) (xs : Array Value) (n n2 : Nat) (dd dd2 : Option Addr) (sl sl2 : Array (Option Value)) (hx : xs.size ≠ 0) {s : Shared} (gl : s.heap.get? l = some { cls := .type "tuple", dict := dd, data := .seq xs n, slots := sl }) (gb : s.heap.get? b = some { cls := .type "tuple", dict := dd2, data := .seq #[] n2, slots := sl2 })
    (h : R (.ok (.ret (.bool false))) s) : wpAny (model prog w) A.in1 (Builtin.«tuple.__eq__» ⟨[.ref l, .ref b], []⟩) (FinOf prog w A R) (fun e s' => R (.error e) s') s := by
  have two := AutoSeq1.sub_tuple_tuple
  have none_ : xs.toList.zip (#[] : Array Value).toList = [] := by simp
  have hstart := h
  obtain ⟨hp, g, d, tk, os⟩ := s
  wp_walk using wpAny_loadPart' gl, wpAny_loadPart' gb, wpAny_forIn_list _ (fun rest b s' => b.1 = none ∧ rest = [] ∧ R (.ok (.ret (.bool false))) s') _
  case h => exact ⟨rfl, none_, hstart⟩
  case fin =>
    rintro ⟨b1, b2⟩ s' ⟨rfl, _, q⟩
    wp_walk
    have e : (xs.size == 0) = false := beq_eq_false_iff_ne.mpr hx
    simp only [Builtin.Tuple.tupleCompareSizes]
    show FinOf prog w A R (Fin.done (Flow.ret (Value.bool (xs.size == 0)))) s'
    rw [e]
    exact q
  case turn =>
    rintro ⟨y, x⟩ rest b s' ⟨_, hz, _⟩
    cases hz
end
end NeQ
namespace DL
open PySem PySem.Spec PyProof.Rows L2
theorem op_eqNil {X : Cx} {k : Nat} (hr : Room k X.A) : OpR X (compareOp .Eq) (fun x y H Q => ∃ l b xs, x = .ref l ∧ y = .ref b ∧ SqT X.K H l xs ∧ SqT X.K H b [] ∧ xs ≠ [] ∧ Q (.bl false) H) := by
  rintro pins s σ H x y v u Q I rx ry ⟨l, b, xs, rfl, rfl, hl, hb, hx, q⟩
  cases rx
  cases ry
  obtain ⟨is, r, o1, _⟩ := I.tuple hl
  obtain ⟨js, r2, o2, _⟩ := I.tuple hb
  cases r2
  obtain ⟨dd, n, sl, g1⟩ := tup_obj o1
  obtain ⟨dd2, n2, sl2, g2⟩ := tup_obj o2
  have ne : is.toArray.size ≠ 0 := by
    rw [List.size_toArray, ← r.length]
    exact fun z => hx (List.eq_nil_of_length_eq_zero z)
  show wpAny (model X.prog X.w) X.A (richCompare .Eq (.ref l) (.ref b)) (EP X pins σ Q) X.xe s
  refine wpAny_richCompare_same_room (op := .Eq) ⟨_, g1, rfl⟩ ⟨_, g2, rfl⟩ F.slot_tuple_eq (GQ.call_here F.slot_tuple_eq ⟨_, g1, rfl⟩ F.entry_tuple_eq (F.args_tuple_eq_2 _ _) ?_) hr.units0
  exact NeQ.tup_nil_body (R := wants (fun v s' => v ≠ .notImplemented ∧ EP X pins σ Q v s') X.xe) l b is.toArray n n2 dd dd2 sl sl2 ne g1 g2 ⟨(fun x => nomatch x), .bl false, H, I, rfl, q⟩
def rEqNil : R2D := fun x y M Q => ∃ ds, x = .tup ds ∧ y = .tup [] ∧ ds ≠ [] ∧ Q (.bl false) M
theorem od_eqNil {X : Cx} {k : Nat} (hr : Room k X.A) : OpD X (compareOp .Eq) rEqNil := ⟨_, op_eqNil hr, fun Z F H M x y a b Q QD R ra rb hd o => by
  obtain ⟨ds, rfl, rfl, h0, h⟩ := hd
  cases ra with
  | tup r1 r2 =>
    cases rb with
    | tup q1 q2 =>
      cases q2
      exact ⟨_, _, _, rfl, rfl, ext_t R.sub r1, ext_t R.sub q1, reps_ne r2 h0, o _ _ F H M (Ext.refl F) R (.bl false) h⟩⟩
end DL
/-! a method, a class, called with one argument by its name -/
namespace DL
open PySem PySem.Spec PyProof.Rows L2
/-- one value by place, one by its name -/
def KwO (m : Str) (st : Stmt) (ps : List Str) (key : Str) : Prop := ∀ (qual : Str) (kV doc pm : Value) (an : Option Addr) (cdv ct u v : Value), bindArgs (PySem.W.fnOf m qual (defArgs st) (defBody st) (defScope st) .none kV doc pm an cdv ct) ⟨[u], [(key, v)]⟩ = pure (ps.zip [u, v])
theorem vals_app : ∀ {vs zs : List V} {us ws : List Value}, Vals vs us → Vals zs ws → Vals (vs ++ zs) (us ++ ws)
  | [], _, [], _, .nil, q => q
  | _ :: _, _, _ :: _, _, .cons h r, q => .cons h (vals_app r q)
theorem kbn_one {K : PySem.W.Frag} {m qual : Str} {st : Stmt} {f : Addr} {fd : FuncData} {ps : List Str} {key : Str} (F : Fun K m qual st f fd) (B : KwO m st ps key) : KBn K fd ps 1 [key] (fun us ws => us ++ ws) (fun vs zs => vs ++ zs) := by
  obtain ⟨_, _, kV, doc, pm, an, cdv, ct, _, rfl, _, _⟩ := F.ex
  refine ⟨fun s us ws _ l1 l2 => ?_, vals_app⟩
  match us, ws, l1, l2 with
  | [u], [v], _, _ => exact .of_eq (B qual kV doc pm an cdv ct u v)
def dMethK (C : Addr) (m : Str) (sp : SpD) (do_ dv : TED) : TED := fun ρ M Q => do_ ρ M fun x M1 => (∃ gs, fieldsOf M1 x = some (C, gs) ∧ (gs.map (·.1)).contains m = false) ∧ dv ρ M1 fun y M2 => sp [x, y] M2 Q
def dMakeK (mk : Bool) (C : Addr) (sp : SpD) (dv : TED) : TED := fun ρ M Q => dv ρ M fun y M1 => ∀ a, M1 a = none → sp [.ref a, y] (updM M1 a (.ins C [])) fun r M2 => r = .non ∧ (match mk with
  | true => Q (.ref a) M2
  | false => ∃ gs, M2 a = some (.ins C gs) ∧ Q (.ins C gs) (delM M2 a))
def oneD (G : Dat → MH → Prop) : List Dat → MH → Prop
  | [y], M => G y M
  | _, _ => False
theorem oneD_of {G : Dat → MH → Prop} {ds : List Dat} {M : MH} (h : oneD G ds M) : ∃ y, ds = [y] ∧ G y M := by
  match ds, h with
  | [y], h => exact ⟨y, rfl, h⟩
section
variable {X : Cx} {C : Addr} {m x key : Str} {k k2 : Nat} {st : Stmt} {ps : List Str} {sp : SpD} {o v : Expr} {do_ dv : TED} {pos apos kpos p : Pos}
theorem de_methK {pl : Sem Bool} (F : MtdD X.prog X.w X.K X.mg X.base k C m st ps sp) (B : KwO m st ps key) (cl : Cls X.K C) (hr : Room k2 X.A) (ho : DE X o do_) (hv : DE X v dv) (hk : k ≤ k2 := by decide)
    (hall : (backToKw pos (keywordEach [⟨some key, v, kpos⟩] X.env)).all (·.1.isSome) = true := by rfl) (hks : (backToKw pos (keywordEach [⟨some key, v, kpos⟩] X.env)).filterMap (·.1) = [key] := by rfl)
    (hpl : ((backTo pos (starEach [] X.env)).any (·.1) || (backToKw pos (keywordEach [⟨some key, v, kpos⟩] X.env)).any (·.1.isNone)) = false := by rfl)
    (ht : eval (.Call (.Attribute o m apos) [] [⟨some key, v, kpos⟩] pos) X.env = (do
      let ov ← eval o X.env
      standAt apos.atName
      let (f, first) ← holding [ov] (getMethod ov m pl)
      callWith pos f first (backTo pos (starEach [] X.env)) (backToKw pos (keywordEach [⟨some key, v, kpos⟩] X.env))) := by rfl) : DE X (.Call (.Attribute o m apos) [] [⟨some key, v, kpos⟩] pos) (dMethK C m sp do_ dv) := by
  obtain ⟨qual, f, fd, F, hm, hb, ok⟩ := F.ex
  refine ⟨fun pins s σ H Q I ⟨Z, F0, M, ρ, QD, R, h, oq⟩ => PySem.W.methodCall_KW (pl := pl) (thn (ho.run pins s σ H (fun x H1 => ∃ F1 M1 d, Ext F0 F1 ∧ RelM X.K Z F1 H1 M1 ∧ Rep X.K F1 x d ∧ (∃ gs, fieldsOf M1 d = some (C, gs) ∧ (gs.map (·.1)).contains m = false) ∧ dv ρ M1 fun y M2 => sp [d, y] M2 QD) I
    ⟨Z, F0, M, ρ, _, R, h, fun x d F1 H1 M1 e1 R1 r1 h1 => ⟨F1, M1, d, e1, R1, r1, h1⟩⟩) fun u s1 got => ?_) ht⟩
  obtain ⟨x, H1, I1, rx, F1, M1, d, e1, R1, r1, ⟨gs, q1, q2⟩, h1⟩ := got
  obtain ⟨a, dx, fs, rfl, q3, q4, q5⟩ := fieldsOf_rep R1 r1 q1
  obtain rfl : u = Value.ref a := rx
  refine getmeth_ok I1 q3 cl hm (repF_none q4 q2) (PySem.W.callWith_KW0 (first := [.ref a]) (h₀ := X.base) I1.ok.mod.kin hm.kp hall (thn ((dk_cons hv dk_nil).run pos pins s1 σ H1 (fun zs H2 => ∃ z, zs = [z] ∧ toSp X.K sp [.ref a, z] H2 Q E0) I1
    ⟨Z, F1, M1, ρ, oneD fun y M2 => sp [d, y] M2 QD, R.ext e1 R1, h1, fun zs ds F2 H2 M2 e2 R2 r2 h2 => ?_⟩) fun ws s2 got => ?_) hpl)
  · obtain ⟨y, rfl, h2⟩ := oneD_of h2
    obtain ⟨z, ts, rfl, r3, r4⟩ := r2.uncons
    cases r4.unnil
    exact ⟨z, rfl, Z, F2, M2, _, QD, R2, .two (r1.mono e2) r3, h2, oq.mono (e1.trans e2)⟩
  · obtain ⟨zs, H2, I2, rz, z, rfl, hsp⟩ := got
    refine ⟨I2.kIn, ?_⟩
    rw [hks]
    exact run_fnN (us := [.ref a]) (vs := [.ref a]) ok (hr.mono hk) (kbn_one F B) pass0 I2 (.cons rfl .nil) rz rfl rfl hsp
theorem de_makeK (mk : Bool) (F : ClD X.prog X.w X.K X.mg X.base k x C st ps sp) (B : KwO "__init__" st ps key) (hr : Room k2 X.A) (hv : DE X v dv) (hk : k + 1 ≤ k2 := by decide) (hg : Gl X x := by rfl) (hdb : (x == ("__debug__" : Str)) = false := by decide)
    (hall : (backToKw pos (keywordEach [⟨some key, v, kpos⟩] X.env)).all (·.1.isSome) = true := by rfl) (hks : (backToKw pos (keywordEach [⟨some key, v, kpos⟩] X.env)).filterMap (·.1) = [key] := by rfl)
    (hpl : ((backTo pos (starEach [] X.env)).any (·.1) || (backToKw pos (keywordEach [⟨some key, v, kpos⟩] X.env)).any (·.1.isNone)) = false := by rfl) : DE X (.Call (.Name x p) [] [⟨some key, v, kpos⟩] pos) (dMakeK mk C sp dv) := by
  obtain ⟨qual, f, fd, F, hm, M, hb, ok⟩ := F.ex
  refine pe_w (pe_makeK0 M ok (hr.mono hk) hg hm (kbn_one F B) pass0 (dk_cons hv dk_nil) hall hks hdb hpl) fun σ H Q ⟨Z, F0, M, ρ, QD, R, h, o⟩ => ?_
  refine ⟨Z, F0, M, ρ, oneD _, R, h, fun vs ds F1 H1 M1 e1 R1 r1 h1 => ?_⟩
  obtain ⟨y, rfl, h1⟩ := oneD_of h1
  obtain ⟨z, ts, rfl, r3, r4⟩ := r1.uncons
  cases r4.unnil
  refine ⟨rfl, rfl, fun a dx ha hdx hne => ⟨Z, F1, _, _, _, relM_made R1 ha hdx hne, .two (.ref a) r3, h1 a (R1.fresh ha).2, fun v d F2 H2 M2 e2 R2 r2 h2 => ?_⟩⟩
  obtain ⟨rfl, q2⟩ := h2
  refine ⟨r2.toNon, ?_⟩
  cases mk with
  | true => exact o _ _ F2 H2 M2 (e1.trans e2) R2 (.ref a) q2
  | false =>
    obtain ⟨gs, q3, q4⟩ := q2
    obtain ⟨dx2, fs, q5, q6, q7⟩ := (R2.chg a _ q3).2
    obtain ⟨R3, e3⟩ := R2.frz q3 q5
    exact o _ _ _ H2 _ ((e1.trans e2).trans e3) R3 (.ins upd_same (q6.mono e3) q7) q4
end
end DL
/-! a told pair of two new lists, frozen at once -/
namespace DL
open PySem PySem.Spec PyProof.Rows L2
def dFrzT (da : TED) : TED := fun ρ M Q => da ρ M fun x M1 => ∃ a b ds es, x = .tup [.ref a, .ref b] ∧ b ≠ a ∧ M1 a = some (.lst ds) ∧ M1 b = some (.lst es) ∧ Q (.tup [.lst ds, .lst es]) (delM (delM M1 a) b)
theorem de_frzT {X : Cx} {e : Expr} {da : TED} (ha : DE X e da) : DE X e (dFrzT da) := pe_w ha fun σ H Q ⟨Z, F, M, ρ, QD, R, h, o⟩ => by
  refine ⟨Z, F, M, ρ, _, R, h, fun x d F1 H1 M1 e1 R1 r1 h1 => ?_⟩
  obtain ⟨a, b, ds, es, rfl, ne, ha, hb, h1⟩ := h1
  obtain ⟨xs, ka, ra⟩ := (R1.chg a _ ha).2
  obtain ⟨R2, e2⟩ := R1.frz ha ka
  have hb2 : delM M1 a b = some (.lst es) := by rw [delM_ne ne]; exact hb
  obtain ⟨ys, kb, rb⟩ := (R2.chg b _ hb2).2
  obtain ⟨R3, e3⟩ := R2.frz hb2 kb
  cases r1 with
  | tup q1 q2 =>
    obtain ⟨v, vs, rfl, g1, q2⟩ := q2.uncons
    obtain ⟨u, us, rfl, g2, q2⟩ := q2.uncons
    cases q2.unnil
    cases g1
    cases g2
    have ea : Rep X.K (upd (upd F1 a (.lst xs)) b (.lst ys)) (.ref a) (.lst ds) := .lst (by rw [upd_ne ne.symm]; exact upd_same) (ra.mono (e2.trans e3))
    have eb : Rep X.K (upd (upd F1 a (.lst xs)) b (.lst ys)) (.ref b) (.lst es) := .lst upd_same (rb.mono e3)
    exact o _ _ _ _ _ ((e1.trans e2).trans e3) R3 (.tup (ext_t (e2.trans e3) q1) (.two ea eb)) h1
end DL
/-! o[i] as one of several targets -/
namespace DL
open PySem PySem.Spec PyProof.Rows L2
section
variable {X : Cx} {pos : Pos} {vs : List Nat}
theorem dgo_sub {o i : Expr} {do_ di : TED} (ho : DE X o do_) (hi : DE X i di)
    (ha : ∀ v, assign (.Subscript o i pos) X.env v = (do
      let ov ← holding [v] (eval o X.env)
      let iv ← holding [v, ov] (eval i X.env)
      standAt pos
      holding [v, ov, iv] (setItem ov iv v)
      release [v, ov, iv] []) := by intro _; rfl) : DGo X (.Subscript o i pos) vs (dgSub do_ di) :=
  pg_w (pg_sub ho hi set_list ha) fun v σ H Q ⟨Z, F, M, ρ, x, QD, R, r, h, o⟩ => by
    refine ⟨Z, F, M, ρ, _, R, h, fun w a F1 H1 M1 e1 R1 r1 h1 => ⟨Z, F1, M1, ρ, _, R.ext e1 R1, h1, fun w2 b F2 H2 M2 e2 R2 r2 h2 => ?_⟩⟩
    match a, r1, b, r2, h2 with
    | .ref p, .ref _, .int k, r2, ⟨ds, j, q1, q2, q3⟩ =>
      obtain ⟨xs, q4, r4⟩ := (R2.chg p _ q1).2
      refine ⟨p, xs, k, j, rfl, r2.toInt, q4, r4.length ▸ q2, ?_⟩
      have e12 := e1.trans e2
      exact o _ _ _ _ _ e12 (R.ext e12 (R2.write (o := .lst (xs.set j v)) (m := .lst (ds.set j x)) q1 ⟨_, upd_same, r4.set (r.mono e12) j⟩)) rfl q3
end
end DL
/-! [.. for i, x in enumerate(xs)], where xs may change but does not meanwhile -/
namespace DL
open PySem PySem.Spec PyProof.Rows L2
section
def dLcEM (mk : Bool) (vs : List Nat) (dA : TAD) (g : TGD) (tt : TTD) (te : TED) : TED := fun ρ M Q => dA ρ M fun xs M1 => ∃ (p : Addr) (ds : List Dat), xs = [.ref p] ∧ M1 p = some (.lst ds) ∧ ds.length ≤ sizeLine ∧ lcGoM p ds g tt te (wipeD ρ vs) mk Q (enumD ds) [] M1
theorem up_lcEM {K : PySem.W.Frag} {mk : Bool} {vs : List Nat} {dA : TAD} {g : TGD} {tt : TTD} {te : TED} {σ : L2.St} {H : Hp} {Q : VK} (h : up K (dLcEM mk vs dA g tt te) σ H Q) : tLc (iEnum K (upA K dA)) (upGo K vs g) (upT K tt) (up K te) vs σ H Q := by
  obtain ⟨Z, F, M, ρ, QD, R, h, o⟩ := h
  refine ⟨Z, F, M, ρ, _, R, h, fun vs0 xs0 F1 H1 M1 e1 R1 r0 h1 => ?_⟩
  obtain ⟨p, ds, rfl, hp1, hz, h1⟩ := h1
  obtain ⟨v0, w0, rfl, q0, r0⟩ := r0.uncons
  cases r0.unnil
  cases q0
  have atp : ∀ {F' H' : Hp} {M' : MH}, RelM K Z F' H' M' → M' p = some (.lst ds) → ∃ xs, H' p = some (.lst xs) ∧ Reps K F' xs ds := fun R q => (R.chg p _ q).2
  obtain ⟨ys0, y0, _⟩ := atp R1 hp1
  refine ⟨p, ys0, rfl, SqL.of y0, ?_⟩
  intro D hD
  have hidD : ∀ {F : Hp} {H : Hp} {M : MH} {accv : List V}, RelM K (upd Z D (.lst accv)) F H M → H D = some (.lst accv) ∧ F D = none ∧ M D = none := fun R => R.hid D _ upd_same
  -- the hidden list, put away and taken up
  have hide : ∀ {F H : Hp} {M : MH} {accv : List V}, RelM K Z F H M → H D = some (.lst accv) → F D = none → M D = none → RelM K (upd Z D (.lst accv)) F H M := fun {F H M accv} R hH hF hM =>
    ⟨R.sub, fun b u q => by
      by_cases hb : b = D
      · subst hb
        rw [upd_same] at q
        cases q
        exact ⟨hH, hF, hM⟩
      · rw [upd_ne hb] at q
        exact R.hid b u q, R.chg⟩
  have hZD : Z D = none := by
    cases q : Z D with
    | none => rfl
    | some u =>
      rw [(R1.hid D u q).1] at hD
      cases hD
  have bare : ∀ {F H : Hp} {M : MH} {accv : List V}, RelM K (upd Z D (.lst accv)) F H M → RelM K Z F H M := fun {F H M accv} R =>
    ⟨R.sub, fun b u q => R.hid b u (by rw [upd_ne (ne_of_none q hZD)]; exact q), R.chg⟩
  refine ⟨fun i m H => m = ds.length - i ∧ i ≤ ds.length ∧ ∃ F' M accv acc, Ext F1 F' ∧ RelM K Z F' H M ∧ H D = some (.lst accv) ∧ F' D = none ∧ M D = none ∧ Reps K F' accv acc ∧ acc.length ≤ i ∧ lcGoM p ds g tt te (wipeD ρ vs) mk QD ((enumD ds).drop i) acc M,
    ⟨ds.length, by simp, Nat.zero_le _, F1, M1, [], [], Ext.refl _, ⟨fun b u q => ?_, fun b u q => ?_, fun b m q => ?_⟩, upd_same, (R1.fresh hD).1, (R1.fresh hD).2, .nil, Nat.le_refl _, h1⟩, ?_⟩
  · rw [upd_ne (ne_of_none (R1.sub b u q) hD)]
    exact R1.sub b u q
  · obtain ⟨q1, q2, q3⟩ := R1.hid b u q
    exact ⟨by rw [upd_ne (ne_of_none q1 hD)]; exact q1, q2, q3⟩
  · obtain ⟨q1, q2⟩ := R1.chg b m q
    exact ⟨q1, q2.mono (Ext.refl _) (upd_ne (R1.ne hD q))⟩
  rintro i m H2 ⟨rfl, hi, F2, M2, accv, acc, e2, R2, a1, a2, a3, a4, a5, h2⟩
  by_cases hlt : i < ds.length
  · obtain ⟨d, hd⟩ : ∃ d, ds[i]? = some d := ⟨ds[i], List.getElem?_eq_getElem hlt⟩
    have lt2 : i < (enumD ds).length := by
      rw [enumD_len]
      exact hlt
    have hdr : (enumD ds).drop i = .tup [.int (i : Nat), d] :: (enumD ds).drop (i + 1) := by
      rw [List.drop_eq_getElem_cons lt2]
      obtain ⟨d9, g9, e9⟩ := enumD_at (List.getElem?_eq_getElem lt2)
      rw [e9, Option.some.inj (g9.symm.trans hd)]
    rw [hdr] at h2
    unfold lcGoM at h2
    obtain ⟨hp2, h2⟩ := h2
    obtain ⟨xs2, q2, r2⟩ := atp R2 hp2
    obtain ⟨v2, hv2, rv2⟩ := r2.get hd
    refine .inr ⟨⟨xs2, v2, SqL.of q2, hv2⟩, fun H' => ∃ F' M accv acc, Ext F1 F' ∧ RelM K Z F' H' M ∧ H' D = some (.lst accv) ∧ F' D = none ∧ M D = none ∧ Reps K F' accv acc ∧ acc.length ≤ i + 1 ∧ lcGoM p ds g tt te (wipeD ρ vs) mk QD ((enumD ds).drop (i + 1)) acc M,
      fun H' n => ⟨ds.length - (i + 1), by omega, rfl, hlt, n⟩, fun x H' y => ?_⟩
    have R2h := hide R2 a1 a2 a3
    · obtain ⟨T, u9, rfl, nT, rfl, y⟩ := y
      cases (y xs2 (SqL.of q2)).symm.trans hv2
      obtain ⟨R9, e9⟩ := R2h.newF (o := .tup _) nT
      obtain ⟨F3, e3, R3, r3⟩ : ∃ F'', Ext F2 F'' ∧ RelM K (upd Z D (.lst accv)) F'' _ M2 ∧ Rep K F'' _ (.tup [.int (i : Nat), d]) := ⟨_, e9, R9, .tup (SqT.of upd_same) (.two (.int _) (rv2.mono e9))⟩
      have R0 : Rel K (upd Z D (.lst accv)) F3 _ M2 (wipe σ vs) (wipeD ρ vs) := ⟨R3, (wipeD_rep R.e vs).mono ((e1.trans e2).trans e3)⟩
      refine ⟨upd Z D (.lst accv), F3, M2, wipeD ρ vs, _, _, R0, r3, h2, fun σ4 ρ4 F4 H4 M4 e4 R4 wp h4 => ⟨wp.trans wipe_wipe, ?_⟩⟩
      refine ⟨upd Z D (.lst accv), F4, M4, ρ4, _, R4, h4, fun b F5 H5 M5 e5 R5 h5 => ?_⟩
      have e15 := ((e2.trans e3).trans e4).trans e5
      cases b with
      | true =>
        dsimp only at h5 ⊢
        rw [if_pos rfl] at h5 ⊢
        refine ⟨upd Z D (.lst accv), F5, M5, ρ4, _, R4.ext e5 R5, h5, fun yv yd F6 H6 M6 e6 R6 r6 h6 => ?_⟩
        obtain ⟨b1, b2, b3⟩ := hidD R6
        refine ⟨accv, b1, by have := a4.length; omega, F6, M6, accv ++ [yv], acc ++ [yd], e15.trans e6, ⟨fun b u q => ?_, fun b u q => ?_, fun b m q => ?_⟩, upd_same, b2, b3, (a4.mono (((e3.trans e4).trans e5).trans e6)).app (.one r6), by rw [List.length_append, List.length_singleton]; omega, h6⟩
        · rw [upd_ne (ne_of_none q b2)]
          exact R6.sub b u q
        · obtain ⟨q1, q2, q3⟩ := (bare R6).hid b u q
          exact ⟨by rw [upd_ne (ne_of_none q hZD)]; exact q1, q2, q3⟩
        · obtain ⟨q1, q2⟩ := R6.chg b m q
          exact ⟨q1, q2.mono (Ext.refl _) (upd_ne (ne_dom q b3))⟩
      | false =>
        dsimp only at h5 ⊢
        rw [if_neg Bool.false_ne_true] at h5 ⊢
        obtain ⟨b1, b2, b3⟩ := hidD R5
        exact ⟨F5, M5, accv, acc, e15, bare R5, b1, b2, b3, a4.mono ((e3.trans e4).trans e5), by omega, h5⟩
  · have e : i = ds.length := by omega
    subst e
    rw [← enumD_len ds, List.drop_length] at h2
    unfold lcGoM at h2
    obtain ⟨hp2, h2⟩ := h2
    obtain ⟨xs2, q2, r2⟩ := atp R2 hp2
    refine .inl ⟨⟨xs2, SqL.of q2, by rw [r2.length]; exact Nat.le_refl _⟩, ?_⟩
    cases mk with
    | false =>
      have h2' : QD (.lst acc) M2 := h2
      have ee := Ext.new (o := .lst accv) a2
      refine o _ _ (upd F2 D (.lst accv)) H2 M2 ((e1.trans e2).trans ee) ⟨fun b u q => ?_, fun b u q => ?_, fun b m q => ?_⟩ (.lst upd_same (a4.mono ee)) h2'
      · by_cases hb : b = D
        · subst hb
          rw [upd_same] at q
          cases q
          exact a1
        · rw [upd_ne hb] at q
          exact R2.sub b u q
      · obtain ⟨q1, q2, q3⟩ := R2.hid b u q
        exact ⟨q1, by rw [upd_ne (ne_of_none q hZD)]; exact q2, q3⟩
      · obtain ⟨q1, q2⟩ := R2.chg b m q
        exact ⟨by rw [upd_ne (ne_dom q a3)]; exact q1, q2.mono ee rfl⟩
    | true =>
      have h2' := (show ∀ a, M2 a = none → QD (.ref a) (updM M2 a (.lst acc)) from h2) D a3
      refine o _ _ F2 H2 (updM M2 D (.lst acc)) (e1.trans e2) ⟨R2.sub, fun b u q => ?_, fun b m q => ?_⟩ (.ref D) h2'
      · obtain ⟨q1, q2, q3⟩ := R2.hid b u q
        exact ⟨q1, q2, by rw [updM_ne (ne_of_none q hZD)]; exact q3⟩
      · by_cases hb : b = D
        · subst hb
          rw [updM_same] at q
          cases q
          exact ⟨a2, accv, a1, a4⟩
        · rw [updM_ne hb] at q
          exact R2.chg b m q
variable {X : Cx}
theorem de_lcEM (mk : Bool) {elt a : Expr} {elts : List Expr} {kk : Nat} {p ipos tpos : Pos} {ifs : List Expr} {scope : Scope} {own : List (Str × Nat)} {pos : Pos} {dA : TAD} {g : TGD} {tt : TTD} {te : TED} (hN : X.N.Nodup) (hm : X.mg "enumerate" = none) (ha : DA X [a] dA) (ok : BlkOk X.N X.env.scope scope own)
    (hg : ∀ (s : Shared) (H : Hp) (C : Addr) (cl : List (Str × Addr)) (fp : List Addr), DGo (X.blk s H scope (compEnvC scope cl C X.env) fp) (.Tuple elts kk tpos) (own.map (·.2)) g) (ht : ∀ (s : Shared) (H : Hp) (C : Addr) (cl : List (Str × Addr)) (fp : List Addr), DTs (X.blk s H scope (compEnvC scope cl C X.env) fp) ifs tt)
    (he : ∀ (s : Shared) (H : Hp) (C : Addr) (cl : List (Str × Addr)) (fp : List Addr), DE (X.blk s H scope (compEnvC scope cl C X.env) fp) elt te) (hgl : Gl X "enumerate" := by rfl) (hse : starEach [a] X.env = [(false, eval a X.env)] := by rfl) (hc : X.calm = true := by rfl)
    (hs : ∀ x, foldedSetIterable (.Call (.Name "enumerate" p) [a] [] ipos) X.env x = pure x := by intro _; rfl) :
    DE X (.ListComp elt [⟨.Tuple elts kk tpos, .Call (.Name "enumerate" p) [a] [] ipos, ifs, 0⟩] scope pos) (dLcEM mk (own.map (·.2)) dA g tt te) := pe_w (pe_lc hc hN (pi_enum hgl hm ha hse) ok hg ht he hs) fun σ H Q h => up_lcEM h
end
end DL
/-! xs.clear() and xs.pop(i) of a list that may change -/
namespace DL
open PySem PySem.Spec PyProof.Rows L2
section
variable {X : Cx}
def rClearD : Dat → List Dat → MH → VKD → Prop := fun x as M Q => match x with
  | .ref a => (match as with
    | [] => ∃ ds, M a = some (.lst ds) ∧ Q .non (updM M a (.lst []))
    | _ => False)
  | _ => False
theorem md_clear : MtD X "list.clear" rClearD := ⟨_, mt_clear, fun Z F H M x xs a as Q QD R ra rs hd o => by
  unfold rClearD at hd
  split at hd
  · rename_i p
    split at hd
    · obtain ⟨ds, told, good⟩ := hd
      cases ra
      cases rs.unnil
      obtain ⟨ys, here, _⟩ := (R.chg p _ told).2
      have R3 := R.write (o := .lst []) (m := .lst []) told ⟨_, upd_same, .nil⟩
      exact ⟨p, ys, rfl, rfl, here, o _ _ F _ _ (Ext.refl F) R3 .non good⟩
    · exact hd.elim
  · exact hd.elim⟩
/-- xs.pop(i), 0 ≤ i -/
def rPopAtD : Dat → List Dat → MH → VKD → Prop := fun x as M Q => match x with
  | .ref a => (match as with
    | [.int i] => ∃ ds d, M a = some (.lst ds) ∧ 0 ≤ i ∧ i < 2 ^ 63 ∧ ds[i.toNat]? = some d ∧ Q d (updM M a (.lst (ds.take i.toNat ++ ds.drop (i.toNat + 1))))
    | _ => False)
  | _ => False
theorem md_popAt : MtD X "list.pop" rPopAtD := ⟨_, mt_popAt, fun Z F H M x xs a as Q QD R ra rs hd o => by
  unfold rPopAtD at hd
  split at hd
  · rename_i p
    split at hd
    · rename_i i
      obtain ⟨ds, d, told, low, high, at_i, good⟩ := hd
      obtain ⟨v, ws, rfl, r1, rs⟩ := rs.uncons
      cases rs.unnil
      cases r1.toInt
      cases ra
      obtain ⟨ys, here, rr⟩ := (R.chg p _ told).2
      obtain ⟨y, at_y, ry⟩ := rr.get at_i
      have inside : i < (ys.length : Int) := by
        have := (List.getElem?_eq_some_iff.mp at_y).1
        omega
      refine ⟨p, ys, i, i.toNat, y, rfl, rfl, here, by omega, high, PySem.StrLaws.seqIndex_nonneg low inside, at_y, ?_⟩
      rw [List.eraseIdx_eq_take_drop_succ]
      have R3 := R.write (o := .lst (ys.take i.toNat ++ ys.drop (i.toNat + 1))) (m := .lst (ds.take i.toNat ++ ds.drop (i.toNat + 1))) told ⟨_, upd_same, (rr.take _).app (rr.drop _)⟩
      exact o _ _ F _ _ (Ext.refl F) R3 ry good
    · exact hd.elim
  · exact hd.elim⟩
end
end DL
/-! a method that may raise, called with one argument by its name -/
namespace DL
open PySem PySem.Spec PyProof.Rows L2
def xMethK (C : Addr) (m : Str) (sp : SpXD) (do_ dv : TED) : XDt → TED := fun WD ρ M Q => do_ ρ M fun x M1 => (∃ gs, fieldsOf M1 x = some (C, gs) ∧ (gs.map (·.1)).contains m = false) ∧ dv ρ M1 fun y M2 => sp [x, y] M2 Q fun D f z M' => WD D f z ρ M'
section
variable {X : Cx} {W : WX} {C : Addr} {m key : Str} {k k2 : Nat} {st : Stmt} {ps : List Str} {sp : SpXD} {o v : Expr} {do_ dv : TED} {pos apos kpos : Pos}
/-- the receiver by place, the argument by its name; what is raised goes on -/
theorem run_kwX {pins : List (Addr × Obj)} {σ : L2.St} {H : Hp} {s : Shared} {Q : VK} {f : Addr} {fd : FuncData} {u w : Value} {x y : V} {spV : Sp} (ok : FnOk X.prog X.w X.K X.mg X.base (L2.CX X.prog X.w) k f fd ps spV) (room : Room k X.A)
    (B : KBn X.K fd ps 1 [key] (fun us ws => us ++ ws) (fun vs zs => vs ++ zs)) (tk : Takes X W) (I : Inv X pins σ H s) (r1 : Vals [x] [u]) (r2 : Vals [y] [w]) (told : spV [x, y] H Q (WE W σ)) :
    wpAny (model X.prog X.w) X.A (call (.ref f) [u] ([key].zip [w])) (EP X pins σ Q) X.xe s := by
  have run := ok.run X.A X.stack s H ⟨[u], [key].zip [w]⟩ ([u] ++ [w]) ([x] ++ [y]) Q (WE W σ) room I.env0 (B.to s [u] [w] I.kIn rfl rfl) (B.rel r1 r2) told
  refine wpAny_call (codeAny_mono run ?_)
  intro out s' got
  match out, got with
  | .error e, got => exact passAt tk σ pins H s e s' I got
  | .ok (.ret _), got => exact I.after got
  | .ok .next, got => exact got.elim
  | .ok .brk, got => exact got.elim
  | .ok .cont, got => exact got.elim
theorem dex_methK {pl : Sem Bool} (F : MtX X.prog X.w X.K X.mg X.base k C m st ps sp) (B : KwO m st ps key) (cl : Cls X.K C) (hr : Room k2 X.A) (tk : Takes X W) (ho : DE X o do_) (hv : DE X v dv) (hk : k ≤ k2 := by decide)
    (hall : (backToKw pos (keywordEach [⟨some key, v, kpos⟩] X.env)).all (·.1.isSome) = true := by rfl) (hks : (backToKw pos (keywordEach [⟨some key, v, kpos⟩] X.env)).filterMap (·.1) = [key] := by rfl)
    (hpl : ((backTo pos (starEach [] X.env)).any (·.1) || (backToKw pos (keywordEach [⟨some key, v, kpos⟩] X.env)).any (·.1.isNone)) = false := by rfl)
    (ht : eval (.Call (.Attribute o m apos) [] [⟨some key, v, kpos⟩] pos) X.env = (do
      let ov ← eval o X.env
      standAt apos.atName
      let (f, first) ← holding [ov] (getMethod ov m pl)
      callWith pos f first (backTo pos (starEach [] X.env)) (backToKw pos (keywordEach [⟨some key, v, kpos⟩] X.env))) := by rfl) : DEX X W (.Call (.Attribute o m apos) [] [⟨some key, v, kpos⟩] pos) (xMethK C m sp do_ dv) := by
  obtain ⟨qual, f, fd, F, hm, hb, ok⟩ := F.ex
  refine ⟨fun pins s σ H Q I ⟨Z, F0, M, ρ, QD, WD, R, h, oq, ow⟩ => PySem.W.methodCall_KW (pl := pl) (thn (ho.run pins s σ H (fun x H1 => ∃ F1 M1 d, Ext F0 F1 ∧ RelM X.K Z F1 H1 M1 ∧ Rep X.K F1 x d ∧ (∃ gs, fieldsOf M1 d = some (C, gs) ∧ (gs.map (·.1)).contains m = false) ∧ dv ρ M1 fun y M2 => sp [d, y] M2 QD fun D f z M' => WD D f z ρ M') I
    ⟨Z, F0, M, ρ, _, R, h, fun x d F1 H1 M1 e1 R1 r1 h1 => ⟨F1, M1, d, e1, R1, r1, h1⟩⟩) fun u s1 got => ?_) ht⟩
  obtain ⟨x, H1, I1, rx, F1, M1, d, e1, R1, r1, ⟨gs, q1, q2⟩, h1⟩ := got
  obtain ⟨a, dx, fs, rfl, q3, q4, q5⟩ := fieldsOf_rep R1 r1 q1
  obtain rfl : u = Value.ref a := rx
  refine getmeth_ok I1 q3 cl hm (repF_none q4 q2) (PySem.W.callWith_KW0 (first := [.ref a]) (h₀ := X.base) I1.ok.mod.kin hm.kp hall (thn ((dk_cons hv dk_nil).run pos pins s1 σ H1 (fun zs H2 => ∃ z, zs = [z] ∧ toSpX X.K sp [.ref a, z] H2 Q (WE W σ)) I1
    ⟨Z, F1, M1, ρ, oneD fun y M2 => sp [d, y] M2 QD fun D f z M' => WD D f z ρ M', R.ext e1 R1, h1, fun zs ds F2 H2 M2 e2 R2 r2 h2 => ?_⟩) fun ws s2 got => ?_) hpl)
  · obtain ⟨y, rfl, h2⟩ := oneD_of h2
    obtain ⟨z, ts, rfl, r3, r4⟩ := r2.uncons
    cases r4.unnil
    have e12 := e1.trans e2
    exact ⟨z, rfl, Z, F2, M2, _, QD, _, R2, .two (r1.mono e2) r3, h2, oq.mono e12, fun D dd g y F' H' M' e' R' n q => ow D dd g y σ ρ F' H' M' (e12.trans e') R' n (R.e.mono (e12.trans e')) q⟩
  · obtain ⟨zs, H2, I2, rz, z, rfl, hsp⟩ := got
    refine ⟨I2.kIn, ?_⟩
    rw [hks]
    match ws, rz with
    | [w], rz => exact run_kwX (x := .ref a) (u := .ref a) ok (hr.mono hk) (kbn_one F B) tk I2 (.cons rfl .nil) rz hsp
end
end DL
/-! two lists of unlike lengths, compared: whatever they hold -/
namespace NeQ
open PySem PySem.SeqAt
open AutoSeq1 (wpAny_loadPart')
open MeetsSeq MeetsSeq2 MeetsSeq3 SeqRoads2 GQ
section
variable {prog : Program} {w : World} {A : Around} {R : Result → Shared → Prop}
theorem ne_sizes {l b : Addr} {items items2 : Array Value} {n n2 : Nat} {sl sl2 : Array (Option Value)} {s : Shared} (unlike : (items.size != items2.size) = true) (gl : s.heap.get? l = some { cls := .type "list", dict := none, data := .seq items n, slots := sl })
    (gb : s.heap.get? b = some { cls := .type "list", dict := none, data := .seq items2 n2, slots := sl2 }) (told : R (.ok (.ret (.bool true))) s) : wpAny (model prog w) A.in1 (Builtin.«list.__ne__» ⟨[.ref l, .ref b], []⟩) (FinOf prog w A R) (fun e s' => R (.error e) s') s := by
  have two := AutoSeq1.sub_list_list
  obtain ⟨hp, g, d, tk, os⟩ := s
  wp_walk using wpAny_loadPart' gl, wpAny_loadPart' gb
  exact told
theorem eq_sizes {l b : Addr} {items items2 : Array Value} {n n2 : Nat} {sl sl2 : Array (Option Value)} {s : Shared} (unlike : (items.size != items2.size) = true) (gl : s.heap.get? l = some { cls := .type "list", dict := none, data := .seq items n, slots := sl })
    (gb : s.heap.get? b = some { cls := .type "list", dict := none, data := .seq items2 n2, slots := sl2 }) (told : R (.ok (.ret (.bool false))) s) : wpAny (model prog w) A.in1 (Builtin.«list.__eq__» ⟨[.ref l, .ref b], []⟩) (FinOf prog w A R) (fun e s' => R (.error e) s') s := by
  have two := AutoSeq1.sub_list_list
  obtain ⟨hp, g, d, tk, os⟩ := s
  wp_walk using wpAny_loadPart' gl, wpAny_loadPart' gb
  exact told
end
end NeQ
namespace DL
open PySem PySem.Spec PyProof.Rows L2
def rSiz (t : Bool) (x y : V) (H : Hp) (Q : VK) (K : PySem.W.Frag) : Prop := ∃ l b xs ys, x = .ref l ∧ y = .ref b ∧ SqL K H l xs ∧ SqL K H b ys ∧ xs.length ≠ ys.length ∧ Q (.bl t) H
theorem op_neSiz {X : Cx} {k : Nat} (hr : Room k X.A) : OpR X (compareOp .NotEq) (fun x y H Q => rSiz true x y H Q X.K) := by
  rintro pins s σ H x y v u Q I rx ry ⟨l, b, xs, ys, rfl, rfl, hl, hb, un, q⟩
  cases rx
  cases ry
  obtain ⟨is, r, ⟨⟨c1, d1, t1, sl⟩, k1, e, h3, h4, h5⟩, _⟩ := I.list hl
  obtain ⟨js, r2, ⟨⟨c2, d2, t2, sl2⟩, k2, e2, g3, g4, g5⟩, _⟩ := I.list hb
  simp only at h3 h4 h5 g3 g4 g5
  subst h3 h4 h5 g3 g4 g5
  have unlike : (is.toArray.size != js.toArray.size) = true := by
    rw [List.size_toArray, List.size_toArray, ← r.length, ← r2.length]
    exact bne_iff_ne.mpr un
  refine wpAny_richCompare_same_room (op := .NotEq) ⟨_, e, rfl⟩ ⟨_, e2, rfl⟩ F.slot_list_ne (GQ.call_here F.slot_list_ne ⟨_, e, rfl⟩ F.entry_list_ne (F.args_list_ne_2 _ _) ?_) hr.units0
  exact NeQ.ne_sizes (R := wants (fun v s' => v ≠ .notImplemented ∧ EP X pins σ Q v s') X.xe) unlike e e2 ⟨(fun x => nomatch x), .bl true, H, I, rfl, q⟩
theorem op_eqSiz {X : Cx} {k : Nat} (hr : Room k X.A) : OpR X (compareOp .Eq) (fun x y H Q => rSiz false x y H Q X.K) := by
  rintro pins s σ H x y v u Q I rx ry ⟨l, b, xs, ys, rfl, rfl, hl, hb, un, q⟩
  cases rx
  cases ry
  obtain ⟨is, r, ⟨⟨c1, d1, t1, sl⟩, k1, e, h3, h4, h5⟩, _⟩ := I.list hl
  obtain ⟨js, r2, ⟨⟨c2, d2, t2, sl2⟩, k2, e2, g3, g4, g5⟩, _⟩ := I.list hb
  simp only at h3 h4 h5 g3 g4 g5
  subst h3 h4 h5 g3 g4 g5
  have unlike : (is.toArray.size != js.toArray.size) = true := by
    rw [List.size_toArray, List.size_toArray, ← r.length, ← r2.length]
    exact bne_iff_ne.mpr un
  refine wpAny_richCompare_same_room (op := .Eq) ⟨_, e, rfl⟩ ⟨_, e2, rfl⟩ F.slot_list_eq (GQ.call_here F.slot_list_eq ⟨_, e, rfl⟩ F.entry_list_eq (F.args_list_eq_2 _ _) ?_) hr.units0
  exact NeQ.eq_sizes (R := wants (fun v s' => v ≠ .notImplemented ∧ EP X pins σ Q v s') X.xe) unlike e e2 ⟨(fun x => nomatch x), .bl false, H, I, rfl, q⟩
/-- lists of unlike lengths, that may change or not -/
def rNeSiz : R2D := fun x y M Q => ∃ xs ys, lsR M x = some xs ∧ lsR M y = some ys ∧ xs.length ≠ ys.length ∧ Q (.bl true) M
def rEqSiz : R2D := fun x y M Q => ∃ xs ys, lsR M x = some xs ∧ lsR M y = some ys ∧ xs.length ≠ ys.length ∧ Q (.bl false) M
theorem od_neSiz {X : Cx} {k : Nat} (hr : Room k X.A) : OpD X (compareOp .NotEq) rNeSiz := ⟨_, op_neSiz hr, fun Z F H M x y a b Q QD R ra rb hd o => by
  obtain ⟨xs, ys, h1, h2, un, h⟩ := hd
  obtain ⟨pa, us, rfl, s1, r1⟩ := lsR_rep R ra h1
  obtain ⟨pb, vs, rfl, s2, r2⟩ := lsR_rep R rb h2
  exact ⟨_, _, _, _, rfl, rfl, s1, s2, by rw [r1.length, r2.length]; exact un, o _ _ F H M (Ext.refl F) R (.bl true) h⟩⟩
theorem od_eqSiz {X : Cx} {k : Nat} (hr : Room k X.A) : OpD X (compareOp .Eq) rEqSiz := ⟨_, op_eqSiz hr, fun Z F H M x y a b Q QD R ra rb hd o => by
  obtain ⟨xs, ys, h1, h2, un, h⟩ := hd
  obtain ⟨pa, us, rfl, s1, r1⟩ := lsR_rep R ra h1
  obtain ⟨pb, vs, rfl, s2, r2⟩ := lsR_rep R rb h2
  exact ⟨_, _, _, _, rfl, rfl, s1, s2, by rw [r1.length, r2.length]; exact un, o _ _ F H M (Ext.refl F) R (.bl false) h⟩⟩
/-- one rule of two -/
def rTwo (p q : R2D) : R2D := fun x y M Q => p x y M Q ∨ q x y M Q
theorem opd_two {X : Cx} {f : Value → Value → Sem Value} {p q : R2D} (h : OpD X f p) (g : OpD X f q) : OpD X f (rTwo p q) := by
  obtain ⟨r1, h1, k1⟩ := h
  obtain ⟨r2, h2, k2⟩ := g
  exact ⟨_, OpR.or h1 h2, fun Z F H M x y a b Q QD R ra rb hd o => hd.elim (fun z => .inl (k1 Z F H M x y a b Q QD R ra rb z o)) (fun z => .inr (k2 Z F H M x y a b Q QD R ra rb z o))⟩
end DL
/-! instances that may change, compared by the class's own == (and by !=, which asks it) -/
namespace NeO
open PySem PySem.Calls PySem.W PyProof.Rows Builtin
section
variable {M : Model} {A : Around} {E : Value → Shared → Prop} {s : Shared} {K : Frag} {x C : Addr} {ox : Obj} {od : Option Obj}
theorem bound_b {name : Str} {id : String} {args : List Value} {Q : Option Value → Shared → Prop} (X : K.In s.heap) (I : InstAt s.heap x ox C od) (hs : findIn K (.ref C) name = some (some (.builtin id))) (hbd : ∀ self, bindSpecial (.builtin id) self = pure (.builtin id, [self]))
    (h : wpAny M A (call (.builtin id) (.ref x :: args)) (fun v => Q (some v)) E s) : wpAny M A (callSpecialIfBound? (.ref x) name args) Q E s := by
  simp only [callSpecialIfBound?, bindSpecialIfBound?]
  refine wpAny_holding (wpAny_bind (wpAny_bind (wpAny_bind (I.type.here ((looks_findIn X hs).here ?_)))))
  simp only [hbd]
  refine wpAny_bind (wpAny_askSetting (wpAny_ite ?_))
  have told : wpAny M A (call (.builtin id) ([.ref x] ++ args) >>= fun v => pure (some v)) Q E s := wpAny_bind (wpAny_mono h (fun v s' z => wpAny_pure z) fun _ _ z => z)
  split
  · exact wpAny_bind (wpAny_pure (wpAny_pure told))
  · exact wpAny_tryCatch (wpAny_bind (wpAny_pure (wpAny_pure told)))
theorem check_ne {y : Value} {Q : Unit → Shared → Prop} (X : K.In s.heap) (I : InstAt s.heap x ox C od) (hsub : subIn K (.ref C) (.type "object") = some true) (hq : Q () s) : wpAny M A (checkBuiltinCall "object.__ne__" ⟨[.ref x, y], []⟩) Q E s := by
  have hk := F.cmpKind_ne
  have hs := F.cmpSplit_ne
  have ha := F.cmpArgs_ne (.ref x) y
  simp only [checkBuiltinCall, hk, hs]
  refine wpAny_bind ?_
  unfold isInstance
  refine wpAny_bind (I.type.here ?_)
  refine wpAny_mono ((looks_subIn X hsub).here (Q := fun b s' => b = true ∧ s' = s) ⟨rfl, rfl⟩) (fun b s' z => ?_) fun _ _ z => z
  obtain ⟨rfl, rfl⟩ := z
  rw [if_neg (by decide)]
  cases hsig : Manifest.signature? "object.__ne__" with
  | none => exact wpAny_pure hq
  | some sig =>
    simp only [argsOk, hsig] at ha
    have h2 : Bind.checkArgs "object.__ne__" sig ⟨[.ref x, y], []⟩ = pure () := ha
    show wpAny M A (Bind.checkArgs "object.__ne__" sig ⟨[.ref x, y], []⟩) Q E _
    rw [h2]
    exact wpAny_pure hq
end
section
variable {prog : Program} {w : World} {A : Around} {E : Value → Shared → Prop} {s : Shared} {K : Frag} {x y C f L : Addr} {ox oy : Obj} {od ody : Option Obj} {h₀ : Heap} {m : Str → Option Value}
/-- object.__ne__ asks the own == and turns its word round -/
theorem ne_body {Q : Fin → Shared → Prop} (hu : A.units < cLine) (X : K.In s.heap) (I : InstAt s.heap x ox C od) (he : findIn K (.ref C) "__eq__" = some (some (.ref f))) (hf : isFn K (.ref f) = true)
    (h : wpAny (model prog w) A (call (.ref f) [.ref x, .ref y]) (fun v s' => ∃ b, v = .bool b ∧ Q (.done (.ret (.bool (!b)))) s') E s) : wpAny (model prog w) A (Builtin.«object.__ne__» ⟨[.ref x, .ref y], []⟩) Q E s := by
  unfold Builtin.«object.__ne__»
  repeat (first
    | with_reducible refine wpAny_cRoomFor hu ?_
    | (refine wpAny_bind (m := callSpecialIfBound? (.ref x) (Str.ofString "__eq__") [.ref y])
        (ifBound_K X I he hf (wpAny_mono h (fun r s' hr => by
          obtain ⟨b, rfl, hq⟩ := hr
          repeat (first | exact hq | exact wpAny_pure hq | exact wpAny_truthy_bool hq | (refine wpAny_bind (m := truthy (.bool _)) (wpAny_truthy_bool ?_)) | wp_step)) fun _ _ e => e)))
    | wp_step)
theorem cmp_ne {Q : Value → Shared → Prop} (hu : A.units + 1 < cLine) (FR : Fr h₀ L s.heap m) (X₀ : K.In h₀) (I : InstAt s.heap x ox C od) (J : InstAt s.heap y oy C ody)
    (hn : findIn K (.ref C) "__ne__" = some (some (.builtin "object.__ne__"))) (hsub : subIn K (.ref C) (.type "object") = some true) (he : findIn K (.ref C) "__eq__" = some (some (.ref f))) (hf : isFn K (.ref f) = true)
    (h : wpAny (model prog w) A.in1 (call (.ref f) [.ref x, .ref y]) (fun v s' => ∃ b, v = .bool b ∧ Q (.bool (!b)) s') E s) : wpAny (model prog w) A (richCompare .NotEq (.ref x) (.ref y)) Q E s := by
  have X := X₀.keeps FR.keep
  have one : wpAny (model prog w) A (tryCompare (.ref x) "__ne__" (.ref y)) (fun r s' => ∃ v, r = some v ∧ Q v s') E s := by
    simp only [tryCompare]
    refine wpAny_bind (bound_b X I hn PySem.F.cmp_object.ne.bind (wpAny_call (codeAny_call_builtin PySem.F.cmp_object.ne.plain PySem.F.cmpEntry_ne (check_ne X I hsub (ne_body (A := A.in1) (show A.in1.units < cLine from hu) X I he hf (wpAny_mono h (fun v s' hv => ?_) fun _ _ e => e))))))
    obtain ⟨b, rfl, hq⟩ := hv
    first | exact ⟨b, rfl, wpAny_pure ⟨_, rfl, hq⟩⟩ | exact ⟨b, rfl, wpAny_pure (wpAny_pure ⟨_, rfl, hq⟩)⟩ | exact ⟨b, rfl, ⟨_, rfl, hq⟩⟩
  unfold richCompare
  simp only [oneThing_ref]
  refine wpAny_holding (wpAny_bind (wpAny_cRoomFor (Nat.lt_of_succ_lt hu) ?_))
  rw [cmpInfo_NotEq]
  dsimp only
  refine wpAny_bind (I.type.here (wpAny_bind (J.type.here ?_)))
  rw [show (Value.ref C != Value.ref C) = false from by simp]
  simp only [Bool.false_eq_true, if_false]
  refine wpAny_bind (wpAny_pure ?_)
  simp only [Bool.false_eq_true, if_false]
  refine wpAny_bind (wpAny_mono one (fun v s' hv => ?_) fun _ _ e => e)
  obtain ⟨b, rfl, hq⟩ := hv
  first | exact wpAny_pure hq | exact wpAny_pure (wpAny_pure hq)
end
end NeO
namespace L2
open PySem PySem.Spec PyProof.Rows
section
variable {X : Cx} {n : Nat} {C f : Addr} {fd : FuncData} {ps : List Str} {spV : Sp}
/-- two instances of the class at C: the own == tells a truth value -/
def rO (C : Addr) (spV : Sp) (neg : Bool) : R2 := fun x y H Q => ∃ a b dx dy fs gs, x = .ref a ∧ y = .ref b ∧ H a = some (.ins C dx fs) ∧ H b = some (.ins C dy gs) ∧ spV [.ref a, .ref b] H (fun v H' => ∃ c, v = .bl c ∧ Q (.bl (c != neg)) H') E0
theorem own_call (F : FnOk X.prog X.w X.K X.mg X.base CX0 n f fd ps spV) (hb : Binds X.K fd ps []) {A : Around} (sb : Sub X n A) {pins : List (Addr × Obj)} {s : Shared} {σ : St} {H : Hp} (I : Inv X pins σ H s) {a b : Addr} {P : Bool → Hp → Prop}
    (h : spV [.ref a, .ref b] H (fun v H' => ∃ c, v = .bl c ∧ P c H') E0) : wpAny (model X.prog X.w) A (call (.ref f) [.ref a, .ref b]) (fun r s' => ∃ c H', r = .bool c ∧ Inv X pins σ H' s' ∧ P c H') X.xe s := by
  have e0 : Env0 X.prog X.w X.K X.mg X.base A X.stack s H := by
    have e := I.env0
    exact ⟨by rw [sb.fr]; exact e.frames, e.mod, e.bs, e.bsz, e.funs, e.frf, e.hok, e.bare⟩
  have hl := F.len _ _ _ _ h
  have r2 : Vals [V.ref a, V.ref b] [Value.ref a, Value.ref b] := .cons rfl (.cons rfl .nil)
  refine wpAny_call (codeAny_mono (F.run A X.stack s H ⟨[.ref a, .ref b], []⟩ [.ref a, .ref b] [.ref a, .ref b] _ E0 sb.room e0 (by
    have := hb s [.ref a, .ref b] I.kIn (by simpa using hl)
    simpa using this) r2 h) fun r s' hq => ?_)
  cases r with
  | error e => exact (pass0 (X := X)) pins σ H s e s' I hq
  | ok fl =>
    cases fl with
    | ret w =>
      obtain ⟨z, H', I', rz, c, ez, q⟩ := I.after hq
      subst ez
      cases rz
      exact ⟨c, H', rfl, I', q⟩
    | next => exact False.elim hq
    | brk => exact False.elim hq
    | cont => exact False.elim hq
theorem op_eqO (F : FnOk X.prog X.w X.K X.mg X.base CX0 n f fd ps spV) (hm : Meth X.K C "__eq__" f) (hb : Binds X.K fd ps []) (hr : Room n X.A) : OpR X (compareOp .Eq) (rO C spV false) := by
  rintro pins s σ H x y v u Q I rx ry ⟨a, b, dx, dy, fs, gs, rfl, rfl, ha, hb', hsp⟩
  cases rx
  cases ry
  obtain ⟨mA, J, _⟩ := ins_get I.hok ha
  obtain ⟨mB, J', _⟩ := ins_get I.hok hb'
  obtain ⟨od, J, _⟩ := J.look
  obtain ⟨od', J', _⟩ := J'.look
  obtain ⟨m, hF⟩ := I.fr
  show wpAny (model X.prog X.w) X.A (richCompare .Eq (.ref a) (.ref b)) _ _ _
  refine PySem.W.cmp_K (op := .Eq) (tb := .ref C) hr.units0 hF I.ok.mod.kin J J'.type (by simp [PySem.W.notFirst]) hm.at_ hm.fn (wpAny_mono (own_call F hb ⟨hr, rfl⟩ I hsp) (fun r s' z => ?_) fun _ _ z => z)
  obtain ⟨c, H', rfl, I', q⟩ := z
  exact ⟨.bl c, H', I', rfl, by simpa using q⟩
theorem op_neO (F : FnOk X.prog X.w X.K X.mg X.base CX0 n f fd ps spV) (hm : Meth X.K C "__eq__" f) (hn : PySem.W.findIn X.K (.ref C) "__ne__" = some (some (.builtin "object.__ne__"))) (hs : PySem.W.subIn X.K (.ref C) (.type "object") = some true) (hb : Binds X.K fd ps []) (hr : Room (n + 1) X.A) : OpR X (compareOp .NotEq) (rO C spV true) := by
  rintro pins s σ H x y v u Q I rx ry ⟨a, b, dx, dy, fs, gs, rfl, rfl, ha, hb', hsp⟩
  cases rx
  cases ry
  obtain ⟨mA, J, _⟩ := ins_get I.hok ha
  obtain ⟨mB, J', _⟩ := ins_get I.hok hb'
  obtain ⟨od, J, _⟩ := J.look
  obtain ⟨od', J', _⟩ := J'.look
  obtain ⟨m, hF⟩ := I.fr
  show wpAny (model X.prog X.w) X.A (richCompare .NotEq (.ref a) (.ref b)) _ _ _
  have sb : Sub X (n + 1) X.A := ⟨hr, rfl⟩
  refine NeO.cmp_ne sb.in1.room.units0 hF I.ok.mod.kin J J' hn hs hm.at_ hm.fn (wpAny_mono (own_call F hb sb.in1 I hsp) (fun r s' z => ?_) fun _ _ z => z)
  obtain ⟨c, H', rfl, I', q⟩ := z
  refine ⟨c, rfl, .bl (!c), H', I', rfl, ?_⟩
  simpa using q
end
end L2
namespace DL
open PySem PySem.Spec PyProof.Rows L2
def rO_D (C : Addr) (sp : SpD) (neg : Bool) : R2D := fun x y M Q => (∃ gs, fieldsOf M x = some (C, gs)) ∧ (∃ gs, fieldsOf M y = some (C, gs)) ∧ sp [x, y] M fun v M' => ∃ c, v = .bl c ∧ Q (.bl (c != neg)) M'
abbrev rEqO (C : Addr) (sp : SpD) : R2D := rO_D C sp false
abbrev rNeO (C : Addr) (sp : SpD) : R2D := rO_D C sp true
/-- what a class with an own == and no own != has -/
structure NeC (K : PySem.W.Frag) (C : Addr) : Prop where
  ne : PySem.W.findIn K (.ref C) "__ne__" = some (some (.builtin "object.__ne__"))
  sub : PySem.W.subIn K (.ref C) (.type "object") = some true
section
variable {X : Cx} {k k2 : Nat} {C : Addr} {st : Stmt} {ps : List Str} {sp : SpD}
theorem sim_O (neg : Bool) : SimO X.K (rO C (toSp X.K sp) neg) (rO_D C sp neg) := by
  intro Z F H M x y a b Q QD R ra rb hd o
  obtain ⟨⟨gs, g1⟩, ⟨hs, g2⟩, q⟩ := hd
  obtain ⟨p, dx, fs, rfl, h1, _, _⟩ := fieldsOf_rep R ra g1
  obtain ⟨p2, dy, fs2, rfl, h2, _, _⟩ := fieldsOf_rep R rb g2
  refine ⟨p, p2, dx, dy, fs, fs2, rfl, rfl, h1, h2, Z, F, M, [a, b], _, R, .two ra rb, q, fun v d F' H' M' e' R' r' hd => ?_⟩
  obtain ⟨c, rfl, hq⟩ := hd
  cases r'
  exact ⟨c, rfl, o _ _ F' H' M' e' R' (.bl _) hq⟩
theorem od_eqO (F : MtdD X.prog X.w X.K X.mg X.base k C "__eq__" st ps sp) (hr : Room k2 X.A) (hk : k ≤ k2 := by decide) : OpD X (compareOp .Eq) (rEqO C sp) := by
  obtain ⟨qual, f, fd, F, hm, hb, ok⟩ := F.ex
  exact ⟨_, op_eqO ok hm hb (hr.mono hk), sim_O false⟩
theorem od_neO (F : MtdD X.prog X.w X.K X.mg X.base k C "__eq__" st ps sp) (nc : NeC X.K C) (hr : Room k2 X.A) (hk : k + 1 ≤ k2 := by decide) : OpD X (compareOp .NotEq) (rNeO C sp) := by
  obtain ⟨qual, f, fd, F, hm, hb, ok⟩ := F.ex
  exact ⟨_, op_neO ok hm nc.ne nc.sub hb (hr.mono hk), sim_O true⟩
end
end DL
/-! isinstance of an instance that may change -/
namespace DL
open PySem PySem.Spec PyProof.Rows L2
section
variable {X : Cx}
def rIsiO (K : PySem.W.Frag) : List Dat → MH → VKD → Prop := fun ds M Q => match ds with
  | [.ref a, c] => ∃ C gs, M a = some (.ins C gs) ∧ ClsK K C ∧ ((c = .cls C ∧ Q (.bl true) M) ∨ ∃ n, c = .ty n ∧ Q (.bl false) M)
  | _ => rIsiD K ds M Q
theorem cd_isiO (K : PySem.W.Frag) (h : X.K = K) : CallD X (.builtin "isinstance") (rIsiO K) := by
  subst h
  obtain ⟨r0, h0, hs0⟩ := cd_isi (X := X)
  refine ⟨fun vs H Q => rIsi X.K vs H Q ∨ r0 vs H Q, CallR.or call_isi h0, fun Z F H M vs ds Q QD R rs hd o => ?_⟩
  unfold rIsiO at hd
  split at hd
  · rename_i a c
    obtain ⟨C, gs, q1, k, q2⟩ := hd
    obtain ⟨v, ws, rfl, r1, rs⟩ := rs.uncons
    obtain ⟨y, ws, rfl, r2, rs⟩ := rs.uncons
    cases rs.unnil
    cases r1
    obtain ⟨dx, fs, q3, _⟩ := (R.chg a _ q1).2
    have ty := TyX.base (K := X.K) (.ins q3 k.ik.cl k.ik.ha k.ik.hn k.ik.htk k.ik.hm)
    rcases q2 with ⟨rfl, q2⟩ | ⟨n, rfl, q2⟩
    · cases r2
      exact .inl ⟨.ref a, _, _, _, _, rfl, .own _, ty, k.kk, o _ _ F H M (Ext.refl F) R (.bl _) q2⟩
    · cases r2
      exact .inl ⟨.ref a, _, _, _, _, rfl, .ty _, ty, k.ks n, o _ _ F H M (Ext.refl F) R (.bl _) q2⟩
  · exact .inr (hs0 Z F H M vs ds Q QD R rs hd o)
end
theorem w_isiO {K : PySem.W.Frag} {a : Addr} {c : Dat} {M : MH} {Q : VKD} : rIsiO K [.ref a, c] M Q = ∃ C gs, M a = some (.ins C gs) ∧ ClsK K C ∧ ((c = .cls C ∧ Q (.bl true) M) ∨ ∃ n, c = .ty n ∧ Q (.bl false) M) := rfl
end DL
/-! tuples and lists, nested n deep, that hold instances with an own ==, compared where they are the same -/
namespace DL
open PySem PySem.Spec PyProof.Rows L2
def SamN (C : Addr) (sp : SpD) (M : MH) : Nat → Dat → Dat → Prop
  | 0, d, e => Sam1 C sp d e
  | n + 1, d, e => SamN C sp M n d e ∨ (∃ xs ys, lsT M d = some xs ∧ lsT M e = some ys ∧ AllS (SamN C sp M n) xs ys) ∨ ∃ xs ys, d = .tup xs ∧ e = .tup ys ∧ AllS (SamN C sp M n) xs ys
def TopN (C : Addr) (sp : SpD) (n : Nat) (M : MH) (x y : Dat) : Prop := (∃ xs ys, x = .tup xs ∧ y = .tup ys ∧ AllS (SamN C sp M n) xs ys) ∨ ∃ xs ys, lsR M x = some xs ∧ lsR M y = some ys ∧ AllS (SamN C sp M n) xs ys
def rEqN (n : Nat) (C : Addr) (sp : SpD) : R2D := fun x y M Q => TopN C sp n M x y ∧ Q (.bl true) M
def rNeN (n : Nat) (C : Addr) (sp : SpD) : R2D := fun x y M Q => TopN C sp n M x y ∧ Q (.bl false) M
def EqN (K : PySem.W.Frag) (C : Addr) (sp : SpD) : Nat → Eqv
  | 0 => Eq1 K C sp
  | n + 1 => fun x y H => EqN K C sp n x y H ∨ (DList (EqN K C sp n) x y H ∨ DTup K (EqN K C sp n) x y H)
section
variable {K : PySem.W.Frag} {C : Addr} {sp : SpD} {F H : Hp}
theorem mon_N : ∀ n, Mon (EqN K C sp n)
  | 0 => mon_1
  | n + 1 => Mon.or (mon_N n) (Mon.or (mon_list (mon_N n)) (mon_tup (mon_N n)))
theorem SamN.lift {Z : Hp} {M : MH} (R : RelM K Z F H M) : ∀ (n : Nat) {x y : V} {d d2 : Dat}, Rep K F x d → Rep K F y d2 → SamN C sp M n d d2 → EqN K C sp n x y H
  | 0, _, _, _, _, r, q, h => Sam1.lift R.sub r q h
  | n + 1, _, _, _, _, r, q, h => by
    have e : Ext F H := R.sub
    rcases h with h | ⟨xs, ys, h1, h2, h⟩ | ⟨xs, ys, rfl, rfl, h⟩
    · exact .inl (SamN.lift R n r q h)
    · obtain ⟨pa, us, rfl, s1, r1⟩ := lsT_rep R r h1
      obtain ⟨pb, vs, rfl, s2, r2⟩ := lsT_rep R q h2
      exact .inr (.inl ⟨_, _, _, _, rfl, rfl, s1, s2, AllS.prs (fun _ _ _ _ a b c => SamN.lift R n a b c) r1 r2 h⟩)
    · cases r with
      | tup r1 r2 =>
        cases q with
        | tup q1 q2 => exact .inr (.inr ⟨_, _, _, _, rfl, rfl, ext_t e r1, ext_t e q1, AllS.prs (fun _ _ _ _ a b c => SamN.lift R n a b c) r2 q2 h⟩)
end
section
variable {X : Cx} {k k2 : Nat} {C : Addr} {st : Stmt} {ps : List Str} {sp : SpD}
theorem eqG_N (F : MtdD X.prog X.w X.K X.mg X.base k C "__eq__" st ps sp) : ∀ n, EqG X (k + n) (EqN X.K C sp n)
  | 0 => eqG_1 F
  | n + 1 => ((eqG_N F n).mono (Nat.le_succ _)).or ((eqG_list (mon_N n) (eqG_N F n)).or (eqG_tup (mon_N n) (eqG_N F n)))
theorem od_eqN (n : Nat) (F : MtdD X.prog X.w X.K X.mg X.base k C "__eq__" st ps sp) (hr : Room k2 X.A) (hk : k + n + 1 ≤ k2 := by decide) : OpD X (compareOp .Eq) (rEqN n C sp) :=
  ⟨_, OpR.or (op_eqG (rcG_tup (mon_N n) (eqG_N F n)) (hr.mono hk)) (op_eqQ (mon_N n) (eqG_N F n) (hr.mono hk)), fun Z F H M x y a b Q QD R ra rb hd o => by
    obtain ⟨⟨xs, ys, rfl, rfl, h⟩ | ⟨xs, ys, h1, h2, h⟩, q⟩ := hd
    · left
      cases ra with
      | tup r1 r2 =>
        cases rb with
        | tup q1 q2 => exact ⟨⟨_, _, _, _, rfl, rfl, ext_t R.sub r1, ext_t R.sub q1, AllS.prs (fun _ _ _ _ a b c => SamN.lift R n a b c) r2 q2 h⟩, fun H' e => o _ _ F H' M (Ext.refl F) (R.grow e) (.bl true) q⟩
    · right
      obtain ⟨pa, us, rfl, s1, r1⟩ := lsR_rep R ra h1
      obtain ⟨pb, vs, rfl, s2, r2⟩ := lsR_rep R rb h2
      exact ⟨⟨pa, pb, us, vs, rfl, rfl, s1, s2, AllS.prs (fun _ _ _ _ a b c => SamN.lift R n a b c) r1 r2 h⟩, fun H' e => o _ _ F H' M (Ext.refl F) (R.grow e) (.bl true) q⟩⟩
end
end DL
/-! for x in xs: .., where xs may change but does not meanwhile -/
namespace DL
open PySem PySem.Spec PyProof.Rows L2
def dForM (de : TED) (g : TGD) (tb : TSD) : TSD := fun D ρ M => de ρ M fun x M1 => ∃ p ds, x = .ref p ∧ M1 p = some (.lst ds) ∧ dLoopM p ds g tb ds D ρ M1
section
variable {X : Cx} {tg e : Expr} {body : List Stmt} {de : TED} {g : TGD} {tb : TSD} {pos : Pos}
theorem ds_forM (he : DE X e de) (hg : DG X tg g) (hb : DSs X body tb) (hc : X.calm = true := by rfl) (hp : PassesOwn (model X.prog X.w) X.A X.env X.xe := by exact PassesOwn.never) (hs : ∀ x, foldedSetIterable e X.env x = pure x := by intro _; rfl) :
    DS X (.For tg e body [] pos) (dForM de g tb) := ps_w (ps_for hp hc (pi_list he) hg hb hs) fun D σ H ⟨Z, F, M, ρ, DD, R, h, o⟩ => by
  refine ⟨Z, F, M, ρ, _, R, h, fun xv xd F1 H1 M1 e1 R1 rx h1 => ?_⟩
  obtain ⟨a, ds, rfl, hd, h1⟩ := h1
  cases rx
  have at_ : ∀ {F' H' : Hp} {M' : MH}, RelM X.K Z F' H' M' → M' a = some (.lst ds) → ∃ ys, H' a = some (.lst ys) ∧ Reps X.K F' ys ds := fun R q => (R.chg a _ q).2
  obtain ⟨ys1, w1, _⟩ := at_ R1 hd
  refine ⟨a, rfl, ⟨ys1, SqL.of w1⟩, ?_⟩
  refine ⟨fun n left σ H => left = ds.length - n ∧ n ≤ ds.length ∧ ∃ F' M ρ, Ext F1 F' ∧ Rel X.K Z F' H M σ ρ ∧ dLoopM a ds g tb (ds.drop n) DD ρ M, ⟨_, rfl, Nat.zero_le _, F1, M1, ρ, Ext.refl _, R.ext e1 R1, h1⟩, ?_⟩
  rintro n left σ2 H2 ⟨rfl, hn, F2, M2, ρ2, e2, R2, h2⟩
  obtain ⟨ys, w2, ry⟩ := at_ R2.m (dLoopM_at h2)
  rcases Nat.lt_or_ge n ds.length with lt | ge
  · have gx : ds[n]? = some (ds[n]'lt) := List.getElem?_eq_getElem lt
    rw [List.drop_eq_getElem_cons lt] at h2
    generalize ds[n]'lt = x at gx h2
    obtain ⟨v, gv, rv⟩ := ry.get gx
    refine .inr ⟨⟨ys, v, SqL.of w2, gv⟩, fun σ' H' => ∃ F' M ρ, Ext F1 F' ∧ Rel X.K Z F' H' M σ' ρ ∧ dLoopM a ds g tb (ds.drop (n + 1)) DD ρ M, fun _ _ k => ⟨_, by omega, rfl, lt, k⟩, fun z H' yl => ?_⟩
    obtain ⟨rfl, same⟩ := yl
    cases (same ys (SqL.of w2)).symm.trans gv
    refine ⟨Z, F2, M2, ρ2, _, _, R2, rv, h2.2, fun σ5 ρ5 F5 H5 M5 e5 R5 h5 => ?_⟩
    have e25 := e2.trans e5
    exact ⟨Z, F5, M5, ρ5, _, R5, h5, fun _ ρ6 F6 _ M6 e6 R6 h6 => ⟨F6, M6, ρ6, e25.trans e6, R6, h6⟩, o.rt.mono (e1.trans e25), o.nx.mono (e1.trans e25), fun _ ρ6 F6 _ M6 e6 R6 h6 => ⟨F6, M6, ρ6, e25.trans e6, R6, h6⟩⟩
  · obtain rfl : n = ds.length := by omega
    rw [List.drop_length] at h2
    refine .inl ⟨⟨ys, SqL.of w2, by rw [ry.length]; exact Nat.le_refl _⟩, o.nx _ _ F2 H2 M2 (e1.trans e2) R2 h2.2⟩
end
end DL
/-! tuples of lists that may change, of ints and of instances with an own ==, compared: the same or not -/
namespace NeQ
open PySem PySem.SeqAt
open AutoSeq1 (wpAny_loadPart')
open MeetsSeq MeetsSeq2 MeetsSeq3 SeqRoads2 GQ
section
variable {prog : Program} {w : World} {A : Around} {R : Result → Shared → Prop}
/-- two lists of N items stand at l and b -/
def TwoAt (l b : Addr) (N : Nat) (s : Shared) : Prop := ∃ (us vs : Array Value) (m m2 : Nat) (sl sl2 : Array (Option Value)), s.heap.get? l = some { cls := .type "list", dict := none, data := .seq us m, slots := sl } ∧ s.heap.get? b = some { cls := .type "list", dict := none, data := .seq vs m2, slots := sl2 } ∧ us.size = N ∧ vs.size = N
/-- each turn goes on (I) or has found two that differ (J) -/
def ListB (prog : Program) (w : World) (A : Around) (E : Value → Shared → Prop) (l b : Addr) (N : Nat) (I : Nat → Shared → Prop) (J : Shared → Prop) : Prop :=
  ∀ i s, I i s → ∃ (us vs : Array Value) (m m2 : Nat) (sl sl2 : Array (Option Value)), s.heap.get? l = some { cls := .type "list", dict := none, data := .seq us m, slots := sl } ∧ s.heap.get? b = some { cls := .type "list", dict := none, data := .seq vs m2, slots := sl2 } ∧ us.size = N ∧ vs.size = N ∧
    ∀ (h1 : i < us.size) (h2 : i < vs.size), wpAny (model prog w) A.in1 (eqBool us[i] vs[i]) (fun r s' => (r = true ∧ I (i + 1) s') ∨ (r = false ∧ J s')) E s
theorem loopB (l b : Addr) (N : Nat) (I : Nat → Shared → Prop) (J : Shared → Prop) (hl : ListB prog w A (fun e s' => R (.error e) s') l b N I J) (hJ : ∀ s, J s → TwoAt l b N s)
    (yes : ∀ s, I N s → R (.ok (.ret (.bool true))) s) (no : ∀ s, J s → R (.ok (.ret (.bool false))) s) :
    ∀ (k i : Nat), i + k = N → ∀ s, I i s → wpAny (model prog w) A.in1 (Builtin.«list.__eq__.loop» ⟨[.ref l, .ref b, rawInt i, rawInt 2], []⟩) (FinOf prog w A R) (fun e s' => R (.error e) s') s
  | 0, i, hk, s, h => by
    obtain ⟨us, vs, m, m2, sl, sl2, g1, g2, z1, z2, _⟩ := hl i s h
    rw [Nat.add_zero] at hk
    have hR := yes s (hk ▸ h)
    obtain ⟨hp, g, d, tk, os⟩ := s
    wp_walk using wpAny_loadPart' g1, wpAny_loadPart' g2
    rw [show us[((i : Nat) : Int).toNat]? = none by simp; omega, show vs[((i : Nat) : Int).toNat]? = none by simp; omega]
    wp_walk using wpAny_loadPart' g1, wpAny_loadPart' g2
    show R (.ok (.ret (.bool (us.size == vs.size)))) _
    rw [z1, z2]
    simpa using hR
  | k + 1, i, hk, s, h => by
    obtain ⟨us, vs, m, m2, sl, sl2, g1, g2, z1, z2, one⟩ := hl i s h
    have k1 : i < us.size := by omega
    have k2 : i < vs.size := by omega
    have one := one k1 k2
    obtain ⟨hp, g, d, tk, os⟩ := s
    wp_walk using wpAny_loadPart' g1, wpAny_loadPart' g2
    rw [show us[((i : Nat) : Int).toNat]? = some us[i] by simp [k1], show vs[((i : Nat) : Int).toNat]? = some vs[i] by simp [k2]]
    refine wpAny_bind (wpAny_mono one (fun r s2 t => ?_) fun _ _ x => x)
    rcases t with ⟨rfl, t⟩ | ⟨rfl, t⟩
    · have rest := loopB l b N I J hl hJ yes no k (i + 1) (by omega) s2 t
      obtain ⟨hp2, g3, d2, tk2, os2⟩ := s2
      wp_walk
      rw [show ((i : Int) + 1) = ((i + 1 : Nat) : Int) by omega]
      refine ⟨plainId_quiet plain_eq_loop _, codeAny_builtin entry_eq_loop ?_⟩
      rw [Around.under_plainId plain_eq_loop _]
      exact rest
    · obtain ⟨us', vs', m', m2', sl', sl2', g1', g2', z1', z2'⟩ := hJ s2 t
      have hR := no s2 t
      obtain ⟨hp2, g3, d2, tk2, os2⟩ := s2
      wp_walk using wpAny_loadPart' g1', wpAny_loadPart' g2'
      have k1' : i < us'.size := by omega
      have k2' : i < vs'.size := by omega
      rw [show us'[((i : Nat) : Int).toNat]? = some us'[i] by simp [k1'], show vs'[((i : Nat) : Int).toNat]? = some vs'[i] by simp [k2']]
      wp_walk
      exact hR
theorem list_eqB (l b : Addr) (N : Nat) (I : Nat → Shared → Prop) (J : Shared → Prop) (hl : ListB prog w A (fun e s' => R (.error e) s') l b N I J) (hJ : ∀ s, J s → TwoAt l b N s)
    (yes : ∀ s, I N s → R (.ok (.ret (.bool true))) s) (no : ∀ s, J s → R (.ok (.ret (.bool false))) s) {s : Shared} (h : I 0 s) :
    wpAny (model prog w) A.in1 (Builtin.«list.__eq__» ⟨[.ref l, .ref b], []⟩) (FinOf prog w A R) (fun e s' => R (.error e) s') s := by
  obtain ⟨us, vs, m, m2, sl, sl2, g1, g2, z1, z2, _⟩ := hl 0 s h
  have rest := loopB (A := A) (R := R) l b N I J hl hJ yes no N 0 (Nat.zero_add N) s h
  have two := AutoSeq1.sub_list_list
  have like : ¬ (us.size != vs.size) = true := by simp [z1, z2]
  obtain ⟨hp, g, d, tk, os⟩ := s
  wp_walk using wpAny_loadPart' g1, wpAny_loadPart' g2
  refine ⟨plainId_quiet plain_eq_loop _, codeAny_builtin entry_eq_loop ?_⟩
  rw [Around.under_plainId plain_eq_loop _]
  exact rest
theorem tup_eqB (l b : Addr) (xs ys : Array Value) (n n2 : Nat) (dd dd2 : Option Addr) (sl sl2 : Array (Option Value)) (hsz : xs.size = ys.size) (I : Nat → Shared → Prop) (J : Shared → Prop)
    (turn : ∀ i (h1 : i < xs.size) (h2 : i < ys.size) s, I i s → wpAny (model prog w) A.in1 (eqBool xs[i] ys[i]) (fun r s' => (r = true ∧ I (i + 1) s') ∨ (r = false ∧ J s')) (fun e s' => R (.error e) s') s)
    (yes : ∀ s, I xs.size s → R (.ok (.ret (.bool true))) s) (no : ∀ s, J s → R (.ok (.ret (.bool false))) s) {s : Shared} (gl : s.heap.get? l = some { cls := .type "tuple", dict := dd, data := .seq xs n, slots := sl }) (gb : s.heap.get? b = some { cls := .type "tuple", dict := dd2, data := .seq ys n2, slots := sl2 }) (h : I 0 s) :
    wpAny (model prog w) A.in1 (Builtin.«tuple.__eq__» ⟨[.ref l, .ref b], []⟩) (FinOf prog w A R) (fun e s' => R (.error e) s') s := by
  have two := AutoSeq1.sub_tuple_tuple
  have len : (xs.toList.zip ys.toList).length = xs.size := by simp [hsz]
  have hstart := h
  obtain ⟨hp, g, d, tk, os⟩ := s
  wp_walk using wpAny_loadPart' gl, wpAny_loadPart' gb, wpAny_forIn_list _ (fun rest b s' => (b.1 = none ∧ ∃ i, rest = (xs.toList.zip ys.toList).drop i ∧ i ≤ xs.size ∧ I i s')) _
  case h => exact ⟨rfl, 0, rfl, Nat.zero_le _, hstart⟩
  case fin =>
    rintro ⟨b1, b2⟩ s' ⟨rfl, i, hz, hi, q⟩
    obtain rfl : i = xs.size := by
      have := congrArg List.length hz
      rw [List.length_drop, len] at this
      simp only [List.length_nil] at this
      omega
    have hR := yes s' q
    wp_walk
    simpa [Builtin.Tuple.tupleCompareSizes, hsz] using hR
  case turn =>
    rintro ⟨y, x⟩ rest b s' ⟨_, i, hz, hi, q⟩
    have lt : i < (xs.toList.zip ys.toList).length := by
      have := congrArg List.length hz
      rw [List.length_drop, List.length_cons] at this
      omega
    rw [List.drop_eq_getElem_cons lt] at hz
    injection hz with e1 e2
    rw [List.getElem_zip] at e1
    injection e1 with e3 e4
    have i1 : i < xs.size := len ▸ lt
    have i2 : i < ys.size := hsz ▸ i1
    obtain rfl : y = xs[i] := by simpa using e3
    obtain rfl : x = ys[i] := by simpa using e4
    refine wpAny_bind (wpAny_mono (turn i i1 i2 s' q) (fun r s2 z => ?_) fun _ _ x => x)
    rcases z with ⟨rfl, z⟩ | ⟨rfl, z⟩
    · wp_walk
      exact ⟨rfl, i + 1, e2, i1, z⟩
    · have hR := no s2 z
      wp_walk
      exact hR
theorem rc_listB {l b : Addr} {N : Nat} {E : Value → Shared → Prop} {Q : Value → Shared → Prop} (hu : A.units < cLine) (I : Nat → Shared → Prop) (J : Shared → Prop) (hl : ListB prog w A E l b N I J) (hJ : ∀ s, J s → TwoAt l b N s)
    (yes : ∀ s, I N s → Q (.bool true) s) (no : ∀ s, J s → Q (.bool false) s) {s : Shared} (h : I 0 s) : wpAny (model prog w) A (richCompare .Eq (.ref l) (.ref b)) Q E s := by
  obtain ⟨us, vs, m, m2, sl, sl2, g1, g2, _, _, _⟩ := hl _ _ h
  refine wpAny_richCompare_same_room (op := .Eq) ⟨_, g1, rfl⟩ ⟨_, g2, rfl⟩ F.slot_list_eq (call_here F.slot_list_eq ⟨_, g1, rfl⟩ F.entry_list_eq (F.args_list_eq_2 _ _) ?_) hu
  exact list_eqB (R := wants (fun v s' => v ≠ .notImplemented ∧ Q v s') E) l b N I J hl hJ (fun s' q => ⟨(fun x => nomatch x), yes s' q⟩) (fun s' q => ⟨(fun x => nomatch x), no s' q⟩) h
theorem rc_tupB {s : Shared} {l b : Addr} {xs ys : Array Value} {E : Value → Shared → Prop} {Q : Value → Shared → Prop} (hsz : xs.size = ys.size) (hu : A.units < cLine) (I : Nat → Shared → Prop) (J : Shared → Prop) (hl : s.heap.IsTuple l xs) (hb : s.heap.IsTuple b ys)
    (turn : ∀ i (h1 : i < xs.size) (h2 : i < ys.size) s, I i s → wpAny (model prog w) A.in1 (eqBool xs[i] ys[i]) (fun r s' => (r = true ∧ I (i + 1) s') ∨ (r = false ∧ J s')) E s)
    (yes : ∀ s, I xs.size s → Q (.bool true) s) (no : ∀ s, J s → Q (.bool false) s) (h : I 0 s) : wpAny (model prog w) A (richCompare .Eq (.ref l) (.ref b)) Q E s := by
  obtain ⟨⟨_, dd, _, sl⟩, gl, rfl, n, rfl⟩ := hl
  obtain ⟨⟨_, dd2, _, sl2⟩, gb, rfl, n2, rfl⟩ := hb
  exact wpAny_richCompare_same_room (op := .Eq) ⟨_, gl, rfl⟩ ⟨_, gb, rfl⟩ F.slot_tuple_eq (call_here F.slot_tuple_eq ⟨_, gl, rfl⟩ F.entry_tuple_eq (F.args_tuple_eq_2 _ _)
    (tup_eqB (R := wants (fun v s' => v ≠ .notImplemented ∧ Q v s') E) l b xs ys n n2 dd dd2 sl sl2 hsz I J turn (fun s' q => ⟨(fun x => nomatch x), yes s' q⟩) (fun s' q => ⟨(fun x => nomatch x), no s' q⟩) gl gb h)) hu
end
end NeQ
namespace L2
open PySem PySem.Spec PyProof.Rows
/-- what == tells of two values, by the abstract heap -/
abbrev Bqv := V → V → Hp → Bool → Prop
def MonB (D : Bqv) : Prop := ∀ x y H H' b, Ext H H' → D x y H b → D x y H' b
def BqG (X : Cx) (n : Nat) (D : Bqv) : Prop :=
  ∀ (A : Around) (pins : List (Addr × Obj)) (s : Shared) (σ : St) (H : Hp) (x y : V) (u v : Value) (b : Bool), Sub X n A → Inv X pins σ H s → RelV x u → RelV y v → D x y H b →
    wpAny (model X.prog X.w) A (eqBool u v) (fun r s' => r = b ∧ LoopI X pins σ H s') X.xe s
def RbG (X : Cx) (n : Nat) (D : Bqv) : Prop :=
  ∀ (A : Around) (pins : List (Addr × Obj)) (s : Shared) (σ : St) (H : Hp) (x y : V) (u v : Value) (b : Bool), Sub X n A → Inv X pins σ H s → RelV x u → RelV y v → D x y H b →
    wpAny (model X.prog X.w) A (richCompare .Eq u v) (fun r s' => r = .bool b ∧ LoopI X pins σ H s') X.xe s
/-- item by item: all the same, or up to the first that differs -/
def PrB (D : Bqv) (xs ys : List V) (H : Hp) (b : Bool) : Prop := xs.length = ys.length ∧ ((b = true ∧ ∀ (i : Nat) x y, xs[i]? = some x → ys[i]? = some y → D x y H true) ∨
  (b = false ∧ ∃ j : Nat, j < xs.length ∧ (∀ (i : Nat) x y, i < j → xs[i]? = some x → ys[i]? = some y → D x y H true) ∧ ∀ x y, xs[j]? = some x → ys[j]? = some y → D x y H false))
section
variable {X : Cx} {n m : Nat} {D D' : Bqv}
theorem BqG.mono (h : BqG X n D) (hn : n ≤ m) : BqG X m D := fun A pins s σ H x y u v b sb => h A pins s σ H x y u v b (sb.mono hn)
theorem BqG.or (h : BqG X n D) (h' : BqG X n D') : BqG X n (fun x y H b => D x y H b ∨ D' x y H b) := fun A pins s σ H x y u v b sb I rx ry d =>
  d.elim (h A pins s σ H x y u v b sb I rx ry) (h' A pins s σ H x y u v b sb I rx ry)
theorem MonB.or (h : MonB D) (h' : MonB D') : MonB (fun x y H b => D x y H b ∨ D' x y H b) := fun x y H H' b e d => d.elim (fun d => .inl (h x y H H' b e d)) fun d => .inr (h' x y H H' b e d)
def FlatB : Bqv := fun x y _ b => flatV x = true ∧ flatV y = true ∧ eqV x y = b
theorem monB_flat : MonB FlatB := fun _ _ _ _ _ _ d => d
theorem bqG_flat : BqG X 0 FlatB := by
  intro A pins s σ H x y u v b sb I rx ry ⟨fx, fy, e⟩
  have q := eqAt_V (A := A) (s := s) rx ry fx fy
  rw [e] at q
  exact q X.prog X.w X.xe _ ⟨rfl, H, I, Ext.rfl'⟩
theorem PrB.mon (hD : MonB D) {xs ys : List V} {H H' : Hp} {b : Bool} (e : Ext H H') (p : PrB D xs ys H b) : PrB D xs ys H' b := by
  refine ⟨p.1, p.2.imp (fun ⟨h1, h2⟩ => ⟨h1, fun i x y a b => hD _ _ _ _ _ e (h2 i x y a b)⟩) fun ⟨h1, j, h2, h3, h4⟩ => ⟨h1, j, h2, fun i x y l a b => hD _ _ _ _ _ e (h3 i x y l a b), fun x y a b => hD _ _ _ _ _ e (h4 x y a b)⟩⟩
/-- the loop stands at i: nothing has differed yet -/
def GoI (X : Cx) (pins : List (Addr × Obj)) (σ : St) (H : Hp) (D : Bqv) (xs ys : List V) (b : Bool) (i : Nat) (s' : Shared) : Prop := LoopI X pins σ H s' ∧ (b = false → ∃ j : Nat, i ≤ j ∧ j < xs.length ∧ (∀ (i : Nat) x y, i < j → xs[i]? = some x → ys[i]? = some y → D x y H true) ∧ ∀ x y, xs[j]? = some x → ys[j]? = some y → D x y H false)
theorem turnB (hD : MonB D) (h : BqG X n D) {A : Around} (sb : Sub X (n + 1) A) {pins : List (Addr × Obj)} {σ : St} {H : Hp} {xs ys : List V} {b : Bool} {its its2 : List Value} (p : PrB D xs ys H b) (r : Vals xs its) (r2 : Vals ys its2)
    (i : Nat) (h1 : i < its.toArray.size) (h2 : i < its2.toArray.size) (s' : Shared) (l : GoI X pins σ H D xs ys b i s') :
    wpAny (model X.prog X.w) A.in1 (eqBool its.toArray[i] its2.toArray[i]) (fun r s2 => (r = true ∧ GoI X pins σ H D xs ys b (i + 1) s2) ∨ (r = false ∧ b = false ∧ LoopI X pins σ H s2)) X.xe s' := by
  obtain ⟨⟨H1, I1, e1⟩, l⟩ := l
  have g1 : its[i]? = some its.toArray[i] := by
    have h1' : i < its.length := by simpa using h1
    rw [List.getElem?_eq_getElem h1'] <;> simp
  have g2 : its2[i]? = some its2.toArray[i] := by
    have h2' : i < its2.length := by simpa using h2
    rw [List.getElem?_eq_getElem h2'] <;> simp
  have k1 : i < xs.length := by rw [r.length]; simpa using h1
  have k2 : i < ys.length := by rw [r2.length]; simpa using h2
  have ex := List.getElem?_eq_getElem k1
  have ey := List.getElem?_eq_getElem k2
  obtain ⟨u, hu, ru⟩ := r.get ex
  obtain ⟨v, hv, rv⟩ := r2.get ey
  rw [g1] at hu
  rw [g2] at hv
  rw [Option.some.inj hu, Option.some.inj hv]
  have go : ∀ c : Bool, D xs[i] ys[i] H c → wpAny (model X.prog X.w) A.in1 (eqBool u v) (fun r s2 => r = c ∧ LoopI X pins σ H s2) X.xe s' := fun c d =>
    wpAny_mono (h A.in1 pins s' σ H1 _ _ u v c sb.in1 I1 ru rv (hD _ _ _ _ _ e1 d)) (fun r s2 ⟨q1, H2, I2, e2⟩ => ⟨q1, H2, I2, e1.trans e2⟩) fun _ _ x => x
  cases b with
  | true =>
    have d : D xs[i] ys[i] H true := by
      rcases p.2 with ⟨_, q⟩ | ⟨q, _⟩
      · exact q i _ _ ex ey
      · cases q
    exact wpAny_mono (go true d) (fun r s2 ⟨q1, q2⟩ => .inl ⟨q1, q2, fun z => nomatch z⟩) fun _ _ x => x
  | false =>
    obtain ⟨j, j1, j2, j3, j4⟩ := l rfl
    by_cases e : i = j
    · subst e
      exact wpAny_mono (go false (j4 _ _ ex ey)) (fun r s2 ⟨q1, q2⟩ => .inr ⟨q1, rfl, q2⟩) fun _ _ x => x
    · exact wpAny_mono (go true (j3 i _ _ (by omega) ex ey)) (fun r s2 ⟨q1, q2⟩ => .inl ⟨q1, q2, fun _ => ⟨j, by omega, j2, j3, j4⟩⟩) fun _ _ x => x
theorem GoI.start {pins : List (Addr × Obj)} {σ : St} {H : Hp} {s : Shared} {xs ys : List V} {b : Bool} (I : Inv X pins σ H s) (p : PrB D xs ys H b) : GoI X pins σ H D xs ys b 0 s := by
  refine ⟨⟨H, I, Ext.rfl'⟩, fun e => ?_⟩
  rcases p.2 with ⟨q, _⟩ | ⟨_, j, j1, j2, j3⟩
  · rw [e] at q
    cases q
  · exact ⟨j, Nat.zero_le _, j1, j2, j3⟩
theorem GoI.stop {pins : List (Addr × Obj)} {σ : St} {H : Hp} {s : Shared} {xs ys : List V} {b : Bool} {N : Nat} (e : N = xs.length) (g : GoI X pins σ H D xs ys b N s) : b = true ∧ LoopI X pins σ H s := by
  refine ⟨?_, g.1⟩
  cases b with
  | true => rfl
  | false =>
    obtain ⟨j, j1, j2, _⟩ := g.2 rfl
    omega
/-- two lists (that may change, too), of one length or not, that stand at unlike places if they differ -/
def ListBD (K : PySem.W.Frag) (D : Bqv) : Bqv := fun x y H b => ∃ p q xs ys, x = .ref p ∧ y = .ref q ∧ (b = false → p ≠ q) ∧ SqL K H p xs ∧ SqL K H q ys ∧ ((xs.length ≠ ys.length ∧ b = false) ∨ PrB D xs ys H b)
def TupBD (K : PySem.W.Frag) (D : Bqv) : Bqv := fun x y H b => ∃ p q xs ys, x = .ref p ∧ y = .ref q ∧ SqT K H p xs ∧ SqT K H q ys ∧ PrB D xs ys H b
theorem monB_list {K : PySem.W.Frag} (hD : MonB D) : MonB (ListBD K D) := fun x y H H' b e ⟨p, q, xs, ys, hx, hy, n, h1, h2, h3⟩ => ⟨p, q, xs, ys, hx, hy, n, h1.ext e, h2.ext e, h3.imp id fun z => z.mon hD e⟩
theorem rbG_list (hD : MonB D) (h : BqG X n D) : RbG X (n + 1) (ListBD X.K D) := by
  rintro A pins s σ H x y u v b sb I rx ry ⟨p, q, xs, ys, rfl, rfl, _, hp, hq, h3⟩
  cases rx
  cases ry
  rcases h3 with ⟨un, rfl⟩ | pr
  · obtain ⟨is, r, ⟨⟨c1, d1, t1, sl⟩, k1, e, h3, h4, h5⟩, _⟩ := I.list hp
    obtain ⟨js, r2, ⟨⟨c2, d2, t2, sl2⟩, k2, e2, g3, g4, g5⟩, _⟩ := I.list hq
    simp only at h3 h4 h5 g3 g4 g5
    subst h3 h4 h5 g3 g4 g5
    have unlike : (is.toArray.size != js.toArray.size) = true := by
      rw [List.size_toArray, List.size_toArray, ← r.length, ← r2.length]
      exact bne_iff_ne.mpr un
    refine wpAny_richCompare_same_room (op := .Eq) ⟨_, e, rfl⟩ ⟨_, e2, rfl⟩ F.slot_list_eq (GQ.call_here F.slot_list_eq ⟨_, e, rfl⟩ F.entry_list_eq (F.args_list_eq_2 _ _) ?_) sb.room.units0
    exact NeQ.eq_sizes (R := wants (fun v s' => v ≠ .notImplemented ∧ (v = .bool false ∧ LoopI X pins σ H s')) X.xe) unlike e e2 ⟨(fun x => nomatch x), rfl, H, I, Ext.rfl'⟩
  · have here : ∀ s', LoopI X pins σ H s' → ∃ (us vs : List Value) (m m2 : Nat) (sl sl2 : Array (Option Value)), s'.heap.get? p = some { cls := .type "list", dict := none, data := .seq us.toArray m, slots := sl } ∧ s'.heap.get? q = some { cls := .type "list", dict := none, data := .seq vs.toArray m2, slots := sl2 } ∧ Vals xs us ∧ Vals ys vs := by
      rintro s' ⟨H1, I1, e1⟩
      obtain ⟨its, r, e, z⟩ := I1.list (hp.ext e1)
      obtain ⟨its2, r2, e2, z2⟩ := I1.list (hq.ext e1)
      obtain ⟨⟨c1, d1, t1, sl⟩, k, e, h3, h4, h5⟩ := e
      obtain ⟨⟨c2, d2, t2, sl2⟩, k2, e2, g3, g4, g5⟩ := e2
      simp only at h3 h4 h5 g3 g4 g5
      subst h3 h4 h5 g3 g4 g5
      exact ⟨its, its2, k, k2, sl, sl2, e, e2, r, r2⟩
    refine NeQ.rc_listB (N := xs.length) sb.room.units0 (fun i s' => GoI X pins σ H D xs ys b i s') (fun s' => b = false ∧ LoopI X pins σ H s') (fun i s' g => ?_) (fun s' g => ?_) (fun s' g => ?_) (fun s' g => ?_) (GoI.start I pr)
    · obtain ⟨us, vs, m, m2, sl, sl2, e, e2, r, r2⟩ := here s' g.1
      exact ⟨_, _, m, m2, sl, sl2, e, e2, by rw [List.size_toArray, ← r.length], by rw [List.size_toArray, ← r2.length, ← pr.1], fun h1 h2 => turnB hD h sb pr r r2 i h1 h2 s' g⟩
    · obtain ⟨us, vs, m, m2, sl, sl2, e, e2, r, r2⟩ := here s' g.2
      exact ⟨_, _, m, m2, sl, sl2, e, e2, by rw [List.size_toArray, ← r.length], by rw [List.size_toArray, ← r2.length, ← pr.1]⟩
    · obtain ⟨rfl, l⟩ := g.stop rfl
      exact ⟨rfl, l⟩
    · obtain ⟨rfl, l⟩ := g
      exact ⟨rfl, l⟩
theorem rbG_tup (hD : MonB D) (h : BqG X n D) : RbG X (n + 1) (TupBD X.K D) := by
  rintro A pins s σ H x y u v b sb I rx ry ⟨p, q, xs, ys, rfl, rfl, hp, hq, pr⟩
  cases rx
  cases ry
  obtain ⟨its, r, e, z⟩ := I.tuple hp
  obtain ⟨its2, r2, e2, z2⟩ := I.tuple hq
  have hsz : its.toArray.size = its2.toArray.size := by
    rw [List.size_toArray, List.size_toArray, ← r.length, ← r2.length]
    exact pr.1
  refine NeQ.rc_tupB hsz sb.room.units0 (fun i s' => GoI X pins σ H D xs ys b i s') (fun s' => b = false ∧ LoopI X pins σ H s') e e2 (fun i h1 h2 s' g => turnB hD h sb pr r r2 i h1 h2 s' g) (fun s' g => ?_) (fun s' g => ?_) (GoI.start I pr)
  · obtain ⟨rfl, l⟩ := g.stop (by rw [List.size_toArray, r.length])
    exact ⟨rfl, l⟩
  · obtain ⟨rfl, l⟩ := g
    exact ⟨rfl, l⟩
theorem RbG.bqG (h : RbG X n D) (hr : ∀ x y H b, D x y H b → ∃ p q, x = .ref p ∧ y = .ref q ∧ (b = false → p ≠ q)) : BqG X n D := by
  intro A pins s σ H x y u v b sb I rx ry d
  obtain ⟨p, q, rfl, rfl, ne⟩ := hr _ _ _ _ d
  cases rx
  cases ry
  by_cases e : p = q
  · subst e
    cases b with
    | false => exact absurd rfl (ne rfl)
    | true => exact SeqAt.EqAt.same (A := A) (s := s) (.ref p) X.prog X.w X.xe _ ⟨rfl, H, I, Ext.rfl'⟩
  · refine GQ.eqBool_refG e (wpAny_mono (h A pins s σ H (.ref p) (.ref q) _ _ b sb I rfl rfl d) (fun r s' z => ?_) fun _ _ x => x)
    exact ⟨b, z.1, rfl, z.2⟩
/-- instances with an own ==: what it tells -/
def InsB (C : Addr) (R : Addr → Addr → Hp → Bool → Prop) : Bqv := fun x y H b => ∃ p q dx dy fs gs, x = .ref p ∧ y = .ref q ∧ H p = some (.ins C dx fs) ∧ H q = some (.ins C dy gs) ∧ (b = false → p ≠ q) ∧ R p q H b
def spBq (R : Addr → Addr → Hp → Bool → Prop) : Sp := fun vs H Q _ => ∃ p q b, vs = [.ref p, .ref q] ∧ R p q H b ∧ ∀ H', Ext H H' → Q (.bl b) H'
theorem monB_ins {C : Addr} {R : Addr → Addr → Hp → Bool → Prop} (hR : ∀ p q H H' b, Ext H H' → R p q H b → R p q H' b) : MonB (InsB C R) := fun x y H H' b e ⟨p, q, dx, dy, fs, gs, hx, hy, h1, h2, n, r⟩ =>
  ⟨p, q, dx, dy, fs, gs, hx, hy, e _ _ h1, e _ _ h2, n, hR p q H H' b e r⟩
theorem bqG_ins {C f : Addr} {fd : FuncData} {ps : List Str} {R : Addr → Addr → Hp → Bool → Prop} (F : FnOk X.prog X.w X.K X.mg X.base CX0 n f fd ps (spBq R)) (hm : Meth X.K C "__eq__" f) (hb : Binds X.K fd ps []) : BqG X n (InsB C R) := by
  refine RbG.bqG ?_ fun x y H b ⟨p, q, _, _, _, _, hx, hy, _, _, ne, _⟩ => ⟨p, q, hx, hy, ne⟩
  rintro A pins s σ H x y u v b sb I rx ry ⟨p, q, dx, dy, fs, gs, rfl, rfl, hp, hq, _, hr⟩
  cases rx
  cases ry
  obtain ⟨mA, J, _⟩ := ins_get I.hok hp
  obtain ⟨mB, J', _⟩ := ins_get I.hok hq
  obtain ⟨od, J, _⟩ := J.look
  obtain ⟨od', J', _⟩ := J'.look
  obtain ⟨m, hF⟩ := I.fr
  refine PySem.W.cmp_K (op := .Eq) (tb := .ref C) sb.room.units0 hF I.ok.mod.kin J J'.type (by simp [PySem.W.notFirst]) hm.at_ hm.fn (wpAny_mono (own_call (P := fun c H' => c = b ∧ Ext H H') F hb sb I ⟨p, q, b, rfl, hr, fun H' e => ⟨b, rfl, rfl, e⟩⟩) (fun r s' z => ?_) fun _ _ z => z)
  obtain ⟨c, H', rfl, I', rfl, e⟩ := z
  exact ⟨rfl, H', I', e⟩
/-- x == y as an expression -/
def rEqBD (D : Bqv) : R2 := fun x y H Q => ∃ b, D x y H b ∧ ∀ H', Ext H H' → Q (.bl b) H'
theorem op_eqBD (h : RbG X n D) (hr : Room n X.A) : OpR X (compareOp .Eq) (rEqBD D) := by
  rintro pins s σ H x y v u Q I rx ry ⟨b, d, q⟩
  show wpAny (model X.prog X.w) X.A (richCompare .Eq v u) (EP X pins σ Q) X.xe s
  refine wpAny_mono (h X.A pins s σ H x y v u b ⟨hr, rfl⟩ I rx ry d) (fun r s' z => ?_) fun _ _ x => x
  obtain ⟨rfl, H', I', e⟩ := z
  exact ⟨.bl b, H', I', rfl, q H' e⟩
end
end L2
namespace DL
open PySem PySem.Spec PyProof.Rows L2
section
variable {K : PySem.W.Frag} {F : Hp}
theorem rep_plain {v : V} {d e : Dat} (r : Rep K F v d) (q : Rep K F v e) (hd : plainD d = true) (he : plainD e = true) : d = e := by
  cases r <;> first | (cases hd; done) | (cases q; rfl)
theorem repF_plain : ∀ {vs : List (Str × V)} {fs gs : List (Str × Dat)}, RepF K F vs fs → RepF K F vs gs → (∀ g ∈ fs, plainD g.2 = true) → (∀ g ∈ gs, plainD g.2 = true) → fs = gs
  | _, _, _, .nil, .nil, _, _ => rfl
  | _, _, _, .cons r rs, .cons q qs, h, g => by
    rw [rep_plain r q (h _ (List.mem_cons_self ..)) (g _ (List.mem_cons_self ..)), repF_plain rs qs (fun x hx => h x (List.mem_cons_of_mem _ hx)) (fun x hx => g x (List.mem_cons_of_mem _ hx))]
end
/-- two items: ints, or instances with an own == -/
def Itm (C : Addr) (sp : SpD) (d e : Dat) (b : Bool) : Prop := (∃ i j : Int, d = .int i ∧ e = .int j ∧ b = decide (i = j)) ∨
  ∃ fs gs, d = .ins C fs ∧ e = .ins C gs ∧ (∀ g ∈ fs, plainD g.2 = true) ∧ (∀ g ∈ gs, plainD g.2 = true) ∧ (b = false → fs ≠ gs) ∧ ∀ M Q, Q (.bl b) M → sp [d, e] M Q
def AllB (R : Dat → Dat → Bool → Prop) (xs ys : List Dat) (b : Bool) : Prop := xs.length = ys.length ∧ ((b = true ∧ ∀ (i : Nat) d e, xs[i]? = some d → ys[i]? = some e → R d e true) ∨
  (b = false ∧ ∃ j : Nat, j < xs.length ∧ (∀ (i : Nat) d e, i < j → xs[i]? = some d → ys[i]? = some e → R d e true) ∧ ∀ d e, xs[j]? = some d → ys[j]? = some e → R d e false))
def LstB (C : Addr) (sp : SpD) (M : MH) (d e : Dat) (b : Bool) : Prop := (∃ p q xs ys, d = .ref p ∧ e = .ref q ∧ p ≠ q ∧ M p = some (.lst xs) ∧ M q = some (.lst ys) ∧ ((xs.length ≠ ys.length ∧ b = false) ∨ AllB (Itm C sp) xs ys b)) ∨
  ∃ xs ys, d = .lst xs ∧ e = .lst ys ∧ ((xs.length ≠ ys.length ∧ b = false) ∨ AllB (Itm C sp) xs ys b)
/-- tuples of lists that may change -/
def rEqB (C : Addr) (sp : SpD) : R2D := fun x y M Q => ∃ b, (∃ xs ys, x = .tup xs ∧ y = .tup ys ∧ AllB (LstB C sp M) xs ys b) ∧ Q (.bl b) M
def atB (K : PySem.W.Frag) (C : Addr) (sp : SpD) (p q : Addr) (H : Hp) (b : Bool) : Prop := ∃ F fs gs, Ext F H ∧ Rep K F (.ref p) (.ins C fs) ∧ Rep K F (.ref q) (.ins C gs) ∧ ∀ M Q, Q (.bl b) M → sp [.ins C fs, .ins C gs] M Q
theorem sp_eqB {K : PySem.W.Frag} {C : Addr} {sp : SpD} (vs : List V) (H : Hp) (Q : VK) (E : XK) (h : spBq (atB K C sp) vs H Q E) : toSp K sp vs H Q E := by
  obtain ⟨p, q, b, rfl, ⟨F, fs, gs, x, ra, rb, t⟩, hq⟩ := h
  refine ⟨fun p => if F p = none then H p else none, F, fun _ => none, [.ins C fs, .ins C gs], fun v _ => v = .bl b, ⟨x, fun p o hp => ?_, fun p m hm => nomatch hm⟩, .two ra rb, t _ _ rfl, fun v d F' H' M' e' R' r' hd => ?_⟩
  · split at hp
    · exact ⟨hp, by assumption, rfl⟩
    · cases hp
  · subst hd
    cases r'
    refine hq H' fun p o hp => ?_
    cases hF : F p with
    | none => exact (R'.hid p o (by rw [if_pos hF]; exact hp)).1
    | some o' =>
      have := x p o' hF
      rw [hp] at this
      cases this
      exact R'.sub _ _ (e' _ _ hF)
def B1 (K : PySem.W.Frag) (C : Addr) (sp : SpD) : Bqv := fun x y H b => FlatB x y H b ∨ InsB C (atB K C sp) x y H b
section
variable {K : PySem.W.Frag} {C : Addr} {sp : SpD} {F H : Hp}
theorem mon_B1 : MonB (B1 K C sp) := MonB.or monB_flat (monB_ins fun p q H H' b e ⟨F, fs, gs, x, r⟩ => ⟨F, fs, gs, fun p o h => e _ _ (x p o h), r⟩)
theorem AllB.prs {D : Bqv} {R : Dat → Dat → Bool → Prop} (lift : ∀ x y d e b, Rep K F x d → Rep K F y e → R d e b → D x y H b) {xs ys : List V} {ds es : List Dat} {b : Bool} (r : Reps K F xs ds) (q : Reps K F ys es) (h : AllB R ds es b) : PrB D xs ys H b := by
  have go : ∀ (i : Nat) x y c, (∀ d e, ds[i]? = some d → es[i]? = some e → R d e c) → xs[i]? = some x → ys[i]? = some y → D x y H c := fun i x y c hR hx hy => by
    have lx : i < ds.length := by
      rw [← r.length]
      exact (List.getElem?_eq_some_iff.mp hx).1
    have ly : i < es.length := h.1 ▸ lx
    obtain ⟨v, hv, rv⟩ := r.get (List.getElem?_eq_getElem lx)
    obtain ⟨u, hu, ru⟩ := q.get (List.getElem?_eq_getElem ly)
    cases hv.symm.trans hx
    cases hu.symm.trans hy
    exact lift _ _ _ _ _ rv ru (hR _ _ (List.getElem?_eq_getElem lx) (List.getElem?_eq_getElem ly))
  refine ⟨by rw [r.length, q.length]; exact h.1, h.2.imp (fun ⟨h1, h2⟩ => ⟨h1, fun i x y => go i x y true (h2 i)⟩) fun ⟨h1, j, h2, h3, h4⟩ => ⟨h1, j, by rw [r.length]; exact h2, fun i x y l => go i x y true fun d e => h3 i d e l, fun x y => go j x y false h4⟩⟩
theorem Itm.lift (e : Ext F H) {x y : V} {d d2 : Dat} {b : Bool} (r : Rep K F x d) (q : Rep K F y d2) (h : Itm C sp d d2 b) : B1 K C sp x y H b := by
  rcases h with ⟨i, j, rfl, rfl, rfl⟩ | ⟨fs, gs, rfl, rfl, hf, hg, hn, t⟩
  · left
    cases r
    cases q
    refine ⟨rfl, rfl, ?_⟩
    simp only [eqV]
    exact Bool.eq_iff_iff.mpr (by simp)
  · right
    cases r with
    | ins r1 r2 r3 =>
      cases q with
      | ins q1 q2 q3 =>
        refine ⟨_, _, _, _, _, _, rfl, rfl, e _ _ r1, e _ _ q1, fun hb hp => ?_, F, fs, gs, e, .ins r1 r2 r3, .ins q1 q2 q3, t⟩
        subst hp
        rw [r1] at q1
        cases q1
        exact hn hb (repF_plain r2 q2 hf hg)
theorem Itm.same {v : V} {d e : Dat} {b : Bool} (r : Rep K F v d) (q : Rep K F v e) (h : Itm C sp d e b) : b = true := by
  rcases h with ⟨i, j, rfl, rfl, rfl⟩ | ⟨fs, gs, rfl, rfl, hf, hg, hn, t⟩
  · cases r
    cases q
    exact decide_eq_true rfl
  · cases b with
    | true => rfl
    | false =>
      cases r with
      | ins r1 r2 r3 =>
        cases q with
        | ins q1 q2 q3 =>
          rw [r1] at q1
          cases q1
          exact absurd (repF_plain r2 q2 hf hg) (hn rfl)
theorem LstB.lift {Z : Hp} {M : MH} (R : RelM K Z F H M) {x y : V} {d d2 : Dat} {b : Bool} (r : Rep K F x d) (q : Rep K F y d2) (h : LstB C sp M d d2 b) : ListBD K (B1 K C sp) x y H b := by
  rcases h with ⟨p, p2, xs, ys, rfl, rfl, ne, h1, h2, h3⟩ | ⟨xs, ys, rfl, rfl, h3⟩
  rotate_left
  · cases r with
    | lst e1 r1 =>
      cases q with
      | lst e2 r2 =>
        refine ⟨_, _, _, _, rfl, rfl, fun hb hp => ?_, SqL.of (R.sub _ _ e1), SqL.of (R.sub _ _ e2), h3.imp (fun ⟨un, hb⟩ => ⟨by rw [r1.length, r2.length]; exact un, hb⟩) fun z => ?_⟩
        · subst hp
          rw [e1] at e2
          cases e2
          rcases h3 with ⟨un, _⟩ | ⟨_, ⟨z, _⟩ | ⟨_, j, j1, _, j3⟩⟩
          · exact un (by rw [← r1.length, ← r2.length])
          · rw [hb] at z
            cases z
          · obtain ⟨v, hv, rv⟩ := r1.get (List.getElem?_eq_getElem j1)
            have l2 : j < ys.length := by rw [← r2.length, r1.length]; exact j1
            obtain ⟨u, hu, ru⟩ := r2.get (List.getElem?_eq_getElem l2)
            cases hv.symm.trans hu
            have := Itm.same rv ru (j3 _ _ (List.getElem?_eq_getElem j1) (List.getElem?_eq_getElem l2))
            cases this
        · exact AllB.prs (fun _ _ _ _ _ a b c => Itm.lift R.sub a b c) r1 r2 z
  obtain ⟨pa, us, e1, s1, r1⟩ := lsR_rep R r (show lsR M (.ref p) = some xs by unfold lsR; simp only [h1])
  obtain ⟨pb, vs, e2, s2, r2⟩ := lsR_rep R q (show lsR M (.ref p2) = some ys by unfold lsR; simp only [h2])
  cases r
  cases q
  cases e1
  cases e2
  refine ⟨_, _, _, _, rfl, rfl, fun _ => ne, s1, s2, h3.imp (fun ⟨un, hb⟩ => ⟨by rw [r1.length, r2.length]; exact un, hb⟩) fun z => ?_⟩
  exact AllB.prs (fun _ _ _ _ _ a b c => Itm.lift R.sub a b c) r1 r2 z
end
section
variable {X : Cx} {k k2 : Nat} {C : Addr} {st : Stmt} {ps : List Str} {sp : SpD}
theorem bqG_1 (F : MtdD X.prog X.w X.K X.mg X.base k C "__eq__" st ps sp) : BqG X k (B1 X.K C sp) := by
  obtain ⟨qual, f, fd, F, hm, hb, ok⟩ := F.ex
  exact (bqG_flat.mono (Nat.zero_le _)).or (bqG_ins (ok.imp (sp' := spBq (atB X.K C sp)) fun vs H Q E h => sp_eqB vs H Q E h) hm hb)
theorem od_eqB (F : MtdD X.prog X.w X.K X.mg X.base k C "__eq__" st ps sp) (hr : Room k2 X.A) (hk : k + 2 ≤ k2 := by decide) : OpD X (compareOp .Eq) (rEqB C sp) :=
  ⟨_, op_eqBD (rbG_tup (monB_list mon_B1) (RbG.bqG (rbG_list mon_B1 (bqG_1 F)) fun x y H b ⟨p, q, _, _, hx, hy, ne, _⟩ => ⟨p, q, hx, hy, ne⟩)) (hr.mono hk), fun Z F H M x y a b Q QD R ra rb hd o => by
    obtain ⟨c, ⟨xs, ys, rfl, rfl, h⟩, q⟩ := hd
    cases ra with
    | tup r1 r2 =>
      cases rb with
      | tup q1 q2 => exact ⟨c, ⟨_, _, _, _, rfl, rfl, ext_t R.sub r1, ext_t R.sub q1, AllB.prs (fun _ _ _ _ _ a b c => LstB.lift R a b c) r2 q2 h⟩, fun H' e => o _ _ F H' M (Ext.refl F) (R.grow e) (.bl c) q⟩⟩
end
theorem first_off {α : Type} : ∀ {us vs : List α}, us.length = vs.length → us ≠ vs → ∃ j : Nat, j < us.length ∧ (∀ i : Nat, i < j → us[i]? = vs[i]?) ∧ us[j]? ≠ vs[j]?
  | [], [], _, h => absurd rfl h
  | u :: us, v :: vs, hl, h => by
    by_cases e : u = v
    · subst e
      obtain ⟨j, j1, j2, j3⟩ := first_off (us := us) (vs := vs) (by simpa using hl) fun c => h (by rw [c])
      refine ⟨j + 1, by rw [List.length_cons]; omega, fun i hi => ?_, by simpa using j3⟩
      cases i with
      | zero => rfl
      | succ i => simpa using j2 i (by omega)
    · exact ⟨0, by rw [List.length_cons]; omega, fun i hi => absurd hi (Nat.not_lt_zero _), fun c => e (by simpa using c)⟩
/-- what is the same by a rule that tells whether two items are -/
theorem AllB.map {α : Type} [DecidableEq α] (f : α → Dat) {R : Dat → Dat → Bool → Prop} {us vs : List α} (h : us.length = vs.length) (hR : ∀ a ∈ us, ∀ b ∈ vs, R (f a) (f b) (decide (a = b))) : AllB R (us.map f) (vs.map f) (decide (us = vs)) := by
  have at_ : ∀ {l : List α} {i : Nat} {d : Dat}, (l.map f)[i]? = some d → ∃ a, l[i]? = some a ∧ d = f a := fun {l i d} hd => by
    rw [List.getElem?_map] at hd
    cases q : l[i]? with
    | none => rw [q] at hd; cases hd
    | some a => rw [q] at hd; cases hd; exact ⟨a, rfl, rfl⟩
  have same : ∀ {i : Nat} {d e : Dat}, us[i]? = vs[i]? → (us.map f)[i]? = some d → (vs.map f)[i]? = some e → R d e true := fun {i d e} e1 hd he => by
    obtain ⟨a, ha, rfl⟩ := at_ hd
    obtain ⟨c, hc, rfl⟩ := at_ he
    have := hR a (List.mem_of_getElem? ha) c (List.mem_of_getElem? hc)
    rw [ha, hc] at e1
    rw [decide_eq_true (Option.some.inj e1)] at this
    exact this
  refine ⟨by rw [List.length_map, List.length_map]; exact h, ?_⟩
  by_cases e : us = vs
  · exact .inl ⟨decide_eq_true e, fun i d e1 hd he => same (by rw [e]) hd he⟩
  · obtain ⟨j, j1, j2, j3⟩ := first_off h e
    refine .inr ⟨decide_eq_false e, j, by rw [List.length_map]; exact j1, fun i d e1 hi hd he => same (j2 i hi) hd he, fun d e1 hd he => ?_⟩
    obtain ⟨a, ha, rfl⟩ := at_ hd
    obtain ⟨c, hc, rfl⟩ := at_ he
    have := hR a (List.mem_of_getElem? ha) c (List.mem_of_getElem? hc)
    rw [ha, hc] at j3
    rw [decide_eq_false fun z => j3 (by rw [z])] at this
    exact this
end DL
/-! an instance that may change, compared by its own == with what is no instance: a tuple, a list, None; and in a list of one item -/
namespace L2
open PySem PySem.Spec PyProof.Rows
/-- what is no instance -/
inductive NoI (K : PySem.W.Frag) (H : Hp) : V → Prop
  | non : NoI K H .non
  | tup {a : Addr} {xs : List V} (h : SqT K H a xs) : NoI K H (.ref a)
  | lst {a : Addr} {xs : List V} (h : SqL K H a xs) : NoI K H (.ref a)
theorem nf_tup {K : PySem.W.Frag} {C : Addr} : PySem.W.notFirst K C (.type "tuple") = true := by
  have h : PySem.W.subIn K (.type "tuple") (.ref C) = some false := rfl
  unfold PySem.W.notFirst
  rw [h]
  rfl
theorem nf_lst {K : PySem.W.Frag} {C : Addr} : PySem.W.notFirst K C (.type "list") = true := by
  have h : PySem.W.subIn K (.type "list") (.ref C) = some false := rfl
  unfold PySem.W.notFirst
  rw [h]
  rfl
theorem nf_non {K : PySem.W.Frag} {C : Addr} : PySem.W.notFirst K C (.type "NoneType") = true := by
  have h : PySem.W.subIn K (.type "NoneType") (.ref C) = some false := rfl
  unfold PySem.W.notFirst
  rw [h]
  rfl
section
variable {X : Cx} {n : Nat} {C f : Addr} {fd : FuncData} {ps : List Str} {spV : Sp}
theorem NoI.looks {pins : List (Addr × Obj)} {s : Shared} {σ : St} {H : Hp} {y : V} {u : Value} (h : NoI X.K H y) (I : Inv X pins σ H s) (ry : RelV y u) : ∃ tb, PySem.W.Looks (model X.prog X.w) s.heap (typeOf u) tb ∧ PySem.W.notFirst X.K C tb = true := by
  cases h with
  | non =>
    cases (show u = Value.none from ry)
    exact ⟨.type "NoneType", PySem.W.Looks.of_pure rfl, nf_non⟩
  | tup h =>
    cases ry
    obtain ⟨its, r, ⟨⟨c, dd, data, sl⟩, g, hc, _⟩, _⟩ := I.tuple h
    simp only at hc
    subst hc
    exact ⟨.type "tuple", (PySem.W.Looks.ld g).andThen .now, nf_tup⟩
  | lst h =>
    cases ry
    obtain ⟨its, r, ⟨⟨c, dd, data, sl⟩, k, g, h3, h4, h5⟩, _⟩ := I.list h
    simp only at h3 h4 h5
    subst h3 h4 h5
    exact ⟨.type "list", (PySem.W.Looks.ld g).andThen .now, nf_lst⟩
theorem own_callW (F : FnOk X.prog X.w X.K X.mg X.base CX0 n f fd ps spV) (hb : Binds X.K fd ps []) {A : Around} (sb : Sub X n A) {pins : List (Addr × Obj)} {s : Shared} {σ : St} {H : Hp} (I : Inv X pins σ H s) {a : Addr} {y : V} {u : Value} (ry : RelV y u) {P : Bool → Hp → Prop}
    (h : spV [.ref a, y] H (fun v H' => ∃ c, v = .bl c ∧ P c H') E0) : wpAny (model X.prog X.w) A (call (.ref f) [.ref a, u]) (fun r s' => ∃ c H', r = .bool c ∧ Inv X pins σ H' s' ∧ P c H') X.xe s := by
  have e0 : Env0 X.prog X.w X.K X.mg X.base A X.stack s H := by
    have e := I.env0
    exact ⟨by rw [sb.fr]; exact e.frames, e.mod, e.bs, e.bsz, e.funs, e.frf, e.hok, e.bare⟩
  have hl := F.len _ _ _ _ h
  have r2 : Vals [V.ref a, y] [Value.ref a, u] := .cons rfl (.cons ry .nil)
  refine wpAny_call (codeAny_mono (F.run A X.stack s H ⟨[.ref a, u], []⟩ [.ref a, u] [.ref a, y] _ E0 sb.room e0 (by
    have := hb s [.ref a, u] I.kIn (by simpa using hl)
    simpa using this) r2 h) fun r s' hq => ?_)
  cases r with
  | error e => exact (pass0 (X := X)) pins σ H s e s' I hq
  | ok fl =>
    cases fl with
    | ret w =>
      obtain ⟨z, H', I', rz, c, ez, q⟩ := I.after hq
      subst ez
      cases rz
      exact ⟨c, H', rfl, I', q⟩
    | next => exact False.elim hq
    | brk => exact False.elim hq
    | cont => exact False.elim hq
theorem rc_own (F : FnOk X.prog X.w X.K X.mg X.base CX0 n f fd ps spV) (hm : Meth X.K C "__eq__" f) (hb : Binds X.K fd ps []) {A : Around} (sb : Sub X n A) {pins : List (Addr × Obj)} {s : Shared} {σ : St} {H : Hp} (I : Inv X pins σ H s) {a dx : Addr} {fs : List (Str × V)} {y : V} {u : Value} (ha : H a = some (.ins C dx fs)) (ny : NoI X.K H y) (ry : RelV y u) {P : Bool → Hp → Prop}
    (h : spV [.ref a, y] H (fun v H' => ∃ c, v = .bl c ∧ P c H') E0) : wpAny (model X.prog X.w) A (richCompare .Eq (.ref a) u) (fun r s' => ∃ c H', r = .bool c ∧ Inv X pins σ H' s' ∧ P c H') X.xe s := by
  obtain ⟨mA, J, _⟩ := ins_get I.hok ha
  obtain ⟨od, J, _⟩ := J.look
  obtain ⟨m, hF⟩ := I.fr
  obtain ⟨tb, lk, nf⟩ := ny.looks (C := C) I ry
  refine PySem.W.cmp_K (op := .Eq) (tb := tb) sb.room.units0 hF I.ok.mod.kin J lk nf hm.at_ hm.fn (wpAny_mono (own_callW F hb sb I ry h) (fun r s' z => ?_) fun _ _ z => z)
  obtain ⟨c, H', rfl, I', q⟩ := z
  exact ⟨c, H', rfl, I', q⟩
def rW (K : PySem.W.Frag) (C : Addr) (spV : Sp) : R2 := fun x y H Q => ∃ a dx fs, x = .ref a ∧ H a = some (.ins C dx fs) ∧ NoI K H y ∧ spV [.ref a, y] H (fun v H' => ∃ c, v = .bl c ∧ Q (.bl c) H') E0
theorem op_eqW (F : FnOk X.prog X.w X.K X.mg X.base CX0 n f fd ps spV) (hm : Meth X.K C "__eq__" f) (hb : Binds X.K fd ps []) (hr : Room n X.A) : OpR X (compareOp .Eq) (rW X.K C spV) := by
  rintro pins s σ H x y v u Q I rx ry ⟨a, dx, fs, rfl, ha, ny, hsp⟩
  cases rx
  show wpAny (model X.prog X.w) X.A (richCompare .Eq (.ref a) u) _ _ _
  refine wpAny_mono (rc_own F hm hb ⟨hr, rfl⟩ I ha ny ry hsp) (fun r s' z => ?_) fun _ _ z => z
  obtain ⟨c, H', rfl, I', q⟩ := z
  exact ⟨.bl c, H', I', rfl, q⟩
/-- lists of one item: an instance, and None -/
def rL1 (K : PySem.W.Frag) (C : Addr) (spV : Sp) : R2 := fun x y H Q => ∃ p q a dx fs, x = .ref p ∧ y = .ref q ∧ SqL K H p [.ref a] ∧ SqL K H q [.non] ∧ H a = some (.ins C dx fs) ∧
  spV [.ref a, .non] H (fun v H' => ∃ c, v = .bl c ∧ (c = false ∧ SqL K H' p [.ref a] ∧ SqL K H' q [.non] ∧ Q (.bl false) H')) E0
theorem eqBool_own {prog : Program} {w : World} {A : Around} {E : Value → Shared → Prop} {s : Shared} {a : Addr} {Q : Bool → Shared → Prop} (h : wpAny (model prog w) A (richCompare .Eq (.ref a) .none) (fun v s' => ∃ r, v = .bool r ∧ Q r s') E s) : wpAny (model prog w) A (eqBool (.ref a) .none) Q E s := by
  unfold eqBool
  refine wpAny_holding ?_
  refine wpAny_ite_split (fun hab => absurd (eq_of_beq hab) (fun z => nomatch z)) (fun _ => ?_)
  refine wpAny_bind (wpAny_mono h (fun v s' hv => ?_) fun _ _ x => x)
  obtain ⟨r, rfl, q⟩ := hv
  exact wpAny_truthy_bool q
theorem op_eqL1 (F : FnOk X.prog X.w X.K X.mg X.base CX0 n f fd ps spV) (hm : Meth X.K C "__eq__" f) (hb : Binds X.K fd ps []) (hr : Room (n + 1) X.A) : OpR X (compareOp .Eq) (rL1 X.K C spV) := by
  rintro pins s σ H x y v u Q I rx ry ⟨p, q, a, dx, fs, rfl, rfl, hp, hq, ha, hsp⟩
  cases rx
  cases ry
  have sb : Sub X (n + 1) X.A := ⟨hr, rfl⟩
  have here : ∀ (s' : Shared) (H' : Hp), Inv X pins σ H' s' → SqL X.K H' p [.ref a] → SqL X.K H' q [.non] → ∃ (m m2 : Nat) (sl sl2 : Array (Option Value)), s'.heap.get? p = some { cls := .type "list", dict := none, data := .seq #[.ref a] m, slots := sl } ∧ s'.heap.get? q = some { cls := .type "list", dict := none, data := .seq #[.none] m2, slots := sl2 } := fun s' H' I' hp hq => by
    obtain ⟨its, r, ⟨⟨c1, d1, t1, sl⟩, k, e, h3, h4, h5⟩, _⟩ := I'.list hp
    obtain ⟨its2, r2, ⟨⟨c2, d2, t2, sl2⟩, k2, e2, g3, g4, g5⟩, _⟩ := I'.list hq
    simp only at h3 h4 h5 g3 g4 g5
    subst h3 h4 h5 g3 g4 g5
    cases r with
    | cons r rs =>
      cases rs
      cases r
      cases r2 with
      | cons r2 rs2 =>
        cases rs2
        cases r2
        exact ⟨k, k2, sl, sl2, e, e2⟩
  show wpAny (model X.prog X.w) X.A (richCompare .Eq (.ref p) (.ref q)) _ _ _
  refine NeQ.rc_listB (N := 1) sb.room.units0 (fun i s' => i = 0 ∧ s' = s) (fun s' => ∃ H', Inv X pins σ H' s' ∧ SqL X.K H' p [.ref a] ∧ SqL X.K H' q [.non] ∧ Q (.bl false) H') ?_ ?_ ?_ ?_ ⟨rfl, rfl⟩
  · rintro i s' ⟨rfl, rfl⟩
    obtain ⟨m, m2, sl, sl2, e, e2⟩ := here _ _ I hp hq
    refine ⟨_, _, m, m2, sl, sl2, e, e2, rfl, rfl, fun _ _ => ?_⟩
    refine eqBool_own (wpAny_mono (rc_own F hm hb sb.in1 I ha .non rfl hsp) (fun r s' z => ?_) fun _ _ z => z)
    obtain ⟨c, H', rfl, I', rfl, z1, z2, z3⟩ := z
    exact ⟨false, rfl, .inr ⟨rfl, H', I', z1, z2, z3⟩⟩
  · rintro s' ⟨H', I', z1, z2, _⟩
    obtain ⟨m, m2, sl, sl2, e, e2⟩ := here _ _ I' z1 z2
    exact ⟨_, _, m, m2, sl, sl2, e, e2, rfl, rfl⟩
  · rintro s' ⟨e, _⟩
    cases e
  · rintro s' ⟨H', I', _, _, z3⟩
    exact ⟨.bl false, H', I', rfl, z3⟩
end
end L2
namespace DL
open PySem PySem.Spec PyProof.Rows L2
def NoD : Dat → Prop
  | .non => True
  | .tup _ => True
  | .lst _ => True
  | _ => False
def rEqW (C : Addr) (sp : SpD) : R2D := fun x y M Q => (∃ gs, fieldsOf M x = some (C, gs)) ∧ NoD y ∧ sp [x, y] M fun v M' => ∃ c, v = .bl c ∧ Q (.bl c) M'
def rEqL1 (C : Addr) (sp : SpD) : R2D := fun x y M Q => ∃ d, x = .lst [d] ∧ y = .lst [.non] ∧ (∃ gs, fieldsOf M d = some (C, gs)) ∧ sp [d, .non] M fun v M' => v = .bl false ∧ Q (.bl false) M'
section
variable {X : Cx} {k k2 : Nat} {C : Addr} {st : Stmt} {ps : List Str} {sp : SpD}
theorem NoD.rep {K : PySem.W.Frag} {F H : Hp} (e : Ext F H) {y : V} {d : Dat} (r : Rep K F y d) (h : NoD d) : NoI K H y := by
  cases r with
  | non => exact .non
  | tup r1 r2 => exact .tup (ext_t e r1)
  | lst r1 r2 => exact .lst (SqL.of (e _ _ r1))
  | _ => exact h.elim
theorem od_eqW (F : MtdD X.prog X.w X.K X.mg X.base k C "__eq__" st ps sp) (hr : Room k2 X.A) (hk : k ≤ k2 := by decide) : OpD X (compareOp .Eq) (rEqW C sp) := by
  obtain ⟨qual, f, fd, F, hm, hb, ok⟩ := F.ex
  refine ⟨_, op_eqW ok hm hb (hr.mono hk), fun Z F H M x y a b Q QD R ra rb hd o => ?_⟩
  obtain ⟨⟨gs, g1⟩, ny, q⟩ := hd
  obtain ⟨p, dx, fs, rfl, h1, _, _⟩ := fieldsOf_rep R ra g1
  refine ⟨p, dx, fs, rfl, h1, ny.rep R.sub rb, Z, F, M, [a, b], _, R, .two ra rb, q, fun v d F' H' M' e' R' r' hd => ?_⟩
  obtain ⟨c, rfl, hq⟩ := hd
  cases r'
  exact ⟨c, rfl, o _ _ F' H' M' e' R' (.bl _) hq⟩
theorem od_eqL1 (F : MtdD X.prog X.w X.K X.mg X.base k C "__eq__" st ps sp) (hr : Room k2 X.A) (hk : k + 1 ≤ k2 := by decide) : OpD X (compareOp .Eq) (rEqL1 C sp) := by
  obtain ⟨qual, f, fd, F, hm, hb, ok⟩ := F.ex
  refine ⟨_, op_eqL1 ok hm hb (hr.mono hk), fun Z F H M x y a b Q QD R ra rb hd o => ?_⟩
  obtain ⟨d, rfl, rfl, ⟨gs, g1⟩, q⟩ := hd
  cases ra with
  | lst r1 r2 =>
    cases r2 with
    | cons r2 rs2 =>
      cases rs2
      cases rb with
      | lst q1 q2 =>
        cases q2 with
        | cons q2 qs2 =>
          cases qs2
          cases q2
          obtain ⟨p, dx, fs, rfl, h1, _, _⟩ := fieldsOf_rep R r2 g1
          refine ⟨_, _, p, dx, fs, rfl, rfl, SqL.of (R.sub _ _ r1), SqL.of (R.sub _ _ q1), h1, Z, F, M, [d, .non], _, R, .two r2 .non, q, fun v d F' H' M' e' R' r' hd => ?_⟩
          obtain ⟨rfl, hq⟩ := hd
          cases r'
          exact ⟨false, rfl, rfl, SqL.of (R'.sub _ _ (e' _ _ r1)), SqL.of (R'.sub _ _ (e' _ _ q1)), o _ _ F' H' M' e' R' (.bl _) hq⟩
end
end DL
/-! max(xs, key=lambda q: q[1]) and sorted(xs, key=lambda q: q[1]) of pairs of ints -/
namespace PkQ
open PySem PySem.Spec PyProof.Rows PySem.W
section
variable {prog : Program} {w : World} {A : Around} {s : Shared}
/-- a function whose body tells the item 1 of its argument -/
structure PickFd (fd : FuncData) (y : Str) : Prop where
  body : ∃ p1 kd p2 p3, fd.body = .expr (.Subscript (.Name y p1) (.Constant (.int 1) kd p2) p3)
  co : fd.scope.isCoroutine = false
  gen : fd.scope.isGenerator = false
  kind : fd.scope.kind = .function
  cell : ∀ z ∈ fd.scope.names, z.2 ≠ .cell
  loc : fd.scope.names.lookup y = some .local
  bind : ∀ t : Addr, bindArgs fd ⟨[.ref t], []⟩ = pure [(y, .ref t)]
  dbg : (y == ("__debug__" : Str)) = false
theorem pick_call {q t : Addr} {ob : Obj} {fd : FuncData} {y : Str} {u : Value} {k : Int} {tk : Tok} (P : PickFd fd y) (room : A.depth < recursionLimit) (ho : s.heap.get? q = some ob) (hd : ob.data = .func fd) (hcd : s.heap.CodeRec fd.code fd.qualname) (hl : s.heap.NoLimit)
    (ht : s.heap.IsTuple t #[u, .int k tk]) : wpAny (model prog w) A (call (.ref q) [.ref t]) (KeyPure (.int k) s) (fun _ _ => False) s := by
  obtain ⟨p1, kd, p2, p3, hb⟩ := P.body
  refine wpAny_call (kla_callFunE room ho hd P.co P.gen hb hcd ?_)
  rw [P.bind t]
  refine wpAny_pure (wpAny_newFunctionEnv P.cell (fun z hz => ?_) (fun h₁ ns same => ⟨hl.fresh _ same, ?_⟩) P.kind)
  · rw [List.mem_singleton.mp hz]
    exact P.loc
  have old : ∀ b o, s.heap.get? b = some o → h₁.get? b = some o := fun b o e => same.extBut b o (Nat.ne_of_lt (Heap.lt_size e)) (Heap.get?_push_of_some _ e)
  have ht2 : h₁.IsTuple t #[u, .int k tk] := by
    obtain ⟨o, g, z⟩ := ht
    exact ⟨o, old _ _ g, z⟩
  refine kla_codeExpr ?_
  refine Subscript_ (wpAny_Name (wpAny_loadName_local P.kind P.loc ns (v := .ref t) (by simp) ?_) P.dbg)
  refine wpAny_Constant_int ?_
  refine item_tupleL (l := [u, .int k tk]) (j := 1) ht2 (by decide) (by decide) rfl rfl ?_ rfl (fun r => rfl)
  exact ⟨h₁, _, rfl, old, .int _ _⟩
/-- what all heaps behind the start keep -/
abbrev Old (h0 h : Heap) : Prop := ∀ b o, h0.get? b = some o → h.get? b = some o
theorem ints_of {h : Heap} {v : Value} {k : Int} {as : List Addr} (r : Reads h v (.int k) as) : ∃ t, v = .int k t := by
  cases r
  exact ⟨_, rfl⟩
theorem best_loop {R : Result → Shared → Prop} {h0 : Heap} {l q I S : Addr} {vs : List Value} (kf : Nat → Int) (calm : A.handled = none) (nl : l ≠ I) (nS : S ≠ I) (fI : h0.get? I = none) (fS : h0.get? S = none) (hl : h0.IsList l vs.toArray)
    (key : ∀ (i : Nat) (v : Value), vs[i]? = some v → ∀ (h : Heap) (tk : Nat), Old h0 h → wpAny (model prog w) A.in1 (call (.ref q) [v]) (KeyPure (.int (kf i)) { s with heap := h, toks := tk }) (fun _ _ => False) { s with heap := h, toks := tk })
    (fin : ∀ (i : Nat) (v : Value) (h : Heap) (tk : Nat), vs[i]? = some v → (∀ j, j < vs.length → kf j ≤ kf i) → Old h0 h → R (.ok (.ret v)) { s with heap := h, toks := tk }) :
    ∀ (r j : Nat) (h : Heap) (tk : Nat) (arr : Array Value) (c : Nat), j + r = vs.length → 0 < vs.length → Old h0 h → h.get? S = some (seqObj "list" arr c) → h.IsListIter I l j →
      (j = 0 ∧ arr = #[] ∨ ∃ i vb tb, arr = #[vb, .int (kf i) tb] ∧ vs[i]? = some vb ∧ i < j ∧ ∀ j', j' < j → kf j' ≤ kf i) →
      codeAny (model prog w) A (.builtin "max.loop" ⟨[.ref I, .ref q, .ref S], []⟩) R { s with heap := h, toks := tk } := by
  have name : (toString "max" ++ toString ".loop" : String) = "max.loop" := by decide
  have W := Walks.list (prog := prog) (w := w) (A := A.in1) calm I l nl vs.toArray
  have size : vs.toArray.size = vs.length := List.size_toArray ..
  have hlst : ∀ {h}, Old h0 h → h.IsList l vs.toArray := fun {h} k => by
    obtain ⟨o, g, z⟩ := hl
    exact ⟨o, k _ _ g, z⟩
  have step : ∀ {h h' : Heap}, Old h0 h → (∀ b o, b ∉ [I] → h.get? b = some o → h'.get? b = some o) → Old h0 h' := fun {h h'} k m b o e => m b o (fun z => by rw [List.mem_singleton.mp z, fI] at e; cases e) (k b o e)
  have put : ∀ {h : Heap} {f : Obj → Obj}, Old h0 h → Old h0 (h.update S f) := fun {h f} k b o e => (Heap.get?_update_ne _ _ _ _ (fun z => by rw [z, fS] at e; cases e)).trans (k b o e)
  intro r
  induction r with
  | zero =>
    intro j h tk arr c hj pos old gS it best
    rcases best with ⟨rfl, _⟩ | ⟨i, vb, tb, rfl, hi, _, top⟩
    · omega
    obtain rfl : j = vs.length := by omega
    refine codeAny_builtin PySem.F.entry_max_loop ?_
    rw [Around.under_plainId PySem.F.plain_max_loop _]
    show wpAny _ A.in1 (seqItems? (.ref S) >>= _) _ _ _
    refine wpAny_bind (wpAny_seqItems gS rfl ?_)
    show wpAny _ A.in1 (tryCatch (pyNext (.ref I)) _ >>= _) _ _ _
    refine wpAny_bind (wpAny_tryCatch (W.done _ _ _ ⟨by rw [size]; exact it, hlst old⟩ fun h' tk' mv => ?_))
    have gS' := mv S _ (by simpa using nS) gS
    show wpAny _ A.in1 (updateSeq S (fun _ => #[]) >>= _) _ _ _
    refine wpAny_bind (wpAny_updateSeq gS' rfl (wpAny_bind (wpAny_letGo (wpAny_pure ?_))))
    exact fin i vb _ _ hi top (put (step old mv))
  | succ r ih =>
    intro j h tk arr c hj pos old gS it best
    refine codeAny_builtin PySem.F.entry_max_loop ?_
    rw [Around.under_plainId PySem.F.plain_max_loop _]
    show wpAny _ A.in1 (seqItems? (.ref S) >>= _) _ _ _
    refine wpAny_bind (wpAny_seqItems gS rfl ?_)
    show wpAny _ A.in1 (tryCatch (pyNext (.ref I)) _ >>= _) _ _ _
    refine wpAny_bind (wpAny_tryCatch (W.item j _ _ _ (by rw [size]; omega) ⟨it, hlst old⟩ fun v h' tk' hv st mv => ?_))
    have hv : vs[j]? = some v := by simpa using hv
    have old' := step old mv
    have gS' := mv S _ (by simpa using nS) gS
    obtain ⟨oI, gI, cI, dI⟩ := st.1
    show wpAny _ A.in1 (tryCatch (holding [v] (call (.ref q) [v])) _ >>= _) _ _ _
    refine wpAny_bind (wpAny_tryCatch (wpAny_holding (wpAny_mono (key j v hv h' tk' old') (fun x s2 e => ?_) fun _ _ z => z.elim)))
    obtain ⟨h2, tk2, rfl, more, rd⟩ := e
    obtain ⟨t2, rfl⟩ := ints_of rd
    have old2 : Old h0 h2 := fun b o e => more b o (old' b o e)
    have gS2 := more _ _ gS'
    have gI2 := more _ _ gI
    have put2 : ∀ f : Obj → Obj, (h2.update S f).IsListIter I l (j + 1) := fun f => ⟨oI, (Heap.get?_update_ne _ _ _ _ (Ne.symm nS)).trans gI2, cI, dI⟩
    rcases best with ⟨rfl, rfl⟩ | ⟨i, vb, tb, rfl, hi, ij, top⟩
    · show wpAny _ A.in1 (updateSeq S (fun _ => #[v, .int (kf 0) t2]) >>= _) _ _ _
      refine wpAny_bind (wpAny_updateSeq gS2 rfl ?_)
      obtain ⟨c2, g2⟩ : ∃ c2, (h2.update S (Obj.mapSeq fun _ => #[v, .int (kf 0) t2])).get? S = some (seqObj "list" #[v, .int (kf 0) t2] c2) := ⟨_, get?_update_seq gS2 fun _ => #[v, .int (kf 0) t2]⟩
      rw [name]
      refine wpAny_pure ⟨plainId_quiet PySem.F.plain_max_loop _, ih 1 _ _ _ c2 (by omega) pos (put old2) g2 (put2 _) (.inr ⟨0, v, t2, rfl, hv, by omega, fun j' hj' => ?_⟩)⟩
      obtain rfl : j' = 0 := by omega
      exact Int.le_refl _
    · show wpAny _ A.in1 (tryCatch (holding [v, .int (kf j) t2] (richCompare .Gt (.int (kf j) t2) (.int (kf i) tb) >>= _)) _ >>= _) _ _ _
      refine wpAny_bind (wpAny_tryCatch (wpAny_holding (wpAny_bind (CmpOf.ints_gt (prog := prog) (w := w) (A := A.in1) (P := fun i v => ∃ t, v = .int (kf i) t) kf (fun i v h => h) j i _ _ _ _ _ ⟨t2, rfl⟩ ⟨tb, rfl⟩ ?_))))
      refine wpAny_bind (wpAny_holding (wpAny_truthy_bool ?_))
      refine wpAny_bind (wpAny_letGo (wpAny_pure ?_))
      by_cases more2 : kf j > kf i
      · simp only [more2, decide_true, if_true]
        refine wpAny_bind (wpAny_updateSeq gS2 rfl (wpAny_bind (wpAny_letGo ?_)))
        obtain ⟨c2, g2⟩ : ∃ c2, (h2.update S (Obj.mapSeq fun _ => #[v, .int (kf j) t2])).get? S = some (seqObj "list" #[v, .int (kf j) t2] c2) := ⟨_, get?_update_seq gS2 fun _ => #[v, .int (kf j) t2]⟩
        rw [name]
        refine wpAny_pure ⟨plainId_quiet PySem.F.plain_max_loop _, ih (j + 1) _ _ _ c2 (by omega) pos (put old2) g2 (put2 _) (.inr ⟨j, v, t2, rfl, hv, by omega, fun j' hj' => ?_⟩)⟩
        by_cases e : j' = j
        · subst e
          exact Int.le_refl _
        · have := top j' (by omega)
          omega
      · simp only [more2, decide_false, Bool.false_eq_true, if_false]
        refine wpAny_bind (wpAny_letGo ?_)
        rw [name]
        refine wpAny_pure ⟨plainId_quiet PySem.F.plain_max_loop _, ih (j + 1) _ _ _ _ (by omega) pos old2 gS2 ⟨oI, gI2, cI, dI⟩ (.inr ⟨i, vb, tb, rfl, hi, by omega, fun j' hj' => ?_⟩)⟩
        by_cases e : j' = j
        · subst e
          omega
        · exact top j' (by omega)
theorem max_call {l q : Addr} {vs : List Value} {E : Value → Shared → Prop} {Q : Value → Shared → Prop} (kf : Nat → Int) (calm : A.handled = none) (hl : s.heap.IsList l vs.toArray) (pos : 0 < vs.length)
    (key : ∀ (i : Nat) (v : Value), vs[i]? = some v → ∀ (h : Heap) (tk : Nat), Old s.heap h → wpAny (model prog w) A.in1 (call (.ref q) [v]) (KeyPure (.int (kf i)) { s with heap := h, toks := tk }) (fun _ _ => False) { s with heap := h, toks := tk })
    (fin : ∀ (i : Nat) (v : Value) (h : Heap) (tk : Nat), vs[i]? = some v → (∀ j, j < vs.length → kf j ≤ kf i) → Old s.heap h → Q v { s with heap := h, toks := tk }) :
    wpAny (model prog w) A (call (.builtin "max") [.ref l] [(Str.ofString "key", .ref q)]) Q E s := by
  have name : (toString "max" ++ toString ".loop" : String) = "max.loop" := by decide
  refine kmk_tree PySem.F.kind_max PySem.F.plain_max PySem.F.entry_max (kmk_max_key _ _) ?_
  show wpAny _ A.in1 (Builtin.Builtins.bindParams "max" ["key", "default"] 0 ⟨[], [(Str.ofString "key", .ref q)]⟩ >>= _) _ _ s
  refine wpAny_bind (wpAny_of_eq (show Builtin.Builtins.bindParams "max" ["key", "default"] 0 ⟨[], [(Str.ofString "key", .ref q)]⟩ = pure [some (.ref q), none] from rfl) ?_)
  refine wpAny_bind (wpAny_pure (wpAny_bind (wpAny_pyIter_list hl (wpAny_bind (wpAny_newList ?_ (Nat.zero_le _))))))
  rw [name]
  have ll : l < s.heap.objs.size := by
    obtain ⟨o, g, _⟩ := hl
    exact Heap.lt_size g
  have sz : (s.heap.push { cls := .type "list_iterator", data := .fields #[.ref l, .int 0 0] }).objs.size = s.heap.objs.size + 1 := size_push' ..
  refine wpAny_pure ⟨plainId_quiet PySem.F.plain_max_loop _, ?_⟩
  refine best_loop (s := s) (h0 := s.heap) (vs := vs) kf calm (Nat.ne_of_lt ll) (by rw [sz]; exact Nat.succ_ne_self _) (Heap.get?_none_of_le (Nat.le_refl _)) (Heap.get?_none_of_le (by rw [sz]; exact Nat.le_succ _)) hl key fin vs.length 0 _ _ #[] 0 (Nat.zero_add _) pos
    (fun b o e => Heap.get?_push_of_some _ (Heap.get?_push_of_some _ e)) (Heap.get?_push_size _ rfl) ⟨_, Heap.get?_push_of_some _ (Heap.get?_push_size _ rfl), rfl, rfl⟩ (.inl ⟨rfl, rfl⟩)
end
end PkQ
namespace L2
open PySem PySem.Spec PyProof.Rows
/-- the lambda's text tells the item 1 of its argument -/
def PickL (L : DL.LamC) (y : Str) : Prop := ∀ (q : Str) (cl : List (Str × Addr)) (c : Addr) (pm ctv doc : Value), PkQ.PickFd { (DL.LF.mk L q cl c).fd pm ctv with defaults := .none, doc := doc } y
/-- the lambda stands at fc -/
def PickAt (L : DL.LamC) (fc : Addr) (H : Hp) : Prop := ∃ q cl c, H fc = some (DL.LamDO fc ⟨L, q, cl, c⟩ .none) ∧ H c = some (LamX.CodeO c q)
/-- items with an int at the place 1 -/
def SndI (K : PySem.W.Frag) (H : Hp) (xs : List V) (ks : List Int) : Prop := xs.length = ks.length ∧ ∀ (i : Nat) x k, xs[i]? = some x → ks[i]? = some k → ∃ t u, x = .ref t ∧ SqT K H t [u, .int k]
section
variable {X : Cx} {L : DL.LamC} {y : Str} {pins : List (Addr × Obj)} {s : Shared} {σ : St} {H : Hp}
theorem pick_key (P : PickL L y) (I : Inv X pins σ H s) {A : Around} (room : A.depth < recursionLimit) {fc : Addr} (hf : PickAt L fc H) {x u : V} {t : Addr} {k : Int} {v : Value} (hx : x = .ref t) (rx : RelV x v) (ht : SqT X.K H t [u, .int k]) {h : Heap} (tk : Nat) (old : PkQ.Old s.heap h) :
    wpAny (model X.prog X.w) A (call (.ref fc) [v]) (PySem.W.KeyPure (.int k) { s with heap := h, toks := tk }) (fun _ _ => False) { s with heap := h, toks := tk } := by
  subst hx
  cases rx
  obtain ⟨q, cl, c, h1, h2⟩ := hf
  obtain ⟨od, sl, pm, ctv, doc, e⟩ := DL.lamDO_at I.hok h1
  obtain ⟨⟨oc, vs, tq, hoc, hdc, hvc⟩, _, _⟩ := I.hok c _ h2
  obtain ⟨its, r, ⟨ot, gt, zt⟩, _⟩ := I.tuple ht
  cases r with
  | cons r1 r2 =>
    cases r2 with
    | cons r2 r3 =>
      cases r3
      obtain ⟨tq2, rfl⟩ := r2
      exact PkQ.pick_call (P q cl c pm ctv doc) room (old _ _ e) rfl ⟨c, oc, vs, tq, rfl, old _ _ hoc, hdc, hvc⟩ (I.nolimit.keeps old) ⟨ot, old _ _ gt, zt⟩
def rMaxK (K : PySem.W.Frag) (L : DL.LamC) : List V → List V → Hp → VK → Prop := fun vs zs H Q => ∃ p fc xs ks, vs = [.ref p] ∧ zs = [.ref fc] ∧ SqL K H p xs ∧ PickAt L fc H ∧ 0 < xs.length ∧ SndI K H xs ks ∧ ∀ (i : Nat) x k, xs[i]? = some x → ks[i]? = some k → (∀ k' ∈ ks, k' ≤ k) → Q x H
theorem cr_maxK {n : Nat} (P : PickL L y) (hr : Room n X.A) : CallRK X (.builtin "max") [Str.ofString "key"] (rMaxK X.K L) := by
  rintro pins s σ H vs zs us ws Q I r r2 ⟨p, fc, xs, ks, rfl, rfl, hp, hf, pos, ⟨len, hi⟩, q⟩
  cases r with
  | cons rp rr =>
    cases rr
    cases rp
    cases r2 with
    | cons rf rr =>
      cases rr
      cases rf
      obtain ⟨its, rv, pl, hz⟩ := I.list hp
      have lv := rv.length
      have room : X.A.depth < recursionLimit := by have := hr.dp; omega
      have at_ : ∀ (i : Nat) (v : Value), its[i]? = some v → ∃ x k, xs[i]? = some x ∧ ks[i]? = some k ∧ ks.getD i 0 = k ∧ RelV x v := fun i v hv => by
        have l1 : i < its.length := (List.getElem?_eq_some_iff.mp hv).1
        have l2 : i < xs.length := by omega
        have l3 : i < ks.length := by omega
        obtain ⟨v', e1, e2⟩ := rv.get (List.getElem?_eq_getElem l2)
        cases hv.symm.trans e1
        exact ⟨_, _, List.getElem?_eq_getElem l2, List.getElem?_eq_getElem l3, by rw [List.getD_eq_getElem?_getD, List.getElem?_eq_getElem l3]; rfl, e2⟩
      refine PkQ.max_call (vs := its) (fun i => ks.getD i 0) hr.hd pl.isList (by omega) (fun i v hv h tk old => ?_) fun i v h tk hv top old => ?_
      · obtain ⟨x, k, e1, e2, e3, rx⟩ := at_ i v hv
        obtain ⟨t, u, hx, ht⟩ := hi i x k e1 e2
        rw [e3]
        exact pick_key (A := X.A.in1) P I room hf hx rx ht tk old
      · obtain ⟨x, k, e1, e2, e3, rx⟩ := at_ i v hv
        refine ⟨x, H, I.kept old, rx, q i x k e1 e2 fun k' hk' => ?_⟩
        obtain ⟨j, hj, rfl⟩ := List.mem_iff_getElem.mp hk'
        have := top j (by omega)
        rw [e3, List.getD_eq_getElem?_getD, List.getElem?_eq_getElem hj] at this
        exact this
def rSortK (K : PySem.W.Frag) (L : DL.LamC) : List V → List V → Hp → VK → Prop := fun vs zs H Q => ∃ p fc xs ks, vs = [.ref p] ∧ zs = [.ref fc] ∧ SqL K H p xs ∧ PickAt L fc H ∧ SndI K H xs ks ∧ ∀ (ps : List (V × Int)) (D : Addr), H D = none → ps.Perm (xs.zip ks) → ps.Pairwise (fun a b => a.2 ≤ b.2) → Q (.ref D) (upd H D (.lst (ps.map (·.1))))
theorem zip_each {R : Value → V × Int → Prop} : ∀ {vs : List Value} {xs : List V} {ks : List Int}, Vals xs vs → xs.length = ks.length → (∀ v x k, RelV x v → R v (x, k)) → PySem.W.EachIs R vs (xs.zip ks)
  | _, _, [], .nil, _, _ => .nil
  | _, _, k :: ks, .cons r rs, hl, h => .cons (h _ _ _ r) (zip_each rs (by simpa using hl) h)
theorem vals_each : ∀ {out : List Value} {ps : List (V × Int)}, PySem.W.EachIs (fun v b => RelV b.1 v) out ps → Vals (ps.map (·.1)) out
  | _, _, .nil => .nil
  | _, _, .cons r rs => .cons r (vals_each rs)
theorem cr_sortK {n : Nat} (P : PickL L y) (hr : Room n X.A) : CallRK X (.builtin "sorted") [Str.ofString "key"] (rSortK X.K L) := by
  rintro pins s σ H vs zs us ws Q I r r2 ⟨p, fc, xs, ks, rfl, rfl, hp, hf, ⟨len, hi⟩, q⟩
  cases r with
  | cons rp rr =>
    cases rr
    cases rp
    cases r2 with
    | cons rf rr =>
      cases rr
      cases rf
      obtain ⟨its, rv, pl, hz⟩ := I.list hp
      have room : X.A.depth < recursionLimit := by have := hr.dp; omega
      have zl : (xs.zip ks).length = xs.length := by rw [List.length_zip]; omega
      refine PySem.W.sorted_key_data (b := false) (β := V × Int) (bs := xs.zip ks) (vs := its) (R := fun v b => RelV b.1 v) (fun b => PyData.int b.2) pl.isList (zip_each rv len fun v x k r => r) ?_ (.inr fun d hd => ?_) (by rw [zl]; exact hz) (fun b hb => ?_) (ksk_s1 _ _) (fun x => ksk_l1 _ _) (fun x => ksk_t1 _ _) (fun v b rb hb h tk old => ?_) fun out c h' tk old fresh hD hl each => ?_
      · intro d hd d' hd'
        obtain ⟨b, _, rfl⟩ := List.mem_map.mp hd
        obtain ⟨b', _, rfl⟩ := List.mem_map.mp hd'
        rfl
      · obtain ⟨b, _, rfl⟩ := List.mem_map.mp hd
        exact ⟨fun z => (nomatch z), fun xs z => nomatch z⟩
      · have := hr.un
        show X.A.units + 2 + PyData.depth (.int b.2) < cLine
        simp only [PyData.depth]
        omega
      · obtain ⟨i, hi1, e⟩ := List.mem_iff_getElem.mp hb
        rw [List.getElem_zip] at e
        have e1 : xs[i]? = some b.1 := by rw [List.getElem?_eq_getElem (by omega), ← e]
        have e2 : ks[i]? = some b.2 := by rw [List.getElem?_eq_getElem (by omega), ← e]
        obtain ⟨t, u, hx, ht⟩ := hi i _ _ e1 e2
        exact pick_key (A := X.A.in1.in1) P I room hf hx rb ht tk old
      · have pm : ((xs.zip ks).mergeSort (PySem.W.dataLe false fun b : V × Int => PyData.int b.2)).Perm (xs.zip ks) := List.mergeSort_perm _ _
        have le : (PySem.W.dataLe false fun b : V × Int => PyData.int b.2) = fun a b : V × Int => decide (a.2 ≤ b.2) := PySem.W.dataLe_int (fun b : V × Int => b.2)
        have so : ((xs.zip ks).mergeSort (PySem.W.dataLe false fun b : V × Int => PyData.int b.2)).Pairwise (fun a b => a.2 ≤ b.2) := by
          rw [le]
          refine (List.pairwise_mergeSort (fun a b c h1 h2 => ?_) (fun a b => ?_) _).imp fun h => of_decide_eq_true h
          · have := of_decide_eq_true h1
            have := of_decide_eq_true h2
            exact decide_eq_true (by omega)
          · by_cases h : a.2 ≤ b.2
            · simp [h]
            · have : b.2 ≤ a.2 := by omega
              simp [this]
        have nD := I.hok.fresh (Nat.le_succ s.heap.objs.size)
        have new : ObjOk X.prog X.w (upd H (s.heap.objs.size + 1) (.lst (((xs.zip ks).mergeSort (PySem.W.dataLe false fun b : V × Int => PyData.int b.2)).map (·.1)))) h' (s.heap.objs.size + 1) (.lst (((xs.zip ks).mergeSort (PySem.W.dataLe false fun b : V × Int => PyData.int b.2)).map (·.1))) :=
          ⟨by rw [List.length_map, pm.length_eq, zl]; exact hz, out, c, vals_each each, hD⟩
        exact ⟨.ref _, _, I.laid old (Nat.le_succ _) new, rfl, q _ _ nD pm so⟩
end
end L2
namespace DL
open PySem PySem.Spec PyProof.Rows L2
def dMaxK (L : LamC) (dA dK : TAD) : TED := fun ρ M Q => dA ρ M fun ds M1 => dK ρ M1 fun es M2 => ∃ (x : Dat) (fc : Addr) (ps : List (Int × Int)), ds = [x] ∧ es = [.ref fc] ∧ lsR M2 x = some (ps.map prD) ∧ M2 fc = some (.oth (lamR L [] [] fc [])) ∧ ps ≠ [] ∧ ∀ q ∈ ps, (∀ p ∈ ps, p.2 ≤ q.2) → Q (prD q) M2
def dSortK (mk : Bool) (L : LamC) (dA dK : TAD) : TED := fun ρ M Q => dA ρ M fun ds M1 => dK ρ M1 fun es M2 => ∃ (x : Dat) (fc : Addr) (ps : List (Int × Int)), ds = [x] ∧ es = [.ref fc] ∧ lsR M2 x = some (ps.map prD) ∧ M2 fc = some (.oth (lamR L [] [] fc [])) ∧ ∀ qs : List (Int × Int), qs.Perm ps → qs.Pairwise (fun a b => a.2 ≤ b.2) → newL mk (qs.map prD) M2 Q
theorem perm_lift {α β : Type} {f : α → β} {l m : List β} (h : l.Perm m) : ∀ as : List α, m = as.map f → ∃ bs : List α, bs.Perm as ∧ bs.map f = l := by
  induction h with
  | nil => exact fun as e => ⟨as, .refl _, e.symm⟩
  | cons x _ ih =>
    intro as e
    match as, e with
    | a :: as, e =>
      injection e with e1 e2
      obtain ⟨bs, h1, h2⟩ := ih as e2
      exact ⟨a :: bs, .cons _ h1, by rw [List.map_cons, h2, e1]⟩
  | swap x y t =>
    intro as e
    match as, e with
    | a :: b :: as, e =>
      injection e with e1 e2
      injection e2 with e2 e3
      exact ⟨b :: a :: as, .swap _ _ _, by rw [List.map_cons, List.map_cons, e1, e2, e3]⟩
  | trans _ _ ih1 ih2 =>
    intro as e
    obtain ⟨bs, h1, h2⟩ := ih2 as e
    obtain ⟨cs, h3, h4⟩ := ih1 bs h2.symm
    exact ⟨cs, h3.trans h1, h4⟩
section
variable {K : PySem.W.Frag} {F H : Hp}
theorem reps_prK : ∀ {l : List (V × (Int × Int))}, (∀ b ∈ l, Rep K F b.1 (prD b.2)) → Reps K F (l.map (·.1)) ((l.map (·.2)).map prD)
  | [], _ => .nil
  | b :: l, h => .cons (h b (List.mem_cons_self ..)) (reps_prK fun x hx => h x (List.mem_cons_of_mem _ hx))
theorem prK_reps : ∀ {xs : List V} {ps : List (Int × Int)}, Reps K F xs (ps.map prD) → ∀ b ∈ xs.zip ps, Rep K F b.1 (prD b.2)
  | [], _, _ => fun b hb => nomatch hb
  | x :: xs, [], r => nomatch r
  | x :: xs, p :: ps, .cons r rs => fun b hb => by
    rcases List.mem_cons.mp hb with rfl | hb
    · exact r
    · exact prK_reps rs b hb
theorem snd_prs (e : Ext F H) {xs : List V} {ps : List (Int × Int)} (r : Reps K F xs (ps.map prD)) : SndI K H xs (ps.map (·.2)) := by
  have len := r.length
  rw [List.length_map] at len
  refine ⟨by rw [List.length_map]; exact len, fun i x k hx hk => ?_⟩
  rw [List.getElem?_map] at hk
  cases hp : ps[i]? with
  | none => rw [hp] at hk; cases hk
  | some p =>
    rw [hp] at hk
    cases hk
    obtain ⟨v, hv, rv⟩ := r.get (i := i) (d := prD p) (by rw [List.getElem?_map, hp]; rfl)
    cases hv.symm.trans hx
    cases rv with
    | tup t1 t2 =>
      obtain ⟨a, ws, rfl, ra, rs⟩ := t2.uncons
      obtain ⟨b, ws, rfl, rb, rs⟩ := rs.uncons
      cases rs.unnil
      cases rb
      exact ⟨_, _, rfl, ext_t e t1⟩
theorem pick_at {Z : Hp} {M : MH} (R : RelM K Z F H M) {L : LamC} {fc : Addr} (h : M fc = some (.oth (lamR L [] [] fc []))) : PickAt L fc H := by
  obtain ⟨_, hx, q, cl, c, dv, rfl, hc, hdv, _⟩ := (R.chg fc _ h).2
  rcases hdv with ⟨_, rfl⟩ | ⟨z, _⟩
  · exact ⟨q, cl, c, hx, R.sub _ _ hc⟩
  · exact absurd rfl z
end
section
variable {X : Cx} {L : LamC} {y : Str} {n : Nat} {e : Expr} {kws : List Keyword} {p pos : Pos} {dA dK : TAD}
theorem de_maxK (P : PickL L y) (hr : Room n X.A) (hm : X.mg "max" = none) (ha : DA X [e] dA) (hk : DK X kws dK) (hg : Gl X "max" := by rfl)
    (he : backTo pos (starEach [e] X.env) = (false, eval e X.env) :: backTo pos (starEach [] X.env) := by rfl) (hpl : (backTo pos (starEach [e] X.env)).any (·.1) = false := by rfl)
    (hall : (backToKw pos (keywordEach kws X.env)).all (·.1.isSome) = true := by rfl) (hnone : (backToKw pos (keywordEach kws X.env)).any (·.1.isNone) = false := by rfl) (hks : (backToKw pos (keywordEach kws X.env)).filterMap (·.1) = [Str.ofString "key"] := by rfl) :
    DE X (.Call (.Name "max" p) [e] kws pos) (dMaxK L dA dK) :=
  pe_w (pe_callBK (cr_maxK P hr) hg hm (by decide +kernel) ha hk (by decide) (by decide) he hpl hall hnone hks) fun σ H Q ⟨Z, F, M, ρ, QD, R, h, o⟩ => by
    refine ⟨Z, F, M, ρ, _, R, h, fun vs ds F1 H1 M1 e1 R1 r1 h1 => ?_⟩
    refine ⟨Z, F1, M1, ρ, _, R.ext e1 R1, h1, fun zs es F2 H2 M2 e2 R2 r2 h2 => ?_⟩
    obtain ⟨x, fc, ps, rfl, rfl, q1, q2, q3, q4⟩ := h2
    obtain ⟨vx, ws, rfl, rx, rs⟩ := (r1.mono e2).uncons
    cases rs.unnil
    obtain ⟨vf, ws, rfl, rf, rs⟩ := r2.uncons
    cases rs.unnil
    cases rf
    obtain ⟨pp, xs, rfl, hq, rr⟩ := lsR_rep R2 rx q1
    have len := rr.length
    rw [List.length_map] at len
    refine ⟨pp, fc, xs, ps.map (·.2), rfl, rfl, hq, pick_at R2 q2, by rw [len]; exact List.length_pos_iff.mpr q3, snd_prs R2.sub rr, fun i v k hv hk top => ?_⟩
    rw [List.getElem?_map] at hk
    cases hp : ps[i]? with
    | none => rw [hp] at hk; cases hk
    | some b =>
      rw [hp] at hk
      cases hk
      obtain ⟨v', h6, h7⟩ := rr.get (i := i) (d := prD b) (by rw [List.getElem?_map, hp]; rfl)
      cases h6.symm.trans hv
      exact o _ _ F2 H2 M2 (e1.trans e2) R2 h7 (q4 b (List.mem_of_getElem? hp) fun c hc => top _ (List.mem_map_of_mem hc))
theorem de_sortK (mk : Bool) (P : PickL L y) (hr : Room n X.A) (hm : X.mg "sorted" = none) (ha : DA X [e] dA) (hk : DK X kws dK) (hg : Gl X "sorted" := by rfl)
    (he : backTo pos (starEach [e] X.env) = (false, eval e X.env) :: backTo pos (starEach [] X.env) := by rfl) (hpl : (backTo pos (starEach [e] X.env)).any (·.1) = false := by rfl)
    (hall : (backToKw pos (keywordEach kws X.env)).all (·.1.isSome) = true := by rfl) (hnone : (backToKw pos (keywordEach kws X.env)).any (·.1.isNone) = false := by rfl) (hks : (backToKw pos (keywordEach kws X.env)).filterMap (·.1) = [Str.ofString "key"] := by rfl) :
    DE X (.Call (.Name "sorted" p) [e] kws pos) (dSortK mk L dA dK) :=
  pe_w (pe_callBK (cr_sortK P hr) hg hm (by decide +kernel) ha hk (by decide) (by decide) he hpl hall hnone hks) fun σ H Q ⟨Z, F, M, ρ, QD, R, h, o⟩ => by
    refine ⟨Z, F, M, ρ, _, R, h, fun vs ds F1 H1 M1 e1 R1 r1 h1 => ?_⟩
    refine ⟨Z, F1, M1, ρ, _, R.ext e1 R1, h1, fun zs es F2 H2 M2 e2 R2 r2 h2 => ?_⟩
    obtain ⟨x, fc, ps, rfl, rfl, q1, q2, q4⟩ := h2
    obtain ⟨vx, ws, rfl, rx, rs⟩ := (r1.mono e2).uncons
    cases rs.unnil
    obtain ⟨vf, ws, rfl, rf, rs⟩ := r2.uncons
    cases rs.unnil
    cases rf
    obtain ⟨pp, xs, rfl, hq, rr⟩ := lsR_rep R2 rx q1
    have len := rr.length
    rw [List.length_map] at len
    refine ⟨pp, fc, xs, ps.map (·.2), rfl, rfl, hq, pick_at R2 q2, snd_prs R2.sub rr, fun bs D nD pm so => ?_⟩
    have ez : xs.zip (ps.map (·.2)) = (xs.zip ps).map fun b => (b.1, b.2.2) := by rw [List.zip_map_right]; rfl
    rw [ez] at pm
    obtain ⟨cs, g1, rfl⟩ := perm_lift pm _ rfl
    have rp : Reps X.K F2 (cs.map (·.1)) ((cs.map (·.2)).map prD) := reps_prK fun b hb => prK_reps rr b (g1.mem_iff.mp hb)
    have e3 : (cs.map fun b => (b.1, b.2.2)).map (·.1) = cs.map (·.1) := by rw [List.map_map]; rfl
    rw [e3]
    have g2 : (cs.map (·.2)).Perm ps := by
      have := g1.map (·.2)
      rw [List.map_snd_zip (by omega)] at this
      exact this
    refine sim_new R2 rp (q4 _ g2 ?_) (o.mono (e1.trans e2)) nD
    exact List.pairwise_map.mpr ((List.pairwise_map.mp so).imp fun h => h)
end
end DL
/-! xs.remove(q) and xs.count(q), xs a list of pairs of ints -/
namespace L2
open PySem PySem.Spec PyProof.Rows
section
variable {X : Cx}
/-- items as data: where the ones that are equal to d stand -/
def RdAll (X : Cx) (H : Hp) (ys : List V) (ds : List PyData) (y : V) (d : PyData) : Prop := DpAll X.K H ys ds ∧ Dp X.K H y d ∧ SeqAt.shaped (.list ds) = true ∧ SeqAt.shaped d = true
theorem rd_items {pins : List (Addr × Obj)} {s : Shared} {σ : St} {H : Hp} {ys : List V} {ds : List PyData} {y : V} {d : PyData} {its : List Value} {u : Value} (hu : X.A.units + 65 < cLine) (I : Inv X pins σ H s) (h : RdAll X H ys ds y d) (rv : Vals ys its) (ru : RelV y u) :
    its.map (SeqAt.readOf s.heap) = ds ∧ ∀ z, z ∈ its.toArray → SeqAt.EqAt X.A.in1 s z u (PyData.eqv (SeqAt.readOf s.heap z) d) := by
  obtain ⟨ha, hy, sl, sd⟩ := h
  obtain ⟨bs, r1⟩ := Dp.reads I d y u hy ru
  obtain ⟨as, r2⟩ := Dp.readsAll I ds ys its ha rv
  have lay : PyData.canLayAll0 ds = true := SeqAt.canLay_of_shaped sl
  have room : X.A.units + 1 + min (PyData.depthAll ds) d.depth < cLine := room_in_shaped sd hu
  exact ⟨SeqAt.readsAll_map ds its as lay r2, SeqAt.items_eqAt (vs := its.toArray) (show ReadsAll s.heap its.toArray.toList ds as from r2) r1 lay (SeqAt.canLay_of_shaped sd) room⟩
theorem mt_cntD (hu : X.A.units + 65 < cLine) : MtR X "list.count" (fun x xs H Q => ∃ p y ys d ds, x = .ref p ∧ xs = [y] ∧ SqL X.K H p ys ∧ RdAll X H ys ds y d ∧ Q (.int ((ds.countP fun z => PyData.eqv z d : Nat) : Int)) H) := by
  rintro pins s σ H x xs v us Q I rx rxs ⟨p, y, ys, d, ds, rfl, rfl, hp, hd, q⟩
  cases rx
  obtain ⟨u, rfl, ru⟩ := rxs.one
  obtain ⟨its, rv, ⟨⟨cls, dd, data, sl⟩, n, ho, hc, hdn, hdt⟩, _⟩ := I.list hp
  simp only at hc hdt
  subst hc hdt
  obtain ⟨e1, e2⟩ := rd_items hu I hd rv ru
  refine call_meets PySem.F.slot_list_count ⟨_, ho, rfl⟩ PySem.F.entry_list_count (PySem.F.args_list_count_2 _ _) (SeqAt.list_countAt p its.toArray n dd sl u fun z => PyData.eqv (SeqAt.readOf s.heap z) d) ⟨ho, e2, ?_⟩
  refine ⟨.int ((ds.countP fun z => PyData.eqv z d : Nat) : Int), H, I.tok _, ⟨s.toks, ?_⟩, q⟩
  show Value.int ((its.toArray.toList.countP fun z => PyData.eqv (SeqAt.readOf s.heap z) d : Nat) : Int) s.toks = _
  rw [List.toList_toArray, ← e1, List.countP_map]
  rfl
theorem mt_remD (hu : X.A.units + 65 < cLine) : MtR X "list.remove" (fun x xs H Q => ∃ p y ys d ds j z, x = .ref p ∧ xs = [y] ∧ H p = some (.lst ys) ∧ RdAll X H ys ds y d ∧ ds[j]? = some z ∧ PyData.eqv z d = true ∧ (∀ (m : Nat) z', m < j → ds[m]? = some z' → PyData.eqv z' d = false) ∧ Q .non (upd H p (.lst (ys.eraseIdx j)))) := by
  rintro pins s σ H x xs v us Q I rx rxs ⟨p, y, ys, d, ds, j, z, rfl, rfl, hp, hd, hz, hzj, hno, q⟩
  cases rx
  obtain ⟨u, rfl, ru⟩ := rxs.one
  obtain ⟨its, n, rv, ho, hs⟩ := I.lst hp
  obtain ⟨e1, e2⟩ := rd_items hu I hd rv ru
  have ln : its.length = ds.length := by rw [← e1, List.length_map]
  have lv := rv.length
  have lj : j < its.length := by
    have := (List.getElem?_eq_some_iff.mp hz).1
    omega
  have at_ : ∀ (m : Nat) (hm : m < its.toArray.size), ds[m]? = some (SeqAt.readOf s.heap its.toArray[m]) := fun m hm => by
    have l : m < its.length := by simpa using hm
    rw [← e1, List.getElem?_map, List.getElem?_eq_getElem l]
    simp
  have er : Obj.mapSeq (fun xs => xs.eraseIdxIfInBounds j) { cls := .type "list", data := .seq its.toArray n } = { cls := .type "list", data := .seq (its.eraseIdx j).toArray (if (its.eraseIdx j).toArray.size == its.toArray.size then n else n + 1) } := by
    have e : its.toArray.eraseIdxIfInBounds j = (its.eraseIdx j).toArray := by simp
    unfold Obj.mapSeq
    simp only [e]
  have rv2 : Vals (ys.eraseIdx j) (its.eraseIdx j) := by
    have : ∀ {ys : List V} {its : List Value} (j : Nat), Vals ys its → Vals (ys.eraseIdx j) (its.eraseIdx j) := by
      intro ys its j r
      induction r generalizing j with
      | nil => exact .nil
      | cons h t ih =>
        cases j with
        | zero => exact t
        | succ j => exact .cons h (ih j)
    exact this j rv
  have J := I.lstUpd hp ho er rv2 (by have := List.length_eraseIdx_le ys j; omega) s.toks
  refine call_meets PySem.F.slot_list_remove ⟨_, ho, rfl⟩ PySem.F.entry_list_remove (PySem.F.args_list_remove_2 _ _) (SeqAt.list_removeAt p its.toArray n none #[] u (fun z => PyData.eqv (SeqAt.readOf s.heap z) d) j (by simpa using lj) ?_ (fun m hm hmj => ?_) (by rw [List.size_toArray]; omega)) ⟨ho, e2, ?_⟩
  · have := at_ j (by simpa using lj)
    rw [hz] at this
    show PyData.eqv (SeqAt.readOf s.heap its.toArray[j]) d = true
    rw [← Option.some.inj this]
    exact hzj
  · exact hno m _ hmj (at_ m hm)
  · exact ⟨.non, _, J, rfl, q⟩
end
end L2
namespace DL
open PySem PySem.Spec PyProof.Rows L2
/-- the value of a call's keyword -/
def exKw (e : Expr) (i : Nat) : Expr := match e with
  | .Call _ _ ks _ => (ks.map (·.value)).getD i e
  | _ => e
def rCntP : Dat → List Dat → MH → VKD → Prop := fun x xs M Q => ∃ (q : Int × Int) (ps : List (Int × Int)), xs = [prD q] ∧ lsR M x = some (ps.map prD) ∧ Q (.int (ps.count q : Nat)) M
def rRemP : Dat → List Dat → MH → VKD → Prop := fun x xs M Q => ∃ (a : Addr) (q : Int × Int) (ps : List (Int × Int)), x = .ref a ∧ xs = [prD q] ∧ M a = some (.lst (ps.map prD)) ∧ q ∈ ps ∧ Q .non (updM M a (.lst ((ps.erase q).map prD)))
theorem eq_prs (p q : Int × Int) : PyData.eqv (toPy (prD p)) (toPy (prD q)) = (p == q) := by
  have e : eqD (prD p) (prD q) = decide (p = q) := by
    unfold prD
    rw [eqD_tup, eqDs_cons, eqDs_cons, eqD_int, eqD_int, eqDs_nil, Bool.and_true]
    by_cases h : p = q
    · subst h
      simp
    · rw [decide_eq_false h]
      by_cases h1 : p.1 = q.1
      · have h2 : p.2 ≠ q.2 := fun h2 => h (Prod.ext h1 h2)
        simp [h1, h2]
      · simp [h1]
  have e2 : (p == q) = decide (p = q) := by
    by_cases h : p = q
    · subst h
      simp
    · rw [decide_eq_false h]
      exact beq_eq_false_iff_ne.mpr h
  rw [e2, ← e]
  rfl
theorem toPys_map (ps : List (Int × Int)) : toPys (ps.map prD) = ps.map fun q => toPy (prD q) := by
  induction ps with
  | nil => rfl
  | cons q ps ih => rw [List.map_cons, List.map_cons, ← ih]; rfl
theorem dp_prs {K : PySem.W.Frag} {Z F H : Hp} {M : MH} (R : RelM K Z F H M) : ∀ {ys : List V} {ps : List (Int × Int)}, Reps K F ys (ps.map prD) → DpAll K H ys (toPys (ps.map prD))
  | [], [], _ => .nil
  | [], _ :: _, r => nomatch r
  | _ :: _, [], r => nomatch r
  | y :: ys, q :: ps, .cons r rs => .cons (deref_dp (a := prD q) R r rfl) (dp_prs R rs)
theorem rd_prs {X : Cx} {Z F H : Hp} {M : MH} (R : RelM X.K Z F H M) {ys : List V} {ps : List (Int × Int)} {y : V} {q : Int × Int} (r : Reps X.K F ys (ps.map prD)) (ry : Rep X.K F y (prD q)) : RdAll X H ys (toPys (ps.map prD)) y (toPy (prD q)) :=
  ⟨dp_prs R r, deref_dp (a := prD q) R ry rfl, shaped_of (d := .lst (ps.map prD)) (shp_prN ps), shaped_of (d := prD q) rfl⟩
theorem first_at {q : Int × Int} : ∀ {ps : List (Int × Int)}, q ∈ ps → ∃ j : Nat, ps[j]? = some q ∧ (∀ (i : Nat) p, i < j → ps[i]? = some p → p ≠ q) ∧ ps.eraseIdx j = ps.erase q
  | p :: ps, h => by
    by_cases e : p = q
    · subst e
      exact ⟨0, rfl, fun i p' hi => absurd hi (Nat.not_lt_zero _), by simp⟩
    · obtain ⟨j, h1, h2, h3⟩ := first_at (ps := ps) ((List.mem_cons.mp h).resolve_left fun z => e z.symm)
      refine ⟨j + 1, h1, fun i p' hi hp => ?_, ?_⟩
      · cases i with
        | zero => cases hp; exact e
        | succ i => exact h2 i p' (by omega) hp
      · rw [List.eraseIdx_cons_succ, h3, List.erase_cons_tail (by simpa using e)]
section
variable {X : Cx}
theorem md_cntP (hu : X.A.units + 65 < cLine) : MtD X "list.count" rCntP := ⟨_, mt_cntD hu, fun Z F H M x xs a as Q QD R ra rs hd o => by
  obtain ⟨q, ps, rfl, q1, q2⟩ := hd
  obtain ⟨v, ws, rfl, r1, rs⟩ := rs.uncons
  cases rs.unnil
  obtain ⟨p, ys, rfl, hp, rr⟩ := lsR_rep R ra q1
  refine ⟨p, v, ys, _, _, rfl, rfl, hp, rd_prs R rr r1, ?_⟩
  have e : (toPys (ps.map prD)).countP (fun z => PyData.eqv z (toPy (prD q))) = ps.count q := by
    rw [toPys_map, List.countP_map]
    unfold List.count
    refine List.countP_congr fun z _ => ?_
    show PyData.eqv (toPy (prD z)) (toPy (prD q)) = true ↔ _
    rw [eq_prs]
  rw [e]
  exact o _ _ F H M (Ext.refl F) R (.int _) q2⟩
theorem md_remP (hu : X.A.units + 65 < cLine) : MtD X "list.remove" rRemP := ⟨_, mt_remD hu, fun Z F H M x xs a as Q QD R ra rs hd o => by
  obtain ⟨p, q, ps, rfl, rfl, told, hq, good⟩ := hd
  obtain ⟨v, ws, rfl, r1, rs⟩ := rs.uncons
  cases rs.unnil
  cases ra
  obtain ⟨ys, here, rr⟩ := (R.chg p _ told).2
  obtain ⟨j, h1, h2, h3⟩ := first_at hq
  have at_ : ∀ (m : Nat) z, (toPys (ps.map prD))[m]? = some z → ∃ b, ps[m]? = some b ∧ z = toPy (prD b) := fun m z hz => by
    rw [toPys_map, List.getElem?_map] at hz
    cases hb : ps[m]? with
    | none => rw [hb] at hz; cases hz
    | some b => rw [hb] at hz; cases hz; exact ⟨b, rfl, rfl⟩
  have rr2 : Reps X.K F (ys.eraseIdx j) ((ps.erase q).map prD) := by
    rw [← h3, List.eraseIdx_eq_take_drop_succ, List.eraseIdx_eq_take_drop_succ, List.map_append, List.map_take, List.map_drop]
    exact (rr.take _).app (rr.drop _)
  have R3 := R.write (o := .lst (ys.eraseIdx j)) (m := .lst ((ps.erase q).map prD)) told ⟨_, upd_same, rr2⟩
  refine ⟨p, v, ys, _, _, j, toPy (prD q), rfl, rfl, here, rd_prs R rr r1, by rw [toPys_map, List.getElem?_map, h1]; rfl, by rw [eq_prs]; simp, fun m z hm hz => ?_, o _ _ F _ _ (Ext.refl F) R3 .non good⟩
  obtain ⟨b, hb, rfl⟩ := at_ m z hz
  rw [eq_prs]
  exact beq_eq_false_iff_ne.mpr (h2 m b hm hb)⟩
end
end DL
/-! a kept lambda that a name holds, called in the frame whose cells it has; a list of whatever compared with a text -/
namespace DL
open PySem PySem.Spec PyProof.Rows L2 LamX NdefX
/-! a kept lambda's call: what it tells stands beside its cells -/
def cloC2 (K : PySem.W.Frag) (as : List Addr) (sp : SpXD) : SpXD := fun ds M Q ED => ds = [] ∧ ∃ ts : List Tc, ts.map (·.1) = as ∧ CelsM K M ts ∧ sp (ts.map (·.2.2)) (hidM M ts) (fun d M' => (∀ t ∈ ts, M' t.1 = none) → Q d (shwM K M' ts)) (fun C f x M' => ED C f x (shwM K M' ts))
theorem clo_tr2 {P : Program} {w : World} {K : PySem.W.Frag} {mg : Str → Option Value} {base : Heap} {kl kc : Nat} {L : LamC} {dfs : List Int} {fr : List Str} {sp : SpXD} (ld : LamV P w K mg base kl L dfs fr sp) (hk : kl ≤ kc) (outer : List Env) (s : Shared) (H : Hp) (fc : Addr) (as : List Addr) :
    CloX P w K mg base kc outer s H fc (lamR L dfs fr fc as) (cloC2 K as sp) := by
  refine ⟨fun F o ⟨q, cl, c, dv, h, _⟩ => (by rw [h]; exact isFnO_lamD _ _ _), fun A' outer' s1 HZ us vs Q E hr e0 un r h => ?_⟩
  obtain ⟨Z, F, M, ds, QD, ED, R, rr, ⟨hM, rfl, ts, hts, C, hsp⟩, o, oe⟩ := h
  cases rr
  cases r
  obtain ⟨_, x, hx, q, cl, c, dv, rfl, hc, hdv, hci⟩ := R.chg _ _ hM
  have CH := C.heap R
  have cel := C.cel R
  obtain ⟨ws, r1, r2, r3⟩ := cels_reps cel
  have R1 := relM_hid R C
  have g : ∀ t ∈ ts, s1.heap.get? t.1 = some t.2.1 := fun t ht => (e0.hok _ _ (CH t ht)).1
  have nt : ∀ t ∈ ts, hidH HZ ts t.1 = none := fun t ht => by
    obtain ⟨u, q⟩ := fndC_has ht
    exact hidH_at q
  have hfc : fndC ts fc = none := fndC_none fun t ht z => by
    obtain ⟨od, sl, pm, ctv, doc, ho⟩ := lamDO_at e0.hok hx
    obtain ⟨v, u, g1, _, _⟩ := cel t ht
    have := g t ht
    rw [z, ho] at this
    rw [← Option.some.inj this] at g1
    cases g1
  obtain ⟨c1, c2, c3, c4⟩ := hci
  have hlen : ts.length = fr.length := by rw [← c1, ← hts, List.length_map]
  have CA : CellsAt cl fr (ws.map some) s1.heap (hidH HZ ts) := by
    have mem : ∀ a, a ∈ as → ∃ t ∈ ts, t.1 = a := fun a ha => by
      rw [← hts] at ha
      obtain ⟨t, ht, e⟩ := List.mem_map.mp ha
      exact ⟨t, ht, e⟩
    refine ⟨by rw [List.length_map, r2, hlen], fun y a e => ?_, c4, fun i y e => ?_⟩
    · obtain ⟨t, ht, rfl⟩ := mem a (c3 y a e)
      obtain ⟨v, u, g1, _, _⟩ := cel t ht
      exact ⟨nt t ht, some u, t.2.1, g t ht, g1⟩
    · obtain ⟨a, h1, h2⟩ := c2 i y e
      refine ⟨a, h2, fun v hv => ?_⟩
      rw [← hts, List.getElem?_map] at h1
      obtain ⟨t, ht, rfl⟩ := Option.map_eq_some_iff.mp h1
      rw [List.getElem?_map] at hv
      obtain ⟨v', hv', e2⟩ := Option.map_eq_some_iff.mp hv
      cases e2
      obtain ⟨u, g1, g2⟩ := r3 i t v ht hv'
      exact ⟨u, g2, t.2.1, g t (List.mem_of_getElem? ht), g1⟩
  refine codeAny_mono ((ld.ok q cl c).run A' outer' s1 (hidH HZ ts) fc dv (ws.map some) (fun v H2 => (∀ t ∈ ts, H2 t.1 = none) → Q v (shwH H2 ts)) (fun cls d H2 => (∀ t ∈ ts, H2 t.1 = none) → E cls d (shwH H2 ts)) (hr.mono hk) (env0_hid e0 CH) ?_ ?_ ?_ CA
    ⟨Z, F, hidM M ts, ts.map (·.2.2), fun d M' => (∀ t ∈ ts, M' t.1 = none) → QD d (shwM K M' ts), fun C f x M' => ED C f x (shwM K M' ts), ws, R1, rfl, r1, hsp, ?_, ?_⟩) fun r s' hq => cr_shw (mg := mg) (base := base) e0 CH hq
  · rw [hidH_no hfc]
    exact hx
  · rcases hdv with h | ⟨h0, T, h1, h2⟩
    · exact .inl h
    · exact .inr ⟨h0, T, h1, R1.sub _ _ h2⟩
  · exact R1.sub _ _ hc
  · intro v d F' H' M' e R' rv q n
    exact o v d F' _ _ e (relM_shw R' n fun t ht => by
      obtain ⟨v, u, g1, g2, g3⟩ := cel t ht
      exact ⟨v, u, g1, g2, g3.mono e⟩) rv (q fun t ht => (R'.fresh (n t ht)).2)
  · intro C0 dd f x F' H' M' e R' nd q n
    have hd : fndC ts dd = none := fndC_none fun t ht z => by
      obtain ⟨_, ob, q1, _⟩ := R'.chg dd _ updM_same
      have := n t ht
      rw [z, q1] at this
      cases this
    refine oe C0 dd f x F' _ (shwM K M' ts) e ?_ (by rw [shwM_no hd]; exact nd) q
    have R2 := relM_shw R' n fun t ht => by
      obtain ⟨v, u, g1, g2, g3⟩ := cel t ht
      exact ⟨v, u, g1, g2, g3.mono e⟩
    have eM : shwM K (updM M' dd (.oth (xdR K f x))) ts = updM (shwM K M' ts) dd (.oth (xdR K f x)) := by
      funext b
      by_cases hb : b = dd
      · subst hb
        rw [updM_same, shwM_no hd, updM_same]
      · rw [updM_ne hb]
        cases q : fndC ts b with
        | some t => rw [shwM_at q, shwM_at q]
        | none => rw [shwM_no q, shwM_no q, updM_ne hb]
    rw [← eM]
    exact R2
def spT2 (K : PySem.W.Frag) (G : GSpX) (tbl : List LamE) : SpD := fun ds M Q => ∃ fc as e, e ∈ tbl ∧ M fc = some (.oth (lamR e.L e.dfs e.fr fc as)) ∧ G fc (lamR e.L e.dfs e.fr fc as) (cloC2 K as e.sp) ds M Q
theorem gn_fn2 {P : Program} {w : World} {K : PySem.W.Frag} {mg : Str → Option Value} {base : Heap} {k kc : Nat} {x : Str} {st : Stmt} {ps : List Str} {G : GSpX} (Gd : GnXD P w K mg base k kc x st ps G) {tbl : List LamE} (tb : TblOk P w K mg base kc tbl) : FnD P w K mg base k x st ps (spT2 K G tbl) := by
  obtain ⟨f, fd, F, hm, hb, len, run⟩ := Gd.ex
  refine ⟨f, fd, F, hm, hb, ⟨fun vs H Q E ⟨Z, F, M, ds, QD, _, r, ⟨fc, as, e, _, _, h⟩, _⟩ => by rw [r.length]; exact len _ _ _ _ _ _ h, fun A outer s H args us vs Q E hr e0 hbd r hsp => ?_⟩⟩
  obtain ⟨Z, F0, M, ds, QD, R, rr, ⟨fc, as, e, he, hM, h⟩, o⟩ := hsp
  exact run A outer s H fc _ _ args us vs Q E (clo_tr2 (tb e he) (Nat.le_refl _) outer s H fc as) hr e0 hbd r ⟨Z, F0, M, ds, QD, R, rr, h, o⟩
/-- what a kept lambda tells anew, seen with its cells -/
theorem shw_new {K : PySem.W.Frag} {M : MH} {ts : List Tc} {a : Addr} {o : MO} (C : CelsM K M ts) (h : hidM M ts a = none) (n : ∀ t ∈ ts, updM (hidM M ts) a o t.1 = none) : M a = none ∧ shwM K (updM (hidM M ts) a o) ts = updM M a o := by
  have hf : fndC ts a = none := fndC_none fun t ht e => by
    have := n t ht
    rw [e, updM_same] at this
    cases this
  refine ⟨by rw [← hidM_no (M := M) hf]; exact h, ?_⟩
  funext b
  by_cases e : b = a
  · subst e
    rw [shwM_no hf, updM_same, updM_same]
  · rw [updM_ne e]
    cases q : fndC ts b with
    | some t => rw [shwM_at q, C.at_ q]
    | none => rw [shwM_no q, updM_ne e, hidM_no q]
def dCallQ (K : PySem.W.Frag) (ys : List Str) (js : List Nat) (cells : List (Str × Addr)) (i : Nat) (tbl : List LamE) : TED := fun ρ M Q => ∃ fc e cs, atD ρ i = some (.ref fc) ∧ e ∈ tbl ∧ atDs ρ js = some cs ∧ ∀ ts : List Tc, ts.map (·.1) = ys.map (cadr cells) → ts.map (·.2.2) = cs → (∀ t ∈ ts, M t.1 = none) → (ts.map (·.1)).Nodup →
  ∃ as, shwM K M ts fc = some (.oth (lamR e.L e.dfs e.fr fc as)) ∧ cloC2 K as e.sp [] (shwM K M ts) (fun d M2 => CelsM K M2 ts ∧ Q d (hidM M2 ts)) fun _ _ _ _ => False
section
variable {X : Cx} {kc k2 i : Nat} {x : Str} {tbl : List LamE} {p pos : Pos}
theorem de_callQ (ys : List Str) (js : List Nat) (tb : TblOk X.prog X.w X.K X.mg X.base kc tbl) (hr : Room k2 X.A) (cap : CapD X ys js) (hys : ys.Nodup) (hfn : ∀ y, X.fn y = true) (hk : kc ≤ k2 := by decide) (hN : X.N[i]? = some x := by rfl) (hv : Vis X.env.scope x := by first | exact Or.inl rfl | exact Or.inr (Or.inl rfl) | exact Or.inr (Or.inr rfl))
    (hdb : (x == ("__debug__" : Str)) = false := by decide) (hcd : (x == ("__classdict__" : Str)) = false := by decide) : DE X (.Call (.Name x p) [] [] pos) (dCallQ X.K ys js X.env.cells i tbl) := by
  refine ⟨fun pins s σ H Q I ⟨Z, F0, M, ρ, QD, R, ⟨fc, e, cs, hi, he, hcs, hq⟩, o⟩ => ?_⟩
  obtain ⟨v, hσ, rv⟩ := R.e.at_ i _ (atD_get hi)
  cases rv
  refine wpAny_Call_Name_kw (thn ((pe_var (pos := p) hN hv hdb hcd).run pins s σ H (fun v H1 => v = .ref fc ∧ H1 = H) I ⟨.ref fc, hσ, rfl, rfl⟩) fun u s1 ⟨v, H1, I1, r1, q1⟩ => ?_)
  obtain ⟨rfl, rfl⟩ := q1
  cases r1
  obtain ⟨ts, t1, t2, t3⟩ := tell_cells I1 R cap hcs
  have nH : ∀ t ∈ ts, H1 t.1 = none := fun t ht => by
    obtain ⟨_, _, y, hy⟩ := t3 t ht
    exact I1.freeC y _ hy
  have cel := fun t ht => (t3 t ht).2.1
  have g1 := fun t ht => (t3 t ht).1
  have nd : (ts.map (·.1)).Nodup := by
    rw [t1]
    exact cadr_nodup I1.ok hys cap.2
  obtain ⟨as, hM, hsp⟩ := hq ts t1 t2 (fun t ht => (R.m.fresh (nH t ht)).2) nd
  have low : ∀ t ∈ ts, X.s_0.heap.objs.size ≤ t.1 := fun t ht => by
    obtain ⟨_, _, y, hy⟩ := t3 t ht
    exact I1.ok.cab y t.1 (hfn y) hy
  have e0 := I1.env0
  have e0' : Env0 X.prog X.w X.K X.mg X.base X.A X.stack s1 (shwH H1 ts) := by
    refine ⟨e0.frames, e0.mod, fun b ob z => ⟨(e0.bs b ob z).1, ?_⟩, e0.bsz, e0.funs, fun b hbf => ?_, hok_shw e0.hok nH g1, e0.bare⟩
    · rw [shwH_no (fndC_none fun t ht z2 => absurd (Heap.lt_size z) (Nat.not_lt.mpr (Nat.le_trans I1.ok.bsz (by rw [← z2]; exact low t ht))))]
      exact (e0.bs b ob z).2
    · rw [shwH_no (fndC_none fun t ht z2 => ?_)]
      · exact e0.frf b hbf
      · obtain ⟨_, _, y, hy⟩ := t3 t ht
        rcases List.mem_cons.mp (I1.stkSub b hbf) with z | z
        · exact I1.cne y t.1 hy (z2.trans z)
        · obtain ⟨ob, hob⟩ : ∃ ob, X.s_0.heap.get? b = some ob := by
            obtain ⟨_, ob, ho, _⟩ := I1.ok.funs.mem z
            exact ⟨ob, ho⟩
          exact absurd (Heap.lt_size hob) (Nat.not_lt.mpr (by rw [← z2]; exact low t ht))
  have RS := relM_shw R.m nH cel
  have hC := clo_tr2 (tb e he) (Nat.le_refl _) X.stack s1 (shwH H1 ts) fc as
  refine PySem.W.callWith_F0 (first := []) (clo_fnAtD hC.isL RS (hok_shw e0.hok nH g1) hM) ?_
  refine wpAny_call (codeAny_mono (hC.run X.A X.stack s1 (shwH H1 ts) [] [] (fun v H2 => ∃ d F2 M2, Ext F0 F2 ∧ RelM X.K Z F2 H2 M2 ∧ Rep X.K F2 v d ∧ CelsM X.K M2 ts ∧ QD d (hidM M2 ts)) (fun _ _ _ => False) (hr.mono hk) e0' Un.refl .nil
    ⟨Z, F0, _, [], _, _, RS, .nil, ⟨hM, hsp⟩, fun v d F2 H2 M2 e2 R2 rd q => ⟨d, F2, M2, e2, R2, rd, q.1, q.2⟩, fun _ _ _ _ _ _ _ _ _ _ q => q.elim⟩) fun r s' hc => ?_)
  cases r with
  | error z =>
    obtain ⟨_, _, _, _, _, _, _, _, _, _, _, hz⟩ := hc
    exact False.elim hz.2
  | ok fl =>
    cases fl with
    | ret u =>
      obtain ⟨v, H2, os, bare, un, hok, rv2, d, F2, M2, e2, R2, rd, C2, q⟩ := hc
      have CH := C2.heap R2
      have g2 : ∀ t ∈ ts, s'.heap.get? t.1 = some t.2.1 := fun t ht => (hok _ _ (CH t ht)).1
      exact I1.after ⟨v, hidH H2 ts, os, bare, un_hid un nH g1 g2, hok_hid hok CH, rv2, o v d F2 _ _ e2 (relM_hid R2 C2) rd q⟩
    | next => exact False.elim hc
    | brk => exact False.elim hc
    | cont => exact False.elim hc
end
/-- a list, whatever it holds, is no text -/
def rEqTxt : R2D := fun x y M Q => ∃ xs b, lsR M x = some xs ∧ y = .str b ∧ Q (.bl false) M
theorem op_eqTxt {X : Cx} {k : Nat} (hr : Room k X.A) : OpR X (compareOp .Eq) (fun x y H Q => ∃ l xs b, x = .ref l ∧ y = .str b ∧ SqL X.K H l xs ∧ Q (.bl false) H) := by
  rintro pins s σ H x y v u Q I rx ry ⟨l, xs, b, rfl, rfl, hl, q⟩
  cases rx
  obtain ⟨is, r, ⟨⟨c1, d1, t1, sl⟩, k1, e, h3, h4, h5⟩, _⟩ := I.list hl
  simp only at h3 h4 h5
  subst h3 h4 h5
  obtain ⟨tk, rfl⟩ : ∃ tk, u = .str b tk := by first | exact ry | (cases ry; exact ⟨_, rfl⟩)
  exact PySem.SeqAt.RcAt.list_str b tk ⟨_, e, rfl, k1, rfl⟩ hr.units0 X.prog X.w X.xe (EP X pins σ Q) ⟨.bl false, H, I, rfl, q⟩
theorem od_eqTxt {X : Cx} {k : Nat} (hr : Room k X.A) : OpD X (compareOp .Eq) rEqTxt := ⟨_, op_eqTxt hr, fun Z F H M x y a b Q QD R ra rb hd o => by
  obtain ⟨xs, t, h1, rfl, h⟩ := hd
  obtain ⟨pa, us, rfl, s1, r1⟩ := lsR_rep R ra h1
  cases rb
  exact ⟨_, _, _, rfl, rfl, s1, o _ _ F H M (Ext.refl F) R (.bl false) h⟩⟩
end DL
/-! more places where a value raises: the object of a method without arguments, the first one of two that are assigned at once, what a comprehension goes over, the argument of a built-in -/
namespace DL
open PySem PySem.Spec PyProof.Rows L2
section
variable {X : Cx} {W : WX} {C : Addr} {m x : Str} {k k2 : Nat} {st : Stmt} {ps : List Str} {sp : SpD} {o e a b : Expr} {de : XDt → TED} {d0 : TAD} {p pos apos : Pos}
theorem dex_recv0 {pl : Sem Bool} (F : MtdD X.prog X.w X.K X.mg X.base k C m st ps sp) (cl : Cls X.K C) (hr : Room k2 X.A) (ho : DEX X W o de) (hk : k ≤ k2 := by decide)
    (ht : eval (.Call (.Attribute o m apos) [] [] pos) X.env = (do
      let ov ← eval o X.env
      standAt apos.atName
      let (f, first) ← holding [ov] (getMethod ov m pl)
      callWith pos f first (backTo pos (starEach [] X.env)) (backToKw pos (keywordEach [] X.env))) := by rfl) : DEX X W (.Call (.Attribute o m apos) [] [] pos) (xArg de) := by
  obtain ⟨qual, f, fd, F, hm, hb, ok⟩ := F.ex
  exact pe_w (pe_meth0 ho cl hm ok (hr.mono hk) hb .nil pass0 ht) fun σ H Q ⟨Z, F1, M, ρ, QD, WD, R, h, o, ow⟩ =>
    ⟨Z, F1, M, ρ, _, WD, R, h, fun v d F' H' M' e' R' r' h' => h'.elim, ow⟩
theorem dex_tup1 {es : List Expr} {tk : Nat} (ha : DEX X W e de) (hb : DA X es d0) (he : starEach (e :: es) X.env = (false, eval e X.env) :: starEach es X.env := by rfl) : DEX X W (.Tuple (e :: es) tk pos) (xArg de) := pe_w (pe_tup (pa_cons ha hb he)) fun σ H Q ⟨Z, F1, M, ρ, QD, WD, R, h, o, ow⟩ =>
  ⟨Z, F1, M, ρ, _, WD, R, h, fun v d F' H' M' e' R' r' h' => h'.elim, ow⟩
def xPar1 (de : XDt → TED) : XDt → TSD := fun WD _ ρ M => de WD ρ M fun _ _ => False
theorem dsx_par1 {i j : Nat} {y z : Str} {px py pt : Pos} {kt k2 pt2} (hN : X.N.Nodup) (ha : DEX X W a de) (hb : DA X [b] d0) (hi : X.N[i]? = some y := by rfl) (hj : X.N[j]? = some z := by rfl) (hij : i ≠ j := by decide)
    (hx : X.env.scope.names.lookup y = some .local := by rfl) (hy : X.env.scope.names.lookup z = some .local := by rfl)
    (hw : swappedStores [.Tuple [.Name y px, .Name z py] kt pt] (.Tuple [a, b] k2 pt2) X.env = pure (some [y, z]) := by rfl) (hc : X.calm = true := by rfl)
    (hs : swapsWithSole [.Tuple [.Name y px, .Name z py] kt pt] (.Tuple [a, b] k2 pt2) pos.line X.env = pure false := by rfl) (he : starEach (a :: [b]) X.env = (false, eval a X.env) :: starEach [b] X.env := by rfl) :
    DSX X W (.Assign [.Tuple [.Name y px, .Name z py] kt pt] (.Tuple [a, b] k2 pt2) pos) (xPar1 de) := ps_w (ps_par hc hN hi hj hij hx hy (pa_cons ha hb he) hw hs) fun D σ H ⟨Z, F, M, ρ, DD, WD, R, h, o, ow⟩ =>
  ⟨Z, F, M, ρ, _, WD, R, h, fun v d F' H' M' e' R' r' h' => h'.elim, ow⟩
theorem dex_lc1 {elt tg : Expr} {ifs : List Expr} {scope : Scope} {own : List (Str × Nat)} {g : TGD} {tt : TTD} {te : TED} (hN : X.N.Nodup) (hi : DEX X W e de) (ok : BlkOk X.N X.env.scope scope own)
    (hg : ∀ (s : Shared) (H : Hp) (C : Addr) (cl : List (Str × Addr)) (fp : List Addr), DGo (X.blk s H scope (compEnvC scope cl C X.env) fp) tg (own.map (·.2)) g) (ht : ∀ (s : Shared) (H : Hp) (C : Addr) (cl : List (Str × Addr)) (fp : List Addr), DTs (X.blk s H scope (compEnvC scope cl C X.env) fp) ifs tt)
    (he : ∀ (s : Shared) (H : Hp) (C : Addr) (cl : List (Str × Addr)) (fp : List Addr), DE (X.blk s H scope (compEnvC scope cl C X.env) fp) elt te) (hc : X.calm = true := by rfl) (hs : ∀ x, foldedSetIterable e X.env x = pure x := by intro _; rfl) :
    DEX X W (.ListComp elt [⟨tg, e, ifs, 0⟩] scope pos) (xArg de) := pe_w (show PE X (.ListComp elt [⟨tg, e, ifs, 0⟩] scope pos) (tLc (iList X.K (upX X.K W de)) (upGo X.K (own.map (·.2)) g) (upT X.K tt) (up X.K te) (own.map (·.2))) from pe_lc hc hN (pi_list hi) ok hg ht he hs) fun σ H Q ⟨Z, F1, M, ρ, QD, WD, R, h, o, ow⟩ =>
  ⟨Z, F1, M, ρ, _, WD, R, h, fun v d F' H' M' e' R' r' h' => h'.elim, ow⟩
theorem dex_argB {id : String} {r : List Dat → MH → VKD → Prop} (hd : CallD X (.builtin id) r) (hg : Gl X x) (hm : X.mg x = none) (hv : bootBuiltins x = some (.builtin id)) (ha : DEX X W e de) (hn : x ≠ "__name__" := by decide) (hdb : (x == ("__debug__" : Str)) = false := by decide)
    (he : starEach (e :: []) X.env = (false, eval e X.env) :: starEach [] X.env := by rfl) (hpl : (backTo pos (starEach [] X.env)).any (·.1) = false := by rfl) : DEX X W (.Call (.Name x p) (e :: []) [] pos) (xArg de) := by
  obtain ⟨t, ht, hs⟩ := hd
  exact pe_w (L2.pe_callB ht hg hm hv (pa_cons ha pa_nil he) hn hdb he hpl) fun σ H Q ⟨Z, F1, M, ρ, QD, WD, R, h, o, ow⟩ =>
    ⟨Z, F1, M, ρ, _, WD, R, h, fun v d F' H' M' e' R' r' h' => h'.elim, ow⟩
end
end DL
/-! what is the same as itself, whatever it is; an object of which no more is told than where it stands; a class that raises when it is called -/
namespace DL
open PySem PySem.Spec PyProof.Rows L2
def DSame : Eqv := fun x y _ => ∃ a, x = .ref a ∧ y = .ref a
def DDic : Eqv := fun x y H => ∃ a b, x = .ref a ∧ y = .ref b ∧ H a = some (.dK []) ∧ H b = some (.dK [])
theorem mon_same : Mon DSame := fun _ _ _ _ _ d => d
theorem mon_dic : Mon DDic := fun x y H H' e ⟨a, b, h1, h2, h3, h4⟩ => ⟨a, b, h1, h2, e _ _ h3, e _ _ h4⟩
theorem eqG_same {X : Cx} : EqG X 0 DSame := by
  intro A pins s σ H x y u v sb I rx ry d
  obtain ⟨a, rfl, rfl⟩ := d
  cases rx
  cases ry
  exact SeqAt.EqAt.same _ X.prog X.w X.xe _ ⟨rfl, H, I, Ext.rfl'⟩
theorem eqG_dic {X : Cx} : EqG X 0 DDic := by
  intro A pins s σ H x y u v sb I rx ry d
  obtain ⟨a, b, rfl, rfl, h1, h2⟩ := d
  have step := eqR_run I (A := A) sb.room.units0 (F := fun _ _ => False) (fun _ _ _ _ h => h.elim) (.inr ⟨a, b, [], [], rfl, rfl, h1, h2, rfl, fun p hp => nomatch hp⟩) rx ry
  cases rx
  cases ry
  by_cases e : a = b
  · subst e
    exact SeqAt.EqAt.same _ X.prog X.w X.xe _ ⟨rfl, H, I, Ext.rfl'⟩
  · exact SeqAt.eqP_refs e step X.xe _ ⟨rfl, H, I, Ext.rfl'⟩
/-- the same as itself, nested at most n deep -/
def Slf (C : Addr) (sp : SpD) : Nat → Dat → Prop
  | 0, d => plainD d = true ∨ TrueK C sp d d ∨ (∃ a, d = .ref a) ∨ d = .dic []
  | n + 1, d => Slf C sp n d ∨ (∃ xs, d = .tup xs ∧ ∀ z ∈ xs, Slf C sp n z) ∨ ∃ xs, d = .lst xs ∧ ∀ z ∈ xs, Slf C sp n z
def EqL (K : PySem.W.Frag) (C : Addr) (sp : SpD) : Nat → Eqv
  | 0 => fun x y H => Eq1 K C sp x y H ∨ (DSame x y H ∨ DDic x y H)
  | n + 1 => fun x y H => EqL K C sp n x y H ∨ (DList (EqL K C sp n) x y H ∨ DTup K (EqL K C sp n) x y H)
section
variable {K : PySem.W.Frag} {C : Addr} {sp : SpD} {F H : Hp}
theorem mon_L : ∀ n, Mon (EqL K C sp n)
  | 0 => Mon.or mon_1 (Mon.or mon_same mon_dic)
  | n + 1 => Mon.or (mon_L n) (Mon.or (mon_list (mon_L n)) (mon_tup (mon_L n)))
theorem reps_slf {D : Eqv} {P : Dat → Prop} (lift : ∀ x y d, Rep K F x d → Rep K F y d → P d → D x y H) {xs ys : List V} {ds : List Dat} (r : Reps K F xs ds) (q : Reps K F ys ds) (h : ∀ d ∈ ds, P d) : Prs D xs ys H := by
  refine ⟨by rw [r.length, q.length], fun i x y hx hy => ?_⟩
  have lx : i < ds.length := by
    rw [← r.length]
    exact (List.getElem?_eq_some_iff.mp hx).1
  obtain ⟨v, hv, rv⟩ := r.get (List.getElem?_eq_getElem lx)
  obtain ⟨u, hu, ru⟩ := q.get (List.getElem?_eq_getElem lx)
  cases hv.symm.trans hx
  cases hu.symm.trans hy
  exact lift _ _ _ rv ru (h _ (List.getElem_mem lx))
theorem Slf.lift (e : Ext F H) : ∀ (n : Nat) {x y : V} {d : Dat}, Rep K F x d → Rep K F y d → Slf C sp n d → EqL K C sp n x y H
  | 0, _, _, d, r, q, h => by
    rcases h with h | h | ⟨a, rfl⟩ | rfl
    · exact .inl (Sam1.lift e r q (.inl ⟨rfl, h⟩))
    · exact .inl (Sam1.lift e r q (.inr h))
    · cases r
      cases q
      exact .inr (.inl ⟨a, rfl, rfl⟩)
    · cases r with
      | dic r1 r2 =>
        cases q with
        | dic q1 q2 =>
          cases r2
          cases q2
          exact .inr (.inr ⟨_, _, rfl, rfl, e _ _ r1, e _ _ q1⟩)
  | n + 1, _, _, d, r, q, h => by
    rcases h with h | ⟨xs, rfl, h⟩ | ⟨xs, rfl, h⟩
    · exact .inl (Slf.lift e n r q h)
    · cases r with
      | tup r1 r2 =>
        cases q with
        | tup q1 q2 => exact .inr (.inr ⟨_, _, _, _, rfl, rfl, ext_t e r1, ext_t e q1, reps_slf (fun _ _ _ a b c => Slf.lift e n a b c) r2 q2 h⟩)
    · cases r with
      | lst r1 r2 =>
        cases q with
        | lst q1 q2 => exact .inr (.inl ⟨_, _, _, _, rfl, rfl, e _ _ r1, e _ _ q1, reps_slf (fun _ _ _ a b c => Slf.lift e n a b c) r2 q2 h⟩)
end
/-- a tuple and the same tuple, seen as unlike or not -/
def rNeM (n : Nat) (C : Addr) (sp : SpD) : R2D := fun x y M Q => ∃ xs, x = .tup xs ∧ y = .tup xs ∧ (∀ d ∈ xs, Slf C sp n d) ∧ Q (.bl false) M
section
variable {X : Cx} {k k2 : Nat} {C : Addr} {st : Stmt} {ps : List Str} {sp : SpD}
theorem eqG_L (F : MtdD X.prog X.w X.K X.mg X.base k C "__eq__" st ps sp) : ∀ n, EqG X (k + n) (EqL X.K C sp n)
  | 0 => (eqG_1 F).or ((eqG_same.mono (Nat.zero_le _)).or (eqG_dic.mono (Nat.zero_le _)))
  | n + 1 => ((eqG_L F n).mono (Nat.le_succ _)).or ((eqG_list (mon_L n) (eqG_L F n)).or (eqG_tup (mon_L n) (eqG_L F n)))
theorem od_neM (n : Nat) (F : MtdD X.prog X.w X.K X.mg X.base k C "__eq__" st ps sp) (hr : Room k2 X.A) (hk : k + n + 1 ≤ k2 := by decide) : OpD X (compareOp .NotEq) (rNeM n C sp) :=
  ⟨_, op_neT (mon_L n) (eqG_L F n) (hr.mono hk), fun Z F H M x y a b Q QD R ra rb hd o => by
    obtain ⟨xs, rfl, rfl, h, q⟩ := hd
    cases ra with
    | tup r1 r2 =>
      cases rb with
      | tup q1 q2 => exact ⟨⟨_, _, _, _, rfl, rfl, ext_t R.sub r1, ext_t R.sub q1, reps_slf (fun _ _ _ a b c => Slf.lift R.sub n a b c) r2 q2 h⟩, fun H' e => o _ _ F H' M (Ext.refl F) (R.grow e) (.bl false) q⟩⟩
end
/-! an object told more loosely -/
def Opq (d : Dat) (P : Dat → Prop) : Prop := ∀ (K : PySem.W.Frag) (F : Hp) (v : V), Rep K F v d → ∃ d', P d' ∧ Rep K F v d'
theorem opq_same (d : Dat) : Opq d fun e => e = d := fun _ _ _ r => ⟨_, rfl, r⟩
theorem opq_ref {d : Dat} (h : ∀ (K : PySem.W.Frag) (F : Hp) (v : V), Rep K F v d → ∃ a, v = .ref a) : Opq d fun e => ∃ a, e = .ref a := fun K F v r => by
  obtain ⟨a, rfl⟩ := h K F v r
  exact ⟨_, ⟨a, rfl⟩, .ref a⟩
theorem opq_tup1 {d : Dat} {P : Dat → Prop} (h : Opq d P) : Opq (.tup [d]) fun e => ∃ d', P d' ∧ e = .tup [d'] := fun K F v r => by
  cases r with
  | tup r1 r2 =>
    cases r2 with
    | cons r2 r3 =>
      cases r3
      obtain ⟨d', p, r4⟩ := h K F _ r2
      exact ⟨_, ⟨d', p, rfl⟩, .tup r1 (.cons r4 .nil)⟩
theorem opq_lst1 {d : Dat} {P : Dat → Prop} (h : Opq d P) : Opq (.lst [d]) fun e => ∃ d', P d' ∧ e = .lst [d'] := fun K F v r => by
  cases r with
  | lst r1 r2 =>
    cases r2 with
    | cons r2 r3 =>
      cases r3
      obtain ⟨d', p, r4⟩ := h K F _ r2
      exact ⟨_, ⟨d', p, rfl⟩, .lst r1 (.cons r4 .nil)⟩
theorem opq_tup (ds : List Dat) : Opq (.tup ds) fun e => ∃ a, e = .ref a := opq_ref fun K F v r => by
  cases r
  exact ⟨_, rfl⟩
theorem opq_lst (ds : List Dat) : Opq (.lst ds) fun e => ∃ a, e = .ref a := opq_ref fun K F v r => by
  cases r
  exact ⟨_, rfl⟩
theorem RelE.reset1 {K : PySem.W.Frag} {F : Hp} {σ : L2.St} {ρ : EnvD} {v : V} {d d0 : Dat} {i : Nat} (r : RelE K F σ ρ) (h0 : atD ρ i = some d0) (hσ : σ[i]? = some (some v)) (hv : Rep K F v d) : RelE K F σ (setD ρ i (some d)) := by
  rw [setD_set]
  refine ⟨by rw [List.length_set]; exact r.len, fun j x q => ?_⟩
  by_cases e : i = j
  · subst e
    have hi : i < ρ.length := (List.getElem?_eq_some_iff.mp (atD_get h0)).1
    rw [List.getElem?_set_self hi] at q
    cases q
    exact ⟨v, hσ, hv⟩
  · rw [List.getElem?_set_ne e] at q
    exact r.at_ j x q
def dOpq (i : Nat) (t : TSD) : TSD := fun D ρ M => ∃ d P, atD ρ i = some d ∧ Opq d P ∧ ∀ d', P d' → t D (setD ρ i (some d')) M
theorem dss_opq {X : Cx} {t : TSD} (i : Nat) {sts : List Stmt} (h : DSs X sts t) : DSs X sts (dOpq i t) := pss_w h fun D σ H ⟨Z, F, M, ρ, DD, R, ⟨d, P, h1, h2, h3⟩, o⟩ => by
  obtain ⟨v, hσ, rv⟩ := R.e.at_ i d (atD_get h1)
  obtain ⟨d', p, rv'⟩ := h2 _ _ _ rv
  refine ⟨Z, F, M, setD ρ i (some d'), DD, ⟨R.m, ?_⟩, h3 d' p, o⟩
  exact RelE.reset1 R.e h1 hσ rv'
/-! a class that raises when it is called -/
structure ClX (P : Program) (w : World) (K : PySem.W.Frag) (mg : Str → Option Value) (base : Heap) (k : Nat) (x : Str) (C : Addr) (st : Stmt) (ps : List Str) (sp : SpXD) : Prop where
  ex : ∃ qual f fd, Fun K "__init__" qual st f fd ∧ mg x = some (.ref C) ∧ Mk K C f ∧ Binds K fd ps [] ∧ FnOk P w K mg base (L2.CX P w) k f fd ps (toSpX K sp)
def xMake (C : Addr) (sp : SpXD) (dA : TAD) : XDt → TED := fun WD ρ M Q => dA ρ M fun ds M1 => ∀ a, M1 a = none → sp (.ref a :: ds) (updM M1 a (.ins C [])) (fun r M2 => r = .non ∧ Q (.ref a) M2) fun D f y M' => WD D f y ρ M'
theorem run_makeS {X : Cx} {CX : CXT} {k : Nat} {f C : Addr} {fd : FuncData} {ps : List Str} {sp : Sp} {E : L2.St → XK} {pins : List (Addr × Obj)} {σ : L2.St} {H : Hp} {s : Shared} {Q : VK} {us : List Value} {vs : List V} (M : Mk X.K C f) (F : FnOk X.prog X.w X.K X.mg X.base CX k f fd ps sp) (hr : Room (k + 1) X.A) (hb : Binds X.K fd ps [])
    (hx : PassesAt CX X σ (E σ)) (I : L2.Inv X pins σ H s) (r : Vals vs us)
    (h : ∀ x dx, H x = none → H dx = none → dx ≠ x → sp (.ref x :: vs) (upd (upd H dx (.own x)) x (.ins C dx [])) (fun v H2 => v = .non ∧ Q (.ref x) H2) (E σ)) :
    wpAny (model X.prog X.w) X.A (call (.ref C) us) (EP X pins σ Q) X.xe s := by
  have hq := h (s.heap.objs.size + 1) s.heap.objs.size (I.hok.fresh (Nat.le_succ _)) (I.hok.fresh (Nat.le_refl _)) (Nat.ne_of_lt (Nat.lt_succ_self _))
  have I2 := Inv.made (C := C) I
  have r2 : Vals (V.ref (s.heap.objs.size + 1) :: vs) (Value.ref (s.heap.objs.size + 1) :: us) := .cons rfl r
  have hl : (Value.ref (s.heap.objs.size + 1) :: us).length = ps.length := by
    have e := r2.length
    rw [F.len _ _ _ _ hq] at e
    exact e.symm
  have b := hb _ (Value.ref (s.heap.objs.size + 1) :: us) I2.kIn (by rw [List.append_nil]; exact hl)
  rw [List.append_nil] at b
  refine wpAny_call (make_map (f := f) I.kIn M.makes M.init (beq_iff_eq.mp M.fn) (codeAny_mono (F.run _ X.stack _ _ ⟨Value.ref (s.heap.objs.size + 1) :: us, []⟩ (Value.ref (s.heap.objs.size + 1) :: us) _ _ (E σ) (hr.make C us [])
    (I2.env0.make C us []) b r2 hq) fun r s' hq' => ?_))
  cases r with
  | error e => exact hx pins _ _ e s' I2 hq'
  | ok fl =>
    cases fl with
    | ret u =>
      obtain ⟨v, H', I3, rv, ev, q3⟩ := I2.after hq'
      subst ev
      exact ⟨rv, ⟨V.ref (s.heap.objs.size + 1), H', I3, rfl, q3⟩⟩
    | next => exact False.elim hq'
    | brk => exact False.elim hq'
    | cont => exact False.elim hq'
section
variable {X : Cx} {W : WX} {x : Str} {C : Addr} {k k2 : Nat} {st : Stmt} {ps : List Str} {sp : SpXD} {e : Expr} {es : List Expr} {dA : TAD} {p pos : Pos}
theorem dex_make (F : ClX X.prog X.w X.K X.mg X.base k x C st ps sp) (hr : Room k2 X.A) (tk : Takes X W) (ha : DA X (e :: es) dA) (hk : k + 1 ≤ k2 := by decide) (hg : Gl X x := by rfl) (hdb : (x == ("__debug__" : Str)) = false := by decide)
    (he : starEach (e :: es) X.env = (false, eval e X.env) :: starEach es X.env := by rfl) (hpl : (backTo pos (starEach es X.env)).any (·.1) = false := by rfl) : DEX X W (.Call (.Name x p) (e :: es) [] pos) (xMake C sp dA) := by
  obtain ⟨qual, f, fd, F, hm, M0, hb, ok⟩ := F.ex
  refine ⟨fun pins s σ H Q I ⟨Z, F0, M, ρ, QD, WD, R, h, oq, ow⟩ => ?_⟩
  refine wpAny_Call_Name_kw (ld_glob I hg hm ?_ hdb)
  refine PySem.W.callWith_K (h₀ := X.base) I.ok.mod.kin M0.kp (thn (ha.run pos pins s σ H (fun vs H2 => ∃ ds F2 M2, Ext F0 F2 ∧ RelM X.K Z F2 H2 M2 ∧ Reps X.K F2 vs ds ∧ ∀ a, M2 a = none → sp (.ref a :: ds) (updM M2 a (.ins C [])) (fun r M3 => r = .non ∧ QD (.ref a) M3) fun D g y M' => WD D g y ρ M') I
    ⟨Z, F0, M, ρ, _, R, h, fun vs ds F2 H2 M2 e2 R2 r2 h2 => ⟨ds, F2, M2, e2, R2, r2, h2⟩⟩) fun us s1 got => ?_) he hpl
  obtain ⟨vs, H1, I1, r, ds, F1, M1, e1, R1, rr, hq⟩ := got
  refine ⟨I1.kIn, ?_⟩
  exact run_makeS M0 ok (hr.mono hk) hb (passAt tk σ) I1 r fun a dx ha hdx hne => ⟨Z, F1, _, _, _, _, relM_made R1 ha hdx hne, .cons (.ref a) rr, hq a (R1.fresh ha).2, fun v d F2 H2 M2 e2 R2 r2 h2 => ⟨by
    rw [h2.1] at r2
    exact r2.toNon, oq _ _ F2 H2 M2 (e1.trans e2) R2 (.ref a) h2.2⟩, fun D dd g y F' H' M' e' R' n q => ow D dd g y σ ρ F' H' M' (e1.trans e') R' n (R.e.mono (e1.trans e')) q⟩
end
section
variable {P : Program} {w : World} {K : PySem.W.Frag} {mg : Str → Option Value} {base : Heap}
theorem clx_mk {C : Addr} {x qual : Str} {st : Stmt} {N ps : List Str} {k : Nat} {sp : SpXD} (h : HasCl K mg x C qual st ps) (S : FnScope N ps (defScope st)) (n : Nat) (hn : N.length = n) (len : ∀ ds M Q ED, sp ds M Q ED → ds.length = ps.length)
    (body : ∀ (f : Addr) (cdv : Value) (A : Around) (outer : List Env) (s : Shared) (H : Hp) (E : XK), Room k (A.deeper (envOfC qual (defScope st) s.heap.objs.size f cdv)) → Takes (cxOf (L2.CX P w) P w K mg base N qual (defScope st) f cdv A outer s H E) (wishE E) →
      ∃ d, DSsX (cxOf (L2.CX P w) P w K mg base N qual (defScope st) f cdv A outer s H E) (wishE E) (defBody st) d ∧ ∀ ds M Q ED, sp ds M Q ED → d (endX ED) { nx := fun _ M' => endD Q .non M', rt := endD Q } (startD n ds) M) : ClX P w K mg base (k + 1) x C st ps sp := by
  obtain ⟨f, fd, F, hm, mk, hb⟩ := h.ex
  refine ⟨qual, f, fd, F, hm, mk, hb, F.okX S (fun vs H Q E z => ?_) fun cdv A outer s H vs Q E hr z => ?_⟩
  · obtain ⟨_, _, _, ds, _, _, _, r, z, _⟩ := z
    exact r.length.trans (len ds _ _ _ z)
  · obtain ⟨Z, F0, M, ds, QD, ED, R, r, z, ov, oe⟩ := z
    obtain ⟨d, hd, hd2⟩ := body f cdv A outer s H E hr (takes_of rfl rfl rfl rfl)
    have la : ds.length ≤ n := by
      have := congrArg List.length S.pre
      rw [List.length_take, len ds _ _ _ z] at *
      omega
    refine ⟨_, hd, Z, F0, M, startD n ds, _, _, ⟨R, ?_⟩, hd2 ds M QD ED z, okS_end ov, okW_end oe⟩
    show RelE K F0 (L2.start N vs) (startD n ds)
    unfold L2.start
    rw [← hn]
    exact startD_rep N.length r (hn ▸ la)
/-- a class that raises for some arguments, and is made for others -/
theorem clx_or {C : Addr} {x : Str} {st : Stmt} {ps : List Str} {k j n : Nat} {sx : SpXD} {sp : SpD} (hx : ClX P w K mg base k x C st ps sx) (hd : ClD P w K mg base j x C st ps sp) (hk : k ≤ n) (hj : j ≤ n) : ClX P w K mg base n x C st ps (fun ds M Q ED => sx ds M Q ED ∨ sp ds M Q) := by
  obtain ⟨q1, f, fd, F, hm, mk, hb, ok⟩ := hx.ex
  obtain ⟨q2, f', fd', F', hm', mk', hb', ok'⟩ := hd.ex
  have e : f = f' := by
    have z := mk.init.symm.trans mk'.init
    injection z with z
    injection z with z
    injection z
  subst e
  have e2 := same_fun F F'
  subst e2
  refine ⟨q1, f, fd, F, hm, mk, hb, ⟨fun vs H Q E ⟨Z, F0, M, ds, QD, ED, R, rr, h, o, oe⟩ => ?_, fun A outer s H args us vs Q E hr e0 hbd r h => ?_⟩⟩
  · rcases h with h | h
    · exact ok.len vs H Q E ⟨Z, F0, M, ds, QD, ED, R, rr, h, o, oe⟩
    · exact ok'.len vs H Q E ⟨Z, F0, M, ds, QD, R, rr, h, o⟩
  · obtain ⟨Z, F0, M, ds, QD, ED, R, rr, h, o, oe⟩ := h
    rcases h with h | h
    · exact ok.run A outer s H args us vs Q E (hr.mono hk) e0 hbd r ⟨Z, F0, M, ds, QD, ED, R, rr, h, o, oe⟩
    · refine codeAny_mono (ok'.run A outer s H args us vs Q E (hr.mono hj) e0 hbd r ⟨Z, F0, M, ds, QD, R, rr, h, o⟩) fun r s' hq => ?_
      cases r with
      | error e => exact (show False from hq).elim
      | ok fl =>
        cases fl with
        | ret u => exact hq
        | next => exact hq
        | brk => exact hq
        | cont => exact hq
end
end DL
namespace LW
open PySem PySem.Spec PyProof.Rows LamX NdefX DL
open L2 hiding prD rInD rNotInD
local macro_rules
  | `(tactic| and_intros) => `(tactic| (try simp only [rNeM, dOpq, xMake, xPar1, dCallQ, rEqTxt, dMaxK, dSortK, rRemP, rCntP, rEqB, rEqW, rEqL1, rEqN, rNeN, dForM, rTwo, rNeSiz, rEqSiz, dLcEM, dForEM, xMeth, xMethK, rEqS, rNeS, rMulT, rEqNil, dMethK, dMakeK, dFrzT, dLcE, dCallB, xCons, xCallX, xOp, dIsE2, dCallE, xArg, xFor, xLoop, rSeq, rRet, rFrz, dLamV, rTupD, rCntN, dIRS, rNotInNest, w_tuT, w_tuL, dChRow, dChOne, w_chLk, rInNest, dIR3, dSl3, dFrzV, w_lenDic, w_dictP, dTryH, hsD, wipeOD, setOD, dOrL, dLRg2, dSortSet, rInsertD, dIsE, rCntT, dAsg2, dAsg3, xNext, xSeq, xNever, xIf, xDrop, xRet, xAsg, xRaise, xCall, xCallC, dTryAs, dXf, wipeE, dCallGX, dLcM, w_isiM, rReverseD, dMinDef, rInDic, rNotInDic, dIRL, dCallC, dCallG, dConsL, dLam, atDs, dCallV, dgU, dSortI, dIItems, dDicM, dDc, dLenSet, itemsD, w_lrg, w_index, w_sortQ, dCut, dDGet, dDGet1, dDGet2, dDPut, dPairs, w_disp, w_newDF, w_newDT, dec_self, List.map_cons, List.map_nil, eqD_bl, eqD_int, eqD_str, eqD_tup, eqD_lst, eqDs_nil, eqDs_nc, eqDs_cn, eqDs_cons, reduceIte, Bool.false_eq_true, Bool.not_true, Bool.not_false, decide_true, decide_false, dVar, atD, setD, startD, dC, dOp, dAnd, dOr, dNot, dIf, dUn, dNil, dCons, dTup, dLst, rInD, rNotInD, dNoPart, dPart, dRev, dFld, DL.fieldsOf, dCB, dNext, dSeq, dBreak, dCont, dDrop, dRet, dRetN, dIfS, dNever, dgN, dgNil, dgCons, dgSub, dAsg, dPar, dPar3, putD, dSetF, dMt, rAppendD, rPopD, rExtendD, lsT, lsR, lsF, itemsR, dFrz, dCall, dCallK, dMeth, dMake, dFor, dIL, dIT, dIR1, dIR2, dIE, dIET, dIZ, wipeD, dYes, dLc, dDic0, updM_same, cxOf, asBl_bl, asInt_int, asTup_tup, isN, w_test, w_chain, w_andV, w_orV, w_notV, w_neg, w_sub, w_div, w_mod, w_pow, w_shl, w_shr, w_and, w_or, w_xor, w_lt, w_le, w_gt, w_ge, w_add, w_addS, w_addT, w_addL, w_addF, w_addR, w_mul, w_mulL, w_eq, w_ne, w_isN, w_isB, w_isntN, w_isntB, w_ix, w_isi, w_abs, w_max2, w_min2, w_max1L, w_min1L, w_sum, w_all, w_any, w_len, w_int, w_intB, w_divmod, w_sorted, w_list, w_bits, w_sl, w_slL, w_slF, w_slR, w_slT, w_newF, w_newT, w_eqL, w_eqT, w_eqR, w_neL, w_neT, w_neR, w_dgT, w_derL, w_derT, w_derB, w_derI, w_derN, w_derS, w_eqSS, w_eqBB, w_neSS, w_neBB, w_eqBI, w_eqIN, w_neIN, w_eqNI, w_neNI, w_eqNN, w_neNN, w_NN, w_NI, w_IN]))
local macro_rules
  | `(tactic| bv_omega) => `(tactic| (try simp (disch := decide +kernel) only [strT, strF, inDT, inDF, rNeM, dOpq, xMake, xPar1, dCallQ, rEqTxt, dMaxK, dSortK, rRemP, rCntP, rEqB, rEqW, rEqL1, rEqN, rNeN, dForM, rTwo, rNeSiz, rEqSiz, dLcEM, dForEM, xMeth, xMethK, rEqS, rNeS, rMulT, rEqNil, dMethK, dMakeK, dFrzT, dLcE, dCallB, xCons, xCallX, xOp, dIsE2, dCallE, xArg, xFor, xLoop, rSeq, rRet, rFrz, dLamV, rTupD, rCntN, dIRS, rNotInNest, w_tuT, w_tuL, dChRow, dChOne, w_chLk, rInNest, dIR3, dSl3, dFrzV, w_lenDic, w_dictP, dTryH, hsD, wipeOD, setOD, dOrL, dLRg2, dSortSet, rInsertD, dIsE, rCntT, dAsg2, dAsg3, xNext, xSeq, xNever, xIf, xDrop, xRet, xAsg, xRaise, xCall, xCallC, dTryAs, dXf, wipeE, dCallGX, dLcM, w_isiM, rReverseD, dMinDef, rInDic, rNotInDic, dIRL, dCallC, dCallG, dConsL, dLam, atDs, dCallV, dgU, dSortI, dIItems, dDicM, dDc, dLenSet, itemsD, w_lrg, w_index, w_sortQ, dCut, dDGet, dDGet1, dDGet2, dDPut, dPairs, w_disp, w_newDF, w_newDT, dec_self, List.map_cons, List.map_nil, eqD_bl, eqD_int, eqD_str, eqD_tup, eqD_lst, eqDs_nil, eqDs_nc, eqDs_cn, eqDs_cons, reduceIte, Bool.false_eq_true, Bool.not_true, Bool.not_false, decide_true, decide_false, dVar, atD, setD, startD, dC, dOp, dAnd, dOr, dNot, dIf, dUn, dNil, dCons, dTup, dLst, rInD, rNotInD, dNoPart, dPart, dRev, dFld, DL.fieldsOf, dCB, dNext, dSeq, dBreak, dCont, dDrop, dRet, dRetN, dIfS, dNever, dgN, dgNil, dgCons, dgSub, dAsg, dPar, dPar3, putD, dSetF, dMt, rAppendD, rPopD, rExtendD, lsT, lsR, lsF, itemsR, dFrz, dCall, dCallK, dMeth, dMake, dFor, dIL, dIT, dIR1, dIR2, dIE, dIET, dIZ, wipeD, dYes, dLc, dDic0, updM_same, cxOf, asBl_bl, asInt_int, asTup_tup, isN, w_test, w_chain, w_andV, w_orV, w_notV, w_neg, w_sub, w_div, w_mod, w_pow, w_shl, w_shr, w_and, w_or, w_xor, w_lt, w_le, w_gt, w_ge, w_add, w_addS, w_addT, w_addL, w_addF, w_addR, w_mul, w_mulL, w_eq, w_ne, w_isN, w_isB, w_isntN, w_isntB, w_ix, w_isi, w_abs, w_max2, w_min2, w_max1L, w_min1L, w_sum, w_all, w_any, w_len, w_int, w_intB, w_divmod, w_sorted, w_list, w_bits, w_sl, w_slL, w_slF, w_slR, w_slT, w_newF, w_newT, w_eqL, w_eqT, w_eqR, w_neL, w_neT, w_neR, w_dgT, w_derL, w_derT, w_derB, w_derI, w_derN, w_derS, w_eqSS, w_eqBB, w_neSS, w_neBB, w_eqBI, w_eqIN, w_neIN, w_eqNI, w_neNI, w_eqNN, w_neNN, w_NN, w_NI, w_IN]))
def topS (i : Nat) : Stmt := PySem.Challenge.pw_farwrap_k64_short_rows_by_all_integers.main.body.getD i (.Pass ⟨0, 0, 0, 0⟩)
abbrev s__wall : Stmt := topS 0
abbrev s_is_integer : Stmt := topS 6
abbrev s_is_between : Stmt := topS 7
abbrev s_effect_of : Stmt := topS 14
abbrev s_check_row : Stmt := topS 15
abbrev s_do_same : Stmt := topS 16
abbrev s_shortest : Stmt := topS 17
abbrev s__law_cell_at : Stmt := topS 19
abbrev s__law_source_of : Stmt := topS 20
abbrev s__law_next : Stmt := topS 21
abbrev s__law_one : Stmt := topS 22
abbrev s__law_put : Stmt := topS 23
abbrev s__law_cast : Stmt := topS 24
abbrev s__law_made : Stmt := topS 25
abbrev s__law_parts : Stmt := topS 26
abbrev s__law_shape : Stmt := topS 27
abbrev s__law_rows : Stmt := topS 28
abbrev s__law_other : Stmt := topS 29
abbrev s__law_results : Stmt := topS 30
abbrev s__law_right : Stmt := topS 31
abbrev s_law : Stmt := topS 32
abbrev s_Kind_init : Stmt := inClass (topS 11) 0
abbrev s_Kind_eq : Stmt := inClass (topS 11) 1
abbrev s_Kind_parts : Stmt := inClass (topS 11) 2
abbrev s_Effect_init : Stmt := inClass (topS 13) 0
abbrev s_Effect_parts : Stmt := inClass (topS 13) 1
abbrev s_Effect_row : Stmt := inClass (topS 13) 2
abbrev s_Effect_image : Stmt := inClass (topS 13) 3
abbrev s_Effect_rest_of : Stmt := inClass (topS 13) 4
theorem sc__wall : FnScope ["k"] ["k"] (defScope s__wall) := ⟨rfl, rfl, rfl, by decide +kernel, rfl, by decide +kernel, by decide +kernel⟩
theorem sc_is_integer : FnScope ["value"] ["value"] (defScope s_is_integer) := ⟨rfl, rfl, rfl, by decide +kernel, rfl, by decide +kernel, by decide +kernel⟩
theorem sc_is_between : FnScope ["value", "low", "high"] ["value", "low", "high"] (defScope s_is_between) := ⟨rfl, rfl, rfl, by decide +kernel, rfl, by decide +kernel, by decide +kernel⟩
theorem sc_effect_of : FnScope ["kinds", "bits", "width", "total", "is_signed", "kind"] ["kinds"] (defScope s_effect_of) := ⟨rfl, rfl, rfl, by decide +kernel, rfl, by decide +kernel, by decide +kernel⟩
theorem sc_check_row : FnScope ["argument", "value", "kind"] ["argument", "value"] (defScope s_check_row) := ⟨rfl, rfl, rfl, by decide +kernel, rfl, by decide +kernel, by decide +kernel⟩
theorem sc_do_same : FnScope ["kinds", "others"] ["kinds", "others"] (defScope s_do_same) := ⟨rfl, rfl, rfl, by decide +kernel, rfl, by decide +kernel, by decide +kernel⟩
theorem sc_shortest : FnScope ["kinds"] ["kinds"] (defScope s_shortest) := ⟨rfl, rfl, rfl, by decide +kernel, rfl, by decide +kernel, by decide +kernel⟩
theorem sc__law_cell_at : FnScope ["_law_script", "_law_at"] ["_law_script", "_law_at"] (defScope s__law_cell_at) := ⟨rfl, rfl, rfl, by decide +kernel, rfl, by decide +kernel, by decide +kernel⟩
theorem sc__law_source_of : FnScope ["_law_cell"] ["_law_cell"] (defScope s__law_source_of) := ⟨rfl, rfl, rfl, by decide +kernel, rfl, by decide +kernel, by decide +kernel⟩
theorem sc__law_next : FnScope ["_law_source", "_law_many", "_law_found", "_law_prime", "_law_mixed"] ["_law_source", "_law_many"] (defScope s__law_next) := ⟨rfl, rfl, rfl, by decide +kernel, rfl, by decide +kernel, by decide +kernel⟩
theorem sc__law_one : FnScope ["_law_source", "_law_some"] ["_law_source", "_law_some"] (defScope s__law_one) := ⟨rfl, rfl, rfl, by decide +kernel, rfl, by decide +kernel, by decide +kernel⟩
theorem sc__law_put : FnScope ["_law_shape_here", "_law_n", "_law_low"] ["_law_shape_here", "_law_n"] (defScope s__law_put) := ⟨rfl, rfl, rfl, by decide +kernel, rfl, by decide +kernel, by decide +kernel⟩
theorem sc__law_cast : FnScope ["_law_rows_here", "_law_n", "_law_shape_here"] ["_law_rows_here", "_law_n"] (defScope s__law_cast) := ⟨rfl, rfl, rfl, by decide +kernel, rfl, by decide +kernel, by decide +kernel⟩
theorem sc__law_made : FnScope ["_law_rows_here", "_law_shape_here"] ["_law_rows_here"] (defScope s__law_made) := ⟨rfl, rfl, rfl, by decide +kernel, rfl, by decide +kernel, by decide +kernel⟩
theorem sc__law_parts : FnScope ["_law_row", "_law_one_here"] ["_law_row"] (defScope s__law_parts) := ⟨rfl, rfl, rfl, by decide +kernel, rfl, by decide +kernel, by decide +kernel⟩
theorem sc__law_shape : FnScope ["_law_source", "_law_most"] ["_law_source", "_law_most"] (defScope s__law_shape) := ⟨rfl, rfl, rfl, by decide +kernel, rfl, by decide +kernel, by decide +kernel⟩
theorem sc__law_rows : FnScope ["_law_source", "_law_most", "_law_found", "_law_turn"] ["_law_source", "_law_most"] (defScope s__law_rows) := ⟨rfl, rfl, rfl, by decide +kernel, rfl, by decide +kernel, by decide +kernel⟩
theorem sc__law_other : FnScope ["_law_source", "_law_rows_here", "_law_at", "_law_some"] ["_law_source", "_law_rows_here"] (defScope s__law_other) := ⟨rfl, rfl, rfl, by decide +kernel, rfl, by decide +kernel, by decide +kernel⟩
theorem sc__law_results : FnScope ["_law_rows_here", "_law_n"] ["_law_rows_here"] (defScope s__law_results) := ⟨rfl, rfl, rfl, by decide +kernel, rfl, by decide +kernel, by decide +kernel⟩
theorem sc__law_right : FnScope ["_law_source", "_law_rows_here", "_law_due", "_law_told", "_law_alone", "_law_bits", "_law_turn", "_law_other_here", "_law_is_same", "_law_plan", "_law_flag", "_law_shape_here"] ["_law_source"] (defScope s__law_right) := ⟨rfl, rfl, rfl, by decide +kernel, rfl, by decide +kernel, by decide +kernel⟩
theorem sc_law : FnScope ["_law_script", "_law_cell", "_law_source", "_law_turn"] ["_law_script"] (defScope s_law) := ⟨rfl, rfl, rfl, by decide +kernel, rfl, by decide +kernel, by decide +kernel⟩
theorem sc_Kind_init : FnScope ["self", "bits", "is_signed"] ["self", "bits", "is_signed"] (defScope s_Kind_init) := ⟨rfl, rfl, rfl, by decide +kernel, rfl, by decide +kernel, by decide +kernel⟩
theorem sc_Kind_eq : FnScope ["self", "other"] ["self", "other"] (defScope s_Kind_eq) := ⟨rfl, rfl, rfl, by decide +kernel, rfl, by decide +kernel, by decide +kernel⟩
theorem sc_Kind_parts : FnScope ["self"] ["self"] (defScope s_Kind_parts) := ⟨rfl, rfl, rfl, by decide +kernel, rfl, by decide +kernel, by decide +kernel⟩
theorem sc_Effect_init : FnScope ["self", "bits", "width", "is_below"] ["self", "bits", "width", "is_below"] (defScope s_Effect_init) := ⟨rfl, rfl, rfl, by decide +kernel, rfl, by decide +kernel, by decide +kernel⟩
theorem sc_Effect_parts : FnScope ["self"] ["self"] (defScope s_Effect_parts) := ⟨rfl, rfl, rfl, by decide +kernel, rfl, by decide +kernel, by decide +kernel⟩
theorem sc_Effect_row : FnScope ["self"] ["self"] (defScope s_Effect_row) := ⟨rfl, rfl, rfl, by decide +kernel, rfl, by decide +kernel, by decide +kernel⟩
theorem sc_Effect_image : FnScope ["self"] ["self"] (defScope s_Effect_image) := ⟨rfl, rfl, rfl, by decide +kernel, rfl, by decide +kernel, by decide +kernel⟩
theorem sc_Effect_rest_of : FnScope ["self", "y"] ["self", "y"] (defScope s_Effect_rest_of) := ⟨rfl, rfl, rfl, by decide +kernel, rfl, by decide +kernel, by decide +kernel⟩
/-- what the top has written -/
structure Txt (K : PySem.W.Frag) (mg : Str → Option Value) (C_Kind C_Effect : Addr) : Prop where
  h__wall : HasFn K mg "_wall" "_wall" s__wall ["k"]
  h_is_integer : HasFn K mg "is_integer" "is_integer" s_is_integer ["value"]
  h_is_between : HasFn K mg "is_between" "is_between" s_is_between ["value", "low", "high"]
  h_effect_of : HasFn K mg "effect_of" "effect_of" s_effect_of ["kinds"]
  h_check_row : HasFn K mg "check_row" "check_row" s_check_row ["argument", "value"]
  h_do_same : HasFn K mg "do_same" "do_same" s_do_same ["kinds", "others"]
  h_shortest : HasFn K mg "shortest" "shortest" s_shortest ["kinds"]
  h__law_cell_at : HasFn K mg "_law_cell_at" "_law_cell_at" s__law_cell_at ["_law_script", "_law_at"]
  h__law_source_of : HasFn K mg "_law_source_of" "_law_source_of" s__law_source_of ["_law_cell"]
  h__law_next : HasFn K mg "_law_next" "_law_next" s__law_next ["_law_source", "_law_many"]
  h__law_one : HasFn K mg "_law_one" "_law_one" s__law_one ["_law_source", "_law_some"]
  h__law_put : HasFn K mg "_law_put" "_law_put" s__law_put ["_law_shape_here", "_law_n"]
  h__law_cast : HasFn K mg "_law_cast" "_law_cast" s__law_cast ["_law_rows_here", "_law_n"]
  h__law_made : HasFn K mg "_law_made" "_law_made" s__law_made ["_law_rows_here"]
  h__law_parts : HasFn K mg "_law_parts" "_law_parts" s__law_parts ["_law_row"]
  h__law_shape : HasFn K mg "_law_shape" "_law_shape" s__law_shape ["_law_source", "_law_most"]
  h__law_rows : HasFn K mg "_law_rows" "_law_rows" s__law_rows ["_law_source", "_law_most"]
  h__law_other : HasFn K mg "_law_other" "_law_other" s__law_other ["_law_source", "_law_rows_here"]
  h__law_results : HasFn K mg "_law_results" "_law_results" s__law_results ["_law_rows_here"]
  h__law_right : HasFn K mg "_law_right" "_law_right" s__law_right ["_law_source"]
  h_law : HasFn K mg "law" "law" s_law ["_law_script"]
  mg_Kind : mg "Kind" = some (.ref C_Kind)
  cl_Kind : Cls K C_Kind
  nf_Kind_bits : NoAttr K C_Kind "bits"
  nf_Kind_is_signed : NoAttr K C_Kind "is_signed"
  h_Kind_init : HasCl K mg "Kind" C_Kind "Kind.__init__" s_Kind_init ["self", "bits", "is_signed"]
  h_Kind_eq : HasMt K C_Kind "__eq__" "Kind.__eq__" s_Kind_eq ["self", "other"]
  h_Kind_parts : HasMt K C_Kind "parts" "Kind.parts" s_Kind_parts ["self"]
  ck_Kind : ClsK K C_Kind
  mg_Effect : mg "Effect" = some (.ref C_Effect)
  cl_Effect : Cls K C_Effect
  nf_Effect_bits : NoAttr K C_Effect "bits"
  nf_Effect_width : NoAttr K C_Effect "width"
  nf_Effect_is_below : NoAttr K C_Effect "is_below"
  nf_Effect_shift : NoAttr K C_Effect "shift"
  h_Effect_init : HasCl K mg "Effect" C_Effect "Effect.__init__" s_Effect_init ["self", "bits", "width", "is_below"]
  h_Effect_parts : HasMt K C_Effect "parts" "Effect.parts" s_Effect_parts ["self"]
  h_Effect_row : HasMt K C_Effect "row" "Effect.row" s_Effect_row ["self"]
  h_Effect_image : HasMt K C_Effect "image" "Effect.image" s_Effect_image ["self"]
  h_Effect_rest_of : HasMt K C_Effect "rest_of" "Effect.rest_of" s_Effect_rest_of ["self", "y"]
  ck_Effect : ClsK K C_Effect
  b_all : mg "all" = none
  b_bool : mg "bool" = none
  b_int : mg "int" = none
  b_isinstance : mg "isinstance" = none
  b_len : mg "len" = none
  b_list : mg "list" = none
  b_min : mg "min" = none
  b_range : mg "range" = none
  g_MOST_BITS : ∃ t, mg "MOST_BITS" = some (.int 128 t)
  g_MOST_KINDS : ∃ t, mg "MOST_KINDS" = some (.int 20 t)
/-! ### kinds: the numbers -/
abbrev kindD (C : Addr) (b : Nat) (s : Bool) : Dat := .ins C [("bits", .int (b : Nat)), ("is_signed", .bl s)]
abbrev Wd (b : Nat) : Prop := 1 ≤ b ∧ b ≤ 128
def lowZ (b : Nat) (s : Bool) : Int := if s = true then -(2 ^ (b - 1)) else 0
def placedZ (b : Nat) (s : Bool) (n : Int) : Int := lowZ b s + (n - lowZ b s) % 2 ^ b
theorem two_pos (n : Nat) : (0 : Int) < 2 ^ n := Int.pow_pos (by decide)
theorem placed_in (b : Nat) (s : Bool) (n : Int) : lowZ b s ≤ placedZ b s n ∧ placedZ b s n < lowZ b s + 2 ^ b := by
  have h := two_pos b
  have h1 := Int.emod_nonneg (n - lowZ b s) (show (2 : Int) ^ b ≠ 0 by omega)
  have h2 := Int.emod_lt_of_pos (n - lowZ b s) h
  unfold placedZ
  omega
theorem placed_same {b : Nat} {s : Bool} {x : Int} (h1 : lowZ b s ≤ x) (h2 : x < lowZ b s + 2 ^ b) : placedZ b s x = x := by
  unfold placedZ
  rw [Int.emod_eq_of_lt (by omega) (by omega)]
  omega
section
variable {P : Program} {w : World} {K : PySem.W.Frag} {mg : Str → Option Value} {base : Heap} {C_Kind : Addr}
abbrev sp_isint (C : Addr) : SpD := fun ds M Q => ∃ x, ds = [x] ∧ OneC C x ∧ Q (.bl (isIntD x)) M
theorem ok_is_integer {C_Effect : Addr} (T : Txt K mg C_Kind C_Effect) : FnD P w K mg base 1 "is_integer" s_is_integer ["value"] (sp_isint C_Kind) := by
  refine fn_mk T.h_is_integer sc_is_integer 1 rfl (by intro ds M Q h; first | (obtain ⟨rfl, _⟩ := h; rfl) | (obtain ⟨_, rfl, _⟩ := h; rfl) | (obtain ⟨_, _, rfl, _⟩ := h; rfl) | (obtain ⟨_, _, _, rfl, _⟩ := h; rfl) | (obtain ⟨_, _, _, _, rfl, _⟩ := h; rfl) | (obtain ⟨_, _, _, _, _, rfl, _⟩ := h; rfl) | (obtain ⟨_, _, _, _, _, _, rfl, _⟩ := h; rfl) | (obtain ⟨_, _, _, _, _, _, _, rfl, _⟩ := h; rfl) | (obtain ⟨_, _, _, _, _, _, _, _, rfl, _⟩ := h; rfl) | (obtain ⟨_, _, _, _, _, _, _, _, _, rfl, _⟩ := h; rfl) | (obtain ⟨_, _, _, _, _, _, _, _, _, _, rfl, _⟩ := h; rfl) | (obtain ⟨_, _, _, _, _, _, _, _, _, _, _, rfl, _⟩ := h; rfl) | (obtain ⟨_, _, _, _, _, _, _, _, _, _, _, _, rfl, _⟩ := h; rfl)) (fun f cdv A outer s H E hr => ⟨_, (dss_one (ds_ret (de_and (de_cb ((cd_isiK K rfl)) (by rfl) T.b_isinstance (by decide +kernel) (da_cons (dv 0) (da_cons (de_ty .int (by rfl) T.b_int (by decide +kernel)) da_nil))) (de_one (de_not (de_cb ((cd_isiK K rfl)) (by rfl) T.b_isinstance (by decide +kernel) (da_cons (dv 0) (da_cons (de_ty .bool (by rfl) T.b_bool (by decide +kernel)) da_nil)))))))), ?_⟩)
  rintro ds M Q ⟨x, rfl, hx, hQ⟩
  and_intros
  refine ⟨isi_ty T.ck_Kind hx _, ?_⟩
  have e := isI_int (x := x)
  cases h : isiR x (.ty .int) with
  | true =>
    rw [h, if_pos rfl] at e
    rw [if_pos rfl, e]
    exact ⟨isi_ty T.ck_Kind hx _, endD_of hQ⟩
  | false =>
    rw [h, if_neg Bool.false_ne_true] at e
    rw [if_neg Bool.false_ne_true, e]
    exact endD_of hQ
abbrev betw (x : Dat) (lo hi : Int) : Bool := match x with
  | .int i => decide (lo ≤ i ∧ i ≤ hi)
  | _ => false
abbrev sp_between (C : Addr) : SpD := fun ds M Q => ∃ x lo hi, ds = [x, .int lo, .int hi] ∧ OneC C x ∧ Q (.bl (betw x lo hi)) M
theorem ok_is_between {C_Effect : Addr} (T : Txt K mg C_Kind C_Effect) (F_is_integer : FnD P w K mg base 1 "is_integer" s_is_integer ["value"] (sp_isint C_Kind)) : FnD P w K mg base 2 "is_between" s_is_between ["value", "low", "high"] (sp_between C_Kind) := by
  refine fn_mk T.h_is_between sc_is_between 3 rfl (by intro ds M Q h; first | (obtain ⟨rfl, _⟩ := h; rfl) | (obtain ⟨_, rfl, _⟩ := h; rfl) | (obtain ⟨_, _, rfl, _⟩ := h; rfl) | (obtain ⟨_, _, _, rfl, _⟩ := h; rfl) | (obtain ⟨_, _, _, _, rfl, _⟩ := h; rfl) | (obtain ⟨_, _, _, _, _, rfl, _⟩ := h; rfl) | (obtain ⟨_, _, _, _, _, _, rfl, _⟩ := h; rfl) | (obtain ⟨_, _, _, _, _, _, _, rfl, _⟩ := h; rfl) | (obtain ⟨_, _, _, _, _, _, _, _, rfl, _⟩ := h; rfl) | (obtain ⟨_, _, _, _, _, _, _, _, _, rfl, _⟩ := h; rfl) | (obtain ⟨_, _, _, _, _, _, _, _, _, _, rfl, _⟩ := h; rfl) | (obtain ⟨_, _, _, _, _, _, _, _, _, _, _, rfl, _⟩ := h; rfl) | (obtain ⟨_, _, _, _, _, _, _, _, _, _, _, _, rfl, _⟩ := h; rfl)) (fun f cdv A outer s H E hr => ⟨_, (dss_one (ds_ret (de_and (de_call F_is_integer hr (da_cons (dv 0) da_nil)) (de_one (de_chain od_le od_le (dv 1) (dv 0) (dv 2)))))), ?_⟩)
  rintro ds M Q ⟨x, lo, hi, rfl, hx, hQ⟩
  and_intros
  refine ⟨x, rfl, hx, ?_⟩
  cases x with
  | int i =>
    simp only [isIntD]
    and_intros
    by_cases h : lo ≤ i
    · simp only [h]
      and_intros
      refine endD_of ?_
      simpa [betw, h] using hQ
    · simp only [h]
      and_intros
      refine endD_of ?_
      simpa [betw, h] using hQ
  | _ => exact endD_of hQ
abbrev sp_chk : SpD := fun ds M Q => ∃ d n, ds = [d, .int n] ∧ Q .non M
abbrev sp_init (C : Addr) : SpD := fun ds M Q => ∃ (a : Addr) (b : Nat) (s : Bool), ds = [.ref a, .int (b : Nat), .bl s] ∧ Wd b ∧ M a = some (.ins C []) ∧ Q .non (updM M a (.ins C [("bits", .int (b : Nat)), ("is_signed", .bl s)]))
theorem ok_Kind_init {C_Effect : Addr} (T : Txt K mg C_Kind C_Effect) (F_is_between : FnD P w K mg base 2 "is_between" s_is_between ["value", "low", "high"] (sp_between C_Kind)) : ClD P w K mg base 3 "Kind" C_Kind s_Kind_init ["self", "bits", "is_signed"] (sp_init C_Kind) := by
  refine cl_mk T.h_Kind_init sc_Kind_init 3 rfl (by intro ds M Q h; first | (obtain ⟨rfl, _⟩ := h; rfl) | (obtain ⟨_, rfl, _⟩ := h; rfl) | (obtain ⟨_, _, rfl, _⟩ := h; rfl) | (obtain ⟨_, _, _, rfl, _⟩ := h; rfl) | (obtain ⟨_, _, _, _, rfl, _⟩ := h; rfl) | (obtain ⟨_, _, _, _, _, rfl, _⟩ := h; rfl) | (obtain ⟨_, _, _, _, _, _, rfl, _⟩ := h; rfl) | (obtain ⟨_, _, _, _, _, _, _, rfl, _⟩ := h; rfl) | (obtain ⟨_, _, _, _, _, _, _, _, rfl, _⟩ := h; rfl) | (obtain ⟨_, _, _, _, _, _, _, _, _, rfl, _⟩ := h; rfl) | (obtain ⟨_, _, _, _, _, _, _, _, _, _, rfl, _⟩ := h; rfl) | (obtain ⟨_, _, _, _, _, _, _, _, _, _, _, rfl, _⟩ := h; rfl) | (obtain ⟨_, _, _, _, _, _, _, _, _, _, _, _, rfl, _⟩ := h; rfl)) (fun f cdv A outer s H E hr => ⟨_, (dss_cons (ds_if (dt_not (dt_val (de_call F_is_between hr (da_cons (dv 1) (da_cons de_int (da_cons (de_gint (by rfl) T.g_MOST_BITS) da_nil))))))
    (dss_one ds_never)
    dss_nil)
    (dss_cons (ds_if (dt_not (dt_val (de_cb ((cd_isiK K rfl)) (by rfl) T.b_isinstance (by decide +kernel) (da_cons (dv 2) (da_cons (de_ty .bool (by rfl) T.b_bool (by decide +kernel)) da_nil)))))
    (dss_one ds_never)
    dss_nil)
    (dss_cons (ds_setF (C := C_Kind) T.cl_Kind T.nf_Kind_bits (dv 0) (dv 1))
    (dss_one (ds_setF (C := C_Kind) T.cl_Kind T.nf_Kind_is_signed (dv 0) (dv 2)))))), ?_⟩)
  rintro ds M Q ⟨a, b, s, rfl, hb, hM, hQ⟩
  and_intros
  refine ⟨_, _, _, rfl, trivial, ?_⟩
  have e : betw (.int (b : Nat)) 1 128 = true := by simp only [betw]; exact decide_eq_true (by omega)
  rw [e]
  and_intros
  refine ⟨isi_ty T.ck_Kind (x := .bl s) trivial _, ?_⟩
  rw [show isiR (.bl s) (.ty .bool) = true by rfl]
  and_intros
  refine ⟨_, hM, by decide, _, rfl, (by decide : 1 < 1000), endD_of ?_⟩
  and_intros
  rw [updM_updM]
  exact hQ
abbrev sp_parts (C : Addr) : SpD := fun ds M Q => ∃ (b : Nat) (s : Bool), ds = [kindD C b s] ∧ Q (.tup [.int (b : Nat), .bl s]) M
theorem ok_Kind_parts {C_Effect : Addr} (T : Txt K mg C_Kind C_Effect) : MtdD P w K mg base 1 C_Kind "parts" s_Kind_parts ["self"] (sp_parts C_Kind) := by
  refine mt_mk T.h_Kind_parts sc_Kind_parts 1 rfl (by intro ds M Q h; first | (obtain ⟨rfl, _⟩ := h; rfl) | (obtain ⟨_, rfl, _⟩ := h; rfl) | (obtain ⟨_, _, rfl, _⟩ := h; rfl) | (obtain ⟨_, _, _, rfl, _⟩ := h; rfl) | (obtain ⟨_, _, _, _, rfl, _⟩ := h; rfl) | (obtain ⟨_, _, _, _, _, rfl, _⟩ := h; rfl) | (obtain ⟨_, _, _, _, _, _, rfl, _⟩ := h; rfl) | (obtain ⟨_, _, _, _, _, _, _, rfl, _⟩ := h; rfl) | (obtain ⟨_, _, _, _, _, _, _, _, rfl, _⟩ := h; rfl) | (obtain ⟨_, _, _, _, _, _, _, _, _, rfl, _⟩ := h; rfl) | (obtain ⟨_, _, _, _, _, _, _, _, _, _, rfl, _⟩ := h; rfl) | (obtain ⟨_, _, _, _, _, _, _, _, _, _, _, rfl, _⟩ := h; rfl) | (obtain ⟨_, _, _, _, _, _, _, _, _, _, _, _, rfl, _⟩ := h; rfl)) (fun f cdv A outer s H E hr => ⟨_, (dss_one (ds_ret (de_tup (da_cons (de_fld C_Kind 0 T.cl_Kind T.nf_Kind_bits (dv 0)) (da_cons (de_fld C_Kind 1 T.cl_Kind T.nf_Kind_is_signed (dv 0)) da_nil))))), ?_⟩)
  rintro ds M Q ⟨b, s, rfl, hQ⟩
  and_intros
  exact ⟨_, _, rfl, rfl, _, _, rfl, rfl, by show 2 ≤ _; decide, endD_of hQ⟩
abbrev sp_eq (C : Addr) : SpD := fun ds M Q => ∃ (b : Nat) (s : Bool) (b2 : Nat) (s2 : Bool), ds = [kindD C b s, kindD C b2 s2] ∧ Q (.bl (decide (b = b2 ∧ s = s2))) M
theorem ok_Kind_eq {C_Effect : Addr} (T : Txt K mg C_Kind C_Effect) (F_Kind_parts : MtdD P w K mg base 1 C_Kind "parts" s_Kind_parts ["self"] (sp_parts C_Kind)) : MtdD P w K mg base 2 C_Kind "__eq__" s_Kind_eq ["self", "other"] (sp_eq C_Kind) := by
  refine mt_mk T.h_Kind_eq sc_Kind_eq 2 rfl (by intro ds M Q h; first | (obtain ⟨rfl, _⟩ := h; rfl) | (obtain ⟨_, rfl, _⟩ := h; rfl) | (obtain ⟨_, _, rfl, _⟩ := h; rfl) | (obtain ⟨_, _, _, rfl, _⟩ := h; rfl) | (obtain ⟨_, _, _, _, rfl, _⟩ := h; rfl) | (obtain ⟨_, _, _, _, _, rfl, _⟩ := h; rfl) | (obtain ⟨_, _, _, _, _, _, rfl, _⟩ := h; rfl) | (obtain ⟨_, _, _, _, _, _, _, rfl, _⟩ := h; rfl) | (obtain ⟨_, _, _, _, _, _, _, _, rfl, _⟩ := h; rfl) | (obtain ⟨_, _, _, _, _, _, _, _, _, rfl, _⟩ := h; rfl) | (obtain ⟨_, _, _, _, _, _, _, _, _, _, rfl, _⟩ := h; rfl) | (obtain ⟨_, _, _, _, _, _, _, _, _, _, _, rfl, _⟩ := h; rfl) | (obtain ⟨_, _, _, _, _, _, _, _, _, _, _, _, rfl, _⟩ := h; rfl)) (fun f cdv A outer s H E hr => ⟨_, (dss_one (ds_ret (de_and (de_cb ((cd_isiK K rfl)) (by rfl) T.b_isinstance (by decide +kernel) (da_cons (dv 1) (da_cons (de_cls (by rfl) T.mg_Kind) da_nil))) (de_one (de_cmp (od_eq hr.units) (de_meth0 F_Kind_parts T.cl_Kind hr (dv 0)) (de_meth0 F_Kind_parts T.cl_Kind hr (dv 1))))))), ?_⟩)
  rintro ds M Q ⟨b, s, b2, s2, rfl, hQ⟩
  and_intros
  refine ⟨isi_cls T.ck_Kind rfl, ?_⟩
  simp only [isiR]
  and_intros
  refine ⟨⟨_, rfl, by rfl⟩, b, s, rfl, ⟨_, rfl, by rfl⟩, b2, s2, rfl, ?_⟩
  and_intros
  refine ⟨by rfl, by rfl, endD_of ?_⟩
  have e : (decide ((b : Int) = (b2 : Int)) && (decide (s = s2) && true)) = decide (b = b2 ∧ s = s2) := by
    by_cases h1 : b = b2
    · subst h1
      by_cases h2 : s = s2 <;> simp [h2]
    · have : ¬ (b : Int) = (b2 : Int) := by omega
      simp [h1, this]
  rw [e]
  exact hQ
abbrev sp_chkk (C : Addr) : SpD := fun ds M Q => ∃ gs, ds = [.ins C gs] ∧ Q .non M
abbrev sp_size (C : Addr) : SpD := fun ds M Q => ∃ (b : Nat) (s : Bool), ds = [kindD C b s] ∧ Wd b ∧ Q (.int (2 ^ b)) M
abbrev sp_low (C : Addr) : SpD := fun ds M Q => ∃ (b : Nat) (s : Bool), ds = [kindD C b s] ∧ Wd b ∧ Q (.int (lowZ b s)) M
abbrev sp_placed (C : Addr) : SpD := fun ds M Q => ∃ (b : Nat) (s : Bool) (n : Int), ds = [kindD C b s, .int n] ∧ Wd b ∧ Q (.int (placedZ b s n)) M
abbrev sp_least (C : Addr) : SpD := sp_low C
abbrev sp_greatest (C : Addr) : SpD := fun ds M Q => ∃ (b : Nat) (s : Bool), ds = [kindD C b s] ∧ Wd b ∧ Q (.int (lowZ b s + 2 ^ b - 1)) M
abbrev sp_isvalue (C : Addr) : SpD := fun ds M Q => ∃ (b : Nat) (s : Bool) (x : Dat), ds = [kindD C b s, x] ∧ Wd b ∧ OneC C x ∧ Q (.bl (betw x (lowZ b s) (lowZ b s + 2 ^ b - 1))) M
abbrev sp_wrapped (C : Addr) : SpD := sp_placed C
/-- one kind behind the other -/
def castZ : List (Nat × Bool) → Int → Int
  | [], n => n
  | (b, s) :: r, n => castZ r (placedZ b s n)
abbrev kindsD (C : Addr) (ks : List (Nat × Bool)) : List Dat := ks.map fun q => kindD C q.1 q.2
abbrev sp_cast (C : Addr) : SpD := fun ds M Q => ∃ (ks : List (Nat × Bool)) (n : Int), ds = [.lst (kindsD C ks), .int n] ∧ (∀ q ∈ ks, Wd q.1) ∧ 1 ≤ ks.length ∧ ks.length ≤ 20 ∧ Q (.int (castZ ks n)) M
/-! ### numbers modulo a power of two -/
abbrev InK (b : Nat) (s : Bool) (x : Int) : Prop := lowZ b s ≤ x ∧ x < lowZ b s + 2 ^ b
theorem pow_mono {a b : Nat} (h : a ≤ b) : (2 : Int) ^ a ≤ 2 ^ b := by
  have := Nat.pow_le_pow_right (show 0 < 2 by decide) h
  have e1 : ((2 ^ a : Nat) : Int) = 2 ^ a := by simp
  have e2 : ((2 ^ b : Nat) : Int) = 2 ^ b := by simp
  rw [← e1, ← e2]
  omega
theorem two_succ {b : Nat} (h : 1 ≤ b) : (2 : Int) ^ b = 2 * 2 ^ (b - 1) := by
  obtain ⟨c, rfl⟩ : ∃ c, b = c + 1 := ⟨b - 1, by omega⟩
  rw [Nat.add_sub_cancel, Int.pow_succ, Int.mul_comm]
theorem low_abs (b : Nat) (s : Bool) : -(2 ^ b) ≤ lowZ b s ∧ lowZ b s ≤ 0 := by
  have h1 := two_pos b
  have h2 := two_pos (b - 1)
  have h3 := pow_mono (show b - 1 ≤ b by omega)
  unfold lowZ
  split <;> omega
theorem in_small {b : Nat} {s : Bool} {x : Int} (hb : Wd b) (h : InK b s x) : x.natAbs < 2 ^ 200 := by
  have h1 := low_abs b s
  have h2 := pow_mono hb.2
  have h3 : (2 : Int) ^ 128 + 2 ^ 128 < 2 ^ 200 := by decide +kernel
  obtain ⟨h4, h5⟩ := h
  omega
theorem mod_cong (m a : Int) : m ∣ a % m - a := ⟨-(a / m), by rw [Int.emod_def]; grind⟩
theorem placed_congr {b : Nat} {s : Bool} {x y : Int} (h : (2 : Int) ^ b ∣ x - y) : placedZ b s x = placedZ b s y := by
  obtain ⟨c, hc⟩ := h
  have e : x = y + 2 ^ b * c := by omega
  subst e
  unfold placedZ
  rw [show y + 2 ^ b * c - lowZ b s = (y - lowZ b s) + 2 ^ b * c by omega, Int.add_mul_emod_self_left]
theorem placed_cong (b : Nat) (s : Bool) (x : Int) : (2 : Int) ^ b ∣ placedZ b s x - x := by
  obtain ⟨c, hc⟩ := mod_cong (2 ^ b) (x - lowZ b s)
  exact ⟨c, by unfold placedZ; omega⟩
theorem in_unique {b : Nat} {s : Bool} {x y : Int} (hx : InK b s x) (hy : InK b s y) (h : (2 : Int) ^ b ∣ x - y) : x = y := by
  rw [← placed_same hx.1 hx.2, ← placed_same hy.1 hy.2]
  exact placed_congr h
theorem placed_inK (b : Nat) (s : Bool) (x : Int) : InK b s (placedZ b s x) := placed_in b s x
theorem placed_iff {b : Nat} {s : Bool} {x y : Int} : placedZ b s x = placedZ b s y ↔ (2 : Int) ^ b ∣ x - y := by
  refine ⟨fun h => ?_, placed_congr⟩
  obtain ⟨c, hc⟩ := placed_cong b s x
  obtain ⟨d, hd⟩ := placed_cong b s y
  exact ⟨d - c, by rw [Int.mul_sub]; omega⟩
theorem dvd_mul_l {m a : Int} (c : Int) (h : m ∣ a) : m ∣ c * a := by
  obtain ⟨d, rfl⟩ := h
  exact ⟨c * d, by grind⟩
theorem dvd_mul_r {m a : Int} (c : Int) (h : m ∣ a) : m ∣ a * c := by
  obtain ⟨d, rfl⟩ := h
  exact ⟨d * c, by grind⟩
theorem dvd_add' {m a b : Int} (h : m ∣ a) (g : m ∣ b) : m ∣ a + b := by
  obtain ⟨d, rfl⟩ := h
  obtain ⟨e, rfl⟩ := g
  exact ⟨d + e, by grind⟩
theorem dvd_pow2 {a b : Nat} (h : a ≤ b) : (2 : Int) ^ a ∣ 2 ^ b := by
  obtain ⟨c, rfl⟩ := Nat.exists_eq_add_of_le h
  exact ⟨2 ^ c, by rw [Int.pow_add]⟩
theorem mod_uniq {m a b : Int} (hm : 0 < m) (ha : 0 ≤ a ∧ a < m) (hb : 0 ≤ b ∧ b < m) (h : m ∣ a - b) : a = b := by
  obtain ⟨c, hc⟩ := h
  have e : a = b + m * c := by omega
  rw [← Int.emod_eq_of_lt ha.1 ha.2, e, Int.add_mul_emod_self_left, Int.emod_eq_of_lt hb.1 hb.2]
theorem mod_congr {m a b : Int} (h : m ∣ a - b) : a % m = b % m := by
  obtain ⟨c, hc⟩ := h
  rw [show a = b + m * c by omega, Int.add_mul_emod_self_left]
theorem dvd_of_mod {m a b : Int} (h : a % m = b % m) : m ∣ a - b := by
  have h1 := Int.emod_add_mul_ediv a m
  have h2 := Int.emod_add_mul_ediv b m
  exact ⟨a / m - b / m, by grind⟩
theorem odd_cases (x : Int) : x % 2 = 0 ∨ x % 2 = 1 := by omega
/-- an odd factor does not matter -/
theorem odd_dvd {x y : Int} (hx : x % 2 = 1) : ∀ {k : Nat}, (2 : Int) ^ k ∣ x * y → (2 : Int) ^ k ∣ y
  | 0, _ => ⟨y, by simp⟩
  | k + 1, h => by
    obtain ⟨c, hc⟩ := odd_dvd hx (k := k) (by
      obtain ⟨d, hd⟩ := h
      exact ⟨2 * d, by rw [hd, Int.pow_succ]; grind⟩)
    obtain ⟨d, hd⟩ := h
    subst hc
    have hp := two_pos k
    have e : x * c = 2 * d := by
      have : (2 : Int) ^ k * (x * c) = 2 ^ k * (2 * d) := by rw [Int.pow_succ] at hd; grind
      exact Int.eq_of_mul_eq_mul_left (by omega) this
    have hc2 : c % 2 = 0 := by
      rcases odd_cases c with h | h
      · exact h
      · have : x * c % 2 = 1 := by rw [Int.mul_emod, hx, h]; rfl
        omega
    exact ⟨c / 2, by rw [Int.pow_succ]; have : c = 2 * (c / 2) := by omega
                     grind⟩
theorem newton {n f : Int} {k l : Nat} (hl : l ≤ 2 * k) (h : (2 : Int) ^ k ∣ n * f - 1) : (2 : Int) ^ l ∣ n * ((f * (2 - n * f)) % 2 ^ l) - 1 := by
  obtain ⟨c, hc⟩ := h
  obtain ⟨d, hd⟩ := mod_cong (2 ^ l) (f * (2 - n * f))
  obtain ⟨e, he⟩ := dvd_pow2 hl
  have h2 : (2 : Int) ^ (2 * k) = 2 ^ k * 2 ^ k := by rw [Nat.two_mul, Int.pow_add]
  exact ⟨n * d - e * (c * c), by grind⟩
theorem pl_eq {b : Nat} {s : Bool} {n x : Int} (hx : InK b s x) (h : (2 : Int) ^ b ∣ n - x) : placedZ b s n = x := by
  rw [← placed_same hx.1 hx.2]
  rw [placed_same hx.1 hx.2]
  exact (placed_congr h).trans (placed_same hx.1 hx.2)
def absZ (i : Int) : Int := if i < 0 then -i else i
theorem abs_nat (x : Int) : absZ x = x.natAbs := by
  unfold absZ
  split <;> omega
/-! ### the source of numbers -/
abbrev srcD (x y z : Int) : MO := .lst [.int x, .int y, .int z]
abbrev SrcOk (x y z : Int) : Prop := 0 ≤ x ∧ 0 ≤ y ∧ 0 ≤ z
/-- a source stands at a -/
def Src (M : MH) (a : Addr) : Prop := ∃ x y z : Int, M a = some (srcD x y z) ∧ SrcOk x y z
/-- .. and M' is M but for the numbers of the source at a -/
def SrcTo (a : Addr) (M M' : MH) : Prop := ∃ x y z : Int, M' = updM M a (srcD x y z) ∧ SrcOk x y z
theorem SrcTo.src {a : Addr} {M M' : MH} (h : SrcTo a M M') : Src M' a := by
  obtain ⟨x, y, z, rfl, h⟩ := h
  exact ⟨x, y, z, updM_same, h⟩
theorem SrcTo.trans {a : Addr} {M M1 M2 : MH} (h : SrcTo a M M1) (g : SrcTo a M1 M2) : SrcTo a M M2 := by
  obtain ⟨x, y, z, rfl, h⟩ := h
  obtain ⟨x2, y2, z2, rfl, h2⟩ := g
  exact ⟨x2, y2, z2, updM_updM, h2⟩
theorem SrcTo.at {a b : Addr} {M M' : MH} (h : SrcTo a M M') (n : b ≠ a) : M' b = M b := by
  obtain ⟨x, y, z, rfl, h⟩ := h
  exact updM_ne n
theorem Src.refl {a : Addr} {M : MH} (h : Src M a) : SrcTo a M M := by
  obtain ⟨x, y, z, e, h⟩ := h
  refine ⟨x, y, z, ?_, h⟩
  funext b
  by_cases q : b = a
  · subst q
    rw [updM_same, e]
  · rw [updM_ne q]
abbrev sp_source_of : SpD := fun ds M Q => ∃ n : Int, ds = [.int n] ∧ ∀ a x y z, M a = none → SrcOk x y z → Q (.ref a) (updM M a (srcD x y z))
theorem ok__law_source_of {C_Effect : Addr} (T : Txt K mg C_Kind C_Effect) : FnD P w K mg base 1 "_law_source_of" s__law_source_of ["_law_cell"] (sp_source_of) := by
  refine fn_mk T.h__law_source_of sc__law_source_of 1 rfl (by intro ds M Q h; first | (obtain ⟨rfl, _⟩ := h; rfl) | (obtain ⟨_, rfl, _⟩ := h; rfl) | (obtain ⟨_, _, rfl, _⟩ := h; rfl) | (obtain ⟨_, _, _, rfl, _⟩ := h; rfl) | (obtain ⟨_, _, _, _, rfl, _⟩ := h; rfl) | (obtain ⟨_, _, _, _, _, rfl, _⟩ := h; rfl) | (obtain ⟨_, _, _, _, _, _, rfl, _⟩ := h; rfl) | (obtain ⟨_, _, _, _, _, _, _, rfl, _⟩ := h; rfl) | (obtain ⟨_, _, _, _, _, _, _, _, rfl, _⟩ := h; rfl) | (obtain ⟨_, _, _, _, _, _, _, _, _, rfl, _⟩ := h; rfl) | (obtain ⟨_, _, _, _, _, _, _, _, _, _, rfl, _⟩ := h; rfl) | (obtain ⟨_, _, _, _, _, _, _, _, _, _, _, rfl, _⟩ := h; rfl) | (obtain ⟨_, _, _, _, _, _, _, _, _, _, _, _, rfl, _⟩ := h; rfl)) (fun f cdv A outer s H E hr => ⟨_, (dss_cons (ds_set (i := 0) sc__law_source_of.nd (de_cut (de_if (dt_cmp od_ge (dv 0) de_int) (dv 0) (de_op od_sub (de_op od_sub de_int (de_op (od_mul false) de_int (dv 0))) de_int))))
    (dss_one (ds_ret (de_lst true (da_cons (de_op (od_mul false) (dv 0) (de_ct cd_int (by rfl) T.b_int (by decide +kernel) (da_cons (de_cmp od_ge (dv 0) (de_op od_pow de_int de_int)) da_nil))) (da_cons (de_op od_mod (de_ct cd_int (by rfl) T.b_int (by decide +kernel) (da_cons (dv 0) da_nil)) de_int) (da_cons de_int da_nil))))))), ?_⟩)
  rintro ds M Q ⟨n, rfl, hQ⟩
  and_intros
  obtain ⟨c, hc, hn⟩ : ∃ c : Int, 0 ≤ c ∧ (if 0 ≤ n then n else 0 - 3 * n - 1) = c := by
    refine ⟨_, ?_, rfl⟩
    split <;> omega
  refine cutE_is (.int c) ?_ ?_
  · and_intros
    by_cases h : 0 ≤ n
    · rw [if_pos h] at hn
      simp only [h]
      and_intros
      rw [hn]
      trivial
    · rw [if_neg h] at hn
      simp only [h]
      and_intros
      refine ⟨mulOk_l (by decide), ?_⟩
      and_intros
      rw [hn]
      trivial
  and_intros
  refine ⟨⟨by decide, by decide +kernel⟩, ?_⟩
  and_intros
  refine ⟨mulOk_r (by split <;> decide), ?_⟩
  and_intros
  refine ⟨by decide, ?_⟩
  and_intros
  refine ⟨by show 3 ≤ _; decide, fun a ha => endD_of ?_⟩
  refine hQ a _ _ _ ha ⟨?_, ?_, by decide⟩
  · split
    · omega
    · omega
  · rw [fmodP (by decide)]
    exact Int.emod_nonneg _ (by decide)
abbrev sp_next : SpD := fun ds M Q => ∃ (a : Addr) (m : Int), ds = [.ref a, .int m] ∧ Src M a ∧ 0 < m ∧ m < 2 ^ 9000 ∧ ∀ (r : Int) M', 0 ≤ r → r < m → SrcTo a M M' → Q (.int r) M'
theorem ok__law_next {C_Effect : Addr} (T : Txt K mg C_Kind C_Effect) : FnD P w K mg base 1 "_law_next" s__law_next ["_law_source", "_law_many"] (sp_next) := by
  refine fn_mk T.h__law_next sc__law_next 5 rfl (by intro ds M Q h; first | (obtain ⟨rfl, _⟩ := h; rfl) | (obtain ⟨_, rfl, _⟩ := h; rfl) | (obtain ⟨_, _, rfl, _⟩ := h; rfl) | (obtain ⟨_, _, _, rfl, _⟩ := h; rfl) | (obtain ⟨_, _, _, _, rfl, _⟩ := h; rfl) | (obtain ⟨_, _, _, _, _, rfl, _⟩ := h; rfl) | (obtain ⟨_, _, _, _, _, _, rfl, _⟩ := h; rfl) | (obtain ⟨_, _, _, _, _, _, _, rfl, _⟩ := h; rfl) | (obtain ⟨_, _, _, _, _, _, _, _, rfl, _⟩ := h; rfl) | (obtain ⟨_, _, _, _, _, _, _, _, _, rfl, _⟩ := h; rfl) | (obtain ⟨_, _, _, _, _, _, _, _, _, _, rfl, _⟩ := h; rfl) | (obtain ⟨_, _, _, _, _, _, _, _, _, _, _, rfl, _⟩ := h; rfl) | (obtain ⟨_, _, _, _, _, _, _, _, _, _, _, _, rfl, _⟩ := h; rfl)) (fun f cdv A outer s H E hr => ⟨_, (dss_cons (ds_if (dt_cmp od_gt (de_ix (dv 0) de_int) de_int)
    (dss_cons (ds_set (i := 2) sc__law_next.nd (de_op od_mod (de_ct cd_int (by rfl) T.b_int (by decide +kernel) (da_cons (de_ix (dv 0) de_int) da_nil)) (dv 1)))
    (dss_cons (ds_asg (de_op od_div (de_ix (dv 0) de_int) (dv 1)) (dg_sub (dv 0) de_int))
    (dss_one (ds_ret (dv 2)))))
    dss_nil)
    (dss_cons (ds_asg (de_op (od_add false) (de_ix (dv 0) de_int) de_int) (dg_sub (dv 0) de_int))
    (dss_cons (ds_set (i := 3) sc__law_next.nd de_int)
    (dss_cons (ds_set (i := 4) sc__law_next.nd (de_op od_mod (de_ct cd_int (by rfl) T.b_int (by decide +kernel) (da_cons (de_op (od_add false) (de_op (od_add false) (de_ix (dv 0) de_int) (de_op (od_mul false) de_int (de_ix (dv 0) de_int))) de_int) da_nil)) (dv 3)))
    (dss_cons (ds_set (i := 4) sc__law_next.nd (de_op od_mod (de_ct cd_int (by rfl) T.b_int (by decide +kernel) (da_cons (de_op (od_mul false) (dv 4) de_int) da_nil)) (dv 3)))
    (dss_cons (ds_set (i := 4) sc__law_next.nd (de_op od_mod (de_ct cd_int (by rfl) T.b_int (by decide +kernel) (da_cons (de_op (od_mul false) (dv 4) (de_op (od_add false) (de_op od_div (dv 4) de_int) de_int)) da_nil)) (dv 3)))
    (dss_cons (ds_set (i := 4) sc__law_next.nd (de_op od_mod (de_ct cd_int (by rfl) T.b_int (by decide +kernel) (da_cons (de_op (od_mul false) (dv 4) (de_op (od_add false) (de_op od_div (dv 4) de_int) de_int)) da_nil)) de_int))
    (dss_one (ds_ret (de_op od_mod (de_ct cd_int (by rfl) T.b_int (by decide +kernel) (da_cons (de_op od_div (dv 4) de_int) da_nil)) (dv 1))))))))))), ?_⟩)
  rintro ds M Q ⟨a, m, rfl, ⟨x, y, z, hM, hx, hy, hz⟩, hm, hb, hQ⟩
  and_intros
  refine ⟨_, _, by rw [hM], rfl, ?_⟩
  and_intros
  have hmod : ∀ i : Int, 0 ≤ i.fmod m ∧ i.fmod m < m := fun i => by
    rw [fmodP hm]
    exact ⟨Int.emod_nonneg _ (by omega), Int.emod_lt_of_pos _ hm⟩
  by_cases h : 0 < x
  · simp only [h]
    and_intros
    refine ⟨_, _, by rw [hM], rfl, ?_⟩
    and_intros
    refine ⟨by omega, ?_⟩
    and_intros
    refine ⟨_, _, by rw [hM], rfl, ?_⟩
    and_intros
    refine ⟨divOk_b hm hb, ?_⟩
    and_intros
    refine ⟨_, _, hM, rfl, endD_of ?_⟩
    refine hQ _ _ (hmod x).1 (hmod x).2 ⟨_, y, z, rfl, ?_, hy, hz⟩
    rw [fdivP hm]
    exact Int.ediv_nonneg hx (by omega)
  · simp only [h]
    and_intros
    refine ⟨_, _, by rw [hM], rfl, ?_⟩
    and_intros
    refine ⟨_, _, hM, rfl, ?_⟩
    refine ⟨_, _, rfl, rfl, _, _, rfl, rfl, ?_⟩
    and_intros
    refine ⟨mulOk_l (by decide), ?_⟩
    and_intros
    refine ⟨by decide, ?_⟩
    and_intros
    obtain ⟨q1, h1, l1⟩ : ∃ q : Int, (y + 104729 * (z + 1) + 7919).fmod 2147483647 = q ∧ 0 ≤ q ∧ q < 2147483647 := by
      refine ⟨_, rfl, ?_⟩
      rw [fmodP (by decide)]
      omega
    rw [h1]
    refine ⟨mulOk_r (by decide), ?_⟩
    and_intros
    refine ⟨by decide, ?_⟩
    and_intros
    obtain ⟨q2, h2, l2⟩ : ∃ q : Int, (q1 * 48271).fmod 2147483647 = q ∧ 0 ≤ q ∧ q < 2147483647 := by
      refine ⟨_, rfl, ?_⟩
      rw [fmodP (by decide)]
      omega
    rw [h2]
    refine ⟨divOk_b (by decide) (by decide +kernel), ?_⟩
    and_intros
    obtain ⟨q3, h3, l3⟩ : ∃ q : Int, q2.fdiv 1009 = q ∧ 0 ≤ q ∧ q < 2147483647 := by
      refine ⟨_, rfl, ?_⟩
      rw [fdivP (by decide)]
      omega
    rw [h3]
    refine ⟨mulOk_r (by omega), by decide, ?_⟩
    obtain ⟨q4, h4, l4⟩ : ∃ q : Int, (q2 * (q3 + 69621)).fmod 2147483647 = q ∧ 0 ≤ q ∧ q < 2147483647 := by
      refine ⟨_, rfl, ?_⟩
      rw [fmodP (by decide)]
      exact ⟨Int.emod_nonneg _ (by decide), Int.emod_lt_of_pos _ (by decide)⟩
    rw [h4]
    refine ⟨divOk_b (by decide) (by decide +kernel), ?_⟩
    obtain ⟨q5, h5, l5⟩ : ∃ q : Int, q4.fdiv 2003 = q ∧ 0 ≤ q ∧ q < 2147483647 := by
      refine ⟨_, rfl, ?_⟩
      rw [fdivP (by decide)]
      omega
    rw [h5]
    refine ⟨mulOk_r (by omega), by decide, divOk_b (by decide) (by decide +kernel), by omega, endD_of ?_⟩
    refine hQ _ _ (hmod _).1 (hmod _).2 ⟨x, y, z + 1, rfl, hx, hy, by omega⟩
abbrev sp_one : SpD := fun ds M Q => ∃ (a : Addr) (xs : List Dat), ds = [.ref a, .lst xs] ∧ Src M a ∧ 0 < xs.length ∧ xs.length < 1000 ∧ ∀ d M', d ∈ xs → SrcTo a M M' → Q d M'
theorem ok__law_one {C_Effect : Addr} (T : Txt K mg C_Kind C_Effect) (F__law_next : FnD P w K mg base 1 "_law_next" s__law_next ["_law_source", "_law_many"] (sp_next)) : FnD P w K mg base 2 "_law_one" s__law_one ["_law_source", "_law_some"] (sp_one) := by
  refine fn_mk T.h__law_one sc__law_one 2 rfl (by intro ds M Q h; first | (obtain ⟨rfl, _⟩ := h; rfl) | (obtain ⟨_, rfl, _⟩ := h; rfl) | (obtain ⟨_, _, rfl, _⟩ := h; rfl) | (obtain ⟨_, _, _, rfl, _⟩ := h; rfl) | (obtain ⟨_, _, _, _, rfl, _⟩ := h; rfl) | (obtain ⟨_, _, _, _, _, rfl, _⟩ := h; rfl) | (obtain ⟨_, _, _, _, _, _, rfl, _⟩ := h; rfl) | (obtain ⟨_, _, _, _, _, _, _, rfl, _⟩ := h; rfl) | (obtain ⟨_, _, _, _, _, _, _, _, rfl, _⟩ := h; rfl) | (obtain ⟨_, _, _, _, _, _, _, _, _, rfl, _⟩ := h; rfl) | (obtain ⟨_, _, _, _, _, _, _, _, _, _, rfl, _⟩ := h; rfl) | (obtain ⟨_, _, _, _, _, _, _, _, _, _, _, rfl, _⟩ := h; rfl) | (obtain ⟨_, _, _, _, _, _, _, _, _, _, _, _, rfl, _⟩ := h; rfl)) (fun f cdv A outer s H E hr => ⟨_, (dss_one (ds_ret (de_ix (dv 1) (de_call F__law_next hr (da_cons (dv 0) (da_cons (de_cb (cd_len) (by rfl) T.b_len PySem.boot_len (da_cons (dv 1) da_nil)) da_nil)))))), ?_⟩)
  rintro ds M Q ⟨a, xs, rfl, hM, h0, hl, hQ⟩
  and_intros
  refine ⟨_, rfl, a, xs.length, rfl, hM, by omega, Int.lt_trans (show (xs.length : Int) < 1000 by omega) (by decide +kernel), fun r M' h1 h2 hs => ?_⟩
  and_intros
  obtain ⟨d, hd, hm⟩ := atI_ex (xs := xs) h1 h2
  exact ⟨xs, d, rfl, hd, endD_of (hQ _ _ hm hs)⟩
theorem cell_ints {c : Int} {ms : List Int} : ∀ d ∈ [Dat.int c] ++ ms.map Dat.int, ∃ n, d = .int n := by
  intro d hd
  rcases List.mem_append.mp hd with h | h
  · simp only [List.mem_singleton] at h
    exact ⟨_, h⟩
  · obtain ⟨n, _, e⟩ := List.mem_map.mp h
    exact ⟨n, e.symm⟩
abbrev sp_cell : SpD := fun ds M Q => ∃ (ns : List Int) (i : Nat), ds = [.frl (ns.map Dat.int), .int (i : Nat)] ∧ ns.length ≤ 63 ∧ ∀ n : Int, Q (.int n) M
theorem ok__law_cell_at {C_Effect : Addr} (T : Txt K mg C_Kind C_Effect) : FnD P w K mg base 1 "_law_cell_at" s__law_cell_at ["_law_script", "_law_at"] (sp_cell) := by
  refine fn_mk T.h__law_cell_at sc__law_cell_at 2 rfl (by intro ds M Q h; first | (obtain ⟨rfl, _⟩ := h; rfl) | (obtain ⟨_, rfl, _⟩ := h; rfl) | (obtain ⟨_, _, rfl, _⟩ := h; rfl) | (obtain ⟨_, _, _, rfl, _⟩ := h; rfl) | (obtain ⟨_, _, _, _, rfl, _⟩ := h; rfl) | (obtain ⟨_, _, _, _, _, rfl, _⟩ := h; rfl) | (obtain ⟨_, _, _, _, _, _, rfl, _⟩ := h; rfl) | (obtain ⟨_, _, _, _, _, _, _, rfl, _⟩ := h; rfl) | (obtain ⟨_, _, _, _, _, _, _, _, rfl, _⟩ := h; rfl) | (obtain ⟨_, _, _, _, _, _, _, _, _, rfl, _⟩ := h; rfl) | (obtain ⟨_, _, _, _, _, _, _, _, _, _, rfl, _⟩ := h; rfl) | (obtain ⟨_, _, _, _, _, _, _, _, _, _, _, rfl, _⟩ := h; rfl) | (obtain ⟨_, _, _, _, _, _, _, _, _, _, _, _, rfl, _⟩ := h; rfl)) (fun f cdv A outer s H E hr => ⟨_, (dss_cons (ds_if (dt_cmp od_lt (dv 1) (de_cb (cd_len) (by rfl) T.b_len PySem.boot_len (da_cons (dv 0) da_nil)))
    (dss_one (ds_ret (de_ix (dv 0) (dv 1))))
    dss_nil)
    (dss_one (ds_ret de_int))), ?_⟩)
  rintro ds M Q ⟨ns, i, rfl, hl, hQ⟩
  and_intros
  refine ⟨_, rfl, ?_⟩
  by_cases h : i < ns.length
  · refine if_yes (by rw [List.length_map]; exact decide_eq_true (Int.ofNat_lt.mpr h)) ⟨_, .int ns[i], rfl, atI_nat (j := i) ?_, endD_of (hQ _)⟩
    rw [List.getElem?_map, List.getElem?_eq_getElem h]
    rfl
  · refine if_no (by rw [List.length_map]; exact decide_eq_false (by omega)) ?_
    exact endD_of (hQ _)
/-! ### drawn rows of kinds, as pairs -/
abbrev shD (k : Nat × Bool) : Dat := .tup [.int (k.1 : Nat), .bl k.2]
abbrev sp_put : SpD := fun ds M Q => ∃ (k : Nat × Bool) (n : Int), ds = [shD k, .int n] ∧ Wd k.1 ∧ Q (.int (placedZ k.1 k.2 n)) M
theorem ok__law_put {C_Effect : Addr} (T : Txt K mg C_Kind C_Effect) : FnD P w K mg base 1 "_law_put" s__law_put ["_law_shape_here", "_law_n"] (sp_put) := by
  refine fn_mk T.h__law_put sc__law_put 3 rfl (by intro ds M Q h; first | (obtain ⟨rfl, _⟩ := h; rfl) | (obtain ⟨_, rfl, _⟩ := h; rfl) | (obtain ⟨_, _, rfl, _⟩ := h; rfl) | (obtain ⟨_, _, _, rfl, _⟩ := h; rfl) | (obtain ⟨_, _, _, _, rfl, _⟩ := h; rfl) | (obtain ⟨_, _, _, _, _, rfl, _⟩ := h; rfl) | (obtain ⟨_, _, _, _, _, _, rfl, _⟩ := h; rfl) | (obtain ⟨_, _, _, _, _, _, _, rfl, _⟩ := h; rfl) | (obtain ⟨_, _, _, _, _, _, _, _, rfl, _⟩ := h; rfl) | (obtain ⟨_, _, _, _, _, _, _, _, _, rfl, _⟩ := h; rfl) | (obtain ⟨_, _, _, _, _, _, _, _, _, _, rfl, _⟩ := h; rfl) | (obtain ⟨_, _, _, _, _, _, _, _, _, _, _, rfl, _⟩ := h; rfl) | (obtain ⟨_, _, _, _, _, _, _, _, _, _, _, _, rfl, _⟩ := h; rfl)) (fun f cdv A outer s H E hr => ⟨_, (dss_stop (ds_set (i := 2) sc__law_put.nd (de_cut (de_if (dt_val (de_ix (dv 0) de_int)) (de_op od_sub de_int (de_op od_shl de_int (de_op od_sub (de_ix (dv 0) de_int) de_int))) de_int)))
    (dss_one (ds_ret (de_op (od_add false) (dv 2) (de_op od_mod (de_ct cd_int (by rfl) T.b_int (by decide +kernel) (da_cons (de_op od_sub (dv 1) (dv 2)) da_nil)) (de_op od_shl de_int (de_ix (dv 0) de_int))))))), ?_⟩)
  rintro ds M Q ⟨k, n, rfl, hk, hQ⟩
  obtain ⟨k1, k2⟩ := hk
  (refine stop_to ?_; and_intros)
  refine cutE_is (.int (lowZ k.1 k.2)) ?_ ?_
  · and_intros
    refine ⟨_, _, rfl, atI_nat (j := 1) rfl, ?_⟩
    and_intros
    cases hs : k.2 with
    | true =>
      refine if_yes rfl ⟨_, _, rfl, atI_nat (j := 0) rfl, ?_⟩
      and_intros
      refine ⟨shl1 (by omega) (by omega), ?_⟩
      rw [show ((k.1 : Int) - 1).toNat = k.1 - 1 by omega, show lowZ k.1 true = -(2 ^ (k.1 - 1)) from rfl, Int.one_mul, Int.zero_sub]
      (first | exact ⟨rfl, rfl⟩ | exact ⟨rfl, True.intro⟩ | exact ⟨True.intro, rfl⟩ | exact ⟨True.intro, True.intro⟩)
    | false =>
      refine if_no rfl ?_
      (first | exact ⟨rfl, rfl⟩ | exact ⟨rfl, True.intro⟩ | exact ⟨True.intro, rfl⟩ | exact ⟨True.intro, True.intro⟩)
  and_intros
  refine ⟨_, _, rfl, atI_nat (j := 0) rfl, ?_⟩
  and_intros
  refine ⟨shl1 (by omega) (by omega), ?_⟩
  rw [Int.toNat_natCast, Int.one_mul]
  have h := two_pos k.1
  rw [fmodP h]
  exact ⟨by omega, endD_of hQ⟩
abbrev sp_lcast : SpD := fun ds M Q => ∃ (ks : List (Nat × Bool)) (n : Int), ds = [.lst (ks.map shD), .int n] ∧ (∀ k ∈ ks, Wd k.1) ∧ Q (.int (castZ ks n)) M
theorem castZ_snoc (ks : List (Nat × Bool)) (q : Nat × Bool) (n : Int) : castZ (ks ++ [q]) n = placedZ q.1 q.2 (castZ ks n) := by
  induction ks generalizing n with
  | nil => rfl
  | cons p ks ih => exact ih _
theorem ok__law_cast {C_Effect : Addr} (T : Txt K mg C_Kind C_Effect) (F__law_put : FnD P w K mg base 1 "_law_put" s__law_put ["_law_shape_here", "_law_n"] (sp_put)) : FnD P w K mg base 2 "_law_cast" s__law_cast ["_law_rows_here", "_law_n"] (sp_lcast) := by
  refine fn_mk T.h__law_cast sc__law_cast 3 rfl (by intro ds M Q h; first | (obtain ⟨rfl, _⟩ := h; rfl) | (obtain ⟨_, rfl, _⟩ := h; rfl) | (obtain ⟨_, _, rfl, _⟩ := h; rfl) | (obtain ⟨_, _, _, rfl, _⟩ := h; rfl) | (obtain ⟨_, _, _, _, rfl, _⟩ := h; rfl) | (obtain ⟨_, _, _, _, _, rfl, _⟩ := h; rfl) | (obtain ⟨_, _, _, _, _, _, rfl, _⟩ := h; rfl) | (obtain ⟨_, _, _, _, _, _, _, rfl, _⟩ := h; rfl) | (obtain ⟨_, _, _, _, _, _, _, _, rfl, _⟩ := h; rfl) | (obtain ⟨_, _, _, _, _, _, _, _, _, rfl, _⟩ := h; rfl) | (obtain ⟨_, _, _, _, _, _, _, _, _, _, rfl, _⟩ := h; rfl) | (obtain ⟨_, _, _, _, _, _, _, _, _, _, _, rfl, _⟩ := h; rfl) | (obtain ⟨_, _, _, _, _, _, _, _, _, _, _, _, rfl, _⟩ := h; rfl)) (fun f cdv A outer s H E hr => ⟨_, (dss_stop (ds_for (di_lst (dv 0)) (dg_name (i := 2) sc__law_cast.nd)
    (dss_one (ds_set (i := 1) sc__law_cast.nd (de_call F__law_put hr (da_cons (dv 2) (da_cons (dv 1) da_nil))))))
    (dss_one (ds_ret (dv 1)))), ?_⟩)
  rintro ds M Q ⟨ks, n, rfl, hk, hQ⟩
  (refine stop_to ?_; and_intros)
  refine ⟨_, rfl, ?_⟩
  refine loop_by (fun r ρ M2 => M2 = M ∧ ∃ a b x, ks = a ++ b ∧ r = b.map shD ∧ ρ = [some (.lst (ks.map shD)), some (.int (castZ a n)), x]) ?_ ?_ _ _ _ ⟨rfl, [], ks, _, rfl, rfl, rfl⟩
  · rintro ρ M2 ⟨hM, a, b, x, e1, e2, rfl⟩
    subst hM
    cases b with
    | cons _ _ => cases e2
    | nil =>
      rw [List.append_nil] at e1
      subst e1
      and_intros
      exact endD_of hQ
  · rintro d r ρ M2 kk ⟨hM, a, b, x, e1, e2, rfl⟩ hk'
    subst hM
    cases b with
    | nil => cases e2
    | cons q b =>
      injection e2 with e2 e3
      subst e2 e3
      and_intros
      refine ⟨q, _, rfl, hk q (by rw [e1]; simp), ?_⟩
      refine hk' _ _ ⟨rfl, a ++ [q], b, some (shD q), by rw [e1]; simp, rfl, ?_⟩
      rw [castZ_snoc]
abbrev sp_kmade (C : Addr) : SpD := fun ds M Q => ∃ ks : List (Nat × Bool), ds = [.lst (ks.map shD)] ∧ (∀ k ∈ ks, Wd k.1) ∧ ks.length ≤ 100 ∧ ∀ x, M x = none → Q (.ref x) (updM M x (.lst (kindsD C ks)))
theorem kindsD_app (C : Addr) (xs ys : List (Nat × Bool)) : kindsD C (xs ++ ys) = kindsD C xs ++ kindsD C ys := List.map_append
theorem ok__law_made {C_Effect : Addr} (T : Txt K mg C_Kind C_Effect) (F_Kind_init : ClD P w K mg base 3 "Kind" C_Kind s_Kind_init ["self", "bits", "is_signed"] (sp_init C_Kind)) : FnD P w K mg base 5 "_law_made" s__law_made ["_law_rows_here"] (sp_kmade C_Kind) := by
  refine fn_mk T.h__law_made sc__law_made 2 rfl (by intro ds M Q h; first | (obtain ⟨rfl, _⟩ := h; rfl) | (obtain ⟨_, rfl, _⟩ := h; rfl) | (obtain ⟨_, _, rfl, _⟩ := h; rfl) | (obtain ⟨_, _, _, rfl, _⟩ := h; rfl) | (obtain ⟨_, _, _, _, rfl, _⟩ := h; rfl) | (obtain ⟨_, _, _, _, _, rfl, _⟩ := h; rfl) | (obtain ⟨_, _, _, _, _, _, rfl, _⟩ := h; rfl) | (obtain ⟨_, _, _, _, _, _, _, rfl, _⟩ := h; rfl) | (obtain ⟨_, _, _, _, _, _, _, _, rfl, _⟩ := h; rfl) | (obtain ⟨_, _, _, _, _, _, _, _, _, rfl, _⟩ := h; rfl) | (obtain ⟨_, _, _, _, _, _, _, _, _, _, rfl, _⟩ := h; rfl) | (obtain ⟨_, _, _, _, _, _, _, _, _, _, _, rfl, _⟩ := h; rfl) | (obtain ⟨_, _, _, _, _, _, _, _, _, _, _, _, rfl, _⟩ := h; rfl)) (fun f cdv A outer s H E hr => ⟨_, (dss_one (ds_ret (de_lc true sc__law_made.nd (di_lst (dv 0)) (blkOk_by (own := [("_law_shape_here", 1)]) (N := ["_law_rows_here", "_law_shape_here"]) (sc := defScope s__law_made) (by decide +kernel)) (fun _ _ _ _ _ => (dgo_name (i := 1) (by decide) sc__law_made.nd rfl)) (fun _ _ _ _ _ => dts_nil) (fun _ _ _ _ _ => (de_make false F_Kind_init hr (da_cons (de_ix (dv 1) de_int) (da_cons (de_ix (dv 1) de_int) da_nil))))))), ?_⟩)
  rintro ds M Q ⟨ks, rfl, hk, hl, hQ⟩
  and_intros
  refine ⟨_, rfl, by rw [sizeLine_eq, List.length_map]; omega, ?_⟩
  refine lc_by (fun r acc M' => M' = M ∧ ∃ pre : List (Nat × Bool), acc = kindsD C_Kind pre ∧ ∃ post, ks = pre ++ post ∧ r = post.map shD) ?_ ?_ _ _ _ ⟨rfl, [], rfl, ks, rfl, rfl⟩
  · rintro acc M' ⟨rfl, pre, rfl, post, rfl, hr⟩
    obtain rfl : post = [] := List.map_eq_nil_iff.mp hr.symm
    rw [List.append_nil] at hQ
    exact fun x hx => endD_of (hQ x hx)
  rintro d r acc M' k ⟨rfl, pre, rfl, post, rfl, hr⟩ hkk
  match post, hr with
  | q :: post, hr =>
    injection hr with h1 h2
    subst h1 h2
    and_intros
    refine ⟨_, _, rfl, rfl, _, _, rfl, rfl, fun a ha => ⟨a, q.1, q.2, rfl, hk q (by simp), updM_same, rfl, _, by rw [updM_updM]; exact updM_same, ?_⟩⟩
    rw [updM_updM, delM_updM ha]
    exact hkk _ _ ⟨rfl, pre ++ [q], (kindsD_app C_Kind pre [q]).symm, post, by rw [List.append_assoc]; rfl, rfl⟩
abbrev sp_lparts (C : Addr) : SpD := fun ds M Q => ∃ ks : List (Nat × Bool), ds = [.lst (kindsD C ks)] ∧ ks.length ≤ 100 ∧ Q (.lst (ks.map shD)) M
theorem ok__law_parts {C_Effect : Addr} (T : Txt K mg C_Kind C_Effect) (F_Kind_parts : MtdD P w K mg base 1 C_Kind "parts" s_Kind_parts ["self"] (sp_parts C_Kind)) : FnD P w K mg base 2 "_law_parts" s__law_parts ["_law_row"] (sp_lparts C_Kind) := by
  refine fn_mk T.h__law_parts sc__law_parts 2 rfl (by intro ds M Q h; first | (obtain ⟨rfl, _⟩ := h; rfl) | (obtain ⟨_, rfl, _⟩ := h; rfl) | (obtain ⟨_, _, rfl, _⟩ := h; rfl) | (obtain ⟨_, _, _, rfl, _⟩ := h; rfl) | (obtain ⟨_, _, _, _, rfl, _⟩ := h; rfl) | (obtain ⟨_, _, _, _, _, rfl, _⟩ := h; rfl) | (obtain ⟨_, _, _, _, _, _, rfl, _⟩ := h; rfl) | (obtain ⟨_, _, _, _, _, _, _, rfl, _⟩ := h; rfl) | (obtain ⟨_, _, _, _, _, _, _, _, rfl, _⟩ := h; rfl) | (obtain ⟨_, _, _, _, _, _, _, _, _, rfl, _⟩ := h; rfl) | (obtain ⟨_, _, _, _, _, _, _, _, _, _, rfl, _⟩ := h; rfl) | (obtain ⟨_, _, _, _, _, _, _, _, _, _, _, rfl, _⟩ := h; rfl) | (obtain ⟨_, _, _, _, _, _, _, _, _, _, _, _, rfl, _⟩ := h; rfl)) (fun f cdv A outer s H E hr => ⟨_, (dss_one (ds_ret (de_lc false sc__law_parts.nd (di_lst (dv 0)) (blkOk_by (own := [("_law_one_here", 1)]) (N := ["_law_row", "_law_one_here"]) (sc := defScope s__law_parts) (by decide +kernel)) (fun _ _ _ _ _ => (dgo_name (i := 1) (by decide) sc__law_parts.nd rfl)) (fun _ _ _ _ _ => dts_nil) (fun _ _ _ _ _ => (de_meth0 F_Kind_parts T.cl_Kind hr (dv 1)))))), ?_⟩)
  rintro ds M Q ⟨ks, rfl, hl, hQ⟩
  and_intros
  refine ⟨_, rfl, lit_len (by rw [List.length_map]; omega), ?_⟩
  refine lc_by (fun r acc M2 => M2 = M ∧ ∃ a b, ks = a ++ b ∧ r = kindsD C_Kind b ∧ acc = a.map shD) ?_ ?_ _ _ _ ⟨rfl, [], ks, rfl, rfl, rfl⟩
  · rintro acc M2 ⟨hM, a, b, e1, e2, rfl⟩
    subst hM
    cases b with
    | cons _ _ => cases e2
    | nil =>
      rw [List.append_nil] at e1
      subst e1
      and_intros
      exact endD_of hQ
  · rintro d r acc M2 kk ⟨hM, a, b, e1, e2, rfl⟩ hk'
    subst hM
    cases b with
    | nil => cases e2
    | cons q b =>
      injection e2 with e2 e3
      subst e2 e3
      and_intros
      exact ⟨⟨_, rfl, by rfl⟩, q.1, q.2, rfl, hk' _ _ ⟨rfl, a ++ [q], b, by rw [e1]; simp, rfl, by simp⟩⟩
abbrev sp_range : SpD := fun ds M Q => ∃ k : Nat × Bool, ds = [shD k] ∧ Wd k.1 ∧ Q (.tup [.int (lowZ k.1 k.2), .int (lowZ k.1 k.2 + 2 ^ k.1 - 1)]) M
abbrev sp_shape : SpD := fun ds M Q => ∃ (a : Addr) (m : Nat), ds = [.ref a, .int (m : Nat)] ∧ Src M a ∧ 1 ≤ m ∧ m ≤ 128 ∧ ∀ (k : Nat × Bool) M', 1 ≤ k.1 → k.1 ≤ m → SrcTo a M M' → Q (shD k) M'
theorem ok__law_shape {C_Effect : Addr} (T : Txt K mg C_Kind C_Effect) (F__law_next : FnD P w K mg base 1 "_law_next" s__law_next ["_law_source", "_law_many"] (sp_next)) : FnD P w K mg base 2 "_law_shape" s__law_shape ["_law_source", "_law_most"] (sp_shape) := by
  refine fn_mk T.h__law_shape sc__law_shape 2 rfl (by intro ds M Q h; first | (obtain ⟨rfl, _⟩ := h; rfl) | (obtain ⟨_, rfl, _⟩ := h; rfl) | (obtain ⟨_, _, rfl, _⟩ := h; rfl) | (obtain ⟨_, _, _, rfl, _⟩ := h; rfl) | (obtain ⟨_, _, _, _, rfl, _⟩ := h; rfl) | (obtain ⟨_, _, _, _, _, rfl, _⟩ := h; rfl) | (obtain ⟨_, _, _, _, _, _, rfl, _⟩ := h; rfl) | (obtain ⟨_, _, _, _, _, _, _, rfl, _⟩ := h; rfl) | (obtain ⟨_, _, _, _, _, _, _, _, rfl, _⟩ := h; rfl) | (obtain ⟨_, _, _, _, _, _, _, _, _, rfl, _⟩ := h; rfl) | (obtain ⟨_, _, _, _, _, _, _, _, _, _, rfl, _⟩ := h; rfl) | (obtain ⟨_, _, _, _, _, _, _, _, _, _, _, rfl, _⟩ := h; rfl) | (obtain ⟨_, _, _, _, _, _, _, _, _, _, _, _, rfl, _⟩ := h; rfl)) (fun f cdv A outer s H E hr => ⟨_, (dss_one (ds_ret (de_tup (da_cons (de_op (od_add false) de_int (de_call F__law_next hr (da_cons (dv 0) (da_cons (dv 1) da_nil)))) (da_cons (de_cmp (od_eq hr.units) (de_call F__law_next hr (da_cons (dv 0) (da_cons de_int da_nil))) de_int) da_nil))))), ?_⟩)
  rintro ds M Q ⟨a, m, rfl, hM, h1, h2, hQ⟩
  and_intros
  refine ⟨a, m, rfl, hM, by omega, Int.lt_of_lt_of_le (show (m : Int) < 2 ^ 8 by omega) (by decide +kernel), fun r M1 r0 r1 s1 => ?_⟩
  obtain ⟨rn, rfl⟩ := Int.eq_ofNat_of_zero_le r0
  and_intros
  refine ⟨a, 2, rfl, s1.src, by decide, by decide +kernel, fun r2 M2 _ _ s2 => ?_⟩
  and_intros
  refine ⟨lit_len (n := 2) (by decide), endD_of ?_⟩
  rw [show (1 : Int) + (rn : Int) = ((1 + rn : Nat) : Int) by omega]
  exact hQ (1 + rn, decide (r2 = 1)) M2 (by show 1 ≤ 1 + rn; omega) (by show 1 + rn ≤ m; omega) (s1.trans s2)
theorem delM_up {a : Addr} {M : MH} {X : MO} : delM (updM M a X) a = delM M a := by
  funext b
  by_cases e : b = a
  · subst e
    rw [delM_same, delM_same]
  · rw [delM_ne e, delM_ne e, updM_ne e]
theorem srcTo_delM {a f : Addr} {M M' : MH} (h : SrcTo a M M') (n : f ≠ a) : SrcTo a (delM M f) (delM M' f) := by
  obtain ⟨x, y, z, rfl, ok⟩ := h
  refine ⟨x, y, z, ?_, ok⟩
  funext b
  by_cases e : b = f
  · subst e
    rw [delM_same, updM_ne n, delM_same]
  · by_cases e2 : b = a
    · subst e2
      rw [delM_ne e, updM_same, updM_same]
    · rw [delM_ne e, updM_ne e2, updM_ne e2, delM_ne e]
theorem src_delM {a f : Addr} {M : MH} (h : Src (delM M f) a) (n : f ≠ a) : Src M a := by
  obtain ⟨x, y, z, e, ok⟩ := h
  rw [delM_ne (Ne.symm n)] at e
  exact ⟨x, y, z, e, ok⟩
theorem src_ne {a f : Addr} {M : MH} (h : Src M a) (n : M f = none) : f ≠ a := by
  obtain ⟨x, y, z, e, _⟩ := h
  exact fun q => by
    subst q
    rw [n] at e
    cases e
abbrev sp_rows : SpD := fun ds M Q => ∃ (a : Addr) (m : Nat), ds = [.ref a, .int (m : Nat)] ∧ Src M a ∧ 1 ≤ m ∧ m ≤ 125 ∧ ∀ (ks : List (Nat × Bool)) M', (∀ k ∈ ks, Wd k.1) → 1 ≤ ks.length → ks.length ≤ 18 → (∃ k ∈ ks, k.1 ≤ m) → SrcTo a M M' → Q (.lst (ks.map shD)) M'
theorem ok__law_rows {C_Effect : Addr} (T : Txt K mg C_Kind C_Effect) (F__law_next : FnD P w K mg base 1 "_law_next" s__law_next ["_law_source", "_law_many"] (sp_next)) (F__law_shape : FnD P w K mg base 2 "_law_shape" s__law_shape ["_law_source", "_law_most"] (sp_shape)) (F__law_one : FnD P w K mg base 2 "_law_one" s__law_one ["_law_source", "_law_some"] (sp_one)) : FnD P w K mg base 3 "_law_rows" s__law_rows ["_law_source", "_law_most"] (sp_rows) := by
  refine fn_mk T.h__law_rows sc__law_rows 4 rfl (by intro ds M Q h; first | (obtain ⟨rfl, _⟩ := h; rfl) | (obtain ⟨_, rfl, _⟩ := h; rfl) | (obtain ⟨_, _, rfl, _⟩ := h; rfl) | (obtain ⟨_, _, _, rfl, _⟩ := h; rfl) | (obtain ⟨_, _, _, _, rfl, _⟩ := h; rfl) | (obtain ⟨_, _, _, _, _, rfl, _⟩ := h; rfl) | (obtain ⟨_, _, _, _, _, _, rfl, _⟩ := h; rfl) | (obtain ⟨_, _, _, _, _, _, _, rfl, _⟩ := h; rfl) | (obtain ⟨_, _, _, _, _, _, _, _, rfl, _⟩ := h; rfl) | (obtain ⟨_, _, _, _, _, _, _, _, _, rfl, _⟩ := h; rfl) | (obtain ⟨_, _, _, _, _, _, _, _, _, _, rfl, _⟩ := h; rfl) | (obtain ⟨_, _, _, _, _, _, _, _, _, _, _, rfl, _⟩ := h; rfl) | (obtain ⟨_, _, _, _, _, _, _, _, _, _, _, _, rfl, _⟩ := h; rfl)) (fun f cdv A outer s H E hr => ⟨_, (dss_stop (ds_set (i := 2) sc__law_rows.nd (de_lst true da_nil))
    (dss_stop (ds_for (di_rng1 T.b_range (da_cons (de_op (od_add false) de_int (de_call F__law_next hr (da_cons (dv 0) (da_cons (de_call F__law_one hr (da_cons (dv 0) (da_cons (de_lst false (da_cons de_int (da_cons de_int (da_cons de_int da_nil)))) da_nil))) da_nil)))) da_nil)) (dg_name (i := 3) sc__law_rows.nd)
    (dss_one (ds_expr (de_mt PySem.F.slot_list_append PySem.F.type_list_append md_append (dv 2) (da_cons (de_call F__law_shape hr (da_cons (dv 0) (da_cons (de_call F__law_one hr (da_cons (dv 0) (da_cons (de_lst false (da_cons (dv 1) (da_cons (dv 1) (da_cons (de_op (od_add false) (dv 1) de_int) (da_cons de_int da_nil))))) da_nil))) da_nil))) da_nil)))))
    (dss_stop (ds_expr (de_mt PySem.F.slot_list_insert PySem.F.type_list_insert md_insert (dv 2) (da_cons (de_call F__law_next hr (da_cons (dv 0) (da_cons (de_op (od_add false) (de_cb (cd_len) (by rfl) T.b_len PySem.boot_len (da_cons (dv 2) da_nil)) de_int) da_nil))) (da_cons (de_call F__law_shape hr (da_cons (dv 0) (da_cons (dv 1) da_nil))) da_nil))))
    (dss_frz 2 (dss_one (ds_ret (dv 2))))))), ?_⟩)
  rintro ds M Q ⟨a, m, rfl, hM, h1, h2, hQ⟩
  (refine stop_to ?_; and_intros)
  refine ⟨Nat.zero_le _, fun f hf => ?_⟩
  (refine stop_to ?_; and_intros)
  have hfa := src_ne hM hf
  have hM1 : SrcTo a M (delM (updM M f (.lst [])) f) := by
    rw [delM_updM hf]
    exact hM.refl
  have hMf : (updM M f (.lst [])) f = some (.lst (([] : List (Nat × Bool)).map shD)) := updM_same
  generalize updM M f (.lst []) = M0 at hM1 hMf ⊢
  refine ⟨lit_len (n := 3) (by decide), a, _, rfl, src_delM hM1.src hfa, by decide, by decide, fun d M1 hd s1 => ?_⟩
  obtain ⟨n, hn, rfl⟩ : ∃ n : Nat, (1 ≤ n ∧ n ≤ 17) ∧ d = .int (n : Nat) := by
    simp only [List.mem_cons, List.not_mem_nil, or_false] at hd
    rcases hd with rfl | rfl | rfl
    · exact ⟨6, by decide, rfl⟩
    · exact ⟨6, by decide, rfl⟩
    · exact ⟨17, by decide, rfl⟩
  refine ⟨a, n, rfl, s1.src, by omega, Int.lt_of_lt_of_le (show (n : Int) < 2 ^ 8 by omega) (by decide +kernel), fun r M2 r0 r1 s2 => ?_⟩
  obtain ⟨rn, rfl⟩ := Int.eq_ofNat_of_zero_le r0
  have s12 := s1.trans s2
  have hM2 := hM1.trans (srcTo_delM s12 hfa)
  have hMf2 : M2 f = some (.lst (([] : List (Nat × Bool)).map shD)) := by rw [s12.at hfa]; exact hMf
  and_intros
  refine ⟨by omega, by omega, ?_⟩
  rw [show ((1 : Int) + (rn : Int)).toNat = 1 + rn by omega]
  refine loop_n (fun i ρ M' => ∃ (l : List (Nat × Bool)) (x : Option Dat), l.length = i ∧ (∀ k ∈ l, Wd k.1) ∧ M' f = some (.lst (l.map shD)) ∧ SrcTo a M (delM M' f) ∧ ρ = [some (.ref a), some (.int (m : Nat)), some (.ref f), x]) ⟨[], none, rfl, by simp, hMf2, hM2, rfl⟩ ?_ ?_
  · rintro ρ M3 ⟨l, x, hl, hw, hf3, hs3, rfl⟩
    (refine stop_to ?_; and_intros)
    refine ⟨⟨_, by rw [hf3]⟩, l.map shD, by rw [hf3], a, _, rfl, src_delM hs3.src hfa, by omega, ?_, fun p M4 p0 p1 s4 => ?_⟩
    · rw [List.length_map]
      exact Int.lt_of_lt_of_le (show (l.length : Int) + 1 < 2 ^ 8 by omega) (by decide +kernel)
    rw [List.length_map] at p1
    refine ⟨a, m, rfl, s4.src, h1, by omega, fun k M5 k0 k1 s5 => ?_⟩
    have s45 := s4.trans s5
    have hf5 : M5 f = some (.lst (l.map shD)) := by rw [s45.at hfa]; exact hf3
    obtain ⟨pn, rfl⟩ := Int.eq_ofNat_of_zero_le p0
    refine ⟨_, hf5, by rw [List.length_map, sizeLine_eq]; omega, by omega, Int.lt_of_lt_of_le (show (pn : Int) < 2 ^ 8 by omega) (by decide +kernel), _, rfl, endD_of ?_⟩
    rw [delM_up, Int.toNat_natCast]
    have e : List.take pn (l.map shD) ++ [shD k] ++ List.drop pn (l.map shD) = (l.take pn ++ [k] ++ l.drop pn).map shD := by simp
    rw [e]
    refine hQ _ _ ?_ ?_ ?_ ⟨k, by simp, by omega⟩ (hs3.trans (srcTo_delM s45 hfa))
    · intro z hz
      simp only [List.mem_append, List.mem_singleton] at hz
      rcases hz with (hz | hz) | hz
      · exact hw z (List.mem_of_mem_take hz)
      · subst hz
        exact ⟨k0, by omega⟩
      · exact hw z (List.mem_of_mem_drop hz)
    · simp only [List.length_append, List.length_cons, List.length_nil, List.length_take, List.length_drop]
      omega
    · simp only [List.length_append, List.length_cons, List.length_nil, List.length_take, List.length_drop]
      omega
  · rintro i ρ M3 kk hi ⟨l, x, hl, hw, hf3, hs3, rfl⟩ hk
    and_intros
    refine ⟨⟨_, by rw [hf3]⟩, lit_len (n := 4) (by decide), a, _, rfl, src_delM hs3.src hfa, by show 0 < 4; decide, by show 4 < 1000; decide, fun d M4 hd s4 => ?_⟩
    obtain ⟨q, hq, rfl⟩ : ∃ q : Nat, (1 ≤ q ∧ q ≤ 128) ∧ d = .int (q : Nat) := by
      simp only [List.mem_cons, List.not_mem_nil, or_false] at hd
      rcases hd with rfl | rfl | rfl | rfl
      · exact ⟨m, by omega, rfl⟩
      · exact ⟨m, by omega, rfl⟩
      · exact ⟨m + 3, by omega, by rw [show ((m + 3 : Nat) : Int) = (m : Int) + 3 by omega]⟩
      · exact ⟨128, by decide, rfl⟩
    refine ⟨a, q, rfl, s4.src, hq.1, hq.2, fun k M5 k0 k1 s5 => ?_⟩
    have s45 := s4.trans s5
    have hf5 : M5 f = some (.lst (l.map shD)) := by rw [s45.at hfa]; exact hf3
    refine ⟨_, hf5, by rw [List.length_map, sizeLine_eq]; omega, hk _ _ ⟨l ++ [k], some (.int (0 + (i : Nat))), by simp [hl], ?_, ?_, ?_, rfl⟩⟩
    · intro z hz
      rcases List.mem_append.mp hz with hz | hz
      · exact hw z hz
      · rw [List.mem_singleton] at hz
        subst hz
        exact ⟨k0, by omega⟩
    · rw [updM_same, List.map_append]
      rfl
    · rw [delM_up]
      exact hs3.trans (srcTo_delM s45 hfa)
/-! ### what a row of casts does -/
theorem loop_cons {g : TGD} {tb : TSD} {d : Dat} {r : List Dat} {D : EndsD} {ρ : EnvD} {M : MH} (h : g d ρ M fun ρ' M' => tb { D with nx := fun ρ M => dLoop g tb r D ρ M, ct := fun ρ M => dLoop g tb r D ρ M, bk := D.nx } ρ' M') : dLoop g tb (d :: r) D ρ M := h
theorem loop_nil {g : TGD} {tb : TSD} {D : EndsD} {ρ : EnvD} {M : MH} (h : D.nx ρ M) : dLoop g tb [] D ρ M := h
theorem chain_le {x y z : Int} : (if decide (x ≤ y) = true then (decide (y ≤ z) = decide (x ≤ y ∧ y ≤ z) ∧ True) else (false = decide (x ≤ y ∧ y ≤ z) ∧ True)) := by
  by_cases h : x ≤ y <;> simp [h]
structure Ef where
  b : Nat
  w : Nat
  s : Bool
def Ef.sh (e : Ef) : Int := if e.s = true then -(2 ^ e.b) else 2 ^ e.w - 2 ^ e.b
abbrev mkE (b w : Nat) (s : Bool) : Ef := ⟨b, if s = true then b else w, s⟩
structure EfOk (e : Ef) : Prop where
  lo : 1 ≤ e.b
  le : e.b ≤ e.w
  hi : e.w ≤ 128
  bl : e.s = true → e.w = e.b
abbrev effD (C : Addr) (e : Ef) : Dat := .ins C [("bits", .int (e.b : Nat)), ("width", .int (e.w : Nat)), ("is_below", .bl e.s), ("shift", .int e.sh)]
theorem effNe : ((Str.ofString "bits" = Str.ofString "width") = False) ∧ ((Str.ofString "bits" = Str.ofString "is_below") = False) ∧ ((Str.ofString "bits" = Str.ofString "shift") = False) ∧ ((Str.ofString "width" = Str.ofString "is_below") = False) ∧ ((Str.ofString "width" = Str.ofString "shift") = False) ∧ ((Str.ofString "is_below" = Str.ofString "shift") = False) := by
  refine ⟨eq_false (by decide), eq_false (by decide), eq_false (by decide), eq_false (by decide), eq_false (by decide), eq_false (by decide)⟩
abbrev sp_einit (C : Addr) : SpD := fun ds M Q => ∃ (a : Addr) (b w : Nat) (s : Bool), ds = [.ref a, .int (b : Nat), .int (w : Nat), .bl s] ∧ 1 ≤ b ∧ b ≤ w ∧ w ≤ 128 ∧ M a = some (.ins C []) ∧ Q .non (updM M a (.ins C [("bits", .int (b : Nat)), ("width", .int ((mkE b w s).w : Nat)), ("is_below", .bl s), ("shift", .int (mkE b w s).sh)]))
theorem ok_Effect_init {C_Effect : Addr} (T : Txt K mg C_Kind C_Effect) : ClD P w K mg base 1 "Effect" C_Effect s_Effect_init ["self", "bits", "width", "is_below"] (sp_einit C_Effect) := by
  refine cl_mk T.h_Effect_init sc_Effect_init 4 rfl (by intro ds M Q h; first | (obtain ⟨rfl, _⟩ := h; rfl) | (obtain ⟨_, rfl, _⟩ := h; rfl) | (obtain ⟨_, _, rfl, _⟩ := h; rfl) | (obtain ⟨_, _, _, rfl, _⟩ := h; rfl) | (obtain ⟨_, _, _, _, rfl, _⟩ := h; rfl) | (obtain ⟨_, _, _, _, _, rfl, _⟩ := h; rfl) | (obtain ⟨_, _, _, _, _, _, rfl, _⟩ := h; rfl) | (obtain ⟨_, _, _, _, _, _, _, rfl, _⟩ := h; rfl) | (obtain ⟨_, _, _, _, _, _, _, _, rfl, _⟩ := h; rfl) | (obtain ⟨_, _, _, _, _, _, _, _, _, rfl, _⟩ := h; rfl) | (obtain ⟨_, _, _, _, _, _, _, _, _, _, rfl, _⟩ := h; rfl) | (obtain ⟨_, _, _, _, _, _, _, _, _, _, _, rfl, _⟩ := h; rfl) | (obtain ⟨_, _, _, _, _, _, _, _, _, _, _, _, rfl, _⟩ := h; rfl)) (fun f cdv A outer s H E hr => ⟨_, (dss_stop (ds_setF (C := C_Effect) T.cl_Effect T.nf_Effect_bits (dv 0) (dv 1))
    (dss_stop (ds_setF (C := C_Effect) T.cl_Effect T.nf_Effect_width (dv 0) (de_cut (de_if (dt_val (dv 3)) (dv 1) (dv 2))))
    (dss_stop (ds_setF (C := C_Effect) T.cl_Effect T.nf_Effect_is_below (dv 0) (dv 3))
    (dss_one (ds_setF (C := C_Effect) T.cl_Effect T.nf_Effect_shift (dv 0) (de_cut (de_if (dt_val (dv 3)) (de_op od_sub de_int (de_op od_shl de_int (dv 1))) (de_op od_sub (de_op od_shl de_int (dv 2)) (de_op od_shl de_int (dv 1)))))))))), ?_⟩)
  rintro ds M Q ⟨a, b, w, s, rfl, h1, h2, h3, hM, hQ⟩
  (refine stop_to ?_; and_intros)
  refine ⟨_, hM, by decide, ?_⟩
  simp only [putD, effNe, if_false, reduceIte, updM_updM, List.length_cons, List.length_nil]
  (refine stop_to ?_; and_intros)
  refine cutE_is (.int ((mkE b w s).w : Nat)) ?_ ?_
  · cases s <;> (and_intros; (first | exact ⟨rfl, rfl⟩ | exact ⟨rfl, True.intro⟩ | exact ⟨True.intro, rfl⟩ | exact ⟨True.intro, True.intro⟩))
  and_intros
  refine ⟨_, rfl, (by decide : 1 < 1000), ?_⟩
  simp only [putD, effNe, if_false, reduceIte, updM_updM, List.length_cons, List.length_nil]
  (refine stop_to ?_; and_intros)
  refine ⟨_, rfl, (by decide : 2 < 1000), ?_⟩
  simp only [putD, effNe, if_false, reduceIte, updM_updM, List.length_cons, List.length_nil]
  and_intros
  refine cutE_is (.int (mkE b w s).sh) ?_ ?_
  · cases s
    · and_intros
      refine ⟨shl1 (by omega) (by omega), shl1 (by omega) (by omega), ?_⟩
      rw [show Ef.sh (mkE b w false) = 2 ^ w - 2 ^ b by rfl]
      simp only [Int.toNat_natCast, Int.one_mul]
      (first | exact ⟨rfl, rfl⟩ | exact ⟨rfl, True.intro⟩ | exact ⟨True.intro, rfl⟩ | exact ⟨True.intro, True.intro⟩)
    · and_intros
      refine ⟨shl1 (by omega) (by omega), ?_⟩
      rw [show Ef.sh (mkE b w true) = -(2 ^ b) by rfl]
      simp only [Int.toNat_natCast, Int.one_mul, Int.zero_sub]
      (first | exact ⟨rfl, rfl⟩ | exact ⟨rfl, True.intro⟩ | exact ⟨True.intro, rfl⟩ | exact ⟨True.intro, True.intro⟩)
  and_intros
  refine ⟨_, rfl, (by decide : 3 < 1000), endD_of ?_⟩
  simp only [putD, effNe, if_false, reduceIte, updM_updM, List.length_cons, List.length_nil]
  exact hQ
abbrev sp_eparts (C : Addr) : SpD := fun ds M Q => ∃ e : Ef, ds = [effD C e] ∧ Q (.tup [.int (e.b : Nat), .int e.sh]) M
theorem ok_Effect_parts {C_Effect : Addr} (T : Txt K mg C_Kind C_Effect) : MtdD P w K mg base 1 C_Effect "parts" s_Effect_parts ["self"] (sp_eparts C_Effect) := by
  refine mt_mk T.h_Effect_parts sc_Effect_parts 1 rfl (by intro ds M Q h; first | (obtain ⟨rfl, _⟩ := h; rfl) | (obtain ⟨_, rfl, _⟩ := h; rfl) | (obtain ⟨_, _, rfl, _⟩ := h; rfl) | (obtain ⟨_, _, _, rfl, _⟩ := h; rfl) | (obtain ⟨_, _, _, _, rfl, _⟩ := h; rfl) | (obtain ⟨_, _, _, _, _, rfl, _⟩ := h; rfl) | (obtain ⟨_, _, _, _, _, _, rfl, _⟩ := h; rfl) | (obtain ⟨_, _, _, _, _, _, _, rfl, _⟩ := h; rfl) | (obtain ⟨_, _, _, _, _, _, _, _, rfl, _⟩ := h; rfl) | (obtain ⟨_, _, _, _, _, _, _, _, _, rfl, _⟩ := h; rfl) | (obtain ⟨_, _, _, _, _, _, _, _, _, _, rfl, _⟩ := h; rfl) | (obtain ⟨_, _, _, _, _, _, _, _, _, _, _, rfl, _⟩ := h; rfl) | (obtain ⟨_, _, _, _, _, _, _, _, _, _, _, _, rfl, _⟩ := h; rfl)) (fun f cdv A outer s H E hr => ⟨_, (dss_one (ds_ret (de_tup (da_cons (de_fld C_Effect 0 T.cl_Effect T.nf_Effect_bits (dv 0)) (da_cons (de_fld C_Effect 3 T.cl_Effect T.nf_Effect_shift (dv 0)) da_nil))))), ?_⟩)
  rintro ds M Q ⟨e, rfl, hQ⟩
  and_intros
  exact ⟨_, _, rfl, rfl, _, _, rfl, rfl, by show 2 ≤ _; decide, endD_of hQ⟩
def rowE (e : Ef) : List (Nat × Bool) := if e.w = e.b then [(e.b, e.s)] else [(e.b, true), (e.w, false)]
abbrev sp_erow (C CK : Addr) : SpD := fun ds M Q => ∃ e : Ef, ds = [effD C e] ∧ EfOk e ∧ Q (.lst (kindsD CK (rowE e))) M
theorem ok_Effect_row {C_Effect : Addr} (T : Txt K mg C_Kind C_Effect) (F_Kind_init : ClD P w K mg base 3 "Kind" C_Kind s_Kind_init ["self", "bits", "is_signed"] (sp_init C_Kind)) : MtdD P w K mg base 5 C_Effect "row" s_Effect_row ["self"] (sp_erow C_Effect C_Kind) := by
  refine mt_mk T.h_Effect_row sc_Effect_row 1 rfl (by intro ds M Q h; first | (obtain ⟨rfl, _⟩ := h; rfl) | (obtain ⟨_, rfl, _⟩ := h; rfl) | (obtain ⟨_, _, rfl, _⟩ := h; rfl) | (obtain ⟨_, _, _, rfl, _⟩ := h; rfl) | (obtain ⟨_, _, _, _, rfl, _⟩ := h; rfl) | (obtain ⟨_, _, _, _, _, rfl, _⟩ := h; rfl) | (obtain ⟨_, _, _, _, _, _, rfl, _⟩ := h; rfl) | (obtain ⟨_, _, _, _, _, _, _, rfl, _⟩ := h; rfl) | (obtain ⟨_, _, _, _, _, _, _, _, rfl, _⟩ := h; rfl) | (obtain ⟨_, _, _, _, _, _, _, _, _, rfl, _⟩ := h; rfl) | (obtain ⟨_, _, _, _, _, _, _, _, _, _, rfl, _⟩ := h; rfl) | (obtain ⟨_, _, _, _, _, _, _, _, _, _, _, rfl, _⟩ := h; rfl) | (obtain ⟨_, _, _, _, _, _, _, _, _, _, _, _, rfl, _⟩ := h; rfl)) (fun f cdv A outer s H E hr => ⟨_, (dss_stop (ds_if (dt_cmp (od_eq hr.units) (de_fld C_Effect 1 T.cl_Effect T.nf_Effect_width (dv 0)) (de_fld C_Effect 0 T.cl_Effect T.nf_Effect_bits (dv 0)))
    (dss_one (ds_ret (de_lst false (da_cons (de_make false F_Kind_init hr (da_cons (de_fld C_Effect 0 T.cl_Effect T.nf_Effect_bits (dv 0)) (da_cons (de_fld C_Effect 2 T.cl_Effect T.nf_Effect_is_below (dv 0)) da_nil))) da_nil))))
    dss_nil)
    (dss_one (ds_ret (de_lst false (da_cons (de_make false F_Kind_init hr (da_cons (de_fld C_Effect 0 T.cl_Effect T.nf_Effect_bits (dv 0)) (da_cons de_bl da_nil))) (da_cons (de_make false F_Kind_init hr (da_cons (de_fld C_Effect 1 T.cl_Effect T.nf_Effect_width (dv 0)) (da_cons de_bl da_nil))) da_nil)))))), ?_⟩)
  rintro ds M Q ⟨e, rfl, he, hQ⟩
  obtain ⟨he1, he2, he3, he4⟩ := he
  (refine stop_to ?_; and_intros)
  refine ⟨_, _, rfl, rfl, _, _, rfl, rfl, ?_⟩
  and_intros
  by_cases h : e.w = e.b
  · refine if_yes (decide_eq_true (by omega)) ⟨_, _, rfl, rfl, _, _, rfl, rfl, fun a ha => ⟨a, e.b, e.s, rfl, ⟨by omega, by omega⟩, updM_same, ?_⟩⟩
    rw [updM_updM]
    refine ⟨rfl, _, updM_same, lit_len (n := 1) (by decide), ?_⟩
    rw [delM_updM ha]
    refine endD_of ?_
    rw [show rowE e = [(e.b, e.s)] by unfold rowE; rw [if_pos h]] at hQ
    exact hQ
  · refine if_no (decide_eq_false (by omega)) ⟨_, _, rfl, rfl, fun a ha => ⟨a, e.b, true, rfl, ⟨by omega, by omega⟩, updM_same, ?_⟩⟩
    rw [updM_updM]
    refine ⟨rfl, _, updM_same, ?_⟩
    rw [delM_updM ha]
    refine ⟨_, _, rfl, rfl, fun a2 ha2 => ⟨a2, e.w, false, rfl, ⟨by omega, by omega⟩, updM_same, ?_⟩⟩
    rw [updM_updM]
    refine ⟨rfl, _, updM_same, lit_len (n := 2) (by decide), ?_⟩
    rw [delM_updM ha2]
    refine endD_of ?_
    rw [show rowE e = [(e.b, true), (e.w, false)] by unfold rowE; rw [if_neg h]] at hQ
    exact hQ
def imgE (e : Ef) : List (Int × Int) := [(0, 2 ^ (e.b - 1) - 1), (2 ^ (e.b - 1) + e.sh, 2 ^ e.b - 1 + e.sh)]
abbrev sp_eimg (C : Addr) : SpD := fun ds M Q => ∃ e : Ef, ds = [effD C e] ∧ EfOk e ∧ Q (.lst ((imgE e).map prD)) M
def restE (e : Ef) (y : Int) : Option Int := if 0 ≤ y ∧ y ≤ 2 ^ (e.b - 1) - 1 then some y else if 2 ^ (e.b - 1) + e.sh ≤ y ∧ y ≤ 2 ^ e.b - 1 + e.sh then some (y - e.sh) else none
def oZ : Option Int → Dat
  | none => .non
  | some i => .int i
abbrev sp_erest (C : Addr) : SpD := fun ds M Q => ∃ (e : Ef) (y : Int), ds = [effD C e, .int y] ∧ EfOk e ∧ Q (oZ (restE e y)) M
/-! ### the effect of a row -/
def stepE (q : Nat × Nat × Nat × Bool) (k : Nat × Bool) : Nat × Nat × Nat × Bool :=
  if k.1 ≤ q.1 then (k.1, k.1, k.1, k.2) else if k.1 ≤ q.2.2.1 then (q.1, min q.2.1 k.1, k.1, k.2) else if q.2.2.2 = true ∧ q.2.1 = q.2.2.1 then (q.1, k.1, k.1, k.2) else (q.1, q.2.1, k.1, k.2)
def walkE (q : Nat × Nat × Nat × Bool) : List (Nat × Bool) → Nat × Nat × Nat × Bool
  | [] => q
  | k :: r => walkE (stepE q k) r
def endE (q : Nat × Nat × Nat × Bool) : Ef := mkE q.1 q.2.1 (q.2.2.2 && decide (q.2.1 = q.2.2.1))
def effP : List (Nat × Bool) → Ef
  | [] => ⟨1, 1, false⟩
  | k :: ks => endE (walkE (k.1, k.1, k.1, k.2) ks)
theorem stepE_tot (q : Nat × Nat × Nat × Bool) (k : Nat × Bool) : (stepE q k).2.2.1 = k.1 ∧ (stepE q k).2.2.2 = k.2 := by
  unfold stepE
  split
  · exact ⟨rfl, rfl⟩
  · split
    · exact ⟨rfl, rfl⟩
    · split <;> exact ⟨rfl, rfl⟩
theorem and_eq {s : Bool} {a b : Nat} : (if s = true then ((decide ((a : Int) = (b : Int)) = (s && decide (a = b))) ∧ True) else (false = (s && decide (a = b)) ∧ True)) := by
  cases s
  · simp
  · by_cases h : a = b <;> simp [h]
    omega
theorem and_eqD {s : Bool} {a b : Nat} : (if s = true then ((Dat.bl (decide ((a : Int) = (b : Int))) = Dat.bl (s && decide (a = b))) ∧ True) else (Dat.bl false = Dat.bl (s && decide (a = b)) ∧ True)) := by
  cases s
  · simp
  · by_cases h : a = b <;> simp [h]
    omega
structure QOk (q : Nat × Nat × Nat × Bool) : Prop where
  lo : 1 ≤ q.1
  le : q.1 ≤ q.2.1
  hi : q.2.1 ≤ 128
theorem QOk.step {q : Nat × Nat × Nat × Bool} {k : Nat × Bool} (h : QOk q) (hk : Wd k.1) : QOk (stepE q k) := by
  obtain ⟨h1, h2, h3⟩ := h
  obtain ⟨k1, k2⟩ := hk
  unfold stepE
  split
  · exact ⟨k1, Nat.le_refl _, k2⟩
  · split
    · exact ⟨h1, Nat.le_min.mpr ⟨h2, by omega⟩, Nat.le_trans (Nat.min_le_left _ _) h3⟩
    · split
      · exact ⟨h1, by show q.1 ≤ k.1; omega, k2⟩
      · exact ⟨h1, h2, h3⟩
theorem QOk.walk {q : Nat × Nat × Nat × Bool} {ks : List (Nat × Bool)} (h : QOk q) (hk : ∀ k ∈ ks, Wd k.1) : QOk (walkE q ks) := by
  induction ks generalizing q with
  | nil => exact h
  | cons k ks ih => exact ih (h.step (hk k (by simp))) fun x hx => hk x (by simp [hx])
theorem QOk.eff {q : Nat × Nat × Nat × Bool} (h : QOk q) : EfOk (endE q) := by
  obtain ⟨h1, h2, h3⟩ := h
  refine ⟨h1, ?_, ?_, ?_⟩ <;> simp only [endE, mkE] <;> split <;> first | omega | (intro h; first | rfl | simp_all)
structure RowOk (ks : List (Nat × Bool)) : Prop where
  wd : ∀ k ∈ ks, Wd k.1
  pos : 1 ≤ ks.length
  le : ks.length ≤ 20
theorem eff_ok {k : Nat × Bool} {ks : List (Nat × Bool)} (h : ∀ x ∈ k :: ks, Wd x.1) : EfOk (effP (k :: ks)) := by
  have hk := h k (by simp)
  exact (QOk.walk (q := (k.1, k.1, k.1, k.2)) ⟨hk.1, Nat.le_refl _, hk.2⟩ fun x hx => h x (by simp [hx])).eff
theorem cutD_1 (d : Dat) (r : List Dat) : DL.cutD (d :: r) (some 1) none = r := by
  unfold DL.cutD
  simp [HT.sIx]
theorem lst_of {M : MH} {a : Addr} {ds : List Dat} (h : M a = some (.lst ds)) : (match M a with
    | some (.lst ds) => some ds
    | _ => none) = some ds := by rw [h]
abbrev sp_effof (C CK : Addr) : SpD := fun ds M Q => ∃ (k : Nat × Bool) (ks : List (Nat × Bool)) (l : Addr), ds = [.ref l] ∧ M l = some (.lst (kindsD CK (k :: ks))) ∧ (∀ x ∈ k :: ks, Wd x.1) ∧ ks.length ≤ 20 ∧ Q (effD C (effP (k :: ks))) M
theorem ok_effect_of {C_Effect : Addr} (T : Txt K mg C_Kind C_Effect) (F_Effect_init : ClD P w K mg base 1 "Effect" C_Effect s_Effect_init ["self", "bits", "width", "is_below"] (sp_einit C_Effect)) : FnD P w K mg base 3 "effect_of" s_effect_of ["kinds"] (sp_effof C_Effect C_Kind) := by
  refine fn_mk T.h_effect_of sc_effect_of 6 rfl (by intro ds M Q h; first | (obtain ⟨rfl, _⟩ := h; rfl) | (obtain ⟨_, rfl, _⟩ := h; rfl) | (obtain ⟨_, _, rfl, _⟩ := h; rfl) | (obtain ⟨_, _, _, rfl, _⟩ := h; rfl) | (obtain ⟨_, _, _, _, rfl, _⟩ := h; rfl) | (obtain ⟨_, _, _, _, _, rfl, _⟩ := h; rfl) | (obtain ⟨_, _, _, _, _, _, rfl, _⟩ := h; rfl) | (obtain ⟨_, _, _, _, _, _, _, rfl, _⟩ := h; rfl) | (obtain ⟨_, _, _, _, _, _, _, _, rfl, _⟩ := h; rfl) | (obtain ⟨_, _, _, _, _, _, _, _, _, rfl, _⟩ := h; rfl) | (obtain ⟨_, _, _, _, _, _, _, _, _, _, rfl, _⟩ := h; rfl) | (obtain ⟨_, _, _, _, _, _, _, _, _, _, _, rfl, _⟩ := h; rfl) | (obtain ⟨_, _, _, _, _, _, _, _, _, _, _, _, rfl, _⟩ := h; rfl)) (fun f cdv A outer s H E hr => ⟨_, (dss_stop (ds_asg3 (de_fld C_Kind 0 T.cl_Kind T.nf_Kind_bits (de_ix (dv 0) de_int)) (dg_name (i := 1) sc_effect_of.nd) (dg_name (i := 2) sc_effect_of.nd) (dg_name (i := 3) sc_effect_of.nd))
    (dss_stop (ds_set (i := 4) sc_effect_of.nd (de_fld C_Kind 1 T.cl_Kind T.nf_Kind_is_signed (de_ix (dv 0) de_int)))
    (dss_stop (ds_for (di_lst (de_sl false (dv 0) (do_some de_int) do_none)) (dg_name (i := 5) sc_effect_of.nd)
    (dss_stop (ds_if (dt_cmp od_le (de_fld C_Kind 0 T.cl_Kind T.nf_Kind_bits (dv 5)) (dv 1))
    (dss_one (ds_asg2 (de_fld C_Kind 0 T.cl_Kind T.nf_Kind_bits (dv 5)) (dg_name (i := 1) sc_effect_of.nd) (dg_name (i := 2) sc_effect_of.nd)))
    (dss_one (ds_if (dt_cmp od_le (de_fld C_Kind 0 T.cl_Kind T.nf_Kind_bits (dv 5)) (dv 3))
    (dss_one (ds_set (i := 2) sc_effect_of.nd (de_cb (cd_min rfl) (by rfl) T.b_min (by decide +kernel) (da_cons (dv 2) (da_cons (de_fld C_Kind 0 T.cl_Kind T.nf_Kind_bits (dv 5)) da_nil)))))
    (dss_one (ds_if (dt_cut (dt_w (dw_and (dt_val (dv 4)) (dw_and1 (dt_cmp (od_eq hr.units) (dv 2) (dv 3))))))
    (dss_one (ds_set (i := 2) sc_effect_of.nd (de_fld C_Kind 0 T.cl_Kind T.nf_Kind_bits (dv 5))))
    dss_nil)))))
    (dss_one (ds_par (i := 3) (j := 4) sc_effect_of.nd (da_cons (de_fld C_Kind 0 T.cl_Kind T.nf_Kind_bits (dv 5)) (da_cons (de_fld C_Kind 1 T.cl_Kind T.nf_Kind_is_signed (dv 5)) da_nil))))))
    (dss_one (ds_ret (de_make false F_Effect_init hr (da_cons (dv 1) (da_cons (dv 2) (da_cons (de_cut (de_and (dv 4) (de_one (de_cmp (od_eq hr.units) (dv 2) (dv 3))))) da_nil))))))))), ?_⟩)
  rintro ds M Q ⟨k, ks, l, rfl, hL, hw, hl, hQ⟩
  (refine stop_to ?_; and_intros)
  refine ⟨_, kindD C_Kind k.1 k.2, lst_of hL, atI_nat (j := 0) rfl, _, _, rfl, rfl, ?_⟩
  (refine stop_to ?_; and_intros)
  refine ⟨_, kindD C_Kind k.1 k.2, lst_of hL, atI_nat (j := 0) rfl, _, _, rfl, rfl, ?_⟩
  (refine stop_to ?_; and_intros)
  refine ⟨_, lst_of hL, _, rfl, ?_⟩
  rw [show DL.cutD (kindsD C_Kind (k :: ks)) (some 1) none = kindsD C_Kind ks from cutD_1 _ _]
  refine loop_by (fun rr ρ M' => M' = M ∧ ∃ (q : Nat × Nat × Nat × Bool) (b : List (Nat × Bool)) (x : Option Dat), rr = kindsD C_Kind b ∧ ρ = [some (.ref l), some (.int (q.1 : Nat)), some (.int (q.2.1 : Nat)), some (.int (q.2.2.1 : Nat)), some (.bl q.2.2.2), x] ∧ QOk q ∧ walkE q b = walkE (k.1, k.1, k.1, k.2) ks ∧ ∀ y ∈ b, Wd y.1) ?_ ?_ _ _ _ ⟨rfl, _, ks, _, rfl, rfl, ⟨(hw k (by simp)).1, Nat.le_refl _, (hw k (by simp)).2⟩, rfl, fun y hy => hw y (by simp [hy])⟩
  · rintro ρ M' ⟨hM, q, b, x, hb, rfl, hq, hwk, hy⟩
    subst hM
    have hb : b = [] := by
      cases b with
      | nil => rfl
      | cons _ _ => cases hb
    subst hb
    have hwk : q = walkE (k.1, k.1, k.1, k.2) ks := hwk
    and_intros
    refine cutE_is (.bl (q.2.2.2 && decide (q.2.1 = q.2.2.1))) ?_ ?_
    · and_intros
      exact and_eqD
    and_intros
    intro a ha
    refine ⟨a, q.1, q.2.1, _, rfl, hq.lo, hq.le, hq.hi, updM_same, ?_⟩
    rw [updM_updM]
    refine ⟨rfl, _, updM_same, ?_⟩
    rw [delM_updM ha]
    refine endD_of ?_
    rw [show effP (k :: ks) = endE q by rw [hwk]; rfl] at hQ
    exact hQ
  · rintro d r ρ M' kk ⟨hM, q, b, x, hb, rfl, hq, hwk, hy⟩ hk'
    subst hM
    cases b with
    | nil => cases hb
    | cons z b =>
      injection hb with e1 e2
      subst e1 e2
      and_intros
      refine stop_by (fun ρ' M2 => M2 = M' ∧ ρ' = [some (.ref l), some (.int ((stepE q z).1 : Nat)), some (.int ((stepE q z).2.1 : Nat)), some (.int (q.2.2.1 : Nat)), some (.bl q.2.2.2), some (kindD C_Kind z.1 z.2)]) ?_ ?_
      · and_intros
        refine ⟨_, _, rfl, rfl, ?_⟩
        and_intros
        by_cases c1 : z.1 ≤ q.1
        · refine if_yes (decide_eq_true (by omega)) ⟨_, _, rfl, rfl, (by first | exact True.intro | rfl), ?_⟩
          rw [show stepE q z = (z.1, z.1, z.1, z.2) by unfold stepE; rw [if_pos c1]]
        refine if_no (decide_eq_false (by omega)) ⟨_, _, rfl, rfl, ?_⟩
        and_intros
        by_cases c2 : z.1 ≤ q.2.2.1
        · refine if_yes (decide_eq_true (by omega)) ⟨_, _, rfl, rfl, ?_⟩
          and_intros
          refine ⟨True.intro, ?_⟩
          rw [show stepE q z = (q.1, min q.2.1 z.1, z.1, z.2) by unfold stepE; rw [if_neg c1, if_pos c2]]
          rw [show (if (z.1 : Int) < (q.2.1 : Int) then (z.1 : Int) else (q.2.1 : Int)) = ((min q.2.1 z.1 : Nat) : Int) by split <;> omega]
        refine if_no (decide_eq_false (by omega)) ?_
        refine cut_is (q.2.2.2 && decide (q.2.1 = q.2.2.1)) ?_ ?_
        · and_intros
          exact and_eq
        by_cases c3 : q.2.2.2 = true ∧ q.2.1 = q.2.2.1
        · refine if_yes (by rw [c3.1, decide_eq_true c3.2]; rfl) ⟨_, _, rfl, rfl, (by first | exact True.intro | rfl), ?_⟩
          rw [show stepE q z = (q.1, z.1, z.1, z.2) by unfold stepE; rw [if_neg c1, if_neg c2, if_pos c3]]
        · refine if_no (by simpa using c3) ⟨(by first | exact True.intro | rfl), ?_⟩
          rw [show stepE q z = (q.1, q.2.1, z.1, z.2) by unfold stepE; rw [if_neg c1, if_neg c2, if_neg c3]]
      · rintro ρ' M2 ⟨hM, rfl⟩
        subst hM
        and_intros
        refine ⟨_, _, rfl, rfl, _, _, rfl, rfl, hk' _ _ ⟨rfl, stepE q z, b, some (kindD C_Kind z.1 z.2), rfl, ?_, hq.step (hy z (by simp)), hwk, fun y h => hy y (by simp [h])⟩⟩
        rw [(stepE_tot q z).1, (stepE_tot q z).2]
        try rfl
abbrev sp_chkrow (CK : Addr) : SpD := fun ds M Q => ∃ (d : Dat) (ks : List (Nat × Bool)) (l : Addr), ds = [d, .ref l] ∧ M l = some (.lst (kindsD CK ks)) ∧ 1 ≤ ks.length ∧ ks.length ≤ 20 ∧ Q .non M
theorem ok_check_row {C_Effect : Addr} (T : Txt K mg C_Kind C_Effect) : FnD P w K mg base 1 "check_row" s_check_row ["argument", "value"] (sp_chkrow C_Kind) := by
  refine fn_mk T.h_check_row sc_check_row 3 rfl (by intro ds M Q h; first | (obtain ⟨rfl, _⟩ := h; rfl) | (obtain ⟨_, rfl, _⟩ := h; rfl) | (obtain ⟨_, _, rfl, _⟩ := h; rfl) | (obtain ⟨_, _, _, rfl, _⟩ := h; rfl) | (obtain ⟨_, _, _, _, rfl, _⟩ := h; rfl) | (obtain ⟨_, _, _, _, _, rfl, _⟩ := h; rfl) | (obtain ⟨_, _, _, _, _, _, rfl, _⟩ := h; rfl) | (obtain ⟨_, _, _, _, _, _, _, rfl, _⟩ := h; rfl) | (obtain ⟨_, _, _, _, _, _, _, _, rfl, _⟩ := h; rfl) | (obtain ⟨_, _, _, _, _, _, _, _, _, rfl, _⟩ := h; rfl) | (obtain ⟨_, _, _, _, _, _, _, _, _, _, rfl, _⟩ := h; rfl) | (obtain ⟨_, _, _, _, _, _, _, _, _, _, _, rfl, _⟩ := h; rfl) | (obtain ⟨_, _, _, _, _, _, _, _, _, _, _, _, rfl, _⟩ := h; rfl)) (fun f cdv A outer s H E hr => ⟨_, (dss_stop (ds_if (dt_cut (dt_w (dw_or (dt_not (dt_val (de_cb (cd_isiM K rfl) (by rfl) T.b_isinstance (by decide +kernel) (da_cons (dv 1) (da_cons (de_ty .lst (by rfl) T.b_list (by decide +kernel)) da_nil))))) (dw_or1 (dt_not (dt_chain od_le od_le de_int (de_cb (cd_len) (by rfl) T.b_len PySem.boot_len (da_cons (dv 1) da_nil)) (de_gint (by rfl) T.g_MOST_KINDS)))))))
    (dss_one ds_never)
    dss_nil)
    (dss_one (ds_if (dt_not (dt_val (de_cb (cd_all rfl) (by rfl) T.b_all (by decide +kernel) (da_cons (de_lcM false sc_check_row.nd (dv 1) (blkOk_by (own := [("kind", 2)]) (N := ["argument", "value", "kind"]) (sc := defScope s_check_row) (by decide +kernel)) (fun _ _ _ _ _ => (dgo_name (i := 2) (by decide) sc_check_row.nd rfl)) (fun _ _ _ _ _ => dts_nil) (fun _ _ _ _ _ => (de_cb ((cd_isiK K rfl)) (by rfl) T.b_isinstance (by decide +kernel) (da_cons (dv 2) (da_cons (de_cls (by rfl) T.mg_Kind) da_nil))))) da_nil))))
    (dss_one ds_never)
    dss_nil))), ?_⟩)
  rintro ds M Q ⟨d, ks, l, rfl, hL, h1, h2, hQ⟩
  (refine stop_to ?_; and_intros)
  refine cut_is false ?_ ?_
  · and_intros
    refine ⟨_, hL, if_no rfl ⟨_, lst_of hL, ?_⟩⟩
    rw [List.length_map]
    rw [if_pos (decide_eq_true (show (1 : Int) ≤ (ks.length : Nat) by omega)), decide_eq_true (show ((ks.length : Nat) : Int) ≤ 20 by omega)]
    exact ⟨rfl, True.intro⟩
  refine if_no rfl ?_
  and_intros
  refine ⟨l, _, rfl, hL, by rw [sizeLine_eq, List.length_map]; omega, ?_⟩
  refine lcM_by (fun r acc M' => M' = M ∧ (∃ n : Nat, acc = List.replicate n (.bl true)) ∧ ∀ x ∈ r, ∃ b s, x = kindD C_Kind b s) ?_ ?_ _ _ _ ⟨rfl, ⟨0, rfl⟩, fun x hx => by
    obtain ⟨q, _, rfl⟩ := List.mem_map.mp hx
    exact ⟨_, _, rfl⟩⟩
  rotate_left
  · rintro x r acc M' k ⟨rfl, ⟨n, rfl⟩, hx⟩ hk
    obtain ⟨b, s, rfl⟩ := hx x (by simp)
    refine ⟨hL, ?_⟩
    and_intros
    refine ⟨isi_cls T.ck_Kind (show OneC C_Kind (kindD C_Kind b s) from rfl), ?_⟩
    rw [show isiR (kindD C_Kind b s) (.cls C_Kind) = true by simp [isiR]]
    exact hk _ _ ⟨rfl, ⟨n + 1, by rw [List.replicate_succ']⟩, fun y hy => hx y (by simp [hy])⟩
  rintro acc M' ⟨rfl, ⟨n, rfl⟩, _⟩
  refine ⟨hL, ?_⟩
  and_intros
  refine ⟨List.replicate n true, by rw [List.map_replicate], if_no (by simp) ?_⟩
  and_intros
  exact endD_of hQ
/-! ### rows that do the same, the shortest row -/
theorem q_bl2 {Q : VKD} {M : MH} {a b : Bool} (e : a = b) (h : Q (.bl b) M) : Q (.bl a) M := e ▸ h
abbrev sp_dosame (CK : Addr) : SpD := fun ds M Q => ∃ (k : Nat × Bool) (ks : List (Nat × Bool)) (k2 : Nat × Bool) (ks2 : List (Nat × Bool)) (l l2 : Addr), ds = [.ref l, .ref l2] ∧ M l = some (.lst (kindsD CK (k :: ks))) ∧ M l2 = some (.lst (kindsD CK (k2 :: ks2))) ∧ (∀ x ∈ k :: ks, Wd x.1) ∧ (∀ x ∈ k2 :: ks2, Wd x.1) ∧ ks.length < 20 ∧ ks2.length < 20 ∧ Q (.bl (decide ((effP (k :: ks)).b = (effP (k2 :: ks2)).b ∧ (effP (k :: ks)).sh = (effP (k2 :: ks2)).sh))) M
theorem ok_do_same {C_Effect : Addr} (T : Txt K mg C_Kind C_Effect) (F_check_row : FnD P w K mg base 1 "check_row" s_check_row ["argument", "value"] (sp_chkrow C_Kind)) (F_Effect_parts : MtdD P w K mg base 1 C_Effect "parts" s_Effect_parts ["self"] (sp_eparts C_Effect)) (F_effect_of : FnD P w K mg base 3 "effect_of" s_effect_of ["kinds"] (sp_effof C_Effect C_Kind)) : FnD P w K mg base 4 "do_same" s_do_same ["kinds", "others"] (sp_dosame C_Kind) := by
  refine fn_mk T.h_do_same sc_do_same 2 rfl (by intro ds M Q h; first | (obtain ⟨rfl, _⟩ := h; rfl) | (obtain ⟨_, rfl, _⟩ := h; rfl) | (obtain ⟨_, _, rfl, _⟩ := h; rfl) | (obtain ⟨_, _, _, rfl, _⟩ := h; rfl) | (obtain ⟨_, _, _, _, rfl, _⟩ := h; rfl) | (obtain ⟨_, _, _, _, _, rfl, _⟩ := h; rfl) | (obtain ⟨_, _, _, _, _, _, rfl, _⟩ := h; rfl) | (obtain ⟨_, _, _, _, _, _, _, rfl, _⟩ := h; rfl) | (obtain ⟨_, _, _, _, _, _, _, _, rfl, _⟩ := h; rfl) | (obtain ⟨_, _, _, _, _, _, _, _, _, rfl, _⟩ := h; rfl) | (obtain ⟨_, _, _, _, _, _, _, _, _, _, rfl, _⟩ := h; rfl) | (obtain ⟨_, _, _, _, _, _, _, _, _, _, _, rfl, _⟩ := h; rfl) | (obtain ⟨_, _, _, _, _, _, _, _, _, _, _, _, rfl, _⟩ := h; rfl)) (fun f cdv A outer s H E hr => ⟨_, (dss_stop (ds_expr (de_call F_check_row hr (da_cons de_str (da_cons (dv 0) da_nil))))
    (dss_stop (ds_expr (de_call F_check_row hr (da_cons de_str (da_cons (dv 1) da_nil))))
    (dss_one (ds_ret (de_cmp (od_eq hr.units) (de_meth0 F_Effect_parts T.cl_Effect hr (de_call F_effect_of hr (da_cons (dv 0) da_nil))) (de_meth0 F_Effect_parts T.cl_Effect hr (de_call F_effect_of hr (da_cons (dv 1) da_nil)))))))), ?_⟩)
  rintro ds M Q ⟨k, ks, k2, ks2, l, l2, rfl, hL, hL2, h1, h2, h3, h4, hQ⟩
  (refine stop_to ?_; and_intros)
  refine ⟨_, k :: ks, l, rfl, hL, by simp, by simp; omega, ?_⟩
  (refine stop_to ?_; and_intros)
  refine ⟨_, k2 :: ks2, l2, rfl, hL2, by simp, by simp; omega, ?_⟩
  refine ⟨k, ks, l, rfl, hL, h1, by omega, ⟨_, rfl, by rfl⟩, _, rfl, k2, ks2, l2, rfl, hL2, h2, by omega, ⟨_, rfl, by rfl⟩, _, rfl, ?_⟩
  and_intros
  refine ⟨by rfl, by rfl, endD_of ?_⟩
  refine q_bl2 ?_ hQ
  by_cases c1 : (effP (k :: ks)).b = (effP (k2 :: ks2)).b
  · by_cases c2 : (effP (k :: ks)).sh = (effP (k2 :: ks2)).sh <;> simp [c1, c2]
  · have : ¬ ((effP (k :: ks)).b : Int) = ((effP (k2 :: ks2)).b : Int) := by omega
    simp [c1, this]
abbrev sp_short (CK : Addr) : SpD := fun ds M Q => ∃ (k : Nat × Bool) (ks : List (Nat × Bool)) (l : Addr), ds = [.ref l] ∧ M l = some (.lst (kindsD CK (k :: ks))) ∧ (∀ x ∈ k :: ks, Wd x.1) ∧ ks.length < 20 ∧ Q (.lst (kindsD CK (rowE (effP (k :: ks))))) M
theorem ok_shortest {C_Effect : Addr} (T : Txt K mg C_Kind C_Effect) (F_check_row : FnD P w K mg base 1 "check_row" s_check_row ["argument", "value"] (sp_chkrow C_Kind)) (F_Effect_row : MtdD P w K mg base 5 C_Effect "row" s_Effect_row ["self"] (sp_erow C_Effect C_Kind)) (F_effect_of : FnD P w K mg base 3 "effect_of" s_effect_of ["kinds"] (sp_effof C_Effect C_Kind)) : FnD P w K mg base 6 "shortest" s_shortest ["kinds"] (sp_short C_Kind) := by
  refine fn_mk T.h_shortest sc_shortest 1 rfl (by intro ds M Q h; first | (obtain ⟨rfl, _⟩ := h; rfl) | (obtain ⟨_, rfl, _⟩ := h; rfl) | (obtain ⟨_, _, rfl, _⟩ := h; rfl) | (obtain ⟨_, _, _, rfl, _⟩ := h; rfl) | (obtain ⟨_, _, _, _, rfl, _⟩ := h; rfl) | (obtain ⟨_, _, _, _, _, rfl, _⟩ := h; rfl) | (obtain ⟨_, _, _, _, _, _, rfl, _⟩ := h; rfl) | (obtain ⟨_, _, _, _, _, _, _, rfl, _⟩ := h; rfl) | (obtain ⟨_, _, _, _, _, _, _, _, rfl, _⟩ := h; rfl) | (obtain ⟨_, _, _, _, _, _, _, _, _, rfl, _⟩ := h; rfl) | (obtain ⟨_, _, _, _, _, _, _, _, _, _, rfl, _⟩ := h; rfl) | (obtain ⟨_, _, _, _, _, _, _, _, _, _, _, rfl, _⟩ := h; rfl) | (obtain ⟨_, _, _, _, _, _, _, _, _, _, _, _, rfl, _⟩ := h; rfl)) (fun f cdv A outer s H E hr => ⟨_, (dss_stop (ds_expr (de_call F_check_row hr (da_cons de_str (da_cons (dv 0) da_nil))))
    (dss_one (ds_ret (de_meth0 F_Effect_row T.cl_Effect hr (de_call F_effect_of hr (da_cons (dv 0) da_nil)))))), ?_⟩)
  rintro ds M Q ⟨k, ks, l, rfl, hL, h1, h3, hQ⟩
  (refine stop_to ?_; and_intros)
  refine ⟨_, k :: ks, l, rfl, hL, by simp, by simp; omega, ?_⟩
  exact ⟨k, ks, l, rfl, hL, h1, by omega, ⟨_, rfl, by rfl⟩, _, rfl, eff_ok h1, endD_of hQ⟩
/-! ### powers and least values -/
theorem pow_dbl {b : Nat} (h : 1 ≤ b) : (2 : Int) ^ b = 2 * 2 ^ (b - 1) := by
  rw [← Int.pow_succ', show b - 1 + 1 = b by omega]
theorem pow_up {m p : Nat} (h : m < p) : 2 * (2 : Int) ^ m ≤ 2 ^ p := by
  have h1 : (2 : Int) ^ (m + 1) ≤ 2 ^ p := pow_mono h
  rw [Int.pow_succ] at h1
  omega
theorem pow_inj {a b : Nat} (h : (2 : Int) ^ a = 2 ^ b) : a = b := by
  rcases Nat.lt_trichotomy a b with h1 | h1 | h1
  · have := pow_up h1
    have := two_pos a
    omega
  · exact h1
  · have := pow_up h1
    have := two_pos b
    omega
/-- the shortest row of casts behind an unsigned kind -/
theorem lowF (b : Nat) : lowZ b false = 0 := rfl
theorem lowT (b : Nat) : lowZ b true = -(2 ^ (b - 1)) := rfl
/-! ### what a row of casts does, plainly -/
def valQ (q : Nat × Nat × Nat × Bool) (n : Int) : Int :=
  if n % 2 ^ q.1 < 2 ^ (q.1 - 1) then n % 2 ^ q.1 else if q.2.2.2 = true ∧ q.2.1 = q.2.2.1 then n % 2 ^ q.1 - 2 ^ q.1 else n % 2 ^ q.1 + 2 ^ q.2.1 - 2 ^ q.1
structure QInv (q : Nat × Nat × Nat × Bool) : Prop where
  lo : 1 ≤ q.1
  le : q.1 ≤ q.2.1
  to : q.2.1 ≤ q.2.2.1
theorem QInv.step {q : Nat × Nat × Nat × Bool} {k : Nat × Bool} (h : QInv q) (hk : 1 ≤ k.1) : QInv (stepE q k) := by
  obtain ⟨h1, h2, h3⟩ := h
  unfold stepE
  split
  · exact ⟨hk, Nat.le_refl _, Nat.le_refl _⟩
  · split
    · exact ⟨h1, Nat.le_min.mpr ⟨h2, by omega⟩, Nat.min_le_right _ _⟩
    · split
      · exact ⟨h1, by show q.1 ≤ k.1; omega, Nat.le_refl _⟩
      · exact ⟨h1, h2, by show q.2.1 ≤ k.1; omega⟩
/-- the one value of a kind that is the same modulo its size -/
theorem placed_eq {b : Nat} {s : Bool} {v x : Int} (h1 : lowZ b s ≤ x) (h2 : x < lowZ b s + 2 ^ b) (h : (2 : Int) ^ b ∣ v - x) : placedZ b s v = x := by
  obtain ⟨c, hc⟩ := h
  unfold placedZ
  rw [show v - lowZ b s = (x - lowZ b s) + 2 ^ b * c by omega, Int.add_mul_emod_self_left, Int.emod_eq_of_lt (by omega) (by omega)]
  omega
theorem pow_dvd2 {a b : Nat} (h : a ≤ b) : (2 : Int) ^ a ∣ 2 ^ b := ⟨2 ^ (b - a), by rw [← Int.pow_add, show a + (b - a) = b by omega]⟩
theorem val_cong {q : Nat × Nat × Nat × Bool} (h : QInv q) (n : Int) : (2 : Int) ^ q.1 ∣ valQ q n - n := by
  have h0 : (2 : Int) ^ q.1 ∣ n % 2 ^ q.1 - n := ⟨-(n / 2 ^ q.1), by
    have := Int.mul_ediv_add_emod n (2 ^ q.1)
    rw [Int.mul_neg]
    omega⟩
  have h1 : (2 : Int) ^ q.1 ∣ 2 ^ q.2.1 := pow_dvd2 h.le
  have h2 : (2 : Int) ^ q.1 ∣ 2 ^ q.1 := Int.dvd_refl _
  unfold valQ
  split
  · exact h0
  · split
    · have := Int.dvd_sub h0 h2
      rw [show n % 2 ^ q.1 - 2 ^ q.1 - n = n % 2 ^ q.1 - n - 2 ^ q.1 by omega]
      exact this
    · have := Int.dvd_sub (Int.dvd_add h0 h1) h2
      rw [show n % 2 ^ q.1 + 2 ^ q.2.1 - 2 ^ q.1 - n = n % 2 ^ q.1 - n + 2 ^ q.2.1 - 2 ^ q.1 by omega]
      exact this
theorem placed_base {c : Nat} (u : Bool) (hc : 1 ≤ c) {v n : Int} (h : (2 : Int) ^ c ∣ v - n) : placedZ c u v = valQ (c, c, c, u) n := by
  have h0 : (2 : Int) ^ c ∣ n % 2 ^ c - n := ⟨-(n / 2 ^ c), by
    have := Int.mul_ediv_add_emod n (2 ^ c)
    rw [Int.mul_neg]
    omega⟩
  have hd : (2 : Int) ^ c ∣ v - n % 2 ^ c := by
    have := Int.dvd_sub h h0
    rw [show v - n % 2 ^ c = v - n - (n % 2 ^ c - n) by omega]
    exact this
  have a0 := Int.emod_nonneg n (show (2 : Int) ^ c ≠ 0 by have := two_pos c; omega)
  have a1 := Int.emod_lt_of_pos n (two_pos c)
  have a2 := pow_dbl hc
  have a3 := two_pos (c - 1)
  unfold valQ
  simp only
  split
  · rename_i hx
    cases u
    · exact placed_eq (by rw [lowF]; omega) (by rw [lowF]; omega) hd
    · exact placed_eq (by rw [lowT]; omega) (by rw [lowT]; omega) hd
  · rename_i hx
    cases u
    · simp only [Bool.false_eq_true, false_and, if_false]
      refine placed_eq (by rw [lowF]; omega) (by rw [lowF]; omega) ?_
      rw [show v - (n % 2 ^ c + 2 ^ c - 2 ^ c) = v - n % 2 ^ c by omega]
      exact hd
    · simp only [true_and, if_true]
      refine placed_eq (by rw [lowT]; omega) (by rw [lowT]; omega) ?_
      rw [show v - (n % 2 ^ c - 2 ^ c) = v - n % 2 ^ c + 2 ^ c by omega]
      exact Int.dvd_add hd (Int.dvd_refl _)
theorem val_step {q : Nat × Nat × Nat × Bool} {k : Nat × Bool} (h : QInv q) (hk : 1 ≤ k.1) (n : Int) : placedZ k.1 k.2 (valQ q n) = valQ (stepE q k) n := by
  obtain ⟨b, w, t, g⟩ := q
  obtain ⟨c, u⟩ := k
  have hv := val_cong h n
  obtain ⟨h1, h2, h3⟩ := h
  simp only at h1 h2 h3 hk hv ⊢
  have a0 := Int.emod_nonneg n (show (2 : Int) ^ b ≠ 0 by have := two_pos b; omega)
  have a1 := Int.emod_lt_of_pos n (two_pos b)
  have a2 := pow_dbl h1
  have a3 := two_pos (b - 1)
  have c2 := pow_dbl hk
  have z : ∀ x : Int, (2 : Int) ^ c ∣ x - x := fun x => ⟨0, by omega⟩
  by_cases e1 : c ≤ b
  · rw [show stepE (b, w, t, g) (c, u) = (c, c, c, u) by unfold stepE; rw [if_pos e1]]
    exact placed_base u hk (Int.dvd_trans (pow_dvd2 e1) hv)
  have e2 : (2 : Int) ^ b ≤ 2 ^ (c - 1) := pow_mono (by omega)
  have eb : (2 : Int) ^ b ≤ 2 ^ w := pow_mono h2
  by_cases e3 : c ≤ t
  · rw [show stepE (b, w, t, g) (c, u) = (b, min w c, c, u) by unfold stepE; rw [if_neg e1, if_pos e3]]
    unfold valQ
    simp only
    by_cases hx : n % 2 ^ b < 2 ^ (b - 1)
    · rw [if_pos hx, if_pos hx]
      cases u
      · exact placed_eq (by rw [lowF]; omega) (by rw [lowF]; omega) (z _)
      · exact placed_eq (by rw [lowT]; omega) (by rw [lowT]; omega) (z _)
    · rw [if_neg hx, if_neg hx]
      by_cases hg : g = true ∧ w = t
      · rw [if_pos hg, show min w c = c by omega]
        cases u
        · rw [if_neg (by simp)]
          refine placed_eq (by rw [lowF]; omega) (by rw [lowF]; omega) ⟨-1, by omega⟩
        · rw [if_pos (by first | exact ⟨rfl, rfl⟩ | exact ⟨rfl, True.intro⟩)]
          exact placed_eq (by rw [lowT]; omega) (by rw [lowT]; omega) (z _)
      · rw [if_neg hg]
        by_cases hcw : c ≤ w
        · have hd : (2 : Int) ^ c ∣ 2 ^ w := pow_dvd2 hcw
          rw [show min w c = c by omega]
          cases u
          · rw [if_neg (by simp)]
            refine placed_eq (by rw [lowF]; omega) (by rw [lowF]; omega) ?_
            rw [show n % 2 ^ b + 2 ^ w - 2 ^ b - (n % 2 ^ b + 2 ^ c - 2 ^ b) = 2 ^ w - 2 ^ c by omega]
            exact Int.dvd_sub hd (Int.dvd_refl _)
          · rw [if_pos (by first | exact ⟨rfl, rfl⟩ | exact ⟨rfl, True.intro⟩)]
            refine placed_eq (by rw [lowT]; omega) (by rw [lowT]; omega) ?_
            rw [show n % 2 ^ b + 2 ^ w - 2 ^ b - (n % 2 ^ b - 2 ^ b) = 2 ^ w by omega]
            exact hd
        · have e4 : (2 : Int) ^ w ≤ 2 ^ (c - 1) := pow_mono (by omega)
          rw [show min w c = w by omega, if_neg (by omega)]
          cases u
          · exact placed_eq (by rw [lowF]; omega) (by rw [lowF]; omega) (z _)
          · exact placed_eq (by rw [lowT]; omega) (by rw [lowT]; omega) (z _)
  · by_cases hg : g = true ∧ w = t
    · rw [show stepE (b, w, t, g) (c, u) = (b, c, c, u) by unfold stepE; rw [if_neg e1, if_neg e3, if_pos hg]]
      unfold valQ
      simp only
      by_cases hx : n % 2 ^ b < 2 ^ (b - 1)
      · rw [if_pos hx, if_pos hx]
        cases u
        · exact placed_eq (by rw [lowF]; omega) (by rw [lowF]; omega) (z _)
        · exact placed_eq (by rw [lowT]; omega) (by rw [lowT]; omega) (z _)
      · rw [if_neg hx, if_neg hx, if_pos hg]
        cases u
        · rw [if_neg (by simp)]
          refine placed_eq (by rw [lowF]; omega) (by rw [lowF]; omega) ⟨-1, by omega⟩
        · rw [if_pos (by first | exact ⟨rfl, rfl⟩ | exact ⟨rfl, True.intro⟩)]
          exact placed_eq (by rw [lowT]; omega) (by rw [lowT]; omega) (z _)
    · rw [show stepE (b, w, t, g) (c, u) = (b, w, c, u) by unfold stepE; rw [if_neg e1, if_neg e3, if_neg hg]]
      have e4 : (2 : Int) ^ w ≤ 2 ^ (c - 1) := pow_mono (by omega)
      unfold valQ
      simp only
      rw [if_neg (show ¬ (u = true ∧ w = c) by omega), if_neg hg]
      by_cases hx : n % 2 ^ b < 2 ^ (b - 1)
      · rw [if_pos hx]
        cases u
        · exact placed_eq (by rw [lowF]; omega) (by rw [lowF]; omega) (z _)
        · exact placed_eq (by rw [lowT]; omega) (by rw [lowT]; omega) (z _)
      · rw [if_neg hx]
        cases u
        · exact placed_eq (by rw [lowF]; omega) (by rw [lowF]; omega) (z _)
        · exact placed_eq (by rw [lowT]; omega) (by rw [lowT]; omega) (z _)
/-- what an effect does to an integer -/
def effV (e : Ef) (n : Int) : Int := if n % 2 ^ e.b < 2 ^ (e.b - 1) then n % 2 ^ e.b else n % 2 ^ e.b + e.sh
theorem val_end (q : Nat × Nat × Nat × Bool) (n : Int) : valQ q n = effV (endE q) n := by
  obtain ⟨b, w, t, g⟩ := q
  unfold valQ effV endE Ef.sh mkE
  simp only
  by_cases hg : g = true ∧ w = t
  · obtain ⟨rfl, rfl⟩ := hg
    simp
    rfl
  · have hb : (g && decide (w = t)) = false := by
      cases g
      · rfl
      · simp at hg ⊢
        exact hg
    rw [if_neg hg, hb]
    simp
    split
    · rfl
    · omega
theorem val_walk {q : Nat × Nat × Nat × Bool} {ks : List (Nat × Bool)} (h : QInv q) (hk : ∀ k ∈ ks, 1 ≤ k.1) (n : Int) : castZ ks (valQ q n) = valQ (walkE q ks) n := by
  induction ks generalizing q with
  | nil => rfl
  | cons k ks ih =>
    show castZ ks (placedZ k.1 k.2 (valQ q n)) = _
    rw [val_step h (hk k (by simp)) n]
    exact ih (h.step (hk k (by simp))) fun x hx => hk x (by simp [hx])
/-- the row of casts does what its effect does -/
theorem eff_cast {k : Nat × Bool} {ks : List (Nat × Bool)} (h : ∀ x ∈ k :: ks, Wd x.1) (n : Int) : castZ (k :: ks) n = effV (effP (k :: ks)) n := by
  have hk := (h k (by simp)).1
  show castZ ks (placedZ k.1 k.2 n) = _
  rw [placed_base k.2 hk (v := n) (n := n) ⟨0, by omega⟩, val_walk ⟨hk, Nat.le_refl _, Nat.le_refl _⟩ (fun x hx => (h x (by simp [hx])).1) n, val_end]
  rfl
/-! ### rows by what they tell (plain) -/
theorem sh_dvd {e : Ef} (h : EfOk e) : (2 : Int) ^ e.b ∣ e.sh := by
  unfold Ef.sh
  split
  · exact ⟨-1, by omega⟩
  · exact Int.dvd_sub (pow_dvd2 h.le) (Int.dvd_refl _)
theorem sh_cases {e : Ef} (h : EfOk e) : e.sh = -(2 ^ e.b) ∨ 0 ≤ e.sh := by
  unfold Ef.sh
  split
  · exact .inl rfl
  · right
    have := pow_mono h.le
    omega
theorem effV_mod {e : Ef} {n m : Int} {k : Nat} (h : e.b ≤ k) (hd : (2 : Int) ^ k ∣ n - m) : effV e n = effV e m := by
  obtain ⟨c, hc⟩ := Int.dvd_trans (pow_dvd2 h) hd
  have : n % 2 ^ e.b = m % 2 ^ e.b := by
    rw [show n = m + 2 ^ e.b * c by omega, Int.add_mul_emod_self_left]
  unfold effV
  rw [this]
/-- effects that tell the same for all values of a kind have the same parts -/
theorem eff_inj {e o : Ef} {k : Nat} {s : Bool} (he : EfOk e) (ho : EfOk o) (h1 : e.b ≤ k) (h2 : o.b ≤ k) (hv : ∀ n, lowZ k s ≤ n → n ≤ lowZ k s + 2 ^ k - 1 → effV e n = effV o n) : e.b = o.b ∧ e.sh = o.sh := by
  have all : ∀ n, effV e n = effV o n := by
    intro n
    have hp := placed_in k s n
    have hd : (2 : Int) ^ k ∣ placedZ k s n - n := ⟨-((n - lowZ k s) / 2 ^ k), by
      have := Int.mul_ediv_add_emod (n - lowZ k s) (2 ^ k)
      unfold placedZ
      rw [Int.mul_neg]
      omega⟩
    rw [← effV_mod h1 hd, ← effV_mod h2 hd]
    exact hv _ hp.1 (by omega)
  have less : ∀ {x y : Ef}, EfOk x → EfOk y → x.b < y.b → (∀ n, effV x n = effV y n) → False := by
    intro x y hx hy hl hn
    have a1 := pow_dbl hx.lo
    have a2 := two_pos (x.b - 1)
    have a3 := pow_dbl hy.lo
    have a4 := two_pos (y.b - 1)
    have a5 : (2 : Int) ^ x.b ≤ 2 ^ (y.b - 1) := pow_mono (by omega)
    have a6 := sh_cases hy
    have e1 : effV x (2 ^ x.b) = 0 := by
      unfold effV
      rw [Int.emod_self, if_pos a2]
    have e2 := hn (2 ^ x.b)
    rw [e1] at e2
    unfold effV at e2
    rw [Int.emod_eq_of_lt (by omega) (by omega)] at e2
    split at e2 <;> omega
  have hb : e.b = o.b := by
    rcases Nat.lt_trichotomy e.b o.b with h | h | h
    · exact (less he ho h all).elim
    · exact h
    · exact (less ho he h fun n => (all n).symm).elim
  refine ⟨hb, ?_⟩
  have a1 := pow_dbl he.lo
  have a2 := two_pos (e.b - 1)
  have e2 := all (2 ^ (e.b - 1))
  unfold effV at e2
  rw [← hb, Int.emod_eq_of_lt (by omega) (by omega), if_neg (by omega), if_neg (by omega)] at e2
  omega
theorem eff1 (a : Nat) (s : Bool) : effP [(a, s)] = ⟨a, a, s⟩ := by
  cases s <;> simp [effP, walkE, endE]
theorem eff2 (a b : Nat) (s t : Bool) : effP [(a, s), (b, t)] = if b ≤ a then ⟨b, b, t⟩ else if s = true then (if t = true then ⟨a, a, true⟩ else ⟨a, b, false⟩) else ⟨a, a, false⟩ := by
  unfold effP walkE walkE stepE
  by_cases h : b ≤ a
  · cases t <;> simp [h, endE]
  · have h2 : ¬ a = b := by omega
    cases s <;> cases t <;> simp [h, h2, endE]
theorem ef_ext {e o : Ef} (he : EfOk e) (ho : EfOk o) (hb : e.b = o.b) (hs : e.sh = o.sh) : e = o := by
  obtain ⟨b, w, s⟩ := e
  obtain ⟨b2, w2, s2⟩ := o
  obtain ⟨e1, e2, e3, e4⟩ := he
  obtain ⟨o1, o2, o3, o4⟩ := ho
  simp only at hb e1 e2 e3 e4 o1 o2 o3 o4
  subst hb
  unfold Ef.sh at hs
  simp only at hs
  have p1 := two_pos b
  have p2 := pow_mono e2
  have p3 := pow_mono o2
  cases s <;> cases s2
  · rw [if_neg Bool.false_ne_true, if_neg Bool.false_ne_true] at hs
    rw [pow_inj (show (2 : Int) ^ w = 2 ^ w2 by omega)]
  · rw [if_neg Bool.false_ne_true, if_pos rfl] at hs
    omega
  · rw [if_neg Bool.false_ne_true, if_pos rfl] at hs
    omega
  · rw [e4 rfl, o4 rfl]
theorem eff_row {e : Ef} (he : EfOk e) : effP (rowE e) = e := by
  obtain ⟨b, w, s⟩ := e
  obtain ⟨e1, e2, e3, e4⟩ := he
  simp only at e1 e2 e3 e4
  unfold rowE
  simp only
  by_cases h : w = b
  · rw [if_pos h, eff1, h]
  · rw [if_neg h, eff2, if_neg (by omega), if_pos rfl, if_neg Bool.false_ne_true]
    cases s
    · rfl
    · exact absurd (e4 rfl) h
theorem row_ok {e : Ef} (he : EfOk e) : RowOk (rowE e) ∧ (rowE e).length ≤ 2 := by
  obtain ⟨e1, e2, e3, e4⟩ := he
  unfold rowE
  split
  · refine ⟨⟨fun x hx => ?_, by simp, by simp⟩, by simp⟩
    rw [List.mem_singleton.mp hx]
    exact ⟨e1, by show e.b ≤ 128; omega⟩
  · refine ⟨⟨fun x hx => ?_, by simp, by simp⟩, by simp⟩
    simp only [List.mem_cons, List.not_mem_nil, or_false] at hx
    rcases hx with rfl | rfl
    · exact ⟨e1, by show e.b ≤ 128; omega⟩
    · exact ⟨by show 1 ≤ e.w; omega, e3⟩
/-- the casts of a row by its own effect -/
theorem cast_own {R : List (Nat × Bool)} (h : RowOk R) (n : Int) : castZ R n = effV (effP R) n := by
  cases R with
  | nil => exact absurd h.pos (by decide)
  | cons r R => exact eff_cast h.wd n
theorem own_ok {R : List (Nat × Bool)} (h : RowOk R) : EfOk (effP R) := by
  cases R with
  | nil => exact absurd h.pos (by decide)
  | cons r R => exact eff_ok h.wd
/-- no more bits than any kind of the row -/
theorem walk_all (q : Nat × Nat × Nat × Bool) : ∀ ks : List (Nat × Bool), (walkE q ks).1 ≤ q.1 ∧ ∀ z ∈ ks, (walkE q ks).1 ≤ z.1
  | [] => ⟨Nat.le_refl _, fun z hz => nomatch hz⟩
  | k :: ks => by
    obtain ⟨h1, h2⟩ := walk_all (stepE q k) ks
    have h3 : (stepE q k).1 ≤ q.1 ∧ (stepE q k).1 ≤ k.1 := by
      unfold stepE
      split
      · exact ⟨by assumption, Nat.le_refl _⟩
      · have : q.1 ≤ k.1 := by omega
        split
        · exact ⟨Nat.le_refl _, this⟩
        · split <;> exact ⟨Nat.le_refl _, this⟩
    refine ⟨Nat.le_trans h1 h3.1, fun z hz => ?_⟩
    rcases List.mem_cons.mp hz with rfl | hz
    · exact Nat.le_trans h1 h3.2
    · exact h2 z hz
theorem eff_all {R : List (Nat × Bool)} : ∀ z ∈ R, (effP R).b ≤ z.1 := by
  cases R with
  | nil => exact fun z hz => nomatch hz
  | cons k ks =>
    obtain ⟨h1, h2⟩ := walk_all (k.1, k.1, k.1, k.2) ks
    intro z hz
    show (endE (walkE (k.1, k.1, k.1, k.2) ks)).b ≤ z.1
    rcases List.mem_cons.mp hz with rfl | hz
    · exact h1
    · exact h2 z hz
/-- the same results from -150 to 150 -/
def Same (R T : List (Nat × Bool)) : Prop := ∀ n : Int, -150 ≤ n → n ≤ 150 → castZ R n = castZ T n
theorem same_iff {R T : List (Nat × Bool)} (hR : RowOk R) (hT : RowOk T) (bR : (effP R).b ≤ 7) (bT : (effP T).b ≤ 7) : Same R T ↔ effP R = effP T := by
  constructor
  · intro h
    obtain ⟨h1, h2⟩ := eff_inj (k := 8) (s := true) (own_ok hR) (own_ok hT) (by omega) (by omega) fun n a b => by
      rw [← cast_own hR, ← cast_own hT]
      have e1 : lowZ 8 true = -128 := by decide
      rw [e1] at a b
      exact h n (by omega) (by omega)
    exact ef_ext (own_ok hR) (own_ok hT) h1 h2
  · intro h n _ _
    rw [cast_own hR, cast_own hT, h]
theorem parts_iff {R T : List (Nat × Bool)} (hR : RowOk R) (hT : RowOk T) : ((effP R).b = (effP T).b ∧ (effP R).sh = (effP T).sh) ↔ effP R = effP T := ⟨fun h => ef_ext (own_ok hR) (own_ok hT) h.1 h.2, fun h => by rw [h]; exact ⟨rfl, rfl⟩⟩
theorem one_ok {c : Nat} {t : Bool} (h : Wd c) : RowOk [(c, t)] := ⟨fun x hx => by rw [List.mem_singleton.mp hx]; exact h, by simp, by simp⟩
/-- one kind tells the same just if it is the shortest row -/
theorem one_iff {R : List (Nat × Bool)} {c : Nat} {t : Bool} (hR : RowOk R) (hc : Wd c) (bR : (effP R).b ≤ 7) (h7 : c ≤ 7) : Same [(c, t)] R ↔ rowE (effP R) = [(c, t)] := by
  have e1 : effP [(c, t)] = ⟨c, c, t⟩ := eff1 c t
  rw [same_iff (one_ok hc) hR (by rw [e1]; exact h7) bR]
  constructor
  · intro h
    rw [← h, e1]
    unfold rowE
    rw [if_pos rfl]
  · intro h
    rw [← h, eff_row (own_ok hR)]
/-- a row that ends in the signed kind of one bit -/
theorem snoc_one {R : List (Nat × Bool)} (hR : RowOk R) (hl : R.length < 20) : effP (R ++ [(1, true)]) = ⟨1, 1, true⟩ := by
  have w1 : Wd 1 := ⟨by decide, by decide⟩
  have hT : RowOk (R ++ [(1, true)]) := ⟨fun x hx => by
    rcases List.mem_append.mp hx with h | h
    · exact hR.wd x h
    · rw [List.mem_singleton.mp h]
      exact w1, by simp, by simp; omega⟩
  have b1 : (effP (R ++ [(1, true)])).b ≤ 1 := eff_all (1, true) (by simp)
  rw [← eff1 1 true]
  refine (same_iff hT (one_ok w1) (by omega) (by rw [eff1]; decide)).mp fun n _ _ => ?_
  rw [castZ_snoc]
  show placedZ 1 true (castZ R n) = placedZ 1 true n
  obtain ⟨k, ks, rfl⟩ : ∃ k ks, R = k :: ks := by
    cases R with
    | nil => exact absurd hR.pos (by decide)
    | cons k ks => exact ⟨k, ks, rfl⟩
  rw [cast_own hR]
  have he := own_ok hR
  have hd : (2 : Int) ^ 1 ∣ effV (effP (k :: ks)) n - n := by
    refine Int.dvd_trans (pow_dvd2 he.lo) ?_
    have h1 := Int.mul_ediv_add_emod n (2 ^ (effP (k :: ks)).b)
    obtain ⟨q, hq⟩ := sh_dvd he
    unfold effV
    split
    · exact ⟨-(n / 2 ^ (effP (k :: ks)).b), by rw [Int.mul_neg]; omega⟩
    · exact ⟨q - n / 2 ^ (effP (k :: ks)).b, by rw [Int.mul_sub, ← hq]; omega⟩
  exact placed_congr hd
/-- what a row tells from -150 to 150 -/
def resL (R : List (Nat × Bool)) : List Int := (List.range 301).map fun i : Nat => castZ R ((i : Int) - 150)
theorem resL_iff {R T : List (Nat × Bool)} : resL R = resL T ↔ Same R T := by
  constructor
  · intro h n a b
    have h2 := congrArg (fun l : List Int => l[(n + 150).toNat]?) h
    unfold resL at h2
    simp only [List.getElem?_map] at h2
    rw [List.getElem?_range (by omega)] at h2
    simp only [Option.map_some, Option.some.injEq] at h2
    rw [show (((n + 150).toNat : Nat) : Int) - 150 = n by omega] at h2
    exact h2
  · intro h
    unfold resL
    refine List.map_congr_left fun i hi => ?_
    rw [List.mem_range] at hi
    exact h _ (by omega) (by omega)
/-! ### comprehensions over anything -/
theorem lc_fltG {α : Type} (inj out : α → Dat) (q : α → Bool) {g : TGD} {tt : TTD} {te : TED} {ρ : EnvD} {mk : Bool} {Q : VKD} {M : MH} {U : List α}
    (step : ∀ c ∈ U, ∀ (k : List Dat → MH → Prop) (acc : List Dat), (q c = true → k (acc ++ [out c]) M) → (q c = false → k acc M) → g (inj c) ρ M fun ρ2 M2 => tt ρ2 M2 fun b M3 => if b = true then te ρ2 M3 fun y M4 => k (acc ++ [y]) M4 else k acc M3)
    (h : newL mk ((U.filter q).map out) M Q) : lcGo g tt te ρ mk Q (U.map inj) [] M := by
  refine lc_by (fun r acc M5 => M5 = M ∧ ∃ u v : List α, U = u ++ v ∧ r = v.map inj ∧ acc = (u.filter q).map out) ?_ ?_ _ _ _ ⟨rfl, [], U, rfl, rfl, rfl⟩
  · rintro acc M5 ⟨rfl, u, v, e1, e2, rfl⟩
    cases v with
    | cons _ _ => cases e2
    | nil =>
      rw [List.append_nil] at e1
      subst e1
      exact h
  · rintro d r acc M5 k2 ⟨rfl, u, v, e1, e2, rfl⟩ hk2
    cases v with
    | nil => cases e2
    | cons c v =>
      injection e2 with e2 e3
      subst e2 e3
      refine step c (by rw [e1]; simp) k2 _ (fun hq => hk2 _ _ ⟨rfl, u ++ [c], v, by rw [e1]; simp, rfl, ?_⟩) (fun hq => hk2 _ _ ⟨rfl, u ++ [c], v, by rw [e1]; simp, rfl, ?_⟩)
      · rw [List.filter_append, List.filter_cons, if_pos hq, List.map_append]
        rfl
      · rw [List.filter_append, List.filter_cons, if_neg (by rw [hq]; exact Bool.false_ne_true), List.filter_nil, List.append_nil]
theorem lcM_fltG {α : Type} (inj out : α → Dat) (q : α → Bool) {p : Addr} {g : TGD} {tt : TTD} {te : TED} {ρ : EnvD} {mk : Bool} {Q : VKD} {M : MH} {U : List α} (hp : M p = some (.lst (U.map inj)))
    (step : ∀ c ∈ U, ∀ (k : List Dat → MH → Prop) (acc : List Dat), (q c = true → k (acc ++ [out c]) M) → (q c = false → k acc M) → g (inj c) ρ M fun ρ2 M2 => tt ρ2 M2 fun b M3 => if b = true then te ρ2 M3 fun y M4 => k (acc ++ [y]) M4 else k acc M3)
    (h : newL mk ((U.filter q).map out) M Q) : lcGoM p (U.map inj) g tt te ρ mk Q (U.map inj) [] M := by
  refine lcM_by (fun r acc M5 => M5 = M ∧ ∃ u v : List α, U = u ++ v ∧ r = v.map inj ∧ acc = (u.filter q).map out) ?_ ?_ _ _ _ ⟨rfl, [], U, rfl, rfl, rfl⟩
  · rintro acc M5 ⟨rfl, u, v, e1, e2, rfl⟩
    cases v with
    | cons _ _ => cases e2
    | nil =>
      rw [List.append_nil] at e1
      subst e1
      exact ⟨hp, h⟩
  · rintro d r acc M5 k2 ⟨rfl, u, v, e1, e2, rfl⟩ hk2
    cases v with
    | nil => cases e2
    | cons c v =>
      injection e2 with e2 e3
      subst e2 e3
      refine ⟨hp, step c (by rw [e1]; simp) k2 _ (fun hq => hk2 _ _ ⟨rfl, u ++ [c], v, by rw [e1]; simp, rfl, ?_⟩) (fun hq => hk2 _ _ ⟨rfl, u ++ [c], v, by rw [e1]; simp, rfl, ?_⟩)⟩
      · rw [List.filter_append, List.filter_cons, if_pos hq, List.map_append]
        rfl
      · rw [List.filter_append, List.filter_cons, if_neg (by rw [hq]; exact Bool.false_ne_true), List.filter_nil, List.append_nil]
theorem lc_mapD (out : Dat → Dat) {g : TGD} {tt : TTD} {te : TED} {ρ : EnvD} {mk : Bool} {Q : VKD} {M : MH} {U : List Dat}
    (step : ∀ c ∈ U, ∀ (k : List Dat → MH → Prop) (acc : List Dat), k (acc ++ [out c]) M → g c ρ M fun ρ2 M2 => tt ρ2 M2 fun b M3 => if b = true then te ρ2 M3 fun y M4 => k (acc ++ [y]) M4 else k acc M3)
    (h : newL mk (U.map out) M Q) : lcGo g tt te ρ mk Q U [] M := by
  have := lc_fltG (tt := tt) (te := te) (g := g) (ρ := ρ) (mk := mk) (Q := Q) (M := M) (U := U) id out (fun _ => true) (fun c hc k acc h1 _ => step c hc k acc (h1 rfl)) (by rw [List.filter_eq_self.mpr fun _ _ => rfl]; exact h)
  rwa [List.map_id] at this
/-! ### what rows tell, rows like others -/
abbrev sp_results : SpD := fun ds M Q => ∃ R : List (Nat × Bool), ds = [.lst (R.map shD)] ∧ (∀ x ∈ R, Wd x.1) ∧ Q (.lst ((resL R).map Dat.int)) M
theorem ok__law_results {C_Effect : Addr} (T : Txt K mg C_Kind C_Effect) (F__law_cast : FnD P w K mg base 2 "_law_cast" s__law_cast ["_law_rows_here", "_law_n"] (sp_lcast)) : FnD P w K mg base 3 "_law_results" s__law_results ["_law_rows_here"] (sp_results) := by
  refine fn_mk T.h__law_results sc__law_results 2 rfl (by intro ds M Q h; first | (obtain ⟨rfl, _⟩ := h; rfl) | (obtain ⟨_, rfl, _⟩ := h; rfl) | (obtain ⟨_, _, rfl, _⟩ := h; rfl) | (obtain ⟨_, _, _, rfl, _⟩ := h; rfl) | (obtain ⟨_, _, _, _, rfl, _⟩ := h; rfl) | (obtain ⟨_, _, _, _, _, rfl, _⟩ := h; rfl) | (obtain ⟨_, _, _, _, _, _, rfl, _⟩ := h; rfl) | (obtain ⟨_, _, _, _, _, _, _, rfl, _⟩ := h; rfl) | (obtain ⟨_, _, _, _, _, _, _, _, rfl, _⟩ := h; rfl) | (obtain ⟨_, _, _, _, _, _, _, _, _, rfl, _⟩ := h; rfl) | (obtain ⟨_, _, _, _, _, _, _, _, _, _, rfl, _⟩ := h; rfl) | (obtain ⟨_, _, _, _, _, _, _, _, _, _, _, rfl, _⟩ := h; rfl) | (obtain ⟨_, _, _, _, _, _, _, _, _, _, _, _, rfl, _⟩ := h; rfl)) (fun f cdv A outer s H E hr => ⟨_, (dss_one (ds_ret (de_lc false sc__law_results.nd (di_rng2 T.b_range (da_cons (de_neg de_int) (da_cons de_int da_nil))) (blkOk_by (own := [("_law_n", 1)]) (N := ["_law_rows_here", "_law_n"]) (sc := defScope s__law_results) (by decide +kernel)) (fun _ _ _ _ _ => (dgo_name (i := 1) (by decide) sc__law_results.nd rfl)) (fun _ _ _ _ _ => dts_nil) (fun _ _ _ _ _ => (de_call F__law_cast hr (da_cons (dv 0) (da_cons (dv 1) da_nil))))))), ?_⟩)
  rintro ds M Q ⟨R, rfl, hR, hQ⟩
  and_intros
  refine ⟨by decide, by rw [rngD_len]; exact lit_len (n := 301) (by decide), ?_⟩
  have er : rngD (-150) (151 - -150 : Int).toNat = (List.range 301).map fun i : Nat => Dat.int ((i : Int) - 150) := by
    unfold rngD
    refine List.map_congr_left fun i _ => ?_
    rw [show (-150 : Int) + (i : Int) = (i : Int) - 150 by omega]
  rw [er]
  refine lc_fltG (fun i : Nat => Dat.int ((i : Int) - 150)) (fun i : Nat => Dat.int (castZ R ((i : Int) - 150))) (fun _ => true) (fun i _ k acc h1 _ => ?_) ?_
  · and_intros
    exact ⟨R, _, rfl, hR, h1 rfl⟩
  rw [List.filter_eq_self.mpr fun _ _ => rfl]
  refine endD_of ?_
  unfold resL at hQ
  rw [List.map_map] at hQ
  exact hQ
theorem src_ne' {a f : Addr} {M : MH} (h : Src M a) (n : M f = none) : f ≠ a := fun e => by
  obtain ⟨x, y, z, q, _⟩ := h
  rw [e, q] at n
  cases n
theorem srcTo_upd {a f : Addr} {M M2 : MH} {o : MO} (h : SrcTo a (updM M f o) M2) (n : f ≠ a) : ∃ M3, SrcTo a M M3 ∧ M2 = updM M3 f o := by
  obtain ⟨x, y, z, rfl, ok⟩ := h
  refine ⟨updM M a (srcD x y z), ⟨x, y, z, rfl, ok⟩, ?_⟩
  funext b
  by_cases e : b = f
  · subst e
    rw [updM_ne n, updM_same, updM_same]
  · by_cases e2 : b = a
    · subst e2
      rw [updM_same, updM_ne e, updM_same]
    · rw [updM_ne e2, updM_ne e, updM_ne e, updM_ne e2]
theorem cut_pre {xs : List Dat} (n : Nat) : DL.cutD xs none (some (n : Int)) = xs.take n := by
  unfold DL.cutD
  rw [HT.sIx_none, List.drop_zero, Nat.sub_zero]
  have e : HT.sIx xs.length xs.length (some (n : Int)) = min n xs.length := by
    show (if (n : Int) < 0 then ((n : Int) + (xs.length : Int)).toNat else min (n : Int).toNat xs.length) = _
    rw [if_neg (by omega), Int.toNat_natCast]
  rw [e, ← List.take_eq_take_min]
theorem cut_suf {xs : List Dat} (n : Nat) (h : n ≤ xs.length) : DL.cutD xs (some (n : Int)) none = xs.drop n := by
  unfold DL.cutD
  rw [HT.sIx_none]
  have e : HT.sIx xs.length 0 (some (n : Int)) = min n xs.length := by
    show (if (n : Int) < 0 then ((n : Int) + (xs.length : Int)).toNat else min (n : Int).toNat xs.length) = _
    rw [if_neg (by omega), Int.toNat_natCast]
  rw [e, Nat.min_eq_left h, List.take_of_length_le (by rw [List.length_drop]; omega)]
abbrev sp_other64 : SpD := fun ds M Q => ∃ (a : Addr) (R : List (Nat × Bool)), ds = [.ref a, .lst (R.map shD)] ∧ Src M a ∧ RowOk R ∧ R.length ≤ 18 ∧ ∀ (T : List (Nat × Bool)) M', RowOk T → T.length ≤ 19 → SrcTo a M M' → Q (.lst (T.map shD)) M'
theorem ok__law_other {C_Effect : Addr} (T : Txt K mg C_Kind C_Effect) (F__law_next : FnD P w K mg base 1 "_law_next" s__law_next ["_law_source", "_law_many"] (sp_next)) (F__law_one : FnD P w K mg base 2 "_law_one" s__law_one ["_law_source", "_law_some"] (sp_one)) (F__law_rows : FnD P w K mg base 3 "_law_rows" s__law_rows ["_law_source", "_law_most"] (sp_rows)) (F__law_shape : FnD P w K mg base 2 "_law_shape" s__law_shape ["_law_source", "_law_most"] (sp_shape)) : FnD P w K mg base 4 "_law_other" s__law_other ["_law_source", "_law_rows_here"] (sp_other64) := by
  refine fn_mk T.h__law_other sc__law_other 4 rfl (by intro ds M Q h; first | (obtain ⟨rfl, _⟩ := h; rfl) | (obtain ⟨_, rfl, _⟩ := h; rfl) | (obtain ⟨_, _, rfl, _⟩ := h; rfl) | (obtain ⟨_, _, _, rfl, _⟩ := h; rfl) | (obtain ⟨_, _, _, _, rfl, _⟩ := h; rfl) | (obtain ⟨_, _, _, _, _, rfl, _⟩ := h; rfl) | (obtain ⟨_, _, _, _, _, _, rfl, _⟩ := h; rfl) | (obtain ⟨_, _, _, _, _, _, _, rfl, _⟩ := h; rfl) | (obtain ⟨_, _, _, _, _, _, _, _, rfl, _⟩ := h; rfl) | (obtain ⟨_, _, _, _, _, _, _, _, _, rfl, _⟩ := h; rfl) | (obtain ⟨_, _, _, _, _, _, _, _, _, _, rfl, _⟩ := h; rfl) | (obtain ⟨_, _, _, _, _, _, _, _, _, _, _, rfl, _⟩ := h; rfl) | (obtain ⟨_, _, _, _, _, _, _, _, _, _, _, _, rfl, _⟩ := h; rfl)) (fun f cdv A outer s H E hr => ⟨_, (dss_stop (ds_set (i := 2) sc__law_other.nd (de_call F__law_next hr (da_cons (dv 0) (da_cons (de_cb (cd_len) (by rfl) T.b_len PySem.boot_len (da_cons (dv 1) da_nil)) da_nil))))
    (dss_stop (ds_set (i := 3) sc__law_other.nd (de_lst true (da_cons (de_op (od_add false) (de_op (od_add false) (de_sl false (dv 1) do_none (do_some (dv 2))) (de_lst false (da_cons (de_ix (dv 1) (dv 2)) da_nil))) (de_sl false (dv 1) (do_some (dv 2)) do_none)) (da_cons (de_op (od_add false) (dv 1) (de_lst false (da_cons (de_call F__law_shape hr (da_cons (dv 0) (da_cons de_int da_nil))) da_nil))) (da_cons (de_call F__law_rows hr (da_cons (dv 0) (da_cons de_int da_nil))) da_nil)))))
    (dss_stop (ds_expr (de_mt PySem.F.slot_list_append PySem.F.type_list_append md_append (dv 3) (da_cons (de_op (od_add false) (de_op (od_add false) (de_sl false (dv 1) do_none (do_some (dv 2))) (de_lst false (da_cons (de_call F__law_shape hr (da_cons (dv 0) (da_cons de_int da_nil))) da_nil))) (de_sl false (dv 1) (do_some (dv 2)) do_none)) da_nil)))
    (dss_one (ds_ret (de_call F__law_one hr (da_cons (dv 0) (da_cons (de_op (od_add false) (dv 3) (de_lst false (da_cons (de_orL (de_op (od_add false) (de_sl false (dv 1) do_none (do_some (dv 2))) (de_sl false (dv 1) (do_some (de_op (od_add false) (dv 2) de_int)) do_none)) (de_one (dv 1))) da_nil))) da_nil)))))))), ?_⟩)
  rintro ds M Q ⟨a, R, rfl, hM, hR, hl, hQ⟩
  have hp := hR.pos
  (refine stop_to ?_; and_intros)
  have hp := hR.pos
  refine ⟨_, rfl, a, R.length, by rw [List.length_map], hM, by omega, Int.lt_of_lt_of_le (show (R.length : Int) < 2 ^ 8 by omega) (by decide +kernel), fun r M1 r0 r1 s1 => ?_⟩
  obtain ⟨i, rfl⟩ := Int.eq_ofNat_of_zero_le r0
  have hi : i < R.length := by omega
  (refine stop_to ?_; and_intros)
  have hd : (R.map shD)[i]? = some (shD R[i]) := by rw [List.getElem?_map, List.getElem?_eq_getElem hi]; rfl
  have lR : (R.map shD).length = R.length := List.length_map _
  refine ⟨_, rfl, _, _, rfl, atI_nat hd, lit_len (n := 1) (by decide), _, _, rfl, rfl, lit_len (by rw [cut_pre, List.length_take]; show min i (R.map shD).length + 1 ≤ 1000; omega), _, rfl, _, _, rfl, rfl, lit_len (by rw [cut_pre, cut_suf _ (by omega)]; simp; omega), ?_⟩
  refine ⟨a, 6, rfl, s1.src, by decide, by decide, fun q M2 q1 q2 s2 => ⟨lit_len (n := 1) (by decide), _, _, rfl, rfl, lit_len (by rw [lR]; show R.length + 1 ≤ 1000; omega), ?_⟩⟩
  refine ⟨a, 6, rfl, s2.src, by decide, by decide, fun T3 M3 t1 t2 t3 _ s3 => ⟨lit_len (n := 3) (by decide), fun f hf => ?_⟩⟩
  rw [cut_pre, cut_suf _ (by omega)]
  have wT : ∀ {x : Nat × Bool} {l : List (Nat × Bool)}, Wd x.1 → (∀ y ∈ l, Wd y.1) → ∀ y ∈ R.take i ++ [x] ++ l, Wd y.1 := fun {x l} h1 h2 y hy => by
    rcases List.mem_append.mp hy with hy | hy
    · rcases List.mem_append.mp hy with hy | hy
      · exact hR.wd y (List.mem_of_mem_take hy)
      · rw [List.mem_singleton.mp hy]
        exact h1
    · exact h2 y hy
  have w2 : ∀ y ∈ R.drop i, Wd y.1 := fun y hy => hR.wd y (List.mem_of_mem_drop hy)
  have o1 : RowOk (R.take i ++ [R[i]] ++ R.drop i) := ⟨wT (hR.wd _ (List.getElem_mem hi)) w2, by simp only [List.length_append, List.length_singleton]; omega, by simp only [List.length_append, List.length_singleton, List.length_take, List.length_drop]; omega⟩
  have l1 : (R.take i ++ [R[i]] ++ R.drop i).length ≤ 19 := by simp only [List.length_append, List.length_singleton, List.length_take, List.length_drop]; omega
  have o2 : RowOk (R ++ [q]) := ⟨fun y hy => by
    rcases List.mem_append.mp hy with hy | hy
    · exact hR.wd y hy
    · rw [List.mem_singleton.mp hy]
      exact ⟨q1, by omega⟩, by simp, by simp; omega⟩
  have l2 : (R ++ [q]).length ≤ 19 := by simp; omega
  have o3 : RowOk T3 := ⟨t1, t2, by omega⟩
  have e1 : (R.map shD).take i ++ [shD R[i]] ++ (R.map shD).drop i = (R.take i ++ [R[i]] ++ R.drop i).map shD := by rw [List.map_append, List.map_append, List.map_take, List.map_drop]; rfl
  have e2 : R.map shD ++ [shD q] = (R ++ [q]).map shD := by simp
  rw [e1, e2]
  generalize R.take i ++ [R[i]] ++ R.drop i = T1 at o1 l1 ⊢
  generalize R ++ [q] = T2 at o2 l2 ⊢
  clear e1 e2 hd
  have hM3 := (s1.trans s2).trans s3
  have hfa := src_ne' hM3.src hf
  clear s1 s2 s3
  (refine stop_to ?_; and_intros)
  have M4 : updM M3 f (.lst [.lst (T1.map shD), .lst (T2.map shD), .lst (T3.map shD)]) f = _ := updM_same
  have hs4 : Src (updM M3 f (.lst [.lst (T1.map shD), .lst (T2.map shD), .lst (T3.map shD)])) a := by
    obtain ⟨x, y, z, e, ok⟩ := hM3.src
    exact ⟨x, y, z, by rw [updM_ne (Ne.symm hfa)]; exact e, ok⟩
  refine ⟨⟨_, rfl⟩, _, rfl, a, 128, rfl, hs4, by decide, by decide, fun p M5 p1 p2 s5 => ⟨lit_len (n := 1) (by decide), _, _, rfl, rfl, lit_len (by rw [cut_pre, List.length_take]; show min i (R.map shD).length + 1 ≤ 1000; omega), _, rfl, _, _, rfl, rfl, lit_len (by rw [cut_pre, cut_suf _ (by omega)]; simp; omega), ?_⟩⟩
  have o4 : RowOk (R.take i ++ [p] ++ R.drop i) := ⟨wT ⟨p1, p2⟩ w2, by simp only [List.length_append, List.length_singleton]; omega, by simp only [List.length_append, List.length_singleton, List.length_take, List.length_drop]; omega⟩
  have l4 : (R.take i ++ [p] ++ R.drop i).length ≤ 19 := by simp only [List.length_append, List.length_singleton, List.length_take, List.length_drop]; omega
  have e4 : (R.map shD).take i ++ [shD p] ++ (R.map shD).drop i = (R.take i ++ [p] ++ R.drop i).map shD := by rw [List.map_append, List.map_append, List.map_take, List.map_drop]; rfl
  rw [cut_pre, cut_suf _ (by omega), e4]
  generalize R.take i ++ [p] ++ R.drop i = T4 at o4 l4 ⊢
  have M5f : M5 f = some (.lst [.lst (T1.map shD), .lst (T2.map shD), .lst (T3.map shD)]) := by rw [s5.at hfa]; exact M4
  have c5 : DL.cutD (R.map shD) none (some (i : Int)) = (R.take i).map shD := by rw [cut_pre, List.map_take]
  have c6 : DL.cutD (R.map shD) (some ((i : Int) + 1)) none = (R.drop (i + 1)).map shD := by rw [show ((i : Int) + 1) = ((i + 1 : Nat) : Int) by omega, cut_suf _ (by omega), List.map_drop]
  refine ⟨_, M5f, by rw [sizeLine_eq]; show 3 < _; decide, _, rfl, _, rfl, _, _, rfl, rfl, lit_len (by rw [c5, c6]; simp; omega), _, rfl, ?_⟩
  rw [c5, c6, ← List.map_append]
  obtain ⟨M6, s6, rfl⟩ := srcTo_upd s5 hfa
  rw [updM_updM]
  have n6 : M6 f = none := by rw [s6.at hfa]; exact hf
  have fin : ∀ T5 : List (Nat × Bool), RowOk T5 → T5.length ≤ 19 → sp_one [.ref a, .lst ([.lst (T1.map shD), .lst (T2.map shD), .lst (T3.map shD)] ++ [.lst (T4.map shD)] ++ [.lst (T5.map shD)])] (updM M6 f (.lst ([.lst (T1.map shD), .lst (T2.map shD), .lst (T3.map shD)] ++ [.lst (T4.map shD)]))) (endD Q) := by
    intro T5 o5 l5
    have hs6 : Src (updM M6 f (.lst ([.lst (T1.map shD), .lst (T2.map shD), .lst (T3.map shD)] ++ [.lst (T4.map shD)]))) a := by
      obtain ⟨x, y, z, e, ok⟩ := s6.src
      exact ⟨x, y, z, by rw [updM_ne (Ne.symm hfa)]; exact e, ok⟩
    refine ⟨a, _, rfl, hs6, by simp, by simp, fun d M7 hd s7 => ?_⟩
    obtain ⟨M8, s8, rfl⟩ := srcTo_upd s7 hfa
    have n8 : M8 f = none := by rw [s8.at hfa]; exact n6
    have go : ∀ T : List (Nat × Bool), RowOk T → T.length ≤ 19 → endD Q (.lst (T.map shD)) (updM M8 f (.lst ([.lst (T1.map shD), .lst (T2.map shD), .lst (T3.map shD)] ++ [.lst (T4.map shD)]))) := fun T o l => ⟨M8, LeM.new n8, hQ T M8 o l ((hM3.trans s6).trans s8)⟩
    simp only [List.cons_append, List.nil_append, List.mem_cons, List.not_mem_nil, or_false] at hd
    rcases hd with rfl | rfl | rfl | rfl | rfl
    · exact go T1 o1 l1
    · exact go T2 o2 l2
    · exact go T3 o3 (by omega)
    · exact go T4 o4 l4
    · exact go T5 o5 l5
  by_cases h : ((R.take i ++ R.drop (i + 1)).map shD).isEmpty = true
  · rw [if_pos h]
    exact ⟨lit_len (n := 1) (by decide), _, _, rfl, rfl, lit_len (n := 5) (by decide), fin R hR (by omega)⟩
  · rw [if_neg h]
    refine ⟨lit_len (n := 1) (by decide), _, _, rfl, rfl, lit_len (n := 5) (by decide), fin _ ⟨fun y hy => ?_, ?_, ?_⟩ ?_⟩
    · rcases List.mem_append.mp hy with hy | hy
      · exact hR.wd y (List.mem_of_mem_take hy)
      · exact hR.wd y (List.mem_of_mem_drop hy)
    · cases q : R.take i ++ R.drop (i + 1) with
      | nil => rw [q] at h; exact absurd rfl h
      | cons _ _ => simp
    · simp only [List.length_append, List.length_take, List.length_drop]
      omega
    · simp only [List.length_append, List.length_take, List.length_drop]
      omega
/-! ### loops over a told list -/
theorem loop_ix {g : TGD} {tb : TSD} {D : EndsD} {ds : List Dat} {ρ : EnvD} {M : MH} (I : Nat → EnvD → MH → Prop) (h0 : I 0 ρ M) (hend : ∀ ρ M, I ds.length ρ M → D.nx ρ M)
    (step : ∀ i d ρ M (k : EnvD → MH → Prop), ds[i]? = some d → I i ρ M → (∀ ρ M, I (i + 1) ρ M → k ρ M) → g d ρ M fun ρ' M' => tb { D with nx := k, ct := k, bk := D.nx } ρ' M') : dLoop g tb ds D ρ M := by
  refine loop_by (fun r ρ M => ∃ i, r = ds.drop i ∧ i ≤ ds.length ∧ I i ρ M) ?_ ?_ _ _ _ ⟨0, rfl, Nat.zero_le _, h0⟩
  · rintro ρ M ⟨i, hr, hi, h⟩
    have := congrArg List.length hr
    rw [List.length_drop, List.length_nil] at this
    have e : i = ds.length := by omega
    subst e
    exact hend ρ M h
  · rintro d r ρ M k ⟨i, hr, hi, h⟩ hk
    have hlt : i < ds.length := by
      rcases Nat.lt_or_ge i ds.length with h | h
      · exact h
      · rw [List.drop_eq_nil_of_le h] at hr
        cases hr
    rw [List.drop_eq_getElem_cons hlt] at hr
    injection hr with h1 h2
    subst h1
    exact step i _ ρ M k (List.getElem?_eq_getElem hlt) h fun ρ M q => hk ρ M ⟨i + 1, h2, hlt, q⟩
theorem cutD_init {xs : List Dat} {x : Dat} : DL.cutD (xs ++ [x]) none (some (-1)) = xs := by
  unfold DL.cutD
  rw [HT.sIx_none, List.drop_zero, Nat.sub_zero, List.length_append]
  have e : HT.sIx (xs.length + [x].length) (xs.length + [x].length) (some (-1)) = xs.length := by
    show (if (-1 : Int) < 0 then ((-1 : Int) + ((xs.length + 1 : Nat) : Int)).toNat else min (-1 : Int).toNat (xs.length + 1)) = xs.length
    rw [if_pos (show (-1 : Int) < 0 by decide)]
    omega
  rw [e, List.take_left]
theorem atI_lastD {α : Type} {xs : List α} {d : α} (h : xs[xs.length - 1]? = some d) : atI xs (-1) = some d := by
  have hl : 0 < xs.length := by
    rcases Nat.eq_zero_or_pos xs.length with g | g
    · rw [List.getElem?_eq_none (by omega)] at h
      cases h
    · exact g
  unfold atI ixN
  rw [if_neg (by decide), if_pos (by omega), show (-1 + (xs.length : Nat) : Int).toNat = xs.length - 1 by omega]
  exact h
def oI : Option Int → Dat
  | none => .non
  | some x => .int x
theorem oI_self (o : Option Int) : eqD (oI o) (oI o) = true := by
  cases o with
  | none => rfl
  | some x => show eqD (.int x) (.int x) = true; rw [eqD_int]; exact decide_eq_true rfl
theorem map_oI {dl : List Int} {n : Nat} (h : n < dl.length) : (dl.map Dat.int)[n]? = some (oI dl[n]?) := by
  rw [List.getElem?_map, List.getElem?_eq_getElem h]
  rfl
theorem ne_oI {o : Option Int} {M : MH} {Q : VKD} (h : Q (.bl false) M) : DL.rNeD (oI o) (oI o) M Q := by
  cases o with
  | none =>
    show DL.rNeD .non .non M Q
    simp only [w_neNN]
    exact h
  | some x =>
    show DL.rNeD (.int x) (.int x) M Q
    simp only [w_ne, decide_true, Bool.not_true]
    exact h
theorem shp_oI (o p : Option Int) : shp 64 (.lst [oI o, oI p]) = true := by
  cases o <;> cases p <;> rfl
/-! ### the law of a row -/
theorem sh_shps (n : Nat) : ∀ ks : List (Nat × Bool), shps (n + 1) (ks.map shD) = true
  | [] => by
    rw [List.map_nil]
    unfold shps
    rfl
  | k :: ks => by
    rw [List.map_cons]
    unfold shps
    rw [sh_shps n ks]
    rfl
theorem sh_shp (ks : List (Nat × Bool)) : shp 64 (.lst (ks.map shD)) = true := sh_shps 62 ks
theorem sh_inj {k q : Nat × Bool} : eqD (shD k) (shD q) = decide (k = q) := by
  obtain ⟨a, s⟩ := k
  obtain ⟨b, t⟩ := q
  unfold shD
  rw [eqD_tup, eqDs_cons, eqDs_cons, eqD_int, eqD_bl]
  by_cases h : a = b
  · subst h
    cases s <;> cases t <;> simp [eqDs_nil]
  · have : ¬ (a : Int) = (b : Int) := by omega
    simp [this, h]
theorem sh_eq : ∀ ks qs : List (Nat × Bool), eqDs (ks.map shD) (qs.map shD) = decide (ks = qs)
  | [], [] => rfl
  | [], _ :: _ => rfl
  | _ :: _, [] => rfl
  | k :: ks, q :: qs => by
    rw [List.map_cons, List.map_cons, eqDs_cons, sh_inj, sh_eq ks qs]
    by_cases h1 : k = q
    · by_cases h2 : ks = qs <;> simp [h1, h2]
    · simp [h1]
theorem ints_shps (n : Nat) : ∀ ns : List Int, shps n (ns.map Dat.int) = true
  | [] => by unfold shps; rfl
  | q :: fs => by
    rw [List.map_cons]
    unfold shps
    rw [ints_shps n fs]
    unfold shp
    rfl
theorem ints_shp (ns : List Int) : shp 64 (.lst (ns.map Dat.int)) = true := ints_shps 63 ns
/-- the kinds of up to i bits that alone tell the same -/
def alZ (L : List (Nat × Bool)) (i : Nat) : List (Nat × Bool) := match L with
  | [(c, t)] => if c ≤ i then [(c, t)] else []
  | _ => []
theorem al_step (L : List (Nat × Bool)) (i : Nat) : alZ L i ++ ([false, true].filter fun t => decide (L = [(i + 1, t)])).map (fun t => (i + 1, t)) = alZ L (i + 1) := by
  match L with
  | [] => simp [alZ]
  | [(c, s)] =>
    unfold alZ
    by_cases h : c ≤ i
    · have : ¬ c = i + 1 := by omega
      simp [h, this, show c ≤ i + 1 by omega]
    · by_cases h2 : c = i + 1
      · subst h2
        cases s <;> simp [List.filter]
      · simp [h, h2, show ¬ c ≤ i + 1 by omega]
  | _ :: _ :: _ => simp [alZ]
theorem al_end {e : Ef} (he : EfOk e) (h : e.b ≤ 6) : alZ (rowE e) 7 = (if (rowE e).length = 1 then rowE e else []) := by
  unfold rowE
  split
  · simp [alZ, show e.b ≤ 7 by omega]
  · simp [alZ]
theorem row_len {e : Ef} (he : EfOk e) : (rowE e).length = 1 ∨ (rowE e).length = 2 := by
  unfold rowE
  split
  · exact .inl rfl
  · exact .inr rfl
theorem short64 {C : Addr} {S : List (Nat × Bool)} {l : Addr} {M : MH} {Q : VKD} (hS : RowOk S) (hL : M l = some (.lst (kindsD C S))) (h : Q (.lst (kindsD C (rowE (effP S)))) M) : sp_short C [.ref l] M Q := by
  have h1 := hS.le
  cases S with
  | nil => exact absurd hS.pos (by decide)
  | cons s S0 =>
    rw [List.length_cons] at h1
    exact ⟨s, S0, l, rfl, hL, hS.wd, by omega, h⟩
theorem same64 {C : Addr} {S T : List (Nat × Bool)} {l l2 : Addr} {M : MH} {Q : VKD} (hS : RowOk S) (hT : RowOk T) (hL : M l = some (.lst (kindsD C S))) (hL2 : M l2 = some (.lst (kindsD C T))) (h : ∀ v : Bool, (v = true ↔ effP S = effP T) → Q (.bl v) M) : sp_dosame C [.ref l, .ref l2] M Q := by
  have e : decide ((effP S).b = (effP T).b ∧ (effP S).sh = (effP T).sh) = true ↔ effP S = effP T := by
    rw [decide_eq_true_eq]
    exact parts_iff hS hT
  have h1 := hS.le
  have h2 := hT.le
  cases S with
  | nil => exact absurd hS.pos (by decide)
  | cons s S0 =>
    cases T with
    | nil => exact absurd hT.pos (by decide)
    | cons t T0 =>
      rw [List.length_cons] at h1 h2
      exact ⟨s, S0, t, T0, l, l2, rfl, hL, hL2, hS.wd, hT.wd, by omega, by omega, h _ e⟩
abbrev sp_right64 (C : Addr) : SpD := fun ds M Q => ∃ a : Addr, ds = [.ref a] ∧ Src M a ∧ ∀ M', Src M' a → Q (.bl true) M'
theorem deref_at {M : MH} {a : Addr} {ds : List Dat} (h : M a = some (.lst ds)) : deref M (.ref a) = .lst ds := by
  show (match M a with | some (MO.lst ds) => Dat.lst ds | _ => Dat.ref a) = _
  rw [h]
theorem two64 {M : MH} {a l l2 : Addr} {X Y : MO} (hs : Src M a) (hl : M l = none) (hl2 : updM M l X l2 = none) : updM (updM M l X) l2 Y l = some X ∧ updM (updM M l X) l2 Y l2 = some Y ∧ Src (updM (updM M l X) l2 Y) a ∧ l ≠ l2 := by
  have n : l ≠ l2 := fun e => by
    rw [← e, updM_same] at hl2
    cases hl2
  refine ⟨LeM.new hl2 _ _ updM_same, updM_same, ?_, n⟩
  obtain ⟨x, y, z, e, ok⟩ := hs
  exact ⟨x, y, z, LeM.new hl2 _ _ (LeM.new hl _ _ e), ok⟩
theorem ne_bl {v v2 : Bool} {M : MH} {A B : MH → Prop} (h : v2 = v) (hB : B M) : DL.rNeD (.bl v2) (.bl v) M fun x M1 => asBl x fun b => if b = true then A M1 else B M1 := by
  subst h
  refine ⟨by rfl, by rfl, ?_⟩
  cases v2 <;> exact hB
theorem tr_bl {v v2 : Bool} {A B : Prop} (h : v = true ↔ A) (h2 : v2 = true ↔ B) (e : A ↔ B) : v = v2 := by
  cases v <;> cases v2 <;> simp_all
theorem lsR_at {M : MH} {a : Addr} {ds : List Dat} (h : M a = some (.lst ds)) : lsR M (.ref a) = some ds := by
  show (match M a with | some (MO.lst ds) => some ds | _ => none) = _
  rw [h]
theorem pairsK64 (C : Addr) (ks : List (Nat × Bool)) : PairsK C (sp_eq C) (kindsD C ks) (kindsD C ks) := by
  induction ks with
  | nil => exact True.intro
  | cons k ks ih => exact ⟨⟨_, _, rfl, rfl, fun M Q h => ⟨k.1, k.2, k.1, k.2, rfl, by rw [decide_eq_true ⟨rfl, rfl⟩]; exact h⟩⟩, ih⟩
def g_kw_do_same_0_others_kinds {α : Type} : List α → List α → List α
  | [], [b0, b1] => [b1, b0]
  | _, _ => []
theorem kw_do_same_0_others_kinds : KwB "do_same" s_do_same ["kinds", "others"] 0 ["others", "kinds"] g_kw_do_same_0_others_kinds := by
  refine ⟨fun kV doc pm an cdv ct us ws h1 h2 => ?_, fun {vs us zs ws} r1 r2 => ?_, fun {K F vs zs ds es} l1 l2 r1 r2 => ?_⟩
  · match us, ws, h1, h2 with
    | [], [_, _], _, _ => rfl
  ·
    cases r1 with
    | cons _ _ => exact .nil
    | nil =>
      cases r2 with
      | nil => exact .nil
      | cons eb0 tb0 =>
        cases tb0 with
        | nil => exact .nil
        | cons eb1 tb1 =>
          cases tb1 with
          | cons _ _ => exact .nil
          | nil =>
            exact .cons eb1 (.cons eb0 .nil)
  ·
    cases r1 with
    | cons _ _ => cases l1
    | nil =>
      cases r2 with
      | nil => cases l2
      | cons eb0 tb0 =>
        cases tb0 with
        | nil => cases l2
        | cons eb1 tb1 =>
          cases tb1 with
          | cons _ _ => cases l2
          | nil =>
            exact .cons eb1 (.cons eb0 .nil)
def g_kw_shortest_0_kinds {α : Type} : List α → List α → List α
  | [], [b0] => [b0]
  | _, _ => []
theorem kw_shortest_0_kinds : KwB "shortest" s_shortest ["kinds"] 0 ["kinds"] g_kw_shortest_0_kinds := by
  refine ⟨fun kV doc pm an cdv ct us ws h1 h2 => ?_, fun {vs us zs ws} r1 r2 => ?_, fun {K F vs zs ds es} l1 l2 r1 r2 => ?_⟩
  · match us, ws, h1, h2 with
    | [], [_], _, _ => rfl
  ·
    cases r1 with
    | cons _ _ => exact .nil
    | nil =>
      cases r2 with
      | nil => exact .nil
      | cons eb0 tb0 =>
        cases tb0 with
        | cons _ _ => exact .nil
        | nil =>
          exact .cons eb0 .nil
  ·
    cases r1 with
    | cons _ _ => cases l1
    | nil =>
      cases r2 with
      | nil => cases l2
      | cons eb0 tb0 =>
        cases tb0 with
        | cons _ _ => cases l2
        | nil =>
          exact .cons eb0 .nil
theorem ok__law_right {C_Effect : Addr} (T : Txt K mg C_Kind C_Effect) (F__law_rows : FnD P w K mg base 3 "_law_rows" s__law_rows ["_law_source", "_law_most"] (sp_rows)) (F_Kind_eq : MtdD P w K mg base 2 C_Kind "__eq__" s_Kind_eq ["self", "other"] (sp_eq C_Kind)) (F__law_results : FnD P w K mg base 3 "_law_results" s__law_results ["_law_rows_here"] (sp_results)) (F__law_parts : FnD P w K mg base 2 "_law_parts" s__law_parts ["_law_row"] (sp_lparts C_Kind)) (F__law_other : FnD P w K mg base 4 "_law_other" s__law_other ["_law_source", "_law_rows_here"] (sp_other64)) (F__law_made : FnD P w K mg base 5 "_law_made" s__law_made ["_law_rows_here"] (sp_kmade C_Kind)) (F_Kind_init : ClD P w K mg base 3 "Kind" C_Kind s_Kind_init ["self", "bits", "is_signed"] (sp_init C_Kind)) (F_do_same : FnD P w K mg base 4 "do_same" s_do_same ["kinds", "others"] (sp_dosame C_Kind)) (F_shortest : FnD P w K mg base 6 "shortest" s_shortest ["kinds"] (sp_short C_Kind)) : FnD P w K mg base 7 "_law_right" s__law_right ["_law_source"] (sp_right64 C_Kind) := by
  refine fn_mk T.h__law_right sc__law_right 12 rfl (by intro ds M Q h; first | (obtain ⟨rfl, _⟩ := h; rfl) | (obtain ⟨_, rfl, _⟩ := h; rfl) | (obtain ⟨_, _, rfl, _⟩ := h; rfl) | (obtain ⟨_, _, _, rfl, _⟩ := h; rfl) | (obtain ⟨_, _, _, _, rfl, _⟩ := h; rfl) | (obtain ⟨_, _, _, _, _, rfl, _⟩ := h; rfl) | (obtain ⟨_, _, _, _, _, _, rfl, _⟩ := h; rfl) | (obtain ⟨_, _, _, _, _, _, _, rfl, _⟩ := h; rfl) | (obtain ⟨_, _, _, _, _, _, _, _, rfl, _⟩ := h; rfl) | (obtain ⟨_, _, _, _, _, _, _, _, _, rfl, _⟩ := h; rfl) | (obtain ⟨_, _, _, _, _, _, _, _, _, _, rfl, _⟩ := h; rfl) | (obtain ⟨_, _, _, _, _, _, _, _, _, _, _, rfl, _⟩ := h; rfl) | (obtain ⟨_, _, _, _, _, _, _, _, _, _, _, _, rfl, _⟩ := h; rfl)) (fun f cdv A outer s H E hr => ⟨_, (dss_stop (ds_set (i := 1) sc__law_right.nd (de_call F__law_rows hr (da_cons (dv 0) (da_cons de_int da_nil))))
    (dss_stop (ds_asg (de_tup (da_cons (de_call F__law_results hr (da_cons (dv 1) da_nil)) (da_cons (de_call F__law_parts hr (da_cons (de_call F_shortest hr (da_cons (de_call F__law_made hr (da_cons (dv 1) da_nil)) da_nil)) da_nil)) da_nil))) (DGo.dg (vs := [2, 3]) (dgo_tup (n := 2) (dgs_cons (dgo_name (i := 2) (by decide) sc__law_right.nd rfl) (dgs_cons (dgo_name (i := 3) (by decide) sc__law_right.nd rfl) dgs_nil)))))
    (dss_stop (ds_set (i := 4) sc__law_right.nd (de_lst true da_nil))
    (dss_stop (ds_for (di_rng2 T.b_range (da_cons de_int (da_cons de_int da_nil))) (dg_name (i := 5) sc__law_right.nd)
    (dss_one (ds_expr (de_mt PySem.F.slot_list_extend PySem.F.type_list_extend md_extend (dv 4) (da_cons (de_lc false sc__law_right.nd (di_tup (de_tup (da_cons de_bl (da_cons de_bl da_nil)))) (blkOk_by (own := [("_law_flag", 10)]) (N := ["_law_source", "_law_rows_here", "_law_due", "_law_told", "_law_alone", "_law_bits", "_law_turn", "_law_other_here", "_law_is_same", "_law_plan", "_law_flag", "_law_shape_here"]) (sc := defScope s__law_right) (by decide +kernel)) (fun _ _ _ _ _ => (dgo_name (i := 10) (by decide) sc__law_right.nd rfl)) (fun _ _ _ _ _ => (dts_one (dt_cmp (od_eq hr.units) (de_call F__law_results hr (da_cons (de_lst false (da_cons (de_tup (da_cons (dv 5) (da_cons (dv 10) da_nil))) da_nil)) da_nil)) (dv 2)))) (fun _ _ _ _ _ => (de_tup (da_cons (dv 5) (da_cons (dv 10) da_nil))))) da_nil)))))
    (dss_stop (ds_if (dt_cmp (od_ne hr.units) (dv 4) (de_lst false da_nil))
    (dss_one (ds_if (dt_cmp (od_ne hr.units) (dv 3) (dv 4))
    (dss_one (ds_ret de_bl))
    dss_nil))
    (dss_one (ds_if (dt_cut (dt_w (dw_or (dt_cmp (od_ne hr.units) (de_cb (cd_len) (by rfl) T.b_len PySem.boot_len (da_cons (dv 3) da_nil)) de_int) (dw_or1 (dt_cmp (od_ne hr.units) (de_call F__law_results hr (da_cons (dv 3) da_nil)) (dv 2))))))
    (dss_one (ds_ret de_bl))
    dss_nil)))
    (dss_stop (ds_for (di_rng1 T.b_range (da_cons de_int da_nil)) (dg_name (i := 6) sc__law_right.nd)
    (dss_stop (ds_set (i := 7) sc__law_right.nd (de_call F__law_other hr (da_cons (dv 0) (da_cons (dv 1) da_nil))))
    (dss_stop (ds_if (dt_cmp od_gt (de_cb (cd_min rfl) (by rfl) T.b_min (by decide +kernel) (da_cons (de_lc false sc__law_right.nd (di_lst (dv 7)) (blkOk_by (own := [("_law_shape_here", 11)]) (N := ["_law_source", "_law_rows_here", "_law_due", "_law_told", "_law_alone", "_law_bits", "_law_turn", "_law_other_here", "_law_is_same", "_law_plan", "_law_flag", "_law_shape_here"]) (sc := defScope s__law_right) (by decide +kernel)) (fun _ _ _ _ _ => (dgo_name (i := 11) (by decide) sc__law_right.nd rfl)) (fun _ _ _ _ _ => dts_nil) (fun _ _ _ _ _ => (de_ix (dv 11) de_int))) da_nil)) de_int)
    (dss_one (ds_set (i := 7) sc__law_right.nd (dv 1)))
    dss_nil)
    (dss_stop (ds_set (i := 8) sc__law_right.nd (de_cmp (od_eq hr.units) (de_call F__law_results hr (da_cons (dv 7) da_nil)) (dv 2)))
    (dss_stop (ds_if (dt_cmp (od_ne hr.units) (de_call F_do_same hr (da_cons (de_call F__law_made hr (da_cons (dv 1) da_nil)) (da_cons (de_call F__law_made hr (da_cons (dv 7) da_nil)) da_nil))) (dv 8))
    (dss_one (ds_ret de_bl))
    dss_nil)
    (dss_one (ds_if (dt_cmp (od_ne hr.units) (de_callK0 g_kw_do_same_0_others_kinds F_do_same kw_do_same_0_others_kinds hr (dk_cons (de_call F__law_made hr (da_cons (dv 1) da_nil)) (dk_cons (de_call F__law_made hr (da_cons (dv 7) da_nil)) dk_nil))) (dv 8))
    (dss_one (ds_ret de_bl))
    dss_nil)))))))
    (dss_stop (ds_asg (de_tup (da_cons (de_call F__law_made hr (da_cons (dv 1) da_nil)) (da_cons (de_call F__law_made hr (da_cons (dv 3) da_nil)) da_nil))) (DGo.dg (vs := [9, 2]) (dgo_tup (n := 2) (dgs_cons (dgo_name (i := 9) (by decide) sc__law_right.nd rfl) (dgs_cons (dgo_name (i := 2) (by decide) sc__law_right.nd rfl) dgs_nil)))))
    (dss_stop (ds_if (dt_cut (dt_w (dw_or (dt_cmp (od_neK F_Kind_eq hr) (de_callK0 g_kw_shortest_0_kinds F_shortest kw_shortest_0_kinds hr (dk_cons (dv 9) dk_nil)) (dv 2)) (dw_or1 (dt_not (dt_val (de_call F_do_same hr (da_cons (dv 9) (da_cons (dv 2) da_nil)))))))))
    (dss_one (ds_ret de_bl))
    dss_nil)
    (dss_stop (ds_expr (de_mt PySem.F.slot_list_append PySem.F.type_list_append md_append (dv 9) (da_cons (de_make false F_Kind_init hr (da_cons de_int (da_cons de_bl da_nil))) da_nil)))
    (dss_stop (ds_if (dt_cut (dt_w (dw_or (dt_cmp (od_neK F_Kind_eq hr) (de_call F_shortest hr (da_cons (dv 9) da_nil)) (de_lst true (da_cons (de_make false F_Kind_init hr (da_cons de_int (da_cons de_bl da_nil))) da_nil))) (dw_or (dt_not (dt_val (de_call F_do_same hr (da_cons (dv 9) (da_cons (de_lst true (da_cons (de_make false F_Kind_init hr (da_cons de_int (da_cons de_bl da_nil))) da_nil)) da_nil))))) (dw_or1 (dt_val (de_call F_do_same hr (da_cons (dv 9) (da_cons (de_lst true (da_cons (de_make false F_Kind_init hr (da_cons de_int (da_cons de_bl da_nil))) da_nil)) da_nil)))))))))
    (dss_one (ds_ret de_bl))
    dss_nil)
    (dss_stop (ds_expr (de_mt0 PySem.F.slot_list_pop PySem.F.type_list_pop md_pop (dv 9)))
    (dss_one (ds_ret (de_cmp (od_eqK F_Kind_eq hr) (de_call F_shortest hr (da_cons (dv 9) da_nil)) (dv 2))))))))))))))), ?_⟩)
  rintro ds M Q ⟨a, rfl, hM, hQ⟩
  (refine stop_to ?_; and_intros)
  refine ⟨a, 6, rfl, hM, by decide, by decide, fun R M1 r1 r2 r3 ⟨z, hz, hz6⟩ s1 => ?_⟩
  have hR : RowOk R := ⟨r1, r2, by omega⟩
  have b6 : (effP R).b ≤ 6 := Nat.le_trans (eff_all z hz) hz6
  have hs := s1.src
  clear s1 hM hz hz6 z
  (refine stop_to ?_; and_intros)
  refine ⟨R, rfl, r1, R, rfl, r1, by omega, fun l hl => ?_⟩
  have hs2 : Src (updM M1 l (.lst (kindsD C_Kind R))) a := by
    obtain ⟨x, y, z, e, ok⟩ := hs
    exact ⟨x, y, z, LeM.new hl _ _ e, ok⟩
  refine short64 hR updM_same ⟨rowE (effP R), rfl, by have := (row_ok (own_ok hR)).2; omega, lit_len (n := 2) (by decide), rfl, ?_⟩
  generalize updM M1 l (.lst (kindsD C_Kind R)) = M2 at hs2 ⊢
  clear hl hs
  have hL := row_ok (own_ok hR)
  have eL := eff_row (own_ok hR)
  have nL := row_len (own_ok hR)
  have aL := al_end (own_ok hR) b6
  generalize hLL : rowE (effP R) = L at hL eL nL aL ⊢
  (refine stop_to ?_; and_intros)
  refine ⟨lit_len (n := 0) (by decide), fun f hf => ?_⟩
  have hs3 : Src (updM M2 f (.lst [])) a := by
    obtain ⟨x, y, z, e, ok⟩ := hs2
    exact ⟨x, y, z, LeM.new hf _ _ e, ok⟩
  have n3 : f ≠ a := src_ne' hs2 hf
  have m3 : updM M2 f (.lst []) f = some (.lst ((alZ L 0).map shD)) := by
    rw [updM_same]
    have : alZ L 0 = [] := by
      match L, hL.1 with
      | [], _ => rfl
      | [(c, t)], h => 
        have h1 := (h.wd (c, t) (List.mem_singleton.mpr rfl)).1
        show (if c ≤ 0 then [(c, t)] else []) = []
        have h1 : 1 ≤ c := h1
        rw [if_neg (by omega)]
      | _ :: _ :: _, _ => rfl
    rw [this]
    rfl
  generalize updM M2 f (.lst []) = M3 at hs3 m3 ⊢
  clear hf hs2
  (refine stop_to ?_; and_intros)
  refine ⟨by decide, ?_⟩
  refine loop_ix (fun i ρ M4 => M4 f = some (.lst ((alZ L i).map shD)) ∧ Src M4 a ∧ ∃ x5 x10 : Option Dat, ρ = [some (.ref a), some (.lst (R.map shD)), some (.lst ((resL R).map Dat.int)), some (.lst (L.map shD)), some (.ref f), x5, none, none, none, none, x10, none]) ⟨m3, hs3, none, none, rfl⟩ ?_ ?_
  rotate_left
  · rintro i d ρ M4 k hd ⟨m4, hs4, x5, x10, rfl⟩ hk
    obtain ⟨hi, rfl⟩ := rngD_at hd
    have hi : i < 7 := hi
    rw [show (1 : Int) + (i : Nat) = ((i + 1 : Nat) : Int) by omega]
    and_intros
    refine ⟨⟨_, by rw [m4]⟩, lit_len (n := 2) (by decide), ?_⟩
    try refine ⟨lit_len (n := 2) (by decide), ?_⟩
    refine lc_fltG Dat.bl (fun t => shD (i + 1, t)) (fun t => decide (L = [(i + 1, t)])) (U := [false, true]) (fun t _ kk acc g1 g2 => ?_) ?_
    · have w : Wd (i + 1) := ⟨by omega, by omega⟩
      and_intros
      refine ⟨lit_len (n := 2) (by decide), lit_len (n := 1) (by decide), [(i + 1, t)], rfl, (one_ok w).wd, ?_⟩
      refine ⟨ints_shp _, ints_shp _, ?_⟩
      and_intros
      have e1 : eqDs ((resL [(i + 1, t)]).map Dat.int) ((resL R).map Dat.int) = decide (L = [(i + 1, t)]) := by
        rw [eqDs_ints]
        refine decide_eq_decide.mpr ?_
        rw [resL_iff, one_iff hR w (by omega) (by omega), hLL]
      by_cases h : L = [(i + 1, t)]
      · rw [decide_eq_true h] at e1
        refine if_yes e1 ?_
        exact ⟨lit_len (n := 2) (by decide), g1 (decide_eq_true h)⟩
      · rw [decide_eq_false h] at e1
        refine if_no e1 ?_
        exact g2 (decide_eq_false h)
    have l1 : (alZ L i).length ≤ 1 := by
      unfold alZ
      split
      · split <;> simp
      · simp
    have l2 := List.length_filter_le (fun t => decide (L = [(i + 1, t)])) [false, true]
    refine ⟨_, _, m4, rfl, lit_len (n := 3) (by decide) |> Nat.le_trans (by simp only [List.length_map]; simp only [List.length_cons, List.length_nil] at l2; omega), ?_⟩
    have hs5 : Src (updM M4 f (.lst ((alZ L i).map shD ++ ([false, true].filter fun t => decide (L = [(i + 1, t)])).map fun t => shD (i + 1, t)))) a := by
      obtain ⟨x, y, z, e, ok⟩ := hs4
      exact ⟨x, y, z, by rw [updM_ne (Ne.symm n3)]; exact e, ok⟩
    refine hk _ _ ⟨?_, hs5, _, _, rfl⟩
    rw [updM_same, ← al_step L i, List.map_append, List.map_map]
    rfl
  rintro ρ M4 ⟨m4, hs4, x5, x10, rfl⟩
  have m4 : M4 f = some (.lst ((alZ L 7).map shD)) := m4
  rw [aL] at m4
  clear m3 hs3 n3 M3
  and_intros
  refine stop_by (fun ρ' M5 => M5 = M4 ∧ ρ' = [some (.ref a), some (.lst (R.map shD)), some (.lst ((resL R).map Dat.int)), some (.lst (L.map shD)), some (.ref f), x5, none, none, none, none, x10, none]) ?_ ?_
  · and_intros
    have em : eqDs [] ([] : List Dat) = true := rfl
    rw [deref_at m4, eqD_lst, eqD_lst, show ([] : List Dat) = ([] : List (Nat × Bool)).map shD from rfl, sh_eq, sh_eq]
    refine ⟨lit_len (n := 0) (by decide), sh_shp _, rfl, ?_⟩
    rcases nL with n1 | n2
    · have h1 : L ≠ [] := fun h => by rw [h] at n1; cases n1
      rw [if_pos n1]
      refine if_yes (by rw [decide_eq_false h1]; rfl) ⟨sh_shp _, sh_shp _, if_no (by rw [decide_eq_true rfl]; rfl) ⟨True.intro, True.intro⟩⟩
    · have h1 : ¬ L.length = 1 := by omega
      rw [if_neg h1]
      refine if_no (by rw [decide_eq_true rfl]; rfl) ?_
      have hLR : resL L = resL R := resL_iff.mpr ((same_iff hL.1 hR (by rw [eL]; omega) (by omega)).mpr eL)
      refine ⟨fun v M10 => v = false ∧ M10 = M4, ?_, ?_⟩
      · and_intros
        refine ⟨_, rfl, ?_⟩
        refine if_no (show (!decide ((((L.map shD).length : Nat) : Int) = 2)) = false by rw [List.length_map, n2]; rfl) ?_
        and_intros
        refine ⟨L, rfl, hL.1.wd, ints_shp _, ints_shp _, ?_⟩
        have e3 : eqD (deref M4 (Dat.lst ((resL L).map Dat.int))) (deref M4 (Dat.lst ((resL R).map Dat.int))) = true := by
          show eqD (Dat.lst _) (Dat.lst _) = true
          rw [eqD_lst, eqDs_ints, hLR, decide_eq_true rfl]
        rw [e3]
        exact ⟨rfl, rfl⟩
      · rintro b M10 ⟨rfl, rfl⟩
        exact ⟨rfl, True.intro⟩
  rintro ρ' M5 ⟨rfl, rfl⟩
  (refine stop_to ?_; and_intros)
  refine ⟨by decide, by decide, ?_⟩
  refine loop_n (fun _ ρ M6 => Src M6 a ∧ ∃ x5 x6 x7 x8 x9 x10 x11 : Option Dat, ρ = [some (.ref a), some (.lst (R.map shD)), some (.lst ((resL R).map Dat.int)), some (.lst (L.map shD)), some (.ref f), x5, x6, x7, x8, x9, x10, x11]) ⟨hs4, _, _, _, _, _, _, _, rfl⟩ ?_ ?_
  rotate_left
  · rintro i ρ M6 k hi ⟨hs6, x5, x6, x7, x8, x9, x10, x11, rfl⟩ hk
    (refine stop_to ?_; and_intros)
    refine ⟨a, R, rfl, hs6, hR, by omega, fun T M7 hT lT s7 => ?_⟩
    refine stop_by (fun ρ' M8 => M8 = M7 ∧ ∃ T, RowOk T ∧ T.length ≤ 19 ∧ (effP T).b ≤ 7 ∧ ρ' = [some (.ref a), some (.lst (R.map shD)), some (.lst ((resL R).map Dat.int)), some (.lst (L.map shD)), some (.ref f), x5, some (.int (0 + (i : Int))), some (.lst (T.map shD)), x8, x9, x10, x11]) ?_ ?_
    · and_intros
      refine ⟨_, rfl, lit_len (by rw [List.length_map]; omega), ?_⟩
      refine lc_fltG shD (fun q : Nat × Bool => Dat.int (q.1 : Nat)) (fun _ => true) (fun q _ kk acc h1 _ => ?_) ?_
      · and_intros
        exact ⟨_, _, rfl, rfl, h1 rfl⟩
      rw [List.filter_eq_self.mpr fun _ _ => rfl]
      have eT : T.map (fun q : Nat × Bool => Dat.int (q.1 : Nat)) = (T.map fun q => ((q.1 : Nat) : Int)).map Dat.int := by rw [List.map_map]; rfl
      refine ⟨_, congrArg some eT, by rw [List.length_map]; exact hT.pos, fun m hm1 hm2 => ?_⟩
      by_cases g : (7 : Int) < m
      · refine if_yes (decide_eq_true g) ?_
        exact ⟨rfl, R, hR, by omega, by omega, rfl⟩
      · refine if_no (decide_eq_false g) ?_
        obtain ⟨q, hq, rfl⟩ := List.mem_map.mp hm1
        have := eff_all q hq
        exact ⟨rfl, T, hT, lT, by omega, rfl⟩
    rintro ρ' M8 ⟨rfl, T, hT, lT, bT, rfl⟩
    (refine stop_to ?_; and_intros)
    refine ⟨T, rfl, hT.wd, ints_shp _, ints_shp _, ?_⟩
    have e0 : eqD (deref M8 (Dat.lst ((resL T).map Dat.int))) (deref M8 (Dat.lst ((resL R).map Dat.int))) = decide (resL T = resL R) := by
      show eqD (Dat.lst _) (Dat.lst _) = _
      rw [eqD_lst, eqDs_ints]
    rw [e0]
    have hv : decide (resL T = resL R) = true ↔ effP T = effP R := by
      rw [decide_eq_true_eq, resL_iff]
      exact same_iff hT hR bT (by omega)
    generalize decide (resL T = resL R) = v at hv ⊢
    (refine stop_to ?_; and_intros)
    refine ⟨R, rfl, hR.wd, by omega, fun l hl => ⟨T, rfl, hT.wd, by omega, fun l2 hl2 => ?_⟩⟩
    obtain ⟨e1, e2, s9, _⟩ := two64 (Y := .lst (kindsD C_Kind T)) s7.src hl hl2
    refine same64 hR hT e1 e2 fun v2 hv2 => ?_
    refine ne_bl (tr_bl hv2 hv ⟨Eq.symm, Eq.symm⟩) ?_
    refine ⟨R, rfl, hR.wd, by omega, fun l3 hl3 => ⟨T, rfl, hT.wd, by omega, fun l4 hl4 => ⟨rfl, rfl, ?_⟩⟩⟩
    obtain ⟨e3, e4, s10, _⟩ := two64 (Y := .lst (kindsD C_Kind T)) s9 hl3 hl4
    refine same64 hT hR e4 e3 fun v3 hv3 => ?_
    refine ne_bl (B := fun M => k _ M) (tr_bl hv3 hv Iff.rfl) ?_
    exact hk _ _ ⟨s10, _, _, _, _, _, _, _, rfl⟩
  rintro ρ M6 ⟨hs6, x5, x6, x7, x8, x9, x10, x11, rfl⟩
  (refine stop_to ?_; and_intros)
  refine ⟨R, rfl, hR.wd, by omega, fun p hp => ⟨L, rfl, hL.1.wd, by omega, fun q hq => ⟨lit_len (n := 2) (by decide), rfl, ?_⟩⟩⟩
  have npa := src_ne' hs6 hp
  obtain ⟨mp, mq, hs7, npq⟩ := two64 (Y := .lst (kindsD C_Kind L)) hs6 hp hq
  generalize updM (updM M6 p (.lst (kindsD C_Kind R))) q (.lst (kindsD C_Kind L)) = M7 at mp mq hs7 ⊢
  clear hp hq hs6 M6
  (refine stop_to ?_; and_intros)
  have nq : (effP R) = effP L := eL.symm
  refine ⟨fun v M8 => v = false ∧ M8 = M7, ?_, ?_⟩
  · and_intros
    refine ⟨rfl, rfl, short64 hR mp ?_⟩
    rw [hLL]
    refine ⟨_, _, rfl, lsR_at mq, pairsK64 C_Kind L, ?_⟩
    and_intros
    refine same64 hR hL.1 mp mq fun v hv => ?_
    have : v = true := hv.mpr nq
    subst this
    exact ⟨rfl, rfl⟩
  rintro b M8 ⟨rfl, rfl⟩
  and_intros
  (refine stop_to ?_; and_intros)
  refine ⟨⟨_, by rw [mp]⟩, fun b hb => ⟨b, 1, true, rfl, ⟨by decide, by decide⟩, updM_same, rfl, _, by rw [updM_updM]; exact updM_same, ?_⟩⟩
  rw [updM_updM, delM_updM hb]
  have lK : (kindsD C_Kind R).length = R.length := List.length_map _
  refine ⟨_, mp, lit_len (by rw [lK]; omega), ?_⟩
  have eK : kindsD C_Kind R ++ [Dat.ins C_Kind [("bits", .int ((1 : Nat) : Int)), ("is_signed", .bl true)]] = kindsD C_Kind (R ++ [(1, true)]) := (kindsD_app C_Kind R [(1, true)]).symm
  rw [eK]
  have hs9 : Src (updM M8 p (.lst (kindsD C_Kind (R ++ [(1, true)])))) a := by
    obtain ⟨x, y, z, e, ok⟩ := hs7
    exact ⟨x, y, z, by rw [updM_ne (Ne.symm npa)]; exact e, ok⟩
  have mp9 : updM M8 p (.lst (kindsD C_Kind (R ++ [(1, true)]))) p = _ := updM_same
  have mq9 : updM M8 p (.lst (kindsD C_Kind (R ++ [(1, true)]))) q = some (.lst (kindsD C_Kind L)) := by rw [updM_ne (Ne.symm npq)]; exact mq
  generalize updM M8 p (.lst (kindsD C_Kind (R ++ [(1, true)]))) = M9 at hs9 mp9 mq9 ⊢
  clear mp mq hs7 hb M8
  have w1 : Wd 1 := ⟨by decide, by decide⟩
  have hR1 : RowOk (R ++ [(1, true)]) := ⟨fun y hy => by
    rcases List.mem_append.mp hy with hy | hy
    · exact hR.wd y hy
    · rw [List.mem_singleton.mp hy]
      exact w1, by simp, by simp; omega⟩
  have e1 : effP (R ++ [(1, true)]) = ⟨1, 1, true⟩ := snoc_one hR (by omega)
  have r1 : rowE (effP (R ++ [(1, true)])) = [(1, true)] := by rw [e1]; rfl
  (refine stop_to ?_; and_intros)
  refine ⟨fun v M10 => v = false ∧ Src M10 a ∧ M10 p = some (.lst (kindsD C_Kind (R ++ [(1, true)]))) ∧ M10 q = some (.lst (kindsD C_Kind L)), ?_, ?_⟩
  · and_intros
    refine short64 hR1 mp9 ?_
    rw [r1]
    refine fun b hb => ⟨b, 1, true, rfl, w1, updM_same, rfl, _, by rw [updM_updM]; exact updM_same, lit_len (n := 1) (by decide), fun g hg => ?_⟩
    rw [updM_updM, delM_updM hb] at hg ⊢
    have kp : ∀ {g : Addr} {M : MH} {X : MO}, M g = none → Src M a ∧ M p = some (.lst (kindsD C_Kind (R ++ [(1, true)]))) ∧ M q = some (.lst (kindsD C_Kind L)) → Src (updM M g X) a ∧ updM M g X p = some (.lst (kindsD C_Kind (R ++ [(1, true)]))) ∧ updM M g X q = some (.lst (kindsD C_Kind L)) := fun {g M X} h ⟨h1, h2, h3⟩ => by
      obtain ⟨x, y, z, e, ok⟩ := h1
      exact ⟨⟨x, y, z, LeM.new h _ _ e, ok⟩, LeM.new h _ _ h2, LeM.new h _ _ h3⟩
    have k10 := kp (X := .lst (kindsD C_Kind [(1, true)])) hg ⟨hs9, mp9, mq9⟩
    have g10 : updM M9 g (.lst (kindsD C_Kind [(1, true)])) g = _ := updM_same
    show rNeK C_Kind (sp_eq C_Kind) _ (.ref g) (updM M9 g (.lst (kindsD C_Kind [(1, true)]))) _
    generalize updM M9 g (.lst (kindsD C_Kind [(1, true)])) = M10 at k10 g10 ⊢
    refine ⟨_, _, rfl, lsR_at g10, pairsK64 C_Kind _, ?_⟩
    and_intros
    refine fun b2 hb2 => ⟨b2, 1, true, rfl, w1, updM_same, rfl, _, by rw [updM_updM]; exact updM_same, lit_len (n := 1) (by decide), fun g2 hg2 => ?_⟩
    rw [updM_updM, delM_updM hb2] at hg2 ⊢
    have k11 := kp (X := .lst (kindsD C_Kind [(1, true)])) hg2 k10
    have g11 : updM M10 g2 (.lst (kindsD C_Kind [(1, true)])) g2 = _ := updM_same
    show sp_dosame C_Kind [.ref p, .ref g2] (updM M10 g2 (.lst (kindsD C_Kind [(1, true)]))) _
    generalize updM M10 g2 (.lst (kindsD C_Kind [(1, true)])) = M11 at k11 g11 ⊢
    refine same64 hR1 (one_ok w1) k11.2.1 g11 fun v hv => ?_
    have : v = true := hv.mpr (e1.trans (eff1 1 true).symm)
    subst this
    and_intros
    refine fun b3 hb3 => ⟨b3, 1, false, rfl, w1, updM_same, rfl, _, by rw [updM_updM]; exact updM_same, lit_len (n := 1) (by decide), fun g3 hg3 => ?_⟩
    rw [updM_updM, delM_updM hb3] at hg3 ⊢
    have k12 := kp (X := .lst (kindsD C_Kind [(1, false)])) hg3 k11
    have g12 : updM M11 g3 (.lst (kindsD C_Kind [(1, false)])) g3 = _ := updM_same
    show sp_dosame C_Kind [.ref p, .ref g3] (updM M11 g3 (.lst (kindsD C_Kind [(1, false)]))) _
    generalize updM M11 g3 (.lst (kindsD C_Kind [(1, false)])) = M12 at k12 g12 ⊢
    refine same64 hR1 (one_ok w1) k12.2.1 g12 fun v hv => ?_
    have : v = false := by
      cases v with
      | false => rfl
      | true =>
        have h := hv.mp rfl
        rw [e1, eff1] at h
        cases h
    subst this
    exact ⟨rfl, k12⟩
  rintro v M10 ⟨rfl, hs10, mp10, mq10⟩
  and_intros
  (refine stop_to ?_; and_intros)
  have lK2 : (kindsD C_Kind (R ++ [(1, true)])).length - 1 = R.length := by
    show ((R ++ [(1, true)]).map fun q : Nat × Bool => kindD C_Kind q.1 q.2).length - 1 = _
    rw [List.length_map, List.length_append]
    rfl
  refine ⟨⟨_, by rw [mp10]⟩, _, kindD C_Kind 1 true, mp10, ?_, ?_⟩
  · rw [lK2]
    show ((R ++ [(1, true)]).map fun q : Nat × Bool => kindD C_Kind q.1 q.2)[R.length]? = _
    rw [List.getElem?_map, List.getElem?_append_right (Nat.le_refl _), Nat.sub_self]
    rfl
  have eD : (kindsD C_Kind (R ++ [(1, true)])).dropLast = kindsD C_Kind R := by
    rw [kindsD_app]
    exact List.dropLast_concat
  rw [eD]
  have mq11 : updM M10 p (.lst (kindsD C_Kind R)) q = some (.lst (kindsD C_Kind L)) := by rw [updM_ne (Ne.symm npq)]; exact mq10
  refine short64 hR updM_same ?_
  rw [hLL]
  refine ⟨_, _, rfl, lsR_at mq11, pairsK64 C_Kind _, endD_of ?_⟩
  obtain ⟨x, y, z, e, ok⟩ := hs10
  exact hQ _ ⟨x, y, z, by rw [updM_ne (Ne.symm npa)]; exact e, ok⟩
theorem cell_ints64 {c0 : Int} {ms : List Int} : ∀ d ∈ [Dat.int c0] ++ ms.map Dat.int, ∃ n, d = .int n := by
  intro d hd
  rcases List.mem_append.mp hd with h | h
  · exact ⟨c0, List.mem_singleton.mp h⟩
  · obtain ⟨n, _, rfl⟩ := List.mem_map.mp h
    exact ⟨n, rfl⟩
theorem ok_law {C_Effect : Addr} (T : Txt K mg C_Kind C_Effect) (F__law_source_of : FnD P w K mg base 1 "_law_source_of" s__law_source_of ["_law_cell"] (sp_source_of)) (F__law_cell_at : FnD P w K mg base 1 "_law_cell_at" s__law_cell_at ["_law_script", "_law_at"] (sp_cell)) (F__law_right : FnD P w K mg base 7 "_law_right" s__law_right ["_law_source"] (sp_right64 C_Kind)) : FnD P w K mg base 8 "law" s_law ["_law_script"] (spLaw) := by
  refine fn_mk T.h_law sc_law 4 rfl (by intro ds M Q h; first | (obtain ⟨rfl, _⟩ := h; rfl) | (obtain ⟨_, rfl, _⟩ := h; rfl) | (obtain ⟨_, _, rfl, _⟩ := h; rfl) | (obtain ⟨_, _, _, rfl, _⟩ := h; rfl) | (obtain ⟨_, _, _, _, rfl, _⟩ := h; rfl) | (obtain ⟨_, _, _, _, _, rfl, _⟩ := h; rfl) | (obtain ⟨_, _, _, _, _, _, rfl, _⟩ := h; rfl) | (obtain ⟨_, _, _, _, _, _, _, rfl, _⟩ := h; rfl) | (obtain ⟨_, _, _, _, _, _, _, _, rfl, _⟩ := h; rfl) | (obtain ⟨_, _, _, _, _, _, _, _, _, rfl, _⟩ := h; rfl) | (obtain ⟨_, _, _, _, _, _, _, _, _, _, rfl, _⟩ := h; rfl) | (obtain ⟨_, _, _, _, _, _, _, _, _, _, _, rfl, _⟩ := h; rfl) | (obtain ⟨_, _, _, _, _, _, _, _, _, _, _, _, rfl, _⟩ := h; rfl)) (fun f cdv A outer s H E hr => ⟨_, (dss_stop (ds_for (di_lst (de_op (od_add false) (de_lst false (da_cons (de_call F__law_cell_at hr (da_cons (dv 0) (da_cons de_int da_nil))) da_nil)) (de_sl false (dv 0) (do_some de_int) (do_some de_int)))) (dg_name (i := 1) sc_law.nd)
    (dss_cons (ds_set (i := 2) sc_law.nd (de_call F__law_source_of hr (da_cons (dv 1) da_nil)))
    (dss_one (ds_for (di_rng1 T.b_range (da_cons de_int da_nil)) (dg_name (i := 3) sc_law.nd)
    (dss_one (ds_if (dt_not (dt_val (de_call F__law_right hr (da_cons (dv 2) da_nil))))
    (dss_one (ds_ret de_bl))
    dss_nil))))))
    (dss_one (ds_ret de_bl))), ?_⟩)
  rintro ds M Q ⟨ns, rfl, hl, hQ⟩
  (refine stop_to ?_; and_intros)
  refine ⟨ns, 0, rfl, hl, fun c0 => ?_⟩
  obtain ⟨ms, he, hm⟩ := cutD_ints (ns := ns) (some (1 : Int)) (some (4 : Int))
  refine ⟨lit_len (n := 1) (by decide), _, rfl, ?_⟩
  rw [he]
  refine ⟨_, _, rfl, rfl, lit_len (by rw [List.length_map]; show 1 + ms.length ≤ 1000; omega), _, rfl, ?_⟩
  refine loop_by (fun l ρ M' => (∀ d ∈ l, ∃ n, d = .int n) ∧ ∃ x1 x2 x3 : Option Dat, ρ = [some (.frl (ns.map Dat.int)), x1, x2, x3]) ?_ ?_ _ _ _ ⟨cell_ints64, none, none, none, rfl⟩
  · rintro ρ M2 ⟨_, x1, x2, x3, rfl⟩
    and_intros
    exact endD_of (hQ _)
  · rintro d r ρ M2 k ⟨hd, x1, x2, x3, rfl⟩ hk
    obtain ⟨c, rfl⟩ := hd d (by simp)
    and_intros
    refine ⟨c, rfl, fun a sx sy sz ha hok => ?_⟩
    have hs : Src (updM M2 a (srcD sx sy sz)) a := ⟨_, _, _, updM_same, hok⟩
    generalize updM M2 a (srcD sx sy sz) = M3 at hs
    refine ⟨by decide, by decide, ?_⟩
    refine loop_n (fun _ ρ M4 => Src M4 a ∧ ∃ x3 : Option Dat, ρ = [some (.frl (ns.map Dat.int)), some (.int c), some (.ref a), x3]) ⟨hs, _, rfl⟩ ?_ ?_
    · rintro ρ M4 ⟨_, x3, rfl⟩
      exact hk _ _ ⟨fun d h => hd d (by simp [h]), _, _, _, rfl⟩
    · rintro i ρ M4 k2 _ ⟨hs, x3, rfl⟩ hk2
      and_intros
      refine ⟨a, rfl, hs, fun M9 s9 => ?_⟩
      and_intros
      exact hk2 _ _ ⟨s9, _, rfl⟩
end
theorem all_mk {l : PySem.W.OpenLaw} {w : World} {K : PySem.W.Frag} {h : Heap} {mg : Str → Option Value} {fa f0 f1 f2 f3 f4 f5 f6 f7 f8 f9 f10 f11 f12 f13 f14 f15 f16 f17 f18 f19 f20 f21 f22 f23 f24 f25 f26 f27 f28 C_Kind C_Effect : Addr} (X : K.In h) (G : h.Ns mainGlobals mg) (hfa : mg "law" = some (.ref fa))
    {od0 an0 od1 an1 od2 an2 od3 an3 od4 an4 od5 an5 od6 an6 od7 an7 od8 an8 od9 an9 od10 an10 od11 an11 od12 an12 od13 an13 od14 an14 od15 an15 od16 an16 od17 an17 od18 an18 od19 an19 od20 an20 od21 an21 od22 an22 od23 an23 od24 an24 od25 an25 od26 an26 od27 an27 od28 an28 : Option Addr} {sl0 sl1 sl2 sl3 sl4 sl5 sl6 sl7 sl8 sl9 sl10 sl11 sl12 sl13 sl14 sl15 sl16 sl17 sl18 sl19 sl20 sl21 sl22 sl23 sl24 sl25 sl26 sl27 sl28 : Array (Option Value)} {oc0 kV0 dc0 pm0 ct0 cd0 oc1 kV1 dc1 pm1 ct1 cd1 oc2 kV2 dc2 pm2 ct2 cd2 oc3 kV3 dc3 pm3 ct3 cd3 oc4 kV4 dc4 pm4 ct4 cd4 oc5 kV5 dc5 pm5 ct5 cd5 oc6 kV6 dc6 pm6 ct6 cd6 oc7 kV7 dc7 pm7 ct7 cd7 oc8 kV8 dc8 pm8 ct8 cd8 oc9 kV9 dc9 pm9 ct9 cd9 oc10 kV10 dc10 pm10 ct10 cd10 oc11 kV11 dc11 pm11 ct11 cd11 oc12 kV12 dc12 pm12 ct12 cd12 oc13 kV13 dc13 pm13 ct13 cd13 oc14 kV14 dc14 pm14 ct14 cd14 oc15 kV15 dc15 pm15 ct15 cd15 oc16 kV16 dc16 pm16 ct16 cd16 oc17 kV17 dc17 pm17 ct17 cd17 oc18 kV18 dc18 pm18 ct18 cd18 oc19 kV19 dc19 pm19 ct19 cd19 oc20 kV20 dc20 pm20 ct20 cd20 oc21 kV21 dc21 pm21 ct21 cd21 oc22 kV22 dc22 pm22 ct22 cd22 oc23 kV23 dc23 pm23 ct23 cd23 oc24 kV24 dc24 pm24 ct24 cd24 oc25 kV25 dc25 pm25 ct25 cd25 oc26 kV26 dc26 pm26 ct26 cd26 oc27 kV27 dc27 pm27 ct27 cd27 oc28 kV28 dc28 pm28 ct28 cd28 : Value} {t_MOST_BITS t_MOST_KINDS : Tok}
    (m_Kind : PySem.W.nsIn K mainGlobals "Kind" = some (some (.ref C_Kind)))
    (m_Effect : PySem.W.nsIn K mainGlobals "Effect" = some (some (.ref C_Effect)))
    (a0 : PySem.W.nsIn K mainGlobals "_wall" = some (some (.ref f0)))
    (l0 : K.lookup f0 = some ⟨oc0, od0, .func (PySem.W.fnOf "_wall" "_wall" (defArgs s__wall) (defBody s__wall) (defScope s__wall) .none kV0 dc0 pm0 an0 cd0 ct0), sl0⟩)
    (c0 : PySem.W.codeIn K cd0 "_wall" = true)
    (k0 : PySem.W.keepIn K (.ref f0) = true)
    (a1 : PySem.W.nsIn K mainGlobals "is_integer" = some (some (.ref f1)))
    (l1 : K.lookup f1 = some ⟨oc1, od1, .func (PySem.W.fnOf "is_integer" "is_integer" (defArgs s_is_integer) (defBody s_is_integer) (defScope s_is_integer) .none kV1 dc1 pm1 an1 cd1 ct1), sl1⟩)
    (c1 : PySem.W.codeIn K cd1 "is_integer" = true)
    (k1 : PySem.W.keepIn K (.ref f1) = true)
    (a2 : PySem.W.nsIn K mainGlobals "is_between" = some (some (.ref f2)))
    (l2 : K.lookup f2 = some ⟨oc2, od2, .func (PySem.W.fnOf "is_between" "is_between" (defArgs s_is_between) (defBody s_is_between) (defScope s_is_between) .none kV2 dc2 pm2 an2 cd2 ct2), sl2⟩)
    (c2 : PySem.W.codeIn K cd2 "is_between" = true)
    (k2 : PySem.W.keepIn K (.ref f2) = true)
    (a3 : PySem.W.nsIn K mainGlobals "effect_of" = some (some (.ref f3)))
    (l3 : K.lookup f3 = some ⟨oc3, od3, .func (PySem.W.fnOf "effect_of" "effect_of" (defArgs s_effect_of) (defBody s_effect_of) (defScope s_effect_of) .none kV3 dc3 pm3 an3 cd3 ct3), sl3⟩)
    (c3 : PySem.W.codeIn K cd3 "effect_of" = true)
    (k3 : PySem.W.keepIn K (.ref f3) = true)
    (a4 : PySem.W.nsIn K mainGlobals "check_row" = some (some (.ref f4)))
    (l4 : K.lookup f4 = some ⟨oc4, od4, .func (PySem.W.fnOf "check_row" "check_row" (defArgs s_check_row) (defBody s_check_row) (defScope s_check_row) .none kV4 dc4 pm4 an4 cd4 ct4), sl4⟩)
    (c4 : PySem.W.codeIn K cd4 "check_row" = true)
    (k4 : PySem.W.keepIn K (.ref f4) = true)
    (a5 : PySem.W.nsIn K mainGlobals "do_same" = some (some (.ref f5)))
    (l5 : K.lookup f5 = some ⟨oc5, od5, .func (PySem.W.fnOf "do_same" "do_same" (defArgs s_do_same) (defBody s_do_same) (defScope s_do_same) .none kV5 dc5 pm5 an5 cd5 ct5), sl5⟩)
    (c5 : PySem.W.codeIn K cd5 "do_same" = true)
    (k5 : PySem.W.keepIn K (.ref f5) = true)
    (a6 : PySem.W.nsIn K mainGlobals "shortest" = some (some (.ref f6)))
    (l6 : K.lookup f6 = some ⟨oc6, od6, .func (PySem.W.fnOf "shortest" "shortest" (defArgs s_shortest) (defBody s_shortest) (defScope s_shortest) .none kV6 dc6 pm6 an6 cd6 ct6), sl6⟩)
    (c6 : PySem.W.codeIn K cd6 "shortest" = true)
    (k6 : PySem.W.keepIn K (.ref f6) = true)
    (a7 : PySem.W.nsIn K mainGlobals "_law_cell_at" = some (some (.ref f7)))
    (l7 : K.lookup f7 = some ⟨oc7, od7, .func (PySem.W.fnOf "_law_cell_at" "_law_cell_at" (defArgs s__law_cell_at) (defBody s__law_cell_at) (defScope s__law_cell_at) .none kV7 dc7 pm7 an7 cd7 ct7), sl7⟩)
    (c7 : PySem.W.codeIn K cd7 "_law_cell_at" = true)
    (k7 : PySem.W.keepIn K (.ref f7) = true)
    (a8 : PySem.W.nsIn K mainGlobals "_law_source_of" = some (some (.ref f8)))
    (l8 : K.lookup f8 = some ⟨oc8, od8, .func (PySem.W.fnOf "_law_source_of" "_law_source_of" (defArgs s__law_source_of) (defBody s__law_source_of) (defScope s__law_source_of) .none kV8 dc8 pm8 an8 cd8 ct8), sl8⟩)
    (c8 : PySem.W.codeIn K cd8 "_law_source_of" = true)
    (k8 : PySem.W.keepIn K (.ref f8) = true)
    (a9 : PySem.W.nsIn K mainGlobals "_law_next" = some (some (.ref f9)))
    (l9 : K.lookup f9 = some ⟨oc9, od9, .func (PySem.W.fnOf "_law_next" "_law_next" (defArgs s__law_next) (defBody s__law_next) (defScope s__law_next) .none kV9 dc9 pm9 an9 cd9 ct9), sl9⟩)
    (c9 : PySem.W.codeIn K cd9 "_law_next" = true)
    (k9 : PySem.W.keepIn K (.ref f9) = true)
    (a10 : PySem.W.nsIn K mainGlobals "_law_one" = some (some (.ref f10)))
    (l10 : K.lookup f10 = some ⟨oc10, od10, .func (PySem.W.fnOf "_law_one" "_law_one" (defArgs s__law_one) (defBody s__law_one) (defScope s__law_one) .none kV10 dc10 pm10 an10 cd10 ct10), sl10⟩)
    (c10 : PySem.W.codeIn K cd10 "_law_one" = true)
    (k10 : PySem.W.keepIn K (.ref f10) = true)
    (a11 : PySem.W.nsIn K mainGlobals "_law_put" = some (some (.ref f11)))
    (l11 : K.lookup f11 = some ⟨oc11, od11, .func (PySem.W.fnOf "_law_put" "_law_put" (defArgs s__law_put) (defBody s__law_put) (defScope s__law_put) .none kV11 dc11 pm11 an11 cd11 ct11), sl11⟩)
    (c11 : PySem.W.codeIn K cd11 "_law_put" = true)
    (k11 : PySem.W.keepIn K (.ref f11) = true)
    (a12 : PySem.W.nsIn K mainGlobals "_law_cast" = some (some (.ref f12)))
    (l12 : K.lookup f12 = some ⟨oc12, od12, .func (PySem.W.fnOf "_law_cast" "_law_cast" (defArgs s__law_cast) (defBody s__law_cast) (defScope s__law_cast) .none kV12 dc12 pm12 an12 cd12 ct12), sl12⟩)
    (c12 : PySem.W.codeIn K cd12 "_law_cast" = true)
    (k12 : PySem.W.keepIn K (.ref f12) = true)
    (a13 : PySem.W.nsIn K mainGlobals "_law_made" = some (some (.ref f13)))
    (l13 : K.lookup f13 = some ⟨oc13, od13, .func (PySem.W.fnOf "_law_made" "_law_made" (defArgs s__law_made) (defBody s__law_made) (defScope s__law_made) .none kV13 dc13 pm13 an13 cd13 ct13), sl13⟩)
    (c13 : PySem.W.codeIn K cd13 "_law_made" = true)
    (k13 : PySem.W.keepIn K (.ref f13) = true)
    (a14 : PySem.W.nsIn K mainGlobals "_law_parts" = some (some (.ref f14)))
    (l14 : K.lookup f14 = some ⟨oc14, od14, .func (PySem.W.fnOf "_law_parts" "_law_parts" (defArgs s__law_parts) (defBody s__law_parts) (defScope s__law_parts) .none kV14 dc14 pm14 an14 cd14 ct14), sl14⟩)
    (c14 : PySem.W.codeIn K cd14 "_law_parts" = true)
    (k14 : PySem.W.keepIn K (.ref f14) = true)
    (a15 : PySem.W.nsIn K mainGlobals "_law_shape" = some (some (.ref f15)))
    (l15 : K.lookup f15 = some ⟨oc15, od15, .func (PySem.W.fnOf "_law_shape" "_law_shape" (defArgs s__law_shape) (defBody s__law_shape) (defScope s__law_shape) .none kV15 dc15 pm15 an15 cd15 ct15), sl15⟩)
    (c15 : PySem.W.codeIn K cd15 "_law_shape" = true)
    (k15 : PySem.W.keepIn K (.ref f15) = true)
    (a16 : PySem.W.nsIn K mainGlobals "_law_rows" = some (some (.ref f16)))
    (l16 : K.lookup f16 = some ⟨oc16, od16, .func (PySem.W.fnOf "_law_rows" "_law_rows" (defArgs s__law_rows) (defBody s__law_rows) (defScope s__law_rows) .none kV16 dc16 pm16 an16 cd16 ct16), sl16⟩)
    (c16 : PySem.W.codeIn K cd16 "_law_rows" = true)
    (k16 : PySem.W.keepIn K (.ref f16) = true)
    (a17 : PySem.W.nsIn K mainGlobals "_law_other" = some (some (.ref f17)))
    (l17 : K.lookup f17 = some ⟨oc17, od17, .func (PySem.W.fnOf "_law_other" "_law_other" (defArgs s__law_other) (defBody s__law_other) (defScope s__law_other) .none kV17 dc17 pm17 an17 cd17 ct17), sl17⟩)
    (c17 : PySem.W.codeIn K cd17 "_law_other" = true)
    (k17 : PySem.W.keepIn K (.ref f17) = true)
    (a18 : PySem.W.nsIn K mainGlobals "_law_results" = some (some (.ref f18)))
    (l18 : K.lookup f18 = some ⟨oc18, od18, .func (PySem.W.fnOf "_law_results" "_law_results" (defArgs s__law_results) (defBody s__law_results) (defScope s__law_results) .none kV18 dc18 pm18 an18 cd18 ct18), sl18⟩)
    (c18 : PySem.W.codeIn K cd18 "_law_results" = true)
    (k18 : PySem.W.keepIn K (.ref f18) = true)
    (a19 : PySem.W.nsIn K mainGlobals "_law_right" = some (some (.ref f19)))
    (l19 : K.lookup f19 = some ⟨oc19, od19, .func (PySem.W.fnOf "_law_right" "_law_right" (defArgs s__law_right) (defBody s__law_right) (defScope s__law_right) .none kV19 dc19 pm19 an19 cd19 ct19), sl19⟩)
    (c19 : PySem.W.codeIn K cd19 "_law_right" = true)
    (k19 : PySem.W.keepIn K (.ref f19) = true)
    (a20 : PySem.W.nsIn K mainGlobals "law" = some (some (.ref f20)))
    (l20 : K.lookup f20 = some ⟨oc20, od20, .func (PySem.W.fnOf "law" "law" (defArgs s_law) (defBody s_law) (defScope s_law) .none kV20 dc20 pm20 an20 cd20 ct20), sl20⟩)
    (c20 : PySem.W.codeIn K cd20 "law" = true)
    (k20 : PySem.W.keepIn K (.ref f20) = true)
    (a21 : PySem.W.findIn K (.ref C_Kind) "__init__" = some (some (.ref f21)))
    (i21 : PySem.W.isFn K (.ref f21) = true)
    (l21 : K.lookup f21 = some ⟨oc21, od21, .func (PySem.W.fnOf "__init__" "Kind.__init__" (defArgs s_Kind_init) (defBody s_Kind_init) (defScope s_Kind_init) .none kV21 dc21 pm21 an21 cd21 ct21), sl21⟩)
    (c21 : PySem.W.codeIn K cd21 "Kind.__init__" = true)
    (k21 : PySem.W.keepIn K (.ref f21) = true)
    (a22 : PySem.W.findIn K (.ref C_Kind) "__eq__" = some (some (.ref f22)))
    (i22 : PySem.W.isFn K (.ref f22) = true)
    (l22 : K.lookup f22 = some ⟨oc22, od22, .func (PySem.W.fnOf "__eq__" "Kind.__eq__" (defArgs s_Kind_eq) (defBody s_Kind_eq) (defScope s_Kind_eq) .none kV22 dc22 pm22 an22 cd22 ct22), sl22⟩)
    (c22 : PySem.W.codeIn K cd22 "Kind.__eq__" = true)
    (k22 : PySem.W.keepIn K (.ref f22) = true)
    (a23 : PySem.W.findIn K (.ref C_Kind) "parts" = some (some (.ref f23)))
    (i23 : PySem.W.isFn K (.ref f23) = true)
    (l23 : K.lookup f23 = some ⟨oc23, od23, .func (PySem.W.fnOf "parts" "Kind.parts" (defArgs s_Kind_parts) (defBody s_Kind_parts) (defScope s_Kind_parts) .none kV23 dc23 pm23 an23 cd23 ct23), sl23⟩)
    (c23 : PySem.W.codeIn K cd23 "Kind.parts" = true)
    (k23 : PySem.W.keepIn K (.ref f23) = true)
    (a24 : PySem.W.findIn K (.ref C_Effect) "__init__" = some (some (.ref f24)))
    (i24 : PySem.W.isFn K (.ref f24) = true)
    (l24 : K.lookup f24 = some ⟨oc24, od24, .func (PySem.W.fnOf "__init__" "Effect.__init__" (defArgs s_Effect_init) (defBody s_Effect_init) (defScope s_Effect_init) .none kV24 dc24 pm24 an24 cd24 ct24), sl24⟩)
    (c24 : PySem.W.codeIn K cd24 "Effect.__init__" = true)
    (k24 : PySem.W.keepIn K (.ref f24) = true)
    (a25 : PySem.W.findIn K (.ref C_Effect) "parts" = some (some (.ref f25)))
    (i25 : PySem.W.isFn K (.ref f25) = true)
    (l25 : K.lookup f25 = some ⟨oc25, od25, .func (PySem.W.fnOf "parts" "Effect.parts" (defArgs s_Effect_parts) (defBody s_Effect_parts) (defScope s_Effect_parts) .none kV25 dc25 pm25 an25 cd25 ct25), sl25⟩)
    (c25 : PySem.W.codeIn K cd25 "Effect.parts" = true)
    (k25 : PySem.W.keepIn K (.ref f25) = true)
    (a26 : PySem.W.findIn K (.ref C_Effect) "row" = some (some (.ref f26)))
    (i26 : PySem.W.isFn K (.ref f26) = true)
    (l26 : K.lookup f26 = some ⟨oc26, od26, .func (PySem.W.fnOf "row" "Effect.row" (defArgs s_Effect_row) (defBody s_Effect_row) (defScope s_Effect_row) .none kV26 dc26 pm26 an26 cd26 ct26), sl26⟩)
    (c26 : PySem.W.codeIn K cd26 "Effect.row" = true)
    (k26 : PySem.W.keepIn K (.ref f26) = true)
    (a27 : PySem.W.findIn K (.ref C_Effect) "image" = some (some (.ref f27)))
    (i27 : PySem.W.isFn K (.ref f27) = true)
    (l27 : K.lookup f27 = some ⟨oc27, od27, .func (PySem.W.fnOf "image" "Effect.image" (defArgs s_Effect_image) (defBody s_Effect_image) (defScope s_Effect_image) .none kV27 dc27 pm27 an27 cd27 ct27), sl27⟩)
    (c27 : PySem.W.codeIn K cd27 "Effect.image" = true)
    (k27 : PySem.W.keepIn K (.ref f27) = true)
    (a28 : PySem.W.findIn K (.ref C_Effect) "rest_of" = some (some (.ref f28)))
    (i28 : PySem.W.isFn K (.ref f28) = true)
    (l28 : K.lookup f28 = some ⟨oc28, od28, .func (PySem.W.fnOf "rest_of" "Effect.rest_of" (defArgs s_Effect_rest_of) (defBody s_Effect_rest_of) (defScope s_Effect_rest_of) .none kV28 dc28 pm28 an28 cd28 ct28), sl28⟩)
    (c28 : PySem.W.codeIn K cd28 "Effect.rest_of" = true)
    (k28 : PySem.W.keepIn K (.ref f28) = true)
    (pg_Kind : PySem.W.plainGet K C_Kind Str.empty = true)
    (hd_Kind : PySem.W.hasDictIn K C_Kind = true)
    (po_Kind : PySem.W.plainOver K C_Kind = true)
    (sa_Kind : PySem.W.findIn K (.ref C_Kind) "__setattr__" = some (some (.builtin "object.__setattr__")))
    (mk_Kind : PySem.W.makesIn K C_Kind = true)
    (kc_Kind : PySem.W.keepIn K (.ref C_Kind) = true)
    (ha_Kind : PySem.W.findIn K (.ref C_Kind) "__class__" = some (some (.builtin "object.__class__")))
    (hm_Kind : PySem.W.mroIn K C_Kind (.type "object") = some true)
    (kn_Kind : PySem.W.kitOne K (.type "NoneType") (.ref C_Kind) = some false)
    (kt_Kind_int : PySem.W.kitOne K (.type "int") (.ref C_Kind) = some false)
    (ks_Kind_int : PySem.W.kitOne K (.ref C_Kind) (.type "int") = some false)
    (kt_Kind_bool : PySem.W.kitOne K (.type "bool") (.ref C_Kind) = some false)
    (ks_Kind_bool : PySem.W.kitOne K (.ref C_Kind) (.type "bool") = some false)
    (kt_Kind_str : PySem.W.kitOne K (.type "str") (.ref C_Kind) = some false)
    (ks_Kind_str : PySem.W.kitOne K (.ref C_Kind) (.type "str") = some false)
    (kt_Kind_tuple : PySem.W.kitOne K (.type "tuple") (.ref C_Kind) = some false)
    (ks_Kind_tuple : PySem.W.kitOne K (.ref C_Kind) (.type "tuple") = some false)
    (kt_Kind_list : PySem.W.kitOne K (.type "list") (.ref C_Kind) = some false)
    (ks_Kind_list : PySem.W.kitOne K (.ref C_Kind) (.type "list") = some false)
    (kt_Kind_dict : PySem.W.kitOne K (.type "dict") (.ref C_Kind) = some false)
    (ks_Kind_dict : PySem.W.kitOne K (.ref C_Kind) (.type "dict") = some false)
    (kk_Kind_Kind : PySem.W.kitOne K (.ref C_Kind) (.ref C_Kind) = some true)
    (kk_Kind_Effect : PySem.W.kitOne K (.ref C_Kind) (.ref C_Effect) = some false)
    (nf_Kind_bits : PySem.W.findIn K (.ref C_Kind) "bits" = some none)
    (nf_Kind_is_signed : PySem.W.findIn K (.ref C_Kind) "is_signed" = some none)
    (pg_Effect : PySem.W.plainGet K C_Effect Str.empty = true)
    (hd_Effect : PySem.W.hasDictIn K C_Effect = true)
    (po_Effect : PySem.W.plainOver K C_Effect = true)
    (sa_Effect : PySem.W.findIn K (.ref C_Effect) "__setattr__" = some (some (.builtin "object.__setattr__")))
    (mk_Effect : PySem.W.makesIn K C_Effect = true)
    (kc_Effect : PySem.W.keepIn K (.ref C_Effect) = true)
    (ha_Effect : PySem.W.findIn K (.ref C_Effect) "__class__" = some (some (.builtin "object.__class__")))
    (hm_Effect : PySem.W.mroIn K C_Effect (.type "object") = some true)
    (kn_Effect : PySem.W.kitOne K (.type "NoneType") (.ref C_Effect) = some false)
    (kt_Effect_int : PySem.W.kitOne K (.type "int") (.ref C_Effect) = some false)
    (ks_Effect_int : PySem.W.kitOne K (.ref C_Effect) (.type "int") = some false)
    (kt_Effect_bool : PySem.W.kitOne K (.type "bool") (.ref C_Effect) = some false)
    (ks_Effect_bool : PySem.W.kitOne K (.ref C_Effect) (.type "bool") = some false)
    (kt_Effect_str : PySem.W.kitOne K (.type "str") (.ref C_Effect) = some false)
    (ks_Effect_str : PySem.W.kitOne K (.ref C_Effect) (.type "str") = some false)
    (kt_Effect_tuple : PySem.W.kitOne K (.type "tuple") (.ref C_Effect) = some false)
    (ks_Effect_tuple : PySem.W.kitOne K (.ref C_Effect) (.type "tuple") = some false)
    (kt_Effect_list : PySem.W.kitOne K (.type "list") (.ref C_Effect) = some false)
    (ks_Effect_list : PySem.W.kitOne K (.ref C_Effect) (.type "list") = some false)
    (kt_Effect_dict : PySem.W.kitOne K (.type "dict") (.ref C_Effect) = some false)
    (ks_Effect_dict : PySem.W.kitOne K (.ref C_Effect) (.type "dict") = some false)
    (kk_Effect_Kind : PySem.W.kitOne K (.ref C_Effect) (.ref C_Kind) = some false)
    (kk_Effect_Effect : PySem.W.kitOne K (.ref C_Effect) (.ref C_Effect) = some true)
    (nf_Effect_bits : PySem.W.findIn K (.ref C_Effect) "bits" = some none)
    (nf_Effect_width : PySem.W.findIn K (.ref C_Effect) "width" = some none)
    (nf_Effect_is_below : PySem.W.findIn K (.ref C_Effect) "is_below" = some none)
    (nf_Effect_shift : PySem.W.findIn K (.ref C_Effect) "shift" = some none)
    (hn : PySem.W.specialIn K (.builtin "object.__class__") "__get__" = some (some (.builtin "getset_descriptor.__get__")))
    (htk : PySem.W.takesIn K (.builtin "object.__class__") = some true)
    (b_all : PySem.W.nsIn K mainGlobals "all" = some none)
    (b_bool : PySem.W.nsIn K mainGlobals "bool" = some none)
    (b_int : PySem.W.nsIn K mainGlobals "int" = some none)
    (b_isinstance : PySem.W.nsIn K mainGlobals "isinstance" = some none)
    (b_len : PySem.W.nsIn K mainGlobals "len" = some none)
    (b_list : PySem.W.nsIn K mainGlobals "list" = some none)
    (b_min : PySem.W.nsIn K mainGlobals "min" = some none)
    (b_range : PySem.W.nsIn K mainGlobals "range" = some none)
    (g_MOST_BITS : PySem.W.nsIn K mainGlobals "MOST_BITS" = some (some (.int 128 t_MOST_BITS)))
    (g_MOST_KINDS : PySem.W.nsIn K mainGlobals "MOST_KINDS" = some (some (.int 20 t_MOST_KINDS)))
    : ∃ fd : FuncData, (∀ (s : Shared) (v : Value), BindsTo s fd ⟨[v], []⟩ [("_law_script", v)]) ∧ ∀ base : Heap, K.In base → base.Ns mainGlobals mg → FnOk l.prog w K mg base CX0 8 fa fd ["_law_script"] (toSp K (spLaw)) := by
  have e := hfa.symm.trans (PySem.W.mg_of X G a20)
  cases e
  have F0 := fun_mk (st := s__wall) l0 c0 k0
  have b0 := F0.binds (ps := ["k"]) fun _ _ _ _ _ _ us hl => match us, hl with | [_], _ => rfl
  have F1 := fun_mk (st := s_is_integer) l1 c1 k1
  have b1 := F1.binds (ps := ["value"]) fun _ _ _ _ _ _ us hl => match us, hl with | [_], _ => rfl
  have F2 := fun_mk (st := s_is_between) l2 c2 k2
  have b2 := F2.binds (ps := ["value", "low", "high"]) fun _ _ _ _ _ _ us hl => match us, hl with | [_, _, _], _ => rfl
  have F3 := fun_mk (st := s_effect_of) l3 c3 k3
  have b3 := F3.binds (ps := ["kinds"]) fun _ _ _ _ _ _ us hl => match us, hl with | [_], _ => rfl
  have F4 := fun_mk (st := s_check_row) l4 c4 k4
  have b4 := F4.binds (ps := ["argument", "value"]) fun _ _ _ _ _ _ us hl => match us, hl with | [_, _], _ => rfl
  have F5 := fun_mk (st := s_do_same) l5 c5 k5
  have b5 := F5.binds (ps := ["kinds", "others"]) fun _ _ _ _ _ _ us hl => match us, hl with | [_, _], _ => rfl
  have F6 := fun_mk (st := s_shortest) l6 c6 k6
  have b6 := F6.binds (ps := ["kinds"]) fun _ _ _ _ _ _ us hl => match us, hl with | [_], _ => rfl
  have F7 := fun_mk (st := s__law_cell_at) l7 c7 k7
  have b7 := F7.binds (ps := ["_law_script", "_law_at"]) fun _ _ _ _ _ _ us hl => match us, hl with | [_, _], _ => rfl
  have F8 := fun_mk (st := s__law_source_of) l8 c8 k8
  have b8 := F8.binds (ps := ["_law_cell"]) fun _ _ _ _ _ _ us hl => match us, hl with | [_], _ => rfl
  have F9 := fun_mk (st := s__law_next) l9 c9 k9
  have b9 := F9.binds (ps := ["_law_source", "_law_many"]) fun _ _ _ _ _ _ us hl => match us, hl with | [_, _], _ => rfl
  have F10 := fun_mk (st := s__law_one) l10 c10 k10
  have b10 := F10.binds (ps := ["_law_source", "_law_some"]) fun _ _ _ _ _ _ us hl => match us, hl with | [_, _], _ => rfl
  have F11 := fun_mk (st := s__law_put) l11 c11 k11
  have b11 := F11.binds (ps := ["_law_shape_here", "_law_n"]) fun _ _ _ _ _ _ us hl => match us, hl with | [_, _], _ => rfl
  have F12 := fun_mk (st := s__law_cast) l12 c12 k12
  have b12 := F12.binds (ps := ["_law_rows_here", "_law_n"]) fun _ _ _ _ _ _ us hl => match us, hl with | [_, _], _ => rfl
  have F13 := fun_mk (st := s__law_made) l13 c13 k13
  have b13 := F13.binds (ps := ["_law_rows_here"]) fun _ _ _ _ _ _ us hl => match us, hl with | [_], _ => rfl
  have F14 := fun_mk (st := s__law_parts) l14 c14 k14
  have b14 := F14.binds (ps := ["_law_row"]) fun _ _ _ _ _ _ us hl => match us, hl with | [_], _ => rfl
  have F15 := fun_mk (st := s__law_shape) l15 c15 k15
  have b15 := F15.binds (ps := ["_law_source", "_law_most"]) fun _ _ _ _ _ _ us hl => match us, hl with | [_, _], _ => rfl
  have F16 := fun_mk (st := s__law_rows) l16 c16 k16
  have b16 := F16.binds (ps := ["_law_source", "_law_most"]) fun _ _ _ _ _ _ us hl => match us, hl with | [_, _], _ => rfl
  have F17 := fun_mk (st := s__law_other) l17 c17 k17
  have b17 := F17.binds (ps := ["_law_source", "_law_rows_here"]) fun _ _ _ _ _ _ us hl => match us, hl with | [_, _], _ => rfl
  have F18 := fun_mk (st := s__law_results) l18 c18 k18
  have b18 := F18.binds (ps := ["_law_rows_here"]) fun _ _ _ _ _ _ us hl => match us, hl with | [_], _ => rfl
  have F19 := fun_mk (st := s__law_right) l19 c19 k19
  have b19 := F19.binds (ps := ["_law_source"]) fun _ _ _ _ _ _ us hl => match us, hl with | [_], _ => rfl
  have F20 := fun_mk (st := s_law) l20 c20 k20
  have b20 := F20.binds (ps := ["_law_script"]) fun _ _ _ _ _ _ us hl => match us, hl with | [_], _ => rfl
  have F21 := fun_mk (st := s_Kind_init) l21 c21 k21
  have b21 := F21.binds (ps := ["self", "bits", "is_signed"]) fun _ _ _ _ _ _ us hl => match us, hl with | [_, _, _], _ => rfl
  have F22 := fun_mk (st := s_Kind_eq) l22 c22 k22
  have b22 := F22.binds (ps := ["self", "other"]) fun _ _ _ _ _ _ us hl => match us, hl with | [_, _], _ => rfl
  have F23 := fun_mk (st := s_Kind_parts) l23 c23 k23
  have b23 := F23.binds (ps := ["self"]) fun _ _ _ _ _ _ us hl => match us, hl with | [_], _ => rfl
  have F24 := fun_mk (st := s_Effect_init) l24 c24 k24
  have b24 := F24.binds (ps := ["self", "bits", "width", "is_below"]) fun _ _ _ _ _ _ us hl => match us, hl with | [_, _, _, _], _ => rfl
  have F25 := fun_mk (st := s_Effect_parts) l25 c25 k25
  have b25 := F25.binds (ps := ["self"]) fun _ _ _ _ _ _ us hl => match us, hl with | [_], _ => rfl
  have F26 := fun_mk (st := s_Effect_row) l26 c26 k26
  have b26 := F26.binds (ps := ["self"]) fun _ _ _ _ _ _ us hl => match us, hl with | [_], _ => rfl
  have F27 := fun_mk (st := s_Effect_image) l27 c27 k27
  have b27 := F27.binds (ps := ["self"]) fun _ _ _ _ _ _ us hl => match us, hl with | [_], _ => rfl
  have F28 := fun_mk (st := s_Effect_rest_of) l28 c28 k28
  have b28 := F28.binds (ps := ["self", "y"]) fun _ _ _ _ _ _ us hl => match us, hl with | [_, _], _ => rfl
  have T : Txt K mg C_Kind C_Effect := {
    h__wall := ⟨_, _, F0, PySem.W.mg_of X G a0, b0⟩
    h_is_integer := ⟨_, _, F1, PySem.W.mg_of X G a1, b1⟩
    h_is_between := ⟨_, _, F2, PySem.W.mg_of X G a2, b2⟩
    h_effect_of := ⟨_, _, F3, PySem.W.mg_of X G a3, b3⟩
    h_check_row := ⟨_, _, F4, PySem.W.mg_of X G a4, b4⟩
    h_do_same := ⟨_, _, F5, PySem.W.mg_of X G a5, b5⟩
    h_shortest := ⟨_, _, F6, PySem.W.mg_of X G a6, b6⟩
    h__law_cell_at := ⟨_, _, F7, PySem.W.mg_of X G a7, b7⟩
    h__law_source_of := ⟨_, _, F8, PySem.W.mg_of X G a8, b8⟩
    h__law_next := ⟨_, _, F9, PySem.W.mg_of X G a9, b9⟩
    h__law_one := ⟨_, _, F10, PySem.W.mg_of X G a10, b10⟩
    h__law_put := ⟨_, _, F11, PySem.W.mg_of X G a11, b11⟩
    h__law_cast := ⟨_, _, F12, PySem.W.mg_of X G a12, b12⟩
    h__law_made := ⟨_, _, F13, PySem.W.mg_of X G a13, b13⟩
    h__law_parts := ⟨_, _, F14, PySem.W.mg_of X G a14, b14⟩
    h__law_shape := ⟨_, _, F15, PySem.W.mg_of X G a15, b15⟩
    h__law_rows := ⟨_, _, F16, PySem.W.mg_of X G a16, b16⟩
    h__law_other := ⟨_, _, F17, PySem.W.mg_of X G a17, b17⟩
    h__law_results := ⟨_, _, F18, PySem.W.mg_of X G a18, b18⟩
    h__law_right := ⟨_, _, F19, PySem.W.mg_of X G a19, b19⟩
    h_law := ⟨_, _, F20, PySem.W.mg_of X G a20, b20⟩
    mg_Kind := PySem.W.mg_of X G m_Kind
    cl_Kind := ⟨pg_Kind, hd_Kind, po_Kind, sa_Kind⟩
    ck_Kind := ⟨⟨⟨pg_Kind, hd_Kind, po_Kind, sa_Kind⟩, ha_Kind, hn, htk, hm_Kind⟩, kn_Kind, fun t => by cases t <;> assumption, fun t => by cases t <;> assumption, kk_Kind_Kind⟩
    nf_Kind_bits := nf_Kind_bits
    nf_Kind_is_signed := nf_Kind_is_signed
    h_Kind_init := ⟨_, _, F21, PySem.W.mg_of X G m_Kind, ⟨mk_Kind, a21, i21, kc_Kind⟩, b21⟩
    h_Kind_eq := ⟨_, _, F22, ⟨a22, i22, k22⟩, b22⟩
    h_Kind_parts := ⟨_, _, F23, ⟨a23, i23, k23⟩, b23⟩
    mg_Effect := PySem.W.mg_of X G m_Effect
    cl_Effect := ⟨pg_Effect, hd_Effect, po_Effect, sa_Effect⟩
    ck_Effect := ⟨⟨⟨pg_Effect, hd_Effect, po_Effect, sa_Effect⟩, ha_Effect, hn, htk, hm_Effect⟩, kn_Effect, fun t => by cases t <;> assumption, fun t => by cases t <;> assumption, kk_Effect_Effect⟩
    nf_Effect_bits := nf_Effect_bits
    nf_Effect_width := nf_Effect_width
    nf_Effect_is_below := nf_Effect_is_below
    nf_Effect_shift := nf_Effect_shift
    h_Effect_init := ⟨_, _, F24, PySem.W.mg_of X G m_Effect, ⟨mk_Effect, a24, i24, kc_Effect⟩, b24⟩
    h_Effect_parts := ⟨_, _, F25, ⟨a25, i25, k25⟩, b25⟩
    h_Effect_row := ⟨_, _, F26, ⟨a26, i26, k26⟩, b26⟩
    h_Effect_image := ⟨_, _, F27, ⟨a27, i27, k27⟩, b27⟩
    h_Effect_rest_of := ⟨_, _, F28, ⟨a28, i28, k28⟩, b28⟩
    b_all := PySem.W.mg_none_of X G b_all
    b_bool := PySem.W.mg_none_of X G b_bool
    b_int := PySem.W.mg_none_of X G b_int
    b_isinstance := PySem.W.mg_none_of X G b_isinstance
    b_len := PySem.W.mg_none_of X G b_len
    b_list := PySem.W.mg_none_of X G b_list
    b_min := PySem.W.mg_none_of X G b_min
    b_range := PySem.W.mg_none_of X G b_range
    g_MOST_BITS := ⟨_, PySem.W.mg_of X G g_MOST_BITS⟩
    g_MOST_KINDS := ⟨_, PySem.W.mg_of X G g_MOST_KINDS⟩
  }
  refine ⟨PySem.W.fnOf "law" "law" (defArgs s_law) (defBody s_law) (defScope s_law) .none kV20 dc20 pm20 an20 cd20 ct20, fun s v => .of_eq rfl, fun base _ _ => ?_⟩
  have F__law_source_of := ok__law_source_of (P := l.prog) (w := w) (base := base) T
  have F__law_cell_at := ok__law_cell_at (P := l.prog) (w := w) (base := base) T
  have F__law_next := ok__law_next (P := l.prog) (w := w) (base := base) T
  have F__law_shape := ok__law_shape (P := l.prog) (w := w) (base := base) T F__law_next
  have F__law_one := ok__law_one (P := l.prog) (w := w) (base := base) T F__law_next
  have F__law_rows := ok__law_rows (P := l.prog) (w := w) (base := base) T F__law_next F__law_shape F__law_one
  have F_Kind_parts := ok_Kind_parts (P := l.prog) (w := w) (base := base) T
  have F_Kind_eq := ok_Kind_eq (P := l.prog) (w := w) (base := base) T F_Kind_parts
  have F__law_put := ok__law_put (P := l.prog) (w := w) (base := base) T
  have F__law_cast := ok__law_cast (P := l.prog) (w := w) (base := base) T F__law_put
  have F__law_results := ok__law_results (P := l.prog) (w := w) (base := base) T F__law_cast
  have F__law_parts := ok__law_parts (P := l.prog) (w := w) (base := base) T F_Kind_parts
  have F__law_other := ok__law_other (P := l.prog) (w := w) (base := base) T F__law_next F__law_one F__law_rows F__law_shape
  have F_is_integer := ok_is_integer (P := l.prog) (w := w) (base := base) T
  have F_is_between := ok_is_between (P := l.prog) (w := w) (base := base) T F_is_integer
  have F_Kind_init := ok_Kind_init (P := l.prog) (w := w) (base := base) T F_is_between
  have F__law_made := ok__law_made (P := l.prog) (w := w) (base := base) T F_Kind_init
  have F_check_row := ok_check_row (P := l.prog) (w := w) (base := base) T
  have F_Effect_parts := ok_Effect_parts (P := l.prog) (w := w) (base := base) T
  have F_Effect_init := ok_Effect_init (P := l.prog) (w := w) (base := base) T
  have F_effect_of := ok_effect_of (P := l.prog) (w := w) (base := base) T F_Effect_init
  have F_do_same := ok_do_same (P := l.prog) (w := w) (base := base) T F_check_row F_Effect_parts F_effect_of
  have F_Effect_row := ok_Effect_row (P := l.prog) (w := w) (base := base) T F_Kind_init
  have F_shortest := ok_shortest (P := l.prog) (w := w) (base := base) T F_check_row F_Effect_row F_effect_of
  have F__law_right := ok__law_right (P := l.prog) (w := w) (base := base) T F__law_rows F_Kind_eq F__law_results F__law_parts F__law_other F__law_made F_Kind_init F_do_same F_shortest
  have F_law := ok_law (P := l.prog) (w := w) (base := base) T F__law_source_of F__law_cell_at F__law_right
  obtain ⟨f, fd, F, hm, hb, ok⟩ := F_law.ex
  have e2 := hm.symm.trans hfa
  cases e2
  have e3 := DL.same_fun F20 F
  subst e3
  exact ok
end LW
open PySem PySem.W PyProof.Rows
set_option maxRecDepth 100000 in
set_option maxHeartbeats 0 in
theorem PySem.Challenge.cw_farwrap_k64_short_rows_by_all_integers_holds : PySem.Challenge.rw_farwrap_k64_short_rows_by_all_integers.Holds := by
  w_on; o_law; k_head; (case hw => w_witness2)
  k_fill
  refine L2.walk_of (l := PySem.Challenge.rw_farwrap_k64_short_rows_by_all_integers) (n := 63) (k := 8) (x := "_law_script") (CX := fun _ => L2.CX0) (sp := fun w => DL.toSp _ (DL.spLaw)) rfl (by decide) rfl ⟨rfl, by decide, by decide⟩ (fun w h Y => PySem.W.kIn_of Y) ?F (fun w H a ns hl _ hS => DL.law_in hl hS) (fun _ _ _ _ _ h => h)
  case F =>
    intro w mg fa h KX G hmg
    refine' LW.all_mk KX G hmg ?m_Kind ?m_Effect ?a0 ?l0 ?c0 ?k0 ?a1 ?l1 ?c1 ?k1 ?a2 ?l2 ?c2 ?k2 ?a3 ?l3 ?c3 ?k3 ?a4 ?l4 ?c4 ?k4 ?a5 ?l5 ?c5 ?k5 ?a6 ?l6 ?c6 ?k6 ?a7 ?l7 ?c7 ?k7 ?a8 ?l8 ?c8 ?k8 ?a9 ?l9 ?c9 ?k9 ?a10 ?l10 ?c10 ?k10 ?a11 ?l11 ?c11 ?k11 ?a12 ?l12 ?c12 ?k12 ?a13 ?l13 ?c13 ?k13 ?a14 ?l14 ?c14 ?k14 ?a15 ?l15 ?c15 ?k15 ?a16 ?l16 ?c16 ?k16 ?a17 ?l17 ?c17 ?k17 ?a18 ?l18 ?c18 ?k18 ?a19 ?l19 ?c19 ?k19 ?a20 ?l20 ?c20 ?k20 ?a21 ?i21 ?l21 ?c21 ?k21 ?a22 ?i22 ?l22 ?c22 ?k22 ?a23 ?i23 ?l23 ?c23 ?k23 ?a24 ?i24 ?l24 ?c24 ?k24 ?a25 ?i25 ?l25 ?c25 ?k25 ?a26 ?i26 ?l26 ?c26 ?k26 ?a27 ?i27 ?l27 ?c27 ?k27 ?a28 ?i28 ?l28 ?c28 ?k28 ?pg_Kind ?hd_Kind ?po_Kind ?sa_Kind ?mk_Kind ?kc_Kind ?ha_Kind ?hm_Kind ?kn_Kind ?kt_Kind_int ?ks_Kind_int ?kt_Kind_bool ?ks_Kind_bool ?kt_Kind_str ?ks_Kind_str ?kt_Kind_tuple ?ks_Kind_tuple ?kt_Kind_list ?ks_Kind_list ?kt_Kind_dict ?ks_Kind_dict ?kk_Kind_Kind ?kk_Kind_Effect ?nf_Kind_bits ?nf_Kind_is_signed ?pg_Effect ?hd_Effect ?po_Effect ?sa_Effect ?mk_Effect ?kc_Effect ?ha_Effect ?hm_Effect ?kn_Effect ?kt_Effect_int ?ks_Effect_int ?kt_Effect_bool ?ks_Effect_bool ?kt_Effect_str ?ks_Effect_str ?kt_Effect_tuple ?ks_Effect_tuple ?kt_Effect_list ?ks_Effect_list ?kt_Effect_dict ?ks_Effect_dict ?kk_Effect_Kind ?kk_Effect_Effect ?nf_Effect_bits ?nf_Effect_width ?nf_Effect_is_below ?nf_Effect_shift ?hn ?htk ?b_all ?b_bool ?b_int ?b_isinstance ?b_len ?b_list ?b_min ?b_range ?g_MOST_BITS ?g_MOST_KINDS
    (case m_Kind => k_is)
    (case m_Effect => k_is)
    (case a0 => k_is)
    (case l0 => k_is)
    (case c0 => k_is)
    (case k0 => k_is)
    (case a1 => k_is)
    (case l1 => k_is)
    (case c1 => k_is)
    (case k1 => k_is)
    (case a2 => k_is)
    (case l2 => k_is)
    (case c2 => k_is)
    (case k2 => k_is)
    (case a3 => k_is)
    (case l3 => k_is)
    (case c3 => k_is)
    (case k3 => k_is)
    (case a4 => k_is)
    (case l4 => k_is)
    (case c4 => k_is)
    (case k4 => k_is)
    (case a5 => k_is)
    (case l5 => k_is)
    (case c5 => k_is)
    (case k5 => k_is)
    (case a6 => k_is)
    (case l6 => k_is)
    (case c6 => k_is)
    (case k6 => k_is)
    (case a7 => k_is)
    (case l7 => k_is)
    (case c7 => k_is)
    (case k7 => k_is)
    (case a8 => k_is)
    (case l8 => k_is)
    (case c8 => k_is)
    (case k8 => k_is)
    (case a9 => k_is)
    (case l9 => k_is)
    (case c9 => k_is)
    (case k9 => k_is)
    (case a10 => k_is)
    (case l10 => k_is)
    (case c10 => k_is)
    (case k10 => k_is)
    (case a11 => k_is)
    (case l11 => k_is)
    (case c11 => k_is)
    (case k11 => k_is)
    (case a12 => k_is)
    (case l12 => k_is)
    (case c12 => k_is)
    (case k12 => k_is)
    (case a13 => k_is)
    (case l13 => k_is)
    (case c13 => k_is)
    (case k13 => k_is)
    (case a14 => k_is)
    (case l14 => k_is)
    (case c14 => k_is)
    (case k14 => k_is)
    (case a15 => k_is)
    (case l15 => k_is)
    (case c15 => k_is)
    (case k15 => k_is)
    (case a16 => k_is)
    (case l16 => k_is)
    (case c16 => k_is)
    (case k16 => k_is)
    (case a17 => k_is)
    (case l17 => k_is)
    (case c17 => k_is)
    (case k17 => k_is)
    (case a18 => k_is)
    (case l18 => k_is)
    (case c18 => k_is)
    (case k18 => k_is)
    (case a19 => k_is)
    (case l19 => k_is)
    (case c19 => k_is)
    (case k19 => k_is)
    (case a20 => k_is)
    (case l20 => k_is)
    (case c20 => k_is)
    (case k20 => k_is)
    (case a21 => k_is)
    (case i21 => k_is)
    (case l21 => k_is)
    (case c21 => k_is)
    (case k21 => k_is)
    (case a22 => k_is)
    (case i22 => k_is)
    (case l22 => k_is)
    (case c22 => k_is)
    (case k22 => k_is)
    (case a23 => k_is)
    (case i23 => k_is)
    (case l23 => k_is)
    (case c23 => k_is)
    (case k23 => k_is)
    (case a24 => k_is)
    (case i24 => k_is)
    (case l24 => k_is)
    (case c24 => k_is)
    (case k24 => k_is)
    (case a25 => k_is)
    (case i25 => k_is)
    (case l25 => k_is)
    (case c25 => k_is)
    (case k25 => k_is)
    (case a26 => k_is)
    (case i26 => k_is)
    (case l26 => k_is)
    (case c26 => k_is)
    (case k26 => k_is)
    (case a27 => k_is)
    (case i27 => k_is)
    (case l27 => k_is)
    (case c27 => k_is)
    (case k27 => k_is)
    (case a28 => k_is)
    (case i28 => k_is)
    (case l28 => k_is)
    (case c28 => k_is)
    (case k28 => k_is)
    (case pg_Kind => k_is)
    (case hd_Kind => k_is)
    (case po_Kind => k_is)
    (case sa_Kind => k_is)
    (case mk_Kind => k_is)
    (case kc_Kind => k_is)
    (case ha_Kind => k_is)
    (case hm_Kind => k_is)
    (case kn_Kind => kit_is)
    (case kt_Kind_int => kit_is)
    (case ks_Kind_int => kit_is)
    (case kt_Kind_bool => kit_is)
    (case ks_Kind_bool => kit_is)
    (case kt_Kind_str => kit_is)
    (case ks_Kind_str => kit_is)
    (case kt_Kind_tuple => kit_is)
    (case ks_Kind_tuple => kit_is)
    (case kt_Kind_list => kit_is)
    (case ks_Kind_list => kit_is)
    (case kt_Kind_dict => kit_is)
    (case ks_Kind_dict => kit_is)
    (case kk_Kind_Kind => kit_is)
    (case kk_Kind_Effect => kit_is)
    (case nf_Kind_bits => k_is)
    (case nf_Kind_is_signed => k_is)
    (case pg_Effect => k_is)
    (case hd_Effect => k_is)
    (case po_Effect => k_is)
    (case sa_Effect => k_is)
    (case mk_Effect => k_is)
    (case kc_Effect => k_is)
    (case ha_Effect => k_is)
    (case hm_Effect => k_is)
    (case kn_Effect => kit_is)
    (case kt_Effect_int => kit_is)
    (case ks_Effect_int => kit_is)
    (case kt_Effect_bool => kit_is)
    (case ks_Effect_bool => kit_is)
    (case kt_Effect_str => kit_is)
    (case ks_Effect_str => kit_is)
    (case kt_Effect_tuple => kit_is)
    (case ks_Effect_tuple => kit_is)
    (case kt_Effect_list => kit_is)
    (case ks_Effect_list => kit_is)
    (case kt_Effect_dict => kit_is)
    (case ks_Effect_dict => kit_is)
    (case kk_Effect_Kind => kit_is)
    (case kk_Effect_Effect => kit_is)
    (case nf_Effect_bits => k_is)
    (case nf_Effect_width => k_is)
    (case nf_Effect_is_below => k_is)
    (case nf_Effect_shift => k_is)
    (case hn => k_is)
    (case htk => k_is)
    (case b_all => k_is)
    (case b_bool => k_is)
    (case b_int => k_is)
    (case b_isinstance => k_is)
    (case b_len => k_is)
    (case b_list => k_is)
    (case b_min => k_is)
    (case b_range => k_is)
    (case g_MOST_BITS => k_is)
    (case g_MOST_KINDS => k_is)
#print axioms PySem.Challenge.cw_farwrap_k64_short_rows_by_all_integers_holds
