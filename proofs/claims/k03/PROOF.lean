import PyProof.Rows.All
import Wide.All
import OpenK.AllK
import Wide.FinOn
import HandS.ForMost
import HandS.ForExc
import HandS.Deep
import HandS.TupAny
import HandS.TupMul
import HandS.IsInst
import HandS.CallSlots
import HandS.Dict
import HandS.Conv
import HandS.Iter
import KE.KSuper
import KE.KExcInit
import HandS.ExcSuper
import HandS.ExcField
import HandS.TryMany
import HandS.ExcInit
import HandS.RaiseMore
import KE.SortData
import KE.SortKeyHeap
import HandS.Zip
import KE.KDictZip
import HandS.Set
import HandS.SetFor
import PyProof.Rows.SortStr
import PyProof.SetKind
import HandS.TupSets
import HandS.Star
import HandS.ClsMeth
import HandS.OwnEq
import HandS.Ends
import HandS.EndBits
import PyProof.Rows.SeqGen
import HandS.AnyAll
import KE.RegKSuper
import PyProof.FitsInt
import PyProof.StrLawsRepr
import PyProof.Rows.RegStrFacts
import PyProof.NeKinds
import HandS.Style
import KE.KRevSl
import HandS.Comp
import HandS.Walk
import HandS.ReCall
import HandS.MakeKwOnly
import PyProof.ReprRoads
import KE.KExcIs
import HandS.SetBool
import HandS.Text
import HandS.Defaults
import PySem.Challenge.RW_clashnumber_k03_operators_of_tables
set_option Elab.async false
set_option linter.all false
set_option maxRecDepth 100000
/-! DL: values as trees, over the hand layer. A value is a tree D (tuples, lists, dicts, instances that are never written again are part of the tree);
what is still written stands in a store S. up T is the hand layer's reading of a transformer T over such trees. -/
namespace DL
open PySem PySem.Spec PyProof.Rows L2

inductive D where
  | non | bl (b : Bool) | int (i : Int) | str (x : Str) | ty (n : String) | ref (a : Addr)
  | tup (ds : List D) | kup (ds : List D) | lst (ds : List D) | scr (ds : List D)
  | dK (ks : List Key) (ds : List D) | dT (ks : List (List Key)) (ds : List D)
  | obj (C : Addr) (ns : List Str) (ds : List D)
/-- what stands in the store -/
inductive M where
  | lst (ds : List D) | dK (ks : List Key) (ds : List D) | dT (ks : List (List Key)) (ds : List D) | ins (C : Addr) (ns : List Str) (ds : List D) | xd (ns : List Str) (ds : List D)
abbrev Store := Addr → Option M
def put (S : Store) (a : Addr) (m : M) : Store := fun b => if b = a then some m else S b
def del (S : Store) (a : Addr) : Store := fun b => if b = a then none else S b
theorem put_same {S : Store} {a : Addr} {m : M} : put S a m a = some m := if_pos rfl
theorem put_ne {S : Store} {a b : Addr} {m : M} (h : b ≠ a) : put S a m b = S b := if_neg h
theorem del_same {S : Store} {a : Addr} : del S a a = none := if_pos rfl
theorem del_ne {S : Store} {a b : Addr} (h : b ≠ a) : del S a b = S b := if_neg h

mutual
inductive IsV (K : PySem.W.Frag) (F : Hp) : D → V → Prop
  | non : IsV K F .non .non
  | bl (b : Bool) : IsV K F (.bl b) (.bl b)
  | int (i : Int) : IsV K F (.int i) (.int i)
  | str (x : Str) : IsV K F (.str x) (.str x)
  | ty (n : String) : IsV K F (.ty n) (.ty n)
  | ref (a : Addr) : IsV K F (.ref a) (.ref a)
  | tup {a : Addr} {vs : List V} {ds : List D} : F a = some (.tup vs) → IsVs K F ds vs → IsV K F (.tup ds) (.ref a)
  | kup {a : Addr} {o : Obj} {vs : List V} {ds : List D} : F a = some (.frz o (.tup vs)) → o.dict = none → IsVs K F ds vs → IsV K F (.kup ds) (.ref a)
  | lst {a : Addr} {vs : List V} {ds : List D} : F a = some (.lst vs) → IsVs K F ds vs → IsV K F (.lst ds) (.ref a)
  | scr {a : Addr} {vs : List V} {ds : List D} : SqL K F a vs → IsVs K F ds vs → IsV K F (.scr ds) (.ref a)
  | dK {a : Addr} {kvs : List (Key × V)} {ks : List Key} {ds : List D} : F a = some (.dK kvs) → kvs.map (·.1) = ks → IsVs K F ds (kvs.map (·.2)) → IsV K F (.dK ks ds) (.ref a)
  | dT {a : Addr} {kvs : List (List Key × V)} {ks : List (List Key)} {ds : List D} : F a = some (.dT kvs) → kvs.map (·.1) = ks → IsVs K F ds (kvs.map (·.2)) → IsV K F (.dT ks ds) (.ref a)
  | obj {a C dx : Addr} {fs : List (Str × V)} {ns : List Str} {ds : List D} : F a = some (.ins C dx fs) → fs.map (·.1) = ns → IsVs K F ds (fs.map (·.2)) → IsV K F (.obj C ns ds) (.ref a)
inductive IsVs (K : PySem.W.Frag) (F : Hp) : List D → List V → Prop
  | nil : IsVs K F [] []
  | cons {d : D} {v : V} {ds : List D} {vs : List V} : IsV K F d v → IsVs K F ds vs → IsVs K F (d :: ds) (v :: vs)
end

theorem Same.sqt {K : PySem.W.Frag} {F F' : Hp} (s : Same F F') {a : Addr} {xs : List V} (h : SqT K F a xs) : SqT K F' a xs := by
  rcases h with (h | ⟨o, h⟩) | h
  · exact .inl (.inl (s _ _ h))
  · exact .inl (.inr ⟨o, s _ _ h⟩)
  · exact .inr h

section
variable {K : PySem.W.Frag} {F F' : Hp}
mutual
theorem IsV.mono (s : Same F F') : ∀ (d : D) (v : V), IsV K F d v → IsV K F' d v
  | .non, _, h => by cases h; exact .non
  | .bl b, _, h => by cases h; exact .bl b
  | .int i, _, h => by cases h; exact .int i
  | .str x, _, h => by cases h; exact .str x
  | .ty n, _, h => by cases h; exact .ty n
  | .ref a, _, h => by cases h; exact .ref a
  | .tup ds, _, h => by
    cases h with
    | tup h1 h2 => exact .tup (s _ _ h1) (IsVs.mono s ds _ h2)
  | .kup ds, _, h => by
    cases h with
    | kup h1 h0 h2 => exact .kup (s _ _ h1) h0 (IsVs.mono s ds _ h2)
  | .lst ds, _, h => by
    cases h with
    | lst h1 h2 => exact .lst (s _ _ h1) (IsVs.mono s ds _ h2)
  | .scr ds, _, h => by
    cases h with
    | scr h1 h2 => exact .scr (s.seq h1) (IsVs.mono s ds _ h2)
  | .dK ks ds, _, h => by
    cases h with
    | dK h1 h2 h3 => exact .dK (s _ _ h1) h2 (IsVs.mono s ds _ h3)
  | .dT ks ds, _, h => by
    cases h with
    | dT h1 h2 h3 => exact .dT (s _ _ h1) h2 (IsVs.mono s ds _ h3)
  | .obj C ns ds, _, h => by
    cases h with
    | obj h1 h2 h3 => exact .obj (s _ _ h1) h2 (IsVs.mono s ds _ h3)
theorem IsVs.mono (s : Same F F') : ∀ (ds : List D) (vs : List V), IsVs K F ds vs → IsVs K F' ds vs
  | [], _, h => by cases h; exact .nil
  | d :: ds, _, h => by
    cases h with
    | cons h1 h2 => exact .cons (IsV.mono s d _ h1) (IsVs.mono s ds _ h2)
end
theorem IsV.up (s : Same F F') {d : D} {v : V} (h : IsV K F d v) : IsV K F' d v := IsV.mono s d v h
theorem IsVs.up (s : Same F F') {d : List D} {v : List V} (h : IsVs K F d v) : IsVs K F' d v := IsVs.mono s d v h
theorem IsVs.length : ∀ {ds : List D} {vs : List V}, IsVs K F ds vs → ds.length = vs.length
  | _, _, .nil => rfl
  | _, _, .cons _ h => congrArg (· + 1) (IsVs.length h)
theorem IsVs.get : ∀ {ds : List D} {vs : List V} {i : Nat} {d : D}, IsVs K F ds vs → ds[i]? = some d → ∃ v, vs[i]? = some v ∧ IsV K F d v
  | _, _, _, _, .nil, e => by simp at e
  | _, _, 0, _, .cons h _, e => by simp at e; subst e; exact ⟨_, rfl, h⟩
  | _, _, i + 1, _, .cons _ h, e => by
    obtain ⟨v, h1, h2⟩ := IsVs.get (i := i) h (by simpa using e)
    exact ⟨v, by simpa using h1, h2⟩
theorem IsVs.getV : ∀ {ds : List D} {vs : List V} {i : Nat} {v : V}, IsVs K F ds vs → vs[i]? = some v → ∃ d, ds[i]? = some d ∧ IsV K F d v
  | _, _, _, _, .nil, e => by simp at e
  | _, _, 0, _, .cons h _, e => by simp at e; subst e; exact ⟨_, rfl, h⟩
  | _, _, i + 1, _, .cons _ h, e => by
    obtain ⟨v, h1, h2⟩ := IsVs.getV (i := i) h (by simpa using e)
    exact ⟨v, by simpa using h1, h2⟩
theorem IsVs.append : ∀ {ds es : List D} {vs ws : List V}, IsVs K F ds vs → IsVs K F es ws → IsVs K F (ds ++ es) (vs ++ ws)
  | _, _, _, _, .nil, h => h
  | _, _, _, _, .cons a b, h => .cons a (IsVs.append b h)
theorem IsVs.take : ∀ {ds : List D} {vs : List V} (n : Nat), IsVs K F ds vs → IsVs K F (ds.take n) (vs.take n)
  | _, _, 0, _ => .nil
  | _, _, _ + 1, .nil => .nil
  | _, _, n + 1, .cons a b => .cons a (IsVs.take n b)
theorem IsVs.drop : ∀ {ds : List D} {vs : List V} (n : Nat), IsVs K F ds vs → IsVs K F (ds.drop n) (vs.drop n)
  | _, _, 0, h => h
  | _, _, _ + 1, .nil => .nil
  | _, _, n + 1, .cons _ b => IsVs.drop n b
theorem IsVs.reverse {ds : List D} {vs : List V} (h : IsVs K F ds vs) : IsVs K F ds.reverse vs.reverse := by
  induction h using IsVs.rec (motive_1 := fun _ _ _ => True) with
  | nil => exact .nil
  | cons h1 h2 _ ih =>
    rw [List.reverse_cons, List.reverse_cons]
    exact ih.append (.cons h1 .nil)
  | _ => trivial
theorem IsVs.eraseIdx : ∀ {ds : List D} {vs : List V} (n : Nat), IsVs K F ds vs → IsVs K F (ds.eraseIdx n) (vs.eraseIdx n)
  | _, _, _, .nil => .nil
  | _, _, 0, .cons _ b => b
  | _, _, n + 1, .cons a b => .cons a (IsVs.eraseIdx n b)
theorem IsVs.set {d : D} {v : V} (r : IsV K F d v) : ∀ {ds : List D} {vs : List V} (n : Nat), IsVs K F ds vs → IsVs K F (ds.set n d) (vs.set n v)
  | _, _, _, .nil => .nil
  | _, _, 0, .cons _ b => .cons r b
  | _, _, n + 1, .cons a b => .cons a (IsVs.set r n b)
theorem isVs_ints : ∀ ns : List Int, IsVs K F (ns.map D.int) (ns.map V.int)
  | [] => .nil
  | n :: r => .cons (.int n) (isVs_ints r)
theorem isVs_strs : ∀ ns : List Str, IsVs K F (ns.map D.str) (ns.map V.str)
  | [] => .nil
  | n :: r => .cons (.str n) (isVs_strs r)
theorem isVs_strs_inv : ∀ {ns : List Str} {vs : List V}, IsVs K F (ns.map D.str) vs → vs = ns.map V.str
  | [], _, h => by cases h; rfl
  | n :: r, _, h => by
    cases h with
    | cons h1 h2 =>
      cases h1
      rw [isVs_strs_inv h2]
      rfl
theorem isVs_ints_inv : ∀ {ns : List Int} {vs : List V}, IsVs K F (ns.map D.int) vs → vs = ns.map V.int
  | [], _, h => by cases h; rfl
  | n :: r, _, h => by
    cases h with
    | cons h1 h2 =>
      cases h1
      rw [isVs_ints_inv h2]
      rfl
end

/-- an object of the store -/
def MRel (K : PySem.W.Frag) (F : Hp) : M → HO → Prop
  | .lst ds, o => ∃ vs, o = .lst vs ∧ IsVs K F ds vs
  | .dK ks ds, o => ∃ kvs, o = .dK kvs ∧ kvs.map (·.1) = ks ∧ IsVs K F ds (kvs.map (·.2))
  | .dT ks ds, o => ∃ kvs, o = .dT kvs ∧ kvs.map (·.1) = ks ∧ IsVs K F ds (kvs.map (·.2))
  | .ins C ns ds, o => ∃ dx fs, o = .ins C dx fs ∧ fs.map (·.1) = ns ∧ IsVs K F ds (fs.map (·.2))
  | .xd ns ds, o => ∃ fs, o = .xd fs ∧ fs.map (·.1) = ns ∧ IsVs K F ds (fs.map (·.2))
theorem MRel.up {K : PySem.W.Frag} {F F' : Hp} (s : Same F F') : ∀ {m : M} {o : HO}, MRel K F m o → MRel K F' m o
  | .lst _, _, ⟨vs, e, h⟩ => ⟨vs, e, h.up s⟩
  | .dK _ _, _, ⟨kvs, e, e2, h⟩ => ⟨kvs, e, e2, h.up s⟩
  | .dT _ _, _, ⟨kvs, e, e2, h⟩ => ⟨kvs, e, e2, h.up s⟩
  | .ins _ _ _, _, ⟨dx, fs, e, e2, h⟩ => ⟨dx, fs, e, e2, h.up s⟩
  | .xd _ _, _, ⟨fs, e, e2, h⟩ => ⟨fs, e, e2, h.up s⟩

/-- F: what is frozen; Z: what is hidden from this code (an enclosing construct owns it) -/
structure Rel (K : PySem.W.Frag) (Z : Addr → Prop) (H : Hp) (S : Store) (F : Hp) : Prop where
  sub : ∀ a o, F a = some o → H a = some o ∧ S a = none ∧ ¬ Z a
  sto : ∀ a m, S a = some m → ¬ Z a ∧ ∃ o, H a = some o ∧ MRel K F m o
  hid : ∀ a, Z a → ∃ o, H a = some o
def Keep (Z : Addr → Prop) (H H' : Hp) : Prop := ∀ a o, Z a → H a = some o → H' a = some o
theorem Keep.refl {Z : Addr → Prop} {H : Hp} : Keep Z H H := fun _ _ _ h => h
theorem Keep.trans {Z : Addr → Prop} {H H1 H2 : Hp} (a : Keep Z H H1) (b : Keep Z H1 H2) : Keep Z H H2 := fun c o z h => b c o z (a c o z h)

abbrev Sl := List (Option D)
/-- the slots -/
def EnvR (K : PySem.W.Frag) (F : Hp) (ρ : Sl) (σ : L2.St) : Prop := ρ.length = σ.length ∧ ∀ (i : Nat) (d : D), ρ[i]? = some (some d) → ∃ v, σ[i]? = some (some v) ∧ IsV K F d v
section
variable {K : PySem.W.Frag} {Z : Addr → Prop} {F F' H H' : Hp} {S : Store} {ρ : Sl} {σ : L2.St}
theorem EnvR.up (s : Same F F') (h : EnvR K F ρ σ) : EnvR K F' ρ σ := ⟨h.1, fun i d e => let ⟨v, e1, e2⟩ := h.2 i d e; ⟨v, e1, e2.up s⟩⟩
theorem EnvR.set (h : EnvR K F ρ σ) {d : D} {v : V} (r : IsV K F d v) (i : Nat) : EnvR K F (ρ.set i (some d)) (σ.set i (some v)) := by
  refine ⟨by rw [List.length_set, List.length_set]; exact h.1, fun j e hj => ?_⟩
  by_cases q : i = j
  · subst q
    by_cases hl : i < ρ.length
    · rw [List.getElem?_set_self hl] at hj
      cases hj
      exact ⟨v, List.getElem?_set_self (by rw [← h.1]; exact hl), r⟩
    · rw [List.getElem?_eq_none (by rw [List.length_set]; omega)] at hj
      cases hj
  · rw [List.getElem?_set_ne q] at hj
    obtain ⟨w, e1, e2⟩ := h.2 j e hj
    exact ⟨w, by rw [List.getElem?_set_ne q]; exact e1, e2⟩
theorem EnvR.forget (h : EnvR K F ρ σ) (i : Nat) : EnvR K F (ρ.set i none) (σ.set i none) := by
  refine ⟨by rw [List.length_set, List.length_set]; exact h.1, fun j e hj => ?_⟩
  by_cases q : i = j
  · subst q
    by_cases hl : i < ρ.length
    · rw [List.getElem?_set_self hl] at hj
      cases hj
    · rw [List.getElem?_eq_none (by rw [List.length_set]; omega)] at hj
      cases hj
  · rw [List.getElem?_set_ne q] at hj
    obtain ⟨w, e1, e2⟩ := h.2 j e hj
    exact ⟨w, by rw [List.getElem?_set_ne q]; exact e1, e2⟩
/-- a new object that is frozen at once -/
theorem Rel.laid {p : Addr} {o : HO} (R : Rel K Z H S F) (hp : H p = none) : Rel K Z (upd H p o) S (upd F p o) ∧ Same F (upd F p o) ∧ Keep Z H (upd H p o) := by
  have ne : ∀ {b u}, H b = some u → b ≠ p := fun e z => by rw [z, hp] at e; cases e
  have sp : S p = none := by
    cases e : S p with
    | none => rfl
    | some m =>
      obtain ⟨_, o, e1, _⟩ := R.sto p m e
      rw [hp] at e1; cases e1
  have zp : ¬ Z p := fun z => by
    obtain ⟨o, e⟩ := R.hid p z
    rw [hp] at e; cases e
  have sm : Same F (upd F p o) := fun b u e => by rw [upd_ne (ne (R.sub b u e).1)]; exact e
  refine ⟨⟨fun b u e => ?_, fun b m e => ?_, fun b z => ?_⟩, sm, fun b u _ e => by rw [upd_ne (ne e)]; exact e⟩
  · by_cases hb : b = p
    · subst hb
      rw [upd_same] at e
      cases e
      exact ⟨upd_same, sp, zp⟩
    · rw [upd_ne hb] at e
      rw [upd_ne hb]
      exact R.sub b u e
  · obtain ⟨h1, u, h2, h3⟩ := R.sto b m e
    exact ⟨h1, u, by rw [upd_ne (ne h2)]; exact h2, h3.up sm⟩
  · obtain ⟨u, e⟩ := R.hid b z
    exact ⟨u, by rw [upd_ne (ne e)]; exact e⟩
/-- a new object of the store -/
theorem Rel.made {p : Addr} {o : HO} {m : M} (R : Rel K Z H S F) (hp : H p = none) (r : MRel K F m o) : Rel K Z (upd H p o) (put S p m) F ∧ Keep Z H (upd H p o) ∧ S p = none := by
  have ne : ∀ {b u}, H b = some u → b ≠ p := fun e z => by rw [z, hp] at e; cases e
  have sp : S p = none := by
    cases e : S p with
    | none => rfl
    | some m =>
      obtain ⟨_, o, e1, _⟩ := R.sto p m e
      rw [hp] at e1; cases e1
  have zp : ¬ Z p := fun z => by
    obtain ⟨o, e⟩ := R.hid p z
    rw [hp] at e; cases e
  refine ⟨⟨fun b u e => ?_, fun b m' e => ?_, fun b z => ?_⟩, fun b u _ e => by rw [upd_ne (ne e)]; exact e, sp⟩
  · obtain ⟨h1, h2, h3⟩ := R.sub b u e
    exact ⟨by rw [upd_ne (ne h1)]; exact h1, by rw [put_ne (ne h1)]; exact h2, h3⟩
  · by_cases hb : b = p
    · subst hb
      rw [put_same] at e
      cases e
      exact ⟨zp, o, upd_same, r⟩
    · rw [put_ne hb] at e
      rw [upd_ne hb]
      exact R.sto b m' e
  · obtain ⟨u, e⟩ := R.hid b z
    exact ⟨u, by rw [upd_ne (ne e)]; exact e⟩
/-- an object of the store is written -/
theorem Rel.wrote {p : Addr} {o : HO} {m0 m : M} (R : Rel K Z H S F) (hp : S p = some m0) (r : MRel K F m o) : Rel K Z (upd H p o) (put S p m) F ∧ Keep Z H (upd H p o) := by
  obtain ⟨zp, _, _, _⟩ := R.sto p m0 hp
  refine ⟨⟨fun b u e => ?_, fun b m' e => ?_, fun b z => ?_⟩, fun b u z e => ?_⟩
  · obtain ⟨h1, h2, h3⟩ := R.sub b u e
    have hb : b ≠ p := fun q => by rw [q, hp] at h2; cases h2
    exact ⟨by rw [upd_ne hb]; exact h1, by rw [put_ne hb]; exact h2, h3⟩
  · by_cases hb : b = p
    · subst hb
      rw [put_same] at e
      cases e
      exact ⟨zp, o, upd_same, r⟩
    · rw [put_ne hb] at e
      rw [upd_ne hb]
      exact R.sto b m' e
  · obtain ⟨u, e⟩ := R.hid b z
    have hb : b ≠ p := fun q => zp (q ▸ z)
    exact ⟨u, by rw [upd_ne hb]; exact e⟩
  · have hb : b ≠ p := fun q => zp (q ▸ z)
    rw [upd_ne hb]; exact e
/-- an object of the store is frozen from now on -/
theorem Rel.freeze {p : Addr} {m : M} (R : Rel K Z H S F) (hp : S p = some m) : ∃ o, H p = some o ∧ MRel K F m o ∧ Rel K Z H (del S p) (upd F p o) ∧ Same F (upd F p o) := by
  obtain ⟨zp, o, h1, h2⟩ := R.sto p m hp
  have sm : Same F (upd F p o) := fun b u e => by
    have hb : b ≠ p := fun q => by
      have := (R.sub b u e).2.1
      rw [q, hp] at this; cases this
    rw [upd_ne hb]; exact e
  refine ⟨o, h1, h2, ⟨fun b u e => ?_, fun b m' e => ?_, R.hid⟩, sm⟩
  · by_cases hb : b = p
    · subst hb
      rw [upd_same] at e
      cases e
      exact ⟨h1, del_same, zp⟩
    · rw [upd_ne hb] at e
      rw [del_ne hb]
      exact R.sub b u e
  · by_cases hb : b = p
    · subst hb
      rw [del_same] at e
      cases e
    · rw [del_ne hb] at e
      obtain ⟨q1, u, q2, q3⟩ := R.sto b m' e
      exact ⟨q1, u, q2, q3.up sm⟩
end

/-! ### readings of transformers -/
abbrev DQ := D → Store → Prop
/-- an exception: its class, its fields -/
abbrev DX := Addr → List Str → List D → Store → Prop
abbrev DTE := Sl → Store → DQ → DX → Prop
abbrev DTA := Sl → Store → (List D → Store → Prop) → DX → Prop
abbrev DTT := Sl → Store → (Bool → Store → Prop) → DX → Prop
structure DEnds where
  nx : Sl → Store → Prop
  rt : DQ
  bk : Sl → Store → Prop := fun _ _ => False
  ct : Sl → Store → Prop := fun _ _ => False
  ex : Sl → DX
abbrev DTS := DEnds → Sl → Store → Prop
/-- behind: more is frozen, the rest as said -/
structure Aft (K : PySem.W.Frag) (Z : Addr → Prop) (H F : Hp) (H' : Hp) (S' : Store) (F' : Hp) : Prop where
  sm : Same F F'
  rel : Rel K Z H' S' F'
  kp : Keep Z H H'
theorem Aft.refl {K : PySem.W.Frag} {Z : Addr → Prop} {H F : Hp} {S : Store} (R : Rel K Z H S F) : Aft K Z H F H S F := ⟨Same.refl _, R, Keep.refl⟩
theorem Aft.trans {K : PySem.W.Frag} {Z : Addr → Prop} {H F H1 F1 H2 F2 : Hp} {S1 S2 : Store} (a : Aft K Z H F H1 S1 F1) (b : Aft K Z H1 F1 H2 S2 F2) : Aft K Z H F H2 S2 F2 := ⟨a.sm.trans b.sm, b.rel, a.kp.trans b.kp⟩
/-- the own dict of an exception -/
def XdR (K : PySem.W.Frag) (Z : Addr → Prop) (H : Hp) (S : Store) (F : Hp) (d : Option Addr) (ns : List Str) (ds : List D) : Prop := (d = none ∧ ns = [] ∧ ds = []) ∨ ∃ dd fs, d = some dd ∧ H dd = some (.xd fs) ∧ S dd = none ∧ F dd = none ∧ ¬ Z dd ∧ fs.map (·.1) = ns ∧ IsVs K F ds (fs.map (·.2))
def LftE (K : PySem.W.Frag) (Z : Addr → Prop) (H F : Hp) (Q : DQ) : VK := fun v H' => ∃ d S' F', Aft K Z H F H' S' F' ∧ IsV K F' d v ∧ Q d S'
def LftA (K : PySem.W.Frag) (Z : Addr → Prop) (H F : Hp) (Q : List D → Store → Prop) : List V → Hp → Prop := fun v H' => ∃ d S' F', Aft K Z H F H' S' F' ∧ IsVs K F' d v ∧ Q d S'
def LftT (K : PySem.W.Frag) (Z : Addr → Prop) (H F : Hp) (Q : Bool → Store → Prop) : Bool → Hp → Prop := fun b H' => ∃ S' F', Aft K Z H F H' S' F' ∧ Q b S'
def LftN (K : PySem.W.Frag) (Z : Addr → Prop) (H F : Hp) (Q : Sl → Store → Prop) : L2.St → Hp → Prop := fun σ' H' => ∃ ρ' S' F', Aft K Z H F H' S' F' ∧ EnvR K F' ρ' σ' ∧ Q ρ' S'
def LftX (K : PySem.W.Frag) (Z : Addr → Prop) (H F : Hp) (E : DX) : XK := fun cls d H' => ∃ C ns ds S' F', cls = .ref C ∧ Aft K Z H F H' S' F' ∧ XdR K Z H' S' F' d ns ds ∧ E C ns ds S'
def LftW (K : PySem.W.Frag) (Z : Addr → Prop) (H F : Hp) (E : Sl → DX) : WX := fun cls d σ' H' => ∃ C ns ds ρ' S' F', cls = .ref C ∧ Aft K Z H F H' S' F' ∧ EnvR K F' ρ' σ' ∧ XdR K Z H' S' F' d ns ds ∧ E ρ' C ns ds S'
def upE (K : PySem.W.Frag) (W : WX) (T : DTE) : TE := fun σ H P => ∃ ρ S F Z Q E, Rel K Z H S F ∧ EnvR K F ρ σ ∧ T ρ S Q E ∧ (∀ v H', LftE K Z H F Q v H' → P v H') ∧ ∀ cls d H', LftX K Z H F E cls d H' → W cls d σ H'
def upA (K : PySem.W.Frag) (W : WX) (T : DTA) : TA := fun σ H P => ∃ ρ S F Z Q E, Rel K Z H S F ∧ EnvR K F ρ σ ∧ T ρ S Q E ∧ (∀ v H', LftA K Z H F Q v H' → P v H') ∧ ∀ cls d H', LftX K Z H F E cls d H' → W cls d σ H'
def upT (K : PySem.W.Frag) (W : WX) (T : DTT) : TT := fun σ H P => ∃ ρ S F Z Q E, Rel K Z H S F ∧ EnvR K F ρ σ ∧ T ρ S Q E ∧ (∀ v H', LftT K Z H F Q v H' → P v H') ∧ ∀ cls d H', LftX K Z H F E cls d H' → W cls d σ H'
structure LftS (K : PySem.W.Frag) (W : WX) (Z : Addr → Prop) (H F : Hp) (Q : DEnds) (N : Ends) : Prop where
  nx : ∀ σ' H', LftN K Z H F Q.nx σ' H' → N.nx σ' H'
  rt : ∀ v H', LftE K Z H F Q.rt v H' → N.rt v H'
  bk : ∀ σ' H', LftN K Z H F Q.bk σ' H' → N.bk σ' H'
  ct : ∀ σ' H', LftN K Z H F Q.ct σ' H' → N.ct σ' H'
  ex : ∀ cls d σ' H', LftW K Z H F Q.ex cls d σ' H' → W cls d σ' H'
def upS (K : PySem.W.Frag) (W : WX) (T : DTS) : TS := fun N σ H => ∃ ρ S F Z Q, Rel K Z H S F ∧ EnvR K F ρ σ ∧ T Q ρ S ∧ LftS K W Z H F Q N
section
variable {K : PySem.W.Frag} {W : WX} {Z : Addr → Prop} {H F H1 F1 H2 : Hp} {S1 : Store} {σ : L2.St}
theorem lftN_tr (A : Aft K Z H F H1 S1 F1) {Q : Sl → Store → Prop} (h : LftN K Z H1 F1 Q σ H2) : LftN K Z H F Q σ H2 := let ⟨ρ, S, F2, A2, E, q⟩ := h; ⟨ρ, S, F2, A.trans A2, E, q⟩
theorem lftE_tr (A : Aft K Z H F H1 S1 F1) {Q : DQ} {v : V} (h : LftE K Z H1 F1 Q v H2) : LftE K Z H F Q v H2 := let ⟨d, S, F2, A2, i, q⟩ := h; ⟨d, S, F2, A.trans A2, i, q⟩
theorem lftX_tr (A : Aft K Z H F H1 S1 F1) {E : DX} {c : Value} {d : Option Addr} (h : LftX K Z H1 F1 E c d H2) : LftX K Z H F E c d H2 := let ⟨C, ns, ds, S, F2, e, A2, x, q⟩ := h; ⟨C, ns, ds, S, F2, e, A.trans A2, x, q⟩
theorem lftW_tr (A : Aft K Z H F H1 S1 F1) {E : Sl → DX} {c : Value} {d : Option Addr} (h : LftW K Z H1 F1 E c d σ H2) : LftW K Z H F E c d σ H2 := let ⟨C, ns, ds, ρ, S, F2, e, A2, r, x, q⟩ := h; ⟨C, ns, ds, ρ, S, F2, e, A.trans A2, r, x, q⟩
theorem LftS.tr {Q : DEnds} {N : Ends} (l : LftS K W Z H F Q N) (A : Aft K Z H F H1 S1 F1) : LftS K W Z H1 F1 Q N :=
  ⟨fun _ _ h => l.nx _ _ (lftN_tr A h), fun _ _ h => l.rt _ _ (lftE_tr A h), fun _ _ h => l.bk _ _ (lftN_tr A h), fun _ _ h => l.ct _ _ (lftN_tr A h), fun _ _ _ _ h => l.ex _ _ _ _ (lftW_tr A h)⟩
/-- an expression's exceptions, for a statement -/
theorem LftS.xe {Q : DEnds} {N : Ends} (l : LftS K W Z H F Q N) {ρ : Sl} (E : EnvR K F ρ σ) : ∀ cls d H', LftX K Z H F (Q.ex ρ) cls d H' → W cls d σ H' :=
  fun cls d H' ⟨C, ns, ds, S, F2, e, A, x, q⟩ => l.ex cls d σ H' ⟨C, ns, ds, ρ, S, F2, e, A, E.up A.sm, x, q⟩
theorem xe_tr {E : DX} (x : ∀ cls d H', LftX K Z H F E cls d H' → W cls d σ H') (A : Aft K Z H F H1 S1 F1) : ∀ cls d H', LftX K Z H1 F1 E cls d H' → W cls d σ H' := fun cls d H' h => x cls d H' (lftX_tr A h)
end
structure DE (X : Cx) (W : WX) (e : Expr) (T : DTE) : Prop where
  pe : PE X e (upE X.K W T)
structure DA (X : Cx) (W : WX) (es : List Expr) (T : DTA) : Prop where
  pa : PA X es (upA X.K W T)
structure DT (X : Cx) (W : WX) (e : Expr) (T : DTT) : Prop where
  pt : PT X e (upT X.K W T)
structure DW (X : Cx) (W : WX) (e : Expr) (T : DTT) : Prop where
  pw : PW X e (upT X.K W T)
structure DS (X : Cx) (W : WX) (st : Stmt) (T : DTS) : Prop where
  ps : PS X st (upS X.K W T)
structure DSs (X : Cx) (W : WX) (st : List Stmt) (T : DTS) : Prop where
  pss : PSs X st (upS X.K W T)
theorem pe_imp {X : Cx} {e : Expr} {t t' : TE} (h : PE X e t) (i : ∀ σ H P, t' σ H P → t σ H P) : PE X e t' := ⟨fun pins s σ H Q I q => h.run pins s σ H Q I (i σ H Q q)⟩
theorem pa_imp {X : Cx} {e : List Expr} {t t' : TA} (h : PA X e t) (i : ∀ σ H P, t' σ H P → t σ H P) : PA X e t' := ⟨fun pos pins s σ H Q I q => h.run pos pins s σ H Q I (i σ H Q q)⟩
theorem pt_imp {X : Cx} {e : Expr} {t t' : TT} (h : PT X e t) (i : ∀ σ H P, t' σ H P → t σ H P) : PT X e t' := ⟨fun pins s σ H Q I q => h.run pins s σ H Q I (i σ H Q q)⟩
theorem pw_imp {X : Cx} {e : Expr} {t t' : TT} (h : PW X e t) (i : ∀ σ H P, t' σ H P → t σ H P) : PW X e t' := ⟨fun w pins s σ H Q I q => h.run w pins s σ H Q I (i σ H Q q)⟩
theorem ps_imp {X : Cx} {e : Stmt} {t t' : TS} (h : PS X e t) (i : ∀ N σ H, t' N σ H → t N σ H) : PS X e t' := ⟨fun pins s σ H D I q => h.run pins s σ H D I (i D σ H q)⟩
theorem pss_imp {X : Cx} {e : List Stmt} {t t' : TS} (h : PSs X e t) (i : ∀ N σ H, t' N σ H → t N σ H) : PSs X e t' := ⟨fun pins s σ H D I q => h.run pins s σ H D I (i D σ H q)⟩
end DL

set_option maxRecDepth 100000
/-! DL, expressions: each rule of the hand layer, read over trees. -/
namespace DL
open PySem PySem.Spec L2
section
variable {X : Cx} {W : WX}

/-! ### names, constants, arguments, displays -/
def dVar (i : Nat) : DTE := fun ρ S Q _ => ∃ d, ρ[i]? = some (some d) ∧ Q d S
def dC (c : D) : DTE := fun _ S Q _ => Q c S
theorem de_pe {e : Expr} {t : TE} {T : DTE} (h : PE X e t) (i : ∀ σ H P, upE X.K W T σ H P → t σ H P) : DE X W e T := ⟨pe_imp h i⟩
theorem de_var {e : Expr} {i : Nat} (h : PE X e (tVar i)) : DE X W e (dVar i) := de_pe h fun σ H P ⟨ρ, S, F, Z, Q, E, R, V, ⟨d, e1, q⟩, k, _⟩ => by
  obtain ⟨v, e2, iv⟩ := V.2 i d e1
  exact ⟨v, e2, k v H ⟨d, S, F, .refl R, iv, q⟩⟩
/-- the name in slot i -/
theorem dv (i : Nat) {x : Str} {pos : Pos} (hN : X.N[i]? = some x := by rfl) (hv : Vis X.env.scope x := by first | exact Or.inl rfl | exact Or.inr (Or.inl rfl) | exact Or.inr (Or.inr rfl)) (hd : (x == ("__debug__" : Str)) = false := by decide)
    (hcd : (x == ("__classdict__" : Str)) = false := by decide) : DE X W (.Name x pos) (dVar i) := de_var (pe_var hN hv hd hcd)
theorem de_c {e : Expr} {v : V} {d : D} (h : PE X e (tC v)) (iv : ∀ F, IsV X.K F d v) : DE X W e (dC d) := de_pe h fun σ H P ⟨ρ, S, F, Z, Q, E, R, V, q, k, _⟩ => k v H ⟨d, S, F, .refl R, iv F, q⟩
theorem de_int {i : Int} {j pos} : DE X W (.Constant (.int i) j pos) (dC (.int i)) := de_c pe_int fun _ => .int i
theorem de_bl {i : Bool} {j pos} : DE X W (.Constant (.bool i) j pos) (dC (.bl i)) := de_c pe_bl fun _ => .bl i
theorem de_non {j pos} : DE X W (.Constant .none j pos) (dC .non) := de_c pe_non fun _ => .non
theorem de_str {i : Str} {j pos} : DE X W (.Constant (.str i) j pos) (dC (.str i)) := de_c pe_str fun _ => .str i
theorem de_glob {x : Str} {v : V} {d : D} {u : Value} {pos : Pos} (hm : X.mg x = some u) (r : RelV v u) (iv : ∀ F, IsV X.K F d v) (hg : Gl X x := by rfl) (hd : (x == ("__debug__" : Str)) = false := by decide) : DE X W (.Name x pos) (dC d) :=
  de_c (pe_glob hg hm r hd) iv

def dNil : DTA := fun _ S Q _ => Q [] S
def dCons (t : DTE) (u : DTA) : DTA := fun ρ S Q E => t ρ S (fun d S1 => u ρ S1 (fun ds S2 => Q (d :: ds) S2) E) E
theorem da_nil : DA X W [] dNil := ⟨pa_imp pa_nil fun σ H P ⟨ρ, S, F, Z, Q, E, R, V, q, k, _⟩ => k [] H ⟨[], S, F, .refl R, .nil, q⟩⟩
theorem da_cons {e : Expr} {es : List Expr} {t : DTE} {u : DTA} (ha : DE X W e t) (hr : DA X W es u) (hs : starEach (e :: es) X.env = (false, eval e X.env) :: starEach es X.env := by rfl) : DA X W (e :: es) (dCons t u) := by
  refine ⟨pa_imp (pa_cons ha.pe hr.pa hs) fun σ H P ⟨ρ, S, F, Z, Q, E, R, V, q, k, x⟩ => ?_⟩
  refine ⟨ρ, S, F, Z, _, E, R, V, q, fun v H1 ⟨d, S1, F1, A1, i1, q1⟩ => ?_, x⟩
  refine ⟨ρ, S1, F1, Z, _, E, A1.rel, V.up A1.sm, q1, fun vs H2 ⟨ds, S2, F2, A2, i2, q2⟩ => ?_, xe_tr x A1⟩
  exact k _ H2 ⟨d :: ds, S2, F2, A1.trans A2, .cons (i1.up A2.sm) i2, q2⟩

/-- a new tuple; a new list that is never written -/
def dTup (t : DTA) : DTE := fun ρ S Q E => t ρ S (fun ds S1 => ds.length ≤ sizeLine ∧ Q (.tup ds) S1) E
def dLst (t : DTA) : DTE := fun ρ S Q E => t ρ S (fun ds S1 => ds.length ≤ sizeLine ∧ Q (.lst ds) S1) E
/-- a new list of the store -/
def dLstM (t : DTA) : DTE := fun ρ S Q E => t ρ S (fun ds S1 => ds.length ≤ sizeLine ∧ ∀ a, S1 a = none → Q (.ref a) (put S1 a (.lst ds))) E
variable {es : List Expr} {t : DTA} {pos : Pos}
theorem de_tup {x1} (h : DA X W es t) : DE X W (.Tuple es x1 pos) (dTup t) := by
  refine de_pe (pe_tup h.pa) fun σ H P ⟨ρ, S, F, Z, Q, E, R, V, q, k, x⟩ => ?_
  refine ⟨ρ, S, F, Z, _, E, R, V, q, fun vs H1 ⟨ds, S1, F1, A1, i1, z, q1⟩ => ⟨by rw [← i1.length]; exact z, fun p hp => ?_⟩, x⟩
  obtain ⟨R2, s2, k2⟩ := A1.rel.laid (o := .tup vs) hp
  exact k _ _ ⟨.tup ds, S1, _, A1.trans ⟨s2, R2, k2⟩, .tup upd_same (i1.up s2), q1⟩
theorem de_lst (h : DA X W es t) : DE X W (.List es pos) (dLst t) := by
  refine de_pe (pe_lst h.pa) fun σ H P ⟨ρ, S, F, Z, Q, E, R, V, q, k, x⟩ => ?_
  refine ⟨ρ, S, F, Z, _, E, R, V, q, fun vs H1 ⟨ds, S1, F1, A1, i1, z, q1⟩ => ⟨by rw [← i1.length]; exact z, fun p hp => ?_⟩, x⟩
  obtain ⟨R2, s2, k2⟩ := A1.rel.laid (o := .lst vs) hp
  exact k _ _ ⟨.lst ds, S1, _, A1.trans ⟨s2, R2, k2⟩, .lst upd_same (i1.up s2), q1⟩
theorem de_lstM (h : DA X W es t) : DE X W (.List es pos) (dLstM t) := by
  refine de_pe (pe_lst h.pa) fun σ H P ⟨ρ, S, F, Z, Q, E, R, V, q, k, x⟩ => ?_
  refine ⟨ρ, S, F, Z, _, E, R, V, q, fun vs H1 ⟨ds, S1, F1, A1, i1, z, q1⟩ => ⟨by rw [← i1.length]; exact z, fun p hp => ?_⟩, x⟩
  obtain ⟨R2, k2, hS⟩ := A1.rel.made (o := .lst vs) (m := .lst ds) hp ⟨vs, rfl, i1⟩
  exact k _ _ ⟨.ref p, _, F1, A1.trans ⟨Same.refl _, R2, k2⟩, .ref p, q1 p hS⟩

/-! ### by values -/
abbrev DR2 := D → D → Store → DQ → Prop
abbrev DR1 := D → Store → DQ → Prop
abbrev DRL := List D → Store → DQ → Prop
abbrev DRM := D → List D → Store → DQ → Prop
def Lift2 (K : PySem.W.Frag) (r : R2) (rd : DR2) : Prop := ∀ Z H S F x y v w Q P, Rel K Z H S F → IsV K F x v → IsV K F y w → rd x y S Q → (∀ v' H', LftE K Z H F Q v' H' → P v' H') → r v w H P
def Lift1 (K : PySem.W.Frag) (r : V → Hp → VK → Prop) (rd : DR1) : Prop := ∀ Z H S F x v Q P, Rel K Z H S F → IsV K F x v → rd x S Q → (∀ v' H', LftE K Z H F Q v' H' → P v' H') → r v H P
def LiftL (K : PySem.W.Frag) (r : List V → Hp → VK → Prop) (rd : DRL) : Prop := ∀ Z H S F x v Q P, Rel K Z H S F → IsVs K F x v → rd x S Q → (∀ v' H', LftE K Z H F Q v' H' → P v' H') → r v H P
def LiftM (K : PySem.W.Frag) (r : V → List V → Hp → VK → Prop) (rd : DRM) : Prop := ∀ Z H S F x xs v vs Q P, Rel K Z H S F → IsV K F x v → IsVs K F xs vs → rd x xs S Q → (∀ v' H', LftE K Z H F Q v' H' → P v' H') → r v vs H P
def dOp (rd : DR2) (ta tb : DTE) : DTE := fun ρ S Q E => ta ρ S (fun x S1 => tb ρ S1 (fun y S2 => rd x y S2 Q) E) E
def dUn (rd : DR1) (ta : DTE) : DTE := fun ρ S Q E => ta ρ S (fun x S1 => rd x S1 Q) E
def dCB (rd : DRL) (ta : DTA) : DTE := fun ρ S Q E => ta ρ S (fun xs S1 => rd xs S1 Q) E
def dBM (rd : DRM) (to : DTE) (ta : DTA) : DTE := fun ρ S Q E => to ρ S (fun x S1 => ta ρ S1 (fun xs S2 => rd x xs S2 Q) E) E
variable {a b c : Expr} {ta tb tc : DTE} {r r' : R2} {rd rd' : DR2}
theorem lift_op (l : Lift2 X.K r rd) : ∀ σ H P, upE X.K W (dOp rd ta tb) σ H P → tOp r (upE X.K W ta) (upE X.K W tb) σ H P := fun σ H P ⟨ρ, S, F, Z, Q, E, R, V, q, k, x⟩ =>
  ⟨ρ, S, F, Z, _, E, R, V, q, fun v H1 ⟨d, S1, F1, A1, i1, q1⟩ => ⟨ρ, S1, F1, Z, _, E, A1.rel, V.up A1.sm, q1, fun w H2 ⟨e, S2, F2, A2, i2, q2⟩ =>
    l Z H2 S2 F2 d e v w Q P A2.rel (i1.up A2.sm) i2 q2 fun v' H' ⟨d', S', F', A3, i3, q3⟩ => k v' H' ⟨d', S', F', A1.trans (A2.trans A3), i3, q3⟩, xe_tr x A1⟩, x⟩
theorem de_op {op : Operator} (ho : OpR X (binaryOp op) r) (l : Lift2 X.K r rd) (ha : DE X W a ta) (hb : DE X W b tb) : DE X W (.BinOp a op b pos) (dOp rd ta tb) := de_pe (pe_op ho ha.pe hb.pe) (lift_op l)
theorem de_cmp {op : CmpOp} (ho : OpR X (compareOp op) r) (l : Lift2 X.K r rd) (ha : DE X W a ta) (hb : DE X W b tb) (hm : behindInMarks op b = false) : DE X W (.Compare a [op] [b] pos) (dOp rd ta tb) := de_pe (pe_cmpR ho ha.pe hb.pe hm) (lift_op l)
theorem de_un {op : UnaryOp} {r : V → Hp → VK → Prop} {rd : DR1} (ho : UnR X (unaryOp op) r) (l : Lift1 X.K r rd) (ha : DE X W a ta) : DE X W (.UnaryOp op a pos) (dUn rd ta) :=
  de_pe (pe_un ho ha.pe) fun σ H P ⟨ρ, S, F, Z, Q, E, R, V, q, k, x⟩ => ⟨ρ, S, F, Z, _, E, R, V, q, fun v H1 ⟨d, S1, F1, A1, i1, q1⟩ =>
    l Z H1 S1 F1 d v Q P A1.rel i1 q1 fun v' H' ⟨d', S', F', A3, i3, q3⟩ => k v' H' ⟨d', S', F', A1.trans A3, i3, q3⟩, x⟩
theorem lift_cb {r : List V → Hp → VK → Prop} {rd : DRL} (l : LiftL X.K r rd) : ∀ σ H P, upE X.K W (dCB rd t) σ H P → tCB r (upA X.K W t) σ H P := fun σ H P ⟨ρ, S, F, Z, Q, E, R, V, q, k, x⟩ =>
  ⟨ρ, S, F, Z, _, E, R, V, q, fun v H1 ⟨d, S1, F1, A1, i1, q1⟩ => l Z H1 S1 F1 d v Q P A1.rel i1 q1 fun v' H' ⟨d', S', F', A3, i3, q3⟩ => k v' H' ⟨d', S', F', A1.trans A3, i3, q3⟩, x⟩
variable {e : Expr} {x : Str} {p : Pos} {id T : String}
/-- f(e, ..), f a built-in function, a built-in class -/
theorem de_callB {r : List V → Hp → VK → Prop} {rd : DRL} (hc : CallR X (.builtin id) r) (l : LiftL X.K r rd) (hm : X.mg x = none) (hv : bootBuiltins x = some (.builtin id)) (ha : DA X W (e :: es) t) (hg : Gl X x := by rfl) (hn : x ≠ "__name__" := by decide) (hdb : (x == ("__debug__" : Str)) = false := by decide)
    (he : starEach (e :: es) X.env = (false, eval e X.env) :: starEach es X.env := by rfl) (hpl : (backTo pos (starEach es X.env)).any (·.1) = false := by rfl) : DE X W (.Call (.Name x p) (e :: es) [] pos) (dCB rd t) :=
  de_pe (pe_callB hc hg hm hv ha.pa hn hdb he hpl) (lift_cb l)
theorem de_callTy {r : List V → Hp → VK → Prop} {rd : DRL} (hc : CallR X (.type T) r) (l : LiftL X.K r rd) (hm : X.mg x = none) (hv : bootBuiltins x = some (.type T)) (ha : DA X W (e :: es) t) (hg : Gl X x := by rfl) (hn : x ≠ "__name__" := by decide) (hdb : (x == ("__debug__" : Str)) = false := by decide)
    (he : starEach (e :: es) X.env = (false, eval e X.env) :: starEach es X.env := by rfl) (hpl : (backTo pos (starEach es X.env)).any (·.1) = false := by rfl) : DE X W (.Call (.Name x p) (e :: es) [] pos) (dCB rd t) :=
  de_pe (pe_callTy hc hg hm hv ha.pa hn hdb he hpl) (lift_cb l)
/-- o.m(e, ..) of a built-in type -/
def dBMT (ok : D → Store → Prop) (rd : DRM) (to : DTE) (ta : DTA) : DTE := fun ρ S Q E => to ρ S (fun x S1 => ok x S1 ∧ ta ρ S1 (fun xs S2 => rd x xs S2 Q) E) E

/-! ### tests, and, or, not -/
def dTest (t : DTE) : DTT := fun ρ S Q E => t ρ S (fun x S1 => ∃ k, x = .bl k ∧ Q k S1) E
theorem dt_pt {e : Expr} {t : TT} {T : DTT} (h : PT X e t) (i : ∀ σ H P, upT X.K W T σ H P → t σ H P) : DT X W e T := ⟨pt_imp h i⟩
/-- an expression that gives a bool, as a test -/
theorem dt_val (h : DE X W a ta) (he : ∀ whole, isTrue a X.env whole = (do let v ← whole; standAt a.pos; holding [v] (truthy v)) := by intro _; rfl) : DT X W a (dTest ta) :=
  dt_pt (pt_val h.pe he) fun σ H P ⟨ρ, S, F, Z, Q, E, R, V, q, k, x⟩ => ⟨ρ, S, F, Z, _, E, R, V, q, fun v H1 ⟨d, S1, F1, A1, i1, b, hb, q1⟩ => by
    subst hb
    cases i1
    exact ⟨b, rfl, k b H1 ⟨S1, F1, A1, q1⟩⟩, x⟩
theorem dt_cmp {op : CmpOp} (ho : OpR X (compareOp op) r) (l : Lift2 X.K r rd) (ha : DE X W a ta) (hb : DE X W b tb) (hm : behindInMarks op b = false) : DT X W (.Compare a [op] [b] pos) (dTest (dOp rd ta tb)) :=
  dt_pt (pt_cmpR ho ha.pe hb.pe hm) fun σ H P ⟨ρ, S, F, Z, Q, E, R, V, q, k, x⟩ => lift_op (rd := rd) l σ H _ ⟨ρ, S, F, Z, _, E, R, V, q, fun v H1 ⟨d, S1, F1, A1, i1, c, hc, q1⟩ => by
    subst hc
    cases i1
    exact ⟨c, rfl, k c H1 ⟨S1, F1, A1, q1⟩⟩, x⟩
def dAnd (t u : DTT) : DTT := fun ρ S Q E => t ρ S (fun c S1 => if c = true then u ρ S1 Q E else Q false S1) E
def dOr (t u : DTT) : DTT := fun ρ S Q E => t ρ S (fun c S1 => if c = true then Q true S1 else u ρ S1 Q E) E
def dNot (t : DTT) : DTT := fun ρ S Q E => t ρ S (fun c S1 => Q (!c) S1) E
variable {tt tu : DTT} {rest : List Expr}
theorem DW.dt (h : DW X W e tt) : DT X W e tt := ⟨h.pw.pt⟩
theorem dw_and1 (ha : DT X W a tt) : DW X W (.BoolOp .And [a] pos) tt := ⟨pw_and1 ha.pt⟩
theorem dw_or1 (ha : DT X W a tt) : DW X W (.BoolOp .Or [a] pos) tt := ⟨pw_or1 ha.pt⟩
theorem iteT' {A B : Prop} (h : if true = true then A else B) : A := by rwa [if_pos rfl] at h
theorem iteF' {A B : Prop} (h : if false = true then A else B) : B := by rwa [if_neg Bool.false_ne_true] at h
theorem dw_and (ha : DT X W a tt) (hb : DW X W (.BoolOp .And (b :: rest) pos) tu) : DW X W (.BoolOp .And (a :: b :: rest) pos) (dAnd tt tu) :=
  ⟨pw_imp (pw_and ha.pt hb.pw) fun σ H P ⟨ρ, S, F, Z, Q, E, R, V, q, k, x⟩ => ⟨ρ, S, F, Z, _, E, R, V, q, fun c H1 ⟨S1, F1, A1, q1⟩ => by
    cases c with
    | true => exact iteT ⟨ρ, S1, F1, Z, Q, E, A1.rel, V.up A1.sm, iteT' q1, fun c H2 ⟨S2, F2, A2, q2⟩ => k c H2 ⟨S2, F2, A1.trans A2, q2⟩, xe_tr x A1⟩
    | false => exact iteF (k false H1 ⟨S1, F1, A1, iteF' q1⟩), x⟩⟩
theorem dw_or (ha : DT X W a tt) (hb : DW X W (.BoolOp .Or (b :: rest) pos) tu) : DW X W (.BoolOp .Or (a :: b :: rest) pos) (dOr tt tu) :=
  ⟨pw_imp (pw_or ha.pt hb.pw) fun σ H P ⟨ρ, S, F, Z, Q, E, R, V, q, k, x⟩ => ⟨ρ, S, F, Z, _, E, R, V, q, fun c H1 ⟨S1, F1, A1, q1⟩ => by
    cases c with
    | false => exact iteF ⟨ρ, S1, F1, Z, Q, E, A1.rel, V.up A1.sm, iteF' q1, fun c H2 ⟨S2, F2, A2, q2⟩ => k c H2 ⟨S2, F2, A1.trans A2, q2⟩, xe_tr x A1⟩
    | true => exact iteT (k true H1 ⟨S1, F1, A1, iteT' q1⟩), x⟩⟩
theorem dt_not (ha : DT X W a tt) : DT X W (.UnaryOp .Not a pos) (dNot tt) :=
  dt_pt (pt_not ha.pt) fun σ H P ⟨ρ, S, F, Z, Q, E, R, V, q, k, x⟩ => ⟨ρ, S, F, Z, _, E, R, V, q, fun c H1 ⟨S1, F1, A1, q1⟩ => k (!c) H1 ⟨S1, F1, A1, q1⟩, x⟩
/-- .. as values, all but the last bools -/
def dAndV (t u : DTE) : DTE := fun ρ S Q E => t ρ S (fun x S1 => ∃ c, x = .bl c ∧ if c = true then u ρ S1 Q E else Q (.bl false) S1) E
def dOrV (t u : DTE) : DTE := fun ρ S Q E => t ρ S (fun x S1 => ∃ c, x = .bl c ∧ if c = true then Q (.bl true) S1 else u ρ S1 Q E) E
def dNotV (t : DTE) : DTE := fun ρ S Q E => t ρ S (fun x S1 => ∃ c, x = .bl c ∧ Q (.bl (!c)) S1) E
theorem de_one {op} (h : DE X W a ta) : DE X W (.BoolOp op [a] pos) ta := ⟨pe_one h.pe⟩
theorem de_and (ha : DE X W a ta) (hb : DE X W (.BoolOp .And (b :: rest) pos) tb) : DE X W (.BoolOp .And (a :: b :: rest) pos) (dAndV ta tb) :=
  de_pe (pe_and ha.pe hb.pe) fun σ H P ⟨ρ, S, F, Z, Q, E, R, V, q, k, x⟩ => ⟨ρ, S, F, Z, _, E, R, V, q, fun v H1 ⟨d, S1, F1, A1, i1, c, hc, q1⟩ => by
    subst hc
    cases i1
    refine ⟨c, rfl, ?_⟩
    cases c with
    | true => exact iteT ⟨ρ, S1, F1, Z, Q, E, A1.rel, V.up A1.sm, iteT' q1, fun c H2 ⟨d2, S2, F2, A2, i2, q2⟩ => k c H2 ⟨d2, S2, F2, A1.trans A2, i2, q2⟩, xe_tr x A1⟩
    | false => exact iteF (k _ H1 ⟨_, S1, F1, A1, .bl false, iteF' q1⟩), x⟩
theorem de_or (ha : DE X W a ta) (hb : DE X W (.BoolOp .Or (b :: rest) pos) tb) : DE X W (.BoolOp .Or (a :: b :: rest) pos) (dOrV ta tb) :=
  de_pe (pe_or ha.pe hb.pe) fun σ H P ⟨ρ, S, F, Z, Q, E, R, V, q, k, x⟩ => ⟨ρ, S, F, Z, _, E, R, V, q, fun v H1 ⟨d, S1, F1, A1, i1, c, hc, q1⟩ => by
    subst hc
    cases i1
    refine ⟨c, rfl, ?_⟩
    cases c with
    | false => exact iteF ⟨ρ, S1, F1, Z, Q, E, A1.rel, V.up A1.sm, iteF' q1, fun c H2 ⟨d2, S2, F2, A2, i2, q2⟩ => k c H2 ⟨d2, S2, F2, A1.trans A2, i2, q2⟩, xe_tr x A1⟩
    | true => exact iteT (k _ H1 ⟨_, S1, F1, A1, .bl true, iteT' q1⟩), x⟩
theorem de_not (ha : DE X W a ta) : DE X W (.UnaryOp .Not a pos) (dNotV ta) :=
  de_pe (pe_not ha.pe) fun σ H P ⟨ρ, S, F, Z, Q, E, R, V, q, k, x⟩ => ⟨ρ, S, F, Z, _, E, R, V, q, fun v H1 ⟨d, S1, F1, A1, i1, c, hc, q1⟩ => by
    subst hc
    cases i1
    exact ⟨c, rfl, k _ H1 ⟨_, S1, F1, A1, .bl _, q1⟩⟩, x⟩
def dIf (t : DTT) (u w : DTE) : DTE := fun ρ S Q E => t ρ S (fun c S1 => if c = true then u ρ S1 Q E else w ρ S1 Q E) E
theorem de_ifExp (hc : DT X W c tt) (ha : DE X W a ta) (hb : DE X W b tb) : DE X W (.IfExp c a b pos) (dIf tt ta tb) :=
  de_pe (pe_ifExp hc.pt ha.pe hb.pe) fun σ H P ⟨ρ, S, F, Z, Q, E, R, V, q, k, x⟩ => ⟨ρ, S, F, Z, _, E, R, V, q, fun c H1 ⟨S1, F1, A1, q1⟩ => by
    cases c with
    | true => exact iteT ⟨ρ, S1, F1, Z, Q, E, A1.rel, V.up A1.sm, iteT' q1, fun c H2 ⟨d2, S2, F2, A2, i2, q2⟩ => k c H2 ⟨d2, S2, F2, A1.trans A2, i2, q2⟩, xe_tr x A1⟩
    | false => exact iteF ⟨ρ, S1, F1, Z, Q, E, A1.rel, V.up A1.sm, iteF' q1, fun c H2 ⟨d2, S2, F2, A2, i2, q2⟩ => k c H2 ⟨d2, S2, F2, A1.trans A2, i2, q2⟩, xe_tr x A1⟩, x⟩
/-- a op1 b op2 c -/
def dChain (rd rd' : DR2) (ta tb tc : DTE) : DTE := fun ρ S Q E => ta ρ S (fun x S1 => tb ρ S1 (fun y S2 => rd x y S2 fun z S3 => ∃ k, z = .bl k ∧
  if k = true then tc ρ S3 (fun w S4 => rd' y w S4 Q) E else Q (.bl false) S3) E) E
theorem lift_chain (l : Lift2 X.K r rd) (l' : Lift2 X.K r' rd') : ∀ σ H P, upE X.K W (dChain rd rd' ta tb tc) σ H P → tChain r r' (upE X.K W ta) (upE X.K W tb) (upE X.K W tc) σ H P := fun σ H P ⟨ρ, S, F, Z, Q, E, R, V, q, k, x⟩ =>
  ⟨ρ, S, F, Z, _, E, R, V, q, fun v H1 ⟨d, S1, F1, A1, i1, q1⟩ => ⟨ρ, S1, F1, Z, _, E, A1.rel, V.up A1.sm, q1, fun w H2 ⟨e, S2, F2, A2, i2, q2⟩ =>
    l Z H2 S2 F2 d e v w _ _ A2.rel (i1.up A2.sm) i2 q2 fun v' H3 ⟨d', S3, F3, A3, i3, c, hc, q3⟩ => by
      subst hc
      cases i3
      refine ⟨c, rfl, ?_⟩
      have A := A1.trans (A2.trans A3)
      cases c with
      | false => exact iteF (k _ _ ⟨_, S3, F3, A, .bl false, iteF' q3⟩)
      | true => exact iteT ⟨ρ, S3, F3, Z, _, E, A3.rel, V.up A.sm, iteT' q3, fun w4 H4 ⟨d4, S4, F4, A4, i4, q4⟩ =>
          l' Z H4 S4 F4 e d4 w w4 Q P A4.rel ((i2.up A3.sm).up A4.sm) i4 q4 fun v' H' ⟨d', S', F', A5, i5, q5⟩ => k v' H' ⟨d', S', F', A.trans (A4.trans A5), i5, q5⟩, xe_tr x A⟩, xe_tr x A1⟩, x⟩
theorem dt_chain {op op' : CmpOp} (ho : OpR X (compareOp op) r) (ho' : OpR X (compareOp op') r') (l : Lift2 X.K r rd) (l' : Lift2 X.K r' rd') (ha : DE X W a ta) (hb : DE X W b tb) (hc : DE X W c tc)
    (hm : lastMarks [op, op'] [b, c] = false := by with_unfolding_all rfl) : DT X W (.Compare a [op, op'] [b, c] pos) (dTest (dChain rd rd' ta tb tc)) :=
  dt_pt (pt_chain ho ho' ha.pe hb.pe hc.pe hm) fun σ H P ⟨ρ, S, F, Z, Q, E, R, V, q, k, x⟩ => lift_chain (rd := rd) (rd' := rd') l l' σ H _ ⟨ρ, S, F, Z, _, E, R, V, q, fun v H1 ⟨d, S1, F1, A1, i1, c, hc, q1⟩ => by
    subst hc
    cases i1
    exact ⟨c, rfl, k c H1 ⟨S1, F1, A1, q1⟩⟩, x⟩
end
end DL

set_option maxRecDepth 100000
/-! DL, what operators give, by values. -/
namespace DL
open PySem PySem.Spec L2
mutual
/-- the data of a tree without dicts and instances -/
def toPy : D → Option PyData
  | .non => some .none
  | .bl b => some (.bool b)
  | .int i => some (.int i)
  | .str x => some (.str x)
  | .tup ds => (toPys ds).map .tuple
  | .lst ds => (toPys ds).map .list
  | .scr ds => (toPys ds).map .list
  | _ => none
def toPys : List D → Option (List PyData)
  | [] => some []
  | d :: ds => match toPy d, toPys ds with
    | some p, some ps => some (p :: ps)
    | _, _ => none
end
section
variable {K : PySem.W.Frag} {F : Hp}
theorem toPys_cons {d : D} {ds : List D} {ps : List PyData} (h : toPys (d :: ds) = some ps) : ∃ p r, ps = p :: r ∧ toPy d = some p ∧ toPys ds = some r := by
  unfold toPys at h
  cases e1 : toPy d with
  | none => rw [e1] at h; cases h
  | some p =>
    cases e2 : toPys ds with
    | none => rw [e1, e2] at h; cases h
    | some r =>
      rw [e1, e2] at h
      cases h
      exact ⟨p, r, rfl, rfl, rfl⟩
mutual
theorem dp_of (H : Hp) (s : ∀ b u, F b = some u → H b = some u) : ∀ (d : D) (v : V) (p : PyData), IsV K F d v → toPy d = some p → Dp K H v p
  | .non, _, _, h, e => by cases h; unfold toPy at e; cases e; exact .non
  | .bl b, _, _, h, e => by cases h; unfold toPy at e; cases e; exact .bl b
  | .int b, _, _, h, e => by cases h; unfold toPy at e; cases e; exact .int b
  | .str b, _, _, h, e => by cases h; unfold toPy at e; cases e; exact .str b
  | .ty b, _, _, h, e => by unfold toPy at e; cases e
  | .ref b, _, _, h, e => by unfold toPy at e; cases e
  | .dK _ _, _, _, h, e => by unfold toPy at e; cases e
  | .dT _ _, _, _, h, e => by unfold toPy at e; cases e
  | .obj _ _ _, _, _, h, e => by unfold toPy at e; cases e
  | .tup ds, _, _, h, e => by
    cases h with
    | tup h1 h2 =>
      unfold toPy at e
      cases e2 : toPys ds with
      | none => rw [e2] at e; cases e
      | some r =>
        rw [e2] at e
        cases e
        exact .tup (SqT.of (s _ _ h1)) (dps_of H s ds _ r h2 e2)
  | .lst ds, _, _, h, e => by
    cases h with
    | lst h1 h2 =>
      unfold toPy at e
      cases e2 : toPys ds with
      | none => rw [e2] at e; cases e
      | some r =>
        rw [e2] at e
        cases e
        exact .lst (SqL.of (s _ _ h1)) (dps_of H s ds _ r h2 e2)
  | .scr ds, _, _, h, e => by
    cases h with
    | scr h1 h2 =>
      unfold toPy at e
      cases e2 : toPys ds with
      | none => rw [e2] at e; cases e
      | some r =>
        rw [e2] at e
        cases e
        exact .lst (L2.Same.seq s h1) (dps_of H s ds _ r h2 e2)
theorem dps_of (H : Hp) (s : ∀ b u, F b = some u → H b = some u) : ∀ (ds : List D) (vs : List V) (ps : List PyData), IsVs K F ds vs → toPys ds = some ps → DpAll K H vs ps
  | [], _, _, h, e => by
    cases h
    unfold toPys at e
    cases e
    exact .nil
  | d :: ds, _, _, h, e => by
    cases h with
    | cons h1 h2 =>
      obtain ⟨p, r, rfl, e1, e2⟩ := toPys_cons e
      exact .cons (dp_of H s d _ p h1 e1) (dps_of H s ds _ r h2 e2)
end
theorem Rel.dp {Z : Addr → Prop} {H : Hp} {S : Store} (R : Rel K Z H S F) {d : D} {v : V} {p : PyData} (h : IsV K F d v) (e : toPy d = some p) : Dp K H v p := dp_of H (fun b u q => (R.sub b u q).1) d v p h e
theorem Rel.sqt {Z : Addr → Prop} {H : Hp} {S : Store} (R : Rel K Z H S F) {a : Addr} {vs : List V} (h : SqT K F a vs) : SqT K H a vs := Same.sqt (fun b u q => (R.sub b u q).1) h
theorem Rel.sql {Z : Addr → Prop} {H : Hp} {S : Store} (R : Rel K Z H S F) {a : Addr} {vs : List V} (h : SqL K F a vs) : SqL K H a vs := L2.Same.seq (fun b u q => (R.sub b u q).1) h

/-! ### ints, texts -/
def rdInt (f : Int → Int → D) : DR2 := fun x y S Q => ∃ i j, x = .int i ∧ y = .int j ∧ Q (f i j) S
def rdIntC (C : Int → Int → Prop) (f : Int → Int → D) : DR2 := fun x y S Q => ∃ i j, x = .int i ∧ y = .int j ∧ C i j ∧ Q (f i j) S
theorem lift_int (f : Int → Int → Int) : Lift2 K (rI0 fun i j => .int (f i j)) (rdInt fun i j => .int (f i j)) := by
  intro Z H S F x y v w Q P R iv iw q k
  obtain ⟨i, j, rfl, rfl, q⟩ := q
  cases iv; cases iw
  exact ⟨i, j, rfl, rfl, k _ _ ⟨_, S, F, .refl R, .int _, q⟩⟩
theorem lift_intC (C : Int → Int → Prop) (f : Int → Int → Int) : Lift2 K (rI C fun i j => .int (f i j)) (rdIntC C fun i j => .int (f i j)) := by
  intro Z H S F x y v w Q P R iv iw q k
  obtain ⟨i, j, rfl, rfl, c, q⟩ := q
  cases iv; cases iw
  exact ⟨i, j, rfl, rfl, c, k _ _ ⟨_, S, F, .refl R, .int _, q⟩⟩
theorem lift_cmpI (f : Int → Int → Bool) : Lift2 K (rI0 fun i j => .bl (f i j)) (rdInt fun i j => .bl (f i j)) := by
  intro Z H S F x y v w Q P R iv iw q k
  obtain ⟨i, j, rfl, rfl, q⟩ := q
  cases iv; cases iw
  exact ⟨i, j, rfl, rfl, k _ _ ⟨_, S, F, .refl R, .bl _, q⟩⟩

/-- x + y -/
def rdAdd : DR2 := fun x y S Q => match x, y with
  | .int i, .int j => Q (.int (i + j)) S
  | .str i, .str j => i.length + j.length ≤ sizeLine ∧ Q (.str (i ++ j)) S
  | .tup i, .tup j => i.length + j.length ≤ sizeLine ∧ Q (.tup (i ++ j)) S
  | .lst i, .lst j => i.length + j.length ≤ sizeLine ∧ Q (.lst (i ++ j)) S
  | _, _ => False
def rAddV (K : PySem.W.Frag) : R2 := fun x y H Q => (∃ i j, x = .int i ∧ y = .int j ∧ Q (.int (i + j)) H) ∨ ((∃ i j, x = .str i ∧ y = .str j ∧ i.length + j.length ≤ sizeLine ∧ Q (.str (i ++ j)) H) ∨ (rCatA K x y H Q ∨ rCat x y H Q))
theorem or_add {X : Cx} : OpR X (binaryOp .Add) (rAddV X.K) := (op_add.or (op_add_str.or (op_catA.or op_cat)))
theorem lift_add : Lift2 K (rAddV K) rdAdd := by
  intro Z H S F x y v w Q P R iv iw q k
  cases iv with
  | int i =>
    cases iw with
    | int j => exact .inl ⟨i, j, rfl, rfl, k _ _ ⟨_, S, F, .refl R, .int _, q⟩⟩
    | _ => exact False.elim q
  | str i =>
    cases iw with
    | str j => exact .inr (.inl ⟨i, j, rfl, rfl, q.1, k _ _ ⟨_, S, F, .refl R, .str _, q.2⟩⟩)
    | _ => exact False.elim q
  | tup h1 h2 =>
    cases iw with
    | tup g1 g2 =>
      rename_i a1 vs1 ds1 a2 vs2 ds2
      obtain ⟨z, q⟩ := q
      rw [h2.length, g2.length] at z
      refine .inr (.inr (.inl ⟨_, _, _, _, rfl, rfl, R.sqt (SqT.of h1), R.sqt (SqT.of g1), z, fun e => ?_, fun e e2 => ?_, fun _ _ p hp => ?_⟩))
      · subst e
        have : ds1 = [] := List.eq_nil_of_length_eq_zero h2.length
        subst this
        exact k _ _ ⟨_, S, F, .refl R, .tup g1 g2, q⟩
      · subst e2
        have : ds2 = [] := List.eq_nil_of_length_eq_zero g2.length
        subst this
        rw [List.append_nil] at q
        exact k _ _ ⟨_, S, F, .refl R, .tup h1 h2, q⟩
      · obtain ⟨R2, s2, k2⟩ := R.laid (o := .tup (vs1 ++ vs2)) hp
        exact k _ _ ⟨_, S, _, ⟨s2, R2, k2⟩, .tup upd_same ((h2.append g2).up s2), q⟩
    | _ => exact False.elim q
  | lst h1 h2 =>
    cases iw with
    | lst g1 g2 =>
      rename_i a1 vs1 ds1 a2 vs2 ds2
      obtain ⟨z, q⟩ := q
      rw [h2.length, g2.length] at z
      refine .inr (.inr (.inr ⟨_, _, _, _, rfl, rfl, (R.sub _ _ h1).1, (R.sub _ _ g1).1, z, fun p hp => ?_⟩))
      obtain ⟨R2, s2, k2⟩ := R.laid (o := .lst (vs1 ++ vs2)) hp
      exact k _ _ ⟨_, S, _, ⟨s2, R2, k2⟩, .lst upd_same ((h2.append g2).up s2), q⟩
    | _ => exact False.elim q
  | _ => exact False.elim q

/-- x == y, x != y of data -/
def rdEq (neg : Bool) : DR2 := fun x y S Q => ∃ p q, toPy x = some p ∧ toPy y = some q ∧ SeqAt.shaped p = true ∧ SeqAt.shaped q = true ∧ Q (.bl (if neg then !PyData.eqv p q else PyData.eqv p q)) S
theorem lift_eq : Lift2 K (rEqD K) (rdEq false) := by
  intro Z H S F x y v w Q P R iv iw q k
  obtain ⟨p, q, e1, e2, s1, s2, q⟩ := q
  exact ⟨p, _, R.dp iv e1, R.dp iw e2, s1, s2, k _ _ ⟨_, S, F, .refl R, .bl _, q⟩⟩
theorem lift_ne : Lift2 K (rNeD K) (rdEq true) := by
  intro Z H S F x y v w Q P R iv iw q k
  obtain ⟨p, q, e1, e2, s1, s2, q⟩ := q
  exact ⟨p, _, R.dp iv e1, R.dp iw e2, s1, s2, k _ _ ⟨_, S, F, .refl R, .bl _, q⟩⟩

/-- s < t of texts -/
def rdStr (f : Str → Str → D) : DR2 := fun x y S Q => ∃ i j, x = .str i ∧ y = .str j ∧ Q (f i j) S
theorem lift_ltS : Lift2 K (fun x y H Q => ∃ i j, x = .str i ∧ y = .str j ∧ Q (.bl (decide (i.cps.toList < j.cps.toList))) H) (rdStr fun i j => .bl (decide (i.cps.toList < j.cps.toList))) := by
  intro Z H S F x y v w Q P R iv iw q k
  obtain ⟨i, j, rfl, rfl, q⟩ := q
  cases iv; cases iw
  exact ⟨i, j, rfl, rfl, k _ _ ⟨_, S, F, .refl R, .bl _, q⟩⟩

/-! ### in, not in -/
def flatD : D → Bool
  | .non => true
  | .bl _ => true
  | .int _ => true
  | .str _ => true
  | _ => false
def eqF : D → D → Bool
  | .non, .non => true
  | .bl a, .bl b => a == b
  | .bl a, .int b => (if a then 1 else 0) == b
  | .int a, .bl b => a == (if b then 1 else 0)
  | .int a, .int b => a == b
  | .str a, .str b => a == b
  | _, _ => false
theorem flat_of {d : D} {v : V} (h : IsV K F d v) (f : flatD d = true) : flatV v = true := by
  cases h <;> first | rfl | exact absurd f Bool.false_ne_true
theorem eqF_of {d e : D} {v w : V} (h : IsV K F d v) (g : IsV K F e w) (f : flatD d = true) (f2 : flatD e = true) : eqV v w = eqF d e := by
  cases h <;> first | exact absurd f Bool.false_ne_true | (cases g <;> first | rfl | exact absurd f2 Bool.false_ne_true)
theorem flats_of : ∀ {ds : List D} {vs : List V}, IsVs K F ds vs → ds.all flatD = true → vs.all flatV = true
  | _, _, .nil, _ => rfl
  | _, _, .cons h t, f => by
    rw [List.all_cons, Bool.and_eq_true] at f ⊢
    exact ⟨flat_of h f.1, flats_of t f.2⟩
theorem any_of {d : D} {v : V} (h : IsV K F d v) (f : flatD d = true) : ∀ {ds : List D} {vs : List V}, IsVs K F ds vs → ds.all flatD = true → inV v vs = ds.any fun y => eqF y d
  | _, _, .nil, _ => rfl
  | _, _, .cons h2 t, g => by
    rw [List.all_cons, Bool.and_eq_true] at g
    show (eqV _ v || inV v _) = _
    rw [List.any_cons, eqF_of h2 h g.1 f, any_of h f t g.2]
/-- x in ds, all flat -/
def rdIn (neg : Bool) : DR2 := fun x y S Q => ∃ ds, (y = .tup ds ∨ y = .lst ds) ∧ flatD x = true ∧ ds.all flatD = true ∧ Q (.bl (if neg then !(ds.any fun z => eqF z x) else ds.any fun z => eqF z x)) S
theorem lift_in (neg : Bool) : Lift2 K (rIn K neg) (rdIn neg) := by
  intro Z H S F x y v w Q P R iv iw q k
  obtain ⟨ds, hy, fx, fs, q⟩ := q
  rcases hy with rfl | rfl
  · cases iw with
    | tup h1 h2 =>
      refine ⟨_, _, rfl, .inr (R.sqt (SqT.of h1)), flat_of iv fx, flats_of h2 fs, ?_⟩
      rw [any_of iv fx h2 fs]
      exact k _ _ ⟨_, S, F, .refl R, .bl _, q⟩
  · cases iw with
    | lst h1 h2 =>
      refine ⟨_, _, rfl, .inl (SqL.of (R.sub _ _ h1).1), flat_of iv fx, flats_of h2 fs, ?_⟩
      rw [any_of iv fx h2 fs]
      exact k _ _ ⟨_, S, F, .refl R, .bl _, q⟩
/-- one sign in a text -/
def rdInS (neg : Bool) : DR2 := fun x y S Q => ∃ (c : Nat) (z : Str), x = .str ⟨#[c]⟩ ∧ y = .str z ∧ Q (.bl (if neg then !decide (c ∈ z.cps.toList) else decide (c ∈ z.cps.toList))) S
theorem lift_inS : Lift2 K (fun x y H Q => ∃ (c : Nat) (z : Str), x = .str ⟨#[c]⟩ ∧ y = .str z ∧ Q (.bl (decide (c ∈ z.cps.toList))) H) (rdInS false) := by
  intro Z H S F x y v w Q P R iv iw q k
  obtain ⟨i, j, rfl, rfl, q⟩ := q
  cases iv; cases iw
  exact ⟨i, j, rfl, rfl, k _ _ ⟨_, S, F, .refl R, .bl _, q⟩⟩
theorem lift_notInS : Lift2 K (fun x y H Q => ∃ (c : Nat) (z : Str), x = .str ⟨#[c]⟩ ∧ y = .str z ∧ Q (.bl (!decide (c ∈ z.cps.toList))) H) (rdInS true) := by
  intro Z H S F x y v w Q P R iv iw q k
  obtain ⟨i, j, rfl, rfl, q⟩ := q
  cases iv; cases iw
  exact ⟨i, j, rfl, rfl, k _ _ ⟨_, S, F, .refl R, .bl _, q⟩⟩

/-! ### len, items, slices -/
def rdLen : DRL := fun xs S Q => match xs with
  | [.str z] => z.length ≤ sizeLine ∧ Q (.int z.length) S
  | [.tup ds] => Q (.int ds.length) S
  | [.kup ds] => Q (.int ds.length) S
  | [.lst ds] => Q (.int ds.length) S
  | [.scr ds] => Q (.int ds.length) S
  | [.ref a] => ∃ ds, S a = some (.lst ds) ∧ Q (.int ds.length) S
  | _ => False
theorem lift_len : LiftL K (fun xs H Q => ∃ x n, xs = [x] ∧ LenV K x H n ∧ Q (.int n) H) rdLen := by
  intro Z H S F x v Q P R iv q k
  cases iv with
  | nil => exact False.elim q
  | cons h t =>
    cases t with
    | cons _ _ => cases h <;> exact False.elim q
    | nil =>
      cases h with
      | str z => exact ⟨_, _, rfl, ⟨q.1, rfl⟩, k _ _ ⟨_, S, F, .refl R, .int _, q.2⟩⟩
      | kup h1 h0 h2 => exact ⟨_, _, rfl, .inr ⟨_, R.sqt (.inl (.inr ⟨_, h1⟩)), rfl⟩, k _ _ ⟨_, S, F, .refl R, .int _, by rw [← h2.length]; exact q⟩⟩
      | tup h1 h2 => exact ⟨_, _, rfl, .inr ⟨_, R.sqt (SqT.of h1), rfl⟩, k _ _ ⟨_, S, F, .refl R, .int _, by rw [← h2.length]; exact q⟩⟩
      | lst h1 h2 => exact ⟨_, _, rfl, .inl ⟨_, SqL.of (R.sub _ _ h1).1, rfl⟩, k _ _ ⟨_, S, F, .refl R, .int _, by rw [← h2.length]; exact q⟩⟩
      | scr h1 h2 => exact ⟨_, _, rfl, .inl ⟨_, R.sql h1, rfl⟩, k _ _ ⟨_, S, F, .refl R, .int _, by rw [← h2.length]; exact q⟩⟩
      | ref a =>
        obtain ⟨ds, hs, q⟩ := q
        obtain ⟨_, o, ho, vs, e, h2⟩ := R.sto a _ hs
        subst e
        exact ⟨_, _, rfl, .inl ⟨_, SqL.of ho, rfl⟩, k _ _ ⟨_, S, F, .refl R, .int _, by rw [← h2.length]; exact q⟩⟩
      | _ => exact False.elim q
theorem atI_D {ds : List D} {vs : List V} {i : Int} {d : D} (h : IsVs K F ds vs) (e : atI ds i = some d) : ∃ v, atI vs i = some v ∧ IsV K F d v := by
  unfold atI at e ⊢
  rw [← h.length]
  cases q : ixN ds.length i with
  | none => rw [q] at e; cases e
  | some j =>
    rw [q] at e
    exact h.get e
/-- xs[i] -/
def rdIx : DR2 := fun x y S Q => ∃ i, y = .int i ∧ match x with
  | .tup ds => ∃ d, atI ds i = some d ∧ Q d S
  | .lst ds => ∃ d, atI ds i = some d ∧ Q d S
  | .str z => ∃ c, z.length ≤ sizeLine ∧ atI z.cps.toList i = some c ∧ Q (.str ⟨#[c]⟩) S
  | .ref a => ∃ ds d, S a = some (.lst ds) ∧ atI ds i = some d ∧ Q d S
  | _ => False
theorem lift_ix : Lift2 K (rIx K) rdIx := by
  intro Z H S F x y v w Q P R iv iw q k
  obtain ⟨i, rfl, q⟩ := q
  cases iw
  cases iv with
  | tup h1 h2 =>
    obtain ⟨d, e, q⟩ := q
    obtain ⟨v, e2, iv2⟩ := atI_D h2 e
    exact .inr (.inl ⟨_, _, _, v, rfl, rfl, R.sqt (SqT.of h1), e2, k _ _ ⟨_, S, F, .refl R, iv2, q⟩⟩)
  | lst h1 h2 =>
    obtain ⟨d, e, q⟩ := q
    obtain ⟨v, e2, iv2⟩ := atI_D h2 e
    exact .inl ⟨_, _, _, v, rfl, rfl, SqL.of (R.sub _ _ h1).1, e2, k _ _ ⟨_, S, F, .refl R, iv2, q⟩⟩
  | str z =>
    obtain ⟨c, z1, e, q⟩ := q
    exact .inr (.inr ⟨_, _, c, rfl, rfl, z1, e, k _ _ ⟨_, S, F, .refl R, .str _, q⟩⟩)
  | ref a =>
    obtain ⟨ds, d, hs, e, q⟩ := q
    obtain ⟨_, o, ho, vs, e3, h2⟩ := R.sto a _ hs
    subst e3
    obtain ⟨v, e2, iv2⟩ := atI_D h2 e
    exact .inl ⟨_, _, _, v, rfl, rfl, SqL.of ho, e2, k _ _ ⟨_, S, F, .refl R, iv2, q⟩⟩
  | _ => exact False.elim q
theorem de_ix {X : Cx} {W : WX} {a b : Expr} {ta tb : DTE} {pos : Pos} (ha : DE X W a ta) (hb : DE X W b tb) (hs : PlainIx b := by exact fun _ _ => rfl) : DE X W (.Subscript a b pos) (dOp rdIx ta tb) := de_pe (pe_ix ix_seq ha.pe hb.pe hs) (lift_op lift_ix)

def cutD {α : Type} (xs : List α) (lo hi : Option Int) : List α := (xs.drop (HT.sIx xs.length 0 lo)).take (HT.sIx xs.length xs.length hi - HT.sIx xs.length 0 lo)
theorem isVs_cut {ds : List D} {vs : List V} (h : IsVs K F ds vs) (lo hi : Option Int) : IsVs K F (cutD ds lo hi) (cutV vs lo hi) := by
  unfold cutD cutV
  rw [h.length]
  exact (h.drop _).take _
/-- the parts of a slice -/
abbrev DTO := Sl → Store → (Option Int → Store → Prop) → DX → Prop
def LftO (K : PySem.W.Frag) (Z : Addr → Prop) (H F : Hp) (Q : Option Int → Store → Prop) : Option Int → Hp → Prop := fun b H' => ∃ S' F', Aft K Z H F H' S' F' ∧ Q b S'
def upO (K : PySem.W.Frag) (W : WX) (T : DTO) : TO := fun σ H P => ∃ ρ S F Z Q E, Rel K Z H S F ∧ EnvR K F ρ σ ∧ T ρ S Q E ∧ (∀ v H', LftO K Z H F Q v H' → P v H') ∧ ∀ cls d H', LftX K Z H F E cls d H' → W cls d σ H'
structure DO (X : Cx) (W : WX) (e : Option Expr) (T : DTO) : Prop where
  po : PO X e (upO X.K W T)
def dNoPart : DTO := fun _ S Q _ => Q none S
def dPart (t : DTE) : DTO := fun ρ S Q E => t ρ S (fun x S1 => ∃ i, x = .int i ∧ Q (some i) S1) E
theorem po_imp {X : Cx} {e : Option Expr} {t t' : TO} (h : PO X e t) (i : ∀ σ H P, t' σ H P → t σ H P) : PO X e t' := ⟨fun pins s σ H Q I q => h.run pins s σ H Q I (i σ H Q q)⟩
variable {X : Cx} {W : WX} {e : Expr} {te : DTE} {lo hi : Option Expr} {tl th : DTO} {pos p2 : Pos}
theorem do_none : DO X W none dNoPart := ⟨po_imp po_none fun σ H P ⟨ρ, S, F, Z, Q, E, R, V, q, k, _⟩ => k none H ⟨S, F, .refl R, q⟩⟩
theorem do_some (h : DE X W e te) : DO X W (some e) (dPart te) := ⟨po_imp (po_some h.pe) fun σ H P ⟨ρ, S, F, Z, Q, E, R, V, q, k, x⟩ => ⟨ρ, S, F, Z, _, E, R, V, q, fun v H1 ⟨d, S1, F1, A1, i1, i, hd, q1⟩ => by
  subst hd
  cases i1
  exact ⟨i, rfl, k _ H1 ⟨S1, F1, A1, q1⟩⟩, x⟩⟩
def rdSl : D → Option Int → Option Int → Store → DQ → Prop := fun x lo hi S Q => match x with
  | .tup ds => Q (.tup (cutD ds lo hi)) S
  | .kup ds => cutD ds lo hi ≠ ds ∧ Q (.tup (cutD ds lo hi)) S
  | .lst ds => Q (.lst (cutD ds lo hi)) S
  | .scr ds => Q (.lst (cutD ds lo hi)) S
  | .ref a => ∃ ds, S a = some (.lst ds) ∧ Q (.lst (cutD ds lo hi)) S
  | _ => False
def rSlV (K : PySem.W.Frag) : V → Option Int → Option Int → Hp → VK → Prop := fun x lo hi H Q => rSlA K x lo hi H Q ∨ rSlL K x lo hi H Q
theorem sl_any : SlR X (rSlV X.K) := sl_tupA.or sl_list
theorem lift_sl : ∀ Z H S F x v lo hi Q P, Rel K Z H S F → IsV K F x v → rdSl x lo hi S Q → (∀ v' H', LftE K Z H F Q v' H' → P v' H') → rSlV K v lo hi H P := by
  intro Z H S F x v lo hi Q P R iv q k
  have lst : ∀ {ds : List D} {vs : List V} {a : Addr}, SqL K H a vs → IsVs K F ds vs → Q (.lst (cutD ds lo hi)) S → rSlV K (.ref a) lo hi H P := fun {ds vs a} h1 h2 q => by
    refine .inr ⟨_, _, rfl, h1, fun p hp => ?_⟩
    obtain ⟨R2, s2, k2⟩ := R.laid (o := .lst (cutV vs lo hi)) hp
    exact k _ _ ⟨_, S, _, ⟨s2, R2, k2⟩, .lst upd_same ((isVs_cut h2 lo hi).up s2), q⟩
  cases iv with
  | tup h1 h2 =>
    rename_i a vs ds
    refine .inl ⟨_, _, rfl, R.sqt (SqT.of h1), fun w => ?_, fun _ p hp => ?_⟩
    · have e : cutD ds lo hi = ds := by
        unfold cutD
        rw [h2.length, w.1, w.2, List.drop_zero, Nat.sub_zero, ← h2.length, List.take_length]
      have q' : Q (.tup (cutD ds lo hi)) S := q
      rw [e] at q'
      exact k _ _ ⟨_, S, F, .refl R, .tup h1 h2, q'⟩
    · obtain ⟨R2, s2, k2⟩ := R.laid (o := .tup (cutV vs lo hi)) hp
      exact k _ _ ⟨_, S, _, ⟨s2, R2, k2⟩, .tup upd_same ((isVs_cut h2 lo hi).up s2), q⟩
  | kup h1 h0 h2 =>
    rename_i a o vs ds
    obtain ⟨qn, q⟩ := q
    refine .inl ⟨_, _, rfl, R.sqt (.inl (.inr ⟨_, h1⟩)), fun w => ?_, fun _ p hp => ?_⟩
    · refine absurd ?_ qn
      unfold cutD
      rw [h2.length, w.1, w.2, List.drop_zero, Nat.sub_zero, ← h2.length, List.take_length]
    · obtain ⟨R2, s2, k2⟩ := R.laid (o := .tup (cutV vs lo hi)) hp
      exact k _ _ ⟨_, S, _, ⟨s2, R2, k2⟩, .tup upd_same ((isVs_cut h2 lo hi).up s2), q⟩
  | lst h1 h2 => exact lst (SqL.of (R.sub _ _ h1).1) h2 q
  | scr h1 h2 => exact lst (R.sql h1) h2 q
  | ref a =>
    obtain ⟨ds, hs, q⟩ := q
    obtain ⟨_, o, ho, vs, e3, h2⟩ := R.sto a _ hs
    subst e3
    exact lst (SqL.of ho) h2 q
  | _ => exact False.elim q
def dSl (te : DTE) (tl th : DTO) : DTE := fun ρ S Q E => te ρ S (fun x S1 => tl ρ S1 (fun l S2 => th ρ S2 (fun u S3 => rdSl x l u S3 Q) E) E) E
theorem de_slice (he : DE X W e te) (hl : DO X W lo tl) (hu : DO X W hi th) : DE X W (.Subscript e (.Slice lo hi none p2) pos) (dSl te tl th) :=
  de_pe (pe_slice sl_any he.pe hl.po hu.po) fun σ H P ⟨ρ, S, F, Z, Q, E, R, V, q, k, x⟩ => ⟨ρ, S, F, Z, _, E, R, V, q, fun v H1 ⟨d, S1, F1, A1, i1, q1⟩ =>
    ⟨ρ, S1, F1, Z, _, E, A1.rel, V.up A1.sm, q1, fun l H2 ⟨S2, F2, A2, q2⟩ => ⟨ρ, S2, F2, Z, _, E, A2.rel, (V.up A1.sm).up A2.sm, q2, fun u H3 ⟨S3, F3, A3, q3⟩ =>
      lift_sl Z H3 S3 F3 d v l u Q P A3.rel ((i1.up A2.sm).up A3.sm) q3 fun v' H' ⟨d', S', F', A4, i4, q4⟩ => k v' H' ⟨d', S', F', A1.trans (A2.trans (A3.trans A4)), i4, q4⟩, xe_tr x (A1.trans A2)⟩, xe_tr x A1⟩, x⟩
end
end DL

set_option maxRecDepth 100000
/-! DL, statements, loops, comprehensions. -/
namespace DL
open PySem PySem.Spec L2

/-! ### targets -/
/-- a name in slot i; names in slots is, of a tuple -/
inductive Tgt where
  | name (i : Nat) | tup (is : List Nat)
def setAll {α : Type} (ρ : List (Option α)) : List Nat → List α → List (Option α)
  | i :: is, d :: ds => setAll (ρ.set i (some d)) is ds
  | _, _ => ρ
def bindT (tg : Tgt) (d : D) (ρ : Sl) : Option Sl := match tg, d with
  | .name i, d => some (ρ.set i (some d))
  | .tup is, .tup ds => if ds.length = is.length then some (setAll ρ is ds) else none
  | _, _ => none
section
variable {K : PySem.W.Frag} {F : Hp}
theorem EnvR.setAll {ρ : Sl} {σ : L2.St} (h : EnvR K F ρ σ) : ∀ (is : List Nat) {ds : List D} {vs : List V}, IsVs K F ds vs → EnvR K F (DL.setAll ρ is ds) (DL.setAll σ is vs)
  | [], _, _, _ => h
  | i :: is, _, _, .nil => h
  | i :: is, _, _, .cons a b => EnvR.setAll (h.set a i) is b
theorem setAll_length {α : Type} : ∀ (ρ : List (Option α)) (is : List Nat) (ds : List α), (setAll ρ is ds).length = ρ.length
  | _, [], _ => rfl
  | _, _ :: _, [] => rfl
  | ρ, i :: is, d :: ds => by
    show (setAll (ρ.set i (some d)) is ds).length = _
    rw [setAll_length, List.length_set]
/-- the hand layer's target of a Tgt -/
def tgV (K : PySem.W.Frag) : Tgt → TG
  | .name i => gName i
  | .tup is => gTup K is.length (is.foldr (fun i u => gCons (gName i) u) gNil)
theorem gnames {σ : L2.St} {H : Hp} {Q : L2.St → Hp → Prop} : ∀ (is : List Nat) (vs : List V) (σ : L2.St), vs.length = is.length → Q (setAll σ is vs) H → (is.foldr (fun i u => gCons (gName i) u) gNil) vs σ H Q
  | [], [], σ, _, q => ⟨rfl, q⟩
  | i :: is, v :: vs, σ, h, q => ⟨v, vs, rfl, gnames (σ := σ) is vs (σ.set i (some v)) (by simpa using h) q⟩
  | [], _ :: _, _, h, _ => by simp at h
  | _ :: _, [], _, h, _ => by simp at h
theorem tgV_ok {Z : Addr → Prop} {H : Hp} {S : Store} (R : Rel K Z H S F) {tg : Tgt} {d : D} {v : V} {ρ ρ1 : Sl} {σ : L2.St} {Q : L2.St → Hp → Prop} (E : EnvR K F ρ σ) (iv : IsV K F d v) (e : bindT tg d ρ = some ρ1)
    (q : ∀ σ1, EnvR K F ρ1 σ1 → (∃ is vs, σ1 = setAll σ is vs ∧ (tg = .tup is ∨ ∃ i w, tg = .name i ∧ is = [i] ∧ vs = [w])) → Q σ1 H) : tgV K tg v σ H Q := by
  cases tg with
  | name i =>
    cases e
    exact q _ (E.set iv i) ⟨[i], [v], rfl, .inr ⟨i, v, rfl, rfl, rfl⟩⟩
  | tup is =>
    cases iv with
    | tup h1 h2 =>
      rename_i a vs ds
      unfold bindT at e
      dsimp only at e
      by_cases c : ds.length = is.length
      · rw [if_pos c] at e
        cases e
        have hl : vs.length = is.length := by rw [← h2.length]; exact c
        exact ⟨a, vs, rfl, R.sqt (SqT.of h1), hl, gnames (σ := σ) is vs σ hl (q _ (E.setAll is h2) ⟨is, vs, rfl, .inl rfl⟩)⟩
      · rw [if_neg c] at e; cases e
    | _ => cases e
end

/-! ### blocks, small statements -/
section
variable {X : Cx} {W : WX} {st : Stmt} {rest : List Stmt} {t u : DTS} {e : Expr} {te : DTE} {pos : Pos}
theorem ds_ps {st : Stmt} {t : TS} {T : DTS} (h : PS X st t) (i : ∀ N σ H, upS X.K W T N σ H → t N σ H) : DS X W st T := ⟨ps_imp h i⟩
def dNext : DTS := fun N ρ S => N.nx ρ S
def dSeq (t u : DTS) : DTS := fun N ρ S => t { N with nx := u N } ρ S
theorem dss_nil : DSs X W [] dNext := ⟨pss_imp pss_nil fun N σ H ⟨ρ, S, F, Z, Q, R, V, q, l⟩ => l.nx σ H ⟨ρ, S, F, .refl R, V, q⟩⟩
theorem dss_cons (h1 : DS X W st t) (h2 : DSs X W rest u) : DSs X W (st :: rest) (dSeq t u) :=
  ⟨pss_imp (pss_cons h1.ps h2.pss) fun N σ H ⟨ρ, S, F, Z, Q, R, V, q, l⟩ => ⟨ρ, S, F, Z, { Q with nx := u Q }, R, V, q,
    ⟨fun σ1 H1 ⟨ρ1, S1, F1, A1, V1, q1⟩ => ⟨ρ1, S1, F1, Z, Q, A1.rel, V1, q1, l.tr A1⟩, l.rt, l.bk, l.ct, l.ex⟩⟩⟩
theorem dss_one (h1 : DS X W st t) : DSs X W [st] t := ⟨pss_one h1.ps⟩
def dRet (te : DTE) : DTS := fun N ρ S => te ρ S N.rt (N.ex ρ)
theorem ds_ret (he : DE X W e te) : DS X W (.Return (some e) pos) (dRet te) := ds_ps (ps_ret he.pe) fun N σ H ⟨ρ, S, F, Z, Q, R, V, q, l⟩ => ⟨ρ, S, F, Z, _, _, R, V, q, l.rt, l.xe V⟩
def dRetN : DTS := fun N _ S => N.rt .non S
theorem ds_retN : DS X W (.Return none pos) dRetN := ds_ps ps_retN fun N σ H ⟨ρ, S, F, Z, Q, R, V, q, l⟩ => l.rt _ _ ⟨.non, S, F, .refl R, .non, q⟩
def dDrop (te : DTE) : DTS := fun N ρ S => te ρ S (fun _ S1 => N.nx ρ S1) (N.ex ρ)
theorem ds_expr (he : DE X W e te) (hs : swapsWith e none pos.line X.env = pure false := by rfl) : DS X W (.Expr e pos) (dDrop te) :=
  ds_ps (ps_expr he.pe hs) fun N σ H ⟨ρ, S, F, Z, Q, R, V, q, l⟩ => ⟨ρ, S, F, Z, _, _, R, V, q, fun v H1 ⟨d, S1, F1, A1, i1, q1⟩ => l.nx _ _ ⟨ρ, S1, F1, A1, V.up A1.sm, q1⟩, l.xe V⟩
theorem ds_pass : DS X W (.Pass pos) dNext := ds_ps ps_pass fun N σ H ⟨ρ, S, F, Z, Q, R, V, q, l⟩ => l.nx σ H ⟨ρ, S, F, .refl R, V, q⟩
def dBreak : DTS := fun N ρ S => N.bk ρ S
theorem ds_break : DS X W (.Break pos) dBreak := ds_ps ps_break fun N σ H ⟨ρ, S, F, Z, Q, R, V, q, l⟩ => l.bk σ H ⟨ρ, S, F, .refl R, V, q⟩
theorem ds_doc {x j pos pos'} : DS X W (.Expr (.Constant (.str x) j pos) pos') dNext := ds_ps ps_doc fun N σ H ⟨ρ, S, F, Z, Q, R, V, q, l⟩ => l.nx σ H ⟨ρ, S, F, .refl R, V, q⟩
def dNever : DTS := fun _ _ _ => False
theorem ds_never : DS X W st dNever := ds_ps ps_never fun N σ H ⟨ρ, S, F, Z, Q, R, V, q, _⟩ => q
theorem dss_never {sts : List Stmt} : DSs X W sts dNever := ⟨pss_imp pss_never fun N σ H ⟨ρ, S, F, Z, Q, R, V, q, _⟩ => q⟩
def dIfS (c : DTT) (t u : DTS) : DTS := fun N ρ S => c ρ S (fun b S1 => if b = true then t N ρ S1 else u N ρ S1) (N.ex ρ)
theorem ds_if {c : Expr} {a b : List Stmt} {tc : DTT} (hc : DT X W c tc) (ha : DSs X W a t) (hb : DSs X W b u) : DS X W (.If c a b pos) (dIfS tc t u) :=
  ds_ps (ps_if hc.pt ha.pss hb.pss) fun N σ H ⟨ρ, S, F, Z, Q, R, V, q, l⟩ => ⟨ρ, S, F, Z, _, _, R, V, q, fun c H1 ⟨S1, F1, A1, q1⟩ => by
    cases c with
    | true => exact iteT ⟨ρ, S1, F1, Z, Q, A1.rel, V.up A1.sm, iteT' q1, l.tr A1⟩
    | false => exact iteF ⟨ρ, S1, F1, Z, Q, A1.rel, V.up A1.sm, iteF' q1, l.tr A1⟩, l.xe V⟩

/-- name = value -/
def dAsg (te : DTE) (tg : Tgt) : DTS := fun N ρ S => te ρ S (fun d S1 => ∃ ρ1, bindT tg d ρ = some ρ1 ∧ N.nx ρ1 S1) (N.ex ρ)
theorem asg_lift {te : DTE} {tg : Tgt} : ∀ N σ H, upS X.K W (dAsg te tg) N σ H → tAsg (upE X.K W te) (tgV X.K tg) N σ H := fun N σ H ⟨ρ, S, F, Z, Q, R, V, q, l⟩ =>
  ⟨ρ, S, F, Z, _, _, R, V, q, fun v H1 ⟨d, S1, F1, A1, i1, ρ1, hb, q1⟩ => tgV_ok A1.rel (V.up A1.sm) i1 hb fun σ1 V1 _ => l.nx _ _ ⟨ρ1, S1, F1, A1, V1, q1⟩, l.xe V⟩
theorem ds_set {i : Nat} {x : Str} {pos' : Pos} (hN : X.N.Nodup) (he : DE X W e te) (hi : X.N[i]? = some x := by rfl) (hx : Loc X.env.scope x := by first | exact Or.inl rfl | exact Or.inr rfl) (hs : swapsWith e (some (.Name x pos')) pos.line X.env = pure false := by rfl)
    (hf : X.fn x = true ∨ X.env.scope.names.lookup x = some .local := by first | exact .inl rfl | exact .inr rfl | assumption) : DS X W (.Assign [.Name x pos'] e pos) (dAsg te (.name i)) := ds_ps (ps_set hN hi hx he.pe hs hf) asg_lift
/-- names in slots, for a tuple target -/
structure GNames (X : Cx) (ts : List Expr) (is : List Nat) : Prop where
  pg : PGs X ts (is.foldr (fun i u => gCons (gName i) u) gNil)
theorem gn_nil : GNames X [] [] := ⟨pgs_nil⟩
theorem gn_cons {x : Str} {p : Pos} {ts : List Expr} {is : List Nat} (i : Nat) (hN : X.N.Nodup) (h : GNames X ts is) (hi : X.N[i]? = some x := by rfl) (hx : Loc X.env.scope x := by first | exact Or.inl rfl | exact Or.inr rfl)
    (hf : X.fn x = true ∨ X.env.scope.names.lookup x = some .local := by first | exact .inl rfl | exact .inr rfl | assumption)
    (hs : (assignEach (.Name x p :: ts) X.env).map (·.2) = assign (.Name x p) X.env :: (assignEach ts X.env).map (·.2) := by rfl) : GNames X (.Name x p :: ts) (i :: is) := ⟨pgs_cons (pg_name hN hi hx hf) h.pg hs⟩
/-- a target -/
structure DG (X : Cx) (tg : Expr) (g : Tgt) : Prop where
  pg : PG X tg (tgV X.K g)
theorem dg_name {x : Str} {p : Pos} (i : Nat) (hN : X.N.Nodup) (hi : X.N[i]? = some x := by rfl) (hx : Loc X.env.scope x := by first | exact Or.inl rfl | exact Or.inr rfl)
    (hf : X.fn x = true ∨ X.env.scope.names.lookup x = some .local := by first | exact .inl rfl | exact .inr rfl | assumption) : DG X (.Name x p) (.name i) := ⟨pg_name hN hi hx hf⟩
theorem dg_tup {ts : List Expr} {k : Nat} {is : List Nat} (hc : X.calm = true) (h : GNames X ts is) (hn : (assignEach ts X.env).length = is.length := by rfl) (hst : (assignEach ts X.env).findIdx? (·.1) = none := by rfl) : DG X (.Tuple ts k pos) (.tup is) :=
  ⟨pg_tup hc h.pg hn hst⟩
theorem ds_asg {tg : Expr} {g : Tgt} (he : DE X W e te) (hg : DG X tg g) (hs : swapsWithSole [tg] e pos.line X.env = pure false := by rfl) (hw : swappedStores [tg] e X.env = pure none := by rfl)
    (h1 : (assignEach [tg] X.env).map (·.2) = [assign tg X.env] := by rfl) : DS X W (.Assign [tg] e pos) (dAsg te g) := ds_ps (ps_asg he.pe hg.pg hs hw h1) asg_lift
/-- a, b = x, y, both plain local names -/
def dPar (i j : Nat) (ta : DTA) : DTS := fun N ρ S => ta ρ S (fun ds S1 => ∃ d1 d2, ds = [d1, d2] ∧ N.nx ((ρ.set i (some d1)).set j (some d2)) S1) (N.ex ρ)
theorem ds_par {i j : Nat} {x y : Str} {a b : Expr} {ta : DTA} {px py pt : Pos} {kt k2 pt2} (hc : X.calm = true) (hN : X.N.Nodup) (ha : DA X W [a, b] ta)
    (hw : swappedStores [.Tuple [.Name x px, .Name y py] kt pt] (.Tuple [a, b] k2 pt2) X.env = pure (some [x, y])) (hi : X.N[i]? = some x := by rfl) (hj : X.N[j]? = some y := by rfl) (hij : i ≠ j := by decide)
    (hx : X.env.scope.names.lookup x = some .local := by rfl) (hy : X.env.scope.names.lookup y = some .local := by rfl)
    (hs : swapsWithSole [.Tuple [.Name x px, .Name y py] kt pt] (.Tuple [a, b] k2 pt2) pos.line X.env = pure false := by rfl) :
    DS X W (.Assign [.Tuple [.Name x px, .Name y py] kt pt] (.Tuple [a, b] k2 pt2) pos) (dPar i j ta) :=
  ds_ps (ps_par hc hN hi hj hij hx hy ha.pa hw hs) fun N σ H ⟨ρ, S, F, Z, Q, R, V, q, l⟩ => ⟨ρ, S, F, Z, _, _, R, V, q, fun vs H1 ⟨ds, S1, F1, A1, i1, d1, d2, hd, q1⟩ => by
    subst hd
    cases i1 with
    | cons r1 r =>
      cases r with
      | cons r2 r =>
        cases r
        exact ⟨_, _, rfl, l.nx _ _ ⟨_, S1, F1, A1, ((V.up A1.sm).set r1 i).set r2 j, q1⟩⟩, l.xe V⟩
end

/-! ### what is walked -/
structure ItOk (K : PySem.W.Frag) (J : It) (items : List D) (F : Hp) : Prop where
  go : ∀ H S F' Z, Same F F' → Rel K Z H S F' → ∀ i, i < items.length → J.go i H
  stop : ∀ H S F' Z, Same F F' → Rel K Z H S F' → J.stop items.length H
  yld : ∀ H S F' Z, Same F F' → Rel K Z H S F' → ∀ i x H', i < items.length → J.yld i H x H' → ∃ F'' d, Aft K Z H F' H' S F'' ∧ items[i]? = some d ∧ IsV K F'' d x
abbrev DTI := Sl → Store → (List D → Store → Prop) → DX → Prop
def upI (K : PySem.W.Frag) (W : WX) (T : DTI) : TI := fun σ H P => ∃ ρ S F Z Q E, Rel K Z H S F ∧ EnvR K F ρ σ ∧ T ρ S Q E ∧ (∀ J H' items S' F', Aft K Z H F H' S' F' → ItOk K J items F' → Q items S' → P J H') ∧ ∀ cls d H', LftX K Z H F E cls d H' → W cls d σ H'
structure DI (X : Cx) (W : WX) (tg iter : Expr) (T : DTI) : Prop where
  pi : PI X tg iter (upI X.K W T)
theorem pi_imp {X : Cx} {tg e : Expr} {t t' : TI} (h : PI X tg e t) (i : ∀ σ H P, t' σ H P → t σ H P) : PI X tg e t' := ⟨fun pins s σ H R I q => h.run pins s σ H R I (i σ H R q)⟩
section
variable {X : Cx} {W : WX} {tg e : Expr} {te : DTE}
/-- the items of a list -/
def dItL (te : DTE) : DTI := fun ρ S Q E => te ρ S (fun d S1 => ∃ ds, (d = .lst ds ∨ d = .scr ds) ∧ Q ds S1) E
def dItT (te : DTE) : DTI := fun ρ S Q E => te ρ S (fun d S1 => ∃ ds, d = .tup ds ∧ Q ds S1) E
theorem itOk_list {K : PySem.W.Frag} {F : Hp} {a : Addr} {vs : List V} {ds : List D} (h1 : SqL K F a vs) (h2 : IsVs K F ds vs) : ItOk K (Itl K a) ds F where
  go := fun H S F' Z s R i hi => ⟨vs, vs[i]'(by rw [← h2.length]; exact hi), R.sql (L2.Same.seq s h1), List.getElem?_eq_getElem _⟩
  stop := fun H S F' Z s R => ⟨vs, R.sql (L2.Same.seq s h1), by rw [h2.length]; exact Nat.le_refl _⟩
  yld := fun H S F' Z s R i x H' hi hy => by
    obtain ⟨rfl, hy⟩ := hy
    have e := hy vs (R.sql (L2.Same.seq s h1))
    obtain ⟨d, hd, iv⟩ := h2.getV e
    exact ⟨F', d, .refl R, hd, iv.up s⟩
theorem di_list (h : DE X W e te) : DI X W tg e (dItL te) := ⟨pi_imp (pi_list h.pe) fun σ H P ⟨ρ, S, F, Z, Q, E, R, V, q, k, x⟩ => ⟨ρ, S, F, Z, _, E, R, V, q, fun v H1 ⟨d, S1, F1, A1, i1, ds, hd, q1⟩ => by
  rcases hd with rfl | rfl
  · cases i1 with
    | lst h1 h2 =>
      exact ⟨_, rfl, ⟨_, SqL.of (A1.rel.sub _ _ h1).1⟩, k _ _ ds S1 F1 A1 (itOk_list (SqL.of h1) h2) q1⟩
  · cases i1 with
    | scr h1 h2 => exact ⟨_, rfl, ⟨_, A1.rel.sql h1⟩, k _ _ ds S1 F1 A1 (itOk_list h1 h2) q1⟩, x⟩⟩
theorem di_tup (h : DE X W e te) : DI X W tg e (dItT te) := ⟨pi_imp (pi_tup h.pe) fun σ H P ⟨ρ, S, F, Z, Q, E, R, V, q, k, x⟩ => ⟨ρ, S, F, Z, _, E, R, V, q, fun v H1 ⟨d, S1, F1, A1, i1, ds, hd, q1⟩ => by
  subst hd
  cases i1 with
  | tup h1 h2 =>
    refine ⟨_, rfl, ⟨_, A1.rel.sqt (SqT.of h1)⟩, k _ _ ds S1 F1 A1 ⟨fun H S F' Z s R i hi => ?_, fun H S F' Z s R => ?_, fun H S F' Z s R i x H' hi hy => ?_⟩ q1⟩
    · exact ⟨_, _, R.sqt (SqT.of (s _ _ h1)), List.getElem?_eq_getElem (by rw [← h2.length]; exact hi)⟩
    · exact ⟨_, R.sqt (SqT.of (s _ _ h1)), by rw [h2.length]; exact Nat.le_refl _⟩
    · obtain ⟨rfl, hy⟩ := hy
      have e := hy _ (R.sqt (SqT.of (s _ _ h1)))
      obtain ⟨d, hd, iv⟩ := h2.getV e
      exact ⟨F', d, .refl R, hd, iv.up s⟩, x⟩⟩
/-- the signs of a text -/
def dItS (te : DTE) : DTI := fun ρ S Q E => te ρ S (fun d S1 => ∃ z : Str, d = .str z ∧ Q (z.cps.toList.map fun c => D.str ⟨#[c]⟩) S1) E
/-- range -/
def dItR (lo : Int) (n : Nat) : List D := (List.range n).map fun (i : Nat) => D.int (lo + i)
theorem itOk_range {K : PySem.W.Frag} {F : Hp} (lo : Int) (n : Nat) : ItOk K (Itr lo n) (dItR lo n) F where
  go := fun H S F' Z s R i hi => by
    have h : i < (dItR lo n).length := hi
    unfold dItR at h
    rw [List.length_map, List.length_range] at h
    exact h
  stop := fun H S F' Z s R => by
    show n ≤ (dItR lo n).length
    unfold dItR
    rw [List.length_map, List.length_range]
    exact Nat.le_refl _
  yld := fun H S F' Z s R i x H' hi hy => by
    obtain ⟨rfl, rfl⟩ := hy
    have h : i < (dItR lo n).length := hi
    unfold dItR at h
    rw [List.length_map, List.length_range] at h
    refine ⟨F', .int (lo + i), .refl R, ?_, .int _⟩
    unfold dItR
    rw [List.getElem?_map, List.getElem?_range h]
    rfl
def dIt1 (ta : DTA) : DTI := fun ρ S Q E => ta ρ S (fun ds S1 => ∃ j : Int, ds = [.int j] ∧ -(2 ^ 62) ≤ j ∧ j < 2 ^ 62 ∧ Q (dItR 0 j.toNat) S1) E
def dIt2 (ta : DTA) : DTI := fun ρ S Q E => ta ρ S (fun ds S1 => ∃ i j : Int, ds = [.int i, .int j] ∧ (-(2 ^ 62) ≤ i ∧ i < 2 ^ 62 ∧ -(2 ^ 62) ≤ j ∧ j < 2 ^ 62) ∧ Q (dItR i (j - i).toNat) S1) E
theorem di_range1 {a : Expr} {ta : DTA} {p pos : Pos} (hm : X.mg "range" = none) (ha : DA X W [a] ta) (hg : Gl X "range" := by rfl) (hs : starEach [a] X.env = [(false, eval a X.env)] := by rfl) : DI X W tg (.Call (.Name "range" p) [a] [] pos) (dIt1 ta) :=
  ⟨pi_imp (pi_range1 hg hm ha.pa hs) fun σ H P ⟨ρ, S, F, Z, Q, E, R, V, q, k, x⟩ => ⟨ρ, S, F, Z, _, E, R, V, q, fun v H1 ⟨d, S1, F1, A1, i1, j, hd, z1, z2, q1⟩ => by
    subst hd
    cases i1 with
    | cons r1 r =>
      cases r1; cases r
      exact ⟨j, rfl, z1, z2, k _ _ _ S1 F1 A1 (itOk_range 0 _) q1⟩, x⟩⟩
theorem di_range2 {a b : Expr} {ta : DTA} {p pos : Pos} (hm : X.mg "range" = none) (ha : DA X W [a, b] ta) (hg : Gl X "range" := by rfl) (hs : starEach [a, b] X.env = [(false, eval a X.env), (false, eval b X.env)] := by rfl) (hs2 : starEach [b] X.env = [(false, eval b X.env)] := by rfl) :
    DI X W tg (.Call (.Name "range" p) [a, b] [] pos) (dIt2 ta) :=
  ⟨pi_imp (pi_range2 hg hm ha.pa hs hs2) fun σ H P ⟨ρ, S, F, Z, Q, E, R, V, q, k, x⟩ => ⟨ρ, S, F, Z, _, E, R, V, q, fun v H1 ⟨d, S1, F1, A1, i1, i, j, hd, z, q1⟩ => by
    subst hd
    cases i1 with
    | cons r1 r =>
      cases r1
      cases r with
      | cons r2 r =>
        cases r2; cases r
        exact ⟨i, j, rfl, z, k _ _ _ S1 F1 A1 (itOk_range _ _) q1⟩, x⟩⟩
end

/-! ### for -/
def dForGo (tg : Tgt) (tb : DTS) : List D → DTS
  | [] => fun N ρ S => N.nx ρ S
  | d :: r => fun N ρ S => ∃ ρ1, bindT tg d ρ = some ρ1 ∧ tb { nx := fun ρ2 S2 => dForGo tg tb r N ρ2 S2, ct := fun ρ2 S2 => dForGo tg tb r N ρ2 S2, bk := N.nx, rt := N.rt, ex := N.ex } ρ1 S
def dFor (ti : DTI) (tg : Tgt) (tb : DTS) : DTS := fun N ρ S => ti ρ S (fun items S1 => dForGo tg tb items N ρ S1) (N.ex ρ)
theorem drop_at {α : Type} {l : List α} {i : Nat} {d : α} (h : l[i]? = some d) : l.drop i = d :: l.drop (i + 1) := by
  obtain ⟨h1, h2⟩ := List.getElem?_eq_some_iff.mp h
  rw [List.drop_eq_getElem_cons h1, h2]
section
variable {X : Cx} {W : WX} {tg iter : Expr} {body : List Stmt} {ti : DTI} {g : Tgt} {tb : DTS} {pos : Pos}
theorem ds_for (hc : X.calm = true) (hi : DI X W tg iter ti) (hg : DG X tg g) (hb : DSs X W body tb) (hp : PassesOwn (model X.prog X.w) X.A X.env X.xe) (hs : ∀ x, foldedSetIterable iter X.env x = pure x := by intro _; rfl) : DS X W (.For tg iter body [] pos) (dFor ti g tb) := by
  refine ds_ps (ps_for hp hc hi.pi hg.pg hb.pss hs) fun N σ H ⟨ρ, S, F, Z, Q, R, V, q, l⟩ => ?_
  refine ⟨ρ, S, F, Z, _, _, R, V, q, fun J H1 items S1 F1 A1 ok q1 => ?_, l.xe V⟩
  refine ⟨fun i m σ' H' => m = items.length - i ∧ i ≤ items.length ∧ ∃ ρ' S' F', Aft X.K Z H1 F1 H' S' F' ∧ EnvR X.K F' ρ' σ' ∧ dForGo g tb (items.drop i) Q ρ' S', ⟨items.length, rfl, Nat.zero_le _, ρ, S1, F1, .refl A1.rel, V.up A1.sm, q1⟩, ?_⟩
  rintro i m σ2 H2 ⟨rfl, hi, ρ2, S2, F2, A2, V2, q2⟩
  by_cases hlt : i < items.length
  · refine .inr ⟨ok.go H2 S2 F2 Z A2.sm A2.rel i hlt, fun σ' H' => i + 1 ≤ items.length ∧ ∃ ρ' S' F', Aft X.K Z H1 F1 H' S' F' ∧ EnvR X.K F' ρ' σ' ∧ dForGo g tb (items.drop (i + 1)) Q ρ' S', fun σ' H' p' => ⟨items.length - (i + 1), by omega, rfl, p'⟩, fun x H3 hy => ?_⟩
    obtain ⟨F3, d, A3, hd, iv⟩ := ok.yld H2 S2 F2 Z A2.sm A2.rel i x H3 hlt hy
    rw [drop_at hd] at q2
    obtain ⟨ρ3, hb3, q3⟩ := q2
    have A := A2.trans A3
    refine tgV_ok A3.rel (V2.up A3.sm) iv hb3 fun σ3 V3 _ => ?_
    have l3 := l.tr (A1.trans A)
    exact ⟨ρ3, S2, F3, Z, _, A3.rel, V3, q3, ⟨fun σ' H' ⟨ρ', S', F', A', V', q'⟩ => ⟨hlt, ρ', S', F', A.trans A', V', q'⟩, l3.rt, l3.nx, fun σ' H' ⟨ρ', S', F', A', V', q'⟩ => ⟨hlt, ρ', S', F', A.trans A', V', q'⟩, l3.ex⟩⟩
  · have e : i = items.length := by omega
    subst e
    rw [List.drop_length] at q2
    exact .inl ⟨ok.stop H2 S2 F2 Z A2.sm A2.rel, l.nx _ _ ⟨ρ2, S2, F2, A1.trans A2, V2, q2⟩⟩
end

/-! ### comprehensions -/
def wipeD (ρ : Sl) : List Nat → Sl
  | [] => ρ
  | v :: vs => (wipeD ρ vs).set v none
theorem EnvR.wipe {K : PySem.W.Frag} {F : Hp} {ρ : Sl} {σ : L2.St} (h : EnvR K F ρ σ) : ∀ vs, EnvR K F (wipeD ρ vs) (L2.wipe σ vs)
  | [] => h
  | v :: vs => (EnvR.wipe h vs).forget v
theorem wipe_set {σ : L2.St} {i : Nat} {x : Option V} : ∀ {vs : List Nat}, i ∈ vs → L2.wipe (σ.set i x) vs = L2.wipe σ vs
  | [], h => by cases h
  | v :: vs, h => by
    show (L2.wipe (σ.set i x) vs).set v none = (L2.wipe σ vs).set v none
    by_cases hm : i ∈ vs
    · rw [wipe_set hm]
    · have e : v = i := by
        rcases List.mem_cons.mp h with q | q
        · exact q.symm
        · exact absurd q hm
      subst e
      have key : ∀ (us : List Nat), v ∉ us → L2.wipe (σ.set v x) us = (L2.wipe σ us).set v x := by
        intro us
        induction us with
        | nil => intro _; rfl
        | cons u us ih =>
          intro hn
          show (L2.wipe (σ.set v x) us).set u none = ((L2.wipe σ us).set u none).set v x
          have h1 : v ≠ u := fun q => hn (by rw [q]; exact List.mem_cons_self)
          rw [ih fun q => hn (List.mem_cons_of_mem _ q), List.set_comm _ _ h1]
      rw [key vs hm, List.set_set]
theorem wipe_wipe {σ : L2.St} : ∀ vs us : List Nat, (∀ v ∈ us, v ∈ vs) → L2.wipe (L2.wipe σ us) vs = L2.wipe σ vs
  | vs, [], _ => rfl
  | vs, u :: us, h => by
    show L2.wipe ((L2.wipe σ us).set u none) vs = _
    rw [wipe_set (h u List.mem_cons_self), wipe_wipe vs us fun v hv => h v (List.mem_cons_of_mem _ hv)]
theorem wipe_setAll {vs : List Nat} : ∀ (is : List Nat) (ws : List V) (σ : L2.St), (∀ i ∈ is, i ∈ vs) → L2.wipe (setAll σ is ws) vs = L2.wipe σ vs
  | [], _, _, _ => rfl
  | _ :: _, [], _, _ => rfl
  | i :: is, w :: ws, σ, h => by
    show L2.wipe (setAll (σ.set i (some w)) is ws) vs = _
    rw [wipe_setAll is ws _ fun j hj => h j (List.mem_cons_of_mem _ hj), wipe_set (h i List.mem_cons_self)]
def Tgt.slots : Tgt → List Nat
  | .name i => [i]
  | .tup is => is
/-- the items' turns: acc is the list so far -/
def dLcGo (tg : Tgt) (tt : DTT) (te : DTE) (ρ : Sl) : List D → List D → Store → (List D → Store → Prop) → Prop
  | [], acc, S, Q => Q acc S
  | d :: r, acc, S, Q => ∃ ρ1, bindT tg d ρ = some ρ1 ∧ tt ρ1 S (fun b S1 => if b = true then te ρ1 S1 (fun y S2 => dLcGo tg tt te ρ r (acc ++ [y]) S2 Q) (fun _ _ _ _ => False) else dLcGo tg tt te ρ r acc S1 Q) fun _ _ _ _ => False
def dLcI (ti : DTI) (tg : Tgt) (tt : DTT) (te : DTE) (vs : List Nat) : DTA := fun ρ S Q E => ti ρ S (fun items S1 => items.length ≤ sizeLine ∧ dLcGo tg tt te (wipeD ρ vs) items [] S1 Q) E
/-- a comprehension; its list is never written -/
def dLc (ti : DTI) (tg : Tgt) (tt : DTT) (te : DTE) (vs : List Nat) : DTE := fun ρ S Q E => dLcI ti tg tt te vs ρ S (fun ds S1 => Q (.lst ds) S1) E
/-- .. a list of the store -/
def dLcM (ti : DTI) (tg : Tgt) (tt : DTT) (te : DTE) (vs : List Nat) : DTE := fun ρ S Q E => dLcI ti tg tt te vs ρ S (fun ds S1 => ∀ a, S1 a = none → Q (.ref a) (put S1 a (.lst ds))) E
abbrev W0 : WX := fun _ _ _ _ => False
structure DTs (X : Cx) (ifs : List Expr) (T : DTT) : Prop where
  pt : PTs X ifs (upT X.K W0 T)
def dYes : DTT := fun _ S Q _ => Q true S
theorem pts_imp {X : Cx} {e : List Expr} {t t' : TT} (h : PTs X e t) (i : ∀ σ H P, t' σ H P → t σ H P) : PTs X e t' := ⟨fun pins s σ H Q I q => h.run pins s σ H Q I (i σ H Q q)⟩
theorem dts_nil {X : Cx} : DTs X [] dYes := ⟨pts_imp pts_nil fun σ H P ⟨ρ, S, F, Z, Q, E, R, V, q, k, _⟩ => k true H ⟨S, F, .refl R, q⟩⟩
theorem dts_one {X : Cx} {c : Expr} {t : DTT} (h : DT X W0 c t) : DTs X [c] t := ⟨pts_one h.pt⟩
section
variable {K : PySem.W.Frag} {W : WX} {ti : DTI} {g : Tgt} {tt : DTT} {te : DTE} {vs : List Nat}
theorem no_some {α : Type} {x : Option α} (h : ∀ y, x = some y → False) : x = none := by
  cases x with
  | none => rfl
  | some y => exact (h y rfl).elim
/-- the list under way is hidden from the element -/
theorem lc_lift (hv : ∀ i ∈ g.slots, i ∈ vs) {σ : L2.St} {H : Hp} {P : VK} {ρ : Sl} {S : Store} {F : Hp} {Z : Addr → Prop} {Qd : List D → Store → Prop} {Ex : DX} (R : Rel K Z H S F) (E : EnvR K F ρ σ) (q : dLcI ti g tt te vs ρ S Qd Ex)
    (k : ∀ (H1 F1 : Hp) (S1 : Store) (Dd : Addr) (ds : List D) (ws : List V), Aft K Z H F H1 S1 F1 → H1 Dd = some (.lst ws) → IsVs K F1 ds ws → S1 Dd = none → F1 Dd = none → ¬ Z Dd → Qd ds S1 → P (.ref Dd) H1) (xl : ∀ cls d H', LftX K Z H F Ex cls d H' → W cls d σ H') :
    tLc (upI K W ti) (tgV K g) (upT K W0 tt) (upE K W0 te) vs σ H P := by
  refine ⟨ρ, S, F, Z, _, _, R, E, q, fun J H1 items S1 F1 A1 ok ⟨hz, q1⟩ Dd hD => ?_, xl⟩
  have E1 : EnvR K F1 (wipeD ρ vs) (L2.wipe σ vs) := (E.up A1.sm).wipe vs
  -- the hidden list
  let Z' : Addr → Prop := fun b => Z b ∨ b = Dd
  have zD : ¬ Z Dd := fun z => by
    obtain ⟨o, e⟩ := A1.rel.hid Dd z
    rw [hD] at e; cases e
  have sD : S1 Dd = none := by
    cases e : S1 Dd with
    | none => rfl
    | some m =>
      obtain ⟨_, o, e2, _⟩ := A1.rel.sto Dd m e
      rw [hD] at e2; cases e2
  have fD : F1 Dd = none := by
    cases e : F1 Dd with
    | none => rfl
    | some o =>
      have := (A1.rel.sub Dd o e).1
      rw [hD] at this; cases this
  have down : ∀ {H' : Hp} {S' : Store} {F' : Hp}, Rel K Z' H' S' F' → Rel K Z H' S' F' ∧ S' Dd = none ∧ F' Dd = none := fun {H' S' F'} r =>
    ⟨⟨fun b u e => ⟨(r.sub b u e).1, (r.sub b u e).2.1, fun z => (r.sub b u e).2.2 (.inl z)⟩, fun b m e => ⟨fun z => (r.sto b m e).1 (.inl z), (r.sto b m e).2⟩, fun b z => r.hid b (.inl z)⟩,
     no_some fun m e => (r.sto Dd m e).1 (.inr rfl), no_some fun o e => (r.sub Dd o e).2.2 (.inr rfl)⟩
  -- writing the hidden list
  have wr : ∀ {H' : Hp} {S' : Store} {F' : Hp} (ws : List V), Rel K Z' H' S' F' → Rel K Z' (upd H' Dd (.lst ws)) S' F' := fun {H' S' F'} ws r => by
    obtain ⟨r1, hs, hf⟩ := down r
    have ne : ∀ {b u}, F' b = some u → b ≠ Dd := fun e z => by rw [z, hf] at e; cases e
    have nes : ∀ {b u}, S' b = some u → b ≠ Dd := fun e z => by rw [z, hs] at e; cases e
    exact ⟨fun b u e => ⟨by rw [upd_ne (ne e)]; exact (r.sub b u e).1, (r.sub b u e).2⟩,
      fun b m e => ⟨(r.sto b m e).1, let ⟨o, h1, h2⟩ := (r.sto b m e).2; ⟨o, by rw [upd_ne (nes e)]; exact h1, h2⟩⟩,
      fun b z => by
        by_cases hb : b = Dd
        · subst hb
          exact ⟨_, upd_same⟩
        · rw [upd_ne hb]
          exact r.hid b z⟩
  have Rb : Rel K Z' (upd H1 Dd (.lst [])) S1 F1 := by
    obtain ⟨r1, _, _⟩ := A1.rel.laid (o := .lst []) hD
    have ne : ∀ {b u}, H1 b = some u → b ≠ Dd := fun e z => by rw [z, hD] at e; cases e
    refine ⟨fun b u e => ?_, fun b m e => ?_, fun b z => ?_⟩
    · have h := A1.rel.sub b u e
      exact ⟨by rw [upd_ne (ne h.1)]; exact h.1, h.2.1, fun z => z.elim h.2.2 (ne h.1)⟩
    · obtain ⟨h1, o, h2, h3⟩ := A1.rel.sto b m e
      exact ⟨fun z => z.elim h1 (ne h2), o, by rw [upd_ne (ne h2)]; exact h2, h3⟩
    · rcases z with z | z
      · obtain ⟨o, e⟩ := A1.rel.hid b z
        exact ⟨o, by rw [upd_ne (ne e)]; exact e⟩
      · subst z
        exact ⟨_, upd_same⟩
  refine ⟨fun i m H' => m = items.length - i ∧ i ≤ items.length ∧ ∃ (S' : Store) (F' : Hp) (acc : List D) (ws : List V), Same F1 F' ∧ Rel K Z' H' S' F' ∧ Keep Z H1 H' ∧ H' Dd = some (.lst ws) ∧ IsVs K F' acc ws ∧ ws.length ≤ i ∧ dLcGo g tt te (wipeD ρ vs) (items.drop i) acc S' Qd,
    ⟨items.length, rfl, Nat.zero_le _, S1, F1, [], [], Same.refl _, Rb, fun b o z e => ?_, upd_same, .nil, Nat.le_refl _, q1⟩, ?_⟩
  · have hb : b ≠ Dd := fun q => zD (q ▸ z)
    rw [upd_ne hb]; exact e
  rintro i m H2 ⟨rfl, hi, S2, F2, acc, ws, s2, R2, k2, hd2, iv2, hl2, q2⟩
  by_cases hlt : i < items.length
  · refine .inr ⟨ok.go H2 S2 F2 Z' s2 R2 i hlt, fun H' => i + 1 ≤ items.length ∧ ∃ (S' : Store) (F' : Hp) (acc : List D) (ws : List V), Same F1 F' ∧ Rel K Z' H' S' F' ∧ Keep Z H1 H' ∧ H' Dd = some (.lst ws) ∧ IsVs K F' acc ws ∧ ws.length ≤ i + 1 ∧ dLcGo g tt te (wipeD ρ vs) (items.drop (i + 1)) acc S' Qd,
      fun H' p' => ⟨items.length - (i + 1), by omega, rfl, p'⟩, fun x H3 hy => ?_⟩
    obtain ⟨F3, d, A3, hd3, iv3⟩ := ok.yld H2 S2 F2 Z' s2 R2 i x H3 hlt hy
    rw [drop_at hd3] at q2
    obtain ⟨ρ3, hb3, q3⟩ := q2
    have s3 := s2.trans A3.sm
    have hD3 : H3 Dd = some (.lst ws) := A3.kp Dd _ (.inr rfl) hd2
    refine tgV_ok A3.rel ((E1.up s2).up A3.sm) iv3 hb3 fun σ3 E3 ⟨is, us, hσ, hg⟩ => ⟨?_, ?_⟩
    · have hin : ∀ j ∈ is, j ∈ vs := by
        rcases hg with rfl | ⟨j, w, rfl, rfl, _⟩
        · exact hv
        · exact hv
      rw [hσ, wipe_setAll is us _ hin, wipe_wipe vs vs fun _ h => h]
    · refine ⟨ρ3, S2, F3, Z', _, _, A3.rel, E3, q3, fun b H4 ⟨S4, F4, A4, q4⟩ => ?_, fun _ _ _ ⟨_, _, _, _, _, _, _, _, z⟩ => z.elim⟩
      have s4 := s3.trans A4.sm
      have hD4 : H4 Dd = some (.lst ws) := A4.kp Dd _ (.inr rfl) hD3
      have kz : Keep Z H1 H4 := fun b o z e => A4.kp b o (.inl z) (A3.kp b o (.inl z) (k2 b o z e))
      cases b with
      | false => exact iteF ⟨hlt, S4, F4, acc, ws, s4, A4.rel, kz, hD4, (iv2.up A3.sm).up A4.sm, Nat.le_succ_of_le hl2, iteF' q4⟩
      | true =>
        refine iteT ⟨ρ3, S4, F4, Z', _, _, A4.rel, E3.up A4.sm, iteT' q4, fun y H5 ⟨dy, S5, F5, A5, iv5, q5⟩ => ?_, fun _ _ _ ⟨_, _, _, _, _, _, _, _, z⟩ => z.elim⟩
        have hD5 : H5 Dd = some (.lst ws) := A5.kp Dd _ (.inr rfl) hD4
        refine ⟨ws, hD5, Nat.lt_of_le_of_lt hl2 (Nat.lt_of_lt_of_le hlt hz), hlt, S5, F5, acc ++ [dy], ws ++ [y], s4.trans A5.sm, wr _ A5.rel, fun b o z e => ?_, upd_same, (((iv2.up A3.sm).up A4.sm).up A5.sm).append (.cons iv5 .nil), ?_, q5⟩
        · have hb : b ≠ Dd := fun q => zD (q ▸ z)
          rw [upd_ne hb]
          exact A5.kp b o (.inl z) (kz b o z e)
        · rw [List.length_append, List.length_singleton]; omega
  · have e : i = items.length := by omega
    subst e
    rw [List.drop_length] at q2
    obtain ⟨r2, hs2, hf2⟩ := down R2
    refine .inl ⟨ok.stop H2 S2 F2 Z' s2 R2, k H2 F2 S2 Dd acc ws (A1.trans ⟨s2, r2, k2⟩) hd2 iv2 hs2 hf2 zD q2⟩
/-- a list that nobody knows yet: frozen, or of the store -/
theorem Rel.own {Z : Addr → Prop} {H F : Hp} {S : Store} (R : Rel K Z H S F) {p : Addr} {o : HO} (hp : H p = some o) (hS : S p = none) (hF : F p = none) (zp : ¬ Z p) : Rel K Z H S (upd F p o) ∧ Same F (upd F p o) := by
  have sm : Same F (upd F p o) := fun b u e => by rw [upd_ne fun z => by rw [z, hF] at e; cases e]; exact e
  refine ⟨⟨fun b u e => ?_, fun b m e => ⟨(R.sto b m e).1, let ⟨o, h1, h2⟩ := (R.sto b m e).2; ⟨o, h1, h2.up sm⟩⟩, R.hid⟩, sm⟩
  by_cases hb : b = p
  · subst hb
    rw [upd_same] at e
    cases e
    exact ⟨hp, hS, zp⟩
  · rw [upd_ne hb] at e
    exact R.sub b u e
theorem Rel.ownS {Z : Addr → Prop} {H F : Hp} {S : Store} (R : Rel K Z H S F) {p : Addr} {o : HO} {m : M} (hp : H p = some o) (hS : S p = none) (hF : F p = none) (zp : ¬ Z p) (r : MRel K F m o) : Rel K Z H (put S p m) F := by
  refine ⟨fun b u e => ?_, fun b m' e => ?_, R.hid⟩
  · have hb : b ≠ p := fun z => by rw [z, hF] at e; cases e
    obtain ⟨h1, h2, h3⟩ := R.sub b u e
    exact ⟨h1, by rw [put_ne hb]; exact h2, h3⟩
  · by_cases hb : b = p
    · subst hb
      rw [put_same] at e
      cases e
      exact ⟨zp, o, hp, r⟩
    · rw [put_ne hb] at e
      exact R.sto b m' e
end
section
variable {X : Cx} {W : WX} {elt tg iter : Expr} {ifs : List Expr} {scope : Scope} {own : List (Str × Nat)} {pos spos : Pos} {ti : DTI} {g : Tgt} {tt : DTT} {te : DTE}
theorem lift_lc (hv : ∀ i ∈ g.slots, i ∈ own.map (·.2)) : ∀ σ H P, upE X.K W (dLc ti g tt te (own.map (·.2))) σ H P → tLc (upI X.K W ti) (tgV X.K g) (upT X.K W0 tt) (upE X.K W0 te) (own.map (·.2)) σ H P := fun σ H P ⟨ρ, S, F, Z, Q, E, R, V, q, k, x⟩ =>
  lc_lift hv R V q (fun H1 F1 S1 Dd ds ws A1 hd iv hs hf zd q1 => by
    obtain ⟨R2, s2⟩ := A1.rel.own hd hs hf zd
    exact k _ _ ⟨.lst ds, S1, _, A1.trans ⟨s2, R2, Keep.refl⟩, .lst upd_same (iv.up s2), q1⟩) x
theorem lift_lcM (hv : ∀ i ∈ g.slots, i ∈ own.map (·.2)) : ∀ σ H P, upE X.K W (dLcM ti g tt te (own.map (·.2))) σ H P → tLc (upI X.K W ti) (tgV X.K g) (upT X.K W0 tt) (upE X.K W0 te) (own.map (·.2)) σ H P := fun σ H P ⟨ρ, S, F, Z, Q, E, R, V, q, k, x⟩ =>
  lc_lift hv R V q (fun H1 F1 S1 Dd ds ws A1 hd iv hs hf zd q1 => k _ _ ⟨.ref Dd, _, F1, A1.trans ⟨Same.refl _, A1.rel.ownS (m := .lst ds) hd hs hf zd ⟨ws, rfl, iv⟩, Keep.refl⟩, .ref Dd, q1 Dd hs⟩) x
abbrev Blk (X : Cx) (scope : Scope) (P : Cx → Prop) : Prop := ∀ (s : Shared) (H : Hp) (C : Addr) (cl : List (Str × Addr)) (fp : List Addr), P (X.blk s H scope (compEnvC scope cl C X.env) fp)
theorem de_lc (hc : X.calm = true) (hN : X.N.Nodup) (hi : DI X W tg iter ti) (ok : BlkOk X.N X.env.scope scope own) (hg : Blk X scope fun Y => DG Y tg g) (ht : Blk X scope fun Y => DTs Y ifs tt) (he : Blk X scope fun Y => DE Y W0 elt te)
    (hv : ∀ i ∈ g.slots, i ∈ own.map (·.2) := by decide) (hs : ∀ x, foldedSetIterable iter X.env x = pure x := by intro _; rfl) : DE X W (.ListComp elt [⟨tg, iter, ifs, 0⟩] scope pos) (dLc ti g tt te (own.map (·.2))) :=
  de_pe (pe_lc hc hN hi.pi ok (fun s H C cl fp => (hg s H C cl fp).pg) (fun s H C cl fp => (ht s H C cl fp).pt) (fun s H C cl fp => (he s H C cl fp).pe) hs) (lift_lc hv)
theorem de_lcM (hc : X.calm = true) (hN : X.N.Nodup) (hi : DI X W tg iter ti) (ok : BlkOk X.N X.env.scope scope own) (hg : Blk X scope fun Y => DG Y tg g) (ht : Blk X scope fun Y => DTs Y ifs tt) (he : Blk X scope fun Y => DE Y W0 elt te)
    (hv : ∀ i ∈ g.slots, i ∈ own.map (·.2) := by decide) (hs : ∀ x, foldedSetIterable iter X.env x = pure x := by intro _; rfl) : DE X W (.ListComp elt [⟨tg, iter, ifs, 0⟩] scope pos) (dLcM ti g tt te (own.map (·.2))) :=
  de_pe (pe_lc hc hN hi.pi ok (fun s H C cl fp => (hg s H C cl fp).pg) (fun s H C cl fp => (ht s H C cl fp).pt) (fun s H C cl fp => (he s H C cl fp).pe) hs) (lift_lcM hv)
/-- y = [..] -/
theorem ds_setLc {i : Nat} {y : Str} {py : Pos} (hc : X.calm = true) (hN : X.N.Nodup) (hsw : swapsWith (.ListComp elt [⟨tg, iter, ifs, 0⟩] scope pos) (some (.Name y py)) spos.line X.env = pure true) (hi : DI X W tg iter ti) (ok : BlkOk X.N X.env.scope scope own)
    (hg : Blk X scope fun Y => DG Y tg g) (ht : Blk X scope fun Y => DTs Y ifs tt) (he : Blk X scope fun Y => DE Y W0 elt te) (hy : X.N[i]? = some y := by rfl) (hyl : X.env.scope.names.lookup y = some .local := by rfl)
    (hv : ∀ i ∈ g.slots, i ∈ own.map (·.2) := by decide) (hs : ∀ x, foldedSetIterable iter X.env x = pure x := by intro _; rfl) :
    DS X W (.Assign [.Name y py] (.ListComp elt [⟨tg, iter, ifs, 0⟩] scope pos) spos) (dAsg (dLc ti g tt te (own.map (·.2))) (.name i)) :=
  ds_ps (ps_setLc hc hN hy hyl hsw hi.pi ok (fun s H C cl fp => (hg s H C cl fp).pg) (fun s H C cl fp => (ht s H C cl fp).pt) (fun s H C cl fp => (he s H C cl fp).pe) hs) fun N σ H h => by
    have h2 : tAsg (upE X.K W (dLc ti g tt te (own.map (·.2)))) (tgV X.K (.name i)) N σ H := asg_lift N σ H h
    exact lift_lc hv σ H _ h2
end
end DL

set_option maxRecDepth 100000
set_option maxHeartbeats 1000000
/-! DL, defs and calls. A def's promise speaks of trees; it is asked for where no repr runs (so that repr may be called within). -/
namespace DL
open PySem PySem.Spec L2
abbrev DSp := List D → Store → DQ → DX → Prop
structure FnG (P : Program) (w : World) (K : PySem.W.Frag) (mg : Str → Option Value) (base : Heap) (k : Nat) (f : Addr) (fd : FuncData) (ps : List Str) (sp : Sp) : Prop where
  len : ∀ vs H Q E, sp vs H Q E → vs.length = ps.length
  run : ∀ (A : Around) (outer : List Env) (s : Shared) (H : Hp) (args : Args) (us : List Value) (vs : List V) (Q : VK) (E : XK), Room k A → A.guards = some [] → Env0 P w K mg base A outer s H →
    BindsTo s fd args (ps.zip us) → Vals vs us → sp vs H Q E → codeAny (model P w) A (.call (.ref f) args) (CR (L2.CX P w) outer P w H s Q E) s
theorem FnG.mono {P : Program} {w : World} {K : PySem.W.Frag} {mg : Str → Option Value} {base : Heap} {j k : Nat} {f : Addr} {fd : FuncData} {ps : List Str} {sp : Sp} (F : FnG P w K mg base j f fd ps sp) (h : j ≤ k) : FnG P w K mg base k f fd ps sp :=
  ⟨F.len, fun A outer s H args us vs Q E hr => F.run A outer s H args us vs Q E (hr.mono h)⟩
/-- a promise over trees, for the hand layer -/
def spD (K : PySem.W.Frag) (dsp : DSp) : Sp := fun vs H P G => ∃ ds S F Z Q E, Rel K Z H S F ∧ IsVs K F ds vs ∧ dsp ds S Q E ∧ (∀ v H', LftE K Z H F Q v H' → P v H') ∧ ∀ cls d H', LftX K Z H F E cls d H' → G cls d H'
theorem guards_make {A : Around} {C : Addr} {us : List Value} {kw : List (Str × Value)} (h : A.guards = some []) : (A.under (.builtin "type.__call__" ⟨.ref C :: us, kw⟩)).guards = some [] := by
  first
    | exact h
    | (simp only [Around.under]
       rw [show (Code.builtin "type.__call__" ⟨.ref C :: us, kw⟩).guards = [] from by simp [Code.guards, Code.isGuard, guardIds]]
       simp [pushGuards, h])
theorem guards_deeper {A : Around} {env : Env} (h : A.guards = some []) : (A.deeper env).guards = some [] := h
section
variable {X : Cx} {W : WX} {k : Nat} {f C : Addr} {fd : FuncData} {ps : List Str} {sp : Sp} {dvs : List V} {ds : List Value} {x m : Str} {p pos apos : Pos} {e o : Expr} {es : List Expr} {ta : TE} {t : TA}
/-- what is wanted behind a call that ended so -/
theorem call_end {pins : List (Addr × Obj)} {σ : L2.St} {H : Hp} {s : Shared} {Q : VK} (tk : Takes X W) (I : Inv X pins σ H s) {r : Result} {s' : Shared} (h : CR (L2.CX X.prog X.w) X.stack X.prog X.w H s Q (WE W σ) r s') :
    match r with
    | .ok (.ret u) => EP X pins σ Q u s'
    | .ok _ => False
    | .error e => X.xe e s' := by
  cases r with
  | error e => exact passAt tk σ pins H s e s' I h
  | ok fl =>
    cases fl with
    | ret u => exact I.after h
    | next => exact h
    | brk => exact h
    | cont => exact h
theorem run_fnG {pins : List (Addr × Obj)} {σ : L2.St} {H : Hp} {s : Shared} {Q : VK} {us : List Value} {vs : List V} (F : FnG X.prog X.w X.K X.mg X.base k f fd ps sp) (hr : Room k X.A) (hgd : X.A.guards = some []) (hb : Binds X.K fd ps ds) (hd : Vals dvs ds) (tk : Takes X W)
    (I : Inv X pins σ H s) (r : Vals vs us) (h : sp (vs ++ dvs) H Q (WE W σ)) : wpAny (model X.prog X.w) X.A (call (.ref f) us) (EP X pins σ Q) X.xe s := by
  have r2 := r.append hd
  have hl : (us ++ ds).length = ps.length := r2.length.symm.trans (F.len _ _ _ _ h)
  refine wpAny_call (codeAny_mono (F.run X.A X.stack s H ⟨us, []⟩ _ _ Q _ hr hgd I.env0 (hb s us I.kIn hl) r2 h) fun r s' hq => ?_)
  have := call_end tk I hq
  cases r with
  | error e => exact this
  | ok fl =>
    cases fl with
    | ret u => exact this
    | next => exact False.elim this
    | brk => exact False.elim this
    | cont => exact False.elim this
/-- with keywords -/
theorem run_fnkG {ks : List Str} {g : List Value → List Value → List Value} {gV : List V → List V → List V} {pins : List (Addr × Obj)} {σ : L2.St} {H : Hp} {s : Shared} {Q : VK} {us ws : List Value} {vs zs : List V} (F : FnG X.prog X.w X.K X.mg X.base k f fd ps sp) (hr : Room k X.A)
    (hgd : X.A.guards = some []) (hb : KBinds X.K fd ps ks g gV) (tk : Takes X W) (I : Inv X pins σ H s) (r : Vals vs us) (rz : Vals zs ws) (h : sp (gV vs zs) H Q (WE W σ)) : wpAny (model X.prog X.w) X.A (call (.ref f) us (ks.zip ws)) (EP X pins σ Q) X.xe s := by
  have r2 := hb.rel r rz
  have hl : (g us ws).length = ps.length := r2.length.symm.trans (F.len _ _ _ _ h)
  refine wpAny_call (codeAny_mono (F.run X.A X.stack s H ⟨us, ks.zip ws⟩ _ _ Q _ hr hgd I.env0 (hb.to s us ws I.kIn hl) r2 h) fun r s' hq => ?_)
  have := call_end tk I hq
  cases r with
  | error e => exact this
  | ok fl =>
    cases fl with
    | ret u => exact this
    | next => exact False.elim this
    | brk => exact False.elim this
    | cont => exact False.elim this
theorem pe_callG (F : FnG X.prog X.w X.K X.mg X.base k f fd ps sp) (hr : Room k X.A) (hgd : X.A.guards = some []) (hm : X.mg x = some (.ref f)) (hk : PySem.W.keepIn X.K (.ref f) = true) (hb : Binds X.K fd ps ds) (hd : Vals dvs ds) (tk : Takes X W) (ha : PA X (e :: es) t)
    (hg : Gl X x := by rfl) (hdb : (x == ("__debug__" : Str)) = false := by decide) (he : starEach (e :: es) X.env = (false, eval e X.env) :: starEach es X.env := by rfl) (hpl : (backTo pos (starEach es X.env)).any (·.1) = false := by rfl) :
    PE X (.Call (.Name x p) (e :: es) [] pos) (tCallSD sp dvs (WE W) t) :=
  ⟨fun pins s σ H Q I h => wpAny_Call_Name_kw (ld_glob I hg hm (PySem.W.callWith_K (h₀ := X.base) I.ok.mod.kin hk (thn (ha.run pos pins s σ H _ I h) fun us s1 ⟨vs, H1, I1, r, q⟩ => ⟨I1.kIn, run_fnG F hr hgd hb hd tk I1 r q⟩) he hpl) hdb)⟩
theorem pe_callG0 (F : FnG X.prog X.w X.K X.mg X.base k f fd ps sp) (hr : Room k X.A) (hgd : X.A.guards = some []) (hm : X.mg x = some (.ref f)) (hk : PySem.W.keepIn X.K (.ref f) = true) (hb : Binds X.K fd ps ds) (hd : Vals dvs ds) (tk : Takes X W)
    (hg : Gl X x := by rfl) (hdb : (x == ("__debug__" : Str)) = false := by decide) : PE X (.Call (.Name x p) [] [] pos) (tCallSD sp dvs (WE W) tNil) :=
  ⟨fun pins s σ H Q I h => wpAny_Call_Name_kw (ld_glob I hg hm (PySem.W.callWith_K0 I.kIn hk (run_fnG (us := []) F hr hgd hb hd tk I .nil h)) hdb)⟩
/-- f(a, .., k = v, ..) -/
theorem pe_callKG {ks : List Str} {kws : List Keyword} {tkw : TA} {g : List Value → List Value → List Value} {gV : List V → List V → List V} (F : FnG X.prog X.w X.K X.mg X.base k f fd ps sp) (hr : Room k X.A) (hgd : X.A.guards = some []) (hm : X.mg x = some (.ref f)) (hk : PySem.W.keepIn X.K (.ref f) = true)
    (hb : KBinds X.K fd ps ks g gV) (tk : Takes X W) (ha : PA X (e :: es) t) (hkw : PK X kws tkw) (hg : Gl X x := by rfl) (hall : (backToKw pos (keywordEach kws X.env)).all (·.1.isSome) = true := by rfl) (hks : (backToKw pos (keywordEach kws X.env)).filterMap (·.1) = ks := by rfl)
    (hdb : (x == ("__debug__" : Str)) = false := by decide) (he : starEach (e :: es) X.env = (false, eval e X.env) :: starEach es X.env := by rfl)
    (hpl : ((backTo pos (starEach (e :: es) X.env)).any (·.1) || (backToKw pos (keywordEach kws X.env)).any (·.1.isNone)) = false := by rfl) :
    PE X (.Call (.Name x p) (e :: es) kws pos) (fun σ H Q => t σ H fun vs H1 => tkw σ H1 fun zs H2 => sp (gV vs zs) H2 Q (WE W σ)) := by
  refine ⟨fun pins s σ H Q I h => wpAny_Call_Name_kw (ld_glob I hg hm ?_ hdb)⟩
  refine PySem.W.callWith_KW (h₀ := X.base) I.ok.mod.kin hk hall (thn (ha.run pos pins s σ H _ I h) fun us s1 ⟨vs, H1, I1, r, q⟩ => ?_) hpl he
  refine thn (hkw.run pos pins s1 σ H1 _ I1 q) fun ws s2 ⟨zs, H2, I2, rz, q2⟩ => ⟨I2.kIn, ?_⟩
  rw [hks]
  exact run_fnkG F hr hgd hb tk I2 r rz q2
/-- o.m(e, ..) of an instance -/
def tMethG (C : Addr) (m : Str) (sp : Sp) (dvs : List V) (E : L2.St → XK) (ta : TE) (t : TA) : TE := fun σ H Q => ta σ H fun x H1 => ∃ a dx fs, x = .ref a ∧ H1 a = some (.ins C dx fs) ∧ fs.lookup m = none ∧ t σ H1 fun vs H2 => sp (x :: (vs ++ dvs)) H2 Q (E σ)
theorem pe_methG {pl : Sem Bool} (he : PE X o ta) (c : Cls X.K C) (hm : Meth X.K C m f) (F : FnG X.prog X.w X.K X.mg X.base k f fd ps sp) (hr : Room k X.A) (hgd : X.A.guards = some []) (hb : Binds X.K fd ps ds) (hd : Vals dvs ds) (tk : Takes X W) (ha : PA X (e :: es) t)
    (hst : starEach (e :: es) X.env = (false, eval e X.env) :: starEach es X.env := by rfl) (hpl : (backTo pos (starEach es X.env)).any (·.1) = false := by rfl)
    (ht : eval (.Call (.Attribute o m apos) (e :: es) [] pos) X.env = (do
      let ov ← eval o X.env
      standAt apos.atName
      let (f, first) ← holding [ov] (getMethod ov m pl)
      callWith pos f first (backTo pos (starEach (e :: es) X.env)) (backToKw pos (keywordEach [] X.env))) := by rfl) : PE X (.Call (.Attribute o m apos) (e :: es) [] pos) (tMethG C m sp dvs (WE W) ta t) := by
  refine ⟨fun pins s σ H Q I h => PySem.W.methodCall_KW (pl := pl) (thn (he.run pins s σ H _ I h) fun u s1 ⟨x, H1, I1, rx, a, dx, fs, ex, ea, l, q⟩ => ?_) ht⟩
  subst ex
  cases rx
  refine getmeth_ok I1 ea c hm l (PySem.W.callWith_K (first := [.ref a]) (h₀ := X.base) I.ok.mod.kin hm.kp (thn (ha.run pos pins s1 σ H1 _ I1 q) fun us s2 ⟨vs, H2, I2, r, q2⟩ => ⟨I2.kIn, ?_⟩) hst hpl)
  exact run_fnG (us := .ref a :: us) (vs := .ref a :: vs) F hr hgd hb hd tk I2 (.cons rfl r) q2
theorem pe_methG0 {pl : Sem Bool} (he : PE X o ta) (c : Cls X.K C) (hm : Meth X.K C m f) (F : FnG X.prog X.w X.K X.mg X.base k f fd ps sp) (hr : Room k X.A) (hgd : X.A.guards = some []) (hb : Binds X.K fd ps ds) (hd : Vals dvs ds) (tk : Takes X W)
    (ht : eval (.Call (.Attribute o m apos) [] [] pos) X.env = (do
      let ov ← eval o X.env
      standAt apos.atName
      let (f, first) ← holding [ov] (getMethod ov m pl)
      callWith pos f first (backTo pos (starEach [] X.env)) (backToKw pos (keywordEach [] X.env))) := by rfl) : PE X (.Call (.Attribute o m apos) [] [] pos) (tMethG C m sp dvs (WE W) ta tNil) := by
  refine ⟨fun pins s σ H Q I h => PySem.W.methodCall_KW (pl := pl) (thn (he.run pins s σ H _ I h) fun u s1 ⟨x, H1, I1, rx, a, dx, fs, ex, ea, l, q⟩ => ?_) ht⟩
  subst ex
  cases rx
  exact getmeth_ok I1 ea c hm l (PySem.W.callWith_K0 (first := [.ref a]) I1.kIn hm.kp (run_fnG (us := [.ref a]) (vs := [.ref a]) F hr hgd hb hd tk I1 (.cons rfl .nil) q))
/-- C(e, ..) -/
def tMakeG (C : Addr) (sp : Sp) (dvs : List V) (E : L2.St → XK) (t : TA) : TE := fun σ H Q => t σ H fun vs H1 => ∀ x dx, H1 x = none → H1 dx = none → dx ≠ x →
  sp (.ref x :: (vs ++ dvs)) (upd (upd H1 dx (.own x)) x (.ins C dx [])) (fun v H2 => v = .non ∧ Q (.ref x) H2) (E σ)
theorem run_makeG {pins : List (Addr × Obj)} {σ : L2.St} {H : Hp} {s : Shared} {Q : VK} {us : List Value} {vs : List V} (M : Mk X.K C f) (F : FnG X.prog X.w X.K X.mg X.base k f fd ps sp) (hr : Room (k + 1) X.A) (hgd : X.A.guards = some []) (hb : Binds X.K fd ps ds) (hd : Vals dvs ds)
    (tk : Takes X W) (I : Inv X pins σ H s) (r : Vals vs us) (h : ∀ x dx, H x = none → H dx = none → dx ≠ x → sp (.ref x :: (vs ++ dvs)) (upd (upd H dx (.own x)) x (.ins C dx [])) (fun v H2 => v = .non ∧ Q (.ref x) H2) (WE W σ)) :
    wpAny (model X.prog X.w) X.A (call (.ref C) us) (EP X pins σ Q) X.xe s := by
  have hq := h (s.heap.objs.size + 1) s.heap.objs.size (I.hok.fresh (Nat.le_succ _)) (I.hok.fresh (Nat.le_refl _)) (Nat.ne_of_lt (Nat.lt_succ_self _))
  have J := Inv.made (C := C) I
  have r2 : Vals (V.ref (s.heap.objs.size + 1) :: (vs ++ dvs)) (Value.ref (s.heap.objs.size + 1) :: (us ++ ds)) := .cons rfl (r.append hd)
  have hl : (Value.ref (s.heap.objs.size + 1) :: us ++ ds).length = ps.length := r2.length.symm.trans (F.len _ _ _ _ hq)
  refine wpAny_call (make_map (f := f) I.kIn M.makes M.init (beq_iff_eq.mp M.fn) (codeAny_mono (F.run _ X.stack _ _ ⟨Value.ref (s.heap.objs.size + 1) :: us, []⟩ _ _ _ _ (hr.make C us []) (guards_make hgd) (J.env0.make C us []) (hb _ (Value.ref (s.heap.objs.size + 1) :: us) J.kIn hl) r2 hq) fun r s' hq' => ?_))
  have := call_end tk J hq'
  cases r with
  | error e => exact this
  | ok fl =>
    cases fl with
    | ret u =>
      obtain ⟨v, H', I3, rv, ev, q3⟩ := this
      subst ev
      exact ⟨rv, ⟨V.ref (s.heap.objs.size + 1), H', I3, rfl, q3⟩⟩
    | next => exact False.elim this
    | brk => exact False.elim this
    | cont => exact False.elim this
theorem pe_makeG (M : Mk X.K C f) (F : FnG X.prog X.w X.K X.mg X.base k f fd ps sp) (hr : Room (k + 1) X.A) (hgd : X.A.guards = some []) (hm : X.mg x = some (.ref C)) (hb : Binds X.K fd ps ds) (hd : Vals dvs ds) (tk : Takes X W) (ha : PA X (e :: es) t)
    (hg : Gl X x := by rfl) (hdb : (x == ("__debug__" : Str)) = false := by decide) (he : starEach (e :: es) X.env = (false, eval e X.env) :: starEach es X.env := by rfl) (hpl : (backTo pos (starEach es X.env)).any (·.1) = false := by rfl) :
    PE X (.Call (.Name x p) (e :: es) [] pos) (tMakeG C sp dvs (WE W) t) :=
  ⟨fun pins s σ H Q I h => wpAny_Call_Name_kw (ld_glob I hg hm (PySem.W.callWith_K (h₀ := X.base) I.ok.mod.kin M.kp (thn (ha.run pos pins s σ H _ I h) fun us s1 ⟨vs, H1, I1, r, q⟩ => ⟨I1.kIn, run_makeG M F hr hgd hb hd tk I1 r q⟩) he hpl) hdb)⟩
/-- x(e, ..), x a local name that holds the class C -/
theorem pe_makeLG {i : Nat} (M : Mk X.K C f) (F : FnG X.prog X.w X.K X.mg X.base k f fd ps sp) (hr : Room (k + 1) X.A) (hgd : X.A.guards = some []) (hx : PE X (.Name x p) (tVar i)) (hb : Binds X.K fd ps ds) (hd : Vals dvs ds) (tk : Takes X W) (ha : PA X (e :: es) t)
    (he : starEach (e :: es) X.env = (false, eval e X.env) :: starEach es X.env := by rfl) (hpl : (backTo pos (starEach es X.env)).any (·.1) = false := by rfl) :
    PE X (.Call (.Name x p) (e :: es) [] pos) (fun σ H Q => tVar i σ H fun v H1 => v = .ref C ∧ tMakeG C sp dvs (WE W) t σ H1 Q) := by
  refine ⟨fun pins s σ H Q I h => wpAny_Call_Name_kw (thn (hx.run pins s σ H _ I h) fun u s1 ⟨v, H1, I1, rv, ev, q1⟩ => ?_)⟩
  subst ev
  cases rv
  exact PySem.W.callWith_K (h₀ := X.base) I.ok.mod.kin M.kp (thn (ha.run pos pins s1 σ H1 _ I1 q1) fun us s2 ⟨vs, H2, I2, r, q⟩ => ⟨I2.kIn, run_makeG M F hr hgd hb hd tk I2 r q⟩) he hpl
end

/-! ### over trees -/
section
variable {X : Cx} {W : WX} {k : Nat} {f C : Addr} {fd : FuncData} {ps : List Str} {dsp : DSp} {dvs : List V} {dds : List D} {ds : List Value} {x m : Str} {p pos apos : Pos} {e o : Expr} {es : List Expr} {ta : DTE} {t : DTA}
def dCall (dsp : DSp) (dds : List D) (t : DTA) : DTE := fun ρ S Q E => t ρ S (fun xs S1 => dsp (xs ++ dds) S1 Q E) E
theorem lift_call (hdd : ∀ F, IsVs X.K F dds dvs) : ∀ σ H P, upE X.K W (dCall dsp dds t) σ H P → tCallSD (spD X.K dsp) dvs (WE W) (upA X.K W t) σ H P := fun σ H P ⟨ρ, S, F, Z, Q, E, R, V, q, k, x⟩ =>
  ⟨ρ, S, F, Z, _, E, R, V, q, fun vs H1 ⟨xs, S1, F1, A1, iv, q1⟩ => ⟨xs ++ dds, S1, F1, Z, Q, E, A1.rel, iv.append (hdd F1), q1, fun v H' h => k v H' (lftE_tr A1 h), fun cls d H' h => x cls d H' (lftX_tr A1 h)⟩, x⟩
abbrev FnD (P : Program) (w : World) (K : PySem.W.Frag) (mg : Str → Option Value) (base : Heap) (k : Nat) (f : Addr) (fd : FuncData) (ps : List Str) (dsp : DSp) : Prop := FnG P w K mg base k f fd ps (spD K dsp)
theorem de_call (F : FnD X.prog X.w X.K X.mg X.base k f fd ps dsp) (hr : Room k X.A) (hgd : X.A.guards = some []) (hm : X.mg x = some (.ref f)) (hk : PySem.W.keepIn X.K (.ref f) = true) (hb : Binds X.K fd ps ds) (hd : Vals dvs ds) (hdd : ∀ F, IsVs X.K F dds dvs) (tk : Takes X W) (ha : DA X W (e :: es) t)
    (hg : Gl X x := by rfl) (hdb : (x == ("__debug__" : Str)) = false := by decide) (he : starEach (e :: es) X.env = (false, eval e X.env) :: starEach es X.env := by rfl) (hpl : (backTo pos (starEach es X.env)).any (·.1) = false := by rfl) :
    DE X W (.Call (.Name x p) (e :: es) [] pos) (dCall dsp dds t) := de_pe (pe_callG F hr hgd hm hk hb hd tk ha.pa hg hdb he hpl) (lift_call hdd)
theorem de_call0 (F : FnD X.prog X.w X.K X.mg X.base k f fd ps dsp) (hr : Room k X.A) (hgd : X.A.guards = some []) (hm : X.mg x = some (.ref f)) (hk : PySem.W.keepIn X.K (.ref f) = true) (hb : Binds X.K fd ps ds) (hd : Vals dvs ds) (hdd : ∀ F, IsVs X.K F dds dvs) (tk : Takes X W)
    (hg : Gl X x := by rfl) (hdb : (x == ("__debug__" : Str)) = false := by decide) : DE X W (.Call (.Name x p) [] [] pos) (dCall dsp dds dNil) :=
  de_pe (pe_callG0 F hr hgd hm hk hb hd tk hg hdb) fun σ H P ⟨ρ, S, F, Z, Q, E, R, V, q, k, x⟩ => ⟨[] ++ dds, S, F, Z, Q, E, R, hdd F, q, k, x⟩
/-- a def without defaults -/
theorem de_callN (F : FnD X.prog X.w X.K X.mg X.base k f fd ps dsp) (hr : Room k X.A) (hgd : X.A.guards = some []) (hm : X.mg x = some (.ref f)) (hk : PySem.W.keepIn X.K (.ref f) = true) (hb : Binds X.K fd ps []) (tk : Takes X W) (ha : DA X W (e :: es) t)
    (hg : Gl X x := by rfl) (hdb : (x == ("__debug__" : Str)) = false := by decide) (he : starEach (e :: es) X.env = (false, eval e X.env) :: starEach es X.env := by rfl) (hpl : (backTo pos (starEach es X.env)).any (·.1) = false := by rfl) :
    DE X W (.Call (.Name x p) (e :: es) [] pos) (dCall dsp [] t) := de_call F hr hgd hm hk hb .nil (fun _ => .nil) tk ha hg hdb he hpl
/-- keywords -/
structure DK (X : Cx) (W : WX) (kws : List Keyword) (T : DTA) : Prop where
  pk : PK X kws (upA X.K W T)
theorem pk_imp {X : Cx} {e : List Keyword} {t t' : TA} (h : PK X e t) (i : ∀ σ H P, t' σ H P → t σ H P) : PK X e t' := ⟨fun pos pins s σ H Q I q => h.run pos pins s σ H Q I (i σ H Q q)⟩
theorem dk_nil : DK X W [] dNil := ⟨pk_imp pk_nil fun σ H P ⟨ρ, S, F, Z, Q, E, R, V, q, k, _⟩ => k [] H ⟨[], S, F, .refl R, .nil, q⟩⟩
theorem dk_cons {nm : Option Str} {kpos : Pos} {kws : List Keyword} {te : DTE} (ha : DE X W e te) (hr : DK X W kws t) : DK X W (⟨nm, e, kpos⟩ :: kws) (dCons te t) :=
  ⟨pk_imp (pk_cons ha.pe hr.pk) fun σ H P ⟨ρ, S, F, Z, Q, E, R, V, q, k, x⟩ => ⟨ρ, S, F, Z, _, E, R, V, q, fun v H1 ⟨d, S1, F1, A1, i1, q1⟩ =>
    ⟨ρ, S1, F1, Z, _, E, A1.rel, V.up A1.sm, q1, fun vs H2 ⟨ds, S2, F2, A2, i2, q2⟩ => k _ H2 ⟨d :: ds, S2, F2, A1.trans A2, .cons (i1.up A2.sm) i2, q2⟩, xe_tr x A1⟩, x⟩⟩
def dCallK (dsp : DSp) (gD : List D → List D → List D) (t tkw : DTA) : DTE := fun ρ S Q E => t ρ S (fun xs S1 => tkw ρ S1 (fun zs S2 => dsp (gD xs zs) S2 Q E) E) E
theorem de_callK {ks : List Str} {kws : List Keyword} {tkw : DTA} {g : List Value → List Value → List Value} {gV : List V → List V → List V} {gD : List D → List D → List D} (F : FnD X.prog X.w X.K X.mg X.base k f fd ps dsp) (hr : Room k X.A) (hgd : X.A.guards = some []) (hm : X.mg x = some (.ref f))
    (hk : PySem.W.keepIn X.K (.ref f) = true) (hb : KBinds X.K fd ps ks g gV) (hgD : ∀ F xs vs zs ws, IsVs X.K F xs vs → IsVs X.K F zs ws → IsVs X.K F (gD xs zs) (gV vs ws)) (tk : Takes X W) (ha : DA X W (e :: es) t) (hkw : DK X W kws tkw) (hg : Gl X x := by rfl)
    (hall : (backToKw pos (keywordEach kws X.env)).all (·.1.isSome) = true := by rfl) (hks : (backToKw pos (keywordEach kws X.env)).filterMap (·.1) = ks := by rfl) (hdb : (x == ("__debug__" : Str)) = false := by decide)
    (he : starEach (e :: es) X.env = (false, eval e X.env) :: starEach es X.env := by rfl) (hpl : ((backTo pos (starEach (e :: es) X.env)).any (·.1) || (backToKw pos (keywordEach kws X.env)).any (·.1.isNone)) = false := by rfl) :
    DE X W (.Call (.Name x p) (e :: es) kws pos) (dCallK dsp gD t tkw) :=
  de_pe (pe_callKG F hr hgd hm hk hb tk ha.pa hkw.pk hg hall hks hdb he hpl) fun σ H P ⟨ρ, S, F, Z, Q, E, R, V, q, k, x⟩ => ⟨ρ, S, F, Z, _, E, R, V, q, fun vs H1 ⟨xs, S1, F1, A1, iv, q1⟩ =>
    ⟨ρ, S1, F1, Z, _, E, A1.rel, V.up A1.sm, q1, fun ws H2 ⟨zs, S2, F2, A2, iw, q2⟩ => ⟨gD xs zs, S2, F2, Z, Q, E, A2.rel, hgD F2 _ _ _ _ (iv.up A2.sm) iw, q2, fun v H' h => k v H' (lftE_tr (A1.trans A2) h), fun cls d H' h => x cls d H' (lftX_tr (A1.trans A2) h)⟩, xe_tr x A1⟩, x⟩
/-- o.m(..), o an instance that is not written any more, or one of the store -/
def IsObj (C : Addr) (m : Str) (d : D) (S : Store) : Prop := (∃ ns ds, d = .obj C ns ds ∧ m ∉ ns) ∨ ∃ a ns ds, d = .ref a ∧ S a = some (.ins C ns ds) ∧ m ∉ ns
theorem lookup_notin {α : Type} {m : Str} : ∀ {fs : List (Str × α)}, m ∉ fs.map (·.1) → fs.lookup m = none
  | [], _ => rfl
  | (n, v) :: fs, h => by
    rw [List.lookup_cons]
    have h1 : (m == n) = false := by
      cases q : m == n with
      | false => rfl
      | true => exact absurd (by rw [eq_of_beq q]; exact List.mem_cons_self) h
    rw [h1]
    exact lookup_notin fun z => h (List.mem_cons_of_mem _ z)
theorem isObj_at {K : PySem.W.Frag} {Z : Addr → Prop} {H F : Hp} {S : Store} (R : Rel K Z H S F) {d : D} {v : V} (h : IsObj C m d S) (iv : IsV K F d v) : ∃ a dx fs, v = .ref a ∧ H a = some (.ins C dx fs) ∧ fs.lookup m = none := by
  rcases h with ⟨ns, ds, rfl, hn⟩ | ⟨a, ns, ds, rfl, hs, hn⟩
  · cases iv with
    | obj h1 h2 h3 =>
      subst h2
      exact ⟨_, _, _, rfl, (R.sub _ _ h1).1, lookup_notin hn⟩
  · cases iv
    obtain ⟨_, o, ho, dx, fs, e, e2, _⟩ := R.sto a _ hs
    subst e e2
    exact ⟨_, _, _, rfl, ho, lookup_notin hn⟩
def dMeth (C : Addr) (m : Str) (dsp : DSp) (dds : List D) (ta : DTE) (t : DTA) : DTE := fun ρ S Q E => ta ρ S (fun d S1 => IsObj C m d S1 ∧ t ρ S1 (fun xs S2 => dsp (d :: (xs ++ dds)) S2 Q E) E) E
theorem lift_meth (hdd : ∀ F, IsVs X.K F dds dvs) : ∀ σ H P, upE X.K W (dMeth C m dsp dds ta t) σ H P → tMethG C m (spD X.K dsp) dvs (WE W) (upE X.K W ta) (upA X.K W t) σ H P := fun σ H P ⟨ρ, S, F, Z, Q, E, R, V, q, k, x⟩ =>
  ⟨ρ, S, F, Z, _, E, R, V, q, fun v H1 ⟨d, S1, F1, A1, i1, ob, q1⟩ => by
    obtain ⟨a, dx, fs, rfl, e1, e2⟩ := isObj_at A1.rel ob i1
    exact ⟨a, dx, fs, rfl, e1, e2, ρ, S1, F1, Z, _, E, A1.rel, V.up A1.sm, q1, fun vs H2 ⟨xs, S2, F2, A2, iv, q2⟩ =>
      ⟨d :: (xs ++ dds), S2, F2, Z, Q, E, A2.rel, .cons (i1.up A2.sm) (iv.append (hdd F2)), q2, fun v H' h => k v H' (lftE_tr (A1.trans A2) h), fun cls d H' h => x cls d H' (lftX_tr (A1.trans A2) h)⟩, xe_tr x A1⟩, x⟩
theorem de_meth {pl : Sem Bool} (he : DE X W o ta) (c : Cls X.K C) (hm : Meth X.K C m f) (F : FnD X.prog X.w X.K X.mg X.base k f fd ps dsp) (hr : Room k X.A) (hgd : X.A.guards = some []) (hb : Binds X.K fd ps ds) (hd : Vals dvs ds) (hdd : ∀ F, IsVs X.K F dds dvs) (tk : Takes X W) (ha : DA X W (e :: es) t)
    (hst : starEach (e :: es) X.env = (false, eval e X.env) :: starEach es X.env := by rfl) (hpl : (backTo pos (starEach es X.env)).any (·.1) = false := by rfl)
    (ht : eval (.Call (.Attribute o m apos) (e :: es) [] pos) X.env = (do
      let ov ← eval o X.env
      standAt apos.atName
      let (f, first) ← holding [ov] (getMethod ov m pl)
      callWith pos f first (backTo pos (starEach (e :: es) X.env)) (backToKw pos (keywordEach [] X.env))) := by rfl) : DE X W (.Call (.Attribute o m apos) (e :: es) [] pos) (dMeth C m dsp dds ta t) :=
  de_pe (pe_methG he.pe c hm F hr hgd hb hd tk ha.pa hst hpl ht) (lift_meth hdd)
/-- C(..): the instance is not written any more behind __init__ -/
def dMake (C : Addr) (dsp : DSp) (dds : List D) (t : DTA) : DTE := fun ρ S Q E => t ρ S (fun xs S1 => ∀ a, S1 a = none → dsp (.ref a :: (xs ++ dds)) (put S1 a (.ins C [] [])) (fun d S2 => d = .non ∧ ∃ ns ds, S2 a = some (.ins C ns ds) ∧ Q (.obj C ns ds) (del S2 a)) E) E
theorem Rel.own_dict {K : PySem.W.Frag} {Z : Addr → Prop} {H F : Hp} {S : Store} (R : Rel K Z H S F) {p : Addr} {o : HO} (hp : H p = none) : Rel K Z (upd H p o) S F ∧ Keep Z H (upd H p o) := by
  have ne : ∀ {b u}, H b = some u → b ≠ p := fun e z => by rw [z, hp] at e; cases e
  exact ⟨⟨fun b u e => ⟨by rw [upd_ne (ne (R.sub b u e).1)]; exact (R.sub b u e).1, (R.sub b u e).2⟩, fun b m e => ⟨(R.sto b m e).1, let ⟨o, h1, h2⟩ := (R.sto b m e).2; ⟨o, by rw [upd_ne (ne h1)]; exact h1, h2⟩⟩,
    fun b z => let ⟨o, h⟩ := R.hid b z; ⟨o, by rw [upd_ne (ne h)]; exact h⟩⟩, fun b u _ e => by rw [upd_ne (ne e)]; exact e⟩
theorem lift_make (hdd : ∀ F, IsVs X.K F dds dvs) : ∀ σ H P, upE X.K W (dMake C dsp dds t) σ H P → tMakeG C (spD X.K dsp) dvs (WE W) (upA X.K W t) σ H P := fun σ H P ⟨ρ, S, F, Z, Q, E, R, V, q, k, x⟩ =>
  ⟨ρ, S, F, Z, _, E, R, V, q, fun vs H1 ⟨xs, S1, F1, A1, iv, q1⟩ a dx ha hdx ne => by
    obtain ⟨R2, k2⟩ := A1.rel.own_dict (o := .own a) hdx
    have ha2 : upd H1 dx (.own a) a = none := by rw [upd_ne (Ne.symm ne)]; exact ha
    obtain ⟨R3, k3, hS⟩ := R2.made (o := .ins C dx []) (m := .ins C [] []) ha2 ⟨dx, [], rfl, rfl, .nil⟩
    have A3 : Aft X.K Z H1 F1 _ _ F1 := ⟨Same.refl _, R3, k2.trans k3⟩
    refine ⟨.ref a :: (xs ++ dds), _, F1, Z, _, E, R3, .cons (.ref a) (iv.append (hdd F1)), q1 a hS, fun v H' ⟨d, S4, F4, A4, i4, hd4, ns, es, hs4, q4⟩ => ?_, fun cls d H' h => x cls d H' (lftX_tr (A1.trans A3) h)⟩
    subst hd4
    cases i4
    obtain ⟨o, ho, ⟨dx4, fs, e1, e2, iv4⟩, R5, s5⟩ := A4.rel.freeze hs4
    subst e1
    exact ⟨rfl, k _ _ ⟨.obj C ns es, _, _, A1.trans (A3.trans (A4.trans ⟨s5, R5, Keep.refl⟩)), .obj upd_same e2 (iv4.up s5), q4⟩⟩, x⟩
theorem de_make (M : Mk X.K C f) (F : FnD X.prog X.w X.K X.mg X.base k f fd ps dsp) (hr : Room (k + 1) X.A) (hgd : X.A.guards = some []) (hm : X.mg x = some (.ref C)) (hb : Binds X.K fd ps ds) (hd : Vals dvs ds) (hdd : ∀ F, IsVs X.K F dds dvs) (tk : Takes X W) (ha : DA X W (e :: es) t)
    (hg : Gl X x := by rfl) (hdb : (x == ("__debug__" : Str)) = false := by decide) (he : starEach (e :: es) X.env = (false, eval e X.env) :: starEach es X.env := by rfl) (hpl : (backTo pos (starEach es X.env)).any (·.1) = false := by rfl) :
    DE X W (.Call (.Name x p) (e :: es) [] pos) (dMake C dsp dds t) := de_pe (pe_makeG M F hr hgd hm hb hd tk ha.pa hg hdb he hpl) (lift_make hdd)
/-- cls(..), cls a local name that holds the class -/
theorem de_makeL {i : Nat} (M : Mk X.K C f) (F : FnD X.prog X.w X.K X.mg X.base k f fd ps dsp) (hr : Room (k + 1) X.A) (hgd : X.A.guards = some []) (hx : PE X (.Name x p) (tVar i)) (hb : Binds X.K fd ps ds) (hd : Vals dvs ds) (hdd : ∀ F, IsVs X.K F dds dvs) (tk : Takes X W) (ha : DA X W (e :: es) t)
    (he : starEach (e :: es) X.env = (false, eval e X.env) :: starEach es X.env := by rfl) (hpl : (backTo pos (starEach es X.env)).any (·.1) = false := by rfl) :
    DE X W (.Call (.Name x p) (e :: es) [] pos) (fun ρ S Q E => ρ[i]? = some (some (.ref C)) ∧ dMake C dsp dds t ρ S Q E) :=
  de_pe (pe_makeLG M F hr hgd hx hb hd tk ha.pa he hpl) fun σ H P ⟨ρ, S, F, Z, Q, E, R, V, ⟨hi, q⟩, k, x⟩ => by
    obtain ⟨v, e1, iv⟩ := V.2 i _ hi
    cases iv
    exact ⟨_, e1, rfl, lift_make hdd σ H P ⟨ρ, S, F, Z, Q, E, R, V, q, k, x⟩⟩
end

/-! ### a def of the text -/
section
variable {P : Program} {w : World} {K : PySem.W.Frag} {mg : Str → Option Value} {base : Heap}
/-- the wish of a def's body about exceptions -/
abbrev Wd (E : XK) : WX := fun cls d _ H => E cls d H
abbrev cxD (P : Program) (w : World) (K : PySem.W.Frag) (mg : Str → Option Value) (base : Heap) (N : List Str) (qual : Str) (scope : Scope) (f : Addr) (cd : Value) (A : Around) (outer : List Env) (s : Shared) (H : Hp) (E : XK) : Cx := cxOf (L2.CX P w) P w K mg base N qual scope f cd A outer s H E
theorem fn_ofG {k : Nat} {f : Addr} {x qual : Str} {st : Stmt} {fd : FuncData} {N ps : List Str} {sp : Sp} (F : Fun K x qual st f fd) (S : FnScope N ps (defScope st)) (len : ∀ vs H Q E, sp vs H Q E → vs.length = ps.length)
    (hbody : ∀ (cdv : Value) (A : Around) (outer : List Env) (s : Shared) (H : Hp) (vs : List V) (Q : VK) (E : XK), Room k (A.deeper (PyProof.Rows.envOfC qual (defScope st) s.heap.objs.size f cdv)) → A.guards = some [] → sp vs H Q E →
      ∃ t, PSs (cxD P w K mg base N qual (defScope st) f cdv A outer s H E) (defBody st) t ∧ t { nx := fun _ H' => Q .non H', rt := Q } (L2.start N vs) H) : FnG P w K mg base (k + 1) f fd ps sp := by
  obtain ⟨oc, od, kV, doc, pm, an, cdv, ct, osl, rfl, lk, hcd⟩ := F.ex
  refine ⟨len, fun A outer s H args us vs Q E hr hgd e0 hb r hsp => ?_⟩
  have KX : K.In s.heap := e0.mod.kin.keeps fun b o e => (e0.bs b o e).1
  have lim : s.heap.NoLimit := e0.mod.nolimit.keeps fun b o e => (e0.bs b o e).1
  refine codeAny_call_function hr.depth (KX _ _ lk) rfl S.co S.gen rfl (PySem.W.codeRec_of KX hcd) (hb _ _ _ _ ?_)
  refine wpAny_newFunctionEnv_cells S.kind (fun ⟨n, v⟩ hy => ?_) fun env he s1 x1 => ?_
  · rcases S.par n (List.of_mem_zip hy).1 with q | q
    · exact .inl q
    · exact .inr ⟨q, PySem.W.cellsFrom_some _ _ _ (.inl q)⟩
  subst he
  refine ⟨lim.keeps x1.toInCall.keep, codeAny_func ?_⟩
  obtain ⟨t, ht, hq⟩ := hbody cdv A outer s H vs Q E (hr.deeper _) hgd hsp
  have I := inv_start (CX := L2.CX P w) (P := P) (w := w) (E := E) S hr.hd e0 (len _ _ _ _ hsp) r x1
  refine wpAny_mono (ht.run [] s1 (L2.start N vs) H _ I hq) (fun fl s' hs => ?_) fun e s' hs => hs
  cases fl with
  | ret u =>
    obtain ⟨v, σ', H', J, rv, q⟩ := hs
    exact ⟨v, H', J.os, J.bare, J.base, J.hok, rv, q⟩
  | next =>
    obtain ⟨σ', H', J, q⟩ := hs
    exact ⟨V.non, H', J.os, J.bare, J.base, J.hok, rfl, q⟩
  | brk =>
    obtain ⟨_, _, _, q⟩ := hs
    exact False.elim q
  | cont =>
    obtain ⟨_, _, _, q⟩ := hs
    exact False.elim q
def startD (N : List Str) (ds : List D) : Sl := ds.map some ++ List.replicate (N.length - ds.length) none
theorem envR_start {F : Hp} {N : List Str} {ds : List D} {vs : List V} (h : IsVs K F ds vs) : EnvR K F (startD N ds) (L2.start N vs) := by
  unfold startD L2.start
  refine ⟨by simp [h.length], fun i d e => ?_⟩
  by_cases hi : i < ds.length
  · rw [List.getElem?_append_left (by simpa using hi), List.getElem?_map] at e
    cases q : ds[i]? with
    | none => rw [q] at e; cases e
    | some d' =>
      rw [q] at e
      cases e
      obtain ⟨v, e1, iv⟩ := h.get q
      refine ⟨v, ?_, iv⟩
      rw [List.getElem?_append_left (by rw [List.length_map, ← h.length]; exact hi), List.getElem?_map, e1]
      rfl
  · rw [List.getElem?_append_right (by simpa using hi), List.getElem?_replicate] at e
    split at e <;> cases e
/-- THE RULE for a def: the body's derivation, and its reading -/
theorem fn_ofD {k : Nat} {f : Addr} {x qual : Str} {st : Stmt} {fd : FuncData} {N ps : List Str} {dsp : DSp} (F : Fun K x qual st f fd) (S : FnScope N ps (defScope st)) (T : DTS)
    (hbody : ∀ (cdv : Value) (A : Around) (outer : List Env) (s : Shared) (H : Hp) (E : XK), Room k (A.deeper (PyProof.Rows.envOfC qual (defScope st) s.heap.objs.size f cdv)) → (A.deeper (PyProof.Rows.envOfC qual (defScope st) s.heap.objs.size f cdv)).guards = some [] →
      Takes (cxD P w K mg base N qual (defScope st) f cdv A outer s H E) (Wd E) → PassesOwn (model P w) (A.deeper (PyProof.Rows.envOfC qual (defScope st) s.heap.objs.size f cdv)) (PyProof.Rows.envOfC qual (defScope st) s.heap.objs.size f cdv) (cxD P w K mg base N qual (defScope st) f cdv A outer s H E).xe →
      DSs (cxD P w K mg base N qual (defScope st) f cdv A outer s H E) (Wd E) (defBody st) T)
    (len : ∀ ds S Q E, dsp ds S Q E → ds.length = ps.length) (read : ∀ ds S Q E, dsp ds S Q E → T { nx := fun _ S' => Q .non S', rt := Q, ex := fun _ => E } (startD N ds) S) : FnD P w K mg base (k + 1) f fd ps dsp := by
  refine fn_ofG F S (fun vs H Q E ⟨ds, S, Fz, Z, Qd, Ed, R, iv, q, _⟩ => by rw [← iv.length]; exact len _ _ _ _ q) fun cdv A outer s H vs Q E hr hgd ⟨ds, Sd, Fz, Z, Qd, Ed, R, iv, q, k1, k2⟩ => ?_
  refine ⟨_, (hbody cdv A outer s H E hr (guards_deeper hgd) (takes_of rfl rfl rfl rfl) (passes_of rfl)).pss, ?_⟩
  refine ⟨startD N ds, Sd, Fz, Z, _, R, envR_start iv, read ds Sd Qd Ed q, ⟨fun σ' H' ⟨ρ', S', F', A', _, q'⟩ => k1 _ _ ⟨.non, S', F', A', .non, q'⟩, fun v H' h => k1 v H' h, fun _ _ ⟨_, _, _, _, _, z⟩ => z.elim, fun _ _ ⟨_, _, _, _, _, z⟩ => z.elim, fun cls d σ' H' ⟨C, ns, ds', ρ', S', F', e, A', _, xr, q'⟩ => k2 cls d H' ⟨C, ns, ds', S', F', e, A', xr, q'⟩⟩⟩
end
end DL

set_option maxRecDepth 100000
set_option maxHeartbeats 1000000
/-! DL, built-in calls, methods of lists, dicts, fields. -/
namespace DL
open PySem PySem.Spec L2
section
variable {K : PySem.W.Frag} {Z : Addr → Prop} {H F : Hp} {S : Store}

/-! ### isinstance -/
def tyM : Option M → Option String
  | some (.lst _) => some "list"
  | some (.dK _ _) => some "dict"
  | some (.dT _ _) => some "dict"
  | _ => none
def tyD (S : Store) : D → Option String
  | .non => some "NoneType"
  | .bl _ => some "bool"
  | .int _ => some "int"
  | .str _ => some "str"
  | .tup _ => some "tuple"
  | .lst _ => some "list"
  | .scr _ => some "list"
  | .dK _ _ => some "dict"
  | .dT _ _ => some "dict"
  | .ref a => tyM (S a)
  | _ => none
def isB (t n : String) : Bool := t == n || (t == "bool" && n == "int")
def tyOut : List String := ["NoneType", "bool", "int", "str", "tuple", "list", "dict"]
def tyIn : List String := ["bool", "int", "str", "tuple", "list", "dict"]
theorem kit_all : (tyOut.all fun t => tyIn.all fun n => kitB t n == some (isB t n)) = true := by decide +kernel
theorem tyD_out {S : Store} {d : D} {t : String} (e : tyD S d = some t) : t ∈ tyOut := by
  cases d with
  | ref a =>
    have e : tyM (S a) = some t := e
    cases q : S a with
    | none => rw [q] at e; cases e
    | some m => cases m <;> rw [q] at e <;> cases e <;> decide
  | ty _ => cases e
  | obj _ _ _ => cases e
  | kup _ => cases e
  | _ => cases e; decide
theorem kit_is {t n : String} (ht : t ∈ tyOut) (hn : n ∈ tyIn) : kitB t n = some (isB t n) := by
  have h := List.all_eq_true.mp (List.all_eq_true.mp kit_all t ht) n hn
  exact eq_of_beq h
theorem tyX_of (R : Rel K Z H S F) {d : D} {v : V} {t : String} (iv : IsV K F d v) (e : tyD S d = some t) : TyX K H v (.type t) := by
  cases iv with
  | non => cases e; exact .base .non
  | bl b => cases e; exact .base (.bl b)
  | int b => cases e; exact .base (.int b)
  | str b => cases e; exact .base (.str b)
  | ty n => cases e
  | tup h1 h2 => cases e; exact .base (.tup (R.sub _ _ h1).1)
  | kup h1 h0 h2 => cases e
  | lst h1 h2 => cases e; exact .base (.lst (R.sub _ _ h1).1)
  | scr h1 h2 =>
    cases e
    rcases R.sql h1 with (h | ⟨o, h⟩) | ⟨o, _, _, h, c, _⟩
    · exact .base (.lst h)
    · exact .base (.frz h)
    · exact .kList h c
  | dK h1 h2 h3 => cases e; exact .base (.dK (R.sub _ _ h1).1)
  | dT h1 h2 h3 => cases e; exact .base (.dT (R.sub _ _ h1).1)
  | obj h1 h2 h3 => cases e
  | ref a =>
    have e : tyM (S a) = some t := e
    cases q : S a with
    | none => rw [q] at e; cases e
    | some m =>
      obtain ⟨_, o, ho, r⟩ := R.sto a m q
      cases m with
      | lst ds =>
        rw [q] at e
        cases e
        obtain ⟨vs, rfl, _⟩ := r
        exact .base (.lst ho)
      | dK ks ds =>
        rw [q] at e
        cases e
        obtain ⟨vs, rfl, _⟩ := r
        exact .base (.dK ho)
      | dT ks ds =>
        rw [q] at e
        cases e
        obtain ⟨vs, rfl, _⟩ := r
        exact .base (.dT ho)
      | ins C ns ds => rw [q] at e; cases e
      | xd ns ds => rw [q] at e; cases e
def rdIsi : DRL := fun xs S Q => ∃ x n t, xs = [x, .ty n] ∧ tyD S x = some t ∧ n ∈ tyIn ∧ Q (.bl (isB t n)) S
theorem lift_isi : LiftL K (rIsi K) rdIsi := by
  intro Z H S F x v Q P R iv ⟨x, n, t, hx, ht, hn, q⟩ k
  subst hx
  cases iv with
  | cons h1 h2 =>
    cases h2 with
    | cons h2 h3 =>
      cases h3
      cases h2
      exact ⟨_, _, _, _, _, rfl, .ty n, tyX_of R h1 ht, kit_ty (kit_is (tyD_out ht) hn), k _ _ ⟨_, S, F, .refl R, .bl _, q⟩⟩

/-! ### all, any, tuple, list, int, sorted -/
theorem isVs_bls_inv : ∀ {ns : List Bool} {vs : List V}, IsVs K F (ns.map D.bl) vs → vs = ns.map V.bl
  | [], _, h => by cases h; rfl
  | n :: r, _, h => by
    cases h with
    | cons h1 h2 =>
      cases h1
      rw [isVs_bls_inv h2]
      rfl
theorem isVs_one {d : D} {vs : List V} (h : IsVs K F [d] vs) : ∃ v, vs = [v] ∧ IsV K F d v := by
  cases h with
  | cons h1 h2 => cases h2; exact ⟨_, rfl, h1⟩
theorem isVs_two {d e : D} {vs : List V} (h : IsVs K F [d, e] vs) : ∃ v w, vs = [v, w] ∧ IsV K F d v ∧ IsV K F e w := by
  cases h with
  | cons h1 h2 =>
    obtain ⟨w, rfl, h3⟩ := isVs_one h2
    exact ⟨_, _, rfl, h1, h3⟩
def rdAll : DRL := fun xs S Q => ∃ bs : List Bool, xs = [.lst (bs.map .bl)] ∧ Q (.bl (bs.all id)) S
theorem lift_all : LiftL K (rAll K) rdAll := by
  intro Z H S F x v Q P R iv ⟨bs, hx, q⟩ k
  subst hx
  obtain ⟨v, rfl, iw⟩ := isVs_one iv
  cases iw with
  | lst h1 h2 =>
    rw [isVs_bls_inv h2] at h1
    exact ⟨_, bs, rfl, SqL.of (R.sub _ _ h1).1, k _ _ ⟨_, S, F, .refl R, .bl _, q⟩⟩
def rdAny : DRL := fun xs S Q => ∃ bs : List Bool, xs = [.lst (bs.map .bl)] ∧ Q (.bl (bs.any id)) S
theorem lift_any : LiftL K (rAny K) rdAny := by
  intro Z H S F x v Q P R iv ⟨bs, hx, q⟩ k
  subst hx
  obtain ⟨v, rfl, iw⟩ := isVs_one iv
  cases iw with
  | lst h1 h2 =>
    rw [isVs_bls_inv h2] at h1
    exact ⟨_, bs, rfl, SqL.of (R.sub _ _ h1).1, k _ _ ⟨_, S, F, .refl R, .bl _, q⟩⟩
/-- the items of a list, of a list or a tuple -/
def lstM : Option M → Option (List D)
  | some (.lst ds) => some ds
  | _ => none
def lstD (S : Store) : D → Option (List D)
  | .lst ds => some ds
  | .scr ds => some ds
  | .ref a => lstM (S a)
  | _ => none
def itemsD (S : Store) : D → Option (List D)
  | .tup ds => some ds
  | .lst ds => some ds
  | .scr ds => some ds
  | .ref a => lstM (S a)
  | _ => none
theorem lst_of (R : Rel K Z H S F) {d : D} {v : V} {ds : List D} (iv : IsV K F d v) (e : lstD S d = some ds) : ∃ p vs, v = .ref p ∧ SqL K H p vs ∧ IsVs K F ds vs := by
  cases iv with
  | lst h1 h2 => cases e; exact ⟨_, _, rfl, SqL.of (R.sub _ _ h1).1, h2⟩
  | scr h1 h2 => cases e; exact ⟨_, _, rfl, R.sql h1, h2⟩
  | ref a =>
    have e : lstM (S a) = some ds := e
    cases q : S a with
    | none => rw [q] at e; cases e
    | some m =>
      obtain ⟨_, o, ho, r⟩ := R.sto a m q
      cases m with
      | lst ds =>
        rw [q] at e
        cases e
        obtain ⟨vs, rfl, h⟩ := r
        exact ⟨_, _, rfl, SqL.of ho, h⟩
      | _ => rw [q] at e; cases e
  | _ => cases e
theorem items_cases {S : Store} {d : D} {ds : List D} (e : itemsD S d = some ds) : d = .tup ds ∨ lstD S d = some ds := by
  cases d with
  | tup es => cases e; exact .inl rfl
  | lst es => exact .inr e
  | scr es => exact .inr e
  | ref a => exact .inr e
  | _ => cases e
theorem items_of (R : Rel K Z H S F) {d : D} {v : V} {ds : List D} (iv : IsV K F d v) (e : itemsD S d = some ds) : ∃ p vs, v = .ref p ∧ (SqL K H p vs ∨ SqT K H p vs) ∧ IsVs K F ds vs := by
  rcases items_cases e with rfl | e
  · cases iv with
    | tup h1 h2 => exact ⟨_, _, rfl, .inr (SqT.of (R.sub _ _ h1).1), h2⟩
  · obtain ⟨p, vs, e1, h, iv2⟩ := lst_of R iv e
    exact ⟨p, vs, e1, .inl h, iv2⟩
def rdTuple : DRL := fun xs S Q => ∃ d ds, xs = [d] ∧ itemsD S d = some ds ∧ Q (.tup ds) S
theorem lift_tuple : LiftL K (fun xs H Q => ∃ p ys, xs = [.ref p] ∧ ((SqL K H p ys ∧ ∀ l, H l = none → Q (.ref l) (upd H l (.tup ys))) ∨ (SqT K H p ys ∧ Q (.ref p) H))) rdTuple := by
  intro Z H S F x v Q P R iv ⟨d, ds, hx, hd, q⟩ k
  subst hx
  obtain ⟨v, rfl, iw⟩ := isVs_one iv
  rcases items_cases hd with rfl | hd
  · cases iw with
    | tup h1 h2 => exact ⟨_, _, rfl, .inr ⟨SqT.of (R.sub _ _ h1).1, k _ _ ⟨_, S, F, .refl R, .tup h1 h2, q⟩⟩⟩
  · obtain ⟨p, vs, rfl, hs, iv2⟩ := lst_of R iw hd
    exact ⟨_, _, rfl, .inl ⟨hs, fun l hl => by
      obtain ⟨R2, s2, k2⟩ := R.laid (o := .tup vs) hl
      exact k _ _ ⟨_, S, _, ⟨s2, R2, k2⟩, .tup upd_same (iv2.up s2), q⟩⟩⟩
/-- list(x), not written any more; list(x) of the store -/
def rdList : DRL := fun xs S Q => ∃ d ds, xs = [d] ∧ itemsD S d = some ds ∧ Q (.lst ds) S
def rdListM : DRL := fun xs S Q => ∃ d ds, xs = [d] ∧ itemsD S d = some ds ∧ ∀ a, S a = none → Q (.ref a) (put S a (.lst ds))
def rListOf (K : PySem.W.Frag) : List V → Hp → VK → Prop := fun xs H Q => ∃ p ys, xs = [.ref p] ∧ (SqL K H p ys ∨ SqT K H p ys) ∧ ∀ l, H l = none → Q (.ref l) (upd H l (.lst ys))
theorem lift_list : LiftL K (rListOf K) rdList := by
  intro Z H S F x v Q P R iv ⟨d, ds, hx, hd, q⟩ k
  subst hx
  obtain ⟨v, rfl, iw⟩ := isVs_one iv
  obtain ⟨p, vs, rfl, hs, iv2⟩ := items_of R iw hd
  exact ⟨_, _, rfl, hs, fun l hl => by
    obtain ⟨R2, s2, k2⟩ := R.laid (o := .lst vs) hl
    exact k _ _ ⟨_, S, _, ⟨s2, R2, k2⟩, .lst upd_same (iv2.up s2), q⟩⟩
theorem lift_listM : LiftL K (rListOf K) rdListM := by
  intro Z H S F x v Q P R iv ⟨d, ds, hx, hd, q⟩ k
  subst hx
  obtain ⟨v, rfl, iw⟩ := isVs_one iv
  obtain ⟨p, vs, rfl, hs, iv2⟩ := items_of R iw hd
  exact ⟨_, _, rfl, hs, fun l hl => by
    obtain ⟨R2, k2, hS⟩ := R.made (o := .lst vs) (m := .lst ds) hl ⟨vs, rfl, iv2⟩
    exact k _ _ ⟨.ref l, _, F, ⟨Same.refl _, R2, k2⟩, .ref l, q l hS⟩⟩
/-- int(i) -/
def rdInt1 : DRL := fun xs S Q => ∃ i, xs = [.int i] ∧ Q (.int i) S
theorem lift_int1 : LiftL K (fun xs H Q => (∃ i, xs = [.int i] ∧ Q (.int i) H) ∨ ∃ k, xs = [.bl k] ∧ Q (.int (if k then 1 else 0)) H) rdInt1 := by
  intro Z H S F x v Q P R iv ⟨i, hx, q⟩ k
  subst hx
  obtain ⟨v, rfl, iw⟩ := isVs_one iv
  cases iw
  exact .inl ⟨i, rfl, k _ _ ⟨_, S, F, .refl R, .int i, q⟩⟩
/-- sorted(xs) of ints, of texts -/
def rdSorted : DRL := fun xs S Q => ∃ (d : D) (ns : List Int), xs = [d] ∧ lstD S d = some (ns.map .int) ∧ ns.length < 64 ∧ ∀ ns' : List Int, ns'.Perm ns → ns'.Pairwise (· ≤ ·) → Q (.lst (ns'.map .int)) S
theorem lift_sorted : LiftL K (rSorted K) rdSorted := by
  intro Z H S F x v Q P R iv ⟨d, ns, hx, hd, z, q⟩ k
  subst hx
  obtain ⟨v, rfl, iw⟩ := isVs_one iv
  obtain ⟨p, vs, rfl, hs, iv2⟩ := lst_of R iw hd
  rw [isVs_ints_inv iv2] at hs
  exact ⟨_, ns, rfl, hs, z, fun ns' l p1 p2 hl => by
    obtain ⟨R2, s2, k2⟩ := R.laid (o := .lst (ns'.map V.int)) hl
    exact k _ _ ⟨_, S, _, ⟨s2, R2, k2⟩, .lst upd_same (isVs_ints ns'), q ns' p1 p2⟩⟩
def rdSortedS : DRL := fun xs S Q => ∃ (d : D) (ns : List Str), xs = [d] ∧ lstD S d = some (ns.map .str) ∧ ns.length < 64 ∧ ∀ ns' : List Str, ns'.Perm ns → PyProof.Rows.sortedS ns' = true → Q (.lst (ns'.map .str)) S
theorem lift_sortedS : LiftL K (rSortedS K) rdSortedS := by
  intro Z H S F x v Q P R iv ⟨d, ns, hx, hd, z, q⟩ k
  subst hx
  obtain ⟨v, rfl, iw⟩ := isVs_one iv
  obtain ⟨p, vs, rfl, hs, iv2⟩ := lst_of R iw hd
  rw [isVs_strs_inv iv2] at hs
  exact ⟨_, ns, rfl, hs, z, fun ns' l p1 p2 hl => by
    obtain ⟨R2, s2, k2⟩ := R.laid (o := .lst (ns'.map V.str)) hl
    exact k _ _ ⟨_, S, _, ⟨s2, R2, k2⟩, .lst upd_same (isVs_strs ns'), q ns' p1 p2⟩⟩
end

/-! ### methods of a list of the store -/
section
variable {X : Cx} {W : WX} {o e : Expr} {es : List Expr} {to te : DTE} {t : DTA} {name : Str} {apos cpos pos : Pos} {id : String}
theorem IsVs.dropLast {K : PySem.W.Frag} {F : Hp} : ∀ {ds : List D} {vs : List V}, IsVs K F ds vs → IsVs K F ds.dropLast vs.dropLast
  | _, _, .nil => .nil
  | _, _, .cons h .nil => .nil
  | _, _, .cons h (.cons g t) => .cons h (IsVs.dropLast (.cons g t))
abbrev DRA := Addr → List D → List D → Store → DQ → Prop
def LiftA (K : PySem.W.Frag) (r : V → List V → Hp → VK → Prop) (rd : DRA) : Prop := ∀ Z H S F a ds xs vs Q P, Rel K Z H S F → S a = some (.lst ds) → IsVs K F xs vs → rd a ds xs S Q → (∀ v' H', LftE K Z H F Q v' H' → P v' H') → r (.ref a) vs H P
def dMt (rd : DRA) (to : DTE) (t : DTA) : DTE := fun ρ S Q E => to ρ S (fun x S1 => ∃ a, x = .ref a ∧ (∃ ds, S1 a = some (.lst ds)) ∧ t ρ S1 (fun xs S2 => ∃ ds, S2 a = some (.lst ds) ∧ rd a ds xs S2 Q) E) E
theorem lift_mt {r : V → List V → Hp → VK → Prop} {rd : DRA} (l : LiftA X.K r rd) : ∀ σ H P, upE X.K W (dMt rd to t) σ H P → tBM X.K "list" r (upE X.K W to) (upA X.K W t) σ H P := fun σ H P ⟨ρ, S, F, Z, Q, E, R, V, q, k, x⟩ =>
  ⟨ρ, S, F, Z, _, E, R, V, q, fun v H1 ⟨d, S1, F1, A1, i1, a, hd, ⟨ds, hs⟩, q1⟩ => by
    subst hd
    cases i1
    obtain ⟨_, o, ho, vs, e, _⟩ := A1.rel.sto a _ hs
    subst e
    exact ⟨.inl ⟨rfl, vs, SqL.of ho⟩, ρ, S1, F1, Z, _, E, A1.rel, V.up A1.sm, q1, fun ws H2 ⟨es, S2, F2, A2, i2, ds2, hs2, q2⟩ => l Z H2 S2 F2 a ds2 es ws Q P A2.rel hs2 i2 q2 fun v' H' ⟨d', S', F', A3, i3, q3⟩ => k v' H' ⟨d', S', F', A1.trans (A2.trans A3), i3, q3⟩, xe_tr x A1⟩, x⟩
theorem lift_mt0 {r : V → List V → Hp → VK → Prop} {rd : DRA} (l : LiftA X.K r rd) : ∀ σ H P, upE X.K W (dMt rd to dNil) σ H P → tBM0 X.K "list" r (upE X.K W to) σ H P := fun σ H P ⟨ρ, S, F, Z, Q, E, R, V, q, k, x⟩ =>
  ⟨ρ, S, F, Z, _, E, R, V, q, fun v H1 ⟨d, S1, F1, A1, i1, a, hd, ⟨ds, hs⟩, ds2, hs2, q2⟩ => by
    subst hd
    cases i1
    obtain ⟨_, o, ho, vs, e, _⟩ := A1.rel.sto a _ hs
    subst e
    exact ⟨.inl ⟨rfl, vs, SqL.of ho⟩, l Z H1 S1 F1 a ds2 [] [] Q P A1.rel hs2 .nil q2 fun v' H' ⟨d', S', F', A3, i3, q3⟩ => k v' H' ⟨d', S', F', A1.trans A3, i3, q3⟩⟩, x⟩
theorem de_mt {r : V → List V → Hp → VK → Prop} {rd : DRA} (l : LiftA X.K r rd) (slot : Slot "list" name id) (hty : typeOf (.builtin id) = pure (.type "method_descriptor")) (hm : MtR X id r) (ho : DE X W o to) (ha : DA X W (e :: es) t)
    (hbase : attributeBase o name X.env (eval o X.env) = eval o X.env := by rfl)
    (hfew : ((backTo cpos (starEach (e :: es) X.env)).all (fun x => !x.1) && (backToKw cpos (keywordEach [] X.env)).all (fun x => x.1.isSome)
      && decide ((e :: es).length + ([] : List Keyword).length + (if ([] : List Keyword).isEmpty then 0 else 1) < 30)) = true := by rfl)
    (hline : (apos.endLine == cpos.line) = true := by rfl) (hs : starEach (e :: es) X.env = (false, eval e X.env) :: starEach es X.env := by rfl) (hplain : (backTo cpos (starEach es X.env)).any (·.1) = false := by rfl) :
    DE X W (.Call (.Attribute o name apos) (e :: es) [] cpos) (dMt rd to t) := de_pe (pe_bm F.plainAttrs_list slot hty hm ho.pe ha.pa hbase hfew hline hs hplain) (lift_mt l)
theorem de_mt0 {r : V → List V → Hp → VK → Prop} {rd : DRA} (l : LiftA X.K r rd) (slot : Slot "list" name id) (hty : typeOf (.builtin id) = pure (.type "method_descriptor")) (hm : MtR X id r) (ho : DE X W o to)
    (hbase : attributeBase o name X.env (eval o X.env) = eval o X.env := by rfl) (hline : (apos.endLine == cpos.line) = true := by rfl) : DE X W (.Call (.Attribute o name apos) [] [] cpos) (dMt rd to dNil) := de_pe (pe_bm0 F.plainAttrs_list slot hty hm ho.pe hbase hline) (lift_mt0 l)
def rdAppend : DRA := fun a ds xs S Q => ∃ d, xs = [d] ∧ ds.length < sizeLine ∧ Q .non (put S a (.lst (ds ++ [d])))
theorem lift_append {K : PySem.W.Frag} : LiftA K rAppend rdAppend := by
  intro Z H S F a ds xs vs Q P R hs iv ⟨d, hx, z, q⟩ k
  subst hx
  obtain ⟨v, rfl, iw⟩ := isVs_one iv
  obtain ⟨_, o, ho, us, e, h2⟩ := R.sto a _ hs
  subst e
  obtain ⟨R2, k2⟩ := R.wrote (o := .lst (us ++ [v])) (m := .lst (ds ++ [d])) hs ⟨_, rfl, h2.append (.cons iw .nil)⟩
  exact ⟨a, us, v, rfl, rfl, ho, by rw [← h2.length]; exact z, k _ _ ⟨.non, _, F, ⟨Same.refl _, R2, k2⟩, .non, q⟩⟩
def rdPop : DRA := fun a ds xs S Q => ∃ d, xs = [] ∧ ds[ds.length - 1]? = some d ∧ Q d (put S a (.lst ds.dropLast))
theorem lift_pop {K : PySem.W.Frag} : LiftA K rPop rdPop := by
  intro Z H S F a ds xs vs Q P R hs iv ⟨d, hx, z, q⟩ k
  subst hx
  cases iv
  obtain ⟨_, o, ho, us, e, h2⟩ := R.sto a _ hs
  subst e
  obtain ⟨v, e1, iv⟩ := h2.get z
  obtain ⟨R2, k2⟩ := R.wrote (o := .lst us.dropLast) (m := .lst ds.dropLast) hs ⟨_, rfl, h2.dropLast⟩
  exact ⟨a, us, v, rfl, rfl, ho, by rw [← h2.length]; exact e1, k _ _ ⟨d, _, F, ⟨Same.refl _, R2, k2⟩, iv, q⟩⟩
def rdPopAt : DRA := fun a ds xs S Q => ∃ i k d, xs = [.int i] ∧ -(2 ^ 63) ≤ i ∧ i < 2 ^ 63 ∧ seqIndex? i ds.length = some k ∧ ds[k]? = some d ∧ Q d (put S a (.lst (ds.eraseIdx k)))
theorem lift_popAt {K : PySem.W.Frag} : LiftA K rPopAt rdPopAt := by
  intro Z H S F a ds xs vs Q P R hs iv ⟨i, j, d, hx, z1, z2, hj, hd, q⟩ k
  subst hx
  obtain ⟨v, rfl, iw⟩ := isVs_one iv
  cases iw
  obtain ⟨_, o, ho, us, e, h2⟩ := R.sto a _ hs
  subst e
  obtain ⟨v, e1, iw⟩ := h2.get hd
  obtain ⟨R2, k2⟩ := R.wrote (o := .lst (us.eraseIdx j)) (m := .lst (ds.eraseIdx j)) hs ⟨_, rfl, h2.eraseIdx j⟩
  exact ⟨a, us, i, j, v, rfl, rfl, ho, z1, z2, by rw [← h2.length]; exact hj, e1, k _ _ ⟨d, _, F, ⟨Same.refl _, R2, k2⟩, iw, q⟩⟩
theorem de_append (ho : DE X W o to) (ha : DE X W e te) (hbase : attributeBase o "append" X.env (eval o X.env) = eval o X.env := by rfl)
    (hfew : ((backTo cpos (starEach [e] X.env)).all (fun x => !x.1) && (backToKw cpos (keywordEach [] X.env)).all (fun x => x.1.isSome)
      && decide ([e].length + ([] : List Keyword).length + (if ([] : List Keyword).isEmpty then 0 else 1) < 30)) = true := by rfl)
    (hline : (apos.endLine == cpos.line) = true := by rfl) (hs : starEach [e] X.env = (false, eval e X.env) :: starEach [] X.env := by rfl) (hplain : (backTo cpos (starEach [] X.env)).any (·.1) = false := by rfl) :
    DE X W (.Call (.Attribute o "append" apos) [e] [] cpos) (dMt rdAppend to (dCons te dNil)) := de_mt lift_append F.slot_list_append F.type_list_append mt_append ho (da_cons ha da_nil hs) hbase hfew hline hs hplain
theorem de_pop (ho : DE X W o to) (hbase : attributeBase o "pop" X.env (eval o X.env) = eval o X.env := by rfl) (hline : (apos.endLine == cpos.line) = true := by rfl) :
    DE X W (.Call (.Attribute o "pop" apos) [] [] cpos) (dMt rdPop to dNil) := de_mt0 lift_pop F.slot_list_pop F.type_list_pop mt_pop ho hbase hline
theorem de_popAt (ho : DE X W o to) (ha : DE X W e te) (hbase : attributeBase o "pop" X.env (eval o X.env) = eval o X.env := by rfl)
    (hfew : ((backTo cpos (starEach [e] X.env)).all (fun x => !x.1) && (backToKw cpos (keywordEach [] X.env)).all (fun x => x.1.isSome)
      && decide ([e].length + ([] : List Keyword).length + (if ([] : List Keyword).isEmpty then 0 else 1) < 30)) = true := by rfl)
    (hline : (apos.endLine == cpos.line) = true := by rfl) (hs : starEach [e] X.env = (false, eval e X.env) :: starEach [] X.env := by rfl) (hplain : (backTo cpos (starEach [] X.env)).any (·.1) = false := by rfl) :
    DE X W (.Call (.Attribute o "pop" apos) [e] [] cpos) (dMt rdPopAt to (dCons te dNil)) := de_mt lift_popAt F.slot_list_pop F.type_list_pop mt_popAt ho (da_cons ha da_nil hs) hbase hfew hline hs hplain
end
end DL

set_option maxRecDepth 100000
set_option maxHeartbeats 1000000
/-! DL, dicts and fields. -/
namespace DL
open PySem PySem.Spec L2
/-! ### keys -/
def keyD : Key → D
  | .inl i => .int i
  | .inr x => .str x
/-- keys with what they lead to, tree by value -/
inductive PR (K : PySem.W.Frag) (F : Hp) {κ : Type} : List (κ × D) → List (κ × V) → Prop where
  | nil : PR K F [] []
  | cons {k : κ} {d : D} {v : V} {ds : List (κ × D)} {vs : List (κ × V)} : IsV K F d v → PR K F ds vs → PR K F ((k, d) :: ds) ((k, v) :: vs)
section
variable {K : PySem.W.Frag} {F : Hp} {κ : Type}
theorem keyD_inv {k : Key} {v : V} (h : IsV K F (keyD k) v) : v = kV k := by
  cases k with
  | inl i => cases h; rfl
  | inr x => cases h; rfl
theorem keyDs_inv : ∀ {k : List Key} {vs : List V}, IsVs K F (k.map keyD) vs → vs = k.map kV
  | [], _, h => by cases h; rfl
  | a :: k, _, h => by
    cases h with
    | cons h1 h2 => rw [keyD_inv h1, keyDs_inv h2]; rfl
theorem keyD_is (k : Key) : IsV K F (keyD k) (kV k) := by
  cases k with
  | inl i => exact .int i
  | inr x => exact .str x
theorem pr_of : ∀ {ks : List κ} {ds : List D} {kvs : List (κ × V)}, kvs.map (·.1) = ks → IsVs K F ds (kvs.map (·.2)) → PR K F (ks.zip ds) kvs
  | _, [], [], h, _ => by subst h; exact .nil
  | _, d :: ds, [], _, h2 => by cases h2
  | _, [], kv :: kvs, _, h2 => by cases h2
  | _, d :: ds, (k, v) :: kvs, h, h2 => by
    subst h
    cases h2 with
    | cons h3 h4 => exact .cons h3 (pr_of rfl h4)
theorem PR.fst {ds : List (κ × D)} {vs : List (κ × V)} (h : PR K F ds vs) : ds.map (·.1) = vs.map (·.1) := by
  induction h with
  | nil => rfl
  | cons _ _ ih => rw [List.map_cons, List.map_cons, ih]
theorem PR.snd {ds : List (κ × D)} {vs : List (κ × V)} (h : PR K F ds vs) : IsVs K F (ds.map (·.2)) (vs.map (·.2)) := by
  induction h with
  | nil => exact .nil
  | cons h1 _ ih => exact .cons h1 ih
theorem PR.append {ds es : List (κ × D)} {vs ws : List (κ × V)} (h : PR K F ds vs) (g : PR K F es ws) : PR K F (ds ++ es) (vs ++ ws) := by
  induction h with
  | nil => exact g
  | cons h1 _ ih => exact .cons h1 ih
variable [DecidableEq κ]
/-- what stands at a key -/
def valD (kds : List (κ × D)) (k : κ) : Option D := (kds.find? fun kd => decide (kd.1 = k)).map (·.2)
def putD (kds : List (κ × D)) (k : κ) (d : D) : List (κ × D) :=
  if (kds.any fun kd => decide (kd.1 = k)) = true then kds.map (fun kd => if kd.1 = k then (kd.1, d) else kd) else kds ++ [(k, d)]
theorem PR.val {ds : List (κ × D)} {vs : List (κ × V)} (h : PR K F ds vs) (k : κ) : (valD ds k = none ∧ valV vs k = none) ∨ ∃ d v, valD ds k = some d ∧ valV vs k = some v ∧ IsV K F d v := by
  induction h with
  | nil => exact .inl ⟨rfl, rfl⟩
  | @cons k0 d v ds vs h1 _ ih =>
    unfold valD valV at ih ⊢
    rw [List.find?_cons, List.find?_cons]
    dsimp only
    by_cases e : k0 = k
    · rw [decide_eq_true e]
      exact .inr ⟨d, v, rfl, rfl, h1⟩
    · rw [decide_eq_false e]
      exact ih
theorem PR.any {ds : List (κ × D)} {vs : List (κ × V)} (h : PR K F ds vs) (k : κ) : (ds.any fun kd => decide (kd.1 = k)) = (vs.any fun kd => decide (kd.1 = k)) := by
  induction h with
  | nil => rfl
  | cons _ _ ih => rw [List.any_cons, List.any_cons, ih]
theorem PR.repl {ds : List (κ × D)} {vs : List (κ × V)} (h : PR K F ds vs) (k : κ) {d : D} {v : V} (r : IsV K F d v) : PR K F (ds.map fun kd => if kd.1 = k then (kd.1, d) else kd) (vs.map fun kd => if kd.1 = k then (kd.1, v) else kd) := by
  induction h with
  | nil => exact .nil
  | @cons k0 d0 v0 ds vs h1 _ ih =>
    rw [List.map_cons, List.map_cons]
    dsimp only
    by_cases e : k0 = k
    · rw [if_pos e, if_pos e]
      exact .cons r ih
    · rw [if_neg e, if_neg e]
      exact .cons h1 ih
theorem PR.put {ds : List (κ × D)} {vs : List (κ × V)} (h : PR K F ds vs) (k : κ) {d : D} {v : V} (r : IsV K F d v) : PR K F (putD ds k d) (putK vs k v) := by
  unfold putD putK
  rw [h.any k]
  split
  · exact h.repl k r
  · exact h.append (.cons r .nil)
end

/-! ### x[y] of a dict -/
/-- the dict's pairs: keys ints and texts; keys tuples of them -/
def dkM : Option M → Option (List (Key × D))
  | some (.dK ks ds) => some (ks.zip ds)
  | _ => none
def dtM : Option M → Option (List (List Key × D))
  | some (.dT ks ds) => some (ks.zip ds)
  | _ => none
def dkD (S : Store) : D → Option (List (Key × D))
  | .dK ks ds => some (ks.zip ds)
  | .ref a => dkM (S a)
  | _ => none
def dtD (S : Store) : D → Option (List (List Key × D))
  | .dT ks ds => some (ks.zip ds)
  | .ref a => dtM (S a)
  | _ => none
section
variable {K : PySem.W.Frag} {Z : Addr → Prop} {H F : Hp} {S : Store}
theorem dk_is (R : Rel K Z H S F) {d : D} {v : V} {kds : List (Key × D)} (iv : IsV K F d v) (e : dkD S d = some kds) : ∃ a kvs, v = .ref a ∧ H a = some (.dK kvs) ∧ PR K F kds kvs := by
  cases iv with
  | dK h1 h2 h3 => cases e; exact ⟨_, _, rfl, (R.sub _ _ h1).1, pr_of h2 h3⟩
  | ref a =>
    have e : dkM (S a) = some kds := e
    cases q : S a with
    | none => rw [q] at e; cases e
    | some m =>
      obtain ⟨_, o, ho, r⟩ := R.sto a m q
      cases m with
      | dK ks ds =>
        rw [q] at e
        cases e
        obtain ⟨kvs, rfl, h2, h3⟩ := r
        exact ⟨a, kvs, rfl, ho, pr_of h2 h3⟩
      | _ => rw [q] at e; cases e
  | _ => cases e
theorem dt_is (R : Rel K Z H S F) {d : D} {v : V} {kds : List (List Key × D)} (iv : IsV K F d v) (e : dtD S d = some kds) : ∃ a kvs, v = .ref a ∧ H a = some (.dT kvs) ∧ PR K F kds kvs := by
  cases iv with
  | dT h1 h2 h3 => cases e; exact ⟨_, _, rfl, (R.sub _ _ h1).1, pr_of h2 h3⟩
  | ref a =>
    have e : dtM (S a) = some kds := e
    cases q : S a with
    | none => rw [q] at e; cases e
    | some m =>
      obtain ⟨_, o, ho, r⟩ := R.sto a m q
      cases m with
      | dT ks ds =>
        rw [q] at e
        cases e
        obtain ⟨kvs, rfl, h2, h3⟩ := r
        exact ⟨a, kvs, rfl, ho, pr_of h2 h3⟩
      | _ => rw [q] at e; cases e
  | _ => cases e
theorem tkey_is (R : Rel K Z H S F) {k : List Key} {v : V} (iv : IsV K F (.tup (k.map keyD)) v) : ∃ b, v = .ref b ∧ H b = some (.tup (k.map kV)) := by
  cases iv with
  | tup h1 h2 => rw [keyDs_inv h2] at h1; exact ⟨_, rfl, (R.sub _ _ h1).1⟩
/-- what x holds at y -/
def DGetD (S : Store) (x y : D) (r : Option D) : Prop := (∃ kds k, dkD S x = some kds ∧ y = keyD k ∧ r = valD kds k) ∨ ∃ kds k, dtD S x = some kds ∧ y = .tup (k.map keyD) ∧ r = valD kds k
theorem dget_is (R : Rel K Z H S F) {x y : D} {v u : V} {r : Option D} (iv : IsV K F x v) (iu : IsV K F y u) (g : DGetD S x y r) : ∃ a o, v = .ref a ∧ DGet H a u o ∧ ((r = none ∧ o = none) ∨ ∃ d w, r = some d ∧ o = some w ∧ IsV K F d w) := by
  rcases g with ⟨kds, k, e, rfl, rfl⟩ | ⟨kds, k, e, rfl, rfl⟩
  · obtain ⟨a, kvs, rfl, h, p⟩ := dk_is R iv e
    rw [keyD_inv iu]
    refine ⟨a, valV kvs k, rfl, .k h, ?_⟩
    rcases p.val k with ⟨h1, h2⟩ | ⟨d, w, h1, h2, h3⟩
    · exact .inl ⟨h1, h2⟩
    · exact .inr ⟨d, w, h1, h2, h3⟩
  · obtain ⟨a, kvs, rfl, h, p⟩ := dt_is R iv e
    obtain ⟨b, rfl, hb⟩ := tkey_is R iu
    refine ⟨a, valV kvs k, rfl, .t h hb, ?_⟩
    rcases p.val k with ⟨h1, h2⟩ | ⟨d, w, h1, h2, h3⟩
    · exact .inl ⟨h1, h2⟩
    · exact .inr ⟨d, w, h1, h2, h3⟩
end
section
variable {X : Cx} {W : WX} {o i e : Expr} {td ty te : DTE} {pos pos' : Pos}
def rdDGet : DR2 := fun x y S Q => ∃ d, DGetD S x y (some d) ∧ Q d S
theorem lift_dget : ∀ σ H P, upE X.K W (dOp rdDGet td ty) σ H P → tDGet (upE X.K W td) (upE X.K W ty) σ H P := fun σ H P ⟨ρ, S, F, Z, Q, E, R, V, q, k, x⟩ =>
  ⟨ρ, S, F, Z, _, E, R, V, q, fun v H1 ⟨d, S1, F1, A1, i1, q1⟩ => ⟨ρ, S1, F1, Z, _, E, A1.rel, V.up A1.sm, q1, fun w H2 ⟨e, S2, F2, A2, i2, r, g, q2⟩ => by
    obtain ⟨a, o, rfl, h, z⟩ := dget_is A2.rel (i1.up A2.sm) i2 g
    rcases z with ⟨z, _⟩ | ⟨d2, w2, z, rfl, iv⟩
    · cases z
    · cases z
      exact ⟨a, w2, rfl, h, k _ _ ⟨r, S2, F2, A1.trans A2, iv, q2⟩⟩, xe_tr x A1⟩, x⟩
theorem de_dget (hu : X.A.units + 1 < cLine) (ho : DE X W o td) (hi : DE X W i ty) (hs : NoSl i := by exact fun _ _ => rfl) : DE X W (.Subscript o i pos) (dOp rdDGet td ty) := de_pe (pe_dget hu ho.pe hi.pe hs) lift_dget
/-- d.get(y), d.get(y, z) are not wanted yet; y in d -/
def rdDIn (neg : Bool) : DR2 := fun y x S Q => ∃ r, DGetD S x y r ∧ Q (.bl (if neg then !r.isSome else r.isSome)) S
/-- o[i] = value, a dict of the store -/
def dDPut (td ty tv : DTE) : DTS := fun N ρ S => tv ρ S (fun d S1 => td ρ S1 (fun x S2 => ty ρ S2 (fun y S3 => ∃ a, x = .ref a ∧
  ((∃ ks ds k, S3 a = some (.dK ks ds) ∧ y = keyD k ∧ ks.length < sizeLine ∧ N.nx ρ (put S3 a (.dK ((putD (ks.zip ds) k d).map (·.1)) ((putD (ks.zip ds) k d).map (·.2))))) ∨
   ∃ ks ds k, S3 a = some (.dT ks ds) ∧ y = .tup (k.map keyD) ∧ ks.length < sizeLine ∧ N.nx ρ (put S3 a (.dT ((putD (ks.zip ds) k d).map (·.1)) ((putD (ks.zip ds) k d).map (·.2)))))) (N.ex ρ)) (N.ex ρ)) (N.ex ρ)
theorem ds_dput {value : Expr} {tv : DTE} (hu : X.A.units + 1 < cLine) (ho : DE X W o td) (hi : DE X W i ty) (hv : DE X W value tv) (hs : swapsWith value (some (.Subscript o i pos')) pos.line X.env = pure false := by rfl) :
    DS X W (.Assign [.Subscript o i pos'] value pos) (dDPut td ty tv) :=
  ds_ps (ps_dput hu ho.pe hi.pe hv.pe hs) fun N σ H ⟨ρ, S, F, Z, Q, R, V, q, l⟩ => by
    have x := l.xe V
    refine ⟨ρ, S, F, Z, _, _, R, V, q, fun v H1 ⟨d, S1, F1, A1, i1, q1⟩ => ⟨ρ, S1, F1, Z, _, _, A1.rel, V.up A1.sm, q1, fun w H2 ⟨xd, S2, F2, A2, i2, q2⟩ => ⟨ρ, S2, F2, Z, _, _, A2.rel, (V.up A1.sm).up A2.sm, q2, fun u H3 ⟨yd, S3, F3, A3, i3, a, hx, q3⟩ => ?_, xe_tr x (A1.trans A2)⟩, xe_tr x A1⟩, x⟩
    subst hx
    cases i2
    have A := A1.trans (A2.trans A3)
    have iv := (i1.up A2.sm).up A3.sm
    have V3 := V.up A.sm
    rcases q3 with ⟨ks, ds, k, hs, rfl, z, q3⟩ | ⟨ks, ds, k, hs, rfl, z, q3⟩
    · obtain ⟨_, o, ho, kvs, rfl, h2, h3⟩ := A3.rel.sto a _ hs
      have p := (pr_of h2 h3).put k iv
      obtain ⟨R4, k4⟩ := A3.rel.wrote (o := .dK (putK kvs k v)) (m := .dK ((putD (ks.zip ds) k d).map (·.1)) ((putD (ks.zip ds) k d).map (·.2))) hs ⟨_, rfl, p.fst.symm, p.snd⟩
      rw [keyD_inv i3]
      exact ⟨a, _, rfl, .k ho (by rw [← List.length_map (f := (·.1)) (as := kvs), h2]; exact z), l.nx _ _ ⟨ρ, _, F3, A.trans ⟨Same.refl _, R4, k4⟩, V3, q3⟩⟩
    · obtain ⟨_, o, ho, kvs, rfl, h2, h3⟩ := A3.rel.sto a _ hs
      have p := (pr_of h2 h3).put k iv
      obtain ⟨R4, k4⟩ := A3.rel.wrote (o := .dT (putK kvs k v)) (m := .dT ((putD (ks.zip ds) k d).map (·.1)) ((putD (ks.zip ds) k d).map (·.2))) hs ⟨_, rfl, p.fst.symm, p.snd⟩
      obtain ⟨b, rfl, hb⟩ := tkey_is A3.rel i3
      exact ⟨a, _, rfl, .t ho hb (by rw [← List.length_map (f := (·.1)) (as := kvs), h2]; exact z), l.nx _ _ ⟨ρ, _, F3, A.trans ⟨Same.refl _, R4, k4⟩, V3, q3⟩⟩
/-- {}: frozen; of the store -/
def dNewK : DTE := fun _ S Q _ => Q (.dK [] []) S
def dNewMK : DTE := fun _ S Q _ => ∀ a, S a = none → Q (.ref a) (put S a (.dK [] []))
def dNewMT : DTE := fun _ S Q _ => ∀ a, S a = none → Q (.ref a) (put S a (.dT [] []))
theorem de_newK : DE X W (.Dict [] [] pos) dNewK := de_pe pe_dnewK fun σ H P ⟨ρ, S, F, Z, Q, E, R, V, q, k, x⟩ => fun p hp => by
  obtain ⟨R2, s2, k2⟩ := R.laid (o := .dK []) hp
  exact k _ _ ⟨.dK [] [], S, _, ⟨s2, R2, k2⟩, .dK upd_same rfl .nil, q⟩
theorem de_newMK : DE X W (.Dict [] [] pos) dNewMK := de_pe pe_dnewK fun σ H P ⟨ρ, S, F, Z, Q, E, R, V, q, k, x⟩ => fun p hp => by
  obtain ⟨R2, k2, hS⟩ := R.made (o := .dK []) (m := .dK [] []) hp ⟨[], rfl, rfl, .nil⟩
  exact k _ _ ⟨.ref p, _, F, ⟨Same.refl _, R2, k2⟩, .ref p, q p hS⟩
theorem de_newMT : DE X W (.Dict [] [] pos) dNewMT := de_pe pe_dnewT fun σ H P ⟨ρ, S, F, Z, Q, E, R, V, q, k, x⟩ => fun p hp => by
  obtain ⟨R2, k2, hS⟩ := R.made (o := .dT []) (m := .dT [] []) hp ⟨[], rfl, rfl, .nil⟩
  exact k _ _ ⟨.ref p, _, F, ⟨Same.refl _, R2, k2⟩, .ref p, q p hS⟩

/-! ### {k: v, ..} -/
abbrev DTP := Sl → Store → (List (D × D) → Store → Prop) → DX → Prop
def dPairs : List (DTE × DTE) → DTP
  | [] => fun _ S Q _ => Q [] S
  | (tk, tv) :: r => fun ρ S Q E => tk ρ S (fun x S1 => tv ρ S1 (fun y S2 => dPairs r ρ S2 (fun ps S3 => Q ((x, y) :: ps) S3) E) E) E
inductive IsPs (K : PySem.W.Frag) (F : Hp) : List (D × D) → List (V × V) → Prop where
  | nil : IsPs K F [] []
  | cons {x y : D} {v w : V} {ds : List (D × D)} {vs : List (V × V)} : IsV K F x v → IsV K F y w → IsPs K F ds vs → IsPs K F ((x, y) :: ds) ((v, w) :: vs)
theorem lift_pairs {K : PySem.W.Frag} : ∀ (trs : List (DTE × DTE)) (ρ : Sl) (S : Store) (Q : List (D × D) → Store → Prop) (E : DX) (Z : Addr → Prop) (H F : Hp) (σ : L2.St) (P : List (V × V) → Hp → Prop), Rel K Z H S F → EnvR K F ρ σ → dPairs trs ρ S Q E →
    (∀ ps H', (∃ ds S' F', Aft K Z H F H' S' F' ∧ IsPs K F' ds ps ∧ Q ds S') → P ps H') → (∀ cls d H', LftX K Z H F E cls d H' → W cls d σ H') → tPairs (trs.map fun t => (upE K W t.1, upE K W t.2)) σ H P
  | [], ρ, S, Q, E, Z, H, F, σ, P, R, V, q, k, x => k [] H ⟨[], S, F, .refl R, .nil, q⟩
  | (tk, tv) :: r, ρ, S, Q, E, Z, H, F, σ, P, R, V, q, k, x =>
    ⟨ρ, S, F, Z, _, E, R, V, q, fun v H1 ⟨d, S1, F1, A1, i1, q1⟩ => ⟨ρ, S1, F1, Z, _, E, A1.rel, V.up A1.sm, q1, fun w H2 ⟨e, S2, F2, A2, i2, q2⟩ =>
      lift_pairs r ρ S2 _ E Z H2 F2 σ _ A2.rel ((V.up A1.sm).up A2.sm) q2 (fun ps H3 ⟨ds, S3, F3, A3, i3, q3⟩ => k _ H3 ⟨(d, e) :: ds, S3, F3, A1.trans (A2.trans A3), .cons ((i1.up A2.sm).up A3.sm) (i2.up A3.sm) i3, q3⟩) (xe_tr x (A1.trans A2)), xe_tr x A1⟩, x⟩
structure DPs (X : Cx) (W : WX) (pos : Pos) (keys : List (Option Expr)) (values : List Expr) (trs : List (DTE × DTE)) : Prop where
  pp : PPs X pos keys values (trs.map fun t => (upE X.K W t.1, upE X.K W t.2))
theorem dps_nil : DPs X W pos [] [] [] := ⟨pps_nil⟩
theorem dps_cons {k v : Expr} {ks : List (Option Expr)} {vs : List Expr} {tk tv : DTE} {trs : List (DTE × DTE)} (hk : DE X W k tk) (hv : DE X W v tv) (hr : DPs X W pos ks vs trs) : DPs X W pos (some k :: ks) (v :: vs) ((tk, tv) :: trs) := ⟨pps_cons hk.pe hv.pe hr.pp⟩
def mergeD (kds more : List (Key × D)) : List (Key × D) := more.foldl (fun acc kd => putD acc kd.1 kd.2) kds
theorem PR.merge {K : PySem.W.Frag} {F : Hp} {ms : List (Key × D)} {mv : List (Key × V)} (h : PR K F ms mv) : ∀ {ds : List (Key × D)} {vs : List (Key × V)}, PR K F ds vs → PR K F (mergeD ds ms) (mergeK vs mv) := by
  induction h with
  | nil => intro ds vs h; exact h
  | cons h1 _ ih => intro ds vs h; exact ih (h.put _ h1)
theorem isPs_keys {K : PySem.W.Frag} {F : Hp} : ∀ {kds : List (Key × D)} {ps : List (V × V)}, IsPs K F (kds.map fun kd => (keyD kd.1, kd.2)) ps → ∃ kvs : List (Key × V), ps = kvs.map (fun kv => (kV kv.1, kv.2)) ∧ PR K F kds kvs
  | [], _, h => by cases h; exact ⟨[], rfl, .nil⟩
  | (k, d) :: r, _, h => by
    cases h with
    | cons h1 h2 h3 =>
      obtain ⟨kvs, rfl, p⟩ := isPs_keys h3
      rw [keyD_inv h1]
      exact ⟨(k, _) :: kvs, rfl, .cons h2 p⟩
def dDisp (trs : List (DTE × DTE)) (fin : List (Key × D) → Store → DQ → Prop) : DTE := fun ρ S Q E => dPairs trs ρ S (fun ps S1 => ∃ kds : List (Key × D), ps = kds.map (fun kd => (keyD kd.1, kd.2)) ∧ kds.length ≤ 15 ∧ fin (mergeD [] kds) S1 Q) E
def finF : List (Key × D) → Store → DQ → Prop := fun kds S Q => Q (.dK (kds.map (·.1)) (kds.map (·.2))) S
def finM : List (Key × D) → Store → DQ → Prop := fun kds S Q => ∀ a, S a = none → Q (.ref a) (put S a (.dK (kds.map (·.1)) (kds.map (·.2))))
theorem PR.length {K : PySem.W.Frag} {F : Hp} {κ : Type} {ds : List (κ × D)} {vs : List (κ × V)} (h : PR K F ds vs) : ds.length = vs.length := by
  induction h with
  | nil => rfl
  | cons _ _ ih => rw [List.length_cons, List.length_cons, ih]
theorem disp_lift {K : PySem.W.Frag} {trs : List (DTE × DTE)} {fin : List (Key × D) → Store → DQ → Prop} {σ : L2.St} {H : Hp} {P : VK} {ρ : Sl} {S : Store} {F : Hp} {Z : Addr → Prop} {Q : DQ} {E : DX} (R : Rel K Z H S F) (Er : EnvR K F ρ σ) (q : dDisp trs fin ρ S Q E)
    (k : ∀ (H1 F1 : Hp) (S1 : Store) (p : Addr) (kds : List (Key × D)) (kvs : List (Key × V)), Aft K Z H F H1 S1 F1 → H1 p = some (.dK kvs) → PR K F1 kds kvs → S1 p = none → F1 p = none → ¬ Z p → fin kds S1 Q → P (.ref p) H1) (xl : ∀ cls d H', LftX K Z H F E cls d H' → W cls d σ H') :
    tDisp (trs.map fun t => (upE K W t.1, upE K W t.2)) σ H P := by
  intro p hp
  let Z' : Addr → Prop := fun b => Z b ∨ b = p
  have zD : ¬ Z p := fun z => by
    obtain ⟨o, e⟩ := R.hid p z
    rw [hp] at e; cases e
  have ne : ∀ {b u}, H b = some u → b ≠ p := fun e z => by rw [z, hp] at e; cases e
  have Rb : Rel K Z' (upd H p (.dK [])) S F := by
    refine ⟨fun b u e => ?_, fun b m e => ?_, fun b z => ?_⟩
    · have h := R.sub b u e
      exact ⟨by rw [upd_ne (ne h.1)]; exact h.1, h.2.1, fun z => z.elim h.2.2 (ne h.1)⟩
    · obtain ⟨h1, o, h2, h3⟩ := R.sto b m e
      exact ⟨fun z => z.elim h1 (ne h2), o, by rw [upd_ne (ne h2)]; exact h2, h3⟩
    · rcases z with z | z
      · obtain ⟨o, e⟩ := R.hid b z
        exact ⟨o, by rw [upd_ne (ne e)]; exact e⟩
      · subst z
        exact ⟨_, upd_same⟩
  have down : ∀ {H' : Hp} {S' : Store} {F' : Hp}, Rel K Z' H' S' F' → S' p = none ∧ F' p = none ∧ ∀ o, Rel K Z (upd H' p o) S' F' := fun {H' S' F'} r => by
    have hs : S' p = none := no_some fun m e => (r.sto p m e).1 (.inr rfl)
    have hf : F' p = none := no_some fun o e => (r.sub p o e).2.2 (.inr rfl)
    have nf : ∀ {b u}, F' b = some u → b ≠ p := fun e z => by rw [z, hf] at e; cases e
    have nes : ∀ {b u}, S' b = some u → b ≠ p := fun e z => by rw [z, hs] at e; cases e
    refine ⟨hs, hf, fun o => ⟨fun b u e => ⟨by rw [upd_ne (nf e)]; exact (r.sub b u e).1, (r.sub b u e).2.1, fun z => (r.sub b u e).2.2 (.inl z)⟩,
      fun b m e => ⟨fun z => (r.sto b m e).1 (.inl z), let ⟨o, h1, h2⟩ := (r.sto b m e).2; ⟨o, by rw [upd_ne (nes e)]; exact h1, h2⟩⟩, fun b z => ?_⟩⟩
    have hb : b ≠ p := fun q => zD (q ▸ z)
    obtain ⟨o, e⟩ := r.hid b (.inl z)
    exact ⟨o, by rw [upd_ne hb]; exact e⟩
  have kz : ∀ {H'}, Keep Z' (upd H p (.dK [])) H' → ∀ o, Keep Z H (upd H' p o) := fun {H'} kk o b u z e => by
    have hb : b ≠ p := fun q => zD (q ▸ z)
    rw [upd_ne hb]
    exact kk b u (.inl z) (by rw [upd_ne hb]; exact e)
  refine lift_pairs trs ρ S _ E Z' _ F σ _ Rb Er q (fun ps H2 ⟨ds, S2, F2, A2, i2, kds, e, z, q2⟩ => ?_) fun cls d H' ⟨C, ns, ds, S', F', e, A, xr, q⟩ => ?_
  · subst e
    obtain ⟨kvs, rfl, pr⟩ := isPs_keys i2
    obtain ⟨hs, hf, rl⟩ := down A2.rel
    refine ⟨A2.kp p _ (.inr rfl) upd_same, kvs, rfl, by rw [← pr.length]; exact z, ?_⟩
    exact k _ F2 S2 p _ _ ⟨A2.sm, rl _, kz A2.kp _⟩ upd_same (pr.merge .nil) hs hf zD q2
  · obtain ⟨hs, hf, rl⟩ := down A.rel
    have hd := A.kp p _ (.inr rfl) upd_same
    have e1 : upd H' p (.dK []) = H' := by
      funext b
      by_cases hb : b = p
      · rw [hb, upd_same, hd]
      · rw [upd_ne hb]
    have r1 := rl (.dK [])
    have k1 := kz A.kp (.dK [])
    rw [e1] at r1 k1
    refine xl cls d H' ⟨C, ns, ds, S', F', e, ⟨A.sm, r1, k1⟩, ?_, q⟩
    rcases xr with xr | ⟨dd, fs, x1, x2, x3, x4, x5, x6⟩
    · exact .inl xr
    · exact .inr ⟨dd, fs, x1, x2, x3, x4, fun z => x5 (.inl z), x6⟩
theorem de_disp {keys : List (Option Expr)} {values : List Expr} {trs : List (DTE × DTE)} (h : DPs X W pos keys values trs) (hall : keys.all (·.isSome) = true := by rfl) (hl : keys.length = values.length := by rfl) (h0 : keys ≠ [] := by exact List.cons_ne_nil _ _) (h15 : keys.length ≤ 15 := by decide) :
    DE X W (.Dict keys values pos) (dDisp trs finF) := de_pe (pe_disp h.pp hall hl h0 h15) fun σ H P ⟨ρ, S, F, Z, Q, E, R, V, q, k, x⟩ =>
  disp_lift R V q (fun H1 F1 S1 p kds kvs A1 hd pr hs hf zd q1 => by
    obtain ⟨R2, s2⟩ := A1.rel.own hd hs hf zd
    exact k _ _ ⟨_, S1, _, A1.trans ⟨s2, R2, Keep.refl⟩, .dK upd_same pr.fst.symm (pr.snd.up s2), q1⟩) x
theorem de_dispM {keys : List (Option Expr)} {values : List Expr} {trs : List (DTE × DTE)} (h : DPs X W pos keys values trs) (hall : keys.all (·.isSome) = true := by rfl) (hl : keys.length = values.length := by rfl) (h0 : keys ≠ [] := by exact List.cons_ne_nil _ _) (h15 : keys.length ≤ 15 := by decide) :
    DE X W (.Dict keys values pos) (dDisp trs finM) := de_pe (pe_disp h.pp hall hl h0 h15) fun σ H P ⟨ρ, S, F, Z, Q, E, R, V, q, k, x⟩ =>
  disp_lift R V q (fun H1 F1 S1 p kds kvs A1 hd pr hs hf zd q1 =>
    k _ _ ⟨.ref p, _, F1, A1.trans ⟨Same.refl _, A1.rel.ownS (m := .dK (kds.map (·.1)) (kds.map (·.2))) hd hs hf zd ⟨kvs, rfl, pr.fst.symm, pr.snd⟩, Keep.refl⟩, .ref p, q1 p hs⟩) x

/-! ### fields -/
/-- the fields of an instance of C -/
def objM (C : Addr) : Option M → Option (List (Str × D))
  | some (.ins C' ns ds) => if C' = C then some (ns.zip ds) else none
  | _ => none
def objD (C : Addr) (S : Store) : D → Option (List (Str × D))
  | .obj C' ns ds => if C' = C then some (ns.zip ds) else none
  | .ref a => objM C (S a)
  | _ => none
theorem obj_is {K : PySem.W.Frag} {Z : Addr → Prop} {H F : Hp} {S : Store} (R : Rel K Z H S F) {C : Addr} {d : D} {v : V} {kds : List (Str × D)} (iv : IsV K F d v) (e : objD C S d = some kds) : ∃ a dx fs, v = .ref a ∧ H a = some (.ins C dx fs) ∧ PR K F kds fs := by
  cases iv with
  | obj h1 h2 h3 =>
    have e' : (if _ = C then _ else _) = some kds := e
    split at e'
    · rename_i z
      subst z
      cases e'
      exact ⟨_, _, _, rfl, (R.sub _ _ h1).1, pr_of h2 h3⟩
    · cases e'
  | ref a =>
    have e : objM C (S a) = some kds := e
    cases q : S a with
    | none => rw [q] at e; cases e
    | some m =>
      obtain ⟨_, o, ho, r⟩ := R.sto a m q
      cases m with
      | ins C' ns ds =>
        rw [q] at e
        have e' : (if C' = C then _ else _) = some kds := e
        split at e'
        · rename_i z
          subst z
          cases e'
          obtain ⟨dx, fs, rfl, h2, h3⟩ := r
          exact ⟨a, dx, fs, rfl, ho, pr_of h2 h3⟩
        · cases e'
      | _ => rw [q] at e; cases e
  | _ => cases e
theorem PR.lookup {K : PySem.W.Frag} {F : Hp} {ds : List (Str × D)} {vs : List (Str × V)} (h : PR K F ds vs) {f : Str} {d : D} (e : ds.lookup f = some d) : ∃ v, vs.lookup f = some v ∧ IsV K F d v := by
  induction h with
  | nil => cases e
  | @cons k0 d0 v0 ds vs h1 _ ih =>
    rw [List.lookup_cons] at e ⊢
    cases q : f == k0 with
    | true =>
      rw [q] at e
      cases e
      exact ⟨v0, rfl, h1⟩
    | false =>
      rw [q] at e
      exact ih e
/-- e.f -/
def dFld (C : Addr) (f : Str) (t : DTE) : DTE := fun ρ S Q E => t ρ S (fun x S1 => ∃ kds d, objD C S1 x = some kds ∧ kds.lookup f = some d ∧ Q d S1) E
theorem de_fld {C : Addr} {f : Str} (c : Cls X.K C) (n : NoAttr X.K C f) (he : DE X W e te) (hb : attributeBase e f X.env (eval e X.env) = eval e X.env := by rfl) : DE X W (.Attribute e f pos) (dFld C f te) :=
  de_pe (pe_fld he.pe hb) fun σ H P ⟨ρ, S, F, Z, Q, E, R, V, q, k, x⟩ => ⟨ρ, S, F, Z, _, E, R, V, q, fun v H1 ⟨d, S1, F1, A1, i1, kds, d2, ho, hl, q1⟩ => by
    obtain ⟨a, dx, fs, rfl, h, p⟩ := obj_is A1.rel i1 ho
    obtain ⟨v2, hl2, iv⟩ := p.lookup hl
    exact ⟨a, C, dx, fs, v2, rfl, h, c, n, hl2, k _ _ ⟨d2, S1, F1, A1, iv, q1⟩⟩, x⟩
def putFD (f : Str) (d : D) : List (Str × D) → List (Str × D)
  | [] => [(f, d)]
  | (g, x) :: r => if g = f then (g, d) :: r else (g, x) :: putFD f d r
theorem PR.putF {K : PySem.W.Frag} {F : Hp} {ds : List (Str × D)} {vs : List (Str × V)} (h : PR K F ds vs) (f : Str) {d : D} {v : V} (r : IsV K F d v) : PR K F (putFD f d ds) (L2.putF f v vs) := by
  induction h with
  | nil => exact .cons r .nil
  | @cons k0 d0 v0 ds vs h1 h2 ih =>
    unfold putFD L2.putF
    split
    · exact .cons r h2
    · exact .cons h1 ih
/-- e.f = value, an instance of the store -/
def dFldPut (C : Addr) (f : Str) (t tv : DTE) : DTS := fun N ρ S => tv ρ S (fun d S1 => t ρ S1 (fun x S2 => ∃ a ns ds, x = .ref a ∧ S2 a = some (.ins C ns ds) ∧ ns.length < 1000 ∧
  N.nx ρ (put S2 a (.ins C ((putFD f d (ns.zip ds)).map (·.1)) ((putFD f d (ns.zip ds)).map (·.2))))) (N.ex ρ)) (N.ex ρ)
theorem ds_fld {C : Addr} {f : Str} {value : Expr} {tv : DTE} (c : Cls X.K C) (n : NoAttr X.K C f) (he : DE X W e te) (hv : DE X W value tv) (hs : swapsWith value (some (.Attribute e f pos')) pos.line X.env = pure false := by rfl) :
    DS X W (.Assign [.Attribute e f pos'] value pos) (dFldPut C f te tv) :=
  ds_ps (ps_fld he.pe hv.pe hs) fun N σ H ⟨ρ, S, F, Z, Q, R, V, q, l⟩ => by
    have x := l.xe V
    refine ⟨ρ, S, F, Z, _, _, R, V, q, fun v H1 ⟨d, S1, F1, A1, i1, q1⟩ => ⟨ρ, S1, F1, Z, _, _, A1.rel, V.up A1.sm, q1, fun w H2 ⟨xd, S2, F2, A2, i2, a, ns, ds, hx, hs, z, q2⟩ => ?_, xe_tr x A1⟩, x⟩
    subst hx
    cases i2
    obtain ⟨_, o, ho, dx, fs, rfl, h2, h3⟩ := A2.rel.sto a _ hs
    have p := (pr_of h2 h3).putF f (i1.up A2.sm)
    obtain ⟨R4, k4⟩ := A2.rel.wrote (o := .ins C dx (L2.putF f v fs)) (m := .ins C ((putFD f d (ns.zip ds)).map (·.1)) ((putFD f d (ns.zip ds)).map (·.2))) hs ⟨dx, _, rfl, p.fst.symm, p.snd⟩
    exact ⟨a, C, dx, fs, rfl, ho, c, n, by rw [← List.length_map (f := (·.1)) (as := fs), h2]; exact z, l.nx _ _ ⟨ρ, _, F2, (A1.trans A2).trans ⟨Same.refl _, R4, k4⟩, (V.up A1.sm).up A2.sm, q2⟩⟩
end
end DL

set_option maxRecDepth 100000
set_option maxHeartbeats 2000000
/-! DL, exceptions of own classes over an own class over Exception, with an __init__ of two lines. -/
namespace DL
open PySem PySem.Spec L2
/-- super().__init__(text); self.wd = wd -/
abbrev xiScope (wd : Str) : Scope := { kind := .function, names := [("self", .local), (wd, .local), ("__class__", .free), ("super", .globalImplicit)], isGenerator := false, isCoroutine := false, more := [] }
abbrev xiArgs (wd : Str) (q0 q1 : Pos) : Arguments := { posonlyargs := [], args := [{ arg := "self", annotation := none, pos := q0 }, { arg := wd, annotation := none, pos := q1 }], vararg := none, kwonlyargs := [], kw_defaults := [], kwarg := none, defaults := [] }
abbrev xiBody (wd t : Str) (p0 p1 p2 p3 p4 p5 p6 p7 p8 p9 : Pos) : List Stmt :=
  [.Expr (.Call (.Attribute (.Call (.Name "super" p0) [] [] p1) "__init__" p2) [.Constant (.str t) 0 p3] [] p4) p5, .Assign [.Attribute (.Name "self" p6) wd p7] (.Name wd p8) p9]
/-- how super().__init__(text) is evaluated -/
def XiEv (env : PySem.Env) (pl : Sem Bool) (t : Str) (p0 p1 p2 p3 p4 : Pos) : Prop := eval (.Call (.Attribute (.Call (.Name "super" p0) [] [] p1) "__init__" p2) [.Constant (.str t) 0 p3] [] p4) env = (do
  let ov ← attributeBase (.Call (.Name "super" p0) [] [] p1) "__init__" env (eval (.Call (.Name "super" p0) [] [] p1) env)
  standAt p2.atName
  let (f, first) ← holding [ov] (getMethod ov "__init__" pl)
  callWith p4 f first (backTo p4 (starEach [.Constant (.str t) 0 p3] env)) [])
abbrev exBm : List Value := [.type "Exception", .type "BaseException", .type "object"]
/-- what the written part says of the class at C, its __init__ at fI -/
structure XiC (P : Program) (K : PySem.W.Frag) (C fI : Addr) (wd : Str) : Prop where
  cls : ∃ nm q N bs bm sn sub ab col dd k0 k1 k2 k3 k5, K.lookup C = some (excClassObj nm q C N bs bm true sn sub ab col dd k0 k1 k2 k3 k5 "Exception.__new__") ∧ PySem.W.excTail exBm bm = true
  sa : PySem.W.findIn K (.ref C) "__setattr__" = some (some (.builtin "object.__setattr__"))
  exC : PySem.W.subIn K (.ref C) (.type "BaseException") = some true
  exE : PySem.W.subIn K (.ref C) (.type "Exception") = some true
  tyC : PySem.W.typeIn K (.ref C) = some (.type "type")
  kC : PySem.W.keepIn K (.ref C) = true
  init : PySem.W.findIn K (.ref C) "__init__" = some (some (.ref fI))
  tI : PySem.W.typeIn K (.ref fI) = some (.type "function")
  no : PySem.W.findIn K (.ref C) wd = some none
  fn : ∃ (oc : Value) (od : Option Addr) (osl : Array (Option Value)) (qual t : Str) (q0 q1 p0 p1 p2 p3 p4 p5 p6 p7 p8 p9 : Pos) (dV kV doc pm ct : Value) (an : Option Addr) (cda cc : Addr),
    K.lookup fI = some ⟨oc, od, .func (PySem.W.ksFn "__init__" qual (xiArgs wd q0 q1) (xiBody wd t p0 p1 p2 p3 p4 p5 p6 p7 p8 p9) (xiScope wd) dV kV doc pm an (.ref cda) ct cc), osl⟩ ∧ PySem.W.codeIn K (.ref cda) qual = true ∧
    (∀ a u : Value, bindArgs (PySem.W.ksFn "__init__" qual (xiArgs wd q0 q1) (xiBody wd t p0 p1 p2 p3 p4 p5 p6 p7 p8 p9) (xiScope wd) dV kV doc pm an (.ref cda) ct cc) ⟨[a, u], []⟩ = pure ([("self", a), (wd, u)] : List (Str × Value))) ∧
    (∀ L : Addr, ∃ pl : Sem Bool, XiEv (callEnv (PySem.W.ksFn "__init__" qual (xiArgs wd q0 q1) (xiBody wd t p0 p1 p2 p3 p4 p5 p6 p7 p8 p9) (xiScope wd) dV kV doc pm an (.ref cda) ct cc) L fI) pl t p0 p1 p2 p3 p4) ∧
    (∃ (cl : Value) (cld : Option Addr) (csl : Array (Option Value)), K.lookup cc = some ⟨cl, cld, .cell (some (.ref C)), csl⟩) ∧
    (∃ (ccl : Value) (cdd : Option Addr) (vs : Array Value) (ccs : Array (Option Value)) (file : Str) (tf : Tok), K.lookup cda = some ⟨ccl, cdd, .fields vs, ccs⟩ ∧ vs[2]? = some (.str file tf) ∧ ((P.main.file : Str) == file) = true)
  up : PySem.W.ks_superIn K C C "__init__" = some (some (.builtin "Exception.__init__"))
  opq : PySem.W.nsIn K cStatics "thirdparty.any" = some none
  wdl : (xiScope wd).names.lookup wd = some .local
  slf : (xiScope wd).names.lookup ("self" : Str) = some .local
  sup : (xiScope wd).names.lookup ("super" : Str) = some .globalImplicit
  cll : (xiScope wd).names.lookup ("__class__" : Str) = some .free
  dbg : (wd == ("__debug__" : Str)) = false
  wds : (wd == ("self" : Str)) = false
  top : (P.main.scope.names.lookup ("super" : Str)).isSome = false
/-- the first field of an exception -/
theorem xi_osa {prog : Program} {w : World} {A : Around} {R : Result → Shared → Prop} {hp : Heap} {g : Array GenState} {d : Drawn} {t : Nat} {os : OsState} {K : PySem.W.Frag} {name : Str} {tk : Tok} {v : Value} {x C : Addr} {fv : Array Value} {cd : ClassData} {bm : List Value}
    (X : K.In hp) (hx : hp.get? x = some { cls := .ref C, data := .fields fv }) (hcd : PySem.W.clsIn K C = some cd) (hm : cd.mro = .ref C :: bm) (hT : PySem.W.excTail exBm bm = true) (hh : cd.hasDict = true) (ha : PySem.W.findIn K (.ref C) name = some none)
    (hq : ∀ h' tk' dx, (∀ b o, b ≠ x → hp.get? b = some o → h'.get? b = some o) → hp.objs.size ≤ dx → dx ≠ x → h'.get? x = some { cls := .ref C, dict := some dx, data := .fields fv } →
      h'.Ns1 dx (fun y => if y = name then some v else none) → R (.ok (.ret .none)) ⟨h', g, d, tk', os⟩) :
    codeAny (model prog w) A (.call (.builtin "object.__setattr__") ⟨[.ref x, .str name tk, v], []⟩) R ⟨hp, g, d, t, os⟩ := by
  have ic : PySem.W.InstAt hp x { cls := .ref C, data := .fields fv } C none := ⟨hx, rfl, rfl, trivial⟩
  have fresh : x ≠ hp.objs.size := Nat.ne_of_lt (Heap.lt_size hx)
  have tl : PySem.W.excTail exBm (.ref C :: bm) = true := hT
  have isObj : PySem.W.mroIn K C (.type "object") = some true := by
    unfold PySem.W.mroIn
    rw [hcd, Option.bind_some, hm, if_neg (by simp), PySem.W.excTail_contains "object" _ tl]
    decide
  have lookO : PySem.W.Looks (model prog w) hp (isInstance (.ref x) (.type "object")) true := ic.type.andThen (PySem.W.looks_mroIn X isObj)
  have lookM : PySem.W.Looks (model prog w) hp (mroOf (.ref C)) cd.mro := (PySem.W.looks_clsIn X hcd).andThen .now
  have lookC : PySem.W.Looks (model prog w) hp (classData C) cd := PySem.W.looks_clsIn X hcd
  have noTaker : PySem.W.Looks (model prog w) hp (Builtin.ObjectAttr.storeTaker? none) none := .now
  have SO := F.store_object
  refine codeAny_call_builtin SO.slot.plain SO.entry (@PySem.W.check_slot (model prog w) _ _ ⟨hp, g, d, t, os⟩ "object.__setattr__" "object" "__setattr__" (.ref x) [.str name tk, v] [] _ SO.kind SO.split lookO (SO.args (.ref x) (.str name tk) v) ?_)
  rw [PySem.W.osa_eq, PySem.refuse_eq]
  refine wpAny_bind (wpAny_bind (ic.type.at (wpAny_bind (lookM.at ?_))))
  rw [hm, PySem.W.excTail_pass (.ref x) (F.store_Exception.passes _) _ tl]
  refine wpAny_pure (wpAny_bind (ic.type.at (wpAny_bind ((PySem.W.looks_findIn X ha).at (wpAny_bind (noTaker.at ?_))))))
  show wpAny _ _ (Builtin.ObjectAttr.storeInOwnDict (.ref x) (.ref C) (.str name tk) name v false) _ _ _
  obtain ⟨nm, bs, mro, ns, qn, hd, sn, sb, ab, col, dl⟩ := cd
  dsimp only at hh
  subst hh
  unfold Builtin.ObjectAttr.storeInOwnDict Builtin.ObjectAttr.ownDictForStores
  repeat (first | with_reducible refine PySem.HandSPX.store_in_new ?_ ?_ | with_reducible refine wpAny_loadPart_at hx ?_ | with_reducible refine lookC.at ?_ | wp_step)
  · exact ⟨_, #[], _, (Heap.get?_update_ne _ _ _ _ fresh.symm).trans (Heap.get?_push_at rfl rfl), rfl, fun e he => absurd he (by simp), fun _ => rfl⟩
  · intro h1 tk1 ns1 but
    have same : ∀ b o, b ≠ x → hp.get? b = some o → h1.get? b = some o := fun b o hb ho => (but.2 b (Nat.ne_of_lt (Heap.lt_size ho))).trans ((Heap.get?_update_ne _ _ _ _ hb).trans (Heap.get?_push_of_some _ ho))
    exact hq h1 tk1 hp.objs.size same (Nat.le_refl _) fresh.symm ((but.2 x fresh).trans (Heap.get?_update_self _ (Heap.get?_push_of_some _ hx) rfl)) ns1
theorem boot_sup : bootBuiltins "super" = some (.type "super") := by first | rfl | decide +kernel | kernel_rfl
/-- __init__(e, u) run -/
theorem xi_run {P : Program} {w : World} {A : Around} {R : Result → Shared → Prop} {s : Shared} {K : PySem.W.Frag} {mg : Str → Option Value} {C fI e t0 : Addr} {wd : Str} {u : Value} (T : XiC P K C fI wd) (X : K.In s.heap) (hg : s.heap.Ns mainGlobals mg) (hb : ∃ mb, s.heap.Ns builtinsNs mb ∧ ∀ x : Str, x ≠ "__name__" → mb x = bootBuiltins x)
    (hlim : s.heap.NoLimit) (hsup : mg "super" = none) (hroom : A.depth < recursionLimit) (he : s.heap.get? e = some (PySem.HandSPX.excO C t0)) (hke : K.lookup e = none)
    (hR : ∀ h' tk t1 dx, (∀ b o, b ≠ e → s.heap.get? b = some o → h'.get? b = some o) → s.heap.objs.size ≤ dx → dx ≠ e → h'.get? e = some { cls := .ref C, dict := some dx, data := .fields #[.ref t1, .none, .none, .none, .bool false, .none] } →
      h'.Ns1 dx (fun y => if y = wd then some u else none) → R (.ok (.ret .none)) { s with heap := h', toks := tk }) :
    codeAny (model P w) A (.call (.ref fI) ⟨[.ref e, u], []⟩) R s := by
  obtain ⟨nm, qq, N, bs, bm, sn, sub, ab, col, dd, k0, k1, k2, k3, k5, hC, hT⟩ := T.cls
  obtain ⟨oc, od, osl, qual, t, q0, q1, p0, p1, p2, p3, p4, p5, p6, p7, p8, p9, dV, kV, doc, pm, ct, an, cda, cc, hfn, hcd, hbi, hev, ⟨cl, cld, csl, hcc⟩, ⟨ccl, cdd, vs, ccs, file, tf, hcda, hvs, hfile⟩⟩ := T.fn
  have hcl : PySem.W.clsIn K C = some { name := nm, bases := bs, mro := .ref C :: bm, ns := N, qualname := qq, hasDict := true, slotNames := sn, subclasses := sub, abstract := ab, collection := col, hasDel := false } := by unfold PySem.W.clsIn; rw [hC]
  obtain ⟨mb, hb1, hb2⟩ := hb
  refine ks_codeAny_call_defAt (fd := PySem.W.ksFn "__init__" qual (xiArgs wd q0 q1) (xiBody wd t p0 p1 p2 p3 p4 p5 p6 p7 p8 p9) (xiScope wd) dV kV doc pm an (.ref cda) ct cc) (body := xiBody wd t p0 p1 p2 p3 p4 p5 p6 p7 p8 p9) (binds := [("self", .ref e), (wd, u)]) hroom (X _ _ hfn) rfl hlim (PySem.W.codeRec_of X hcd) rfl (.of_eq (hbi _ _)) ?cells ?locs (fun h1 ns1 kp1 => ?_)
  case cells =>
    intro x hx
    simp only [List.mem_cons, List.not_mem_nil, or_false] at hx
    rcases hx with rfl | rfl | rfl | rfl <;> exact fun z => nomatch z
  case locs =>
    intro x hx
    rcases List.mem_cons.mp hx with rfl | hx
    · exact T.slf
    · rw [List.mem_singleton.mp hx]; exact T.wdl
  obtain ⟨hp, g, d, tk, os⟩ := s
  have X1 : K.In h1 := fun b o z => kp1 b o (X b o z)
  have g1 := hg.keeps kp1
  have b1 := hb1.keeps kp1
  have e1 := kp1 _ _ he
  have hns : ∀ x, ([("self", Value.ref e), (wd, u)] : List (Str × Value)).reverse.lookup x = if x = wd then some u else if x = ("self" : Str) then some (.ref e) else none := fun x => by
    simp only [List.reverse_cons, List.reverse_nil, List.nil_append, List.cons_append, List.lookup_cons, List.lookup_nil]
    by_cases c : x = wd
    · rw [beq_iff_eq.mpr c, if_pos c]
    · rw [beq_eq_false_iff_ne.mpr c, if_neg c]
      by_cases c2 : x = ("self" : Str)
      · rw [beq_iff_eq.mpr c2, if_pos c2]
      · rw [beq_eq_false_iff_ne.mpr c2, if_neg c2]
  refine ks_wpAt_mono (E := fun _ _ => False) (ks_wpAt_execs_cons (ks_wpAt_Expr_any ?first rfl rfl)) (fun _ _ h => h) fun _ _ z => z.elim
  obtain ⟨pl, hev⟩ := hev hp.objs.size
  have sw : ("self" : Str) ≠ wd := fun z => by
    have z2 := T.wds
    rw [← z] at z2
    exact absurd z2 (by decide)
  refine ks_wpAt_MethodCall ?m1 hev
  refine ks_wpAt_super_base (T.sup) (T.cll) (by decide) rfl (X1 _ _ hfn) rfl rfl rfl (X1 _ _ hcda) rfl hvs hfile T.top ?_
  refine PySem.W.ks_loadName_global rfl T.sup (Calls.loadGlobal_builtin g1 hsup b1 ((hb2 _ (by decide)).trans boot_sup) ⟨rfl, ?_⟩)
  refine wpAny_loadName_free rfl T.cll rfl ⟨_, X1 _ _ hcc, rfl⟩ ?_
  refine wpAny_loadName_local (v := .ref e) rfl T.slf ns1 (by show List.lookup _ _ = _; rw [hns]; show (if ("self" : Str) = wd then _ else _) = _; rw [if_neg sw, if_pos rfl]) ?_
  refine ks_wpAny_isType_cls (X1 _ _ hC) rfl ⟨rfl, ?_⟩
  have I1 : PySem.W.InstAt h1 e (PySem.HandSPX.excO C t0) C none := ⟨e1, rfl, rfl, trivial⟩
  have isC : PySem.W.mroIn K C (.ref C) = some true := by
    unfold PySem.W.mroIn
    rw [hcl]
    simp
  refine ks_wpAny_call_super (X1 _ _ hC) rfl e1 rfl (fun c z => nomatch z) (PySem.W.looks_mroIn X1 isC) (fun h2 so2 kp2 => ?_)
  have X2 : K.In h2 := fun b o z => kp2 b o (X1 b o z)
  have e2 := kp2 _ _ e1
  have I2 : PySem.W.InstAt h2 e (PySem.HandSPX.excO C t0) C none := ⟨e2, rfl, rfl, trivial⟩
  have up := T.up
  unfold PySem.W.ks_superIn at up
  rw [hcl] at up
  refine PySem.ESX.getMethod_super so2 (PySem.W.looks_opaque X2 T.opq) (l₀ := .ref C :: bm) ((PySem.W.looks_clsIn X2 hcl).andThen .now) rfl X2 up (PySem.W.ks_ne X2 I2 hcl) (by decide) (I2.type.andThen (PySem.W.looks_subIn X2 T.exE)) ?_
  have kp3 : ∀ b o, h2.get? b = some o → (h2.push (PySem.ESX.bw e)).get? b = some o := fun b o z => Heap.get?_push_of_some _ z
  have bw3 : (h2.push (PySem.ESX.bw e)).get? h2.objs.size = some (PySem.ESX.bw e) := Heap.get?_push_at rfl rfl
  refine PySem.ESX.callWith_bound (x := e) (PyProof.Rows.args_cons (Calls.Constant_str ?_) rfl) rfl rfl
  refine PyProof.Rows.args_nil ⟨bw3, ?_⟩
  have hlt : e < hp.objs.size := Heap.lt_size he
  have X3 : K.In (h2.push (PySem.ESX.bw e)) := fun b o z => kp3 b o (X2 b o z)
  refine PySem.ESX.call_bw (X3 _ _ hC) (kp3 _ _ e2) bw3 (by show 1 ≤ sizeLine; decide) fun h4 t4 kp4 e4 => ?_
  have kp : ∀ b o, b ≠ e → hp.get? b = some o → h4.get? b = some o := fun b o hb z => kp4 b o hb (kp3 _ _ (kp2 _ _ (kp1 _ _ z)))
  have X4 : K.In h4 := fun b o z => by
    by_cases hb : b = e
    · rw [hb, hke] at z
      cases z
    · exact kp4 b o hb (X3 b o z)
  have ns4 : h4.Ns hp.objs.size (fun x => ([("self", Value.ref e), (wd, u)] : List (Str × Value)).reverse.lookup x) := by
    obtain ⟨oL, es, ep, hL, r⟩ := ns1
    exact ⟨oL, es, ep, kp4 _ _ (Nat.ne_of_gt hlt) (kp3 _ _ (kp2 _ _ hL)), r⟩
  refine ks_wpAt_execs_cons (wpAt_of_wpAny (plainObj_wpAny_Assign_Attribute (PySem.ESX.ldL ns4 (v := u) ?_ (PySem.ESX.ldL ns4 (v := .ref e) ?_ ?_ rfl T.slf) rfl T.wdl T.dbg) rfl))
  · show List.lookup _ _ = _
    rw [hns, if_pos rfl]
  · show List.lookup _ _ = _
    rw [hns, if_neg sw, if_pos rfl]
  have I4 : PySem.W.InstAt h4 e (PySem.HandSPX.excO C t4) C none := ⟨e4, rfl, rfl, trivial⟩
  refine PySem.W.set_plain X4 I4 T.sa ?_
  refine xi_osa X4 e4 hcl rfl hT rfl T.no fun h5 tk5 dx kp5 hdx hne e5 ns5 => ?_
  have big : hp.objs.size ≤ dx := by
    obtain ⟨oL, _, _, hL, _⟩ := ns4
    exact Nat.le_trans (Nat.le_of_lt (Heap.lt_size hL)) hdx
  show wpAt _ _ _ (execs [] _) _ _ _
  rw [execs_nil]
  exact wpAt_of_wpAny (wpAny_pure (hR h5 _ t4 dx (fun b o hb z => kp5 b o hb (kp b o hb z)) big hne e5 ns5))
/-- C(e): the exception, with its one field -/
def tXi (C : Addr) (wd : Str) (ta : TA) : L2.St → Hp → XK → Prop := fun σ H Q => ta σ H fun vs H1 => ∃ y, vs = [y] ∧ ∀ d, H1 d = none → Q (.ref C) (some d) (upd H1 d (.xd [(wd, y)]))
theorem pmk_xi {X : Cx} {x wd : Str} {C fI : Addr} {e : Expr} {ta : TA} {p pos : Pos} (T : XiC X.prog X.K C fI wd) (hsup : X.mg "super" = none) (hr : Room 1 X.A) (hg : Gl X x) (hm : X.mg x = some (.ref C)) (ha : PA X [e] ta)
    (hdb : (x == ("__debug__" : Str)) = false := by decide) (he : starEach [e] X.env = (false, eval e X.env) :: starEach [] X.env := by rfl) (hpl : (backTo pos (starEach [] X.env)).any (·.1) = false := by rfl) : PMk X (.Call (.Name x p) [e] [] pos) (tXi C wd ta) := by
  intro pins s σ H Q I h
  obtain ⟨nm, q, N, bs, bm, sn, sub, ab, col, dd, k0, k1, k2, k3, k5, hC, hT⟩ := T.cls
  refine wpAny_Call_Name_kw (ld_glob I hg hm ?_ hdb)
  refine PySem.W.callWith_K (h₀ := X.base) I.ok.mod.kin T.kC (thn (ha.run pos pins s σ H _ I h) fun us s1 ⟨vs, H1, I1, r1, y, hv, q1⟩ => ⟨I1.kIn, ?_⟩) he hpl
  subst hv
  obtain ⟨u, hu, ry⟩ := r1.one
  subst hu
  show wpAny _ _ (call (.ref C) [u]) _ _ _
  obtain ⟨hp, g, dr, tk, os⟩ := s1
  have kk : ∀ b o, hp.get? b = some o → ((hp.push (PySem.W.kdv_tup [u])).push (PySem.HandSPX.excO C hp.objs.size)).get? b = some o := fun b o z => Heap.get?_push_of_some _ (Heap.get?_push_of_some _ z)
  have hge : ((hp.push (PySem.W.kdv_tup [u])).push (PySem.HandSPX.excO C hp.objs.size)).get? (hp.objs.size + 1) = some (PySem.HandSPX.excO C hp.objs.size) := by heap_get
  have Xk : X.K.In hp := I1.kIn
  have nol : hp.NoLimit := I1.ok.mod.nolimit.keeps I1.bk
  refine wpAny_call (PySem.HandSPX.call_own F.excBase_Exception (fun Y => PySem.W.excTail_contains Y bm hT) (Xk _ _ hC) (PySem.W.looks_findIn Xk T.init) (fun self => PySem.W.bind_fn Xk self T.tI) (by show 1 ≤ sizeLine; decide) ?_)
  have fresh : X.K.lookup (hp.objs.size + 1) = none := by
    cases z : X.K.lookup (hp.objs.size + 1) with
    | none => rfl
    | some o =>
      have z2 : hp.objs.size + 1 < hp.objs.size := Heap.lt_size (Xk _ _ z)
      exact absurd z2 (Nat.not_lt_of_le (Nat.le_succ _))
  refine xi_run (mg := X.mg) T (fun b o z => kk b o (Xk b o z)) ?_ ?_ ?_ hsup ?_ hge fresh fun h2 tk2 t1 dx kp hdx hne e2 ns2 => ?_
  · exact (I1.ok.mod.glob.keeps I1.bk).keeps kk
  · obtain ⟨mb, h1, h2⟩ := I1.ok.mod.blt
    exact ⟨mb, (h1.keeps I1.bk).keeps kk, h2⟩
  · exact nol.keeps kk
  · exact (hr.make C [u] []).depth
  have keep : ∀ b o, hp.get? b = some o → h2.get? b = some o := fun b o z => kp b o (fun c => by
    have z2 : b < hp.objs.size := Heap.lt_size z
    exact Nat.ne_of_lt (Nat.lt_succ_of_lt z2) c) (kk b o z)
  have hdx2 : hp.objs.size ≤ dx := by
    have z : ((hp.push (PySem.W.kdv_tup [u])).push (PySem.HandSPX.excO C hp.objs.size)).objs.size = hp.objs.size + 2 := by rw [Heap.size_push, Heap.size_push]
    have hdx' : ((hp.push (PySem.W.kdv_tup [u])).push (PySem.HandSPX.excO C hp.objs.size)).objs.size ≤ dx := hdx
    rw [z] at hdx'
    exact Nat.le_trans (Nat.le_add_right _ 2) hdx'
  -- the heap without the exception
  obtain ⟨G, gin, gout⟩ := restrict h2 fun b => decide (b ≠ hp.objs.size + 1)
  have gk : ∀ b, b ≠ hp.objs.size + 1 → G.get? b = h2.get? b := fun b hb => gin b (decide_eq_true hb)
  have ge : G.get? (hp.objs.size + 1) = none := gout _ (by simp)
  have kG : ∀ b o, hp.get? b = some o → G.get? b = some o := fun b o z => by
    have z2 : b < hp.objs.size := Heap.lt_size z
    have ne : b ≠ hp.objs.size + 1 := Nat.ne_of_lt (Nat.lt_succ_of_lt z2)
    rw [gk b ne]
    exact keep b o z
  have back : ∀ b o, G.get? b = some o → h2.get? b = some o := fun b o z => by
    by_cases hb : b = hp.objs.size + 1
    · rw [hb, ge] at z; cases z
    · rw [← gk b hb]; exact z
  have nsG : G.Ns1 dx (fun y => if y = wd then some u else none) := ns2.at fun o z => by rw [gk dx hne]; exact z
  have okd : ObjOk X.prog X.w H1 G dx (.xd [(wd, y)]) := ⟨_, nsG, fun f => by
    have z := relO_put (f := wd) (fs := []) (mA := fun _ => none) ry (fun _ => True.intro) f
    exact z⟩
  have hn : H1 dx = none := I1.hok.fresh hdx2
  have hno : H1 (hp.objs.size + 1) = none := I1.hok.fresh (Nat.le_succ _)
  have J : Inv X pins σ (upd H1 dx (.xd [(wd, y)])) { (⟨hp, g, dr, tk, os⟩ : Shared) with heap := G, toks := tk2 } := I1.laid (t' := tk2) kG hdx2 okd
  refine ⟨rfl, ?_⟩
  exact ⟨hp.objs.size + 1, _, _, _, _, .ref C, some dx, rfl, J, back, ge, e2, ⟨rfl, rfl⟩, rfl, rfl, by rw [upd_ne (Ne.symm hne)]; exact hno, rfl, I1.bare, raises_own T.exC T.tyC, q1 dx hn⟩
end DL

set_option maxRecDepth 100000
set_option maxHeartbeats 2000000
/-! DL, raise and try. -/
namespace L2
open PySem PySem.Spec
/-! ### clauses of both kinds: except X: .. and except X as n: .. -/
def intoSuite (σ : L2.St) (a : Addr) : Option Nat → L2.St
  | none => σ
  | some i => σ.set i (some (.ref a))
def afterSuite (D : Ends) : Option Nat → Ends
  | none => D
  | some i => { nx := fun σ' H' => D.nx (σ'.set i none) H', rt := D.rt, bk := fun σ' H' => D.bk (σ'.set i none) H', ct := fun σ' H' => D.ct (σ'.set i none) H' }
abbrev Clause := Value × Option Nat × (Addr → Value → Option Addr → TS)
def wMix (K : PySem.W.Frag) (Wo : WX) (D : Ends) : List Clause → WX
  | [] => Wo
  | (c, o, ts) :: r => fun cls d σ H => ∃ b, PySem.W.exmOne K cls c = some b ∧ (b = true → ∀ a, H a = none → ts a cls d (afterSuite D o) (intoSuite σ a o) H) ∧ (b = false → wMix K Wo D r cls d σ H)
inductive ClausesOk (X : Cx) : List ExceptHandler → List Clause → Prop
  | nil : ClausesOk X [] []
  | anon {x : Str} {c : Value} {ts : Addr → Value → Option Addr → TS} {st : Stmt} {sts : List Stmt} {p q : Pos} {hs : List ExceptHandler} {l : List Clause} (hc : Names X x c)
      (su : ∀ (a : Addr) (oe : Obj) (cls : Value) (d : Option Addr) (pn : List (Addr × Obj)), Zc cls d oe → (∃ vs, oe.data = .fields vs) → PSs (X.suite a ((a, oe) :: pn)) (st :: sts) (ts a cls d)) (r : ClausesOk X hs l) :
      ClausesOk X (.ExceptHandler (some (.Name x p)) none (st :: sts) q :: hs) ((c, none, ts) :: l)
  | named {x n : Str} {i : Nat} {c : Value} {ts : Addr → Value → Option Addr → TS} {st : Stmt} {sts : List Stmt} {p q : Pos} {hs : List ExceptHandler} {l : List Clause} (hN : X.N.Nodup) (hi : X.N[i]? = some n) (hn : X.env.kindOf n = some .local) (hc : Names X x c)
      (su : ∀ (a : Addr) (oe : Obj) (cls : Value) (d : Option Addr) (pn : List (Addr × Obj)), Zc cls d oe → (∃ vs, oe.data = .fields vs) → PSs (X.suite a ((a, oe) :: pn)) (st :: sts) (ts a cls d)) (r : ClausesOk X hs l) :
      ClausesOk X (.ExceptHandler (some (.Name x p)) (some n) (st :: sts) q :: hs) ((c, some i, ts) :: l)
section
variable {X : Cx} {body : List Stmt} {h1 : ExceptHandler} {hs : List ExceptHandler} {l : List Clause} {pos : Pos} {tb : WX → TS} {Wo : WX}
theorem ps_try_mix (stk : X.stack = X.env :: X.outer) (fr : X.env.frame = some X.env.locals) (tk : Takes X Wo)
    (hb : ∀ (W : WX) (pn : List (Addr × Obj)) (xe : Value → Shared → Prop), Takes (X.tr pn xe) W → PassesOwn (model X.prog X.w) X.A X.env xe → PSs (X.tr pn xe) body (tb W)) (cl : ClausesOk X (h1 :: hs) l) :
    PS X (.Try body (h1 :: hs) [] [] pos) (fun D σ H => tb (wMix X.K Wo D l) D σ H) := by
  refine ⟨fun pins s σ H D I h => ?_⟩
  have ok := I.ok
  have frames : X.A.frames = some (X.env :: X.outer) := by rw [ok.frames, stk]
  refine wpAny_Try_except ?_
  refine wpAny_mono ((hb (wMix X.K Wo D l) (X.pn ++ pins) (fun e sa => wpAny (model X.prog X.w) X.A (noteFrame e X.env) (fun _ sb => wpAny (model X.prog X.w) X.A (setFlight e none) (fun _ sc =>
    wpAny (model X.prog X.w) X.A (handleBy e X.env (h1 :: hs)) (SP X pins D) X.xe sc) X.xe sb) X.xe sa) (fun u s' caught => ?_) PassesOwn.looking).run [] s σ H D (I.toTry _) h) (fun f s1 hsp => ?_) (fun e s1 he => he)
  · obtain ⟨a, B, sI, pins', σ1, H1, cls, d, rfl, JT, below, up, sky, na, os, ag, wish⟩ := caught
    have J : Inv X pins σ1 H1 sI := JT.ofTry ok
    rw [stk] at sky
    show wpAny (model X.prog X.w) X.A (noteFrame (.ref a) X.env) _ _ _
    refine Sky.land Zc.steady frames fr sky fun h3 fl up3 => ?_
    have J3 : Inv X pins σ1 H1 { s' with heap := h3 } := J.landed below fl.1 (up.trans up3) os ag
    obtain ⟨oe, vs, he, hz, hd⟩ := fl.there
    have out : a ∉ frs (X.env :: X.outer) := fun hm => by
      obtain ⟨_, o2, e2, no⟩ := fl.2.2.1.mem hm
      have e3 := he.symm.trans e2
      cases e3
      exact no _ hd
    have nL : a ≠ X.env.locals := fun z => out (List.mem_filterMap.mpr ⟨X.env, List.mem_cons_self, by rw [fr, z]⟩)
    have nF : a ∉ X.fs := fun hm => by
      obtain ⟨e, h5, h6⟩ := List.mem_filterMap.mp hm
      exact out (List.mem_filterMap.mpr ⟨e, List.mem_cons_of_mem _ h5, h6⟩)
    have ST := J3.suite he hd na nL nF
    have isCls : PySem.W.Looks (model X.prog X.w) h3 (typeOf (.ref a)) cls := fun A Q E s k q => wpAny_typeOf_ref (k _ _ he) (by rw [hz.1]; exact q)
    have ask : ∀ {x : Str} {c : Value} {p : Pos} {Q : Value → Shared → Prop} {E : Value → Shared → Prop}, Names X x c → Q c { s' with heap := h3 } → wpAny (model X.prog X.w) (X.A.mark (some (.ref a))) (eval (.Name x p) X.env) Q E { s' with heap := h3 } := fun {x c p Q E} hc q => by
      obtain ⟨hg, hdb, hm | ⟨hm, hv, hnn⟩⟩ := hc
      · exact ld_glob (X := X.suite a ((a, oe) :: (X.pn ++ pins))) ST hg hm q hdb
      · exact ld_blt (X := X.suite a ((a, oe) :: (X.pn ++ pins))) ST hg hm hv q hnn hdb
    -- a suite's start
    have begin_ : ∀ {A : Around} {E : Value → Shared → Prop} {Q : Unit → Shared → Prop}, (∀ s4 oe4, Zc cls d oe4 → (∃ vs, oe4.data = .fields vs) → Inv (X.suite a ((a, oe4) :: (X.pn ++ pins))) [] σ1 H1 s4 → Q () s4) → wpAny (model X.prog X.w) A (setFlight (.ref a) none) Q E { s' with heap := h3 } := fun {A E Q} k => by
      refine HandSPX.lands_againZ fl fun h4 fl4 up4 => ?_
      have J4 : Inv X pins σ1 H1 { s' with heap := h4 } := J.landed below fl4.1 ((up.trans up3).trans up4) os ag
      obtain ⟨oe4, vs4, he4, hz4, hd4⟩ := fl4.there
      exact k _ oe4 hz4 ⟨_, hd4⟩ (J4.suite he4 hd4 na nL nF)
    have go : ∀ {hs2 : List ExceptHandler} {l2 : List Clause}, ClausesOk X hs2 l2 → wMix X.K Wo D l2 cls d σ1 H1 → wpAny (model X.prog X.w) X.A (handleBy (.ref a) X.env hs2) (SP X pins D) X.xe { s' with heap := h3 } := by
      intro hs2 l2 ck
      induction ck with
      | nil =>
        intro wish
        refine wpAny_handleBy_nil ?_
        obtain ⟨_, _, _, oe5, vs5, T, _, _, he5, _, hd5, hT, _⟩ := id fl
        unfold PySem.passOn
        refine wpAny_bind (wpAny_field he5 hd5 hT ?_)
        rw [if_neg (show ¬ ((Value.ref T == Value.none) = true) from by simp)]
        have last : wpAny (model X.prog X.w) X.A (setFlight (.ref a) X.env.frame) (fun _ s4 => wpAny (model X.prog X.w) X.A (throw (.ref a) : Sem Flow) (SP X pins D) X.xe s4) X.xe { s' with heap := h3 } := by
          rw [fr]
          refine HandSPX.setFlight_upZ fl fun h4 held up4 => wpAny_throw (tk _ _ ?_)
          exact ⟨a, B, sI, pins, σ1, H1, cls, d, rfl, J, below, (up.trans up3).trans up4, .inr (.inr (by rw [stk]; exact held)), na, os, ag, wish⟩
        first
          | exact wpAny_bind (wpAny_pure (wpAny_bind last))
          | exact wpAny_bind last
      | @anon x c ts st sts p q hs3 l3 hc su r ih =>
        rintro ⟨b, hb1, yes, no⟩
        refine wpAny_handleBy_cons (codeAny_handlers_test (ask hc ((PySem.W.exm_one (M := model X.prog X.w) J3.kIn isCls hb1).here ?_))) (by intro z; cases z)
        cases b with
        | false => exact ih (no rfl)
        | true =>
          refine codeAny_handlers_suite (begin_ fun s4 oe4 hz4 hf4 S4 => ?_)
          refine wpAny_mono ((su a oe4 cls d (X.pn ++ pins) hz4 hf4).run [] _ _ H1 _ S4 (yes rfl a na)) (fun f s6 hsp => ?_) (fun _ _ z => z.elim)
          cases f with
          | next => exact let ⟨σ6, H6, S6, q6⟩ := hsp; ⟨σ6, H6, S6.unsuite ok, q6⟩
          | brk => exact let ⟨σ6, H6, S6, q6⟩ := hsp; ⟨σ6, H6, S6.unsuite ok, q6⟩
          | cont => exact let ⟨σ6, H6, S6, q6⟩ := hsp; ⟨σ6, H6, S6.unsuite ok, q6⟩
          | ret u => exact let ⟨v6, σ6, H6, S6, r6, q6⟩ := hsp; ⟨v6, σ6, H6, S6.unsuite ok, r6, q6⟩
      | @named x n i c ts st sts p q hs3 l3 hN hi hn hc su r ih =>
        rintro ⟨b, hb1, yes, no⟩
        refine wpAny_handleBy_cons (codeAny_handlers_test (ask hc ((PySem.W.exm_one (M := model X.prog X.w) J3.kIn isCls hb1).here ?_))) (by intro z; cases z)
        cases b with
        | false => exact ih (no rfl)
        | true =>
          refine codeAny_handlers_suite_as (begin_ fun s4 oe4 hz4 hf4 S4 => ?_)
          refine store_ok (X := X.suite a ((a, oe4) :: (X.pn ++ pins))) (v := .ref a) S4 hN hi (.inl hn) rfl (fun s5 S5 => ?_) (.inr hn)
          refine wpAny_mono ((su a oe4 cls d (X.pn ++ pins) hz4 hf4).run [] s5 _ H1 _ S5 (yes rfl a na)) (fun f s6 hsp => ?_) (fun _ _ z => z.elim)
          have gone : ∀ {σ6 : L2.St} {H6 : Hp} {Q : Shared → Prop}, Inv (X.suite a ((a, oe4) :: (X.pn ++ pins))) [] σ6 H6 s6 → (∀ s7, Inv X pins (σ6.set i none) H6 s7 → Q s7) →
              wpAny (model X.prog X.w) X.A (do bindName X.env n .none; unbindBehindTheSuite X.env n q) (fun _ s7 => Q s7) X.xe s6 := fun {σ6 H6 Q} S6 k => gone_ok (S6.unsuite ok) hN hi hn k
          cases f with
          | next => exact let ⟨σ6, H6, S6, q6⟩ := hsp; gone S6 fun s7 J7 => ⟨_, _, J7, q6⟩
          | brk => exact let ⟨σ6, H6, S6, q6⟩ := hsp; gone S6 fun s7 J7 => ⟨_, _, J7, q6⟩
          | cont => exact let ⟨σ6, H6, S6, q6⟩ := hsp; gone S6 fun s7 J7 => ⟨_, _, J7, q6⟩
          | ret u => exact let ⟨v6, σ6, H6, S6, r6, q6⟩ := hsp; gone S6 fun s7 J7 => ⟨_, _, _, J7, r6, q6⟩
    exact go cl wish
  · cases f with
    | next => exact let ⟨σ2, H2, J2, q⟩ := hsp; wpAny_execs_nil ⟨σ2, H2, J2.ofTry ok, q⟩
    | brk => exact let ⟨σ2, H2, J2, q⟩ := hsp; ⟨σ2, H2, J2.ofTry ok, q⟩
    | cont => exact let ⟨σ2, H2, J2, q⟩ := hsp; ⟨σ2, H2, J2.ofTry ok, q⟩
    | ret u => exact let ⟨v, σ2, H2, J2, r, q⟩ := hsp; ⟨v, σ2, H2, J2.ofTry ok, r, q⟩
end
end L2
namespace DL
open PySem PySem.Spec L2
/-! ### raise C(e) -/
def dRaise (C : Addr) (wd : Str) (te : DTE) : DTS := fun N ρ S => te ρ S (fun d S1 => N.ex ρ C [wd] [d] S1) (N.ex ρ)
section
variable {X : Cx} {W : WX} {x wd : Str} {C fI : Addr} {e : Expr} {te : DTE} {p pos pos' : Pos}
theorem ds_raise (T : XiC X.prog X.K C fI wd) (hsup : X.mg "super" = none) (hr : Room 1 X.A) (hc : X.calm = true) (tk : Takes X W) (hm : X.mg x = some (.ref C)) (he : DE X W e te) (hg : Gl X x := by rfl)
    (hdb : (x == ("__debug__" : Str)) = false := by decide) (hst : starEach [e] X.env = (false, eval e X.env) :: starEach [] X.env := by rfl) (hpl : (backTo pos (starEach [] X.env)).any (·.1) = false := by rfl) :
    DS X W (.Raise (some (.Call (.Name x p) [e] [] pos)) none pos') (dRaise C wd te) :=
  ds_ps (ps_raise hc tk (pmk_xi T hsup hr hg hm (da_cons he da_nil hst).pa hdb hst hpl)) fun N σ H ⟨ρ, S, F, Z, Q, R, V, q, l⟩ => by
    refine ⟨ρ, S, F, Z, _, _, R, V, (show dCons te dNil ρ S (fun ds S1 => ∃ d, ds = [d] ∧ Q.ex ρ C [wd] [d] S1) (Q.ex ρ) from ?_), fun vs H1 ⟨ds, S1, F1, A1, i1, d, hd, q1⟩ => ?_, l.xe V⟩
    · have key : ∀ (t : DTE) (ρ : Sl) (S : Store) (Q Q' : DQ) (E : DX), Q = Q' → t ρ S Q E → t ρ S Q' E := fun t ρ S Q Q' E e h => e ▸ h
      refine key te ρ S _ _ _ ?_ q
      funext d S1
      exact propext ⟨fun h => ⟨d, rfl, h⟩, fun ⟨d', e', h⟩ => by
        cases e'
        exact h⟩
    · subst hd
      obtain ⟨v, rfl, iv⟩ := isVs_one i1
      refine ⟨v, rfl, fun dd hdd => ?_⟩
      obtain ⟨R2, k2⟩ := A1.rel.own_dict (o := .xd [(wd, v)]) hdd
      have zd : ¬ Z dd := fun z => by
        obtain ⟨o, z2⟩ := A1.rel.hid dd z
        rw [hdd] at z2; cases z2
      have sd : S1 dd = none := no_some fun m z => by
        obtain ⟨_, o, z2, _⟩ := A1.rel.sto dd m z
        rw [hdd] at z2; cases z2
      have fd : F1 dd = none := no_some fun o z => by
        have z2 := (A1.rel.sub dd o z).1
        rw [hdd] at z2; cases z2
      exact l.ex _ _ _ _ ⟨C, [wd], [d], ρ, S1, F1, rfl, A1.trans ⟨Same.refl _, R2, k2⟩, V.up A1.sm, .inr ⟨dd, [(wd, v)], rfl, upd_same, sd, fd, zd, rfl, .cons iv .nil⟩, q1⟩
end
/-! ### try -/
abbrev DClause := Value × Option Nat × (Addr → Value → Option Addr → DTS)
def dInto (ρ : Sl) (a : Addr) : Option Nat → Sl
  | none => ρ
  | some i => ρ.set i (some (.ref a))
def dAfter (N : DEnds) : Option Nat → DEnds
  | none => { N with ex := fun _ _ _ _ _ => False }
  | some i => { nx := fun ρ S => N.nx (ρ.set i none) S, rt := N.rt, bk := fun ρ S => N.bk (ρ.set i none) S, ct := fun ρ S => N.ct (ρ.set i none) S, ex := fun _ _ _ _ _ => False }
def dHand (K : PySem.W.Frag) (N : DEnds) : List DClause → Sl → DX
  | [] => N.ex
  | (c, o, T) :: r => fun ρ C ns ds S => ∃ b, PySem.W.exmOne K (.ref C) c = some b ∧
    (b = true → ∀ a, S a = none → (ns = [] → ds = [] → T a (.ref C) none (dAfter N o) (dInto ρ a o) S) ∧ ∀ dd, S dd = none → dd ≠ a → T a (.ref C) (some dd) (dAfter N o) (dInto ρ a o) (put S dd (.xd ns ds))) ∧ (b = false → dHand K N r ρ C ns ds S)
def dTry (K : PySem.W.Frag) (tb : DTS) (l : List DClause) : DTS := fun N ρ S => tb { N with ex := dHand K N l } ρ S
def upC (K : PySem.W.Frag) (c : DClause) : Clause := (c.1, c.2.1, fun a cls d => upS K W0 (c.2.2 a cls d))
structure DCs (X : Cx) (hs : List ExceptHandler) (l : List DClause) : Prop where
  ok : ClausesOk X hs (l.map (upC X.K))
section
variable {X : Cx} {W : WX}
theorem dcs_nil : DCs X [] [] := ⟨.nil⟩
theorem dcs_anon {x : Str} {c : Value} {T : Addr → Value → Option Addr → DTS} {st : Stmt} {sts : List Stmt} {p q : Pos} {hs : List ExceptHandler} {l : List DClause} (hc : Names X x c)
    (su : ∀ (a : Addr) (oe : Obj) (cls : Value) (d : Option Addr) (pn : List (Addr × Obj)), Zc cls d oe → (∃ vs, oe.data = .fields vs) → DSs (X.suite a ((a, oe) :: pn)) W0 (st :: sts) (T a cls d)) (r : DCs X hs l) :
    DCs X (.ExceptHandler (some (.Name x p)) none (st :: sts) q :: hs) ((c, none, T) :: l) := ⟨.anon hc (fun a oe cls d pn h1 h2 => (su a oe cls d pn h1 h2).pss) r.ok⟩
theorem dcs_named {x n : Str} {i : Nat} {c : Value} {T : Addr → Value → Option Addr → DTS} {st : Stmt} {sts : List Stmt} {p q : Pos} {hs : List ExceptHandler} {l : List DClause} (hN : X.N.Nodup) (hc : Names X x c)
    (su : ∀ (a : Addr) (oe : Obj) (cls : Value) (d : Option Addr) (pn : List (Addr × Obj)), Zc cls d oe → (∃ vs, oe.data = .fields vs) → DSs (X.suite a ((a, oe) :: pn)) W0 (st :: sts) (T a cls d)) (r : DCs X hs l)
    (hi : X.N[i]? = some n := by rfl) (hn : X.env.kindOf n = some .local := by rfl) :
    DCs X (.ExceptHandler (some (.Name x p)) (some n) (st :: sts) q :: hs) ((c, some i, T) :: l) := ⟨.named hN hi hn hc (fun a oe cls d pn h1 h2 => (su a oe cls d pn h1 h2).pss) r.ok⟩
theorem after_lift {K : PySem.W.Frag} {Z : Addr → Prop} {H F : Hp} {N : DEnds} {D : Ends} (l : LftS K W Z H F N D) : ∀ o : Option Nat, LftS K W0 Z H F (dAfter N o) (afterSuite D o)
  | none => ⟨l.nx, l.rt, l.bk, l.ct, fun _ _ _ _ ⟨_, _, _, _, _, _, _, _, _, _, z⟩ => z⟩
  | some i => ⟨fun σ' H' ⟨ρ', S', F', A', V', q'⟩ => l.nx _ _ ⟨_, S', F', A', V'.forget i, q'⟩, l.rt, fun σ' H' ⟨ρ', S', F', A', V', q'⟩ => l.bk _ _ ⟨_, S', F', A', V'.forget i, q'⟩,
      fun σ' H' ⟨ρ', S', F', A', V', q'⟩ => l.ct _ _ ⟨_, S', F', A', V'.forget i, q'⟩, fun _ _ _ _ ⟨_, _, _, _, _, _, _, _, _, _, z⟩ => z⟩
theorem into_lift {K : PySem.W.Frag} {F : Hp} {ρ : Sl} {σ : L2.St} (V : EnvR K F ρ σ) (a : Addr) : ∀ o : Option Nat, EnvR K F (dInto ρ a o) (intoSuite σ a o)
  | none => V
  | some i => V.set (.ref a) i
theorem hand_lift {K : PySem.W.Frag} {Z : Addr → Prop} {H F : Hp} {N : DEnds} {D : Ends} (lf : LftS K W Z H F N D) : ∀ (l : List DClause) (cls : Value) (d : Option Addr) (σ : L2.St) (H1 : Hp), LftW K Z H F (dHand K N l) cls d σ H1 → wMix K W D (l.map (upC K)) cls d σ H1
  | [], cls, d, σ, H1, h => lf.ex cls d σ H1 h
  | (c, o, T) :: r, cls, d, σ, H1, ⟨C, ns, ds, ρ, S1, F1, e, A1, V1, xr, b, hb, yes, no⟩ => by
    subst e
    refine ⟨b, hb, fun hb1 a ha => ?_, fun hb0 => hand_lift lf r _ d σ H1 ⟨C, ns, ds, ρ, S1, F1, rfl, A1, V1, xr, no hb0⟩⟩
    have sa : S1 a = none := no_some fun m z => by
      obtain ⟨_, o, z2, _⟩ := A1.rel.sto a m z
      rw [ha] at z2; cases z2
    obtain ⟨y1, y2⟩ := yes hb1 a sa
    rcases xr with ⟨rfl, rfl, rfl⟩ | ⟨dd, fs, rfl, hdd, sd, fd, zd, x1, x2⟩
    · exact ⟨_, S1, F1, Z, _, A1.rel, into_lift V1 a o, y1 rfl rfl, after_lift (lf.tr A1) o⟩
    · have ne : dd ≠ a := fun z => by rw [z, ha] at hdd; cases hdd
      have R2 := A1.rel.ownS (m := .xd ns ds) hdd sd fd zd ⟨fs, rfl, x1, x2⟩
      exact ⟨_, _, F1, Z, _, R2, into_lift V1 a o, y2 dd sd ne, after_lift (lf.tr A1) o⟩
theorem ds_try {body : List Stmt} {h1 : ExceptHandler} {hs : List ExceptHandler} {l : List DClause} {tb : DTS} {pos : Pos} (stk : X.stack = X.env :: X.outer) (fr : X.env.frame = some X.env.locals) (tk : Takes X W)
    (hb : ∀ (W' : WX) (pn : List (Addr × Obj)) (xe : Value → Shared → Prop), Takes (X.tr pn xe) W' → PassesOwn (model X.prog X.w) X.A X.env xe → DSs (X.tr pn xe) W' body tb) (cl : DCs X (h1 :: hs) l) : DS X W (.Try body (h1 :: hs) [] [] pos) (dTry X.K tb l) :=
  ds_ps (ps_try_mix (tb := fun W2 => upS X.K W2 tb) stk fr tk (fun W' pn xe t p => (hb W' pn xe t p).pss) cl.ok) fun N σ H ⟨ρ, S, F, Z, Q, R, V, q, lf⟩ =>
    ⟨ρ, S, F, Z, _, R, V, q, ⟨lf.nx, lf.rt, lf.bk, lf.ct, fun cls d σ' H' h => hand_lift lf l cls d σ' H' h⟩⟩
/-- e.f of the caught exception -/
def dXf (a : Addr) (cls : Value) (d : Option Addr) (C : Addr) (f : Str) (te : DTE) : DTE := fun ρ S Q E => te ρ S (fun x S1 => x = .ref a ∧ cls = .ref C ∧ ∃ dd ns ds v, d = some dd ∧ S1 dd = some (.xd ns ds) ∧ (ns.zip ds).lookup f = some v ∧ Q v S1) E
theorem de_xf {a C : Addr} {oe : Obj} {cls : Value} {d : Option Addr} {pn : List (Addr × Obj)} {e : Expr} {te : DTE} {pos : Pos} {n : Str} (T : XfC X.K C) (hno : PySem.W.findIn X.K (.ref C) n = some none) (hz : Zc cls d oe) (hf : ∃ vs, oe.data = .fields vs)
    (he : DE (X.suite a ((a, oe) :: pn)) W e te) (hb : attributeBase e n X.env (eval e X.env) = eval e X.env := by rfl) : DE (X.suite a ((a, oe) :: pn)) W (.Attribute e n pos) (dXf a cls d C n te) :=
  de_pe (pe_xf T hno hz hf he.pe hb) fun σ H P ⟨ρ, S, F, Z, Q, E, R, V, q, k, x⟩ => ⟨ρ, S, F, Z, _, E, R, V, q, fun v H1 ⟨dv, S1, F1, A1, i1, e1, e2, dd, ns, ds, w, e3, hs, hl, q1⟩ => by
    subst e1
    cases i1
    obtain ⟨_, o, ho, fs, rfl, h2, h3⟩ := A1.rel.sto dd _ hs
    obtain ⟨u, hu, iu⟩ := (pr_of h2 h3).lookup hl
    exact ⟨rfl, e2, dd, fs, u, e3, ho, hu, k _ _ ⟨w, S1, F1, A1, iu, q1⟩⟩, x⟩
end
end DL

set_option maxRecDepth 100000
set_option maxHeartbeats 2000000
/-! DL, repr of trees. -/
namespace DL
open PySem PySem.Spec L2
def keyP : Key → PyData
  | .inl i => .int i
  | .inr x => .str x
mutual
/-- what repr shows of a tree -/
def showD : D → Option PyData
  | .non => some .none
  | .bl b => some (.bool b)
  | .int i => some (.int i)
  | .str x => some (.str x)
  | .tup ds => (showDs ds).map .tuple
  | .lst ds => (showDs ds).map .list
  | .dK ks ds => (showDs ds).map fun ps => .dict ((ks.map keyP).zip ps)
  | _ => none
def showDs : List D → Option (List PyData)
  | [] => some []
  | d :: ds => match showD d, showDs ds with
    | some p, some ps => some (p :: ps)
    | _, _ => none
end
mutual
/-- no list in it -/
def noL : D → Bool
  | .lst _ => false
  | .tup ds => noLs ds
  | .dK _ ds => noLs ds
  | _ => true
def noLs : List D → Bool
  | [] => true
  | d :: ds => noL d && noLs ds
end
theorem showDs_cons {d : D} {ds : List D} {ps : List PyData} (h : showDs (d :: ds) = some ps) : ∃ p r, ps = p :: r ∧ showD d = some p ∧ showDs ds = some r := by
  unfold showDs at h
  cases e1 : showD d with
  | none => rw [e1] at h; cases h
  | some p =>
    cases e2 : showDs ds with
    | none => rw [e1, e2] at h; cases h
    | some r =>
      rw [e1, e2] at h
      cases h
      exact ⟨p, r, rfl, rfl, rfl⟩
theorem map_some {α β : Type} {f : α → β} {o : Option α} {y : β} (h : o.map f = some y) : ∃ x, o = some x ∧ y = f x := by
  cases o with
  | none => cases h
  | some x => exact ⟨x, rfl, (Option.some.inj h).symm⟩
section
variable {X : Cx} {pins : List (Addr × Obj)} {σ : L2.St} {H : Hp} {s : Shared} {F : Hp}
/-- addresses that are no module table -/
def Off (as : List Addr) : Prop := sysModules ∉ as
theorem off_app {as bs : List Addr} (h1 : Off as) (h2 : Off bs) : Off (as ++ bs) := fun h => (List.mem_append.mp h).elim h1 h2
theorem off_cons {a : Addr} {as : List Addr} (h1 : a ≠ sysModules) (h2 : Off as) : Off (a :: as) := fun h => (List.mem_cons.mp h).elim (fun z => h1 z.symm) h2
theorem reads_key {P : Program} {w : World} {h : Heap} {k : Key} {u : Value} (e : (mixKind P w).is k u = true) : Reads h u (keyP k) [] := by
  cases k with
  | inl i =>
    have e' : Value.isInt i u = true := e
    obtain ⟨t, rfl⟩ := Value.isInt_shape e'
    exact .int i t
  | inr x =>
    have e' : Value.isStrOf x u = true := e
    cases u with
    | str y t =>
      have e2 : y = x := by simpa [Value.isStrOf] using e'
      subst e2
      exact .str y t
    | _ => cases e'
theorem readsAll_len {h : Heap} : ∀ {vs : List Value} {ps : List PyData} {as : List Addr}, ReadsAll h vs ps as → vs.length = ps.length
  | _, _, _, .nil => rfl
  | _, _, _, .cons _ r => congrArg (· + 1) (readsAll_len r)
/-- the pairs of a dict, read -/
theorem reads_pairs {κ : Type} [DecidableEq κ] {P : Program} {w : World} {knd : KeyKind P w κ} {h : Heap} {enc : κ → PyData} (hk : ∀ k u, knd.is k u = true → Reads h u (enc k) []) : ∀ {es : List DictEntry} {kvs : List (κ × Value)} {ps : List PyData} {as : List Addr},
    Pairs knd es kvs → ReadsAll h (kvs.map (·.2)) ps as → ReadsAll h (es.map (·.key)) (((kvs.map (·.1)).map enc).zip ps |>.map (·.1)) [] ∧ ReadsAll h (es.map (·.val)) (((kvs.map (·.1)).map enc).zip ps |>.map (·.2)) as
  | _, _, _, _, .nil, r => by
    cases r
    exact ⟨.nil, .nil⟩
  | _, _, _, _, .cons h1 h2 h3, r => by
    cases r with
    | cons r1 r2 =>
      obtain ⟨a, b⟩ := reads_pairs hk h3 r2
      exact ⟨.cons (hk _ _ h1) a, .cons (by show Reads h _ _ _; rw [show (fun x : DictEntry => x.val) _ = _ from h2]; exact r1) b⟩
theorem kv_split : ∀ {kvs : List (Key × V)} {vs : List (Key × Value)}, KV kvs vs → kvs.map (·.1) = vs.map (·.1) ∧ Vals (kvs.map (·.2)) (vs.map (·.2))
  | _, _, .nil => ⟨rfl, .nil⟩
  | _, _, .cons h t => by
    obtain ⟨a, b⟩ := kv_split t
    exact ⟨by rw [List.map_cons, List.map_cons, a, h.1], .cons h.2 b⟩
mutual
theorem reads_of (I : Inv X pins σ H s) (sub : ∀ b u, F b = some u → H b = some u) : ∀ (d : D) (v : V) (u : Value) (p : PyData), IsV X.K F d v → RelV v u → showD d = some p → ∃ as, Reads s.heap u p as ∧ (noL d = true → Off as)
  | .non, _, _, _, iv, rv, e => by
    cases iv; cases rv; unfold showD at e; cases e
    exact ⟨[], .none, fun _ => by simp [Off]⟩
  | .bl b, _, _, _, iv, rv, e => by
    cases iv; cases rv; unfold showD at e; cases e
    exact ⟨[], .bool b, fun _ => by simp [Off]⟩
  | .int i, _, _, _, iv, rv, e => by
    cases iv; obtain ⟨t, rfl⟩ := rv; unfold showD at e; cases e
    exact ⟨[], .int i t, fun _ => by simp [Off]⟩
  | .str i, _, _, _, iv, rv, e => by
    cases iv; obtain ⟨t, rfl⟩ := rv; unfold showD at e; cases e
    exact ⟨[], .str i t, fun _ => by simp [Off]⟩
  | .ty _, _, _, _, _, _, e => by unfold showD at e; cases e
  | .ref _, _, _, _, _, _, e => by unfold showD at e; cases e
  | .scr _, _, _, _, _, _, e => by unfold showD at e; cases e
  | .obj _ _ _, _, _, _, _, _, e => by unfold showD at e; cases e
  | .tup ds, _, _, _, iv, rv, e => by
    unfold showD at e
    obtain ⟨ps, e1, rfl⟩ := map_some e
    cases iv with
    | tup h1 h2 =>
      cases rv
      obtain ⟨its, r, ⟨o, ho, hc, n, hd⟩, _⟩ := I.tuple (SqT.of (K := X.K) (sub _ _ h1))
      obtain ⟨as, ra, of⟩ := reads_ofs I sub ds _ its ps h2 r e1
      exact ⟨as, .tuple ho hc hd ra, of⟩
  | .lst ds, _, _, _, iv, rv, e => by
    unfold showD at e
    obtain ⟨ps, e1, rfl⟩ := map_some e
    cases iv with
    | lst h1 h2 =>
      cases rv
      obtain ⟨its, r, ⟨o, n, ho, hc, _, hd⟩, _⟩ := I.list (SqL.of (K := X.K) (sub _ _ h1))
      obtain ⟨as, ra, of⟩ := reads_ofs I sub ds _ its ps h2 r e1
      exact ⟨_ :: as, .list ho hc hd ra, fun z => nomatch (show false = true from z)⟩
  | .dK ks ds, _, _, _, iv, rv, e => by
    unfold showD at e
    obtain ⟨ps, e1, rfl⟩ := map_some e
    cases iv with
    | dK h1 h2 h3 =>
      cases rv
      obtain ⟨_, hsy, vs, kv, o, es, ep, ho, hx, hdat, _, hp, _⟩ := dk_of I.hok (sub _ _ h1)
      obtain ⟨k1, k2⟩ := kv_split kv
      obtain ⟨as, ra, of⟩ := reads_ofs I sub ds _ _ ps h3 k2 e1
      obtain ⟨r1, r2⟩ := reads_pairs (enc := keyP) (fun k u => reads_key) hp ra
      rw [← k1, h2] at r1 r2
      exact ⟨_, .dict ho hx.1 hdat r1 r2, fun z => off_app (off_cons (beq_eq_false_iff_ne.mp hsy) (by simp [Off])) (of z)⟩
  | .dT _ _, _, _, _, _, _, e => by unfold showD at e; cases e
theorem reads_ofs (I : Inv X pins σ H s) (sub : ∀ b u, F b = some u → H b = some u) : ∀ (ds : List D) (vs : List V) (us : List Value) (ps : List PyData), IsVs X.K F ds vs → Vals vs us → showDs ds = some ps → ∃ as, ReadsAll s.heap us ps as ∧ (noLs ds = true → Off as)
  | [], _, _, _, iv, rv, e => by
    cases iv; cases rv; unfold showDs at e; cases e
    exact ⟨[], .nil, fun _ => by simp [Off]⟩
  | d :: ds, _, _, _, iv, rv, e => by
    obtain ⟨p, r, rfl, e1, e2⟩ := showDs_cons e
    cases iv with
    | cons i1 i2 =>
      cases rv with
      | cons r1 r2 =>
        obtain ⟨as, a1, a2⟩ := reads_of I sub d _ _ p i1 r1 e1
        obtain ⟨bs, b1, b2⟩ := reads_ofs I sub ds _ _ r i2 r2 e2
        refine ⟨as ++ bs, .cons a1 b1, fun z => ?_⟩
        have z2 : (noL d && noLs ds) = true := z
        rw [Bool.and_eq_true] at z2
        exact off_app (a2 z2.1) (b2 z2.2)
end
def rRepr (K : PySem.W.Frag) : List V → Hp → VK → Prop := fun xs H Q => ∃ (x : V) (F : Hp) (d : D) (p : PyData), xs = [x] ∧ (∀ b u, F b = some u → H b = some u) ∧ IsV K F d x ∧ showD d = some p ∧ p.showable = true ∧ p.shown.length ≤ sizeLine ∧ p.depth ≤ 60 ∧ (p.hasDict = true → noL d = true) ∧ Q (.str p.shown) H
theorem cr_repr (hg : X.A.guards = some []) (hu : X.A.units + 64 < cLine) : CallR X (.builtin "repr") (rRepr X.K) := by
  intro pins s σ H xs us Q I r h
  obtain ⟨x, F, d, p, rfl, sub, iv, e, hs, hz, hd, hl, q⟩ := h
  obtain ⟨u, rfl, ru⟩ := r.one
  obtain ⟨as, rd, off⟩ := reads_of I sub d x u p iv ru e
  cases u with
  | ref a =>
    refine repr_of_reads' rd hs (fun z => off (hl z)) hg (by omega) (fun _ _ z => z) (fun h' t tk kp => ?_) hz
    exact ⟨.str p.shown, H, I.kept kp, ⟨_, rfl⟩, q⟩
  | none =>
    cases rd
    exact PySem.P.repr_of_none ⟨.str _, H, I.tok _, ⟨_, rfl⟩, q⟩
  | bool b =>
    cases rd
    exact PySem.P.repr_of_bool ⟨.str _, H, I.tok _, ⟨_, rfl⟩, q⟩
  | int i t =>
    cases rd
    exact PySem.P.repr_of_int (of_decide_eq_true hs) ⟨.str _, H, I.tok _, ⟨_, rfl⟩, q⟩
  | str y t =>
    cases rd
    exact PySem.P.repr_of_str ⟨.str _, H, I.tok _, ⟨_, rfl⟩, q⟩ hz
  | _ => cases rd
end
/-- repr(x) -/
def rdRepr : DRL := fun xs S Q => ∃ d p, xs = [d] ∧ showD d = some p ∧ p.showable = true ∧ p.shown.length ≤ sizeLine ∧ p.depth ≤ 60 ∧ (p.hasDict = true → noL d = true) ∧ Q (.str p.shown) S
theorem lift_repr {K : PySem.W.Frag} : LiftL K (rRepr K) rdRepr := by
  intro Z H S F x v Q P R iv ⟨d, p, hx, e, h1, h2, h3, h4, q⟩ k
  subst hx
  obtain ⟨v, rfl, iw⟩ := isVs_one iv
  exact ⟨v, F, d, p, rfl, fun b u z => (R.sub b u z).1, iw, e, h1, h2, h3, h4, k _ _ ⟨_, S, F, .refl R, .str _, q⟩⟩
end DL

set_option maxRecDepth 100000
set_option maxHeartbeats 2000000
/-! DL, sorted of data of any kind; sorted by key=len. -/
namespace DL
open PySem PySem.Spec L2
def showP (d : D) : PyData := (showD d).getD .none
theorem showP_of {d : D} {p : PyData} (h : showD d = some p) : showP d = p := by unfold showP; rw [h]; rfl
theorem showDs_map : ∀ {ds : List D} {ps : List PyData}, showDs ds = some ps → ds.map showP = ps ∧ ∀ d ∈ ds, showD d = some (showP d)
  | [], ps, h => by
    unfold showDs at h
    cases h
    exact ⟨rfl, fun d hd => absurd hd (by simp)⟩
  | d :: ds, ps, h => by
    obtain ⟨p, r, rfl, e1, e2⟩ := showDs_cons h
    obtain ⟨a, b⟩ := showDs_map e2
    refine ⟨by rw [List.map_cons, a, showP_of e1], fun x hx => ?_⟩
    rcases List.mem_cons.mp hx with rfl | hx
    · rw [showP_of e1]; exact e1
    · exact b x hx
/-- the order that sorted goes by -/
def leD : D → D → Bool := PySem.W.dataLe false showP
/-- u stands for the tree d -/
def Stands (K : PySem.W.Frag) (F : Hp) (u : Value) (d : D) : Prop := ∃ v, IsV K F d v ∧ RelV v u
section
variable {K : PySem.W.Frag} {F : Hp}
theorem stands_each : ∀ {ds : List D} {vs : List V} {us : List Value}, IsVs K F ds vs → Vals vs us → PySem.W.EachIs (Stands K F) us ds
  | _, _, _, .nil, .nil => .nil
  | _, _, _, .cons h t, .cons r q => .cons ⟨_, h, r⟩ (stands_each t q)
theorem each_stands : ∀ {us : List Value} {ds : List D}, PySem.W.EachIs (Stands K F) us ds → ∃ vs, IsVs K F ds vs ∧ Vals vs us
  | _, _, .nil => ⟨[], .nil, .nil⟩
  | _, _, .cons ⟨v, h, r⟩ t => by
    obtain ⟨vs, a, b⟩ := each_stands t
    exact ⟨v :: vs, .cons h a, .cons r b⟩
end
section
variable {X : Cx}
def rSortD (K : PySem.W.Frag) : List V → Hp → VK → Prop := fun xs H Q => ∃ (a : Addr) (vs : List V) (F : Hp) (ds : List D) (ps : List PyData), xs = [.ref a] ∧ SqL K H a vs ∧ (∀ b u, F b = some u → H b = some u) ∧ IsVs K F ds vs ∧ showDs ds = some ps ∧ PySem.W.AllAlike ps ∧ PySem.W.Sortable ps ∧
  (∀ p ∈ ps, p.depth ≤ 40) ∧ ∀ (p : Addr) (ws : List V), H p = none → IsVs K F (ds.mergeSort leD) ws → Q (.ref p) (upd H p (.lst ws))
theorem cr_sortD (hu : X.A.units + 64 < cLine) : CallR X (.builtin "sorted") (rSortD X.K) := by
  intro pins s σ H xs us Q I r h
  obtain ⟨a, vs, F, ds, ps, rfl, hs, sub, iv, e, al, so, dp, q⟩ := h
  obtain ⟨its, rv, hl, hz⟩ := I.list hs
  rw [Vals.ref1 r]
  obtain ⟨em, each⟩ := showDs_map e
  have er : PySem.W.EachIs (fun v d => ∃ as, Reads s.heap v (showP d) as) its ds := by
    have key : ∀ {ds : List D} {vs : List V} {us : List Value}, IsVs X.K F ds vs → Vals vs us → (∀ d ∈ ds, showD d = some (showP d)) → PySem.W.EachIs (fun v d => ∃ as, Reads s.heap v (showP d) as) us ds := by
      intro ds
      induction ds with
      | nil => intro vs us h1 h2 _; cases h1; cases h2; exact .nil
      | cons d ds ih =>
        intro vs us h1 h2 h3
        cases h1 with
        | cons i1 i2 =>
          cases h2 with
          | cons r1 r2 =>
            obtain ⟨as, ra, _⟩ := reads_of I sub d _ _ _ i1 r1 (h3 d List.mem_cons_self)
            exact .cons ⟨as, ra⟩ (ih i2 r2 fun x hx => h3 x (List.mem_cons_of_mem _ hx))
    exact key iv rv each
  refine PySem.W.sorted_data (enc := showP) (bs := ds) hl.isList (stands_each iv rv) er (by rw [em]; exact al) (by rw [em]; exact so) (by rw [iv.length]; exact hz) (fun d hd => ?_) fun out ho eo => ?_
  · have z := dp (showP d) (by rw [← em]; exact List.mem_map_of_mem hd)
    omega
  · obtain ⟨ep, he'⟩ := PyProof.Rows.sortedAll_at s.heap its (List.toArray out)
    obtain ⟨ws, iw, rw'⟩ := each_stands eo
    have hlen : ws.length ≤ sizeLine := by
      rw [rw'.length, ho, iv.length]
      exact hz
    exact ⟨.ref _, upd H (s.heap.objs.size + 1) (.lst ws), I.laid (t' := s.toks) (fun _ _ => PyProof.Rows.sortedAll_old) (Nat.le_succ _) ⟨hlen, out, ep, rw', by simpa using he'⟩, rfl, q _ ws (I.hok.fresh (Nat.le_succ _)) iw⟩
end
def rdSortD : DRL := fun xs S Q => ∃ (d : D) (ds : List D) (ps : List PyData), xs = [d] ∧ lstD S d = some ds ∧ showDs ds = some ps ∧ PySem.W.AllAlike ps ∧ PySem.W.Sortable ps ∧ (∀ p ∈ ps, p.depth ≤ 40) ∧ Q (.lst (ds.mergeSort leD)) S
theorem lift_sortD {K : PySem.W.Frag} : LiftL K (rSortD K) rdSortD := by
  intro Z H S F x v Q P R iv ⟨d, ds, ps, hx, hd, e, al, so, dp, q⟩ k
  subst hx
  obtain ⟨v, rfl, iw⟩ := isVs_one iv
  obtain ⟨p, vs, rfl, hs, iv2⟩ := lst_of R iw hd
  exact ⟨p, vs, F, ds, ps, rfl, hs, fun b u z => (R.sub b u z).1, iv2, e, al, so, dp, fun l ws hl i3 => by
    obtain ⟨R2, s2, k2⟩ := R.laid (o := .lst ws) hl
    exact k _ _ ⟨_, S, _, ⟨s2, R2, k2⟩, .lst upd_same (i3.up s2), q⟩⟩

/-! ### sorted(xs, key=len), xs a list of tuples -/
def lenK : D → PyData
  | .tup ds => .int ds.length
  | _ => .none
def leLen : D → D → Bool := PySem.W.dataLe false lenK
def tSortLen (K : PySem.W.Frag) (ta : TE) : TE := fun σ H Q => ta σ H fun x H1 => ∃ (a : Addr) (vs : List V) (F : Hp) (ds : List D), x = .ref a ∧ SqL K H1 a vs ∧ (∀ b u, F b = some u → H1 b = some u) ∧ IsVs K F ds vs ∧ (∀ d ∈ ds, ∃ es, d = .tup es) ∧
  ∀ (p : Addr) (ws : List V), H1 p = none → IsVs K F (ds.mergeSort leLen) ws → Q (.ref p) (upd H1 p (.lst ws))
theorem pe_sortLen {X : Cx} {e : Expr} {ta : TE} {p p2 kp pos : Pos} (hu : X.A.units + 64 < cLine) (hm : X.mg "sorted" = none) (hml : X.mg "len" = none) (ha : PE X e ta) (hg : Gl X "sorted" := by rfl) (hgl : Gl X "len" := by rfl)
    (he : backTo pos (starEach [e] X.env) = (false, eval e X.env) :: backTo pos (starEach [] X.env) := by rfl) (hst : starEach [e] X.env = (false, eval e X.env) :: starEach [] X.env := by rfl) (hpl : (backTo pos (starEach [e] X.env)).any (·.1) = false := by rfl)
    (hall : (backToKw pos (keywordEach [⟨some "key", .Name "len" p2, kp⟩] X.env)).all (·.1.isSome) = true := by rfl) (hnone : (backToKw pos (keywordEach [⟨some "key", .Name "len" p2, kp⟩] X.env)).any (·.1.isNone) = false := by rfl)
    (hks : (backToKw pos (keywordEach [⟨some "key", .Name "len" p2, kp⟩] X.env)).filterMap (·.1) = [Str.ofString "key"] := by rfl) :
    PE X (.Call (.Name "sorted" p) [e] [⟨some "key", .Name "len" p2, kp⟩] pos) (tSortLen X.K ta) := by
  refine ⟨fun pins s σ H Q I h => ?_⟩
  refine wpAny_Call_Name_kw (ld_blt I hg hm PyProof.Rows.boot_sorted ?_)
  refine PyProof.Rows.callWith_kw (PyProof.Rows.args_cons (thn (ha.run pins s σ H _ I h) fun u s1 ⟨x, H1, I1, r1, a, vs, F, ds, hx, hs, sub, iv, tups, q⟩ => PyProof.Rows.args_nil ?_) hst) he hpl hall hnone
  subst hx
  cases r1
  rw [hks]
  show wpAny _ _ (evalAll ((do let v ← eval (.Name "len" p2) X.env; standAt pos; pure v) :: [])) _ _ s1
  refine wpAny_evalAll_cons (wpAny_bind (ld_blt I1 hgl hml PySem.boot_len (wpAny_bind (wpAny_standAt (wpAny_pure (wpAny_evalAll_nil ?_))))))
  obtain ⟨its, rv, hl, hz⟩ := I1.list hs
  have deep : ∀ d ∈ ds, (lenK d).depth = 0 := fun d hd => by
    obtain ⟨es, rfl⟩ := tups d hd
    rfl
  have inz : ∀ k ∈ ds.map lenK, ∃ n : Int, k = .int n := fun k hk => by
    obtain ⟨d, hd, rfl⟩ := List.mem_map.mp hk
    obtain ⟨es, rfl⟩ := tups d hd
    exact ⟨_, rfl⟩
  have al : PySem.W.AllAlike (ds.map lenK) := fun x hx y hy => by
    obtain ⟨n, rfl⟩ := inz x hx
    obtain ⟨m, rfl⟩ := inz y hy
    rfl
  have so : PySem.W.Sortable (ds.map lenK) := .inr fun x hx => by
    obtain ⟨n, rfl⟩ := inz x hx
    exact ⟨(fun z => nomatch z), fun xs z => nomatch z⟩
  refine PySem.W.sorted_key_data (b := false) lenK hl.isList (stands_each iv rv) al so (by rw [iv.length]; exact hz) (fun d hd => by rw [deep d hd]; omega) (PyProof.Rows.ksk_s1 _ _) (fun _ => PyProof.Rows.ksk_l1 _ _) (fun _ => PyProof.Rows.ksk_t4 _ _)
    (fun v d ⟨w, i1, r1⟩ hd g tk kp => ?_) fun out c h' tk kp fresh hob ho eo => ?_
  · obtain ⟨es, rfl⟩ := tups d hd
    cases i1 with
    | tup h1 h2 =>
      cases r1
      obtain ⟨jts, r2, ⟨o, g1, g2, g3⟩, z2⟩ := I1.tuple (SqT.of (K := X.K) (sub _ _ h1))
      have hlen : (jts.toArray.size : Int) = es.length := by rw [List.size_toArray, ← r2.length, ← h2.length]
      refine PyProof.Rows.len_tuple (items := jts.toArray) ⟨o, kp _ _ g1, g2, g3⟩ ?_ ?_
      · rw [List.size_toArray, ← r2.length]
        have : sizeLine < 2 ^ 62 := by decide
        omega
      · refine ⟨g, tk + 1 + 1, rfl, fun _ _ z => z, ?_⟩
        rw [hlen]
        exact .int _ _
  · obtain ⟨ws, iw, rw'⟩ := each_stands eo
    have hlen : ws.length ≤ sizeLine := by
      rw [rw'.length, ho, iv.length]
      exact hz
    exact ⟨.ref _, upd H1 (s1.heap.objs.size + 1) (.lst ws), I1.laid (t' := tk) kp (Nat.le_succ _) ⟨hlen, out, c, rw', hob⟩, rfl, q _ ws (I1.hok.fresh (Nat.le_succ _)) iw⟩
def dSortLen (te : DTE) : DTE := fun ρ S Q E => te ρ S (fun d S1 => ∃ ds, lstD S1 d = some ds ∧ (∀ x ∈ ds, ∃ es, x = .tup es) ∧ Q (.lst (ds.mergeSort leLen)) S1) E
theorem de_sortLen {X : Cx} {W : WX} {e : Expr} {te : DTE} {p p2 kp pos : Pos} (hu : X.A.units + 64 < cLine) (hm : X.mg "sorted" = none) (hml : X.mg "len" = none) (ha : DE X W e te) (hg : Gl X "sorted" := by rfl) (hgl : Gl X "len" := by rfl)
    (he : backTo pos (starEach [e] X.env) = (false, eval e X.env) :: backTo pos (starEach [] X.env) := by rfl) (hst : starEach [e] X.env = (false, eval e X.env) :: starEach [] X.env := by rfl) (hpl : (backTo pos (starEach [e] X.env)).any (·.1) = false := by rfl)
    (hall : (backToKw pos (keywordEach [⟨some "key", .Name "len" p2, kp⟩] X.env)).all (·.1.isSome) = true := by rfl) (hnone : (backToKw pos (keywordEach [⟨some "key", .Name "len" p2, kp⟩] X.env)).any (·.1.isNone) = false := by rfl)
    (hks : (backToKw pos (keywordEach [⟨some "key", .Name "len" p2, kp⟩] X.env)).filterMap (·.1) = [Str.ofString "key"] := by rfl) :
    DE X W (.Call (.Name "sorted" p) [e] [⟨some "key", .Name "len" p2, kp⟩] pos) (dSortLen te) :=
  de_pe (pe_sortLen hu hm hml ha.pe hg hgl he hst hpl hall hnone hks) fun σ H P ⟨ρ, S, F, Z, Q, E, R, V, q, k, x⟩ => ⟨ρ, S, F, Z, _, E, R, V, q, fun v H1 ⟨d, S1, F1, A1, i1, ds, hd, tups, q1⟩ => by
    obtain ⟨a, vs, rfl, hs, iv2⟩ := lst_of A1.rel i1 hd
    exact ⟨a, vs, F1, ds, rfl, hs, fun b u z => (A1.rel.sub b u z).1, iv2, tups, fun l ws hl i3 => by
      obtain ⟨R2, s2, k2⟩ := A1.rel.laid (o := .lst ws) hl
      exact k _ _ ⟨_, S1, _, A1.trans ⟨s2, R2, k2⟩, .lst upd_same (i3.up s2), q1⟩⟩, x⟩
end DL

set_option maxRecDepth 100000
set_option maxHeartbeats 2000000
/-! zip of two sequences of any kind, at the library's level: its turns, its end, its making; list(zip(..)). -/
namespace DLZ
open PySem
open PySem.Sem (wp)
/-- an iterator it over what stands at l -/
structure SeqIt (prog : Program) (w : World) (it l : Addr) (xs : Array Value) (St : Nat → Heap → Prop) : Prop where
  frame : ∀ {k : Nat} {h h' : Heap}, St k h → (∀ o, h.get? it = some o → h'.get? it = some o) → (∀ o, h.get? l = some o → h'.get? l = some o) → St k h'
  there : ∀ {k : Nat} {h : Heap}, St k h → (∃ o, h.get? it = some o) ∧ ∃ o, h.get? l = some o
  item : ∀ {A : Around} {E : Value → Shared → Prop} {s : Shared} {k : Nat} {x : Value} {Q : Value → Shared → Prop}, St k s.heap → xs[k]? = some x → (∀ h', St (k + 1) h' → Heap.SameBut it s.heap h' → Q x { s with heap := h' }) → wpAny (model prog w) A (Builtin.SmallTypes.nextOf (.ref it)) Q E s
  stop : ∀ {A : Around} {E : Value → Shared → Prop} {s : Shared} {k : Nat} {Q : Value → Shared → Prop}, A.handled = none → St k s.heap → xs[k]? = none →
    (∀ h' e, Heap.ExtBut it s.heap h' → (∃ o, h'.get? e = some o ∧ o.cls = .type "StopIteration") → E (.ref e) { s with heap := h' }) → wpAny (model prog w) A (Builtin.SmallTypes.nextOf (.ref it)) Q E s
theorem SeqIt.list {prog : Program} {w : World} (it l : Addr) (xs : Array Value) : SeqIt prog w it l xs (fun k h => h.IsListIter it l k ∧ h.IsList l xs) where
  frame := fun st k1 k2 => ⟨st.1.at k1, st.2.at k2⟩
  there := fun st => ⟨let ⟨o, h, _⟩ := st.1; ⟨o, h⟩, let ⟨o, h, _⟩ := st.2; ⟨o, h⟩⟩
  item := fun {A E s k x Q} st hx h => wpAny_nextOf_list_item st.1 st.2 hx fun h' a b => by
    by_cases e : l = it
    · subst e
      obtain ⟨o, h1, h2, h3⟩ := st.1
      obtain ⟨o', g1, g2, g3⟩ := st.2
      rw [h1] at g1
      cases g1
      rw [h2] at g2
      injection g2 with g
      exact absurd g (by decide)
    · exact h h' ⟨a, st.2.at fun o z => (b.2 _ e).trans z⟩ b
  stop := fun hh st hx h => wpAny_nextOf_list_end hh st.1 st.2 hx h
theorem SeqIt.tuple {prog : Program} {w : World} (it l : Addr) (xs : Array Value) : SeqIt prog w it l xs (fun k h => h.IsTupleIter it l k ∧ h.IsTuple l xs) where
  frame := fun st k1 k2 => ⟨st.1.at k1, st.2.at k2⟩
  there := fun st => ⟨let ⟨o, h, _⟩ := st.1; ⟨o, h⟩, let ⟨o, h, _⟩ := st.2; ⟨o, h⟩⟩
  item := fun {A E s k x Q} st hx h => RZ.nextOf_tuple_item st.1 st.2 hx fun h' a b => by
    by_cases e : l = it
    · subst e
      obtain ⟨o, h1, h2, h3⟩ := st.1
      obtain ⟨o', g1, g2, g3⟩ := st.2
      rw [h1] at g1
      cases g1
      rw [h2] at g2
      injection g2 with g
      exact absurd g (by decide)
    · exact h h' ⟨a, st.2.at fun o z => (b.2 _ e).trans z⟩ b
  stop := fun hh st hx h => RZ.nextOf_tuple_end hh st.1 st.2 hx h
/-- the zip object z over the iterators i1, i2: its tuple has not been given out, or T was, and stands -/
def ZipSt (h : Heap) (z TI TO i1 i2 : Addr) (got : Option Addr) : Prop := IsPair h TI (.ref i1) (.ref i2) ∧ match got with
  | none => IsZip h z TI TO .none ∧ ∃ a b, IsPair h TO a b
  | some T => ∃ f, IsZipHeld h z TI TO T f ∧ ∃ o, h.get? T = some o
section
variable {prog : Program} {w : World} {A : Around} {E : Value → Shared → Prop} {s : Shared} {z TI TO i1 i2 l1 l2 : Addr} {xs ys : Array Value} {S1 S2 : Nat → Heap → Prop} {k : Nat} {x y : Value}
theorem zip_turn_new (D : ZipApart z TI TO i1 i2 l1 l2) (I1 : SeqIt prog w i1 l1 xs S1) (I2 : SeqIt prog w i2 l2 ys S2) {Q : Value → Shared → Prop} (hz : IsZip s.heap z TI TO .none) (hTI : IsPair s.heap TI (.ref i1) (.ref i2)) (hTO : IsPair s.heap TO a b) (st1 : S1 k s.heap) (st2 : S2 k s.heap) (hx : xs[k]? = some x) (hy : ys[k]? = some y)
    (hQ : ∀ h', IsZip h' z TI TO (rawInt s.heap.objs.size) → IsPair h' TO x y → S1 (k + 1) h' → S2 (k + 1) h' → IsPair h' s.heap.objs.size x y → h'.objs.size = s.heap.objs.size + 1 → (∀ c o, c ≠ z → c ≠ TO → c ≠ i1 → c ≠ i2 → s.heap.get? c = some o → h'.get? c = some o) → Q (.ref s.heap.objs.size) { s with heap := h' }) :
    wpAny (model prog w) A (Builtin.«zip.__next__» ⟨[.ref z], []⟩) (fun fin s' => ∃ v, fin = .done (.ret v) ∧ Q v s') E s := by
  have eb : ∀ {b : Addr} {h h' : Heap}, Heap.SameBut b h h' → ∀ c o, c ≠ b → h.get? c = some o → h'.get? c = some o := fun sb c o hc e => (sb.2 c hc).trans e
  show wpAny _ _ (field (.ref z) 2 >>= _) _ _ _
  refine wpAny_bind (wpAny_field hz rfl (x := .bool false) rfl ?_)
  show wpAny _ _ (field (.ref z) 3 >>= _) _ _ _
  refine wpAny_bind (wpAny_field hz rfl (x := .ref TI) rfl (wpAny_bind (wpAny_seqItems hTI rfl ?_)))
  show wpAny _ _ (Builtin.SmallTypes.ownedTupleIsFree (.ref z) >>= _) _ _ _
  unfold Builtin.SmallTypes.ownedTupleIsFree
  refine wpAny_bind (wpAny_bind (wpAny_field hz rfl (x := .none) rfl (wpAny_pure ?_)))
  simp only [if_true]
  refine wpAny_bind (wpAny_rule (wpAny_bind (wpAny_field hz rfl (x := .ref TO) rfl (wpAny_bind (wpAny_setField_rec hz (by simp) fun g1 z1 b1 => ?_)))))
  have z1 : IsZip g1 z TI TO .ellipsis := z1
  refine wpAny_bind ?_
  simp only [List.zipIdx_cons, List.zipIdx_nil, List.forIn_cons, List.forIn_nil]
  refine wpAny_bind (wpAny_bind (wpAny_onRaise ?_))
  show wpAny _ _ (Builtin.SmallTypes.nextOf (.ref i1) >>= _) _ _ _
  refine wpAny_bind (I1.item (I1.frame st1 (fun o => eb b1 _ o D.i1z) fun o => eb b1 _ o D.l1z) hx fun g2 p1 b2 => wpAny_pure ?_)
  have t2 : IsPair g2 TO a b := eb b2 _ _ D.TOi1 (eb b1 _ _ D.TOz hTO)
  refine wpAny_bind (wpAny_seqItems t2 rfl (wpAny_bind (wpAny_updateSeq_pair t2 fun g3 t3 b3 => ?_)))
  have t3 : IsPair g3 TO x b := t3
  refine wpAny_bind (wpAny_letGo (wpAny_pure (wpAny_bind (wpAny_bind (wpAny_onRaise ?_)))))
  show wpAny _ _ (Builtin.SmallTypes.nextOf (.ref i2) >>= _) _ _ _
  have q2 : S2 k g3 := I2.frame (I2.frame (I2.frame st2 (fun o => eb b1 _ o D.i2z) fun o => eb b1 _ o D.l2z) (fun o => eb b2 _ o D.i12.symm) fun o => eb b2 _ o D.l2i1) (fun o => eb b3 _ o D.TOi2.symm) fun o => eb b3 _ o D.l2TO
  refine wpAny_bind (I2.item q2 hy fun g4 p2 b4 => wpAny_pure ?_)
  have t4 : IsPair g4 TO x b := eb b4 _ _ D.TOi2 t3
  refine wpAny_bind (wpAny_seqItems t4 rfl (wpAny_bind (wpAny_updateSeq_pair t4 fun g5 t5 b5 => ?_)))
  have t5 : IsPair g5 TO x y := t5
  refine wpAny_bind (wpAny_letGo (wpAny_pure (wpAny_pure ?_)))
  refine wpAny_bind (wpAny_seqItems t5 rfl (wpAny_bind (wpAny_newTuple ?_)))
  have sz : g5.objs.size = s.heap.objs.size := by rw [b5.1, b4.1, b3.1, b2.1, b1.1]
  have z5 : IsZip g5 z TI TO .ellipsis := eb b5 _ _ D.TOz.symm (eb b4 _ _ D.i2z.symm (eb b3 _ _ D.TOz.symm (eb b2 _ _ D.i1z.symm z1)))
  have keep : ∀ c o, c ≠ z → c ≠ TO → c ≠ i1 → c ≠ i2 → s.heap.get? c = some o → g5.get? c = some o := fun c o c1 c2 c3 c4 e => eb b5 _ _ c2 (eb b4 _ _ c4 (eb b3 _ _ c2 (eb b2 _ _ c3 (eb b1 _ _ c1 e))))
  have p5 : S1 (k + 1) g5 := I1.frame (I1.frame (I1.frame p1 (fun o => eb b3 _ o D.TOi1.symm) fun o => eb b3 _ o D.l1TO) (fun o => eb b4 _ o D.i12) fun o => eb b4 _ o D.l1i2) (fun o => eb b5 _ o D.TOi1.symm) fun o => eb b5 _ o D.l1TO
  have q5 : S2 (k + 1) g5 := I2.frame p2 (fun o => eb b5 _ o D.TOi2.symm) fun o => eb b5 _ o D.l2TO
  have zlt : z < g5.objs.size := Heap.lt_size z5
  show wpAny _ _ (Builtin.SmallTypes.ownedTupleHandOut (.ref z) (.ref g5.objs.size) >>= _) _ _ _
  unfold Builtin.SmallTypes.ownedTupleHandOut
  have z6 : IsZip (g5.push { cls := .type "tuple", data := .seq #[x, y] }) z TI TO .ellipsis := Heap.get?_push_of_some _ z5
  refine wpAny_bind (wpAny_bind (wpAny_setField_rec z6 (by simp) fun g7 z7 b7 => ?_))
  have z7 : IsZip g7 z TI TO (rawInt g5.objs.size) := z7
  refine wpAny_setField_rec z7 (by simp) fun g8 z8 b8 => ?_
  have z8 : IsZip g8 z TI TO (rawInt g5.objs.size) := z8
  have up : ∀ c o, c ≠ z → g5.get? c = some o → g8.get? c = some o := fun c o hc e => eb b8 _ _ hc (eb b7 _ _ hc (Heap.get?_push_of_some _ e))
  have T8 : IsPair g8 g5.objs.size x y := eb b8 _ _ (Nat.ne_of_gt zlt) (eb b7 _ _ (Nat.ne_of_gt zlt) (Heap.get?_push_size _ rfl))
  have sz8 : g8.objs.size = g5.objs.size + 1 := by rw [b8.1, b7.1, Heap.size_push]
  rw [sz] at z8 T8 sz8
  refine wpAny_pure ⟨_, rfl, ?_⟩
  show Q (.ref g5.objs.size) _
  rw [sz]
  exact hQ g8 z8 (up _ _ D.TOz t5) (I1.frame p5 (fun o => up _ o D.i1z) fun o => up _ o D.l1z) (I2.frame q5 (fun o => up _ o D.i2z) fun o => up _ o D.l2z) T8 sz8 fun c o c1 c2 c3 c4 e => up c o c1 (keep c o c1 c2 c3 c4 e)
theorem zip_turn_held {T : Addr} {f : Bool} {oT : Obj} (D : ZipApart z TI TO i1 i2 l1 l2) (I1 : SeqIt prog w i1 l1 xs S1) (I2 : SeqIt prog w i2 l2 ys S2) {Q : Value → Shared → Prop} (hz : IsZipHeld s.heap z TI TO T f) (hT : s.heap.get? T = some oT) (hTI : IsPair s.heap TI (.ref i1) (.ref i2)) (st1 : S1 k s.heap) (st2 : S2 k s.heap) (hx : xs[k]? = some x) (hy : ys[k]? = some y)
    (hQ : ∀ h', IsZipHeld h' z TI TO T true → S1 (k + 1) h' → S2 (k + 1) h' → IsPair h' s.heap.objs.size x y → h'.objs.size = s.heap.objs.size + 1 → (∀ c o, c ≠ z → c ≠ i1 → c ≠ i2 → s.heap.get? c = some o → h'.get? c = some o) → Q (.ref s.heap.objs.size) { s with heap := h' }) :
    wpAny (model prog w) A (Builtin.«zip.__next__» ⟨[.ref z], []⟩) (fun fin s' => ∃ v, fin = .done (.ret v) ∧ Q v s') E s := by
  have eb : ∀ {b : Addr} {h h' : Heap}, Heap.SameBut b h h' → ∀ c o, c ≠ b → h.get? c = some o → h'.get? c = some o := fun sb c o hc e => (sb.2 c hc).trans e
  show wpAny _ _ (field (.ref z) 2 >>= _) _ _ _
  refine wpAny_bind (wpAny_field hz rfl (x := .bool false) rfl ?_)
  show wpAny _ _ (field (.ref z) 3 >>= _) _ _ _
  refine wpAny_bind (wpAny_field hz rfl (x := .ref TI) rfl (wpAny_bind (wpAny_seqItems hTI rfl ?_)))
  show wpAny _ _ (Builtin.SmallTypes.ownedTupleIsFree (.ref z) >>= _) _ _ _
  refine wpAny_bind (wpAny_tupleHeld_zip hz hT fun g1 z1 b1 => ?_)
  simp only [Bool.false_eq_true, if_false]
  rw [← Array.forIn_toList]
  simp only [List.forIn_cons, List.forIn_nil]
  refine wpAny_bind (wpAny_bind (wpAny_bind (wpAny_holding ?_)))
  show wpAny _ _ (Builtin.SmallTypes.nextOf (.ref i1) >>= _) _ _ _
  refine wpAny_bind (I1.item (s := { s with heap := g1 }) (I1.frame st1 (fun o => eb b1 _ o D.i1z) fun o => eb b1 _ o D.l1z) hx fun g2 p1 b2 => wpAny_pure (wpAny_pure ?_))
  refine wpAny_bind (wpAny_bind (wpAny_holding ?_))
  show wpAny _ _ (Builtin.SmallTypes.nextOf (.ref i2) >>= _) _ _ _
  refine wpAny_bind (I2.item (s := { s with heap := g2 }) (I2.frame (I2.frame st2 (fun o => eb b1 _ o D.i2z) fun o => eb b1 _ o D.l2z) (fun o => eb b2 _ o D.i12.symm) fun o => eb b2 _ o D.l2i1) hy fun g3 p2 b3 => wpAny_pure (wpAny_pure (wpAny_pure ?_)))
  show wpAny _ _ (newTuple [x, y] >>= _) _ _ _
  refine wpAny_bind (wpAny_newTuple ?_)
  have sz : g3.objs.size = s.heap.objs.size := by rw [b3.1, b2.1, b1.1]
  have z3 : IsZipHeld g3 z TI TO T true := eb b3 _ _ D.i2z.symm (eb b2 _ _ D.i1z.symm z1)
  have keep : ∀ c o, c ≠ z → c ≠ i1 → c ≠ i2 → s.heap.get? c = some o → g3.get? c = some o := fun c o c1 c2 c3 e => eb b3 _ _ c3 (eb b2 _ _ c2 (eb b1 _ _ c1 e))
  have p3 : S1 (k + 1) g3 := I1.frame p1 (fun o => eb b3 _ o D.i12) fun o => eb b3 _ o D.l1i2
  refine wpAny_pure ⟨_, rfl, ?_⟩
  show Q (.ref g3.objs.size) _
  have T4 : IsPair (g3.push { cls := .type "tuple", data := .seq #[x, y] }) g3.objs.size x y := Heap.get?_push_size _ rfl
  have sz4 : (g3.push { cls := .type "tuple", data := .seq #[x, y] }).objs.size = g3.objs.size + 1 := Heap.size_push ..
  have up : ∀ c o, g3.get? c = some o → (g3.push { cls := .type "tuple", data := .seq #[x, y] }).get? c = some o := fun c o e => Heap.get?_push_of_some _ e
  rw [sz] at T4 sz4 ⊢
  exact hQ _ (up _ _ z3) (I1.frame p3 (up _) (up _)) (I2.frame p2 (up _) (up _)) T4 sz4 fun c o c1 c2 c3 e => up c o (keep c o c1 c2 c3 e)
theorem zip_stop_new {a b : Value} (hh : A.handled = none) (D : ZipApart z TI TO i1 i2 l1 l2) (I1 : SeqIt prog w i1 l1 xs S1) (I2 : SeqIt prog w i2 l2 ys S2) {Q : PySem.Fin → Shared → Prop} (hz : IsZip s.heap z TI TO .none) (hTI : IsPair s.heap TI (.ref i1) (.ref i2)) (hTO : IsPair s.heap TO a b) (st1 : S1 k s.heap) (st2 : S2 k s.heap) (hend : xs[k]? = none ∨ ys[k]? = none)
    (hE : ∀ h' e, (∀ c o, c ≠ z → c ≠ TO → c ≠ i1 → c ≠ i2 → s.heap.get? c = some o → h'.get? c = some o) → (∃ o, h'.get? e = some o ∧ o.cls = .type "StopIteration") → E (.ref e) { s with heap := h' }) : wpAny (model prog w) A (Builtin.«zip.__next__» ⟨[.ref z], []⟩) Q E s := by
  have eb : ∀ {b : Addr} {h h' : Heap}, Heap.SameBut b h h' → ∀ c o, c ≠ b → h.get? c = some o → h'.get? c = some o := fun sb c o hc e => (sb.2 c hc).trans e
  show wpAny _ _ (field (.ref z) 2 >>= _) _ _ _
  refine wpAny_bind (wpAny_field hz rfl (x := .bool false) rfl ?_)
  show wpAny _ _ (field (.ref z) 3 >>= _) _ _ _
  refine wpAny_bind (wpAny_field hz rfl (x := .ref TI) rfl (wpAny_bind (wpAny_seqItems hTI rfl ?_)))
  show wpAny _ _ (Builtin.SmallTypes.ownedTupleIsFree (.ref z) >>= _) _ _ _
  unfold Builtin.SmallTypes.ownedTupleIsFree
  refine wpAny_bind (wpAny_bind (wpAny_field hz rfl (x := .none) rfl (wpAny_pure ?_)))
  simp only [if_true]
  refine wpAny_bind (wpAny_rule (wpAny_bind (wpAny_field hz rfl (x := .ref TO) rfl (wpAny_bind (wpAny_setField_rec hz (by simp) fun g1 z1 b1 => ?_)))))
  have z1 : IsZip g1 z TI TO .ellipsis := z1
  refine wpAny_bind ?_
  simp only [List.zipIdx_cons, List.zipIdx_nil, List.forIn_cons, List.forIn_nil]
  refine wpAny_bind (wpAny_bind (wpAny_onRaise ?_))
  show wpAny _ _ (Builtin.SmallTypes.nextOf (.ref i1) >>= _) _ _ _
  have p1 : S1 k g1 := I1.frame st1 (fun o => eb b1 _ o D.i1z) fun o => eb b1 _ o D.l1z
  cases hx : xs[k]? with
  | none =>
    refine wpAny_bind (I1.stop hh p1 hx fun g2 e b2 ⟨oe, he, hc⟩ => ?_)
    have z2 : IsZip g2 z TI TO .ellipsis := b2 _ _ D.i1z.symm z1
    have ne : e ≠ z := fun q => by subst q; rw [z2] at he; cases he; simp at hc
    exact wpAny_setField_rec z2 (by simp) fun g3 _ b3 => hE g3 e (fun c o c1 _ c3 _ q => eb b3 _ _ c1 (b2 _ _ c3 (eb b1 _ _ c1 q))) ⟨oe, eb b3 _ _ ne he, hc⟩
  | some x =>
    have hy : ys[k]? = none := hend.resolve_left (by rw [hx]; exact fun q => nomatch q)
    refine wpAny_bind (I1.item p1 hx fun g2 p2 b2 => wpAny_pure ?_)
    have t2 : IsPair g2 TO a b := eb b2 _ _ D.TOi1 (eb b1 _ _ D.TOz hTO)
    refine wpAny_bind (wpAny_seqItems t2 rfl (wpAny_bind (wpAny_updateSeq_pair t2 fun g3 t3 b3 => wpAny_bind (wpAny_letGo (wpAny_pure (wpAny_bind (wpAny_bind (wpAny_onRaise ?_))))))))
    show wpAny _ _ (Builtin.SmallTypes.nextOf (.ref i2) >>= _) _ _ _
    have q3 : S2 k g3 := I2.frame (I2.frame (I2.frame st2 (fun o => eb b1 _ o D.i2z) fun o => eb b1 _ o D.l2z) (fun o => eb b2 _ o D.i12.symm) fun o => eb b2 _ o D.l2i1) (fun o => eb b3 _ o D.TOi2.symm) fun o => eb b3 _ o D.l2TO
    refine wpAny_bind (I2.stop hh q3 hy fun g4 e b4 ⟨oe, he, hc⟩ => ?_)
    have z4 : IsZip g4 z TI TO .ellipsis := b4 _ _ D.i2z.symm (eb b3 _ _ D.TOz.symm (eb b2 _ _ D.i1z.symm z1))
    have ne : e ≠ z := fun q => by subst q; rw [z4] at he; cases he; simp at hc
    exact wpAny_setField_rec z4 (by simp) fun g5 _ b5 => hE g5 e (fun c o c1 c2 c3 c4 q => eb b5 _ _ c1 (b4 _ _ c4 (eb b3 _ _ c2 (eb b2 _ _ c3 (eb b1 _ _ c1 q))))) ⟨oe, eb b5 _ _ ne he, hc⟩
theorem zip_stop_held {T : Addr} {f : Bool} {oT : Obj} (hh : A.handled = none) (D : ZipApart z TI TO i1 i2 l1 l2) (I1 : SeqIt prog w i1 l1 xs S1) (I2 : SeqIt prog w i2 l2 ys S2) {Q : PySem.Fin → Shared → Prop} (hz : IsZipHeld s.heap z TI TO T f) (hT : s.heap.get? T = some oT) (hTI : IsPair s.heap TI (.ref i1) (.ref i2)) (st1 : S1 k s.heap) (st2 : S2 k s.heap) (hend : xs[k]? = none ∨ ys[k]? = none)
    (hE : ∀ h' e, (∀ c o, c ≠ z → c ≠ TO → c ≠ i1 → c ≠ i2 → s.heap.get? c = some o → h'.get? c = some o) → (∃ o, h'.get? e = some o ∧ o.cls = .type "StopIteration") → E (.ref e) { s with heap := h' }) : wpAny (model prog w) A (Builtin.«zip.__next__» ⟨[.ref z], []⟩) Q E s := by
  have eb : ∀ {b : Addr} {h h' : Heap}, Heap.SameBut b h h' → ∀ c o, c ≠ b → h.get? c = some o → h'.get? c = some o := fun sb c o hc e => (sb.2 c hc).trans e
  show wpAny _ _ (field (.ref z) 2 >>= _) _ _ _
  refine wpAny_bind (wpAny_field hz rfl (x := .bool false) rfl ?_)
  show wpAny _ _ (field (.ref z) 3 >>= _) _ _ _
  refine wpAny_bind (wpAny_field hz rfl (x := .ref TI) rfl (wpAny_bind (wpAny_seqItems hTI rfl ?_)))
  show wpAny _ _ (Builtin.SmallTypes.ownedTupleIsFree (.ref z) >>= _) _ _ _
  refine wpAny_bind (wpAny_tupleHeld_zip hz hT fun g1 z1 b1 => ?_)
  simp only [Bool.false_eq_true, if_false]
  rw [← Array.forIn_toList]
  simp only [List.forIn_cons, List.forIn_nil]
  refine wpAny_bind (wpAny_bind (wpAny_bind (wpAny_holding ?_)))
  show wpAny _ _ (Builtin.SmallTypes.nextOf (.ref i1) >>= _) _ _ _
  have p1 : S1 k g1 := I1.frame st1 (fun o => eb b1 _ o D.i1z) fun o => eb b1 _ o D.l1z
  cases hx : xs[k]? with
  | none =>
    refine wpAny_bind (I1.stop (s := { s with heap := g1 }) hh p1 hx fun g2 e b2 he => ?_)
    exact hE g2 e (fun c o c1 _ c3 _ q => b2 _ _ c3 (eb b1 _ _ c1 q)) he
  | some x =>
    have hy : ys[k]? = none := hend.resolve_left (by rw [hx]; exact fun q => nomatch q)
    refine wpAny_bind (I1.item (s := { s with heap := g1 }) p1 hx fun g2 p2 b2 => wpAny_pure (wpAny_pure (wpAny_bind (wpAny_bind (wpAny_holding ?_)))))
    show wpAny _ _ (Builtin.SmallTypes.nextOf (.ref i2) >>= _) _ _ _
    refine wpAny_bind (I2.stop (s := { s with heap := g2 }) hh (I2.frame (I2.frame st2 (fun o => eb b1 _ o D.i2z) fun o => eb b1 _ o D.l2z) (fun o => eb b2 _ o D.i12.symm) fun o => eb b2 _ o D.l2i1) hy fun g3 e b3 he => ?_)
    exact hE g3 e (fun c o c1 _ c3 c4 q => b3 _ _ c4 (eb b2 _ _ c3 (eb b1 _ _ c1 q))) he
/-- next(z) -/
theorem zip_next (D : ZipApart z TI TO i1 i2 l1 l2) (I1 : SeqIt prog w i1 l1 xs S1) (I2 : SeqIt prog w i2 l2 ys S2) {got : Option Addr} {Q : Option Value → Shared → Prop} (hz : ZipSt s.heap z TI TO i1 i2 got) (st1 : S1 k s.heap) (st2 : S2 k s.heap) (hx : xs[k]? = some x) (hy : ys[k]? = some y)
    (hT : ∀ T, got = some T → T ≠ z ∧ T ≠ i1 ∧ T ≠ i2)
    (hQ : ∀ h' T', (got = none → T' = s.heap.objs.size) → (∀ T, got = some T → T' = T) → ZipSt h' z TI TO i1 i2 (some T') → S1 (k + 1) h' → S2 (k + 1) h' → IsPair h' s.heap.objs.size x y → h'.objs.size = s.heap.objs.size + 1 → (∀ c o, c ≠ z → c ≠ TO → c ≠ i1 → c ≠ i2 → s.heap.get? c = some o → h'.get? c = some o) → Q (some (.ref s.heap.objs.size)) { s with heap := h' }) :
    wpAny (model prog w) A (pyNext (.ref z)) Q E s := by
  obtain ⟨hTI, hz⟩ := hz
  cases got with
  | none =>
    obtain ⟨hz, a, b, hTO⟩ := hz
    have hTy : s.TypeIs (.ref z) "zip" := ⟨_, hz, rfl⟩
    unfold pyNext
    exact wpAny_bind (wpAny_attempt (wpAny_callSpecial?_slot (name := Str.ofString "__next__") hTy F.slot_zip_next
      (wpAny_call_entry F.slot_zip_next hTy F.entry_zip_next
        (zip_turn_new D I1 I2 hz hTI hTO st1 st2 hx hy fun h' a1 a2 a3 a4 a5 a6 a7 => wpAny_pure (hQ h' _ (fun _ => rfl) (fun _ q => nomatch q) ⟨a7 _ _ D.TIz D.TITO D.TIi1 D.TIi2 hTI, false, a1, _, a5⟩ a3 a4 a5 a6 a7)) (F.args_zip_next_1 _))))
  | some T =>
    obtain ⟨f, hz, oT, h0⟩ := hz
    obtain ⟨n1, n2, n3⟩ := hT T rfl
    have hTy : s.TypeIs (.ref z) "zip" := ⟨_, hz, rfl⟩
    unfold pyNext
    exact wpAny_bind (wpAny_attempt (wpAny_callSpecial?_slot (name := Str.ofString "__next__") hTy F.slot_zip_next
      (wpAny_call_entry F.slot_zip_next hTy F.entry_zip_next
        (zip_turn_held D I1 I2 hz h0 hTI st1 st2 hx hy fun h' a1 a3 a4 a5 a6 a7 => wpAny_pure (hQ h' T (fun q => nomatch q) (fun _ q => Option.some.inj q) ⟨a7 _ _ D.TIz D.TIi1 D.TIi2 hTI, true, a1, oT, a7 _ _ n1 n2 n3 h0⟩ a3 a4 a5 a6 fun c o c1 _ c3 c4 q => a7 c o c1 c3 c4 q)) (F.args_zip_next_1 _))))
theorem zip_done (hh : A.handled = none) (D : ZipApart z TI TO i1 i2 l1 l2) (I1 : SeqIt prog w i1 l1 xs S1) (I2 : SeqIt prog w i2 l2 ys S2) {got : Option Addr} {Q : Option Value → Shared → Prop} (hz : ZipSt s.heap z TI TO i1 i2 got) (st1 : S1 k s.heap) (st2 : S2 k s.heap) (hend : xs[k]? = none ∨ ys[k]? = none)
    (hQ : ∀ h', (∀ c o, c ≠ z → c ≠ TO → c ≠ i1 → c ≠ i2 → s.heap.get? c = some o → h'.get? c = some o) → Q none { s with heap := h' }) : wpAny (model prog w) A (pyNext (.ref z)) Q E s := by
  obtain ⟨hTI, hz⟩ := hz
  have stop : ∀ h' e, (∀ c o, c ≠ z → c ≠ TO → c ≠ i1 → c ≠ i2 → s.heap.get? c = some o → h'.get? c = some o) → (∃ o, h'.get? e = some o ∧ o.cls = .type "StopIteration") →
      wpAny (model prog w) A (do if (← isInstance (.ref e) (.type "StopIteration")) then pure none else throw (.ref e)) Q E { s with heap := h' } := fun h' e kp ⟨o, ho, hc⟩ =>
    wpAny_bind (wpAny_isInstance (T := "StopIteration") (b := true) ⟨o, ho, hc⟩ isSubtype_stop (wpAny_pure (hQ h' kp)))
  cases got with
  | none =>
    obtain ⟨hz, a, b, hTO⟩ := hz
    have hTy : s.TypeIs (.ref z) "zip" := ⟨_, hz, rfl⟩
    unfold pyNext
    refine wpAny_bind (wpAny_attempt (wpAny_callSpecial?_slot (name := Str.ofString "__next__") hTy F.slot_zip_next
      (wpAny_call_entry F.slot_zip_next hTy F.entry_zip_next (zip_stop_new (A := A.in1) hh D I1 I2 hz hTI hTO st1 st2 hend fun h' e kp he => stop h' e kp he) (F.args_zip_next_1 _))))
  | some T =>
    obtain ⟨f, hz, oT, h0⟩ := hz
    have hTy : s.TypeIs (.ref z) "zip" := ⟨_, hz, rfl⟩
    unfold pyNext
    refine wpAny_bind (wpAny_attempt (wpAny_callSpecial?_slot (name := Str.ofString "__next__") hTy F.slot_zip_next
      (wpAny_call_entry F.slot_zip_next hTy F.entry_zip_next (zip_stop_held (A := A.in1) hh D I1 I2 hz h0 hTI st1 st2 hend fun h' e kp he => stop h' e kp he) (F.args_zip_next_1 _))))
end
/-! ### zip(l, t), l a list, t a tuple -/
abbrev mk1 (h : Heap) (l : Addr) : Heap := h.push { cls := .type "list_iterator", data := .fields #[.ref l, .int 0 0] }
abbrev mk2 (h : Heap) (l t : Addr) : Heap := (mk1 h l).push { cls := .type "tuple_iterator", data := .fields #[.ref t, .int 0 0] }
abbrev mk3 (h : Heap) (l t : Addr) : Heap := (mk2 h l t).push { cls := .type "tuple", data := .seq #[.ref h.objs.size, .ref (mk1 h l).objs.size] }
abbrev mk4 (h : Heap) (l t : Addr) : Heap := (mk3 h l t).push { cls := .type "tuple", data := .seq #[.none, .none] }
abbrev mk5 (h : Heap) (l t : Addr) : Heap := (mk4 h l t).push { cls := .type "zip", data := .fields #[.none, .bool false, .bool false, .ref (mk2 h l t).objs.size, .ref (mk3 h l t).objs.size] }
theorem meets_zipLT (l t : Addr) (xs ys : Array Value) :
    Meets (Builtin.«zip.__new__» ⟨[.type "zip", .ref l, .ref t], []⟩) (fun _ R s => s.heap.IsList l xs ∧ s.heap.IsTuple t ys ∧ R (.ok (.ret (.ref (mk4 s.heap l t).objs.size))) { s with heap := mk5 s.heap l t }) :=
  .of_wp fun prog w A R s h => by
    obtain ⟨hp, g, d, tk, os⟩ := s
    obtain ⟨h1, h2, h⟩ := h
    have zs := sub_zip
    have L1 : Heap.IsList (Shared.heap ⟨hp, g, d, tk, os⟩) l xs := h1
    have L2 : Heap.IsTuple (Shared.heap ⟨hp.push { cls := .type "list_iterator", data := .fields #[.ref l, .int 0 0] }, g, d, tk, os⟩) t ys := Heap.IsTuple.push h2 _
    wp_walk using wpAny_pyIter_list L1, wpAny_pyIter_tuple L2
    exact ⟨_, rfl, h⟩
section
variable {prog : Program} {w : World} {A : Around} {E : Value → Shared → Prop} {s : Shared}
theorem call_zipLT {l t : Addr} {xs ys : Array Value} {Q : Value → Shared → Prop} (h1 : s.heap.IsList l xs) (h2 : s.heap.IsTuple t ys)
    (h : ∀ h' n, n = s.heap.objs.size → IsZip h' (n + 4) (n + 2) (n + 3) .none → IsPair h' (n + 2) (.ref n) (.ref (n + 1)) → IsPair h' (n + 3) .none .none → h'.IsListIter n l 0 → h'.IsTupleIter (n + 1) t 0 → h'.objs.size = n + 5 → (∀ c o, s.heap.get? c = some o → h'.get? c = some o) → Q (.ref (n + 4)) { s with heap := h' }) :
    wpAny (model prog w) A (call (.type "zip") [.ref l, .ref t]) Q E s := by
  refine callType_new F.called_zip (by decide) (F.typeCall_zip_2 _ _) (F.newCall_zip_2 _ _) (fun obj => F.args_object_init_3 obj _ _) F.entry_zip_new (meets_zipLT l t xs ys) ⟨h1, h2, ?_⟩
  have n1 : (mk1 s.heap l).objs.size = s.heap.objs.size + 1 := Heap.size_push ..
  have n2 : (mk2 s.heap l t).objs.size = s.heap.objs.size + 2 := by rw [Heap.size_push, n1]
  have n3 : (mk3 s.heap l t).objs.size = s.heap.objs.size + 3 := by rw [Heap.size_push, n2]
  have n4 : (mk4 s.heap l t).objs.size = s.heap.objs.size + 4 := by rw [Heap.size_push, n3]
  have n5 : (mk5 s.heap l t).objs.size = s.heap.objs.size + 5 := by rw [Heap.size_push, n4]
  have k2 : ∀ c o, (mk1 s.heap l).get? c = some o → (mk5 s.heap l t).get? c = some o := fun c o e => Heap.get?_push_of_some _ (Heap.get?_push_of_some _ (Heap.get?_push_of_some _ (Heap.get?_push_of_some _ e)))
  have k3 : ∀ c o, (mk2 s.heap l t).get? c = some o → (mk5 s.heap l t).get? c = some o := fun c o e => Heap.get?_push_of_some _ (Heap.get?_push_of_some _ (Heap.get?_push_of_some _ e))
  have k4 : ∀ c o, (mk3 s.heap l t).get? c = some o → (mk5 s.heap l t).get? c = some o := fun c o e => Heap.get?_push_of_some _ (Heap.get?_push_of_some _ e)
  have g0 := k2 _ _ (Heap.get?_push_size s.heap (o := { cls := .type "list_iterator", data := .fields #[.ref l, .int 0 0] }) rfl)
  have g1 := k3 _ _ (Heap.get?_push_size (mk1 s.heap l) (o := { cls := .type "tuple_iterator", data := .fields #[.ref t, .int 0 0] }) rfl)
  have g2 := k4 _ _ (Heap.get?_push_size (mk2 s.heap l t) (o := { cls := .type "tuple", data := .seq #[.ref s.heap.objs.size, .ref (mk1 s.heap l).objs.size] }) rfl)
  have g3 : (mk5 s.heap l t).get? (mk3 s.heap l t).objs.size = some { cls := .type "tuple", data := .seq #[.none, .none] } := Heap.get?_push_of_some _ (Heap.get?_push_size _ rfl)
  have g4 : (mk5 s.heap l t).get? (mk4 s.heap l t).objs.size = some { cls := .type "zip", data := .fields #[.none, .bool false, .bool false, .ref (mk2 s.heap l t).objs.size, .ref (mk3 s.heap l t).objs.size] } := Heap.get?_push_size _ rfl
  show _ ∧ _
  rw [n2, n3, n4] at g4
  rw [n1, n2] at g2
  rw [n3] at g3
  rw [n1] at g1
  rw [n4]
  exact ⟨⟨_, g4, rfl⟩, h _ _ rfl g4 g2 g3 ⟨_, g0, rfl, rfl⟩ ⟨_, g1, rfl, rfl⟩ n5 fun c o e => k2 c o (Heap.get?_push_of_some _ e)⟩
theorem apart {n l t : Nat} (hl : l < n) (ht : t < n) : ZipApart (n + 4) (n + 2) (n + 3) n (n + 1) l t := ⟨(by omega : (n + 2 : Nat) ≠ n + 4), (by omega : (n + 3 : Nat) ≠ n + 4), (by omega : (n : Nat) ≠ n + 4), (by omega : (n + 1 : Nat) ≠ n + 4), (by omega : (n + 2 : Nat) ≠ n + 3), (by omega : (n + 2 : Nat) ≠ n), (by omega : (n + 2 : Nat) ≠ n + 1), (by omega : (n + 3 : Nat) ≠ n), (by omega : (n + 3 : Nat) ≠ n + 1), (by omega : (n : Nat) ≠ n + 1), (by omega : (l : Nat) ≠ n + 4), (by omega : (l : Nat) ≠ n + 3), (by omega : (l : Nat) ≠ n), (by omega : (l : Nat) ≠ n + 1), (by omega : (t : Nat) ≠ n + 4), (by omega : (t : Nat) ≠ n + 3), (by omega : (t : Nat) ≠ n), (by omega : (t : Nat) ≠ n + 1)⟩

/-! ### list(z) -/
theorem zip_len_none : typeLookup (.type "zip") "__len__" = pure none := am_miss_of_fast (by decide +kernel)
theorem zip_hint_none : typeLookup (.type "zip") "__length_hint__" = pure none := am_miss_of_fast (by decide +kernel)
theorem hint_zip {r : Addr} {Q : Bool → Shared → Prop} (hT : s.TypeIs (.ref r) "zip") (h : ∀ b, Q b s) : wpAny (model prog w) A (Builtin.List.listLengthHint (.ref r)) Q E s := by
  unfold Builtin.List.listLengthHint
  refine wpAny_bind (wpAny_specialOf hT zip_len_none ?_)
  show wpAny _ _ (specialOf (Value.ref r) (Str.ofString "__length_hint__") >>= _) _ _ _
  exact wpAny_bind (wpAny_specialOf hT zip_hint_none (wpAny_pure (h _)))
theorem zipSt_frame {h h' : Heap} {z TI TO i1 i2 : Addr} {got : Option Addr} (st : ZipSt h z TI TO i1 i2 got) {S : Addr} (n1 : TI ≠ S) (n2 : z ≠ S) (n3 : TO ≠ S) (n4 : ∀ T, got = some T → T ≠ S) (k : ∀ b o, b ≠ S → h.get? b = some o → h'.get? b = some o) : ZipSt h' z TI TO i1 i2 got := by
  obtain ⟨a, b⟩ := st
  refine ⟨k _ _ n1 a, ?_⟩
  cases got with
  | none => exact ⟨k _ _ n2 b.1, let ⟨x, y, q⟩ := b.2; ⟨x, y, k _ _ n3 q⟩⟩
  | some T => exact let ⟨f, q, o, q2⟩ := b; ⟨f, k _ _ n2 q, o, k _ _ (n4 T rfl) q2⟩
/-- the pairs that were given out -/
def Pairs (h : Heap) (xs ys : Array Value) (as : List Addr) : Prop := ∀ (j : Nat) (a : Addr), as[j]? = some a → ∃ x y, xs[j]? = some x ∧ ys[j]? = some y ∧ IsPair h a x y
variable {z TI TO i1 i2 l1 l2 : Addr} {xs ys : Array Value} {S1 S2 : Nat → Heap → Prop}
theorem zip_loop {R : Result → Shared → Prop} (hh : A.handled = none) (D : ZipApart z TI TO i1 i2 l1 l2) (I1 : SeqIt prog w i1 l1 xs S1) (I2 : SeqIt prog w i2 l2 ys S2) (S : Addr) (hS : S ≠ z ∧ S ≠ TI ∧ S ≠ TO ∧ S ≠ i1 ∧ S ≠ i2 ∧ S ≠ l1 ∧ S ≠ l2) (n : Nat) (hn : n ≤ sizeLine) (hx : n ≤ xs.size) (hy : n ≤ ys.size) (hend : xs[n]? = none ∨ ys[n]? = none) (res : Value) (base : Nat) :
    ∀ (m k : Nat) (s : Shared) (as : List Addr) (c : Nat) (got : Option Addr), n - k = m → k ≤ n → as.length = k → (∀ a ∈ as, base ≤ a) → (∀ T, got = some T → base ≤ T) → z < base → TI < base → TO < base → i1 < base → i2 < base → S < base → base ≤ s.heap.objs.size →
      ZipSt s.heap z TI TO i1 i2 got → S1 k s.heap → S2 k s.heap → s.heap.get? S = some { cls := .type "list", dict := none, data := .seq (as.map Value.ref).toArray c, slots := #[] } → Pairs s.heap xs ys as →
      (∀ h' tk bs c', (∀ b o, b ≠ S → b ≠ z → b ≠ TO → b ≠ i1 → b ≠ i2 → s.heap.get? b = some o → h'.get? b = some o) → h'.get? S = some { cls := .type "list", dict := none, data := .seq (bs.map Value.ref).toArray c', slots := #[] } → bs.length = n → Pairs h' xs ys bs → (∀ a ∈ bs, base ≤ a) → R (.ok (.ret res)) { s with heap := h', toks := tk }) →
      codeAny (model prog w) A (.builtin "list.extend.loop" ⟨[.ref S, .ref z, res], []⟩) R s := by
  intro m
  induction m with
  | zero =>
    intro k s as c got hm hk hl hb hgb z0 t0 o0 i10 i20 s0 sz hz st1 st2 hob pr hR
    have e : k = n := by omega
    subst e
    refine codeAny_builtin F.entry_extend_loop ?_
    rw [Around.under_plainId F.plain_extend_loop _]
    show wpAny _ A.in1 (pyNext (.ref z) >>= _) _ _ s
    refine wpAny_bind (zip_done (A := A.in1) hh D I1 I2 hz st1 st2 hend fun h' kp => ?_)
    refine wpAny_pure (hR h' s.toks as c (fun b o _ b1 b2 b3 b4 q => kp b o b1 b2 b3 b4 q) (kp _ _ hS.1 hS.2.2.1 hS.2.2.2.1 hS.2.2.2.2.1 hob) hl (fun j a ha => ?_) hb)
    obtain ⟨x, y, e1, e2, e3⟩ := pr j a ha
    have hba := hb a (List.mem_of_getElem? ha)
    exact ⟨x, y, e1, e2, kp _ _ (fun q => by subst q; exact absurd (Nat.lt_of_lt_of_le z0 hba) (Nat.lt_irrefl _)) (fun q => by subst q; exact absurd (Nat.lt_of_lt_of_le o0 hba) (Nat.lt_irrefl _)) (fun q => by subst q; exact absurd (Nat.lt_of_lt_of_le i10 hba) (Nat.lt_irrefl _)) (fun q => by subst q; exact absurd (Nat.lt_of_lt_of_le i20 hba) (Nat.lt_irrefl _)) e3⟩
  | succ m ih =>
    intro k s as c got hm hk hl hb hgb z0 t0 o0 i10 i20 s0 sz hz st1 st2 hob pr hR
    have lt : k < n := by omega
    have low : ∀ {a b : Addr}, a < base → base ≤ b → b ≠ a := fun h1 h2 q => by subst q; exact absurd (Nat.lt_of_lt_of_le h1 h2) (Nat.lt_irrefl _)
    refine codeAny_builtin F.entry_extend_loop ?_
    rw [Around.under_plainId F.plain_extend_loop _]
    show wpAny _ A.in1 (pyNext (.ref z) >>= _) _ _ s
    have ex := Array.getElem?_eq_getElem (Nat.lt_of_lt_of_le lt hx)
    have ey := Array.getElem?_eq_getElem (Nat.lt_of_lt_of_le lt hy)
    refine wpAny_bind (zip_next D I1 I2 hz st1 st2 ex ey (fun T hT => ⟨low z0 (hgb T hT), low i10 (hgb T hT), low i20 (hgb T hT)⟩) fun h' T' w1 w2 hz' p1 p2 hp sz' kp => ?_)
    have hob' := kp _ _ hS.1 hS.2.2.1 hS.2.2.2.1 hS.2.2.2.2.1 hob
    have hT' : base ≤ T' := by
      cases got with
      | none => rw [w1 rfl]; exact sz
      | some T => rw [w2 T rfl]; exact hgb T rfl
    show wpAny _ A.in1 (updateSeq S (·.push (.ref s.heap.objs.size)) >>= _) _ _ _
    have oth : ∀ b o, b ≠ S → h'.get? b = some o → (h'.update S (Obj.mapSeq (·.push (Value.ref s.heap.objs.size)))).get? b = some o := fun b o hbS q => (Heap.get?_update_other _ _ (Ne.symm hbS)).trans q
    have eas : (as ++ [s.heap.objs.size]).map Value.ref = (as.map Value.ref) ++ [.ref s.heap.objs.size] := by rw [List.map_append]; rfl
    have hsz : (as.map Value.ref).toArray.size = k := by simp [hl]
    refine wpAny_bind (wpAny_updateSeq hob' rfl (wpAny_pure ⟨plainId_quiet F.plain_extend_loop _, ih (k + 1) _ (as ++ [s.heap.objs.size]) (c + 1) (some T') (by omega) lt (by rw [List.length_append, hl]; rfl) (fun a ha => ?_) (fun T q => by cases q; exact hT') z0 t0 o0 i10 i20 s0 ?_
      (zipSt_frame hz' (Ne.symm hS.2.1) (Ne.symm hS.1) (Ne.symm hS.2.2.1) (fun T q => by cases q; exact low s0 hT') oth) (I1.frame p1 (fun o => oth _ o (Ne.symm hS.2.2.2.1)) fun o => oth _ o (Ne.symm hS.2.2.2.2.2.1)) (I2.frame p2 (fun o => oth _ o (Ne.symm hS.2.2.2.2.1)) fun o => oth _ o (Ne.symm hS.2.2.2.2.2.2)) ?_ (fun j a ha => ?_) fun g tk bs c' k2 hob2 hl2 pr2 hb2 => ?_⟩) (by rw [hsz]; omega) (by rw [Array.size_push, hsz]; omega))
    · rcases List.mem_append.mp ha with ha | ha
      · exact hb a ha
      · rw [List.mem_singleton.mp ha]; exact sz
    · show base ≤ (h'.update S _).objs.size
      rw [Heap.size_update, sz']
      exact Nat.le_succ_of_le sz
    · have q := Heap.get?_update_self (Obj.mapSeq (·.push (Value.ref s.heap.objs.size))) hob' rfl
      rw [q, eas]
      simp [Obj.mapSeq]
    · by_cases hj : j < as.length
      · rw [List.getElem?_append_left hj] at ha
        obtain ⟨x, y, e1, e2, e3⟩ := pr j a ha
        have hba := hb a (List.mem_of_getElem? ha)
        exact ⟨x, y, e1, e2, oth _ _ (low s0 hba) (kp _ _ (low z0 hba) (low o0 hba) (low i10 hba) (low i20 hba) e3)⟩
      · rw [List.getElem?_append_right (by omega)] at ha
        have j0 : j - as.length = 0 := by
          rcases Nat.eq_zero_or_pos (j - as.length) with q | q
          · exact q
          · rw [List.getElem?_eq_none (show [s.heap.objs.size].length ≤ j - as.length from q)] at ha; cases ha
        rw [j0] at ha
        cases ha
        have ej : j = k := by omega
        subst ej
        exact ⟨_, _, ex, ey, oth _ _ (low s0 sz) hp⟩
    · exact hR g tk bs c' (fun b o b0 b1 b2 b3 b4 q => k2 b o b0 b1 b2 b3 b4 (oth b o b0 (kp b o b1 b2 b3 b4 q))) hob2 hl2 pr2 hb2
/-- list(zip(l, t)), the zip just made -/
theorem list_zip {Q : Value → Shared → Prop} (hh : A.handled = none) (D : ZipApart z TI TO i1 i2 l1 l2) (I1 : SeqIt prog w i1 l1 xs S1) (I2 : SeqIt prog w i2 l2 ys S2) (n : Nat) (hn : n ≤ sizeLine) (hx : n ≤ xs.size) (hy : n ≤ ys.size) (hend : xs[n]? = none ∨ ys[n]? = none)
    (hz : ZipSt s.heap z TI TO i1 i2 none) (st1 : S1 0 s.heap) (st2 : S2 0 s.heap)
    (hQ : ∀ h' tk bs c', (∀ b o, b ≠ z → b ≠ TO → b ≠ i1 → b ≠ i2 → s.heap.get? b = some o → h'.get? b = some o) → h'.get? s.heap.objs.size = some { cls := .type "list", dict := none, data := .seq (bs.map Value.ref).toArray c', slots := #[] } → bs.length = n → Pairs h' xs ys bs → (∀ a ∈ bs, s.heap.objs.size < a) → Q (.ref s.heap.objs.size) { s with heap := h', toks := tk }) :
    wpAny (model prog w) A (call (.type "list") [.ref z]) Q E s := by
  obtain ⟨a, b, hzz, hTO⟩ := (show ∃ a b, IsZip s.heap z TI TO .none ∧ IsPair s.heap TO a b from let ⟨q, a, b, r⟩ := hz.2; ⟨a, b, q, r⟩)
  have zl : z < s.heap.objs.size := Heap.lt_size hzz
  have TIl : TI < s.heap.objs.size := Heap.lt_size hz.1
  have TOl : TO < s.heap.objs.size := Heap.lt_size hTO
  have i1l : i1 < s.heap.objs.size := let ⟨⟨o, q⟩, _⟩ := I1.there st1; Heap.lt_size q
  have i2l : i2 < s.heap.objs.size := let ⟨⟨o, q⟩, _⟩ := I2.there st2; Heap.lt_size q
  have l1l : l1 < s.heap.objs.size := let ⟨_, o, q⟩ := I1.there st1; Heap.lt_size q
  have l2l : l2 < s.heap.objs.size := let ⟨_, o, q⟩ := I2.there st2; Heap.lt_size q
  refine callType_codes (Q₁ := fun obj s₁ => obj = .ref s.heap.objs.size ∧ s₁ = { s with heap := s.heap.push { cls := .type "list", data := .seq #[] } }) PySem.F.called_list (PySem.F.typeCall_list_1 _) PySem.F.entry_list_init (code_list_new _ ⟨rfl, rfl⟩) fun obj s₁ h₁ => ?_
  obtain ⟨rfl, rfl⟩ := h₁
  have S0 : (s.heap.push { cls := .type "list", data := .seq #[] }).get? s.heap.objs.size = some { cls := .type "list", data := .seq #[] } := Heap.get?_push_size _ rfl
  have p0 : ∀ b o, s.heap.get? b = some o → (s.heap.push { cls := .type "list", data := .seq #[] }).get? b = some o := fun b o e => Heap.get?_push_of_some _ e
  refine ⟨⟨_, S0, rfl⟩, PySem.F.args_list_init_2 _ _, ?_⟩
  show wpAny _ _ (do let old ← Builtin.List.listItems (.ref s.heap.objs.size); Builtin.List.listUpdate (.ref s.heap.objs.size) (fun _ => #[]); letGo old.toList.reverse; Builtin.List.listExtendWith (.ref s.heap.objs.size) (.ref z) .none) _ _ _
  unfold Builtin.List.listItems
  refine wpAny_bind (wpAny_bind (wpAny_seqItems S0 rfl (wpAny_pure ?_)))
  show wpAny _ _ (updateSeq s.heap.objs.size (fun _ => #[]) >>= fun _ => letGo (#[] : Array Value).toList.reverse >>= fun _ => Builtin.List.listExtendWith (.ref s.heap.objs.size) (.ref z) .none) _ _ _
  refine wpAny_bind (wpAny_updateSeq S0 rfl (wpAny_bind (wpAny_letGo ?_)))
  have S2' := Heap.get?_update_self (Obj.mapSeq (fun _ => (#[] : Array Value))) S0 rfl
  have p1 : ∀ b o, b ≠ s.heap.objs.size → s.heap.get? b = some o → ((s.heap.push { cls := .type "list", data := .seq #[] }).update s.heap.objs.size (Obj.mapSeq (fun _ => (#[] : Array Value)))).get? b = some o := fun b o hb e => (Heap.get?_update_other _ _ (Ne.symm hb)).trans (p0 b o e)
  generalize hg1 : (s.heap.push { cls := .type "list", data := .seq #[] }).update s.heap.objs.size (Obj.mapSeq (fun _ => (#[] : Array Value))) = g1 at S2' p1 ⊢
  have sz1 : s.heap.objs.size + 1 ≤ g1.objs.size := Heap.lt_size S2'
  have ne : ∀ {b : Addr}, b < s.heap.objs.size → b ≠ s.heap.objs.size := fun h => Nat.ne_of_lt h
  have z1 := p1 _ _ (ne zl) hzz
  unfold Builtin.List.listExtendWith
  refine wpAny_bind (wpAny_typeOf (T := "zip") ⟨_, z1, rfl⟩ ?_)
  have e1 : Builtin.List.listSameRef (.ref s.heap.objs.size) (.ref z) = false := by simp [Builtin.List.listSameRef, Nat.ne_of_gt zl]
  have e2 : (Value.type "zip" == Value.type "list") = false := by decide
  have e3 : (Value.type "zip" == Value.type "tuple") = false := by decide
  simp only [e1, e2, e3, Bool.or_false, Bool.false_eq_true, if_false]
  refine wpAny_bind (wpAny_pyIter_zip z1 (wpAny_bind (wpAny_holding (hint_zip ⟨_, z1, rfl⟩ fun bb => ?_))))
  have run : ∀ (g : Heap) (c : Nat) (tk : Nat), (∀ b o, b ≠ s.heap.objs.size → g1.get? b = some o → g.get? b = some o) → s.heap.objs.size + 1 ≤ g.objs.size → g.get? s.heap.objs.size = some { cls := .type "list", dict := none, data := .seq #[] c, slots := #[] } →
      codeAny (model prog w) A.in1 (.builtin "list.extend.loop" ⟨[.ref s.heap.objs.size, .ref z, .none], []⟩) (wants (fun r s₂ => r = .none ∧ Q (.ref s.heap.objs.size) s₂) E) { s with heap := g, toks := tk } := fun g c tk kg szg hob => by
    have up : ∀ b o, b ≠ s.heap.objs.size → s.heap.get? b = some o → g.get? b = some o := fun b o hb e => kg b o hb (p1 b o hb e)
    refine zip_loop (A := A.in1) hh D I1 I2 s.heap.objs.size ⟨Nat.ne_of_gt zl, Nat.ne_of_gt TIl, Nat.ne_of_gt TOl, Nat.ne_of_gt i1l, Nat.ne_of_gt i2l, Nat.ne_of_gt l1l, Nat.ne_of_gt l2l⟩ n hn hx hy hend .none (s.heap.objs.size + 1) n 0 _ [] c none (Nat.sub_zero _) (Nat.zero_le _) rfl (fun a ha => absurd ha (by simp)) (fun T q => nomatch q)
      (Nat.lt_succ_of_lt zl) (Nat.lt_succ_of_lt TIl) (Nat.lt_succ_of_lt TOl) (Nat.lt_succ_of_lt i1l) (Nat.lt_succ_of_lt i2l) (Nat.lt_succ_self _) szg (zipSt_frame hz (ne TIl) (ne zl) (ne TOl) (fun T q => nomatch q) up) (I1.frame st1 (fun o => up _ o (ne i1l)) fun o => up _ o (ne l1l)) (I2.frame st2 (fun o => up _ o (ne i2l)) fun o => up _ o (ne l2l)) hob (fun j a ha => by simp at ha) fun h' tk' bs c' kp hob' hl' pr hb => ?_
    exact ⟨rfl, hQ h' tk' bs c' (fun b o b1 b2 b3 b4 e => kp b o (Nat.ne_of_lt (Heap.lt_size e)) b1 b2 b3 b4 (up b o (Nat.ne_of_lt (Heap.lt_size e)) e)) hob' hl' pr fun a ha => hb a ha⟩
  refine wpAny_ite_split (fun _ => ?_) (fun _ => wpAny_pure ⟨plainId_quiet PySem.F.plain_extend_loop _, run g1 _ _ (fun _ _ _ e => e) sz1 S2'⟩)
  refine wpAny_bind (wpAny_rule (wpAny_bind ?_))
  show wpAny _ _ (updateSeq s.heap.objs.size (·.push .none) >>= fun _ => updateSeq s.heap.objs.size (·.pop)) _ _ _
  refine wpAny_bind (wpAny_updateSeq S2' rfl ?_)
  have S3' := Heap.get?_update_self (Obj.mapSeq (·.push Value.none)) S2' rfl
  refine wpAny_updateSeq (hz := by seq_fits) S3' rfl ?_
  have S4' := Heap.get?_update_self (Obj.mapSeq (·.pop)) S3' rfl
  refine wpAny_pure ⟨plainId_quiet PySem.F.plain_extend_loop _, run _ _ _ (fun b o hb e => ?_) ?_ S4'⟩
  · exact (Heap.get?_update_other _ _ (Ne.symm hb)).trans ((Heap.get?_update_other _ _ (Ne.symm hb)).trans e)
  · exact Heap.lt_size S4'
end
/-! ### zip as the argument of dict -/
theorem zip_pairs {prog : Program} {w : World} {z TI TO i1 i2 l1 l2 : Addr} {xs ys : Array Value} {S1 S2 : Nat → Heap → Prop} (D : ZipApart z TI TO i1 i2 l1 l2) (I1 : SeqIt prog w i1 l1 xs S1) (I2 : SeqIt prog w i2 l2 ys S2) (n : Nat) (hx : n ≤ xs.size) (hy : n ≤ ys.size) (hend : xs[n]? = none ∨ ys[n]? = none) :
    PairArg prog w "zip" z [z, TI, TO, i1, i2, l1, l2] [z, TO, i1, i2] n (fun i k v => xs[i]? = some k ∧ ys[i]? = some v) (fun h => ZipSt h z TI TO i1 i2 none ∧ S1 0 h ∧ S2 0 h) where
  type := fun s ok => ⟨_, ok.1.2.1, rfl⟩
  notDict := by decide
  keep := fun h h' ok k => ⟨⟨k _ _ ok.1.1, k _ _ ok.1.2.1, let ⟨a, b, q⟩ := ok.1.2.2; ⟨a, b, k _ _ q⟩⟩, I1.frame ok.2.1 (k _) (k _), I2.frame ok.2.2 (k _) (k _)⟩
  there := fun h ok b hb => by
    obtain ⟨⟨t1, t2, x, y, t3⟩, s1, s2⟩ := ok
    obtain ⟨a1, a2⟩ := I1.there s1
    obtain ⟨b1, b2⟩ := I2.there s2
    simp only [List.mem_cons, List.not_mem_nil, or_false] at hb
    rcases hb with rfl | rfl | rfl | rfl | rfl | rfl | rfl
    · exact ⟨_, t2⟩
    · exact ⟨_, t1⟩
    · exact ⟨_, t3⟩
    · exact a1
    · exact b1
    · exact a2
    · exact b2
  sub := fun b hb => by
    simp only [List.mem_cons, List.not_mem_nil, or_false] at hb ⊢
    rcases hb with rfl | rfl | rfl | rfl <;> simp
  noKeys := fun A s Q E hA ok h => getAttrOr_miss_zip ok.1.2.1 rfl rfl rfl zip_no_keys (by decide +kernel) hA h
  iter := fun A s d Q E hA ok hd hdf h => by
    simp only [List.mem_cons, List.not_mem_nil, or_false, not_or] at hdf
    obtain ⟨dz, dTI, dTO, di1, di2, dl1, dl2⟩ := hdf
    refine wpAny_pyIter_zip ok.1.2.1 (h z [z, TO, i1, i2] (fun i h => ∃ got, ZipSt h z TI TO i1 i2 got ∧ (∀ T, got = some T → T ≠ z ∧ T ≠ i1 ∧ T ≠ i2 ∧ T ≠ d) ∧ S1 i h ∧ S2 i h) s.heap s.toks ?_ ⟨none, ok.1, (fun T q => nomatch q), ok.2.1, ok.2.2⟩ (fun _ _ e => e) fun b hb => .inl hb)
    exact {
      off := fun hm => by
        simp only [List.mem_cons, List.not_mem_nil, or_false] at hm
        rcases hm with q | q | q | q
        · exact dz q
        · exact dTO q
        · exact di1 q
        · exact di2 q
      frame := fun i h1 h2 ⟨got, st, ap, s1, s2⟩ k => ⟨got, zipSt_frame st (Ne.symm dTI) (Ne.symm dz) (Ne.symm dTO) (fun T q => (ap T q).2.2.2) k, ap, I1.frame s1 (fun o => k _ o (Ne.symm di1)) fun o => k _ o (Ne.symm dl1), I2.frame s2 (fun o => k _ o (Ne.symm di2)) fun o => k _ o (Ne.symm dl2)⟩
      item := fun i s₁ Q₁ E₁ hi ⟨got, st, ap, s1, s2⟩ hds hQ => by
        have ex := Array.getElem?_eq_getElem (Nat.lt_of_lt_of_le hi hx)
        have ey := Array.getElem?_eq_getElem (Nat.lt_of_lt_of_le hi hy)
        have fr : ∀ {c : Addr} {o : Obj}, s₁.heap.get? c = some o → s₁.heap.objs.size ≠ c := fun e => Nat.ne_of_gt (Heap.lt_size e)
        have nz : s₁.heap.objs.size ≠ z := by
          cases got with
          | none => exact fr st.2.1
          | some T => exact let ⟨f, q, _⟩ := st.2; fr q
        have n1 : s₁.heap.objs.size ≠ i1 := let ⟨⟨o, q⟩, _⟩ := I1.there s1; fr q
        have n2 : s₁.heap.objs.size ≠ i2 := let ⟨⟨o, q⟩, _⟩ := I2.there s2; fr q
        refine zip_next D I1 I2 st s1 s2 ex ey (fun T q => ⟨(ap T q).1, (ap T q).2.1, (ap T q).2.2.1⟩) fun h' T' w1 w2 st' p1 p2 hp _ kp => ?_
        refine hQ s₁.heap.objs.size _ _ h' s₁.toks ⟨ex, ey⟩ (.inl ⟨_, hp, rfl, _, rfl⟩) ⟨some T', st', fun T q => ?_, p1, p2⟩ fun c o hc e => kp c o (fun q => hc (by simp [q])) (fun q => hc (by simp [q])) (fun q => hc (by simp [q])) (fun q => hc (by simp [q])) e
        cases q
        cases got with
        | none => rw [w1 rfl]; exact ⟨nz, n1, n2, Nat.ne_of_gt hds⟩
        | some T => rw [w2 T rfl]; exact ap T rfl
      done := fun s₁ Q₁ E₁ ⟨got, st, ap, s1, s2⟩ hQ => zip_done hA D I1 I2 st s1 s2 hend fun h' kp => hQ h' s₁.toks fun c o hc e => kp c o (fun q => hc (by simp [q])) (fun q => hc (by simp [q])) (fun q => hc (by simp [q])) (fun q => hc (by simp [q])) e }
end DLZ

set_option maxRecDepth 100000
set_option maxHeartbeats 2000000
/-! DL, dicts with tuple keys made of pairs, of a zip; list(zip(..)). -/
namespace DL
open PySem PySem.Spec L2
/-! ### several new objects at once -/
theorem inv_lays {X : Cx} {pins : List (Addr × Obj)} {σ : L2.St} {H H' : Hp} {s : Shared} {h' : Heap} {t' : Nat} (I : Inv X pins σ H s) (k : ∀ b o, s.heap.get? b = some o → h'.get? b = some o) (old : ∀ b, b < s.heap.objs.size → H' b = H b)
    (ok : ∀ b o, s.heap.objs.size ≤ b → H' b = some o → ObjOk X.prog X.w H' h' b o) : Inv X pins σ H' { s with heap := h', toks := t' } := by
  have low : ∀ {b : Addr} {o : HO}, H b = some o → H' b = some o := fun {b o} e => by rw [old b (I.hok.lt e)]; exact e
  refine I.un ⟨fun b o e _ _ _ => k b o e, fun b o e _ _ _ => ⟨o.slots, k b o e⟩, fun b o e n _ => ?_, fun b o e _ => ⟨o, k b o e⟩, fun b xs e => low e, fun b o u e => low e, fun b ps e => ⟨#[], by rw [low e]; simp⟩⟩ fun b o e => ?_
  · rw [old b (Heap.lt_size e)]; exact n
  · by_cases hb : b < s.heap.objs.size
    · rw [old b hb] at e
      exact (I.hok b o e).stay (fun c u _ q => k c u q) (fun c q => low q) fun c xs q => low q
    · exact ok b o (Nat.le_of_not_lt hb) e
theorem Rel.lays {K : PySem.W.Frag} {Z : Addr → Prop} {H H' F : Hp} {S : Store} (R : Rel K Z H S F) (old : ∀ b o, H b = some o → H' b = some o) : Rel K Z H' S (fun b => match H b with | none => H' b | some _ => F b) ∧ Same F (fun b => match H b with | none => H' b | some _ => F b) ∧ Keep Z H H' := by
  have sm : Same F (fun b => match H b with | none => H' b | some _ => F b) := fun b u e => by
    have h := (R.sub b u e).1
    show (match H b with | none => H' b | some _ => F b) = some u
    rw [h]; exact e
  refine ⟨⟨fun b u e => ?_, fun b m e => ?_, fun b z => ?_⟩, sm, fun b o _ e => old b o e⟩
  · have e : (match H b with | none => H' b | some _ => F b) = some u := e
    cases q : H b with
    | none =>
      rw [q] at e
      refine ⟨e, no_some fun m z => ?_, fun z => ?_⟩
      · obtain ⟨_, o, z2, _⟩ := R.sto b m z
        rw [q] at z2; cases z2
      · obtain ⟨o, z2⟩ := R.hid b z
        rw [q] at z2; cases z2
    | some v =>
      rw [q] at e
      exact ⟨old b u (R.sub b u e).1, (R.sub b u e).2⟩
  · obtain ⟨h1, o, h2, h3⟩ := R.sto b m e
    exact ⟨h1, o, old b o h2, h3.up sm⟩
  · obtain ⟨o, h⟩ := R.hid b z
    exact ⟨o, old b o h⟩

/-! ### dict(pairs) with tuple keys -/
def mergeT (kvs more : List (List Key × V)) : List (List Key × V) := more.foldl (fun acc kv => putK acc kv.1 kv.2) kvs
/-- pairs of keys and values, with where the keys stand -/
inductive Keyed (H : Hp) : List (List Key × V) → List (List Key × Addr × Value) → Prop where
  | nil : Keyed H [] []
  | cons {k : List Key} {v : V} {b : Addr} {u : Value} {kvs : List (List Key × V)} {ps : List (List Key × Addr × Value)} : H b = some (.tup (k.map kV)) → RelV v u → Keyed H kvs ps → Keyed H ((k, v) :: kvs) ((k, b, u) :: ps)
theorem Keyed.merge {H : Hp} {kvs : List (List Key × V)} {ps : List (List Key × Addr × Value)} (h : Keyed H kvs ps) : ∀ {acc : List (List Key × V)} {xs : List (List Key × Addr × Value)}, KT H acc xs → KT H (mergeT acc kvs) (storedAllH xs ps) := by
  induction h with
  | nil => intro acc xs r; exact r
  | cons h1 h2 _ ih => intro acc xs r; exact ih (r.put _ h1 h2)
theorem Keyed.length {H : Hp} {kvs : List (List Key × V)} {ps : List (List Key × Addr × Value)} (h : Keyed H kvs ps) : kvs.length = ps.length := by
  induction h with
  | nil => rfl
  | cons _ _ _ ih => rw [List.length_cons, List.length_cons, ih]
theorem Keyed.mem {H : Hp} {kvs : List (List Key × V)} {ps : List (List Key × Addr × Value)} (h : Keyed H kvs ps) : ∀ x ∈ ps, H x.2.1 = some (.tup (x.1.map kV)) := by
  induction h with
  | nil => intro x hx; cases hx
  | cons h1 _ _ ih =>
    intro x hx
    rcases List.mem_cons.mp hx with rfl | hx
    · exact h1
    · exact ih x hx
theorem length_mergeT : ∀ (more kvs : List (List Key × V)), (mergeT kvs more).length ≤ kvs.length + more.length
  | [], kvs => Nat.le_add_right _ _
  | p :: r, kvs => by
    have h1 := length_mergeT r (putK kvs p.1 p.2)
    have h2 := length_putK kvs p.1 p.2
    show (mergeT (putK kvs p.1 p.2) r).length ≤ _
    rw [List.length_cons]; omega
section
variable {X : Cx} {pins : List (Addr × Obj)} {σ : L2.St} {H : Hp} {s : Shared}
/-- dict(arg) over any argument that gives such pairs -/
theorem dict_keyed {T : String} {a : Addr} {fp wr : List Addr} {n : Nat} {Rl : Nat → Value → Value → Prop} {OK : Heap → Prop} {kvs : List (List Key × V)} {ps : List (List Key × Addr × Value)} (hc : X.calm = true) (hu : X.A.units + 64 < cLine) (I : Inv X pins σ H s) (P : PairArg X.prog X.w T a fp wr n Rl OK) (ok : OK s.heap)
    (hk : PairsHaveH (tupleKind (mixKind X.prog X.w)) n Rl ps) (kd : Keyed H kvs ps) (hw : ∀ b ∈ wr, H b = none) (hz : n ≤ sizeLine)
    {Q' : Value → Shared → Prop} (fin : ∀ h' tk, h'.DictOfH (tupleKind (mixKind X.prog X.w)) s.heap.objs.size (storedAllH [] ps) → (∀ b o, b ∉ wr → s.heap.get? b = some o → h'.get? b = some o) → Q' (.ref s.heap.objs.size) { s with heap := h', toks := tk }) :
    wpAny (model X.prog X.w) X.A (call (.type "dict") [.ref a]) Q' X.xe s := by
  refine call_dict_pairsH (knd := tupleKind (mixKind X.prog X.w)) P (I.ok.hd hc) (by show X.A.units + 2 < cLine; omega) ok hk (fun h' kp x hx => ?_) hz fin
  have hb := kd.mem x hx
  obtain ⟨_, its, r, o, h1, h2, m, h3⟩ := (show ObjOk X.prog X.w H s.heap x.2.1 (.tup (x.1.map kV)) from I.hok _ _ hb)
  refine ⟨o, its.toArray, m, kp _ _ (Nat.ne_of_lt (Heap.lt_size h1)) (fun hm => ?_) h1, h2, h3, by simpa using items_are r⟩
  rw [hw _ hm] at hb
  cases hb
theorem dT_ok {H' : Hp} {h' : Heap} {d : Addr} {kvs : List (List Key × V)} {xs : List (List Key × Addr × Value)} (hz : kvs.length ≤ sizeLine) (hd : (d == sysModules) = false) (r : KT H' kvs xs) (dd : h'.DictOfH (tupleKind (mixKind X.prog X.w)) d xs) : ObjOk X.prog X.w H' h' d (.dT kvs) := by
  obtain ⟨o, es, ep, h1, h2, h3, h4, _, h5⟩ := dd
  exact ⟨hz, hd, xs, r, o, es, ep, h1, h2, h3, h4, h5⟩
/-- the pairs of a list -/
inductive PairL (K : PySem.W.Frag) (H : Hp) : List Addr → List (List Key × V) → Prop where
  | nil : PairL K H [] []
  | cons {p b : Addr} {k : List Key} {v : V} {ps : List Addr} {kvs : List (List Key × V)} : SqT K H p [.ref b, v] → H b = some (.tup (k.map kV)) → PairL K H ps kvs → PairL K H (p :: ps) ((k, v) :: kvs)
theorem pairL_ps (I : Inv X pins σ H s) : ∀ {ps : List Addr} {kvs : List (List Key × V)}, PairL X.K H ps kvs → ∃ ts : List (List Key × Addr × Value), Keyed H kvs ts ∧ ts.length = ps.length ∧ ∀ (j : Nat) (x : List Key × Addr × Value), ts[j]? = some x → ∃ p, ps[j]? = some p ∧ PyProof.Rows.IsTup s.heap p #[.ref x.2.1, x.2.2]
  | _, _, .nil => ⟨[], .nil, rfl, fun j x e => by simp at e⟩
  | _, _, .cons (p := p) (b := b) (k := k) h1 h2 t => by
    obtain ⟨ts, a1, a2, a3⟩ := pairL_ps I t
    obtain ⟨its, rv, ht, _⟩ := I.tuple h1
    obtain ⟨u, y, ei, ru, ry⟩ := vals2 rv
    subst ei
    cases ru
    refine ⟨(k, b, y) :: ts, .cons h2 ry a1, by rw [List.length_cons, List.length_cons, a2], fun j x e => ?_⟩
    cases j with
    | zero =>
      cases e
      exact ⟨p, rfl, ht⟩
    | succ j =>
      obtain ⟨q, e1, e2⟩ := a3 j x (by simpa using e)
      exact ⟨q, by simpa using e1, e2⟩
def rDictPT (K : PySem.W.Frag) : List V → Hp → VK → Prop := fun xs H Q => ∃ (a : Addr) (ps : List Addr) (kvs : List (List Key × V)), xs = [.ref a] ∧ SqL K H a (ps.map V.ref) ∧ PairL K H ps kvs ∧ ∀ p, H p = none → Q (.ref p) (upd H p (.dT (mergeT [] kvs)))
theorem cr_dictPT (hc : X.calm = true) (hu : X.A.units + 64 < cLine) : CallR X (.type "dict") (rDictPT X.K) := by
  intro pins s σ H xs us Q I r h
  obtain ⟨a, ps, kvs, rfl, hs, pl, q⟩ := h
  rw [Vals.ref1 r]
  obtain ⟨its, rv, hl, hz⟩ := I.list hs
  have ei := refs_at rv
  subst ei
  rw [List.length_map] at hz
  obtain ⟨ts, kd, len, at_⟩ := pairL_ps I pl
  have P := PairArg.list (prog := X.prog) (w := X.w) a (ps.map Value.ref).toArray (fun j => ps.getD j 0) (ts.map fun x => (Value.ref x.2.1, x.2.2))
  refine dict_keyed hc hu I P ⟨?_, by simp [len], fun j k v e => ?_⟩ ⟨by simp, fun i key v e => ?_⟩ kd (fun b hb => absurd hb (by simp)) (by simp [len, hz]) fun h' tk dd kp => ?_
  · obtain ⟨o, n, h1, h2, h3, h4⟩ := hl
    exact ⟨o, n, h1, h2, h3, h4⟩
  · rw [List.getElem?_map] at e
    obtain ⟨x, hx, e2⟩ := Option.map_eq_some_iff.mp e
    cases e2
    obtain ⟨p, e1, e2⟩ := at_ j x hx
    have ed : ps.getD j 0 = p := by rw [List.getD_eq_getElem?_getD, e1]; rfl
    show _ ∧ PairAt s.heap (ps.getD j 0) _ _
    rw [ed]
    exact ⟨by simp [e1], .inl e2⟩
  · have e : (ts.map fun x => (Value.ref x.2.1, x.2.2))[i]? = some (key, v) := e
    rw [List.getElem?_map] at e
    obtain ⟨x, hx, e2⟩ := Option.map_eq_some_iff.mp e
    cases e2
    exact ⟨x.1, x.2.1, hx, rfl⟩
  · have k2 : ∀ b o, s.heap.get? b = some o → h'.get? b = some o := fun b o e => kp b o (by simp) e
    have n0 : H s.heap.objs.size = none := I.hok.fresh (Nat.le_refl _)
    have hm : (s.heap.objs.size == sysModules) = false := beq_eq_false_iff_ne.mpr (Nat.ne_of_gt I.big)
    have hlen : (mergeT [] kvs).length ≤ sizeLine := by
      refine Nat.le_trans (length_mergeT kvs []) ?_
      rw [List.length_nil, Nat.zero_add, kd.length, len]
      exact hz
    have kt : KT (upd H s.heap.objs.size (.dT (mergeT [] kvs))) (mergeT [] kvs) (storedAllH [] ts) := (kd.merge .nil).keeps fun b ys e => by rw [upd_ne (ne_of_none e n0)]; exact e
    exact ⟨.ref s.heap.objs.size, _, I.laid (t' := tk) k2 (Nat.le_refl _) (dT_ok hlen hm kt dd), rfl, q _ n0⟩
end
/-! over trees -/
def mergeDT (kds more : List (List Key × D)) : List (List Key × D) := more.foldl (fun acc kd => putD acc kd.1 kd.2) kds
theorem PR.mergeT {K : PySem.W.Frag} {F : Hp} {ms : List (List Key × D)} {mv : List (List Key × V)} (h : PR K F ms mv) : ∀ {ds : List (List Key × D)} {vs : List (List Key × V)}, PR K F ds vs → PR K F (mergeDT ds ms) (DL.mergeT vs mv) := by
  induction h with
  | nil => intro ds vs h; exact h
  | cons h1 _ ih => intro ds vs h; exact ih (h.put _ h1)
def pairD (kd : List Key × D) : D := .tup [.tup (kd.1.map keyD), kd.2]
theorem pairs_in {K : PySem.W.Frag} {F H : Hp} (sub : ∀ b u, F b = some u → H b = some u) : ∀ {kds : List (List Key × D)} {vs : List V}, IsVs K F (kds.map pairD) vs → ∃ (ps : List Addr) (kvs : List (List Key × V)), vs = ps.map V.ref ∧ PairL K H ps kvs ∧ PR K F kds kvs
  | [], _, h => by cases h; exact ⟨[], [], rfl, .nil, .nil⟩
  | (k, d) :: r, _, h => by
    cases h with
    | cons h1 h2 =>
      obtain ⟨ps, kvs, rfl, a, b⟩ := pairs_in sub h2
      cases h1 with
      | tup g1 g2 =>
        obtain ⟨v, w, rfl, i1, i2⟩ := isVs_two g2
        cases i1 with
        | tup f1 f2 =>
          rw [keyDs_inv f2] at f1
          exact ⟨_ :: ps, (k, w) :: kvs, rfl, .cons (SqT.of (sub _ _ g1)) (sub _ _ f1) a, .cons i2 b⟩
/-- dict(pairs), not written any more -/
def rdDictPT : DRL := fun xs S Q => ∃ d kds, xs = [d] ∧ lstD S d = some (kds.map pairD) ∧ Q (.dT ((mergeDT [] kds).map (·.1)) ((mergeDT [] kds).map (·.2))) S
theorem lift_dictPT {K : PySem.W.Frag} : LiftL K (rDictPT K) rdDictPT := by
  intro Z H S F x v Q P R iv ⟨d, kds, hx, hd, q⟩ k
  subst hx
  obtain ⟨v, rfl, iw⟩ := isVs_one iv
  obtain ⟨p, vs, rfl, hs, iv2⟩ := lst_of R iw hd
  obtain ⟨ps, kvs, rfl, pl, pr⟩ := pairs_in (fun b u z => (R.sub b u z).1) iv2
  refine ⟨p, ps, kvs, rfl, hs, pl, fun a ha => ?_⟩
  obtain ⟨R2, s2, k2⟩ := R.laid (o := .dT (mergeT [] kvs)) ha
  have pm := pr.mergeT .nil
  exact k _ _ ⟨_, S, _, ⟨s2, R2, k2⟩, .dT upd_same pm.fst.symm (pm.snd.up s2), q⟩
/-! ### list(zip(l, t)), dict(zip(l, t)) -/
section
variable {X : Cx} {e1 e2 : Expr} {t : TA} {p p2 q pos : Pos}
theorem relV_inj {x y : V} {u : Value} (h : RelV x u) (g : RelV y u) : x = y := by
  cases x with
  | non => cases (show u = Value.none from h); cases y <;> first | rfl | (cases g; done) | (obtain ⟨_, g⟩ := g; cases g; done)
  | bl b => cases (show u = Value.bool b from h); cases y <;> first | (cases g; rfl) | (cases g; done) | (obtain ⟨_, g⟩ := g; cases g; done)
  | int i => obtain ⟨t, h⟩ := (show ∃ t, u = Value.int i t from h); subst h; cases y <;> first | (cases g; done) | (obtain ⟨_, g⟩ := g; cases g; rfl) | (obtain ⟨_, g⟩ := g; cases g; done)
  | str i => obtain ⟨t, h⟩ := (show ∃ t, u = Value.str i t from h); subst h; cases y <;> first | (cases g; done) | (obtain ⟨_, g⟩ := g; cases g; rfl) | (obtain ⟨_, g⟩ := g; cases g; done)
  | byt i => obtain ⟨t, h⟩ := (show ∃ t, u = Value.bytes i t from h); subst h; cases y <;> first | (cases g; done) | (obtain ⟨_, g⟩ := g; cases g; rfl) | (obtain ⟨_, g⟩ := g; cases g; done)
  | flt i => obtain ⟨t, h⟩ := (show ∃ t, u = Value.float i t from h); subst h; cases y <;> first | (cases g; done) | (obtain ⟨_, g⟩ := g; cases g; rfl) | (obtain ⟨_, g⟩ := g; cases g; done)
  | ref a => cases (show u = Value.ref a from h); cases y <;> first | (cases g; rfl) | (cases g; done) | (obtain ⟨_, g⟩ := g; cases g; done)
  | ty n => cases (show u = Value.type n from h); cases y <;> first | (cases g; rfl) | (cases g; done) | (obtain ⟨_, g⟩ := g; cases g; done)
/-- the two things that are zipped -/
def Zs (K : PySem.W.Frag) (H : Hp) (vs : List V) (a b : Addr) (xs ys : List V) : Prop := vs = [.ref a, .ref b] ∧ SqL K H a xs ∧ SqT K H b ys ∧ xs.length = ys.length
theorem run_zip {pins : List (Addr × Obj)} {σ : L2.St} {H : Hp} {s : Shared} {vs : List V} {us : List Value} {a b : Addr} {xs ys : List V} {Q : Value → Shared → Prop} (I : Inv X pins σ H s) (r : Vals vs us) (z : Zs X.K H vs a b xs ys)
    (h : ∀ (h' : Heap) (its its2 : List Value) (n : Nat), n = s.heap.objs.size → Vals xs its → Vals ys its2 → xs.length ≤ sizeLine → DLZ.ZipSt h' (n + 4) (n + 2) (n + 3) n (n + 1) none → (h'.IsListIter n a 0 ∧ h'.IsList a its.toArray) → (h'.IsTupleIter (n + 1) b 0 ∧ h'.IsTuple b its2.toArray) → a < n → b < n → h'.objs.size = n + 5 → (∀ c o, s.heap.get? c = some o → h'.get? c = some o) → Q (.ref (n + 4)) { s with heap := h' }) :
    wpAny (model X.prog X.w) X.A (call (.type "zip") us) Q X.xe s := by
  obtain ⟨rfl, hx, hy, hl⟩ := z
  obtain ⟨u1, u2, rfl, r1, r2⟩ := vals2 r
  cases r1
  cases r2
  obtain ⟨its, rv, p1, z1⟩ := I.list hx
  obtain ⟨its2, rv2, p2, _⟩ := I.tuple hy
  obtain ⟨o2, ho2, _⟩ := id p2
  refine DLZ.call_zipLT p1.isList (show s.heap.IsTuple b its2.toArray from p2) fun h' n hn hz hTI hTO h1 h2 sz kp => ?_
  refine h h' its its2 n hn rv rv2 z1 ⟨hTI, hz, _, _, hTO⟩ ⟨h1, p1.isList.at fun o e => kp _ _ e⟩ ⟨h2, (show s.heap.IsTuple b its2.toArray from p2).at fun o e => kp _ _ e⟩ ?_ ?_ sz kp
  · rw [hn]; exact p1.lt
  · rw [hn]; exact Heap.lt_size ho2
def tListZip (K : PySem.W.Frag) (t : TA) : TE := fun σ H Q => t σ H fun vs H1 => ∃ a b xs ys, Zs K H1 vs a b xs ys ∧ ∀ (p : Addr) (ts : List Addr) (H' : Hp), (∀ c o, H1 c = some o → H' c = some o) → H1 p = none → H' p = some (.lst (ts.map V.ref)) → ts.length = xs.length →
  (∀ (j : Nat) (c : Addr), ts[j]? = some c → ∃ x y, xs[j]? = some x ∧ ys[j]? = some y ∧ H1 c = none ∧ H' c = some (.tup [x, y])) → Q (.ref p) H'
theorem pe_listZip (hc : X.calm = true) (hm : X.mg "list" = none) (hmz : X.mg "zip" = none) (ha : PA X [e1, e2] t) (hg : Gl X "list" := by rfl) (hgz : Gl X "zip" := by rfl) (hs : starEach [e1, e2] X.env = (false, eval e1 X.env) :: starEach [e2] X.env := by rfl) (hpl : (backTo q (starEach [e2] X.env)).any (·.1) = false := by rfl)
    (hs2 : starEach [.Call (.Name "zip" p2) [e1, e2] [] q] X.env = (false, eval (.Call (.Name "zip" p2) [e1, e2] [] q) X.env) :: starEach [] X.env := by rfl) : PE X (.Call (.Name "list" p) [.Call (.Name "zip" p2) [e1, e2] [] q] [] pos) (tListZip X.K t) := by
  refine ⟨fun pins s σ H Q I h => ?_⟩
  refine PyProof.Rows.Call_ (ld_blt I hg hm PyProof.Rows.boot_list ?_)
  refine PyProof.Rows.callWith_type1 (PyProof.Rows.args_cons ?_ hs2) hs2 rfl
  refine PyProof.Rows.Call_ (ld_blt I hgz hmz PyProof.Rows.boot_zip (PyProof.Rows.callWith_type1 (thn (ha.run q pins s σ H _ I h) fun us s1 ⟨vs, H1, I1, r1, a, b, xs, ys, hz, q1⟩ => ?_) hs hpl))
  refine run_zip I1 r1 hz fun h' its its2 n hn rv rv2 sz st st1 st2 la lb szh kp => PyProof.Rows.args_nil ?_
  have ex : its.toArray.size = xs.length := by rw [List.size_toArray, rv.length]
  have ey : its2.toArray.size = xs.length := by rw [List.size_toArray, ← rv2.length, hz.2.2.2]
  refine DLZ.list_zip (s := { s1 with heap := h' }) (I1.ok.hd hc) (DLZ.apart la lb) (.list _ _ _) (.tuple _ _ _) xs.length sz (Nat.le_of_eq ex.symm) (Nat.le_of_eq ey.symm) (.inl (Array.getElem?_eq_none (Nat.le_of_eq ex))) st st1 st2 fun g tk bs c kg hob len pr fresh => ?_
  have lt5 : ∀ {c : Addr} {o : Obj}, s1.heap.get? c = some o → c ≠ n + 4 ∧ c ≠ n + 3 ∧ c ≠ n ∧ c ≠ n + 1 := fun e => by
    have z : _ < s1.heap.objs.size := Heap.lt_size e
    rw [← hn] at z
    exact ⟨Nat.ne_of_lt (Nat.lt_of_lt_of_le z (Nat.le_add_right _ _)), Nat.ne_of_lt (Nat.lt_of_lt_of_le z (Nat.le_add_right _ _)), Nat.ne_of_lt z, Nat.ne_of_lt (Nat.lt_of_lt_of_le z (Nat.le_add_right _ _))⟩
  have keep : ∀ c o, s1.heap.get? c = some o → g.get? c = some o := fun c o e => kg c o (lt5 e).1 (lt5 e).2.1 (lt5 e).2.2.1 (lt5 e).2.2.2 (kp c o e)
  -- what is tracked from now on
  let H' : Hp := fun c => if c < s1.heap.objs.size then H1 c else if c = h'.objs.size then some (.lst (bs.map V.ref)) else match bs.findIdx? (· = c) with
    | some j => some (.tup [xs.getD j .non, ys.getD j .non])
    | none => none
  have big : s1.heap.objs.size ≤ h'.objs.size := by rw [szh, hn]; exact Nat.le_add_right _ _
  have bbig : ∀ c ∈ bs, ¬ c < s1.heap.objs.size ∧ c ≠ h'.objs.size := fun c hc => by
    have z : h'.objs.size < c := fresh c hc
    exact ⟨Nat.not_lt_of_le (Nat.le_of_lt (Nat.lt_of_le_of_lt big z)), Nat.ne_of_gt z⟩
  have at_t : ∀ (j : Nat) (c : Addr), bs.findIdx? (· = c) = some j → bs[j]? = some c := fun j c e => by
    obtain ⟨h1, h2, _⟩ := List.findIdx?_eq_some_iff_getElem.mp e
    rw [List.getElem?_eq_getElem h1]
    exact congrArg some (of_decide_eq_true h2)
  have xy : ∀ (j : Nat), j < xs.length → ∃ x y u w, xs[j]? = some x ∧ ys[j]? = some y ∧ its.toArray[j]? = some u ∧ its2.toArray[j]? = some w ∧ RelV x u ∧ RelV y w := fun j hj => by
    obtain ⟨u, e1, r1⟩ := rv.get (List.getElem?_eq_getElem hj)
    obtain ⟨w, e2, r2⟩ := rv2.get (List.getElem?_eq_getElem (by rw [← hz.2.2.2]; exact hj))
    exact ⟨_, _, u, w, List.getElem?_eq_getElem hj, List.getElem?_eq_getElem (by rw [← hz.2.2.2]; exact hj), by rw [← Array.getElem?_toList]; exact e1, by rw [← Array.getElem?_toList]; exact e2, r1, r2⟩
  have pair : ∀ (j : Nat) (c : Addr), bs[j]? = some c → ∃ x y u w, xs[j]? = some x ∧ ys[j]? = some y ∧ RelV x u ∧ RelV y w ∧ IsPair g c u w := fun j c hj => by
    have hlt : j < xs.length := by rw [← len]; exact (List.getElem?_eq_some_iff.mp hj).1
    obtain ⟨x, y, u, w, e1, e2, e3, e4, r1, r2⟩ := xy j hlt
    obtain ⟨u', w', f1, f2, f3⟩ := pr j c hj
    rw [e3] at f1
    rw [e4] at f2
    cases f1
    cases f2
    exact ⟨x, y, u, w, e1, e2, r1, r2, f3⟩
  have found : ∀ (j : Nat) (c : Addr), bs[j]? = some c → ∃ x y, xs[j]? = some x ∧ ys[j]? = some y ∧ H1 c = none ∧ H' c = some (.tup [x, y]) := fun j c hj => by
    obtain ⟨x, y, u, w, e1, e2, r1, r2, hp⟩ := pair j c hj
    have hm := List.mem_of_getElem? hj
    obtain ⟨b1, b2⟩ := bbig c hm
    refine ⟨x, y, e1, e2, I1.hok.fresh (Nat.le_of_not_lt b1), ?_⟩
    show (if c < s1.heap.objs.size then H1 c else if c = h'.objs.size then _ else _) = _
    rw [if_neg b1, if_neg b2]
    cases hf : bs.findIdx? (· = c) with
    | none =>
      have z := List.findIdx?_eq_none_iff.mp hf c hm
      simp at z
    | some j2 =>
      have hj2 := at_t j2 c hf
      obtain ⟨x2, y2, u2, w2, g1, g2, r3, r4, hp2⟩ := pair j2 c hj2
      have eo := hp.symm.trans hp2
      have ev : u = u2 ∧ w = w2 := by
        injection eo with eo
        injection eo with _ _ eo _
        injection eo with eo _
        have z := congrArg Array.toList eo
        simp at z
        exact z
      obtain ⟨rfl, rfl⟩ := ev
      show some (HO.tup [xs.getD j2 .non, ys.getD j2 .non]) = _
      rw [List.getD_eq_getElem?_getD, List.getD_eq_getElem?_getD, g1, g2]
      show some (HO.tup [x2, y2]) = _
      rw [relV_inj r3 r1, relV_inj r4 r2]
  have top : H' h'.objs.size = some (.lst (bs.map V.ref)) := by
    show (if h'.objs.size < s1.heap.objs.size then _ else if h'.objs.size = h'.objs.size then _ else _) = _
    rw [if_neg (Nat.not_lt_of_le big), if_pos rfl]
  have J : Inv X pins σ H' { (⟨s1.heap, s1.gens, s1.drawn, s1.toks, s1.os⟩ : Shared) with heap := g, toks := tk } := inv_lays I1 keep (fun c hc => if_pos hc) fun c o hc e => by
    have e : (if c < s1.heap.objs.size then H1 c else if c = h'.objs.size then some (.lst (bs.map V.ref)) else match bs.findIdx? (· = c) with
      | some j => some (.tup [xs.getD j .non, ys.getD j .non])
      | none => none) = some o := e
    rw [if_neg (Nat.not_lt_of_le hc)] at e
    by_cases h5 : c = h'.objs.size
    · rw [if_pos h5] at e
      cases e
      subst h5
      have vb : ∀ l : List Addr, Vals (l.map V.ref) (l.map Value.ref) := fun l => by
        induction l with
        | nil => exact .nil
        | cons a l ih => exact .cons rfl ih
      exact ⟨by rw [List.length_map, len]; exact sz, bs.map Value.ref, c, vb bs, hob⟩
    · rw [if_neg h5] at e
      cases hf : bs.findIdx? (· = c) with
      | none => rw [hf] at e; cases e
      | some j =>
        have hj := at_t j c hf
        obtain ⟨x, y, u, w, e1, e2, r1, r2, hp⟩ := pair j c hj
        rw [hf] at e
        have e : some (HO.tup [xs.getD j .non, ys.getD j .non]) = some o := e
        rw [List.getD_eq_getElem?_getD, List.getD_eq_getElem?_getD, e1, e2] at e
        cases e
        exact ⟨by show 2 ≤ sizeLine; decide, [u, w], .cons r1 (.cons r2 .nil), _, hp, rfl, _, rfl⟩
  have low : ∀ c o, H1 c = some o → H' c = some o := fun c o e => by
    show (if c < s1.heap.objs.size then _ else _) = _
    rw [if_pos (I1.hok.lt e)]
    exact e
  exact ⟨.ref h'.objs.size, H', J, rfl, q1 h'.objs.size bs H' low (I1.hok.fresh big) top len found⟩
/-- the keys that the references xs stand for -/
def KeyRefs (H : Hp) (xs : List V) (ks : List (List Key)) : Prop := Paired (fun x k => ∃ b, x = V.ref b ∧ H b = some (.tup (k.map kV))) xs ks
theorem keyRefs_zip {H : Hp} {xs : List V} {ks : List (List Key)} (h : KeyRefs H xs ks) : ∀ {ys : List V} {its its2 : List Value}, Vals xs its → Vals ys its2 → xs.length = ys.length → ∃ ps : List (List Key × Addr × Value), Keyed H (ks.zip ys) ps ∧ ps.length = xs.length ∧
    ∀ (j : Nat) (key v : Value), its[j]? = some key → its2[j]? = some v → ∃ k b, ps[j]? = some (k, b, v) ∧ key = .ref b := by
  unfold KeyRefs at h
  induction h with
  | nil =>
    intro ys its its2 r1 r2 hl
    cases r1
    cases ys with
    | nil => exact ⟨[], .nil, rfl, fun j key v e _ => by simp at e⟩
    | cons _ _ => cases hl
  | @cons x k xs ks hk t ih =>
    intro ys its its2 r1 r2 hl
    obtain ⟨b, rfl, hb⟩ := hk
    cases r1 with
    | cons q1 t1 =>
      cases q1
      cases ys with
      | nil => cases hl
      | cons y ys =>
        cases r2 with
        | @cons _ w _ ws q2 t2 =>
          obtain ⟨ps, a1, a2, a3⟩ := ih t1 t2 (Nat.succ.inj hl)
          refine ⟨(k, b, w) :: ps, .cons hb q2 a1, by rw [List.length_cons, List.length_cons, a2], fun j key v g1 g2 => ?_⟩
          cases j with
          | zero =>
            cases g1
            cases g2
            exact ⟨k, b, rfl, rfl⟩
          | succ j => exact a3 j key v (by simpa using g1) (by simpa using g2)
def tDictZip (K : PySem.W.Frag) (t : TA) : TE := fun σ H Q => t σ H fun vs H1 => ∃ a b xs ys ks, Zs K H1 vs a b xs ys ∧ KeyRefs H1 xs ks ∧ ∀ p, H1 p = none → Q (.ref p) (upd H1 p (.dT (mergeT [] (ks.zip ys))))
theorem pe_dictZip (hc : X.calm = true) (hu : X.A.units + 64 < cLine) (hm : X.mg "dict" = none) (hmz : X.mg "zip" = none) (ha : PA X [e1, e2] t) (hg : Gl X "dict" := by rfl) (hgz : Gl X "zip" := by rfl) (hs : starEach [e1, e2] X.env = (false, eval e1 X.env) :: starEach [e2] X.env := by rfl) (hpl : (backTo q (starEach [e2] X.env)).any (·.1) = false := by rfl)
    (hs2 : starEach [.Call (.Name "zip" p2) [e1, e2] [] q] X.env = (false, eval (.Call (.Name "zip" p2) [e1, e2] [] q) X.env) :: starEach [] X.env := by rfl) : PE X (.Call (.Name "dict" p) [.Call (.Name "zip" p2) [e1, e2] [] q] [] pos) (tDictZip X.K t) := by
  refine ⟨fun pins s σ H Q I h => ?_⟩
  refine PyProof.Rows.Call_ (ld_blt I hg hm PyProof.Rows.boot_dict ?_)
  refine PyProof.Rows.callWith_type1 (PyProof.Rows.args_cons ?_ hs2) hs2 rfl
  refine PyProof.Rows.Call_ (ld_blt I hgz hmz PyProof.Rows.boot_zip (PyProof.Rows.callWith_type1 (thn (ha.run q pins s σ H _ I h) fun us s1 ⟨vs, H1, I1, r1, a, b, xs, ys, ks, hz, kr, q1⟩ => ?_) hs hpl))
  refine run_zip I1 r1 hz fun h' its its2 n hn rv rv2 sz st st1 st2 la lb szh kp => PyProof.Rows.args_nil ?_
  have ex : its.toArray.size = xs.length := by rw [List.size_toArray, rv.length]
  have ey : its2.toArray.size = xs.length := by rw [List.size_toArray, ← rv2.length, hz.2.2.2]
  obtain ⟨ps, kd, len, at_⟩ := keyRefs_zip kr rv rv2 hz.2.2.2
  have I2 : Inv X pins σ H1 { (⟨s1.heap, s1.gens, s1.drawn, s1.toks, s1.os⟩ : Shared) with heap := h' } := I1.kept (t' := s1.toks) kp
  have low : ∀ {c : Addr}, n ≤ c → H1 c = none := fun h => I1.hok.fresh (by rw [← hn]; exact h)
  have P := DLZ.zip_pairs (prog := X.prog) (w := X.w) (DLZ.apart la lb) (.list n a its.toArray) (.tuple (n + 1) b its2.toArray) xs.length (Nat.le_of_eq ex.symm) (Nat.le_of_eq ey.symm) (.inl (Array.getElem?_eq_none (Nat.le_of_eq ex)))
  refine dict_keyed (s := { (⟨s1.heap, s1.gens, s1.drawn, s1.toks, s1.os⟩ : Shared) with heap := h' }) hc hu I2 P ⟨st, st1, st2⟩ ⟨len, fun i key v e => ?_⟩ kd (fun c hm => ?_) sz fun g tk dd kg => ?_
  · have e : its.toArray[i]? = some key ∧ its2.toArray[i]? = some v := e
    exact at_ i key v (by simpa using e.1) (by simpa using e.2)
  · simp only [List.mem_cons, List.not_mem_nil, or_false] at hm
    rcases hm with rfl | rfl | rfl | rfl
    · exact low (Nat.le_add_right _ _)
    · exact low (Nat.le_add_right _ _)
    · exact low (Nat.le_refl _)
    · exact low (Nat.le_add_right _ _)
  · have lt5 : ∀ {c : Addr} {o : Obj}, s1.heap.get? c = some o → c ∉ [n + 4, n + 3, n, n + 1] := fun e hm => by
      have z : _ < s1.heap.objs.size := Heap.lt_size e
      rw [← hn] at z
      simp only [List.mem_cons, List.not_mem_nil, or_false] at hm
      rcases hm with rfl | rfl | rfl | rfl
      · exact absurd z (Nat.not_lt_of_le (Nat.le_add_right _ _))
      · exact absurd z (Nat.not_lt_of_le (Nat.le_add_right _ _))
      · exact absurd z (Nat.lt_irrefl _)
      · exact absurd z (Nat.not_lt_of_le (Nat.le_add_right _ _))
    have keep : ∀ c o, s1.heap.get? c = some o → g.get? c = some o := fun c o e => kg c o (lt5 e) (kp c o e)
    have big : s1.heap.objs.size ≤ h'.objs.size := by rw [szh, hn]; exact Nat.le_add_right _ _
    have n0 : H1 h'.objs.size = none := I1.hok.fresh big
    have hm : (h'.objs.size == sysModules) = false := beq_eq_false_iff_ne.mpr (Nat.ne_of_gt I2.big)
    have hlen : (mergeT [] (ks.zip ys)).length ≤ sizeLine := by
      refine Nat.le_trans (length_mergeT _ []) ?_
      rw [List.length_nil, Nat.zero_add, kd.length, len]
      exact sz
    have kt : KT (upd H1 h'.objs.size (.dT (mergeT [] (ks.zip ys)))) (mergeT [] (ks.zip ys)) (storedAllH [] ps) := (kd.merge .nil).keeps fun b ys e => by rw [upd_ne (ne_of_none e n0)]; exact e
    exact ⟨.ref h'.objs.size, _, I1.laid (t' := tk) keep big (dT_ok hlen hm kt dd), rfl, q1 _ n0⟩
end
/-! over trees -/
section
variable {X : Cx} {W : WX} {e1 e2 : Expr} {t : DTA} {p p2 q pos : Pos}
theorem tup_inv {K : PySem.W.Frag} {F : Hp} {ds : List D} {w : V} (h : IsV K F (.tup ds) w) : ∃ b ws, w = .ref b ∧ F b = some (.tup ws) ∧ IsVs K F ds ws := by
  cases h with
  | tup h1 h2 => exact ⟨_, _, rfl, h1, h2⟩
def dListZip (t : DTA) : DTE := fun ρ S Q E => t ρ S (fun ds S1 => ∃ d xs ys, ds = [d, .tup ys] ∧ lstD S1 d = some xs ∧ xs.length = ys.length ∧ Q (.lst ((xs.zip ys).map fun p => D.tup [p.1, p.2])) S1) E
theorem isVs_at {K : PySem.W.Frag} {F : Hp} {ds : List D} {vs : List V} (hl : ds.length = vs.length) (h : ∀ (j : Nat) (d : D) (v : V), ds[j]? = some d → vs[j]? = some v → IsV K F d v) : IsVs K F ds vs := by
  induction ds generalizing vs with
  | nil =>
    cases vs with
    | nil => exact .nil
    | cons _ _ => cases hl
  | cons d ds ih =>
    cases vs with
    | nil => cases hl
    | cons v vs => exact .cons (h 0 d v rfl rfl) (ih (Nat.succ.inj hl) fun j d' v' e1 e2 => h (j + 1) d' v' (by simpa using e1) (by simpa using e2))
theorem de_listZip (hc : X.calm = true) (hm : X.mg "list" = none) (hmz : X.mg "zip" = none) (ha : DA X W [e1, e2] t) (hg : Gl X "list" := by rfl) (hgz : Gl X "zip" := by rfl) (hs : starEach [e1, e2] X.env = (false, eval e1 X.env) :: starEach [e2] X.env := by rfl) (hpl : (backTo q (starEach [e2] X.env)).any (·.1) = false := by rfl)
    (hs2 : starEach [.Call (.Name "zip" p2) [e1, e2] [] q] X.env = (false, eval (.Call (.Name "zip" p2) [e1, e2] [] q) X.env) :: starEach [] X.env := by rfl) : DE X W (.Call (.Name "list" p) [.Call (.Name "zip" p2) [e1, e2] [] q] [] pos) (dListZip t) :=
  de_pe (pe_listZip hc hm hmz ha.pa hg hgz hs hpl hs2) fun σ H P ⟨ρ, S, F, Z, Q, E, R, V, q, k, x⟩ => ⟨ρ, S, F, Z, _, E, R, V, q, fun vs H1 ⟨ds, S1, F1, A1, i1, d, xs, ys, hd, hl, hn, q1⟩ => by
    subst hd
    obtain ⟨v, w, rfl, j1, j2⟩ := isVs_two i1
    obtain ⟨a, us, rfl, hs, iv⟩ := lst_of A1.rel j1 hl
    obtain ⟨b, ws, rfl, g1, g2⟩ := tup_inv j2
    · refine ⟨a, b, us, ws, ⟨rfl, hs, SqT.of (A1.rel.sub _ _ g1).1, by rw [← iv.length, ← g2.length]; exact hn⟩, fun p ts H' old hp top len at_ => ?_⟩
      obtain ⟨R2, s2, k2⟩ := A1.rel.lays old
      refine k _ _ ⟨_, S1, _, A1.trans ⟨s2, R2, k2⟩, .lst (vs := ts.map L2.V.ref) (by show (match H1 p with | none => H' p | some _ => F1 p) = _; rw [hp]; exact top) (isVs_at ?_ fun j dd vv e1 e2 => ?_), q1⟩
      · rw [List.length_map, List.length_map, List.length_zip, len, ← iv.length, ← hn, Nat.min_self]
      · rw [List.getElem?_map] at e2
        obtain ⟨c, hc, rfl⟩ := Option.map_eq_some_iff.mp e2
        obtain ⟨x, y, f1, f2, f3, f4⟩ := at_ j c hc
        rw [List.getElem?_map] at e1
        obtain ⟨pp, hpp, rfl⟩ := Option.map_eq_some_iff.mp e1
        obtain ⟨z1, z2⟩ := List.getElem?_zip_eq_some.mp hpp
        obtain ⟨x', f1', ix⟩ := iv.get z1
        obtain ⟨y', f2', iy⟩ := g2.get z2
        rw [f1] at f1'
        rw [f2] at f2'
        cases f1'
        cases f2'
        exact .tup (by show (match H1 c with | none => H' c | some _ => F1 c) = _; rw [f3]; exact f4) (.cons (ix.up s2) (.cons (iy.up s2) .nil)), x⟩
/-- dict(zip(l, t)): l a list of keys -/
def dDictZip (t : DTA) : DTE := fun ρ S Q E => t ρ S (fun ds S1 => ∃ (d : D) (ks : List (List Key)) (ys : List D), ds = [d, .tup ys] ∧ lstD S1 d = some (ks.map fun k : List Key => D.tup (k.map keyD)) ∧ ks.length = ys.length ∧ Q (.dT ((mergeDT [] (ks.zip ys)).map (·.1)) ((mergeDT [] (ks.zip ys)).map (·.2))) S1) E
theorem keyRefs_of {K : PySem.W.Frag} {F H : Hp} (sub : ∀ b u, F b = some u → H b = some u) : ∀ {ks : List (List Key)} {vs : List V}, IsVs K F (ks.map fun k : List Key => D.tup (k.map keyD)) vs → KeyRefs H vs ks
  | [], _, h => by cases h; exact .nil
  | k :: ks, _, h => by
    cases h with
    | cons h1 h2 =>
      cases h1 with
      | tup g1 g2 =>
        rw [keyDs_inv g2] at g1
        exact .cons ⟨_, rfl, sub _ _ g1⟩ (keyRefs_of sub h2)
theorem pr_zip {K : PySem.W.Frag} {F : Hp} {κ : Type} : ∀ {ks : List κ} {ds : List D} {vs : List V}, IsVs K F ds vs → PR K F (ks.zip ds) (ks.zip vs)
  | [], _, _, _ => .nil
  | _ :: _, _, _, .nil => .nil
  | k :: ks, _, _, .cons h t => .cons h (pr_zip t)
theorem de_dictZip (hc : X.calm = true) (hu : X.A.units + 64 < cLine) (hm : X.mg "dict" = none) (hmz : X.mg "zip" = none) (ha : DA X W [e1, e2] t) (hg : Gl X "dict" := by rfl) (hgz : Gl X "zip" := by rfl) (hs : starEach [e1, e2] X.env = (false, eval e1 X.env) :: starEach [e2] X.env := by rfl) (hpl : (backTo q (starEach [e2] X.env)).any (·.1) = false := by rfl)
    (hs2 : starEach [.Call (.Name "zip" p2) [e1, e2] [] q] X.env = (false, eval (.Call (.Name "zip" p2) [e1, e2] [] q) X.env) :: starEach [] X.env := by rfl) : DE X W (.Call (.Name "dict" p) [.Call (.Name "zip" p2) [e1, e2] [] q] [] pos) (dDictZip t) :=
  de_pe (pe_dictZip hc hu hm hmz ha.pa hg hgz hs hpl hs2) fun σ H P ⟨ρ, S, F, Z, Q, E, R, V, q, k, x⟩ => ⟨ρ, S, F, Z, _, E, R, V, q, fun vs H1 ⟨ds, S1, F1, A1, i1, d, ks, ys, hd, hl, hn, q1⟩ => by
    subst hd
    obtain ⟨v, w, rfl, j1, j2⟩ := isVs_two i1
    obtain ⟨a, us, rfl, hs, iv⟩ := lst_of A1.rel j1 hl
    obtain ⟨b, ws, rfl, g1, g2⟩ := tup_inv j2
    · refine ⟨a, b, us, ws, ks, ⟨rfl, hs, SqT.of (A1.rel.sub _ _ g1).1, by rw [← iv.length, ← g2.length, List.length_map]; exact hn⟩, keyRefs_of (fun b u z => (A1.rel.sub b u z).1) iv, fun p hp => ?_⟩
      obtain ⟨R2, s2, k2⟩ := A1.rel.laid (o := .dT (mergeT [] (ks.zip ws))) hp
      have pm := (pr_zip (ks := ks) g2).mergeT .nil
      exact k _ _ ⟨_, S1, _, A1.trans ⟨s2, R2, k2⟩, .dT upd_same pm.fst.symm (pm.snd.up s2), q1⟩, x⟩
end
end DL

set_option maxRecDepth 100000
set_option maxHeartbeats 2000000
/-! DLS: sets of keys of any kind that the scan may look at (texts above all): made of a tuple or a list, gathered, sorted. -/
namespace DLS
open PySem PySem.Spec PyProof.Rows L2
/-- keys can be read off the values -/
structure Dec {P : Program} {w : World} {κ : Type} [DecidableEq κ] (knd : PySem.KeyKind P w κ) (dec : Value → κ) : Prop where
  eq : ∀ k v, knd.is k v = true → dec v = k
  scan : ∀ k v, knd.is k v = true → v.scannable = true
def insK {κ : Type} [DecidableEq κ] (ks : List κ) (k : κ) : List κ := if k ∈ ks then ks else k :: ks
section
variable {P : Program} {w : World} {κ : Type} [DecidableEq κ] {knd : PySem.KeyKind P w κ} {dec : Value → κ}
def OkE (knd : PySem.KeyKind P w κ) (dec : Value → κ) (q : Int × Value) : Prop := knd.is (dec q.2) q.2 = true ∧ q.1 = knd.hash (dec q.2)
/-- the set at a holds the keys ks, each once -/
def SetV (knd : PySem.KeyKind P w κ) (dec : Value → κ) (h : Heap) (a : Addr) (ks : List κ) : Prop :=
  ∃ ob es ep tb, h.get? a = some ob ∧ ob.ExactSet ∧ ob.data = .set es ep tb ∧ (∀ q ∈ es.toList, OkE knd dec q) ∧ (es.toList.map fun q => dec q.2).Perm ks ∧ ks.Nodup ∧
    es.size < scanBound ∧ tb.fits es.size = true ∧ Ris tb.place.toList ∧ (w.params.followText "set-order" = true ∨ tb.led = true)
theorem SetV.at {h h' : Heap} {a : Addr} {ks : List κ} (R : SetV knd dec h a ks) (k : ∀ o, h.get? a = some o → h'.get? a = some o) : SetV knd dec h' a ks := by
  obtain ⟨ob, es, ep, tb, e, r⟩ := R
  exact ⟨ob, es, ep, tb, k ob e, r⟩
theorem okE_elems (D : Dec knd dec) {l : List (Int × Value)} (g : ∀ q ∈ l, OkE knd dec q) : ElemsOf knd l := fun q hq => ⟨⟨_, g q hq⟩, D.scan _ _ (g q hq).1⟩
theorem okE_is (D : Dec knd dec) {q : Int × Value} (g : OkE knd dec q) (k : κ) : knd.is k q.2 = true ↔ dec q.2 = k := ⟨fun h => D.eq k _ h, fun h => h ▸ g.1⟩
theorem ins_perm {ks ls : List κ} {k : κ} (p : ks.Perm ls) (hn : k ∉ ks) : (k :: ks).Perm (insK ls k) := by
  unfold insK
  rw [if_neg fun z => hn (p.mem_iff.mpr z)]
  exact p.cons k
theorem ins_nodup {ks : List κ} {k : κ} (h : ks.Nodup) : (insK ks k).Nodup := by
  unfold insK
  split
  · exact h
  · rename_i z
    exact List.nodup_cons.mpr ⟨z, h⟩
theorem ins_length {ks : List κ} {k : κ} : (insK ks k).length ≤ ks.length + 1 := by
  unfold insK
  split
  · exact Nat.le_succ _
  · exact Nat.le_refl _
theorem ins_mem {ks : List κ} {k j : κ} : j ∈ insK ks k ↔ j = k ∨ j ∈ ks := by
  unfold insK
  split
  · rename_i z
    exact ⟨.inr, fun h => h.elim (fun e => e ▸ z) id⟩
  · exact List.mem_cons
variable {A : Around} {E : Value → Shared → Prop} {s : Shared} {a : Addr}
/-- what is stored behind a new key -/
theorem put_tail {g : Bool → Sem Unit} (gok : ∀ (b : Bool) (z : Shared) (Q' : Unit → Shared → Prop), Q' () z → wpAny (model P w) A (g b) Q' E z)
    {ob : Obj} {es : Array (Int × Value)} {ep : Nat} {tb : SetTable} (at_ : s.heap.get? a = some ob) (ex : ob.ExactSet) (dt : ob.data = .set es ep tb)
    {es1 : Array (Int × Value)} {t2 : SetTable} {ks : List κ} (g1 : ∀ q ∈ es1.toList, OkE knd dec q) (pm1 : (es1.toList.map fun q => dec q.2).Perm ks) (nd1 : ks.Nodup)
    (b1 : es1.size < scanBound) (f1 : t2.fits es1.size = true) (r1 : Ris t2.place.toList) (l1 : w.params.followText "set-order" = true ∨ t2.led = true) {wasDummy : Bool} {R : Option Bool → Shared → Prop}
    (fin : ∀ h', Heap.SameBut a s.heap h' → SetV knd dec h' a ks → R (some true) { s with heap := h' }) :
    wpAny (model P w) A (do
        storeSet a es1 t2
        if (!wasDummy && t2.tooFull) = true then do
            g (relayAll t2 es1 (SetTable.grown es1.size)).2.2
            storeSet a (relayAll t2 es1 (SetTable.grown es1.size)).1 (relayAll t2 es1 (SetTable.grown es1.size)).2.1
            pure (some true)
          else pure (some true)) R E s := by
  refine wpAny_bind (wpAny_storeSet_of at_ dt ?_ (fits_of_scanBound b1))
  have now1 := store_at (es' := es1) (t' := t2) at_ dt
  have only := Heap.SameBut.update s.heap a (Obj.putSet es1 t2)
  split
  · have pmA := relayAll_perm t2 es1 (SetTable.grown es1.size)
    have fA := relayAll_fits t2 es1 (SetTable.grown es1.size)
    have rA := relayAll_ris t2 es1 (SetTable.grown es1.size)
    have lA := relayAll_led t2 es1 (SetTable.grown es1.size)
    generalize relayAll t2 es1 (SetTable.grown es1.size) = Y at pmA fA rA lA ⊢
    obtain ⟨es2, t3, way⟩ := Y
    dsimp only at pmA fA rA lA ⊢
    have sz : es2.size = es1.size := by rw [← Array.length_toList, pmA.length_eq, Array.length_toList]
    have b2 : es2.size < scanBound := sz ▸ b1
    refine wpAny_bind (gok _ _ _ ?_)
    refine wpAny_bind (wpAny_storeSet_of now1 rfl ?_ (fits_of_scanBound b2))
    have now2 := store_at (es' := es2) (t' := t3) now1 rfl
    exact wpAny_pure (fin _ (only.trans (Heap.SameBut.update _ a _)) ⟨_, es2, _, t3, now2, ex, rfl, fun q hq => g1 q (pmA.mem_iff.mp hq), (pmA.map _).trans pm1, nd1, b2, fA, rA,
      l1.imp id fun z => lA.trans z⟩)
  · exact wpAny_pure (fin _ only ⟨_, es1, _, t2, now1, ex, rfl, g1, pm1, nd1, b1, f1, r1, l1⟩)
theorem add_key (D : Dec knd dec) {k : κ} {x : Value} {ks : List κ} {Q : Bool → Shared → Prop} (hx : knd.is k x = true) (R : SetV knd dec s.heap a ks) (room : ks.length + 1 < scanBound)
    (fin : ∀ h' b, Heap.SameBut a s.heap h' → SetV knd dec h' a (insK ks k) → Q b { s with heap := h' }) :
    wpAny (model P w) A (setAddHashed a x (knd.hash k)) Q E s := by
  obtain ⟨ob, es, ep, tb, at_, ex, dt, g, pm, nd, hb, hf, hr, hl⟩ := R
  have sc := D.scan _ _ hx
  have el : ElemsOf knd es.toList := okE_elems D g
  unfold setAddHashed setAddHashedIn
  refine wpAny_holding (wpAny_bind (wpAny_setState_of at_ dt hf ?_))
  dsimp only
  rw [byScan_of sc hb el]
  simp only [↓reduceIte]
  unfold setAddByScan
  refine wpAny_bind (wpAny_bind (wpAny_rule (wpAny_bind (wpAny_setScan_of hx at_ dt hf el ?_))))
  cases fi : List.findIdx? (fun q => knd.is k q.2) es.toList with
  | some j =>
    dsimp only
    obtain ⟨j1, j2, _⟩ := List.findIdx?_eq_some_iff_getElem.mp fi
    have mk : k ∈ ks := pm.mem_iff.mp (List.mem_map.mpr ⟨es.toList[j], List.getElem_mem j1, D.eq _ _ j2⟩)
    refine wpAny_pure (wpAny_pure ?_)
    have z := fin s.heap false (Heap.SameBut.refl a s.heap) ⟨ob, es, ep, tb, at_, ex, dt, g, by unfold insK; rw [if_pos mk]; exact pm, ins_nodup nd, hb, hf, hr, hl⟩
    exact z
  | none =>
    dsimp only
    have fresh : k ∉ es.toList.map fun q => dec q.2 := fun z => by
      obtain ⟨q, hq, e⟩ := List.mem_map.mp z
      have c := List.findIdx?_eq_none_iff.mp fi q hq
      rw [(okE_is D (g q hq) k).2 e] at c
      cases c
    have told : ∀ (b : Bool) {z : Shared} {Q' : Unit → Shared → Prop}, Q' () z → wpAny (model P w) A (match b with | true => rule "set.scan.the-table-gave-way" | false => pure ()) Q' E z :=
      fun b z Q' q => by cases b <;> first | exact wpAny_pure q | exact wpAny_rule q
    have pmL := layNew_perm tb es (knd.hash k) x
    have fL := layNew_fits tb es (knd.hash k) x
    have rL := layNew_ris tb es (knd.hash k) x hr
    have lL := layNew_led tb es (knd.hash k) x
    generalize layNew tb es (knd.hash k) x = Y at pmL fL rL lL ⊢
    obtain ⟨es1, t1, wasDummy, way⟩ := Y
    dsimp only at pmL fL rL lL ⊢
    rw [Array.toList_push] at pmL
    have pc : es1.toList.Perm ((knd.hash k, x) :: es.toList) := pmL.trans (List.perm_append_singleton _ _)
    have dx : dec x = k := D.eq _ _ hx
    have pk : (es1.toList.map fun q => dec q.2).Perm (insK ks k) := by
      have z := pc.map fun q => dec q.2
      rw [List.map_cons] at z
      dsimp only at z
      rw [dx] at z
      exact z.trans (ins_perm pm fresh)
    have g1 : ∀ q ∈ es1.toList, OkE knd dec q := fun q hq => by
      rcases List.mem_cons.mp (pc.mem_iff.mp hq) with z | z
      · rw [z]
        exact ⟨by rw [dx]; exact hx, by rw [dx]⟩
      · exact g q z
    have b1 : es1.size < scanBound := by
      have z : es1.size = ks.length + 1 := by rw [← Array.length_toList, pc.length_eq, List.length_cons, ← pm.length_eq, List.length_map]
      rw [z]; exact room
    have led : w.params.followText "set-order" = true ∨ t1.led = true := hl.imp id fun z => lL.trans z
    refine wpAny_bind (told _ ?_)
    split
    · refine wpAny_bind ?_
      rw [hashByValue_scannable 8 sc]
      refine wpAny_pure ?_
      refine put_tail (knd := knd) (dec := dec) ?_ at_ ex dt g1 pk (ins_nodup nd) b1 ?_ ?_ ?_ ?_
      · intro b z Q' q; cases b <;> first | exact wpAny_pure q | exact wpAny_rule q
      · first | (split <;> first | exact fL | exact SetTable.fits_plain_off fL) | exact fL
      · first | (split <;> exact rL) | exact rL
      · first | (split <;> exact led) | exact led
      · intro h' sb r; dsimp only; exact wpAny_pure (fin h' true sb r)
    · refine wpAny_bind (wpAny_pure ?_)
      simp only [↓reduceIte]
      refine put_tail (knd := knd) (dec := dec) ?_ at_ ex dt g1 pk (ins_nodup nd) b1 fL rL led ?_
      · intro b z Q' q; cases b <;> first | exact wpAny_pure q | exact wpAny_rule q
      · intro h' sb r; dsimp only; exact wpAny_pure (fin h' true sb r)
end

section
variable {P : Program} {w : World} {κ : Type} [DecidableEq κ] {knd : PySem.KeyKind P w κ} {dec : Value → κ} {A : Around} {E : Value → Shared → Prop} {s : Shared}
/-- the keys that are there behind the first i -/
def insAll (ks : List κ) : List κ → List κ
  | [] => ks
  | k :: r => insAll (insK ks k) r
theorem insAll_snoc (k : κ) : ∀ (r ks : List κ), insAll ks (r ++ [k]) = insK (insAll ks r) k
  | [], _ => rfl
  | _ :: r, ks => insAll_snoc k r _
theorem insAll_mem {j : κ} : ∀ {r ks : List κ}, j ∈ insAll ks r ↔ j ∈ ks ∨ j ∈ r
  | [], _ => ⟨.inl, fun h => h.elim id fun z => by cases z⟩
  | k :: r, ks => by
    show j ∈ insAll (insK ks k) r ↔ _
    rw [insAll_mem, ins_mem, List.mem_cons]
    constructor
    · rintro ((h | h) | h)
      · exact .inr (.inl h)
      · exact .inl h
      · exact .inr (.inr h)
    · rintro (h | h | h)
      · exact .inl (.inr h)
      · exact .inl (.inl h)
      · exact .inr h
theorem insAll_nodup : ∀ {r ks : List κ}, ks.Nodup → (insAll ks r).Nodup
  | [], _, h => h
  | _ :: r, _, h => insAll_nodup (r := r) (ins_nodup h)
theorem insAll_length : ∀ {r ks : List κ}, (insAll ks r).length ≤ ks.length + r.length
  | [], _ => Nat.le_refl _
  | k :: r, ks => by
    have a := insAll_length (r := r) (ks := insK ks k)
    have b := ins_length (ks := ks) (k := k)
    show (insAll (insK ks k) r).length ≤ _
    rw [List.length_cons]
    omega
theorem take_succ_at {α : Type} {l : List α} {i : Nat} {x : α} (h : l[i]? = some x) : l.take (i + 1) = l.take i ++ [x] := by
  rw [List.take_add_one, h]
  rfl
/-- the loop that fills a set -/
theorem fill_loop (D : Dec knd dec) {I : Addr} {fp wr : List Addr} {G : Array GenState → Array GenState → Prop} {n : Nat} {Pv : Nat → Value → Prop} {St : Nat → Shared → Prop} {R : Result → Shared → Prop}
    (W : WalksS P w A.in1 I fp wr G n Pv St) (T : Addr) (off : T ∉ fp) (ks : List κ) (hn : n = ks.length) (few : ks.length + 1 < scanBound) (val : ∀ i v, Pv i v → ∃ k, ks[i]? = some k ∧ knd.is k v = true) :
    ∀ (m i : Nat) (s : Shared), n - i = m → i ≤ n → St i s → SetV knd dec s.heap T (insAll [] (ks.take i)) →
      (∀ s', Moved (T :: wr) G s s' → SetV knd dec s'.heap T (insAll [] ks) → R (.ok (.ret .none)) s') →
      codeAny (model P w) A (.builtin "set.update.loop" ⟨[.ref T, .ref I], []⟩) R s := by
  have offw : T ∉ wr := fun h => off (W.sub _ h)
  have wider : ∀ b ∈ wr, b ∈ T :: wr := fun b hb => List.mem_cons_of_mem _ hb
  intro m
  induction m with
  | zero =>
    intro i s em hi st now fin
    have z : i = n := by omega
    subst z
    refine codeAny_builtin F.entry_set_update_loop ?_
    rw [Around.under_plainId F.plain_set_update_loop _]
    show wpAny _ A.in1 (pyNext (.ref I) >>= _) _ _ s
    refine wpAny_bind (W.done s _ _ st fun s' mv => ?_)
    show wpAny _ A.in1 (ret Value.none) _ _ s'
    rw [List.take_of_length_le (by omega)] at now
    exact wpAny_pure (fin s' (mv.mono wider) (now.at fun o e => mv.heap T o offw e))
  | succ m ih =>
    intro i s em hi st now fin
    have lt : i < n := by omega
    refine codeAny_builtin F.entry_set_update_loop ?_
    rw [Around.under_plainId F.plain_set_update_loop _]
    show wpAny _ A.in1 (pyNext (.ref I) >>= _) _ _ s
    refine wpAny_bind (W.item i s _ _ lt st fun v s' hv st' mv => ?_)
    obtain ⟨k, hk, hx⟩ := val i v hv
    have now' : SetV knd dec s'.heap T (insAll [] (ks.take i)) := now.at fun o e => mv.heap T o offw e
    show wpAny _ A.in1 (holding [v] (setAdd T v) >>= _) _ _ s'
    refine wpAny_bind (wpAny_holding ?_)
    unfold setAdd
    refine wpAny_holding (wpAny_bind (knd.pyHash (k := k) hx ?_))
    have cnt := insAll_length (r := ks.take i) (ks := ([] : List κ))
    rw [List.length_take, List.length_nil] at cnt
    refine add_key D (s := { s' with toks := s'.toks + 1 }) hx now' (by omega) fun h' b only made => ?_
    rw [← insAll_snoc, ← take_succ_at hk] at made
    refine wpAny_pure ⟨plainId_quiet F.plain_set_update_loop _, ih (i + 1) _ (by omega) lt (W.frame _ s' _ _ st' (Nat.le_succ _) fun b hb o e => ?_) made fun s'' mv2 made2 => ?_⟩
    · rw [only.2 b fun z : b = T => off (z ▸ hb)]; exact e
    · refine fin s'' (Moved.trans W.gtrans ((mv.mono wider).then_heap (Nat.le_succ _) fun b o hb e => ?_) mv2) made2
      rw [only.2 b fun z : b = T => hb (z ▸ List.mem_cons_self)]; exact e
theorem setV_new {h : Heap} {a : Addr} (e : h.get? a = some { cls := .type "set", dict := none, data := .set #[] 0 (.fresh 0 0 (!w.params.followText "set-order")) }) : SetV knd dec h a [] :=
  ⟨_, #[], 0, _, e, ⟨rfl, rfl, rfl⟩, rfl, (fun q hq => by simp at hq), (by simp), List.nodup_nil, (by decide), (by rfl), List.Pairwise.nil, by
    show _ ∨ (!w.params.followText "set-order") = true
    cases w.params.followText "set-order"
    · exact .inr rfl
    · exact .inl rfl⟩
end
section
variable {P : Program} {w : World} {κ : Type} [DecidableEq κ] {knd : PySem.KeyKind P w κ} {dec : Value → κ} {A : Around} {E : Value → Shared → Prop} {s : Shared}
abbrev newSet (w : World) : Obj := { cls := .type "set", dict := none, data := .set #[] 0 (.fresh 0 0 (!w.params.followText "set-order")) }

set_option maxHeartbeats 4000000 in
theorem set_of_tuple (D : Dec knd dec) {l : Addr} {its : Array Value} {ks : List κ} {Q : Value → Shared → Prop} (calm : A.handled = none) (src : s.heap.IsTuple l its) (sz : its.size = ks.length) (val : ∀ (i : Nat) (v : Value), its[i]? = some v → ∃ k, ks[i]? = some k ∧ knd.is k v = true)
    (few : ks.length + 1 < scanBound) (fin : ∀ (h' : Heap) (tk : Nat), SetV knd dec h' s.heap.objs.size (insAll [] ks) → (∀ b o, s.heap.get? b = some o → h'.get? b = some o) → Q (.ref s.heap.objs.size) { s with heap := h', toks := tk }) :
    wpAny (model P w) A (call (.type "set") [.ref l]) Q E s := by
  obtain ⟨c0, tl0, mro0⟩ := F.called_set.mro
  have made0 := F.called_set.made
  have sub0 := F.called_set.sub
  refine wpAny_call (codeAny_of_tree ?_)
  show wpAny _ _ (callAny (.type "set") _) _ _ _
  refine wpAny_pure ⟨Code.quiet_builtin _ (by decide +kernel), codeAny_builtin F.entry_type_call ?_⟩
  rw [Around.under_plain (weight_type_call_type "set" [.ref l] []) rfl]
  have nt0 := F.called_set.notType
  have cc0 := F.called_set.canCreate
  have ct0 := F.typeCall_set_1 (.ref l)
  repeat (any_goals (first | assumption | wp_step))
  refine codeAny_mono (code_set_led1 (.ref l) (E := E) (Q₁ := fun ob z => ob = .ref s.heap.objs.size ∧ z = { s with heap := s.heap.push (newSet w) }) ⟨rfl, rfl⟩) fun r z hr => ?_
  cases r with
  | error e => exact hr
  | ok fl =>
    cases fl with
    | ret ob =>
      obtain ⟨rfl, rfl⟩ := hr
      have atS : (s.heap.push (newSet w)).get? s.heap.objs.size = some (newSet w) := Heap.get?_push_size _ rfl
      have tyS : Shared.TypeIs { s with heap := s.heap.push (newSet w) } (.ref s.heap.objs.size) "set" := ⟨_, atS, rfl⟩
      have li0 := F.called_set.init.lookup
      have bi0 := F.called_set.init.bind (.ref s.heap.objs.size)
      repeat (any_goals (first | assumption | wp_step))
      refine codeAny_mono (codeAny_call_builtin (R := wants (fun r z => r = .none ∧ ∃ h' tk, z = { s with heap := h', toks := tk } ∧ SetV knd dec h' s.heap.objs.size (insAll [] ks) ∧
          ∀ b o, s.heap.get? b = some o → h'.get? b = some o) E) F.called_set.init.plain F.entry_set_init (check_set_init_1 tyS ?_)) fun r2 z2 hr2 => ?_
      · obtain ⟨ol, atl, cl, nl, dl⟩ := src
        obtain ⟨oc, od, ob, os⟩ := ol
        simp only at cl dl
        subst cl; subst dl
        have atl2 : (s.heap.push (newSet w)).get? l = some { cls := .type "tuple", dict := od, data := .seq its nl, slots := os } := Heap.get?_push_of_some _ atl
        have no1 := F.sub_tuple_set
        have no2 := F.sub_tuple_frozenset
        have no3 : (Value.type "tuple" == Value.type "dict") = false := by decide
        have isl : (s.heap.push (newSet w)).IsTuple l its := ⟨_, atl2, rfl, nl, rfl⟩
        unfold Builtin.«set.__init__» noKeywords Builtin.Frozenset.updateFrom
        generalize hPI : pyIter = PI
        wp_walk
        subst hPI
        refine wpAny_pyIter_tuple isl ?_
        refine wpAny_bind (wpAny_runValue ?_)
        have ltl : l < s.heap.objs.size := Heap.lt_size atl
        have calm3 : A.in1.in1.in1.handled = none := by simp [calm]
        have size1 : (s.heap.push (newSet w)).objs.size = s.heap.objs.size + 1 := Heap.size_push ..
        have lneI : l ≠ (s.heap.push (newSet w)).objs.size := by
          rw [size1]; exact Nat.ne_of_lt (Nat.lt_succ_of_lt ltl)
        have offS : s.heap.objs.size ∉ [(s.heap.push (newSet w)).objs.size, l] := fun z => by
          rw [size1] at z
          rcases List.mem_cons.mp z with z | z
          · exact absurd z (Nat.ne_of_lt (Nat.lt_succ_self _))
          · exact absurd (List.mem_singleton.mp z) (Nat.ne_of_gt ltl)
        refine fill_loop D ((Walks.tuple calm3 _ l lneI its).toS) s.heap.objs.size offS ks sz few val (its.size - 0) 0 _ (by omega) (Nat.zero_le _)
          ⟨⟨_, Heap.get?_push_size _ rfl, rfl, rfl⟩, isl.push _⟩ (setV_new (Heap.get?_push_of_some _ atS)) fun z mv made => ?_
        obtain ⟨h', g2, d2, tk2, os2⟩ := z
        have eg : g2 = s.gens := mv.gens
        have ed : d2 = s.drawn := mv.drawn
        have eo : os2 = s.os := mv.os
        subst eg; subst ed; subst eo
        show wpAny _ _ _ _ _ _
        refine wpAny_pure ?_
        show wpAny _ _ (ret Value.none) _ _ _
        refine wpAny_pure ⟨rfl, h', tk2, rfl, made, fun b o e => ?_⟩
        have lb : b < s.heap.objs.size := Heap.lt_size e
        refine mv.heap b o (fun z => ?_) (Heap.get?_push_of_some _ (Heap.get?_push_of_some _ e))
        rcases List.mem_cons.mp z with z | z
        · exact absurd z (Nat.ne_of_lt lb)
        · have z2 := List.mem_singleton.mp z
          rw [size1] at z2
          exact absurd z2 (Nat.ne_of_lt (Nat.lt_succ_of_lt lb))
      · cases r2 with
        | error e => exact hr2
        | ok fl2 =>
          cases fl2 with
          | ret v2 =>
            obtain ⟨rfl, h', tk, rfl, made, old⟩ := hr2
            repeat (any_goals (first | assumption | wp_step))
            exact fin _ _ made old
          | _ => exact hr2.elim
    | _ => exact hr.elim

set_option maxHeartbeats 4000000 in
theorem set_of_list (D : Dec knd dec) {l : Addr} {its : Array Value} {ks : List κ} {Q : Value → Shared → Prop} (calm : A.handled = none) (src : s.heap.IsList l its) (sz : its.size = ks.length) (val : ∀ (i : Nat) (v : Value), its[i]? = some v → ∃ k, ks[i]? = some k ∧ knd.is k v = true)
    (few : ks.length + 1 < scanBound) (fin : ∀ (h' : Heap) (tk : Nat), SetV knd dec h' s.heap.objs.size (insAll [] ks) → (∀ b o, s.heap.get? b = some o → h'.get? b = some o) → Q (.ref s.heap.objs.size) { s with heap := h', toks := tk }) :
    wpAny (model P w) A (call (.type "set") [.ref l]) Q E s := by
  obtain ⟨c0, tl0, mro0⟩ := F.called_set.mro
  have made0 := F.called_set.made
  have sub0 := F.called_set.sub
  refine wpAny_call (codeAny_of_tree ?_)
  show wpAny _ _ (callAny (.type "set") _) _ _ _
  refine wpAny_pure ⟨Code.quiet_builtin _ (by decide +kernel), codeAny_builtin F.entry_type_call ?_⟩
  rw [Around.under_plain (weight_type_call_type "set" [.ref l] []) rfl]
  have nt0 := F.called_set.notType
  have cc0 := F.called_set.canCreate
  have ct0 := F.typeCall_set_1 (.ref l)
  repeat (any_goals (first | assumption | wp_step))
  refine codeAny_mono (code_set_led1 (.ref l) (E := E) (Q₁ := fun ob z => ob = .ref s.heap.objs.size ∧ z = { s with heap := s.heap.push (newSet w) }) ⟨rfl, rfl⟩) fun r z hr => ?_
  cases r with
  | error e => exact hr
  | ok fl =>
    cases fl with
    | ret ob =>
      obtain ⟨rfl, rfl⟩ := hr
      have atS : (s.heap.push (newSet w)).get? s.heap.objs.size = some (newSet w) := Heap.get?_push_size _ rfl
      have tyS : Shared.TypeIs { s with heap := s.heap.push (newSet w) } (.ref s.heap.objs.size) "set" := ⟨_, atS, rfl⟩
      have li0 := F.called_set.init.lookup
      have bi0 := F.called_set.init.bind (.ref s.heap.objs.size)
      repeat (any_goals (first | assumption | wp_step))
      refine codeAny_mono (codeAny_call_builtin (R := wants (fun r z => r = .none ∧ ∃ h' tk, z = { s with heap := h', toks := tk } ∧ SetV knd dec h' s.heap.objs.size (insAll [] ks) ∧
          ∀ b o, s.heap.get? b = some o → h'.get? b = some o) E) F.called_set.init.plain F.entry_set_init (check_set_init_1 tyS ?_)) fun r2 z2 hr2 => ?_
      · obtain ⟨ol, atl, cl, nl, dl⟩ := src
        obtain ⟨oc, od, ob, os⟩ := ol
        simp only at cl dl
        subst cl; subst dl
        have atl2 : (s.heap.push (newSet w)).get? l = some { cls := .type "list", dict := od, data := .seq its nl, slots := os } := Heap.get?_push_of_some _ atl
        have no1 := F.sub_list_set
        have no2 := F.sub_list_frozenset
        have no3 : (Value.type "list" == Value.type "dict") = false := by decide
        have isl : (s.heap.push (newSet w)).IsList l its := ⟨_, atl2, rfl, nl, rfl⟩
        unfold Builtin.«set.__init__» noKeywords Builtin.Frozenset.updateFrom
        generalize hPI : pyIter = PI
        wp_walk
        subst hPI
        refine wpAny_pyIter_list isl ?_
        refine wpAny_bind (wpAny_runValue ?_)
        have ltl : l < s.heap.objs.size := Heap.lt_size atl
        have calm3 : A.in1.in1.in1.handled = none := by simp [calm]
        have size1 : (s.heap.push (newSet w)).objs.size = s.heap.objs.size + 1 := Heap.size_push ..
        have lneI : l ≠ (s.heap.push (newSet w)).objs.size := by
          rw [size1]; exact Nat.ne_of_lt (Nat.lt_succ_of_lt ltl)
        have offS : s.heap.objs.size ∉ [(s.heap.push (newSet w)).objs.size, l] := fun z => by
          rw [size1] at z
          rcases List.mem_cons.mp z with z | z
          · exact absurd z (Nat.ne_of_lt (Nat.lt_succ_self _))
          · exact absurd (List.mem_singleton.mp z) (Nat.ne_of_gt ltl)
        refine fill_loop D ((Walks.list calm3 _ l lneI its).toS) s.heap.objs.size offS ks sz few val (its.size - 0) 0 _ (by omega) (Nat.zero_le _)
          ⟨⟨_, Heap.get?_push_size _ rfl, rfl, rfl⟩, isl.push _⟩ (setV_new (Heap.get?_push_of_some _ atS)) fun z mv made => ?_
        obtain ⟨h', g2, d2, tk2, os2⟩ := z
        have eg : g2 = s.gens := mv.gens
        have ed : d2 = s.drawn := mv.drawn
        have eo : os2 = s.os := mv.os
        subst eg; subst ed; subst eo
        show wpAny _ _ _ _ _ _
        refine wpAny_pure ?_
        show wpAny _ _ (ret Value.none) _ _ _
        refine wpAny_pure ⟨rfl, h', tk2, rfl, made, fun b o e => ?_⟩
        have lb : b < s.heap.objs.size := Heap.lt_size e
        refine mv.heap b o (fun z => ?_) (Heap.get?_push_of_some _ (Heap.get?_push_of_some _ e))
        rcases List.mem_cons.mp z with z | z
        · exact absurd z (Nat.ne_of_lt lb)
        · have z2 := List.mem_singleton.mp z
          rw [size1] at z2
          exact absurd z2 (Nat.ne_of_lt (Nat.lt_succ_of_lt lb))
      · cases r2 with
        | error e => exact hr2
        | ok fl2 =>
          cases fl2 with
          | ret v2 =>
            obtain ⟨rfl, h', tk, rfl, made, old⟩ := hr2
            repeat (any_goals (first | assumption | wp_step))
            exact fin _ _ made old
          | _ => exact hr2.elim
    | _ => exact hr.elim
end
end DLS

set_option maxRecDepth 100000
set_option maxHeartbeats 2000000
/-! DLT: the order of texts; sorted(set(x)) of texts. -/
namespace DLS
open PySem PySem.Spec PyProof.Rows L2
/-! ### the order of texts -/
abbrev ltC := PySem.Spec.ltCps
theorem ltC_irrefl : ∀ l, ltC l l = false
  | [] => rfl
  | a :: l => by
    show (decide (a < a) || (a == a && ltC l l)) = false
    rw [ltC_irrefl l]
    simp
theorem ltC_cons {a b : Nat} {l m : List Nat} : ltC (a :: l) (b :: m) = true ↔ a < b ∨ (a = b ∧ ltC l m = true) := by
  show (decide (a < b) || (a == b && ltC l m)) = true ↔ _
  simp
theorem ltC_trans : ∀ {l m n : List Nat}, ltC l m = true → ltC m n = true → ltC l n = true
  | _, _ :: _, [], _, h => by cases h
  | _, [], [], _, h => by cases h
  | l, [], _ :: _, h, _ => by cases l <;> cases h
  | [], _ :: _, _ :: _, _, _ => rfl
  | a :: l, b :: m, c :: n, h, g => by
    rw [ltC_cons] at h g ⊢
    rcases h with h | ⟨h, h2⟩
    · rcases g with g | ⟨g, g2⟩
      · exact .inl (Nat.lt_trans h g)
      · exact .inl (g ▸ h)
    · rcases g with g | ⟨g, g2⟩
      · exact .inl (h ▸ g)
      · exact .inr ⟨h.trans g, ltC_trans h2 g2⟩
theorem ltC_total : ∀ {l m : List Nat}, ltC l m = false → ltC m l = false → l = m
  | [], [], _, _ => rfl
  | [], _ :: _, h, _ => by cases h
  | _ :: _, [], _, h => by cases h
  | a :: l, b :: m, h, g => by
    have h1 : ¬ (a < b ∨ (a = b ∧ ltC l m = true)) := fun z => by rw [ltC_cons.mpr z] at h; cases h
    have g1 : ¬ (b < a ∨ (b = a ∧ ltC m l = true)) := fun z => by rw [ltC_cons.mpr z] at g; cases g
    have e : a = b := by omega
    subst e
    have h2 : ltC l m = false := by
      cases q : ltC l m with
      | false => rfl
      | true => exact absurd (.inr ⟨rfl, q⟩) h1
    have g2 : ltC m l = false := by
      cases q : ltC m l with
      | false => rfl
      | true => exact absurd (.inr ⟨rfl, q⟩) g1
    rw [ltC_total h2 g2]
/-- a before b, or the same -/
def leS (a b : Str) : Bool := !ltC b.cps.toList a.cps.toList
theorem leS_total (a b : Str) : leS a b = true ∨ leS b a = true := by
  unfold leS
  cases h : ltC b.cps.toList a.cps.toList with
  | false => exact .inl rfl
  | true =>
    refine .inr ?_
    cases g : ltC a.cps.toList b.cps.toList with
    | false => rfl
    | true =>
      have z := ltC_trans h g
      rw [ltC_irrefl] at z
      cases z
theorem leS_trans {a b c : Str} (h : leS a b = true) (g : leS b c = true) : leS a c = true := by
  unfold leS at *
  cases q : ltC c.cps.toList a.cps.toList with
  | false => rfl
  | true =>
    cases r : ltC a.cps.toList b.cps.toList with
    | true =>
      rw [ltC_trans q r] at g
      cases g
    | false =>
      cases t : ltC b.cps.toList a.cps.toList with
      | true => rw [t] at h; cases h
      | false =>
        rw [ltC_total r t] at q
        rw [q] at g
        cases g
theorem str_ext {a b : Str} (h : a.cps.toList = b.cps.toList) : a = b := by
  cases a
  cases b
  simp only [Str.mk.injEq]
  exact Array.toList_inj.mp h
theorem leS_antisymm {a b : Str} (h : leS a b = true) (g : leS b a = true) : a = b := by
  unfold leS at *
  refine str_ext (ltC_total ?_ ?_)
  · cases q : ltC a.cps.toList b.cps.toList with
    | false => rfl
    | true => rw [q] at g; cases g
  · cases q : ltC b.cps.toList a.cps.toList with
    | false => rfl
    | true => rw [q] at h; cases h
theorem rising_le : ∀ {r : List Str} {x : Str}, risingS x r = true → (∀ y ∈ r, leS x y = true) ∧ r.Pairwise (fun a b => leS a b = true)
  | [], _, _ => ⟨fun y hy => (List.not_mem_nil hy).elim, .nil⟩
  | z :: r, x, h => by
    have h1 : (leS x z && risingS z r) = true := h
    rw [Bool.and_eq_true] at h1
    obtain ⟨a, b⟩ := rising_le h1.2
    refine ⟨fun y hy => ?_, List.pairwise_cons.mpr ⟨a, b⟩⟩
    rcases List.mem_cons.mp hy with rfl | hy
    · exact h1.1
    · exact leS_trans h1.1 (a y hy)
theorem sortedS_pw : ∀ {r : List Str}, sortedS r = true → r.Pairwise (fun a b => leS a b = true)
  | [], _ => .nil
  | _ :: _, h => List.pairwise_cons.mpr (rising_le h)
/-- sorted -/
def sortS (xs : List Str) : List Str := xs.mergeSort leS
theorem sortS_perm (xs : List Str) : (sortS xs).Perm xs := List.mergeSort_perm xs leS
theorem sortS_pw (xs : List Str) : (sortS xs).Pairwise (fun a b => leS a b = true) :=
  List.pairwise_mergeSort (le := leS) (fun a b c h g => leS_trans h g) (fun a b => by rw [Bool.or_eq_true]; exact leS_total a b) xs
theorem pw_unique {α : Type} {le : α → α → Prop} (anti : ∀ a b, le a b → le b a → a = b) {xs ys : List α} (p : xs.Perm ys) (h : xs.Pairwise le) (g : ys.Pairwise le) : xs = ys :=
  List.Perm.eq_of_pairwise (fun a b _ _ h1 h2 => anti a b h1 h2) h g p
theorem sortS_eq {xs ys : List Str} (p : ys.Perm xs) (h : ys.Pairwise (fun a b => leS a b = true)) : ys = sortS xs :=
  pw_unique (fun _ _ h g => leS_antisymm h g) (p.trans (sortS_perm xs).symm) h (sortS_pw xs)
/-- sorted(set(xs)) -/
def uniqS (xs : List Str) : List Str := sortS (insAll [] xs)
theorem uniqS_mem {xs : List Str} {k : Str} : k ∈ uniqS xs ↔ k ∈ xs := by
  unfold uniqS
  rw [(sortS_perm _).mem_iff, insAll_mem]
  exact ⟨fun h => h.elim (fun z => (List.not_mem_nil z).elim) id, .inr⟩
theorem uniqS_nodup (xs : List Str) : (uniqS xs).Nodup := (sortS_perm _).nodup_iff.mpr (insAll_nodup List.nodup_nil)
theorem uniqS_length (xs : List Str) : (uniqS xs).length ≤ xs.length := by
  have z := insAll_length (r := xs) (ks := ([] : List Str))
  unfold uniqS
  rw [(sortS_perm _).length_eq]
  simpa using z
theorem perm_of_mem {α : Type} [DecidableEq α] {xs ys : List α} (h : xs.Nodup) (g : ys.Nodup) (m : ∀ k, k ∈ xs ↔ k ∈ ys) : xs.Perm ys := (List.perm_ext_iff_of_nodup h g).mpr m
/-- what is ascending and has each once is its own set -/
theorem uniqS_self {xs ys : List Str} (h : ys.Pairwise (fun a b => leS a b = true)) (g : ys.Nodup) (m : ∀ k, k ∈ ys ↔ k ∈ xs) : uniqS xs = ys :=
  (sortS_eq (perm_of_mem g (insAll_nodup List.nodup_nil) fun k => (m k).trans (by
    rw [insAll_mem]
    exact ⟨.inr, fun z => z.elim (fun z => (List.not_mem_nil z).elim) id⟩)) h).symm

/-! ### sorted(set) -/
theorem dec_str {P : Program} {w : World} : Dec (PySem.strKind P w) strOf where
  eq := fun k v h => by
    obtain ⟨t, rfl⟩ := Value.isStrOf_shape h
    rfl
  scan := fun k v h => by
    obtain ⟨t, rfl⟩ := Value.isStrOf_shape h
    rfl
section
variable {P : Program} {w : World} {A : Around} {E : Value → Shared → Prop} {s : Shared} {a : Addr}
theorem sorted_setS {ks : List Str} {Q : Value → Shared → Prop} (R : SetV (PySem.strKind P w) strOf s.heap a ks) (calm : A.handled = none) (few : ks.length < 64)
    (fin : ∀ s' p (out : Array Value) (c : Nat), (∀ b o, s.heap.get? b = some o → s'.heap.get? b = some o) → s'.gens = s.gens → s'.os = s.os → s.heap.objs.size ≤ p →
      s'.heap.get? p = some (seqObj "list" out c) → StrsAre out.toList (sortS ks) → Q (.ref p) s') : wpAny (model P w) A (call (.builtin "sorted") [.ref a]) Q E s := by
  obtain ⟨ob, es, ep, tb, at_, ex, dt, g, pm, nd, hb, hf, hr, hl⟩ := R
  refine Calls.call_function_entry kind_sorted plain_sorted entry_sorted (args_sorted1 _) ?_
  unfold Builtin.«sorted»
  refine wpAny_bind (m := checkCount "sorted" 1 1 _) (wpAny_pure ?_)
  refine wpAny_bind (collect_set (A := A.in1) calm ⟨ob, at_, ex.1, dt⟩ hf hb hr hl fun z vs old size1 g1 o1 pv => ?_)
  have len : vs.length = ks.length := by rw [pv.length_eq, List.length_map, ← pm.length_eq, List.length_map]
  have txt : StrsAre vs (vs.map strOf) := strsAre_map vs fun v hv => by
    obtain ⟨q, hq, e⟩ := List.mem_map.mp (pv.mem_iff.mp hv)
    obtain ⟨t, e2⟩ := Value.isStrOf_shape (show Value.isStrOf (strOf q.2) q.2 = true from (g q hq).1)
    exact ⟨_, t, by rw [← e]; exact e2⟩
  have pk : (vs.map strOf).Perm ks := by
    have z2 := pv.map strOf
    rw [List.map_map] at z2
    exact z2.trans pm
  refine wpAny_bind (wpAny_newList ?_ (by rw [len, sizeLine_eq]; omega))
  have atL : (z.heap.push (seqObj "list" vs.toArray 0)).get? z.heap.objs.size = some (seqObj "list" vs.toArray 0) := Heap.get?_push_size _ rfl
  refine wpAny_bind (wpAny_holding (wpAny_call_entry slot_list_sort ⟨_, atL, rfl⟩ entry_list_sort (list_sort_treeK strKind_oneLt atL txt.keysOf (fun v1 v2 rest e => keyKind_strs (by rw [← e]; exact txt)) (by rw [len]; exact few) fun st' p1 p2 => ⟨_, rfl, ?_⟩) (args_list_sort _)))
  obtain ⟨ss', q1, q2, q3⟩ := sorted_out_str txt p1 p2
  have e : ss' = sortS ks := sortS_eq (q2.trans pk) (sortedS_pw q3)
  subst e
  obtain ⟨c, hc⟩ := sortedHeap_at (vs := vs) (out := (arrOf st').map (·.2)) atL
  refine wpAny_pure ⟨_, rfl, fin _ z.heap.objs.size _ c (fun b u e => ?_) g1 o1 size1 hc q1⟩
  have q := old b u e
  have lt := Heap.lt_size q
  show (sortedHeap (z.heap.push (seqObj "list" vs.toArray 0)) z.heap.objs.size vs ((arrOf st').map (·.2))).get? b = some u
  rw [sortedHeap_old (Nat.ne_of_lt lt) (by rw [size_push']; exact Nat.lt_succ_of_lt lt)]
  exact Heap.get?_push_of_some _ q
end
end DLS

set_option maxRecDepth 100000
set_option maxHeartbeats 2000000
/-! DL12: sorted(set(x)) of texts, over trees. -/
namespace DL
open PySem PySem.Spec L2
section
variable {X : Cx} {W : WX} {e : Expr} {ta : TE} {te : DTE} {p p2 q pos : Pos}
def tSortSet (K : PySem.W.Frag) (ta : TE) : TE := fun σ H Q => ta σ H fun x H1 => ∃ (l : Addr) (ns : List Str), x = V.ref l ∧ (SqT K H1 l (ns.map V.str) ∨ SqL K H1 l (ns.map V.str)) ∧ ns.length < 64 ∧
  ∀ c, H1 c = none → Q (.ref c) (upd H1 c (.lst ((DLS.uniqS ns).map V.str)))
theorem strs_at {us : List Value} {ns : List Str} (h : PyProof.Rows.StrsAre us ns) : us.toArray.size = ns.length ∧ ∀ (i : Nat) (v : Value), us.toArray[i]? = some v → ∃ k, ns[i]? = some k ∧ Value.isStrOf k v = true := by
  refine ⟨by rw [List.size_toArray]; exact h.length, ?_⟩
  induction h with
  | nil => intro i v e; simp at e
  | cons x t h ih =>
    intro i v e
    cases i with
    | zero =>
      have e2 : Value.str x t = v := by simpa using e
      subst e2
      exact ⟨x, rfl, by first | rfl | exact beq_self_eq_true _ | simp [Value.isStrOf]⟩
    | succ i => exact ih i v (by simpa using e)
/-- sorted of a set of texts that nobody else knows -/
theorem run_sortSet {pins : List (Addr × Obj)} {σ : L2.St} {H : Hp} {s s0 : Shared} {a : Addr} {ks : List Str} {Q : VK} (hc : X.calm = true) (I : Inv X pins σ H s) (R : DLS.SetV (PySem.strKind X.prog X.w) PyProof.Rows.strOf s.heap a ks) (few : ks.length < 64)
    (k : ∀ c, H c = none → Q (.ref c) (upd H c (.lst ((DLS.sortS ks).map V.str)))) : wpAny (model X.prog X.w) X.A (call (.builtin "sorted") [.ref a]) (EP X pins σ Q) X.xe s := by
  refine DLS.sorted_setS R (I.ok.hd hc) few fun s' c out n old g o hn at_ txt => ?_
  have len : ((DLS.sortS ks).map V.str).length ≤ sizeLine := by
    rw [List.length_map, (DLS.sortS_perm ks).length_eq, sizeLine_eq]
    omega
  have free : H c = none := I.hok.fresh hn
  have J : Inv X pins σ (upd H c (.lst ((DLS.sortS ks).map V.str))) { s with heap := s'.heap, gens := s'.gens, drawn := s'.drawn, toks := s'.toks } :=
    I.call (ch := []) (Un.laid old hn free) (I.hok.laid old hn ⟨len, out.toList, n, vals_of_strs txt, at_⟩) (by rw [g]; exact I.bare) (fun _ z => nomatch z)
  have e : s' = { s with heap := s'.heap, gens := s'.gens, drawn := s'.drawn, toks := s'.toks } := by
    cases s'
    cases s
    cases o
    rfl
  rw [e]
  exact ⟨.ref c, _, J, rfl, k c free⟩
theorem pe_sortSet (hc : X.calm = true) (hm : X.mg "sorted" = none) (hm2 : X.mg "set" = none) (ha : PE X e ta) (hg : Gl X "sorted" := by rfl) (hg2 : Gl X "set" := by rfl)
    (na : starEach [e] X.env = (false, eval e X.env) :: starEach [] X.env := by rfl) (nb : starEach [.Call (.Name "set" p2) [e] [] q] X.env = (false, eval (.Call (.Name "set" p2) [e] [] q) X.env) :: starEach [] X.env := by rfl) :
    PE X (.Call (.Name "sorted" p) [.Call (.Name "set" p2) [e] [] q] [] pos) (tSortSet X.K ta) := by
  refine ⟨fun pins s σ H Q I h => ?_⟩
  refine PyProof.Rows.Call_ (ld_blt I hg hm PyProof.Rows.boot_sorted ?_)
  refine PyProof.Rows.callWith_builtin1 (PyProof.Rows.args_cons ?_ nb) nb rfl
  refine PyProof.Rows.Call_ (ld_blt I hg2 hm2 PyProof.Rows.boot_set ?_)
  refine PyProof.Rows.callWith_type1 (PyProof.Rows.args_cons (thn (ha.run pins s σ H _ I h) fun v s1 ⟨x, H1, I1, r1, l, ns, ex, sq, few, k⟩ => PyProof.Rows.args_nil ?_) na) na rfl
  subst ex
  cases r1
  have calm := I1.ok.hd hc
  have fits : ns.length + 1 < scanBound := by unfold scanBound; omega
  have few2 : (DLS.insAll [] ns).length < 64 := Nat.lt_of_le_of_lt (by simpa using DLS.insAll_length (r := ns) (ks := ([] : List Str))) few
  have go : ∀ (h' : Heap) (tk : Nat), DLS.SetV (PySem.strKind X.prog X.w) PyProof.Rows.strOf h' s1.heap.objs.size (DLS.insAll [] ns) → (∀ b o, s1.heap.get? b = some o → h'.get? b = some o) →
      wpAny (model X.prog X.w) X.A (call (.builtin "sorted") [.ref s1.heap.objs.size]) (EP X pins σ Q) X.xe { s1 with heap := h', toks := tk } := fun h' tk R old =>
    run_sortSet (s0 := s1) hc (I1.kept old) R few2 k
  rcases sq with sq | sq
  · obtain ⟨its, r, pt, hz⟩ := I1.tuple sq
    obtain ⟨sz, val⟩ := strs_at r.strs
    exact DLS.set_of_tuple DLS.dec_str calm (show s1.heap.IsTuple l its.toArray from pt) sz val fits fun h' tk R old => PyProof.Rows.args_nil (go h' tk R old)
  · obtain ⟨its, r, pl, hz⟩ := I1.list sq
    obtain ⟨sz, val⟩ := strs_at r.strs
    exact DLS.set_of_list DLS.dec_str calm pl.isList sz val fits fun h' tk R old => PyProof.Rows.args_nil (go h' tk R old)
def dSortSet (te : DTE) : DTE := fun ρ S Q E => te ρ S (fun d S1 => ∃ ns : List Str, itemsD S1 d = some (ns.map .str) ∧ ns.length < 64 ∧ Q (.lst ((DLS.uniqS ns).map .str)) S1) E
theorem de_sortSet (hc : X.calm = true) (hm : X.mg "sorted" = none) (hm2 : X.mg "set" = none) (he : DE X W e te) (hg : Gl X "sorted" := by rfl) (hg2 : Gl X "set" := by rfl)
    (na : starEach [e] X.env = (false, eval e X.env) :: starEach [] X.env := by rfl) (nb : starEach [.Call (.Name "set" p2) [e] [] q] X.env = (false, eval (.Call (.Name "set" p2) [e] [] q) X.env) :: starEach [] X.env := by rfl) :
    DE X W (.Call (.Name "sorted" p) [.Call (.Name "set" p2) [e] [] q] [] pos) (dSortSet te) :=
  de_pe (pe_sortSet hc hm hm2 he.pe hg hg2 na nb) fun σ H P ⟨ρ, S, F, Z, Q, E, R, V, q, k, x⟩ => ⟨ρ, S, F, Z, _, E, R, V, q, fun v H1 ⟨d, S1, F1, A1, i1, ns, hd, few, q1⟩ => by
    obtain ⟨l, vs, rfl, sq, iv⟩ := items_of A1.rel i1 hd
    rw [isVs_strs_inv iv] at sq
    refine ⟨l, ns, rfl, sq.symm, few, fun c hcn => ?_⟩
    obtain ⟨R2, s2, k2⟩ := A1.rel.laid (o := .lst ((DLS.uniqS ns).map L2.V.str)) hcn
    exact k _ _ ⟨_, S1, _, A1.trans ⟨s2, R2, k2⟩, .lst upd_same (isVs_strs _), q1⟩, x⟩
end
end DL

set_option maxRecDepth 100000
set_option maxHeartbeats 2000000
/-! DLC, library level: != by the own ==; the call's node where the callee is an instance. -/
namespace DLC
open PySem PySem.Spec PyProof.Rows L2
section
variable {P : Program} {w : World} {A : Around} {E : Value → Shared → Prop} {s : Shared} {K : PySem.W.Frag} {x y C f : Addr} {ox oy : Obj} {od oe : Option Obj}
theorem objNe_own {Q : Fin → Shared → Prop} (X : K.In s.heap) (J : PySem.W.InstAt s.heap x ox C od) (at_ : PySem.W.findIn K (.ref C) "__eq__" = some (some (.ref f))) (fn : PySem.W.isFn K (.ref f) = true) (hu : A.units < cLine)
    (go : wpAny (model P w) A (call (.ref f) [.ref x, .ref y]) (fun v s' => ∃ k, v = .bool k ∧ Q (.done (.ret (.bool (!k)))) s') E s) : wpAny (model P w) A (Builtin.«object.__ne__» ⟨[.ref x, .ref y], []⟩) Q E s := by
  unfold Builtin.«object.__ne__»
  repeat (first
    | with_reducible refine wpAny_cRoomFor hu ?_
    | (refine wpAny_bind (m := callSpecialIfBound? (.ref x) (Str.ofString "__eq__") [.ref y])
        (PySem.W.ifBound_K (name := "__eq__") X J at_ fn (wpAny_mono go (fun r s' hr => by
          obtain ⟨k, rfl, hq⟩ := hr
          repeat (first | exact hq | exact wpAny_pure hq | exact wpAny_truthy_bool hq | (refine wpAny_bind (m := truthy (.bool _)) (wpAny_truthy_bool ?_)) | wp_step)) fun _ _ e => e)))
    | wp_step)
theorem try_ne {Q : Option Value → Shared → Prop} (X : K.In s.heap) (J : PySem.W.InstAt s.heap x ox C od) (at_ : PySem.W.findIn K (.ref C) "__eq__" = some (some (.ref f))) (fn : PySem.W.isFn K (.ref f) = true)
    (ne_ : PySem.W.findIn K (.ref C) "__ne__" = some (some (.builtin "object.__ne__"))) (mro : PySem.W.mroIn K C (.type "object") = some true) (hu : A.units + 1 < cLine)
    (go : wpAny (model P w) A.in1 (call (.ref f) [.ref x, .ref y]) (fun v s' => ∃ k, v = .bool k ∧ Q (some (.bool (!k))) s') E s) : wpAny (model P w) A (tryCompare (.ref x) "__ne__" (.ref y)) Q E s := by
  unfold tryCompare
  refine wpAny_bind ?_
  simp only [callSpecialIfBound?, bindSpecialIfBound?]
  refine wpAny_holding (wpAny_bind (wpAny_bind (wpAny_bind (J.type.here ((PySem.W.looks_findIn X ne_).here ?_)))))
  refine wpAny_bind (wpAny_askSetting (wpAny_ite ?_))
  have one : wpAny (model P w) A (call (.builtin "object.__ne__") [.ref x, .ref y]) (fun v s' => ∃ k, v = .bool k ∧ Q (some (.bool k)) s') E s := by
    refine wpAny_call (codeAny_call_builtin F.cmp_object.ne.plain F.cmpEntry_ne (PySem.W.check_slot F.cmpKind_ne F.cmpSplit_ne (J.type.andThen (PySem.W.looks_mroIn X mro)) (F.cmpArgs_ne _ _) (objNe_own (A := A.in1) X J at_ fn hu (wpAny_mono go (fun v s' h => ?_) fun _ _ e => e))))
    obtain ⟨k, rfl, hq⟩ := h
    first
      | exact ⟨k, rfl, _, rfl, hq⟩
      | exact ⟨k, rfl, _, rfl, _, rfl, hq⟩
  have fin : ∀ (Q2 : Value → Shared → Prop), (∀ k s', Q (some (.bool k)) s' → Q2 (.bool k) s') → wpAny (model P w) A (call (.builtin "object.__ne__") ([.ref x] ++ [.ref y])) Q2 E s := fun Q2 h => wpAny_mono one (fun v s' ⟨k, e, q⟩ => e ▸ h k s' q) fun _ _ e => e
  split
  · exact wpAny_bind (wpAny_of_eq (F.cmp_object.ne.bind _) (wpAny_pure (wpAny_bind (fin _ fun k s' q => wpAny_pure (wpAny_pure q)))))
  · exact wpAny_tryCatch (wpAny_bind (wpAny_of_eq (F.cmp_object.ne.bind _) (wpAny_pure (wpAny_bind (fin _ fun k s' q => wpAny_pure (wpAny_pure q))))))
theorem ne_own {Q : Value → Shared → Prop} (X : K.In s.heap) (J : PySem.W.InstAt s.heap x ox C od) (J2 : PySem.W.InstAt s.heap y oy C oe) (at_ : PySem.W.findIn K (.ref C) "__eq__" = some (some (.ref f))) (fn : PySem.W.isFn K (.ref f) = true)
    (ne_ : PySem.W.findIn K (.ref C) "__ne__" = some (some (.builtin "object.__ne__"))) (mro : PySem.W.mroIn K C (.type "object") = some true) (hu : A.units + 1 < cLine)
    (go : wpAny (model P w) A.in1 (call (.ref f) [.ref x, .ref y]) (fun v s' => ∃ k, v = .bool k ∧ Q (.bool (!k)) s') E s) : wpAny (model P w) A (richCompare .NotEq (.ref x) (.ref y)) Q E s := by
  unfold richCompare
  simp only [oneThing_ref]
  refine wpAny_holding (wpAny_bind (wpAny_cRoomFor (Nat.lt_of_succ_lt hu) ?_))
  rw [cmpInfo_NotEq]
  dsimp only
  refine wpAny_bind (J.type.here (wpAny_bind (J2.type.here ?_)))
  split
  · rename_i q
    simp at q
  · refine wpAny_bind (m := tryCompare (.ref x) _ (.ref y)) (try_ne X J at_ fn ne_ mro hu (wpAny_mono go (fun v s' ⟨k, e, q⟩ => ⟨k, e, ?_⟩) fun _ _ e => e))
    exact wpAny_pure q
end
/-- the call of an instance, by keywords too -/
theorem callO_gen {M : Model} {A : Around} {E : Value → Shared → Prop} {s : Shared} {a : Addr} {pos : Pos} {Q : Value → Shared → Prop} {ar : List (Bool × Sem Value)} {kw : List (Option Str × Sem Value)} (pl : (ar.any (·.1) || kw.any (·.1.isNone)) = false)
    (h : wpAny M A (evalArgs (.ref a) true ar kw) (fun z s1 => (∃ C ox od, PySem.W.InstAt s1.heap a ox C od ∧ ox.data = .plain) ∧ wpAny M A (call (.ref a) ([] ++ z.pos) z.kw) Q E s1) E s) : wpAny M A (callWith pos (.ref a) [] ar kw) Q E s := by
  unfold callWith
  refine wpAny_bind (wpAny_holding (wpAny_mono h (fun z s1 h1 => wpAny_bind (wpAny_standAt ?_)) fun _ _ y => y))
  obtain ⟨⟨C, ox, od, J, dp⟩, h1⟩ := h1
  have L := PySem.W.kco_keeper (M := M) J dp
  simp only [pl]
  refine wpAny_bind (L.here ?_)
  have tail : ∀ {t : Sem Value}, wpAny M A t Q E s1 → wpAny M A (t >>= fun r => holding [r] point >>= fun _ => pure r) Q E s1 :=
    fun ht => wpAny_bind (wpAny_mono ht (fun r s2 hr => wpAny_bind (wpAny_holding (wpAny_point (wpAny_pure hr)))) fun _ _ y => y)
  exact tail (wpAny_operateT h1)
end DLC

set_option maxRecDepth 100000
set_option maxHeartbeats 2000000
/-! DL13: calls of instances, of classmethods; == and != by the own ==. -/
namespace DL
open PySem PySem.Spec L2
section
variable {X : Cx} {W : WX} {k : Nat} {f g C : Addr} {fd : FuncData} {ps : List Str} {dsp : DSp} {dvs : List V} {dds : List D} {ds : List Value} {x m : Str} {p pos apos : Pos} {e o fe : Expr} {es : List Expr} {kws : List Keyword} {ta tf : DTE} {t tkw : DTA}
theorem run_fnC {sp : Sp} {pins : List (Addr × Obj)} {σ : L2.St} {H : Hp} {s : Shared} {Q : VK} {ar : Args} {us : List Value} {vs : List V} (F : FnG X.prog X.w X.K X.mg X.base k f fd ps sp) (hr : Room k X.A) (hgd : X.A.guards = some []) (tk : Takes X W)
    (I : Inv X pins σ H s) (bt : BindsTo s fd ar (ps.zip us)) (r : Vals vs us) (h : sp vs H Q (WE W σ)) : codeAny (model X.prog X.w) X.A (.call (.ref f) ar) (fun r s' => match r with
      | .ok (.ret v) => EP X pins σ Q v s'
      | .ok _ => False
      | .error e => X.xe e s') s := by
  refine codeAny_mono (F.run X.A X.stack s H ar us vs Q _ hr hgd I.env0 bt r h) fun r s' hq => ?_
  have z := call_end tk I hq
  cases r with
  | error e => exact z
  | ok fl =>
    cases fl with
    | ret u => exact z
    | next => exact False.elim z
    | brk => exact False.elim z
    | cont => exact False.elim z
/-- f(e, ..), f an expression that gives an instance of C -/
def dCallO (C : Addr) (dsp : DSp) (dds : List D) (tf : DTE) (t : DTA) : DTE := fun ρ S Q E => tf ρ S (fun d S1 => t ρ S1 (fun xs S2 => (objD C S2 d).isSome = true ∧ dsp (d :: (xs ++ dds)) S2 Q E) E) E
theorem ins_at {K : PySem.W.Frag} {Z : Addr → Prop} {H F : Hp} {S : Store} (R : Rel K Z H S F) {d : D} {v : V} (iv : IsV K F d v) (h : (objD C S d).isSome = true) : ∃ a dx fs, v = .ref a ∧ H a = some (.ins C dx fs) := by
  obtain ⟨kds, e⟩ := Option.isSome_iff_exists.mp h
  obtain ⟨a, dx, fs, e1, e2, _⟩ := obj_is R iv e
  exact ⟨a, dx, fs, e1, e2⟩
def tCallOG (C : Addr) (sp : Sp) (dvs : List V) (E : L2.St → XK) (tf : TE) (t : TA) : TE := fun σ H Q => tf σ H fun y H1 => ∃ a, y = V.ref a ∧ t σ H1 fun vs H2 => (∃ dx fs, H2 a = some (.ins C dx fs)) ∧ sp (V.ref a :: (vs ++ dvs)) H2 Q (E σ)
theorem ob_at {pins : List (Addr × Obj)} {σ : L2.St} {H : Hp} {s : Shared} {a dx : Addr} {fs : List (Str × V)} (I : Inv X pins σ H s) (h : H a = some (.ins C dx fs)) : ∃ ox od, PySem.W.InstAt s.heap a ox C (some od) ∧ ox.data = .plain := by
  obtain ⟨mA, O, _⟩ := ins_get I.hok h
  obtain ⟨od, J, _⟩ := O.look
  exact ⟨_, _, J, rfl⟩
theorem pe_callOG {sp : Sp} {tf : TE} {t : TA} (hf : PE X fe tf) (c : StX.CallO X.K C g) (F : FnG X.prog X.w X.K X.mg X.base k g fd ps sp) (hr : Room k X.A) (hgd : X.A.guards = some []) (hb : Binds X.K fd ps ds) (hd : Vals dvs ds) (tk : Takes X W) (ha : PA X (e :: es) t)
    (ht : eval (.Call fe (e :: es) [] pos) X.env = (do callWith pos (← eval fe X.env) [] (backTo pos (starEach (e :: es) X.env)) (backToKw pos (keywordEach [] X.env))) := by rfl)
    (he : starEach (e :: es) X.env = (false, eval e X.env) :: starEach es X.env := by rfl) (hpl : (backTo pos (starEach es X.env)).any (·.1) = false := by rfl) : PE X (.Call fe (e :: es) [] pos) (tCallOG C sp dvs (WE W) tf t) := by
  refine ⟨fun pins s σ H Q I h => ?_⟩
  refine PyProof.Rows.Call_ (thn (hf.run pins s σ H _ I h) fun u s1 ⟨y, H1, I1, ry, a, ey, q⟩ => ?_) ht
  subst ey
  obtain rfl : u = Value.ref a := ry
  refine StX.callO_with (thn (ha.run pos pins s1 σ H1 _ I1 q) fun us s2 ⟨vs, H2, I2, r, ⟨dx, fs, hi⟩, q2⟩ => ?_) he hpl
  obtain ⟨ox, od, J, dp⟩ := ob_at I2 hi
  have r2 : Vals (V.ref a :: (vs ++ dvs)) (Value.ref a :: (us ++ ds)) := .cons rfl (r.append hd)
  have hl : (Value.ref a :: us ++ ds).length = ps.length := r2.length.symm.trans (F.len _ _ _ _ q2)
  exact ⟨⟨C, ox, some od, J, dp⟩, wpAny_call (PySem.W.kco_code I2.kIn J dp c.at_ c.fn c.fi (run_fnC F hr hgd tk I2 (hb s2 (Value.ref a :: us) I2.kIn hl) r2 q2))⟩
theorem de_callO (hf : DE X W fe tf) (c : StX.CallO X.K C g) (F : FnD X.prog X.w X.K X.mg X.base k g fd ps dsp) (hr : Room k X.A) (hgd : X.A.guards = some []) (hb : Binds X.K fd ps ds) (hd : Vals dvs ds) (hdd : ∀ F, IsVs X.K F dds dvs) (tk : Takes X W) (ha : DA X W (e :: es) t)
    (ht : eval (.Call fe (e :: es) [] pos) X.env = (do callWith pos (← eval fe X.env) [] (backTo pos (starEach (e :: es) X.env)) (backToKw pos (keywordEach [] X.env))) := by rfl)
    (he : starEach (e :: es) X.env = (false, eval e X.env) :: starEach es X.env := by rfl) (hpl : (backTo pos (starEach es X.env)).any (·.1) = false := by rfl) : DE X W (.Call fe (e :: es) [] pos) (fun ρ S Q E => tf ρ S (fun d S1 => (objD C S1 d).isSome = true ∧ t ρ S1 (fun xs S2 => (objD C S2 d).isSome = true ∧ dsp (d :: (xs ++ dds)) S2 Q E) E) E) :=
  de_pe (pe_callOG hf.pe c F hr hgd hb hd tk ha.pa ht he hpl) fun σ H P ⟨ρ, S, F, Z, Q, E, R, V, q, k, x⟩ => ⟨ρ, S, F, Z, _, E, R, V, q, fun v H1 ⟨d, S1, F1, A1, i1, ob, q1⟩ => by
    obtain ⟨a, _, _, rfl, _⟩ := ins_at A1.rel i1 ob
    refine ⟨a, rfl, ρ, S1, F1, Z, _, E, A1.rel, V.up A1.sm, q1, fun vs H2 ⟨xs, S2, F2, A2, iv, ob2, q2⟩ => ?_, xe_tr x A1⟩
    obtain ⟨b, dx, fs, eb, hi⟩ := ins_at A2.rel (i1.up A2.sm) ob2
    cases eb
    exact ⟨⟨dx, fs, hi⟩, d :: (xs ++ dds), S2, F2, Z, Q, E, A2.rel, .cons (i1.up A2.sm) (iv.append (hdd F2)), q2, fun v H' h => k v H' (lftE_tr (A1.trans A2) h), fun cls d H' h => x cls d H' (lftX_tr (A1.trans A2) h)⟩, x⟩
/-- f(k = e, ..), keywords alone -/
theorem de_callOK {ks : List Str} {gD : List D → List D → List D} {gx : List Value → List Value → List Value} {gV : List V → List V → List V} (hf : DE X W fe tf) (c : StX.CallO X.K C g) (F : FnD X.prog X.w X.K X.mg X.base k g fd ps dsp) (hr : Room k X.A) (hgd : X.A.guards = some [])
    (hb : KBinds X.K fd ps ks gx gV) (hgD : ∀ F xs vs zs ws, IsVs X.K F xs vs → IsVs X.K F zs ws → IsVs X.K F (gD xs zs) (gV vs ws)) (tk : Takes X W) (hkw : DK X W kws tkw)
    (ht : eval (.Call fe [] kws pos) X.env = (do callWith pos (← eval fe X.env) [] (backTo pos (starEach [] X.env)) (backToKw pos (keywordEach kws X.env))) := by rfl)
    (hall : (backToKw pos (keywordEach kws X.env)).all (·.1.isSome) = true := by rfl) (hks : (backToKw pos (keywordEach kws X.env)).filterMap (·.1) = ks := by rfl)
    (hpl : ((backTo pos (starEach [] X.env)).any (·.1) || (backToKw pos (keywordEach kws X.env)).any (·.1.isNone)) = false := by rfl) :
    DE X W (.Call fe [] kws pos) (fun ρ S Q E => tf ρ S (fun d S1 => (objD C S1 d).isSome = true ∧ tkw ρ S1 (fun zs S2 => (objD C S2 d).isSome = true ∧ dsp (gD [d] zs) S2 Q E) E) E) := by
  refine ⟨⟨fun pins s σ H Q I h => ?_⟩⟩
  obtain ⟨ρ, S, F0, Z, Qd, E, R, V0, q, k0, x0⟩ := h
  rw [ht]
  refine wpAny_bind (thn (hf.pe.run pins s σ H (fun v H1 => LftE X.K Z H F0 (fun d S1 => (objD C S1 d).isSome = true ∧ tkw ρ S1 (fun zs S2 => (objD C S2 d).isSome = true ∧ dsp (gD [d] zs) S2 Qd E) E) v H1) I ⟨ρ, S, F0, Z, _, E, R, V0, q, fun _ _ h => h, x0⟩) fun u s1 ⟨y, H1, I1, ry, d, S1, F1, A1, i1, ob, q1⟩ => ?_)
  obtain ⟨a, _, _, rfl, _⟩ := ins_at A1.rel i1 ob
  obtain rfl : u = Value.ref a := ry
  refine DLC.callO_gen hpl (PyProof.Rows.evalArgs_kw2_nil hall (thn (hkw.pk.run pos pins s1 σ H1 (fun vs H2 => LftA X.K Z H1 F1 (fun zs S2 => (objD C S2 d).isSome = true ∧ dsp (gD [d] zs) S2 Qd E) vs H2) I1 ⟨ρ, S1, F1, Z, _, E, A1.rel, V0.up A1.sm, q1, fun _ _ h => h, xe_tr x0 A1⟩) fun ws s2 ⟨zs, H2, I2, rz, xs, S2, F2, A2, iv, ob2, q2⟩ => ?_))
  obtain ⟨b, dx, fs, eb, hi⟩ := ins_at A2.rel (i1.up A2.sm) ob2
  cases eb
  obtain ⟨ox, od, J, dp⟩ := ob_at I2 hi
  rw [hks]
  have q3 : spD X.K dsp (gV [.ref a] zs) H2 Q (WE W σ) := ⟨gD [d] xs, S2, F2, Z, Qd, E, A2.rel, hgD F2 _ _ _ _ (.cons (i1.up A2.sm) .nil) iv, q2, fun v H' h => k0 v H' (lftE_tr (A1.trans A2) h), fun cls d H' h => x0 cls d H' (lftX_tr (A1.trans A2) h)⟩
  have r2 := hb.rel (vs := [V.ref a]) (us := [Value.ref a]) (.cons rfl .nil) rz
  have hl : (gx [Value.ref a] ws).length = ps.length := r2.length.symm.trans (F.len _ _ _ _ q3)
  exact ⟨⟨C, ox, some od, J, dp⟩, wpAny_call (PySem.W.kco_code I2.kIn J dp c.at_ c.fn c.fi (run_fnC F hr hgd tk I2 (hb.to s2 [Value.ref a] ws I2.kIn hl) r2 q3))⟩

/-! ### C.m(..), m a classmethod -/
/-- o.m(e, ..): o the class at C -/
theorem de_cmeth {mc : Value} {q : Addr} {pl : Sem Bool} (he : DE X W o ta) (r : ClX.CRead X.K C mc) (c : ClX.CMet X.K C mc m q g) (F : FnD X.prog X.w X.K X.mg X.base k g fd ps dsp) (hr : Room k X.A) (hgd : X.A.guards = some []) (hb : Binds X.K fd ps []) (tk : Takes X W) (ha : DA X W (e :: es) t)
    (hst : starEach (e :: es) X.env = (false, eval e X.env) :: starEach es X.env := by rfl) (hpl : (backTo pos (starEach es X.env)).any (·.1) = false := by rfl)
    (ht : eval (.Call (.Attribute o m apos) (e :: es) [] pos) X.env = (do
      let ov ← eval o X.env
      standAt apos.atName
      let (f, first) ← holding [ov] (getMethod ov m pl)
      callWith pos f first (backTo pos (starEach (e :: es) X.env)) (backToKw pos (keywordEach [] X.env))) := by rfl) :
    DE X W (.Call (.Attribute o m apos) (e :: es) [] pos) (fun ρ S Q E => ta ρ S (fun d S1 => d = .ref C ∧ t ρ S1 (fun xs S2 => dsp (.ref C :: xs) S2 Q E) E) E) := by
  refine ⟨⟨fun pins s σ H Q I ⟨ρ, S, F0, Z, Qd, E, R, V0, q0, k0, x0⟩ => ?_⟩⟩
  refine PySem.W.methodCall_KW (pl := pl) (thn (he.pe.run pins s σ H (fun v H1 => LftE X.K Z H F0 (fun d S1 => d = .ref C ∧ t ρ S1 (fun xs S2 => dsp (.ref C :: xs) S2 Qd E) E) v H1) I ⟨ρ, S, F0, Z, _, E, R, V0, q0, fun _ _ h => h, x0⟩) fun u s1 ⟨y, H1, I1, ry, d, S1, F1, A1, i1, ed, q1⟩ => ?_) ht
  subst ed
  cases i1
  obtain rfl : u = Value.ref C := ry
  refine ClX.getmethcm_ok I1 r c fun s2 I2 => ?_
  refine ClX.callwith_cm I2 (ClX.base_none I1 (Nat.le_refl _)) c.fi (thn (ha.pa.run pos _ s2 σ H1 (fun vs H2 => LftA X.K Z H1 F1 (fun xs S2 => dsp (.ref C :: xs) S2 Qd E) vs H2) I2 ⟨ρ, S1, F1, Z, _, E, A1.rel, V0.up A1.sm, q1, fun _ _ h => h, xe_tr x0 A1⟩) fun us s3 ⟨vs, H2, I3, rv, xs, S2, F2, A2, iv, q2⟩ => ⟨⟨ClX.pin_at I3, I3.kIn⟩, ?_⟩) hst hpl
  have q3 : spD X.K dsp (.ref C :: vs) H2 Q (WE W σ) := ⟨.ref C :: xs, S2, F2, Z, Qd, E, A2.rel, .cons (.ref C) iv, q2, fun v H' h => k0 v H' (lftE_tr (A1.trans A2) h), fun cls d H' h => x0 cls d H' (lftX_tr (A1.trans A2) h)⟩
  have r2 : Vals (V.ref C :: vs) (Value.ref C :: us) := .cons rfl rv
  have hl : (Value.ref C :: us).length = ps.length := r2.length.symm.trans (F.len _ _ _ _ q3)
  have bt := hb s3 (Value.ref C :: us) I3.kIn (by simpa using hl)
  have z := wpAny_call (PySem.W.method_call (ClX.pin_at I3) (run_fnC F hr hgd tk I3 (by simpa using bt) r2 q3))
  exact thn z fun _ _ y => ClX.unpinE y
/-- o.m(k = e, ..), keywords alone -/
theorem de_cmethK {mc : Value} {q : Addr} {pl : Sem Bool} {ks : List Str} {gD : List D → List D → List D} {gx : List Value → List Value → List Value} {gV : List V → List V → List V} (he : DE X W o ta) (r : ClX.CRead X.K C mc) (c : ClX.CMet X.K C mc m q g) (F : FnD X.prog X.w X.K X.mg X.base k g fd ps dsp)
    (hr : Room k X.A) (hgd : X.A.guards = some []) (hb : KBinds X.K fd ps ks gx gV) (hgD : ∀ F xs vs zs ws, IsVs X.K F xs vs → IsVs X.K F zs ws → IsVs X.K F (gD xs zs) (gV vs ws)) (tk : Takes X W) (hkw : DK X W kws tkw)
    (hall : (backToKw pos (keywordEach kws X.env)).all (·.1.isSome) = true := by rfl) (hks : (backToKw pos (keywordEach kws X.env)).filterMap (·.1) = ks := by rfl)
    (hpl : ((backTo pos (starEach [] X.env)).any (·.1) || (backToKw pos (keywordEach kws X.env)).any (·.1.isNone)) = false := by rfl)
    (ht : eval (.Call (.Attribute o m apos) [] kws pos) X.env = (do
      let ov ← eval o X.env
      standAt apos.atName
      let (f, first) ← holding [ov] (getMethod ov m pl)
      callWith pos f first (backTo pos (starEach [] X.env)) (backToKw pos (keywordEach kws X.env))) := by rfl) :
    DE X W (.Call (.Attribute o m apos) [] kws pos) (fun ρ S Q E => ta ρ S (fun d S1 => d = .ref C ∧ tkw ρ S1 (fun zs S2 => dsp (gD [.ref C] zs) S2 Q E) E) E) := by
  refine ⟨⟨fun pins s σ H Q I ⟨ρ, S, F0, Z, Qd, E, R, V0, q0, k0, x0⟩ => ?_⟩⟩
  refine PySem.W.methodCall_KW (pl := pl) (thn (he.pe.run pins s σ H (fun v H1 => LftE X.K Z H F0 (fun d S1 => d = .ref C ∧ tkw ρ S1 (fun xs S2 => dsp (gD [.ref C] xs) S2 Qd E) E) v H1) I ⟨ρ, S, F0, Z, _, E, R, V0, q0, fun _ _ h => h, x0⟩) fun u s1 ⟨y, H1, I1, ry, d, S1, F1, A1, i1, ed, q1⟩ => ?_) ht
  subst ed
  cases i1
  obtain rfl : u = Value.ref C := ry
  refine ClX.getmethcm_ok I1 r c fun s2 I2 => ?_
  refine PySem.W.callWith_of (P := fun h => PySem.W.MethP X.K s1.heap.objs.size g (.ref C) h) hpl (PySem.W.keeps_M c.fi) (PyProof.Rows.evalArgs_kw2_nil hall (thn (hkw.pk.run pos _ s2 σ H1 (fun vs H2 => LftA X.K Z H1 F1 (fun zs S2 => dsp (gD [.ref C] zs) S2 Qd E) vs H2) I2 ⟨ρ, S1, F1, Z, _, E, A1.rel, V0.up A1.sm, q1, fun _ _ h => h, xe_tr x0 A1⟩) fun ws s3 ⟨zs, H2, I3, rz, xs, S2, F2, A2, iv, q2⟩ => ⟨⟨ClX.pin_at I3, I3.kIn⟩, ?_⟩))
  rw [hks]
  have q3 : spD X.K dsp (gV [.ref C] zs) H2 Q (WE W σ) := ⟨gD [.ref C] xs, S2, F2, Z, Qd, E, A2.rel, hgD F2 _ _ _ _ (.cons (.ref C) .nil) iv, q2, fun v H' h => k0 v H' (lftE_tr (A1.trans A2) h), fun cls d H' h => x0 cls d H' (lftX_tr (A1.trans A2) h)⟩
  have r2 := hb.rel (vs := [V.ref C]) (us := [Value.ref C]) (.cons rfl .nil) rz
  have hl : (gx [Value.ref C] ws).length = ps.length := r2.length.symm.trans (F.len _ _ _ _ q3)
  have z := wpAny_call (PySem.W.method_call (pos := []) (ClX.pin_at I3) (run_fnC F hr hgd tk I3 (hb.to s3 [Value.ref C] ws I3.kIn hl) r2 q3))
  exact thn z fun _ _ y => ClX.unpinE y
end
end DL

set_option maxRecDepth 100000
set_option maxHeartbeats 2000000
/-! DL14: == and != by the own == of a class. -/
namespace DL
open PySem PySem.Spec L2
def rOwn (C : Addr) (sp : Sp) (neg : Bool) : R2 := fun x y H Q => ∃ a b dx dy fs gs, x = .ref a ∧ y = .ref b ∧ H a = some (.ins C dx fs) ∧ H b = some (.ins C dy gs) ∧ sp [.ref a, .ref b] H (fun v H' => ∃ k, v = .bl k ∧ Q (.bl (if neg then !k else k)) H') (fun _ _ _ => False)
structure OwnEq (K : PySem.W.Frag) (C f : Addr) : Prop where
  eq : PySem.W.findIn K (.ref C) "__eq__" = some (some (.ref f))
  fn : PySem.W.isFn K (.ref f) = true
  ne : PySem.W.findIn K (.ref C) "__ne__" = some (some (.builtin "object.__ne__"))
  mro : PySem.W.mroIn K C (.type "object") = some true
section
variable {X : Cx} {k : Nat} {C f : Addr} {fd : FuncData} {ps : List Str}
/-- the own == is asked, a frame deeper or not -/
theorem run_own {sp : Sp} {A : Around} {pins : List (Addr × Obj)} {σ : L2.St} {H : Hp} {s : Shared} {Q : VK} {a b : Addr} (F : FnG X.prog X.w X.K X.mg X.base k f fd ps sp) (hr : Room k A) (hgd : A.guards = some []) (fr : A.frames = X.A.frames) (hb : Binds X.K fd ps [])
    (I : Inv X pins σ H s) (h : sp [.ref a, .ref b] H Q (fun _ _ _ => False)) : wpAny (model X.prog X.w) A (call (.ref f) [.ref a, .ref b]) (EP X pins σ Q) X.xe s := by
  have e := I.env0
  have e0 : Env0 X.prog X.w X.K X.mg X.base A X.stack s H := ⟨by rw [fr]; exact e.frames, e.mod, e.bs, e.bsz, e.funs, e.frf, e.hok, e.bare⟩
  have r2 : Vals [V.ref a, V.ref b] [Value.ref a, Value.ref b] := .cons rfl (.cons rfl .nil)
  have hl : [Value.ref a, Value.ref b].length = ps.length := r2.length.symm.trans (F.len _ _ _ _ h)
  have bt := hb s [Value.ref a, Value.ref b] I.kIn (by simpa using hl)
  refine wpAny_call (codeAny_mono (F.run A X.stack s H ⟨[.ref a, .ref b], []⟩ _ _ Q _ hr hgd e0 (by simpa using bt) r2 h) fun r s' hq => ?_)
  have z := call_end (W := W0) takes_none5 I hq
  cases r with
  | error e => exact z
  | ok fl =>
    cases fl with
    | ret u => exact z
    | next => exact False.elim z
    | brk => exact False.elim z
    | cont => exact False.elim z
theorem or_neOwn {sp : Sp} (O : OwnEq X.K C f) (F : FnG X.prog X.w X.K X.mg X.base k f fd ps sp) (hr : Room k X.A.in1) (hu : X.A.units + 1 < cLine) (hgd : X.A.guards = some []) (hb : Binds X.K fd ps []) : OpR X (compareOp .NotEq) (rOwn C sp true) := by
  intro pins s σ H x y u v Q I rx ry h
  obtain ⟨a, b, dx, dy, fs, gs, rfl, rfl, ha, hb', q⟩ := h
  cases rx
  cases ry
  show wpAny (model X.prog X.w) X.A (richCompare .NotEq (.ref a) (.ref b)) (EP X pins σ Q) X.xe s
  obtain ⟨ox, od, J, _⟩ := ob_at I ha
  obtain ⟨oy, oe, J2, _⟩ := ob_at I hb'
  refine DLC.ne_own I.kIn J J2 O.eq O.fn O.ne O.mro hu (wpAny_mono (run_own (A := X.A.in1) F hr (by exact hgd) rfl hb I q) (fun w s' ⟨z, H', I', rz, kk, ez, q'⟩ => ?_) fun _ _ e => e)
  subst ez
  cases rz
  exact ⟨kk, rfl, .bl (!kk), H', I', rfl, q'⟩
theorem or_eqOwn {sp : Sp} (O : OwnEq X.K C f) (F : FnG X.prog X.w X.K X.mg X.base k f fd ps sp) (hr : Room k X.A) (hgd : X.A.guards = some []) (hb : Binds X.K fd ps []) : OpR X (compareOp .Eq) (rOwn C sp false) := by
  intro pins s σ H x y u v Q I rx ry h
  obtain ⟨a, b, dx, dy, fs, gs, rfl, rfl, ha, hb', q⟩ := h
  cases rx
  cases ry
  show wpAny (model X.prog X.w) X.A (richCompare .Eq (.ref a) (.ref b)) (EP X pins σ Q) X.xe s
  obtain ⟨ox, od, J, _⟩ := ob_at I ha
  obtain ⟨oy, oe, J2, _⟩ := ob_at I hb'
  obtain ⟨m, hF⟩ := I.fr
  refine PySem.W.cmp_K (op := .Eq) (tb := .ref C) hr.units0 hF I.ok.mod.kin J J2.type (by simp [PySem.W.notFirst]) O.eq O.fn (wpAny_mono (run_own (A := X.A) F hr hgd rfl hb I q) (fun w s' ⟨z, H', I', rz, kk, ez, q'⟩ => ?_) fun _ _ e => e)
  subst ez
  cases rz
  exact ⟨.bl kk, H', I', rfl, q'⟩
end
def rdOwn (C : Addr) (dsp : DSp) (neg : Bool) : DR2 := fun x y S Q => (objD C S x).isSome = true ∧ (objD C S y).isSome = true ∧ dsp [x, y] S (fun d S' => ∃ k, d = .bl k ∧ Q (.bl (if neg then !k else k)) S') (fun _ _ _ _ => False)
theorem lift_own {K : PySem.W.Frag} {C : Addr} {dsp : DSp} {neg : Bool} : Lift2 K (rOwn C (spD K dsp) neg) (rdOwn C dsp neg) := by
  intro Z H S F x y v w Q P R iv iw ⟨o1, o2, q⟩ k
  obtain ⟨a, dx, fs, rfl, ha⟩ := ins_at R iv o1
  obtain ⟨b, dy, gs, rfl, hb⟩ := ins_at R iw o2
  refine ⟨a, b, dx, dy, fs, gs, rfl, rfl, ha, hb, [x, y], S, F, Z, _, _, R, .cons iv (.cons iw .nil), q, fun v' H' ⟨d, S', F', A', i', kk, ed, q'⟩ => ?_, fun cls d H' ⟨_, _, _, _, _, _, _, _, z⟩ => z.elim⟩
  subst ed
  cases i'
  exact ⟨kk, rfl, k _ _ ⟨_, S', F', A', .bl _, q'⟩⟩
end DL

set_option maxRecDepth 100000
set_option maxHeartbeats 2000000
/-! DL15: isinstance by own classes. -/
namespace DL
open PySem PySem.Spec L2
/-- what isinstance asks of an own class -/
structure ClsTy (K : PySem.W.Frag) (C : Addr) : Prop where
  cl : Cls K C
  at_ : PySem.W.findIn K (.ref C) "__class__" = some (some (.builtin "object.__class__"))
  get : PySem.W.specialIn K (.builtin "object.__class__") "__get__" = some (some (.builtin "getset_descriptor.__get__"))
  tk : PySem.W.takesIn K (.builtin "object.__class__") = some true
  mro : PySem.W.mroIn K C (.type "object") = some true
def tyO (K : PySem.W.Frag) (S : Store) (x : D) (t : Value) : Prop := (∃ C, ClsTy K C ∧ (objD C S x).isSome = true ∧ t = .ref C) ∨ ∃ n, tyD S x = some n ∧ t = .type n
def rdIsiO (K : PySem.W.Frag) : DRL := fun xs S Q => ∃ x C t b, xs = [x, .ref C] ∧ tyO K S x t ∧ PySem.W.kitOne K t (.ref C) = some b ∧ Q (.bl b) S
theorem lift_isiO {K : PySem.W.Frag} : LiftL K (rIsi K) (rdIsiO K) := by
  intro Z H S F x v Q P R iv ⟨x, C, t, b, hx, ht, hk, q⟩ k
  subst hx
  obtain ⟨u, w, rfl, i1, i2⟩ := isVs_two iv
  cases i2
  refine ⟨_, _, t, _, b, rfl, .own C, ?_, hk, k _ _ ⟨_, S, F, .refl R, .bl _, q⟩⟩
  rcases ht with ⟨C', T, ob, rfl⟩ | ⟨n, hn, rfl⟩
  · obtain ⟨a, dx, fs, rfl, ha⟩ := ins_at R i1 ob
    exact .base (.ins ha T.cl T.at_ T.get T.tk T.mro)
  · exact tyX_of R i1 hn
end DL

set_option maxRecDepth 100000
set_option maxHeartbeats 2000000
/-! DLE: the end of a law whose def is promised over trees, where no repr runs. -/
namespace DL
open PySem PySem.Spec PyProof.Rows L2
/-- what a law promises of its script -/
def dspLaw : DSp := fun ds S Q _ => ∃ ns : List Int, ds = [.scr (ns.map .int)] ∧ ns.length ≤ 63 ∧ (∀ n ∈ ns, Builtin.Int.intBits n ≤ 1048576) ∧ (∀ a, S a = none) ∧ ∀ S', Q (.bl true) S'
theorem cx_none {P : Program} {w : World} {H : Hp} {s s' : Shared} {e : Value} (h : L2.CX P w [] H s (fun _ _ _ => False) e s') : False := by
  obtain ⟨_, _, _, _, _, _, _, _, _, _, _, _, z⟩ := h
  exact z
theorem law_callG {P : Program} {w : World} {K : PySem.W.Frag} {mg mb : Str → Option Value} {k : Nat} {fa a : Addr} {fd : FuncData} {x : Str} {s1 : Shared} {vs : List Value} {ns : List Int}
    (KX : K.In s1.heap) (nsM : s1.heap.Ns mainGlobals mg) (nsB : s1.heap.Ns builtinsNs mb) (boot : ∀ x : Str, x ≠ "__name__" → mb x = bootBuiltins x) (lim : s1.heap.NoLimit) (gens : s1.gens = #[])
    (at_ : s1.heap.get? a = some { cls := .type "list", data := .seq vs.toArray }) (hi : IntsAre vs ns) (few : ns.length ≤ 63) (bits : ∀ n ∈ ns, Builtin.Int.intBits n ≤ 1048576) (hr : Room k callerA)
    (F : ∀ base : Heap, K.In base → base.Ns mainGlobals mg → FnD P w K mg base k fa fd [x] dspLaw) (bind : ∀ (s : Shared) (u : Value), BindsTo s fd ⟨[u], []⟩ [(x, u)]) :
    codeAny (model P w) callerA (.call (.ref fa) ⟨[.ref a], []⟩) (fun r s' => r = .ok (.ret (.bool true)) ∧ OldK s1.heap s'.heap ∧ s'.os = s1.os ∧ AllBare s'.gens) s1 := by
  have rv := vals_ints hi
  have lenV := hi.length
  have short : ns.length ≤ sizeLine := by rw [sizeLine_eq]; omega
  have core : ∀ H : Hp, Only H → SqL K H a (ns.map V.int) → HOk P w H s1.heap → (∀ b, H b ≠ none → b = a) → (H a ≠ none → K.lookup a = none) →
      codeAny (model P w) callerA (.call (.ref fa) ⟨[.ref a], []⟩) (fun r s' => r = .ok (.ret (.bool true)) ∧ OldK s1.heap s'.heap ∧ s'.os = s1.os ∧ AllBare s'.gens) s1 := by
    intro H only sq hok alone apart
    have down : ∀ {b : Addr} {o : Obj}, s1.heap.get? b = some o → H b = none → (hidT s1.heap H).get? b = some o := fun e n => hidT_get e n
    have noD : ∀ {b : Addr} {o : Obj} {es : Array DictEntry} {ep : Nat}, s1.heap.get? b = some o → o.data = .dict es ep → H b = none := fun {b o es ep} e d => by
      cases q : H b with
      | none => rfl
      | some u =>
        have eb : b = a := alone b (by rw [q]; simp)
        subst eb
        rw [at_] at e
        cases e
        exact absurd (show Data.seq vs.toArray _ = Data.dict es ep from d) (fun z => by cases z)
    have spaces : ∀ {b : Addr} {m : Str → Option Value}, s1.heap.Ns b m → (hidT s1.heap H).Ns b m := fun {b m} ⟨o, es, ep, e, d, r⟩ => ⟨o, es, ep, down e (noD e d), d, r⟩
    have Kb : K.In (hidT s1.heap H) := fun b o e => down (KX b o e) (by
      cases q : H b with
      | none => rfl
      | some u =>
        have eb : b = a := alone b (by rw [q]; simp)
        subst eb
        rw [apart (by rw [q]; simp)] at e
        cases e)
    have M : Mod K mg (hidT s1.heap H) := ⟨Kb, spaces nsM, ⟨mb, spaces nsB, boot⟩, let ⟨mc, h1, h2⟩ := lim; ⟨mc, spaces h1, h2⟩⟩
    have e0 : Env0 P w K mg (hidT s1.heap H) callerA [] s1 H := ⟨rfl, M, fun b o e => of_hidT e, Nat.le_of_eq (hidT_size _ _), trivial, fun b hb => absurd (show b ∈ ([] : List Addr) from hb) (by simp), hok, .of_eq gens⟩
    have R : Rel K (fun _ => False) H (fun _ => none) H := ⟨fun b u e => ⟨e, rfl, fun z => z⟩, fun b m e => (by cases e), fun b z => z.elim⟩
    have want : spD K dspLaw [.ref a] H (fun v _ => v = .bl true) (fun _ _ _ => False) :=
      ⟨[.scr (ns.map .int)], fun _ => none, H, fun _ => False, fun d _ => d = .bl true, fun _ _ _ _ => False, R, .cons (.scr sq (isVs_ints ns)) .nil, ⟨ns, rfl, few, bits, fun _ => rfl, fun _ => rfl⟩,
        fun v H' ⟨d, S', F', _, iv, e⟩ => by
          subst e
          cases iv
          rfl, fun cls d H' ⟨_, _, _, _, _, _, _, _, z⟩ => z.elim⟩
    refine codeAny_mono ((F _ Kb (spaces nsM)).run callerA [] s1 H ⟨[.ref a], []⟩ [.ref a] [.ref a] _ _ hr rfl e0 (bind s1 (.ref a)) (.cons rfl .nil) want) fun r s' h => ?_
    cases r with
    | error e => exact (cx_none h).elim
    | ok fl =>
      cases fl with
      | next => exact False.elim h
      | brk => exact False.elim h
      | cont => exact False.elim h
      | ret u =>
        obtain ⟨v, H', os, bare, un, hok', r', q⟩ := h
        have q' : v = .bl true := q
        subst q'
        obtain rfl : u = Value.bool true := r'
        refine ⟨rfl, OldK.of_keep fun b o e => ?_, os, bare⟩
        cases q : H b with
        | none => exact un.keep b o e q (by intro z; exact absurd (show b ∈ ([] : List Addr) from z) (by simp)) (by simp)
        | some u =>
          rcases only b with z | ⟨ob, xs, z⟩
          · rw [q] at z; cases z
          · have z2 := un.frzs b ob _ z
            obtain ⟨e1, _⟩ := hok b _ z
            obtain ⟨e2, _⟩ := hok' b _ z2
            rw [e] at e1
            cases e1
            exact e2
  cases hk : K.lookup a with
  | some o =>
    have e := KX a o hk
    rw [at_] at e
    cases e
    exact core (fun _ => none) (fun _ => .inl rfl) (.inr ⟨_, vs.toArray, _, hk, rfl, rfl, rfl, by rw [List.size_toArray, lenV]; exact short, by simpa using rv⟩) (fun b u z => by have z' : (none : Option HO) = some u := z; cases z') (fun b z => absurd rfl z) fun z => absurd rfl z
  | none =>
    refine core (fun b => if b = a then some (.frz { cls := .type "list", data := .seq vs.toArray } (.lst (ns.map V.int))) else none) (fun b => ?_) (.inl (.inr ⟨{ cls := .type "list", data := .seq vs.toArray }, if_pos rfl⟩)) (fun b u z => ?_) (fun b z => ?_) fun _ => hk
    · by_cases hb : b = a
      · exact .inr ⟨_, _, if_pos hb⟩
      · exact .inl (if_neg hb)
    · by_cases hb : b = a
      · have z' := (if_pos hb).symm.trans z
        cases z'
        subst hb
        exact ⟨at_, by rw [List.length_map]; exact short, vs, _, rv, at_⟩
      · have z' := (if_neg hb).symm.trans z
        cases z'
    · by_cases hb : b = a
      · exact hb
      · exact absurd (if_neg hb) z
/-- the goal that the head leaves, from the law's promise -/
theorem walk_ofD {l : PySem.W.OpenLaw} {k : Nat} {q : Program} {loose : List Str} {XP : (Str → Option Value) → Heap → Prop} {YP : World → Heap → Prop} {d : DefRec} {K : Params → PySem.W.Frag} {x : Str}
    (hn : l.most = some 63) (hdf : d.params.defaults = []) (hr : Room k callerA) (hY : ∀ (w : World) (h : Heap), YP w h → (K w.params).In h)
    (F : ∀ (w : World) (mg : Str → Option Value) (fa : Addr) (h : Heap), (K w.params).In h → h.Ns mainGlobals mg → mg d.name = some (.ref fa) →
      ∃ fd : FuncData, (∀ (s : Shared) (u : Value), BindsTo s fd ⟨[u], []⟩ [(x, u)]) ∧ ∀ base : Heap, (K w.params).In base → base.Ns mainGlobals mg → FnD l.prog w (K w.params) mg base k fa fd [x] dspLaw) :
    PySem.W.WalkO q loose XP YP l.row.toRowW d [] (fun f vs => PySem.call f vs) := by
  refine Att.attach_callB hn hdf fun w s0 s1 mg mb fa o pm cd doc a vs ns G Y ho hd hcd hmg at_ hi few bits gens => ?_
  have KX := hY w _ Y
  obtain ⟨fd, hb, hF⟩ := F w mg fa _ KX G.T.g hmg
  exact law_callG KX G.T.g G.T.b G.T.builtins G.T.nolimit gens at_ hi few bits hr hF hb
end DL

set_option maxRecDepth 100000
set_option maxHeartbeats 2000000
/-! DL16: the signs of a text, walked. -/
namespace DL
open PySem PySem.Spec L2
def signs (z : Str) : List D := z.cps.toList.map fun c => D.str ⟨#[c]⟩
section
variable {X : Cx} {W : WX} {tg e : Expr} {te : DTE}
theorem itOk_str {K : PySem.W.Frag} {F : Hp} (z : Str) : ItOk K (Its z) (signs z) F where
  go := fun H S F' Z s R i hi => by
    have h : i < (signs z).length := hi
    unfold signs at h
    rw [List.length_map, Array.length_toList] at h
    exact h
  stop := fun H S F' Z s R => by
    show z.cps.size ≤ (signs z).length
    unfold signs
    rw [List.length_map, Array.length_toList]
    exact Nat.le_refl _
  yld := fun H S F' Z s R i x H' hi hy => by
    obtain ⟨rfl, c, hc, rfl⟩ := hy
    refine ⟨F', .str ⟨#[c]⟩, .refl R, ?_, .str _⟩
    unfold signs
    rw [List.getElem?_map, Array.getElem?_toList, hc]
    rfl
theorem di_str (h : DE X W e te) : DI X W tg e (fun ρ S Q E => te ρ S (fun d S1 => ∃ z : Str, d = .str z ∧ Q (signs z) S1) E) := ⟨pi_imp (pi_str h.pe) fun σ H P ⟨ρ, S, F, Z, Q, E, R, V, q, k, x⟩ => ⟨ρ, S, F, Z, _, E, R, V, q, fun v H1 ⟨d, S1, F1, A1, i1, z, hd, q1⟩ => by
  subst hd
  cases i1
  exact ⟨z, rfl, k _ _ _ S1 F1 A1 (itOk_str z) q1⟩, x⟩⟩
end
end DL

set_option maxRecDepth 100000
set_option maxHeartbeats 2000000
/-! DLK: short rules for the built-in names, with readings that compute. -/
namespace DL
open PySem PySem.Spec L2
/-- no built-in name is taken by the text -/
structure Bis (mg : Str → Option Value) : Prop where
  len : mg "len" = none
  isi : mg "isinstance" = none
  all : mg "all" = none
  tuple : mg "tuple" = none
  list : mg "list" = none
  dict : mg "dict" = none
  set : mg "set" = none
  sorted : mg "sorted" = none
  int : mg "int" = none
  str : mg "str" = none
  bool : mg "bool" = none
  repr : mg "repr" = none
  range : mg "range" = none
  zip : mg "zip" = none
  super : mg "super" = none
/-- the length of what has one -/
def lenM : Option M → Option Nat
  | some (.lst ds) => some ds.length
  | _ => none
def lenD (S : Store) : D → Option Nat
  | .str z => if z.length ≤ sizeLine then some z.length else none
  | .tup ds => some ds.length
  | .kup ds => some ds.length
  | .lst ds => some ds.length
  | .scr ds => some ds.length
  | .ref a => lenM (S a)
  | _ => none
theorem rdLen_of {S : Store} {d : D} {n : Nat} {Q : DQ} (h : lenD S d = some n) (q : Q (.int n) S) : rdLen [d] S Q := by
  cases d with
  | str z =>
    have h' : (if z.length ≤ sizeLine then some z.length else none) = some n := h
    split at h'
    · cases h'
      exact ⟨by assumption, q⟩
    · cases h'
  | tup ds => cases h; exact q
  | kup ds => cases h; exact q
  | lst ds => cases h; exact q
  | scr ds => cases h; exact q
  | ref a =>
    have h' : lenM (S a) = some n := h
    cases e : S a with
    | none => rw [e] at h'; cases h'
    | some m =>
      cases m with
      | lst ds =>
        rw [e] at h'
        cases h'
        exact ⟨ds, e, q⟩
      | _ => rw [e] at h'; cases h'
  | _ => cases h
/-- one argument, computed -/
def rd1 {α : Type} (f : Store → D → Option α) (g : α → D) : DRL := fun xs S Q => match xs with
  | [d] => ∃ a, f S d = some a ∧ Q (g a) S
  | _ => False
theorem lift_rd1 {K : PySem.W.Frag} {α : Type} {f : Store → D → Option α} {g : α → D} {r : List V → Hp → VK → Prop} {rd : DRL} (l : LiftL K r rd) (h : ∀ S d a Q, f S d = some a → Q (g a) S → rd [d] S Q) : LiftL K r (rd1 f g) := by
  intro Z H S F x v Q P R iv q k
  match x, iv, q with
  | [d], iv, ⟨a, e, q⟩ => exact l Z H S F [d] v Q P R iv (h S d a Q e q) k
def rdIsi2 : DRL := fun xs S Q => match xs with
  | [d, .ty n] => ∃ t, tyD S d = some t ∧ n ∈ tyIn ∧ Q (.bl (isB t n)) S
  | _ => False
theorem lift_isi2 {K : PySem.W.Frag} : LiftL K (rIsi K) rdIsi2 := by
  intro Z H S F x v Q P R iv q k
  match x, iv, q with
  | [d, .ty n], iv, ⟨t, e, m, q⟩ => exact lift_isi Z H S F [d, .ty n] v Q P R iv ⟨d, n, t, rfl, e, m, q⟩ k
section
variable {X : Cx} {W : WX} {e : Expr} {te : DTE} {x : Str} {p p2 pos : Pos} {n : String}
theorem de_tyN (hm : X.mg x = none) (hv : bootBuiltins x = some (.type n)) (hg : Gl X x := by rfl) (hn : x ≠ "__name__" := by decide) (hd : (x == ("__debug__" : Str)) = false := by decide) : DE X W (.Name x pos) (dC (.ty n)) :=
  de_c (pe_bltn (v := .ty n) hg hm hv rfl hn hd) fun _ => .ty n
theorem de_len (B : Bis X.mg) (he : DE X W e te) (hg : Gl X "len" := by rfl) (hs : starEach [e] X.env = (false, eval e X.env) :: starEach [] X.env := by rfl) (hpl : (backTo pos (starEach [] X.env)).any (·.1) = false := by rfl) :
    DE X W (.Call (.Name "len" p) [e] [] pos) (dCB (rd1 lenD fun n : Nat => .int n) (dCons te dNil)) :=
  de_callB call_len (lift_rd1 lift_len fun S d a Q => rdLen_of) B.len PySem.boot_len (da_cons he da_nil hs) hg (by decide) (by decide) hs hpl
theorem de_isi (B : Bis X.mg) (hx : X.mg x = none) (hv : bootBuiltins x = some (.type n)) (he : DE X W e te) (hg : Gl X "isinstance" := by rfl) (hgx : Gl X x := by rfl) (hn : x ≠ "__name__" := by decide) (hd : (x == ("__debug__" : Str)) = false := by decide)
    (hs : starEach [e, .Name x p2] X.env = (false, eval e X.env) :: starEach [.Name x p2] X.env := by rfl) (hs2 : starEach [.Name x p2] X.env = (false, eval (.Name x p2) X.env) :: starEach [] X.env := by rfl) (hpl : (backTo pos (starEach [.Name x p2] X.env)).any (·.1) = false := by rfl) :
    DE X W (.Call (.Name "isinstance" p) [e, .Name x p2] [] pos) (dCB rdIsi2 (dCons te (dCons (dC (.ty n)) dNil))) :=
  de_callB call_isi lift_isi2 B.isi PyProof.Rows.boot_isinstance (da_cons he (da_cons (de_tyN hx hv hgx hn hd) da_nil hs2) hs) hg (by decide) (by decide) hs hpl
theorem de_tuple (B : Bis X.mg) (he : DE X W e te) (hg : Gl X "tuple" := by rfl) (hs : starEach [e] X.env = (false, eval e X.env) :: starEach [] X.env := by rfl) (hpl : (backTo pos (starEach [] X.env)).any (·.1) = false := by rfl) :
    DE X W (.Call (.Name "tuple" p) [e] [] pos) (dCB (rd1 itemsD D.tup) (dCons te dNil)) :=
  de_callTy call_tuple_of (lift_rd1 lift_tuple fun S d a Q h q => ⟨d, a, rfl, h, q⟩) B.tuple PyProof.Rows.boot_tuple (da_cons he da_nil hs) hg (by decide) (by decide) hs hpl
theorem de_list (B : Bis X.mg) (he : DE X W e te) (hg : Gl X "list" := by rfl) (hs : starEach [e] X.env = (false, eval e X.env) :: starEach [] X.env := by rfl) (hpl : (backTo pos (starEach [] X.env)).any (·.1) = false := by rfl) :
    DE X W (.Call (.Name "list" p) [e] [] pos) (dCB (rd1 itemsD D.lst) (dCons te dNil)) :=
  de_callTy call_list_of (lift_rd1 lift_list fun S d a Q h q => ⟨d, a, rfl, h, q⟩) B.list PyProof.Rows.boot_list (da_cons he da_nil hs) hg (by decide) (by decide) hs hpl
theorem de_all (hc : X.calm = true) (B : Bis X.mg) (he : DE X W e te) (hg : Gl X "all" := by rfl) (hs : starEach [e] X.env = (false, eval e X.env) :: starEach [] X.env := by rfl) (hpl : (backTo pos (starEach [] X.env)).any (·.1) = false := by rfl) :
    DE X W (.Call (.Name "all" p) [e] [] pos) (dCB rdAll (dCons te dNil)) :=
  de_callB (cr_all hc) lift_all B.all PyProof.Rows.boot_all (da_cons he da_nil hs) hg (by decide) (by decide) hs hpl
/-- globals that hold texts, ints -/
theorem de_globS {z : Str} {t : Tok} (hm : X.mg x = some (.str z t)) (hg : Gl X x := by rfl) (hd : (x == ("__debug__" : Str)) = false := by decide) : DE X W (.Name x pos) (dC (.str z)) :=
  de_glob (v := .str z) hm ⟨t, rfl⟩ (fun _ => .str z) hg hd
theorem de_globI {z : Int} {t : Tok} (hm : X.mg x = some (.int z t)) (hg : Gl X x := by rfl) (hd : (x == ("__debug__" : Str)) = false := by decide) : DE X W (.Name x pos) (dC (.int z)) :=
  de_glob (v := .int z) hm ⟨t, rfl⟩ (fun _ => .int z) hg hd
end
/-- both ways of a test -/
theorem iteB {c : Bool} {A B : Prop} (h : c = true → A) (g : c = false → B) : if c = true then A else B := by
  cases c with
  | true => exact iteT (h rfl)
  | false => exact iteF (g rfl)
/-- a comprehension that asks each item the same pure question, nothing left out -/
theorem lcgo_map {α : Type} {tg : Tgt} {te : DTE} {ρ : Sl} (enc g : α → D) {S : Store} {Q : List D → Store → Prop} : ∀ (xs : List α) (acc : List D), (∀ x ∈ xs, ∃ ρ1, bindT tg (enc x) ρ = some ρ1 ∧ ∀ R : DQ, R (g x) S → te ρ1 S R (fun _ _ _ _ => False)) → Q (acc ++ xs.map g) S → dLcGo tg dYes te ρ (xs.map enc) acc S Q
  | [], acc, _, q => by
    rw [List.map_nil, List.append_nil] at q
    exact q
  | x :: r, acc, h, q => by
    obtain ⟨ρ1, e, k⟩ := h x List.mem_cons_self
    refine ⟨ρ1, e, ?_⟩
    show if true = true then te ρ1 S (fun y S2 => dLcGo tg dYes te ρ (r.map enc) (acc ++ [y]) S2 Q) (fun _ _ _ _ => False) else dLcGo tg dYes te ρ (r.map enc) acc S Q
    refine iteT (k _ ?_)
    refine lcgo_map enc g r (acc ++ [g x]) (fun d hd => h d (List.mem_cons_of_mem _ hd)) ?_
    rw [List.append_assoc]
    exact q
def isStrD : D → Bool
  | .str _ => true
  | _ => false
def isTupD : D → Bool
  | .tup _ => true
  | _ => false
def isIntD : D → Bool
  | .int _ => true
  | .bl _ => true
  | _ => false
def isBlD : D → Bool
  | .bl _ => true
  | _ => false
theorem ty_is {S : Store} {d : D} {t : String} (h : tyD S d = some t) : isB t "str" = isStrD d ∧ isB t "tuple" = isTupD d ∧ isB t "int" = isIntD d ∧ isB t "bool" = isBlD d := by
  cases d with
  | ref a =>
    have h : tyM (S a) = some t := h
    cases q : S a with
    | none => rw [q] at h; cases h
    | some m => cases m <;> rw [q] at h <;> cases h <;> exact ⟨by rfl, by rfl, by rfl, by rfl⟩
  | ty _ => cases h
  | obj _ _ _ => cases h
  | kup _ => cases h
  | _ => cases h; exact ⟨by rfl, by rfl, by rfl, by rfl⟩
theorem isStr_of {d : D} (h : isStrD d = true) : ∃ z, d = .str z := by
  cases d with
  | str z => exact ⟨z, rfl⟩
  | _ => cases h
theorem isTup_of {d : D} (h : isTupD d = true) : ∃ z, d = .tup z := by
  cases d with
  | tup z => exact ⟨z, rfl⟩
  | _ => cases h
section
variable {P : Program} {w : World} {K : PySem.W.Frag} {mg : Str → Option Value} {base : Heap}
/-- THE RULE for a def, derivation and reading in one -/
theorem fn_ofE {k : Nat} {f : Addr} {x qual : Str} {st : Stmt} {fd : FuncData} {N ps : List Str} {dsp : DSp} (F : Fun K x qual st f fd) (S : FnScope N ps (defScope st)) (len : ∀ ds S Q E, dsp ds S Q E → ds.length = ps.length)
    (hbody : ∀ (cdv : Value) (A : Around) (outer : List Env) (s : Shared) (H : Hp) (E : XK), Room k (A.deeper (PyProof.Rows.envOfC qual (defScope st) s.heap.objs.size f cdv)) → (A.deeper (PyProof.Rows.envOfC qual (defScope st) s.heap.objs.size f cdv)).guards = some [] →
      Takes (cxD P w K mg base N qual (defScope st) f cdv A outer s H E) (Wd E) → PassesOwn (model P w) (A.deeper (PyProof.Rows.envOfC qual (defScope st) s.heap.objs.size f cdv)) (PyProof.Rows.envOfC qual (defScope st) s.heap.objs.size f cdv) (cxD P w K mg base N qual (defScope st) f cdv A outer s H E).xe →
      ∃ T, DSs (cxD P w K mg base N qual (defScope st) f cdv A outer s H E) (Wd E) (defBody st) T ∧ ∀ ds S Q E', dsp ds S Q E' → T { nx := fun _ S' => Q .non S', rt := Q, ex := fun _ => E' } (startD N ds) S) : FnD P w K mg base (k + 1) f fd ps dsp := by
  refine fn_ofG F S (fun vs H Q E ⟨ds, S, Fz, Z, Qd, Ed, R, iv, q, _⟩ => by rw [← iv.length]; exact len _ _ _ _ q) fun cdv A outer s H vs Q E hr hgd ⟨ds, Sd, Fz, Z, Qd, Ed, R, iv, q, k1, k2⟩ => ?_
  obtain ⟨T, hT, read⟩ := hbody cdv A outer s H E hr (guards_deeper hgd) (takes_of rfl rfl rfl rfl) (passes_of rfl)
  refine ⟨_, hT.pss, ?_⟩
  exact ⟨startD N ds, Sd, Fz, Z, _, R, envR_start iv, read ds Sd Qd Ed q, ⟨fun σ' H' ⟨ρ', S', F', A', _, q'⟩ => k1 _ _ ⟨.non, S', F', A', .non, q'⟩, fun v H' h => k1 v H' h, fun _ _ ⟨_, _, _, _, _, z⟩ => z.elim, fun _ _ ⟨_, _, _, _, _, z⟩ => z.elim, fun cls d σ' H' ⟨C, ns, ds', ρ', S', F', e, A', _, xr, q'⟩ => k2 cls d H' ⟨C, ns, ds', S', F', e, A', xr, q'⟩⟩⟩
end
end DL

set_option maxRecDepth 100000
set_option maxHeartbeats 2000000
/-! DLP: plain facts about data. -/
namespace DL
open PySem PySem.Spec L2
theorem eqvAll_strs : ∀ a b : List Str, PyData.eqvAll (a.map .str) (b.map .str) = decide (a = b)
  | [], [] => rfl
  | [], _ :: _ => rfl
  | _ :: _, [] => rfl
  | x :: a, y :: b => by
    show (x == y && PyData.eqvAll (a.map .str) (b.map .str)) = _
    rw [eqvAll_strs a b]
    by_cases h : x = y
    · subst h
      by_cases g : a = b
      · subst g; simp
      · simp [g]
    · have : (x == y) = false := beq_eq_false_iff_ne.mpr h
      rw [this]
      simp [h]
theorem toPys_strs : ∀ a : List Str, toPys (a.map D.str) = some (a.map .str)
  | [] => rfl
  | x :: a => by
    show (match toPy (.str x), toPys (a.map D.str) with
      | some p, some ps => some (p :: ps)
      | _, _ => none) = _
    rw [toPys_strs a]
    rfl
theorem toPy_strs (a : List Str) : toPy (.tup (a.map D.str)) = some (.tuple (a.map .str)) := by
  show (toPys (a.map D.str)).map PyData.tuple = _
  rw [toPys_strs]
  rfl
theorem toPy_strsL (a : List Str) : toPy (.lst (a.map D.str)) = some (.list (a.map .str)) := by
  show (toPys (a.map D.str)).map PyData.list = _
  rw [toPys_strs]
  rfl
theorem canLay_strs : ∀ a : List Str, (∀ x ∈ a, PyData.strOk x = true) → PyData.canLayAll0 (a.map .str) = true
  | [], _ => rfl
  | x :: a, h => by
    show (PyData.canLay0 (.str x) && PyData.canLayAll0 (a.map .str)) = true
    rw [canLay_strs a fun y hy => h y (List.mem_cons_of_mem _ hy)]
    have : PyData.canLay0 (.str x) = PyData.strOk x := by simp [PyData.canLay0]
    rw [this, h x List.mem_cons_self]
    rfl
theorem depth_strs : ∀ a : List Str, PyData.depthAll (a.map .str) = 0
  | [] => by simp [PyData.depthAll]
  | x :: a => by simp [PyData.depthAll, PyData.depth, depth_strs a]
theorem shaped_strs {a : List Str} (h : ∀ x ∈ a, PyData.strOk x = true) : SeqAt.shaped (.tuple (a.map .str)) = true ∧ SeqAt.shaped (.list (a.map .str)) = true := by
  have c := canLay_strs a h
  have e : (PyData.tuple (a.map .str)).depth ≤ 64 ∧ (PyData.list (a.map .str)).depth ≤ 64 := by
    simp [PyData.depth, depth_strs]
  unfold SeqAt.shaped
  have c1 : (PyData.tuple (a.map .str)).canLay0 = true := by simpa [PyData.canLay0] using c
  have c2 : (PyData.list (a.map .str)).canLay0 = true := by simpa [PyData.canLay0] using c
  rw [c1, c2, decide_eq_true e.1, decide_eq_true e.2]
  exact ⟨rfl, rfl⟩
theorem eqv_tstrs (a b : List Str) : PyData.eqv (.tuple (a.map .str)) (.tuple (b.map .str)) = decide (a = b) := by
  show PyData.eqvAll (a.map .str) (b.map .str) = _
  exact eqvAll_strs a b
theorem eqv_lstrs (a b : List Str) : PyData.eqv (.list (a.map .str)) (.list (b.map .str)) = decide (a = b) := by
  show PyData.eqvAll (a.map .str) (b.map .str) = _
  exact eqvAll_strs a b
/-- a def of the text that can be called by its name -/
structure DefD (P : Program) (w : World) (K : PySem.W.Frag) (mg : Str → Option Value) (base : Heap) (k : Nat) (x : Str) (ps : List Str) (dsp : DSp) (f : Addr) (fd : FuncData) : Prop where
  ok : FnD P w K mg base k f fd ps dsp
  at_ : mg x = some (.ref f)
  kp : PySem.W.keepIn K (.ref f) = true
  bd : Binds K fd ps []
abbrev dCall0 (dsp : DSp) (t : DTA) : DTE := dCall dsp [] t
theorem de_def {X : Cx} {W : WX} {k : Nat} {f : Addr} {fd : FuncData} {ps : List Str} {dsp : DSp} {x : Str} {p pos : Pos} {e : Expr} {es : List Expr} {t : DTA} (h : DefD X.prog X.w X.K X.mg X.base k x ps dsp f fd) (hr : Room k X.A) (hgd : X.A.guards = some []) (tk : Takes X W) (ha : DA X W (e :: es) t)
    (hg : Gl X x := by rfl) (hdb : (x == ("__debug__" : Str)) = false := by decide) (he : starEach (e :: es) X.env = (false, eval e X.env) :: starEach es X.env := by rfl) (hpl : (backTo pos (starEach es X.env)).any (·.1) = false := by rfl) :
    DE X W (.Call (.Name x p) (e :: es) [] pos) (dCall dsp [] t) := de_callN h.ok hr hgd h.at_ h.kp h.bd tk ha hg hdb he hpl
theorem lcgo_pure {tg : Tgt} {te : DTE} {ρ : Sl} (g : D → D) {S : Store} {Q : List D → Store → Prop} (xs acc : List D) (h : ∀ x ∈ xs, ∃ ρ1, bindT tg x ρ = some ρ1 ∧ ∀ R : DQ, R (g x) S → te ρ1 S R (fun _ _ _ _ => False)) (q : Q (acc ++ xs.map g) S) : dLcGo tg dYes te ρ xs acc S Q := by
  have z := lcgo_map (tg := tg) (te := te) (ρ := ρ) (S := S) (Q := Q) id g xs acc h q
  rwa [List.map_id] at z
theorem shaped_int (i : Int) : SeqAt.shaped (.int i) = true := by simp [SeqAt.shaped, PyData.canLay0, PyData.depth]
/-- == and != of ints, computed -/
theorem rdEq_int {neg : Bool} {i j : Int} {S : Store} {Q : DQ} (q : Q (.bl (if neg then !decide (i = j) else decide (i = j))) S) : rdEq neg (.int i) (.int j) S Q := by
  refine ⟨_, _, rfl, rfl, shaped_int i, shaped_int j, ?_⟩
  have e : PyData.eqv (.int i) (.int j) = decide (i = j) := by
    show (i == j) = _
    by_cases h : i = j
    · subst h; simp
    · simp [h]
  rw [e]
  exact q
theorem any_strs (z : Str) : ∀ ss : List Str, (ss.map D.str).any (fun y => eqF y (.str z)) = decide (z ∈ ss)
  | [] => rfl
  | x :: ss => by
    rw [List.map_cons, List.any_cons, any_strs z ss]
    show ((x == z) || decide (z ∈ ss)) = _
    by_cases h : x = z
    · subst h; simp
    · have : (x == z) = false := beq_eq_false_iff_ne.mpr h
      rw [this]
      have h2 : ¬ z = x := fun e => h e.symm
      simp [h2]
theorem flat_strs : ∀ ss : List Str, (ss.map D.str).all flatD = true
  | [] => rfl
  | x :: ss => by
    rw [List.map_cons, List.all_cons, flat_strs ss]
    rfl
/-- a text in a tuple, a list of texts, computed -/
theorem rdIn_strs {neg : Bool} {z : Str} {ss : List Str} {y : D} {S : Store} {Q : DQ} (hy : y = .tup (ss.map .str) ∨ y = .lst (ss.map .str)) (q : Q (.bl (if neg then !decide (z ∈ ss) else decide (z ∈ ss))) S) : rdIn neg (.str z) y S Q := by
  refine ⟨_, hy, rfl, flat_strs ss, ?_⟩
  rw [any_strs]
  exact q
end DL

set_option maxRecDepth 100000
set_option maxHeartbeats 2000000
/-! DLF: what the written part says of defs, classes, exceptions, in bundles. -/
namespace DL
open PySem PySem.Spec L2
/-- a def of the text -/
structure DF (K : PySem.W.Frag) (mg : Str → Option Value) (x : Str) (st : Stmt) (ps : List Str) : Type where
  f : Addr
  fd : FuncData
  F : Fun K x x st f fd
  at_ : mg x = some (.ref f)
  bd : Binds K fd ps []
  bu : ∀ (s : Shared) (us : List Value), us.length = ps.length → BindsTo s fd ⟨us, []⟩ (ps.zip us)
/-- a method -/
structure MF (K : PySem.W.Frag) (C : Addr) (m qual : Str) (st : Stmt) (ps : List Str) : Type where
  f : Addr
  fd : FuncData
  F : Fun K m qual st f fd
  at_ : Meth K C m f
  bd : Binds K fd ps []
abbrev BdOk (x qual : Str) (st : Stmt) (ps : List Str) : Prop := ∀ (kV doc pm : Value) (an : Option Addr) (cdv ct : Value) (us : List Value), us.length = ps.length → bindArgs (PySem.W.fnOf x qual (defArgs st) (defBody st) (defScope st) .none kV doc pm an cdv ct) ⟨us, []⟩ = pure (ps.zip us)
section
variable {K : PySem.W.Frag} {mg : Str → Option Value} {h : Heap}
def DF.of {x : Str} {st : Stmt} {ps : List Str} {f : Addr} {oc : Value} {od an : Option Addr} {osl : Array (Option Value)} {kV doc pm cdv ct : Value} (X : K.In h) (G : h.Ns mainGlobals mg) (a : PySem.W.nsIn K mainGlobals x = some (some (.ref f)))
    (l : K.lookup f = some ⟨oc, od, .func (PySem.W.fnOf x x (defArgs st) (defBody st) (defScope st) .none kV doc pm an cdv ct), osl⟩) (c : PySem.W.codeIn K cdv x = true) (k : PySem.W.keepIn K (.ref f) = true) (b : BdOk x x st ps) : DF K mg x st ps :=
  ⟨f, _, fun_mk l c k, PySem.W.mg_of X G a, (fun_mk l c k).binds b, fun s us hl => .of_eq (b _ _ _ _ _ _ us hl)⟩
def MF.of {x qual : Str} {st : Stmt} {ps : List Str} {f C : Addr} {oc : Value} {od an : Option Addr} {osl : Array (Option Value)} {kV doc pm cdv ct : Value} (a : PySem.W.findIn K (.ref C) x = some (some (.ref f))) (i : PySem.W.isFn K (.ref f) = true)
    (l : K.lookup f = some ⟨oc, od, .func (PySem.W.fnOf x qual (defArgs st) (defBody st) (defScope st) .none kV doc pm an cdv ct), osl⟩) (c : PySem.W.codeIn K cdv qual = true) (k : PySem.W.keepIn K (.ref f) = true) (b : BdOk x qual st ps) : MF K C x qual st ps :=
  ⟨f, _, fun_mk l c k, ⟨a, i, k⟩, (fun_mk l c k).binds b⟩
theorem DefD.of {P : Program} {w : World} {base : Heap} {x : Str} {st : Stmt} {ps : List Str} {k : Nat} {dsp : DSp} (D : DF K mg x st ps) (ok : FnD P w K mg base k D.f D.fd ps dsp) : DefD P w K mg base k x ps dsp D.f D.fd := ⟨ok, D.at_, D.F.kp, D.bd⟩
def Bis.of (X : K.In h) (G : h.Ns mainGlobals mg) (a1 : PySem.W.nsIn K mainGlobals "len" = some none) (a2 : PySem.W.nsIn K mainGlobals "isinstance" = some none) (a3 : PySem.W.nsIn K mainGlobals "all" = some none) (a4 : PySem.W.nsIn K mainGlobals "tuple" = some none)
    (a5 : PySem.W.nsIn K mainGlobals "list" = some none) (a6 : PySem.W.nsIn K mainGlobals "dict" = some none) (a7 : PySem.W.nsIn K mainGlobals "set" = some none) (a8 : PySem.W.nsIn K mainGlobals "sorted" = some none) (a9 : PySem.W.nsIn K mainGlobals "int" = some none)
    (a10 : PySem.W.nsIn K mainGlobals "str" = some none) (a11 : PySem.W.nsIn K mainGlobals "bool" = some none) (a12 : PySem.W.nsIn K mainGlobals "repr" = some none) (a13 : PySem.W.nsIn K mainGlobals "range" = some none) (a14 : PySem.W.nsIn K mainGlobals "zip" = some none) (a15 : PySem.W.nsIn K mainGlobals "super" = some none) : Bis mg :=
  ⟨PySem.W.mg_none_of X G a1, PySem.W.mg_none_of X G a2, PySem.W.mg_none_of X G a3, PySem.W.mg_none_of X G a4, PySem.W.mg_none_of X G a5, PySem.W.mg_none_of X G a6, PySem.W.mg_none_of X G a7, PySem.W.mg_none_of X G a8, PySem.W.mg_none_of X G a9, PySem.W.mg_none_of X G a10, PySem.W.mg_none_of X G a11, PySem.W.mg_none_of X G a12, PySem.W.mg_none_of X G a13, PySem.W.mg_none_of X G a14, PySem.W.mg_none_of X G a15⟩
/-- an exception class over the text's own base, with one field -/
structure EF (P : Program) (K : PySem.W.Frag) (mg : Str → Option Value) (x wd : Str) : Type where
  C : Addr
  fI : Addr
  at_ : mg x = some (.ref C)
  xi : XiC P K C fI wd
  xf : XfC K C
  no : PySem.W.findIn K (.ref C) wd = some none
  me : PySem.W.exmOne K (.ref C) (.ref C) = some true
/-- a class -/
structure CF (K : PySem.W.Frag) (mg : Str → Option Value) (x : Str) : Type where
  C : Addr
  at_ : mg x = some (.ref C)
  kp : PySem.W.keepIn K (.ref C) = true
  cl : Cls K C
/-- a classmethod -/
structure CMF (K : PySem.W.Frag) (C : Addr) (m qual : Str) (st : Stmt) (ps : List Str) : Type where
  mc : Value
  q : Addr
  rd : ClX.CRead K C mc
  f : Addr
  fd : FuncData
  F : Fun K m qual st f fd
  cm : ClX.CMet K C mc m q f
  bd : Binds K fd ps []
theorem exm_selfK {S : Addr} (h1 : PySem.W.subIn K (.ref S) (.type "BaseException") = some true) (h2 : PySem.W.isClsIn K S = true) (h3 : PySem.W.typeIn K (.ref S) = some (.type "type")) (h4 : PySem.W.subIn K (.ref S) (.ref S) = some true) :
    PySem.W.exmOne K (.ref S) (.ref S) = some true := by
  have e1 : (PySem.W.subIn K (.ref S) (.type "BaseException") == some true) = true := by rw [h1] <;> rfl
  have e2 : ((PySem.W.clsIn K S).isSome && PySem.W.typeIn K (.ref S) == some (.type "type")) = true := by
    have h2' : (PySem.W.clsIn K S).isSome = true := h2
    rw [h2', h3] <;> rfl
  show (if (PySem.W.subIn K (.ref S) (.type "BaseException") == some true) = true then (if ((PySem.W.clsIn K S).isSome && PySem.W.typeIn K (.ref S) == some (.type "type")) = true then PySem.W.subIn K (.ref S) (.ref S) else none) else none) = some true
  rw [if_pos e1, if_pos e2]
  exact h4
end
end DL

set_option maxRecDepth 100000
set_option maxHeartbeats 2000000
/-! DLV: how long a repr is; repr of trees with a computing reading. -/
namespace DL
open PySem PySem.Spec L2
mutual
/-- texts of real signs, ints that repr shows -/
def goodP : PyData → Bool
  | .none => true
  | .bool _ => true
  | .int i => decide (i.natAbs.log2 < 1920)
  | .str x => PyData.strOk x
  | .list xs => goodPs xs
  | .tuple xs => goodPs xs
  | .dict kvs => goodPk kvs
def goodPs : List PyData → Bool
  | [] => true
  | x :: xs => goodP x && goodPs xs
def goodPk : List (PyData × PyData) → Bool
  | [] => true
  | (k, v) :: r => goodP k && goodP v && goodPk r
end
mutual
def szP : PyData → Nat
  | .none => 4
  | .bool _ => 5
  | .int _ => 1921
  | .str x => 10 * x.length + 2
  | .list xs => szPs xs + 3
  | .tuple xs => szPs xs + 3
  | .dict kvs => szPk kvs + 3
def szPs : List PyData → Nat
  | [] => 0
  | x :: xs => szP x + 2 + szPs xs
def szPk : List (PyData × PyData) → Nat
  | [] => 0
  | (k, v) :: r => szP k + szP v + 4 + szPk r
end
mutual
theorem good_showable : ∀ p : PyData, goodP p = true → p.showable = true
  | .none, _ => by simp [PyData.showable]
  | .bool _, _ => by simp [PyData.showable]
  | .int i, h => by simpa [PyData.showable, goodP] using h
  | .str _, _ => by simp [PyData.showable]
  | .list xs, h => by simpa [PyData.showable] using good_showables xs (by simpa [goodP] using h)
  | .tuple xs, h => by simpa [PyData.showable] using good_showables xs (by simpa [goodP] using h)
  | .dict xs, h => by simpa [PyData.showable] using good_showablek xs (by simpa [goodP] using h)
theorem good_showables : ∀ p : List PyData, goodPs p = true → PyData.showableAll p = true
  | [], _ => by simp [PyData.showableAll]
  | x :: xs, h => by
    have h' : goodP x = true ∧ goodPs xs = true := by simpa [goodPs] using h
    simp [PyData.showableAll, good_showable x h'.1, good_showables xs h'.2]
theorem good_showablek : ∀ p : List (PyData × PyData), goodPk p = true → PyData.showableKv p = true
  | [], _ => by simp [PyData.showableKv]
  | (k, v) :: xs, h => by
    have h' : (goodP k = true ∧ goodP v = true) ∧ goodPk xs = true := by simpa [goodPk] using h
    simp [PyData.showableKv, good_showable k h'.1.1, good_showable v h'.1.2, good_showablek xs h'.2]
end
theorem textFrom_le : ∀ (ts : List Str) (k : Nat) (acc : Str), (textFrom k acc ts).length ≤ acc.length + (ts.map fun t => t.length + 2).sum
  | [], k, acc => by simp [textFrom]
  | t :: r, k, acc => by
    have h := textFrom_le r (k + 1) (acc ++ (if k > 0 then ", " else "" : String) ++ t)
    have e : (((if k > 0 then ", " else "" : String) : Str)).length ≤ 2 := by split <;> decide
    rw [strLen_append, strLen_append] at h
    show (textFrom (k + 1) (acc ++ (if k > 0 then ", " else "" : String) ++ t) r).length ≤ _
    rw [List.map_cons, List.sum_cons]
    omega
theorem join_le : ∀ ts : List Str, (Str.join ", " ts).length ≤ (ts.map fun t => t.length + 2).sum
  | [] => Nat.zero_le _
  | [x] => by show x.length ≤ _; simp
  | x :: y :: r => by
    have ih := join_le (y :: r)
    show (x ++ ", " ++ Str.join ", " (y :: r)).length ≤ _
    have e2 : ((", " : String) : Str).length = 2 := rfl
    rw [strLen_append, strLen_append, e2, List.map_cons, List.sum_cons]
    omega
mutual
theorem shown_le : ∀ p : PyData, goodP p = true → p.shown.length ≤ szP p
  | .none, _ => by simp only [PyData.shown, szP]; decide
  | .bool b, _ => by
    simp only [PyData.shown, szP]
    cases b <;> decide
  | .int i, h => by
    simp only [PyData.shown, szP]
    exact PyProof.Rows.int_text_len_1921 (by simpa [goodP] using h)
  | .str x, h => by
    simp only [PyData.shown, szP]
    refine PySem.StrLaws.reprText_len x fun c hc => ?_
    have h1 : PyData.strOk x = true := by simpa [goodP] using h
    unfold PyData.strOk at h1
    rw [Array.all_eq_true_iff_forall_mem] at h1
    have h2 := of_decide_eq_true (h1 c (by simpa using hc))
    exact Nat.lt_trans h2 (by decide)
  | .list xs, h => by
    have ih := showns_le xs (by simpa [goodP] using h)
    simp only [PyData.shown, szP]
    unfold listText
    have h2 := textFrom_le (PyData.shownAll xs) 0 "["
    have e1 : ((("[" : String) : Str)).length = 1 := rfl
    have e2 : ((("]" : String) : Str)).length = 1 := rfl
    rw [strLen_append, e2]
    omega
  | .tuple xs, h => by
    have ih := showns_le xs (by simpa [goodP] using h)
    simp only [PyData.shown, szP]
    unfold tupleText
    have h2 := join_le (PyData.shownAll xs)
    have e1 : ((("(" : String) : Str)).length = 1 := rfl
    have e3 : (((if (PyData.shownAll xs).length == 1 then ",)" else ")" : String) : Str)).length ≤ 2 := by split <;> decide
    rw [strLen_append, strLen_append, e1]
    omega
  | .dict xs, h => by
    have ih := shownk_le xs (by simpa [goodP] using h)
    simp only [PyData.shown, szP]
    unfold dictText
    have h2 := join_le (PyData.shownKv xs)
    have e1 : ((("{" : String) : Str)).length = 1 := rfl
    have e2 : ((("}" : String) : Str)).length = 1 := rfl
    rw [strLen_append, strLen_append, e1, e2]
    omega
theorem showns_le : ∀ p : List PyData, goodPs p = true → ((PyData.shownAll p).map fun t => t.length + 2).sum ≤ szPs p
  | [], _ => by simp [PyData.shownAll, szPs]
  | x :: xs, h => by
    have h' : goodP x = true ∧ goodPs xs = true := by simpa [goodPs] using h
    have a := shown_le x h'.1
    have b := showns_le xs h'.2
    simp only [PyData.shownAll, szPs, List.map_cons, List.sum_cons]
    omega
theorem shownk_le : ∀ p : List (PyData × PyData), goodPk p = true → ((PyData.shownKv p).map fun t => t.length + 2).sum ≤ szPk p
  | [], _ => by simp [PyData.shownKv, szPk]
  | (k, v) :: xs, h => by
    have h' : (goodP k = true ∧ goodP v = true) ∧ goodPk xs = true := by simpa [goodPk] using h
    have a := shown_le k h'.1.1
    have a2 := shown_le v h'.1.2
    have b := shownk_le xs h'.2
    have e2 : (((": " : String) : Str)).length = 2 := rfl
    simp only [PyData.shownKv, szPk, List.map_cons, List.sum_cons]
    rw [strLen_append, strLen_append, e2]
    omega
end
/-- what repr may be asked of -/
structure ReprOk (d : D) (p : PyData) : Prop where
  show_ : showD d = some p
  good : goodP p = true
  sz : szP p ≤ 16000000
  dp : p.depth ≤ 60
  nol : p.hasDict = true → noL d = true
def rdReprC : DRL := fun xs S Q => match xs with
  | [d] => ∃ p, ReprOk d p ∧ Q (.str p.shown) S
  | _ => False
theorem lift_reprC {K : PySem.W.Frag} : LiftL K (rRepr K) rdReprC := fun Z H S F xs v Q P R iv q k => by
  match xs, q with
  | [d], ⟨p, h, q⟩ =>
    refine lift_repr Z H S F [d] v Q P R iv ⟨d, p, rfl, h.show_, good_showable p h.good, ?_, h.dp, h.nol, q⟩ k
    rw [sizeLine_eq]
    have := shown_le p h.good
    have := h.sz
    omega
section
variable {X : Cx} {W : WX} {e : Expr} {te : DTE} {p pos : Pos}
theorem de_repr (B : Bis X.mg) (hgd : X.A.guards = some []) (hu : X.A.units + 64 < cLine) (he : DE X W e te) (hg : Gl X "repr" := by rfl) (hs : starEach [e] X.env = (false, eval e X.env) :: starEach [] X.env := by rfl) (hpl : (backTo pos (starEach [] X.env)).any (·.1) = false := by rfl) :
    DE X W (.Call (.Name "repr" p) [e] [] pos) (dCB rdReprC (dCons te dNil)) :=
  de_callB (cr_repr hgd hu) lift_reprC B.repr (by first | exact PyProof.Rows.boot_repr | decide +kernel | kernel_rfl) (da_cons he da_nil hs) hg (by decide) (by decide) hs hpl
end
end DL

set_option maxRecDepth 100000
set_option maxHeartbeats 2000000
/-! DLN: == and != against the empty tuple, the empty list, whatever stands in the other one. -/
namespace DL
open PySem PySem.Spec L2
section
variable {X : Cx}
def rNil (K : PySem.W.Frag) (neg : Bool) : R2 := fun x y H Q => ∃ a b xs, x = .ref a ∧ y = .ref b ∧ ((SqT K H a xs ∧ SqT K H b []) ∨ (SqL K H a xs ∧ SqL K H b [])) ∧ Q (.bl (if neg then !xs.isEmpty else xs.isEmpty)) H
theorem plain_isList {h : Heap} {a : Addr} {its : Array Value} (p : PlainL h a its) : h.IsList a its := by
  obtain ⟨o, n, e, hc, _, hd⟩ := p
  exact ⟨o, e, hc, n, hd⟩
theorem vals_nil {us : List Value} (h : Vals [] us) : us = [] := by cases h; rfl
theorem vals_len : ∀ {vs : List V} {us : List Value}, Vals vs us → vs.length = us.length
  | _, _, .nil => rfl
  | _, _, .cons _ h => congrArg (· + 1) (vals_len h)
theorem emp_eq {vs : List V} {us : List Value} (h : Vals vs us) : ((List.range (min us.toArray.size (#[] : Array Value).size)).all (fun _ => true) && us.toArray.size == (#[] : Array Value).size) = vs.isEmpty := by
  have l := vals_len h
  cases h with
  | nil => rfl
  | cons _ _ => simp
theorem op_eqNil (hu : X.A.units < cLine) : OpR X (compareOp .Eq) (rNil X.K false) := by
  intro pins s σ H x y v u Q I rx ry h
  obtain ⟨a, b, xs, rfl, rfl, hk, q⟩ := h
  cases rx; cases ry
  rcases hk with ⟨h1, h2⟩ | ⟨h1, h2⟩
  · obtain ⟨us, r1, p1, _⟩ := I.tuple h1
    obtain ⟨ws, r2, p2, _⟩ := I.tuple h2
    have e2 := vals_nil r2
    subst e2
    refine SeqAt.eq_tupleAt (e := fun _ => true) p1 p2 hu (fun j _ h2 => absurd h2 (Nat.not_lt_zero j)) ⟨_, H, I, ?_, q⟩
    show _ = Value.bool _
    rw [emp_eq r1]
    rfl
  · obtain ⟨us, r1, p1, _⟩ := I.list h1
    obtain ⟨ws, r2, p2, _⟩ := I.list h2
    have e2 := vals_nil r2
    subst e2
    cases r1 with
    | nil => exact SeqAt.eq_listAt (e := fun _ => true) (plain_isList p1) (plain_isList p2) rfl hu (fun j _ h2 => absurd h2 (Nat.not_lt_zero j)) ⟨.bl true, H, I, rfl, q⟩
    | cons _ _ => exact SeqAt.eq_list_lengthsAt (plain_isList p1) (plain_isList p2) (by simp) hu ⟨.bl false, H, I, rfl, q⟩
theorem op_neNil (hu : X.A.units < cLine) : OpR X (compareOp .NotEq) (rNil X.K true) := by
  intro pins s σ H x y v u Q I rx ry h
  obtain ⟨a, b, xs, rfl, rfl, hk, q⟩ := h
  cases rx; cases ry
  rcases hk with ⟨h1, h2⟩ | ⟨h1, h2⟩
  · obtain ⟨us, r1, p1, _⟩ := I.tuple h1
    obtain ⟨ws, r2, p2, _⟩ := I.tuple h2
    have e2 := vals_nil r2
    subst e2
    refine SeqAt.RcNeAt.tuples (e := fun _ => true) p1 p2 hu (fun j _ h2 => absurd h2 (Nat.not_lt_zero j)) _ _ _ _ ⟨_, H, I, ?_, q⟩
    show _ = Value.bool _
    rw [emp_eq r1]
    rfl
  · obtain ⟨us, r1, p1, _⟩ := I.list h1
    obtain ⟨ws, r2, p2, _⟩ := I.list h2
    have e2 := vals_nil r2
    subst e2
    cases r1 with
    | nil => exact SeqAt.RcNeAt.lists (e := fun _ => true) (plain_isList p1) (plain_isList p2) rfl hu (fun j _ h2 => absurd h2 (Nat.not_lt_zero j)) _ _ _ _ ⟨.bl false, H, I, rfl, q⟩
    | cons _ _ => exact SeqAt.RcNeAt.lists_lengths (plain_isList p1) (plain_isList p2) (by simp) hu _ _ _ _ ⟨.bl true, H, I, rfl, q⟩
end
/-- what stands in x, compared with the empty one of its kind -/
def nilD (S : Store) : D → D → Option (List D)
  | .tup ds, .tup [] => some ds
  | x, .lst [] => lstD S x
  | _, _ => none
def rdNil (neg : Bool) : DR2 := fun x y S Q => ∃ ds, nilD S x y = some ds ∧ Q (.bl (if neg then !ds.isEmpty else ds.isEmpty)) S
theorem isVs_emp {K : PySem.W.Frag} {F : Hp} {ds : List D} {vs : List V} (h : IsVs K F ds vs) : ds.isEmpty = vs.isEmpty := by cases h <;> rfl
theorem lift_nil {K : PySem.W.Frag} {neg : Bool} : Lift2 K (rNil K neg) (rdNil neg) := by
  intro Z H S F x y v w Q P R iv iw q k
  obtain ⟨ds, e, q⟩ := q
  have core : ∀ vs : List V, IsVs K F ds vs → P (.bl (if neg then !vs.isEmpty else vs.isEmpty)) H := fun vs h => by
    rw [← isVs_emp h]
    exact k _ _ ⟨_, S, F, .refl R, .bl _, q⟩
  unfold nilD at e
  split at e
  · cases e
    cases iv with
    | tup h1 h2 =>
      cases iw with
      | tup g1 g2 =>
        cases g2
        exact ⟨_, _, _, rfl, rfl, .inl ⟨R.sqt (SqT.of h1), R.sqt (SqT.of g1)⟩, core _ h2⟩
  · obtain ⟨p, vs, rfl, h1, h2⟩ := lst_of R iv e
    cases iw with
    | lst g1 g2 =>
      cases g2
      exact ⟨_, _, _, rfl, rfl, .inr ⟨h1, R.sql (SqL.of g1)⟩, core _ h2⟩
  · cases e
end DL

set_option maxRecDepth 100000
set_option maxHeartbeats 2000000
/-! DLR: t[::-1] of a tuple; xs[::-1]. -/
namespace HT
open PySem PySem.Spec PyProof.Rows L2
section
variable {prog : Program} {w : World} {A : Around} {E : Value → Shared → Prop} {s : Shared}
theorem adjust_rev (n : Nat) : Builtin.Slice.sliceAdjust none none (-1) (n : Int) = ((n : Int) - 1, -1) := rfl
theorem places_rev (n : Nat) : Builtin.Slice.slicePlaces ((n : Int) - 1) (-1) (-1) = n := by
  unfold Builtin.Slice.slicePlaces
  have h1 : ¬ ((-1 : Int) > 0) := by decide
  simp only [h1, if_false]
  by_cases h : (n : Int) - 1 > -1
  · have e : ((n : Int) - 1 - -1 - 1) / (- -1) + 1 = (n : Int) := by
      rw [show (- -1 : Int) = 1 by decide, Int.ediv_one]
      omega
    simp only [h, if_true, e, Int.toNat_natCast]
  · have e : n = 0 := by omega
    subst e
    simp
theorem sliceApplied_rev {sl : Addr} {vs : Value} {n : Nat} {Q : Int × Int × Nat → Shared → Prop} (hs : s.heap.IsSliceOf sl .none .none vs) (ps : IsPart vs (some (-1)))
    (h : Q ((n : Int) - 1, -1, n) s) : wpAny (model prog w) A (Builtin.Slice.sliceApplied (.ref sl) (pure (n : Int))) Q E s := by
  obtain ⟨os, hos, hcs, hds⟩ := id hs
  unfold Builtin.Slice.sliceApplied Builtin.Slice.sliceFields
  refine wpAny_bind (wpAny_bind (wpAny_field hos hds (x := .none) rfl (wpAny_bind (wpAny_field hos hds (x := .none) rfl (wpAny_bind (wpAny_field hos hds (x := vs) rfl (wpAny_pure ?_)))))))
  refine wpAny_bind (slicePart_ ps ?_)
  show wpAny _ _ (if ((-1 : Int) == 0) = true then _ else _) _ _ s
  rw [if_neg (by decide)]
  refine wpAny_bind (slicePart_none (wpAny_bind (slicePart_none (wpAny_bind (wpAny_pure ?_)))))
  show wpAny _ _ (match Builtin.Slice.sliceAdjust none none (-1) (n : Int) with | (lo, hi) => pure (lo, (-1 : Int), Builtin.Slice.slicePlaces lo hi (-1))) _ _ s
  rw [adjust_rev]
  show wpAny _ _ (pure ((n : Int) - 1, (-1 : Int), Builtin.Slice.slicePlaces ((n : Int) - 1) (-1) (-1))) _ _ s
  rw [places_rev]
  exact wpAny_pure h
theorem fmap_congr {α β : Type} {f g : α → Option β} : ∀ l : List α, (∀ x ∈ l, f x = g x) → l.filterMap f = l.filterMap g
  | [], _ => rfl
  | x :: r, h => by
    rw [List.filterMap_cons, List.filterMap_cons, h x List.mem_cons_self, fmap_congr r fun y hy => h y (List.mem_cons_of_mem _ hy)]
theorem pick_rev (xs : Array Value) : ((List.range xs.size).filterMap fun (m : Nat) => xs[(((xs.size : Int) - 1) + (m : Int) * (-1)).toNat]?).toArray = xs.toList.reverse.toArray := by
  have e : (List.range xs.size).filterMap (fun (m : Nat) => xs[(((xs.size : Int) - 1) + (m : Int) * (-1)).toNat]?) = (List.range xs.size).filterMap ((xs[·]?) ∘ fun k => xs.size - 1 - k) := by
    refine fmap_congr _ fun m hm => ?_
    have hm := List.mem_range.mp hm
    have : (((xs.size : Int) - 1) + (m : Int) * (-1)).toNat = xs.size - 1 - m := by omega
    simp only [Function.comp_apply, this]
  rw [e, ← List.filterMap_map, PySem.W.krv_range, List.filterMap_reverse, PySem.W.krv_all]
theorem getItem_tuple_rev {t sl : Addr} {items : Array Value} {vs : Value} {Q : Value → Shared → Prop} (ht : IsTup s.heap t items) (hs : s.heap.IsSliceOf sl .none .none vs) (ps : IsPart vs (some (-1)))
    (h : Q (.ref s.heap.objs.size) { s with heap := s.heap.push { cls := .type "tuple", data := .seq items.toList.reverse.toArray } })
    (hsz : items.size ≤ sizeLine) : wpAny (model prog w) A (getItem (.ref t) (.ref sl)) Q E s := by
  have htake : sizeOk (.seq items.toList.reverse.toArray) := by
    show items.toList.reverse.toArray.size ≤ sizeLine
    rw [List.size_toArray, List.length_reverse, Array.length_toList]
    exact hsz
  obtain ⟨os, hos, hcs, hds⟩ := id hs
  have hTs : s.TypeIs (.ref sl) "slice" := ⟨os, hos, hcs⟩
  unfold getItem
  try with_reducible refine wpAny_holding ?_
  first | refine wpAny_bind (wpAny_pure ?_) | skip
  refine wpAny_bind (wpAny_sequenceKey ht.typeIs (by decide) ?_)
  refine wpAny_bind (wpAny_callSpecial?_slot (name := Str.ofString "__getitem__") ht.typeIs PyProof.Rows.slot_tuple_getitem
    (wpAny_call_entry PyProof.Rows.slot_tuple_getitem ht.typeIs entry_tuple_getitem ?_ (args_tuple_getitem _ _)))
  show wpAny _ _ (Builtin.Tuple.tupleItemsOf (.ref t) >>= _) _ _ s
  refine wpAny_bind (tupleItemsOf_ ht ?_)
  refine wpAny_bind (wpAny_typeOf hTs ?_)
  rw [if_pos (by decide)]
  refine wpAny_bind (sliceApplied_rev hs ps ?_)
  have hno : ¬ ((((items.size : Int) - 1) == 0 && (-1 : Int) == 1 && items.size == items.size) = true) := by
    have : ((-1 : Int) == 1) = false := by decide
    rw [this]
    simp
  show wpAny _ _ (if (((items.size : Int) - 1) == 0 && (-1 : Int) == 1 && items.size == items.size) = true then _ else _) _ _ s
  rw [if_neg hno]
  show wpAny _ _ (Builtin.Tuple.tupleExact ((List.range items.size).filterMap fun (k : Nat) => items[(((items.size : Int) - 1) + (k : Int) * (-1)).toNat]?).toArray >>= _) _ _ s
  rw [pick_rev]
  first
    | exact wpAny_bind (m := Builtin.Tuple.tupleExact _) (wpAny_newObj_type (wpAny_pure ⟨_, rfl, wpAny_pure h⟩) htake)
    | exact wpAny_bind (m := Builtin.Tuple.tupleExact _) (wpAny_newObj_type (wpAny_bind (wpAny_pure (wpAny_pure ⟨_, rfl, wpAny_pure h⟩))) htake)
    | exact wpAny_bind (wpAny_bind (m := Builtin.Tuple.tupleExact _) (wpAny_newObj_type (wpAny_pure (wpAny_pure ⟨_, rfl, wpAny_pure h⟩)) htake))
    | exact wpAny_bind (wpAny_bind (m := Builtin.Tuple.tupleExact _) (wpAny_newObj_type (wpAny_pure ⟨_, rfl, wpAny_pure h⟩) htake))
end
end HT
namespace DL
open PySem PySem.Spec PyProof.Rows L2
section
variable {X : Cx} {W : WX} {e : Expr} {te : TE} {td : DTE} {k : Nat} {p1 p2 p3 pos : Pos}
def tRevT (K : PySem.W.Frag) (te : TE) : TE := fun σ H Q => te σ H fun x H1 => ∃ a xs, x = .ref a ∧ ((SqL K H1 a xs ∧ ∀ p, H1 p = none → Q (.ref p) (upd H1 p (.lst xs.reverse))) ∨ (SqT K H1 a xs ∧ ∀ p, H1 p = none → Q (.ref p) (upd H1 p (.tup xs.reverse))))
theorem pe_rev (he : PE X e te) : PE X (.Subscript e (.Slice none none (some (.UnaryOp .USub (.Constant (.int 1) k p1) p2)) p3) pos) (tRevT X.K te) := by
  refine ⟨fun pins s σ H Q I h => ?_⟩
  refine Subscript_ (thn (he.run pins s σ H _ I h) fun v s1 ⟨x, H1, I1, r1, q1⟩ => ?_)
  obtain ⟨a, xs, ex, hx⟩ := q1
  subst ex
  cases r1
  have hst : PO X (some (.UnaryOp .USub (.Constant (.int 1) k p1) p2)) (tPart (tUn (rU fun i => .int (-i)) (tC (.int 1)))) := po_some (pe_un un_neg pe_int)
  refine wpAny_Slice (thn (po_none.run pins s1 σ H1 (fun o H2 => o = none ∧ H2 = H1) I1 ⟨rfl, rfl⟩) fun vl s2 ⟨l, H2, I2, pl, el, e2⟩ => ?_)
  subst el e2
  refine thn (po_none.run pins s2 σ H2 (fun o H3 => o = none ∧ H3 = H2) I2 ⟨rfl, rfl⟩) fun vu s3 ⟨u, H3, I3, pu, eu, e3⟩ => ?_
  subst eu e3
  refine thn (hst.run pins s3 σ H3 (fun o H4 => o = some (-1) ∧ H4 = H3) I3 ⟨1, rfl, -1, rfl, rfl, rfl⟩) fun vs s4 ⟨o, H4, I4, ps, eo, e4⟩ => ?_
  subst eo e4
  have I5 : Inv X pins σ H4 { s4 with heap := s4.heap.push { cls := .type "slice", data := .fields #[vl, vu, vs] } } := I4.kept (t' := s4.toks) fun b ob q => Heap.get?_push_of_some _ q
  show wpAny (model X.prog X.w) X.A (subscriptTail e (.Slice none none (some (.UnaryOp .USub (.Constant (.int 1) k p1) p2)) p3) (.ref a) (.ref s4.heap.objs.size)) (EP X pins σ Q) X.xe { s4 with heap := s4.heap.push { cls := .type "slice", data := .fields #[vl, vu, vs] } }
  rcases hx with ⟨hx, q⟩ | ⟨hx, q⟩
  · obtain ⟨its, r, ht, hz⟩ := I5.list hx
    have hlen := r.length
    refine tail_any (ops := [.ref a, .ref s4.heap.objs.size]) ht.isList.typeIs (PySem.slot_list_getitem.lookup) ?_ (by with_unfolding_all rfl)
    refine wpAny_getItem_list_slice ht.isList (Heap.IsSliceOf.new _ vl vu vs) pl pu ps (by decide) ?_ (by rw [List.size_toArray]; omega)
    rw [PySem.W.krv_pick]
    refine ⟨.ref _, _, I5.laid (t' := s4.toks) (o := .lst xs.reverse) (fun b ob q => Heap.get?_push_of_some _ q) (Nat.le_refl _) ?_, rfl, q _ (I5.hok.fresh (Nat.le_refl _))⟩
    exact ⟨by rw [List.length_reverse]; exact hz, _, 0, r.reverse, Heap.get?_push_size _ rfl⟩
  · obtain ⟨its, r, ht, hz⟩ := I5.tuple hx
    have hlen := r.length
    cases pl; cases pu
    refine tail_any (ops := [.ref a, .ref s4.heap.objs.size]) ht.typeIs (PyProof.Rows.slot_tuple_getitem.lookup) ?_ (by with_unfolding_all rfl)
    refine HT.getItem_tuple_rev ht (Heap.IsSliceOf.new _ .none .none vs) ps ?_ (by rw [List.size_toArray]; omega)
    refine ⟨.ref _, _, I5.laid (t' := s4.toks) (o := .tup xs.reverse) (fun b ob q => Heap.get?_push_of_some _ q) (Nat.le_refl _) ?_, rfl, q _ (I5.hok.fresh (Nat.le_refl _))⟩
    exact ⟨by rw [List.length_reverse]; exact hz, _, r.reverse, IsTup.new _ _⟩
/-- x[::-1], of a list or a tuple; the new list is never written -/
def revD (S : Store) : D → Option D
  | .tup ds => some (.tup ds.reverse)
  | d => (lstD S d).map fun ds => .lst ds.reverse
def dRev (t : DTE) : DTE := fun ρ S Q E => t ρ S (fun x S1 => ∃ d, revD S1 x = some d ∧ Q d S1) E
theorem de_rev (he : DE X W e td) : DE X W (.Subscript e (.Slice none none (some (.UnaryOp .USub (.Constant (.int 1) k p1) p2)) p3) pos) (dRev td) := by
  refine de_pe (pe_rev he.pe) fun σ H P ⟨ρ, S, F, Z, Q, E, R, V, q, k, x⟩ => ⟨ρ, S, F, Z, _, E, R, V, q, fun v H1 ⟨d, S1, F1, A1, i1, r, hr, q1⟩ => ?_, x⟩
  have lst : ∀ ds, lstD S1 d = some ds → Q (.lst ds.reverse) S1 → ∃ a xs, v = .ref a ∧ ((SqL X.K H1 a xs ∧ ∀ p, H1 p = none → P (.ref p) (upd H1 p (.lst xs.reverse))) ∨ (SqT X.K H1 a xs ∧ ∀ p, H1 p = none → P (.ref p) (upd H1 p (.tup xs.reverse)))) := fun ds h q => by
    obtain ⟨p, vs, rfl, h1, h2⟩ := lst_of A1.rel i1 h
    refine ⟨p, vs, rfl, .inl ⟨h1, fun p hp => ?_⟩⟩
    obtain ⟨R2, s2, k2⟩ := A1.rel.laid (o := .lst vs.reverse) hp
    exact k _ _ ⟨.lst ds.reverse, S1, _, A1.trans ⟨s2, R2, k2⟩, .lst upd_same (h2.reverse.up s2), q⟩
  unfold revD at hr
  split at hr
  · cases hr
    cases i1 with
    | tup h1 h2 =>
      refine ⟨_, _, rfl, .inr ⟨A1.rel.sqt (SqT.of h1), fun p hp => ?_⟩⟩
      obtain ⟨R2, s2, k2⟩ := A1.rel.laid (o := .tup _) hp
      exact k _ _ ⟨.tup _, S1, _, A1.trans ⟨s2, R2, k2⟩, .tup upd_same (h2.reverse.up s2), q1⟩
  · obtain ⟨ds, h, rfl⟩ := Option.map_eq_some_iff.mp hr
    exact lst ds h q1
/-- the new list is one of the store -/
def dRevM (t : DTE) : DTE := fun ρ S Q E => t ρ S (fun x S1 => ∃ ds, lstD S1 x = some ds ∧ ∀ a, S1 a = none → Q (.ref a) (put S1 a (.lst ds.reverse))) E
theorem de_revM (he : DE X W e td) : DE X W (.Subscript e (.Slice none none (some (.UnaryOp .USub (.Constant (.int 1) k p1) p2)) p3) pos) (dRevM td) := by
  refine de_pe (pe_rev he.pe) fun σ H P ⟨ρ, S, F, Z, Q, E, R, V, q, k, x⟩ => ⟨ρ, S, F, Z, _, E, R, V, q, fun v H1 ⟨d, S1, F1, A1, i1, ds, h, q1⟩ => ?_, x⟩
  obtain ⟨p, vs, rfl, h1, h2⟩ := lst_of A1.rel i1 h
  refine ⟨p, vs, rfl, .inl ⟨h1, fun p hp => ?_⟩⟩
  obtain ⟨R2, k2, hS⟩ := A1.rel.made (o := .lst vs.reverse) (m := .lst ds.reverse) hp ⟨_, rfl, h2.reverse⟩
  exact k _ _ ⟨.ref p, _, F1, A1.trans ⟨Same.refl _, R2, k2⟩, .ref p, q1 p hS⟩
end
end DL

set_option maxRecDepth 100000
set_option maxHeartbeats 2000000
/-! DLM: short rules, more of them. -/
namespace DL
open PySem PySem.Spec L2
theorem units1 {k : Nat} {A : Around} (r : Room k A) : A.units + 1 < cLine := hu_of r
section
variable {X : Cx} {W : WX} {e : Expr} {te : DTE} {x : Str} {p p2 pos : Pos} {n : String}
/-- int(i) of an int -/
def rdInt1C : DRL := fun xs S Q => match xs with
  | [.int i] => Q (.int i) S
  | _ => False
theorem lift_int1C {K : PySem.W.Frag} : LiftL K (fun xs H Q => (∃ i, xs = [.int i] ∧ Q (.int i) H) ∨ ∃ k, xs = [.bl k] ∧ Q (.int (if k then 1 else 0)) H) rdInt1C := fun Z H S F xs v Q P R iv q k => by
  match xs, q with
  | [.int i], q => exact lift_int1 Z H S F _ v Q P R iv ⟨i, rfl, q⟩ k
theorem de_int1 (B : Bis X.mg) (he : DE X W e te) (hg : Gl X "int" := by rfl) (hs : starEach [e] X.env = (false, eval e X.env) :: starEach [] X.env := by rfl) (hpl : (backTo pos (starEach [] X.env)).any (·.1) = false := by rfl) :
    DE X W (.Call (.Name "int" p) [e] [] pos) (dCB rdInt1C (dCons te dNil)) :=
  de_callTy call_int1 lift_int1C B.int (by first | exact PyProof.Rows.boot_int | decide +kernel | kernel_rfl) (da_cons he da_nil hs) hg (by decide) (by decide) hs hpl
/-- isinstance(e, C), C a class of the text -/
def rdIsiOC (K : PySem.W.Frag) (C : Addr) : DRL := fun xs S Q => match xs with
  | [d, _] => ∃ b, isOC C S d = some b ∧ Q (.bl b) S
  | _ => False
where isOC (C : Addr) (S : Store) (d : D) : Option Bool := if (objD C S d).isSome = true then some true else match tyD S d with
  | some _ => some false
  | none => none
end
/-- xs * k -/
def rdRep : DR2 := fun x y S Q => match x, y with
  | .lst ds, .int k => (0 ≤ k ∧ k ≤ 1000) ∧ ds.length ≤ 1000 ∧ Q (.lst (List.replicate k.toNat ds).flatten) S
  | _, _ => False
theorem isVs_rep {K : PySem.W.Frag} {F : Hp} {ds : List D} {vs : List V} (h : IsVs K F ds vs) : ∀ n : Nat, IsVs K F (List.replicate n ds).flatten (List.replicate n vs).flatten
  | 0 => .nil
  | n + 1 => by
    rw [List.replicate_succ, List.replicate_succ, List.flatten_cons, List.flatten_cons]
    exact h.append (isVs_rep h n)
theorem lift_rep {K : PySem.W.Frag} : Lift2 K rRep rdRep := by
  intro Z H S F x y v w Q P R iv iw q k
  unfold rdRep at q
  split at q
  · rename_i ds j
    obtain ⟨⟨z0, z1⟩, z2, q⟩ := q
    cases iw
    cases iv with
    | lst h1 h2 =>
      refine ⟨_, j, _, rfl, rfl, (R.sub _ _ h1).1, by omega, by omega, ?_, fun p hp => ?_⟩
      · rw [← h2.length, sizeLine_eq]
        have : j.toNat ≤ 1000 := by omega
        exact Nat.le_trans (Nat.mul_le_mul z2 this) (by decide)
      · obtain ⟨R2, s2, k2⟩ := R.laid (o := .lst _) hp
        exact k _ _ ⟨.lst _, S, _, ⟨s2, R2, k2⟩, .lst upd_same ((isVs_rep h2 _).up s2), q⟩
  · exact q.elim
section
variable {X : Cx} {W : WX} {e : Expr} {te : DTE} {p p2 pos : Pos}
/-- sorted(xs) of any data -/
def rdSortDC : DRL := fun xs S Q => match xs with
  | [d] => ∃ ds ps, lstD S d = some ds ∧ showDs ds = some ps ∧ PySem.W.AllAlike ps ∧ PySem.W.Sortable ps ∧ (∀ p ∈ ps, p.depth ≤ 40) ∧ Q (.lst (ds.mergeSort leD)) S
  | _ => False
theorem lift_sortDC {K : PySem.W.Frag} : LiftL K (rSortD K) rdSortDC := fun Z H S F xs v Q P R iv q k => by
  match xs, q with
  | [d], ⟨ds, ps, h1, h2, h3, h4, h5, q⟩ => exact lift_sortD Z H S F _ v Q P R iv ⟨d, ds, ps, rfl, h1, h2, h3, h4, h5, q⟩ k
theorem de_sortD (hu : X.A.units + 64 < cLine) (B : Bis X.mg) (he : DE X W e te) (hg : Gl X "sorted" := by rfl) (hs : starEach [e] X.env = (false, eval e X.env) :: starEach [] X.env := by rfl) (hpl : (backTo pos (starEach [] X.env)).any (·.1) = false := by rfl) :
    DE X W (.Call (.Name "sorted" p) [e] [] pos) (dCB rdSortDC (dCons te dNil)) :=
  de_callB (cr_sortD hu) lift_sortDC B.sorted (by first | exact PyProof.Rows.boot_sorted | decide +kernel | kernel_rfl) (da_cons he da_nil hs) hg (by decide) (by decide) hs hpl
/-- dict(pairs) with tuple keys, not written any more -/
def rdDictPTC : DRL := fun xs S Q => match xs with
  | [d] => ∃ kds, lstD S d = some (kds.map pairD) ∧ Q (.dT ((mergeDT [] kds).map (·.1)) ((mergeDT [] kds).map (·.2))) S
  | _ => False
theorem lift_dictPTC {K : PySem.W.Frag} : LiftL K (rDictPT K) rdDictPTC := fun Z H S F xs v Q P R iv q k => by
  match xs, q with
  | [d], ⟨kds, h, q⟩ => exact lift_dictPT Z H S F _ v Q P R iv ⟨d, kds, rfl, h, q⟩ k
theorem de_dictPT (hc : X.calm = true) (hu : X.A.units + 64 < cLine) (B : Bis X.mg) (he : DE X W e te) (hg : Gl X "dict" := by rfl) (hs : starEach [e] X.env = (false, eval e X.env) :: starEach [] X.env := by rfl) (hpl : (backTo pos (starEach [] X.env)).any (·.1) = false := by rfl) :
    DE X W (.Call (.Name "dict" p) [e] [] pos) (dCB rdDictPTC (dCons te dNil)) :=
  de_callTy (cr_dictPT hc hu) lift_dictPTC B.dict (by first | exact PyProof.Rows.boot_dict | decide +kernel | kernel_rfl) (da_cons he da_nil hs) hg (by decide) (by decide) hs hpl
/-- dict(pairs) with keys that are texts or ints -/
def pairKD (kd : Key × D) : D := .tup [keyD kd.1, kd.2]
theorem pairsK_in {K : PySem.W.Frag} {F H : Hp} (sub : ∀ b u, F b = some u → H b = some u) : ∀ {kds : List (Key × D)} {vs : List V}, IsVs K F (kds.map pairKD) vs → ∃ (ps : List Addr) (kvs : List (Key × V)), vs = ps.map V.ref ∧ Paired (fun p kv => SqT K H p [kV kv.1, kv.2]) ps kvs ∧ PR K F kds kvs
  | [], _, h => by cases h; exact ⟨[], [], rfl, .nil, .nil⟩
  | (k, d) :: r, _, h => by
    cases h with
    | cons h1 h2 =>
      obtain ⟨ps, kvs, rfl, a, b⟩ := pairsK_in sub h2
      cases h1 with
      | tup g1 g2 =>
        obtain ⟨v, w, rfl, i1, i2⟩ := isVs_two g2
        rw [keyD_inv i1] at g1
        exact ⟨_ :: ps, (k, w) :: kvs, rfl, .cons (SqT.of (sub _ _ g1)) a, .cons i2 b⟩
def rDictPK (K : PySem.W.Frag) : List V → Hp → VK → Prop := fun xs H Q => ∃ (a : Addr) (ps : List Addr) (kvs : List (Key × V)), xs = [.ref a] ∧ SqL K H a (ps.map V.ref) ∧ Paired (fun p kv => SqT K H p [kV kv.1, kv.2]) ps kvs ∧ ∀ p, H p = none → Q (.ref p) (upd H p (.dK (mergeK [] kvs)))
def rdDictPKC : DRL := fun xs S Q => match xs with
  | [d] => ∃ kds, lstD S d = some (kds.map pairKD) ∧ Q (.dK ((mergeD [] kds).map (·.1)) ((mergeD [] kds).map (·.2))) S
  | _ => False
theorem lift_dictPKC {K : PySem.W.Frag} : LiftL K (rDictPK K) rdDictPKC := fun Z H S F xs v Q P R iv q k => by
  match xs, q with
  | [d], ⟨kds, hd, q⟩ =>
    obtain ⟨v, rfl, iw⟩ := isVs_one iv
    obtain ⟨p, vs, rfl, hs, iv2⟩ := lst_of R iw hd
    obtain ⟨ps, kvs, rfl, pl, pr⟩ := pairsK_in (fun b u z => (R.sub b u z).1) iv2
    refine ⟨p, ps, kvs, rfl, hs, pl, fun a ha => ?_⟩
    obtain ⟨R2, s2, k2⟩ := R.laid (o := .dK (mergeK [] kvs)) ha
    have pm := pr.merge .nil
    exact k _ _ ⟨_, S, _, ⟨s2, R2, k2⟩, .dK upd_same pm.fst.symm (pm.snd.up s2), q⟩
theorem de_dictPK (hc : X.calm = true) (B : Bis X.mg) (he : DE X W e te) (hg : Gl X "dict" := by rfl) (hs : starEach [e] X.env = (false, eval e X.env) :: starEach [] X.env := by rfl) (hpl : (backTo pos (starEach [] X.env)).any (·.1) = false := by rfl) :
    DE X W (.Call (.Name "dict" p) [e] [] pos) (dCB rdDictPKC (dCons te dNil)) :=
  de_callTy (call_dictP hc) lift_dictPKC B.dict (by first | exact PyProof.Rows.boot_dict | decide +kernel | kernel_rfl) (da_cons he da_nil hs) hg (by decide) (by decide) hs hpl
/-- sorted(xs) of texts -/
def rdSortSC : DRL := fun xs S Q => match xs with
  | [d] => ∃ ns : List Str, lstD S d = some (ns.map .str) ∧ ns.length < 64 ∧ Q (.lst ((DLS.sortS ns).map .str)) S
  | _ => False
theorem lift_sortSC {K : PySem.W.Frag} : LiftL K (rSortedS K) rdSortSC := fun Z H S F xs v Q P R iv q k => by
  match xs, q with
  | [d], ⟨ns, h, z, q⟩ =>
    refine lift_sortedS Z H S F _ v Q P R iv ⟨d, ns, rfl, h, z, fun ns' p1 p2 => ?_⟩ k
    rw [DLS.sortS_eq p1 (DLS.sortedS_pw p2)]
    exact q
theorem de_sortS (B : Bis X.mg) (he : DE X W e te) (hg : Gl X "sorted" := by rfl) (hs : starEach [e] X.env = (false, eval e X.env) :: starEach [] X.env := by rfl) (hpl : (backTo pos (starEach [] X.env)).any (·.1) = false := by rfl) :
    DE X W (.Call (.Name "sorted" p) [e] [] pos) (dCB rdSortSC (dCons te dNil)) :=
  de_callB cr_sortedS lift_sortSC B.sorted (by first | exact PyProof.Rows.boot_sorted | decide +kernel | kernel_rfl) (da_cons he da_nil hs) hg (by decide) (by decide) hs hpl
/-- isinstance(e, C) -/
theorem de_isiO {x : Str} {C : Addr} (B : Bis X.mg) (hm : X.mg x = some (.ref C)) (he : DE X W e te) (hg : Gl X "isinstance" := by rfl) (hgx : Gl X x := by rfl) (hd : (x == ("__debug__" : Str)) = false := by decide)
    (hs : starEach [e, .Name x p2] X.env = (false, eval e X.env) :: starEach [.Name x p2] X.env := by rfl) (hs2 : starEach [.Name x p2] X.env = (false, eval (.Name x p2) X.env) :: starEach [] X.env := by rfl) (hpl : (backTo pos (starEach [.Name x p2] X.env)).any (·.1) = false := by rfl) :
    DE X W (.Call (.Name "isinstance" p) [e, .Name x p2] [] pos) (dCB (rdIsiO X.K) (dCons te (dCons (dC (.ref C)) dNil))) :=
  de_callB call_isi lift_isiO B.isi PyProof.Rows.boot_isinstance (da_cons he (da_cons (de_glob (v := .ref C) hm rfl (fun _ => .ref C) hgx hd) da_nil hs2) hs) hg (by decide) (by decide) hs hpl
end
end DL

set_option maxRecDepth 100000
set_option maxHeartbeats 2000000
/-! DLD: dicts asked and written, with readings that compute. -/
namespace DL
open PySem PySem.Spec L2
def toKey : D → Option Key
  | .int i => some (.inl i)
  | .str z => some (.inr z)
  | _ => none
def toKeys : List D → Option (List Key)
  | [] => some []
  | d :: ds => match toKey d, toKeys ds with
    | some k, some ks => some (k :: ks)
    | _, _ => none
theorem toKey_of {d : D} {k : Key} (h : toKey d = some k) : d = keyD k := by
  cases d <;> first | (cases h; rfl) | cases h
theorem toKeys_of : ∀ {ds : List D} {ks : List Key}, toKeys ds = some ks → ds = ks.map keyD
  | [], ks, h => by cases h; rfl
  | d :: ds, ks, h => by
    unfold toKeys at h
    split at h
    · rename_i k r h1 h2
      cases h
      rw [toKey_of h1, toKeys_of h2]
      rfl
    · cases h
theorem toKeys_strs : ∀ ss : List Str, toKeys (ss.map D.str) = some (ss.map Sum.inr)
  | [] => rfl
  | x :: ss => by
    show (match toKey (D.str x), toKeys (ss.map D.str) with
      | some k, some ks => some (k :: ks)
      | _, _ => none) = _
    rw [toKeys_strs ss]
    rfl
/-- what x holds at y -/
def dget (S : Store) (x y : D) : Option D := match y with
  | .int i => (dkD S x).bind fun kds => valD kds (.inl i)
  | .str z => (dkD S x).bind fun kds => valD kds (.inr z)
  | .tup ds => (toKeys ds).bind fun k => (dtD S x).bind fun kds => valD kds k
  | _ => none
theorem dget_of {S : Store} {x y d : D} (h : dget S x y = some d) : DGetD S x y (some d) := by
  unfold dget at h
  split at h
  · obtain ⟨kds, h1, h2⟩ := Option.bind_eq_some_iff.mp h
    exact .inl ⟨kds, _, h1, rfl, h2.symm⟩
  · obtain ⟨kds, h1, h2⟩ := Option.bind_eq_some_iff.mp h
    exact .inl ⟨kds, _, h1, rfl, h2.symm⟩
  · obtain ⟨k, h0, h⟩ := Option.bind_eq_some_iff.mp h
    obtain ⟨kds, h1, h2⟩ := Option.bind_eq_some_iff.mp h
    exact .inr ⟨kds, _, h1, by rw [toKeys_of h0], h2.symm⟩
  · cases h
def rdDG : DR2 := fun x y S Q => ∃ d, dget S x y = some d ∧ Q d S
/-- x[y] = d -/
def dput (S : Store) (x y d : D) : Option Store := match x with
  | .ref a => match S a with
    | some (.dK ks ds) => (toKey y).bind fun k => if ks.length < sizeLine then some (put S a (.dK ((putD (ks.zip ds) k d).map (·.1)) ((putD (ks.zip ds) k d).map (·.2)))) else none
    | some (.dT ks ds) => match y with
      | .tup ys => (toKeys ys).bind fun k => if ks.length < sizeLine then some (put S a (.dT ((putD (ks.zip ds) k d).map (·.1)) ((putD (ks.zip ds) k d).map (·.2)))) else none
      | _ => none
    | _ => none
  | _ => none
theorem dput_of {S S' : Store} {x y d : D} (h : dput S x y d = some S') : ∃ a, x = .ref a ∧ ((∃ ks ds k, S a = some (.dK ks ds) ∧ y = keyD k ∧ ks.length < sizeLine ∧ S' = put S a (.dK ((putD (ks.zip ds) k d).map (·.1)) ((putD (ks.zip ds) k d).map (·.2)))) ∨
   ∃ ks ds k, S a = some (.dT ks ds) ∧ y = .tup (k.map keyD) ∧ ks.length < sizeLine ∧ S' = put S a (.dT ((putD (ks.zip ds) k d).map (·.1)) ((putD (ks.zip ds) k d).map (·.2)))) := by
  unfold dput at h
  split at h
  · rename_i a
    refine ⟨a, rfl, ?_⟩
    split at h
    · rename_i ks ds hs
      obtain ⟨k, h1, h⟩ := Option.bind_eq_some_iff.mp h
      split at h
      · rename_i hz
        cases h
        exact .inl ⟨ks, ds, k, hs, toKey_of h1, hz, rfl⟩
      · cases h
    · rename_i ks ds hs
      split at h
      · obtain ⟨k, h1, h⟩ := Option.bind_eq_some_iff.mp h
        split at h
        · rename_i hz
          cases h
          exact .inr ⟨ks, ds, k, hs, by rw [toKeys_of h1], hz, rfl⟩
        · cases h
      · cases h
    · cases h
  · cases h
section
variable {X : Cx} {W : WX} {o i e value : Expr} {td ty tv : DTE} {pos pos' : Pos}
theorem de_dg (hu : X.A.units + 1 < cLine) (ho : DE X W o td) (hi : DE X W i ty) (hs : NoSl i := by exact fun _ _ => rfl) : DE X W (.Subscript o i pos) (dOp rdDG td ty) :=
  de_pe (pe_dget hu ho.pe hi.pe hs) fun σ H P ⟨ρ, S, F, Z, Q, E, R, V, q, k, x⟩ =>
  ⟨ρ, S, F, Z, _, E, R, V, q, fun v H1 ⟨d, S1, F1, A1, i1, q1⟩ => ⟨ρ, S1, F1, Z, _, E, A1.rel, V.up A1.sm, q1, fun w H2 ⟨e, S2, F2, A2, i2, r, g, q2⟩ => by
    obtain ⟨a, o, rfl, h, z⟩ := dget_is A2.rel (i1.up A2.sm) i2 (dget_of g)
    rcases z with ⟨z, _⟩ | ⟨d2, w2, z, rfl, iv⟩
    · cases z
    · cases z
      exact ⟨a, w2, rfl, h, k _ _ ⟨r, S2, F2, A1.trans A2, iv, q2⟩⟩, xe_tr x A1⟩, x⟩
/-- o[i] = value -/
def dDP (td ty tv : DTE) : DTS := fun N ρ S => tv ρ S (fun d S1 => td ρ S1 (fun x S2 => ty ρ S2 (fun y S3 => ∃ S4, dput S3 x y d = some S4 ∧ N.nx ρ S4) (N.ex ρ)) (N.ex ρ)) (N.ex ρ)
theorem ds_dp (hu : X.A.units + 1 < cLine) (ho : DE X W o td) (hi : DE X W i ty) (hv : DE X W value tv) (hs : swapsWith value (some (.Subscript o i pos')) pos.line X.env = pure false := by rfl) :
    DS X W (.Assign [.Subscript o i pos'] value pos) (dDP td ty tv) :=
  ds_ps (ps_dput hu ho.pe hi.pe hv.pe hs) fun N σ H ⟨ρ, S, F, Z, Q, R, V, q, l⟩ => by
    have x := l.xe V
    refine ⟨ρ, S, F, Z, _, _, R, V, q, fun v H1 ⟨d, S1, F1, A1, i1, q1⟩ => ⟨ρ, S1, F1, Z, _, _, A1.rel, V.up A1.sm, q1, fun w H2 ⟨xd, S2, F2, A2, i2, q2⟩ => ⟨ρ, S2, F2, Z, _, _, A2.rel, (V.up A1.sm).up A2.sm, q2, fun u H3 ⟨yd, S3, F3, A3, i3, S4, hdp, q3⟩ => ?_, xe_tr x (A1.trans A2)⟩, xe_tr x A1⟩, x⟩
    have hd := dput_of hdp
    clear hdp
    obtain ⟨a, hx, hd⟩ := hd
    subst hx
    cases i2
    have A := A1.trans (A2.trans A3)
    have iv := (i1.up A2.sm).up A3.sm
    have V3 := V.up A.sm
    rcases hd with ⟨ks, ds, k, hs, rfl, z, rfl⟩ | ⟨ks, ds, k, hs, rfl, z, rfl⟩
    · obtain ⟨_, o, ho, kvs, rfl, h2, h3⟩ := A3.rel.sto a _ hs
      have p := (pr_of h2 h3).put k iv
      obtain ⟨R4, k4⟩ := A3.rel.wrote (o := .dK (putK kvs k v)) (m := .dK ((putD (ks.zip ds) k d).map (·.1)) ((putD (ks.zip ds) k d).map (·.2))) hs ⟨_, rfl, p.fst.symm, p.snd⟩
      rw [keyD_inv i3]
      exact ⟨a, _, rfl, .k ho (by rw [← List.length_map (f := (·.1)) (as := kvs), h2]; exact z), l.nx _ _ ⟨ρ, _, F3, A.trans ⟨Same.refl _, R4, k4⟩, V3, q3⟩⟩
    · obtain ⟨_, o, ho, kvs, rfl, h2, h3⟩ := A3.rel.sto a _ hs
      have p := (pr_of h2 h3).put k iv
      obtain ⟨R4, k4⟩ := A3.rel.wrote (o := .dT (putK kvs k v)) (m := .dT ((putD (ks.zip ds) k d).map (·.1)) ((putD (ks.zip ds) k d).map (·.2))) hs ⟨_, rfl, p.fst.symm, p.snd⟩
      obtain ⟨b, rfl, hb⟩ := tkey_is A3.rel i3
      exact ⟨a, _, rfl, .t ho hb (by rw [← List.length_map (f := (·.1)) (as := kvs), h2]; exact z), l.nx _ _ ⟨ρ, _, F3, A.trans ⟨Same.refl _, R4, k4⟩, V3, q3⟩⟩
end
/-! ### the deck of a law: a dict with the keys items, total, draws -/
abbrev deckKs : List Key := [.inr "items", .inr "total", .inr "draws"]
section
variable {x y z d : D}
theorem deck_items : valD [((Sum.inr "items" : Key), x), (Sum.inr "total", y), (Sum.inr "draws", z)] (Sum.inr "items") = some x := by with_unfolding_all rfl
theorem deck_total : valD [((Sum.inr "items" : Key), x), (Sum.inr "total", y), (Sum.inr "draws", z)] (Sum.inr "total") = some y := by with_unfolding_all rfl
theorem deck_draws : valD [((Sum.inr "items" : Key), x), (Sum.inr "total", y), (Sum.inr "draws", z)] (Sum.inr "draws") = some z := by with_unfolding_all rfl
theorem deck_put : putD [((Sum.inr "items" : Key), x), (Sum.inr "total", y), (Sum.inr "draws", z)] (Sum.inr "draws") d = [((Sum.inr "items" : Key), x), (Sum.inr "total", y), (Sum.inr "draws", d)] := by with_unfolding_all rfl
theorem deck_merge : mergeD [] [((Sum.inr "items" : Key), x), (Sum.inr "total", y), (Sum.inr "draws", z)] = [((Sum.inr "items" : Key), x), (Sum.inr "total", y), (Sum.inr "draws", z)] := by with_unfolding_all rfl
/-- asked and written by the store -/
theorem dget_items {S : Store} {a : Addr} (h : S a = some (.dK deckKs [x, y, z])) : dget S (.ref a) (.str "items") = some x := by
  show (dkM (S a)).bind _ = _
  rw [h]
  exact deck_items
theorem dget_total {S : Store} {a : Addr} (h : S a = some (.dK deckKs [x, y, z])) : dget S (.ref a) (.str "total") = some y := by
  show (dkM (S a)).bind _ = _
  rw [h]
  exact deck_total
theorem dget_draws {S : Store} {a : Addr} (h : S a = some (.dK deckKs [x, y, z])) : dget S (.ref a) (.str "draws") = some z := by
  show (dkM (S a)).bind _ = _
  rw [h]
  exact deck_draws
theorem dput_draws {S : Store} {a : Addr} (h : S a = some (.dK deckKs [x, y, z])) : dput S (.ref a) (.str "draws") d = some (put S a (.dK deckKs [x, y, d])) := by
  unfold dput
  simp only [h, toKey, Option.bind_some]
  have e : deckKs.length < sizeLine := by rw [sizeLine_eq]; decide
  rw [if_pos e]
  have e2 : deckKs.zip [x, y, z] = [((Sum.inr "items" : Key), x), (Sum.inr "total", y), (Sum.inr "draws", z)] := rfl
  rw [e2, deck_put]
  rfl
end
end DL

set_option maxRecDepth 100000
set_option maxHeartbeats 2000000
/-! DLW: what a law's deck of draws is, and what its defs promise. -/
namespace DL
open PySem PySem.Spec L2
/-- the deck at a, its list at L: k draws may still come -/
structure Deck (S : Store) (a L : Addr) (k : Nat) : Prop where
  ex : ∃ (ns : List Int) (t d : Int), S a = some (.dK deckKs [.ref L, .int t, .int d]) ∧ S L = some (.lst (ns.map .int)) ∧ ns.length ≤ 63 ∧ 0 ≤ t ∧ t < 2147483648 ∧ 0 ≤ d ∧ d + k ≤ 2 ^ 40
  ne : L ≠ a
/-- the rest of the store stays -/
def Off2 (S S' : Store) (a L : Addr) : Prop := ∀ b, b ≠ a → b ≠ L → S' b = S b
theorem Off2.refl {S : Store} {a L : Addr} : Off2 S S a L := fun _ _ _ => rfl
theorem Off2.trans {S S1 S2 : Store} {a L : Addr} (h : Off2 S S1 a L) (g : Off2 S1 S2 a L) : Off2 S S2 a L := fun b h1 h2 => (g b h1 h2).trans (h b h1 h2)
theorem Deck.mono {S : Store} {a L : Addr} {j k : Nat} (D : Deck S a L k) (h : j ≤ k) : Deck S a L j := by
  obtain ⟨⟨ns, t, d, h1, h2, h3, h4, h5, h6, h7⟩, n⟩ := D
  exact ⟨⟨ns, t, d, h1, h2, h3, h4, h5, h6, by omega⟩, n⟩
/-- a place of the store that is no part of the deck -/
theorem Deck.put_off {S : Store} {a L b : Addr} {k : Nat} {m : M} (D : Deck S a L k) (h1 : b ≠ a) (h2 : b ≠ L) : Deck (put S b m) a L k := by
  obtain ⟨⟨ns, t, d, g1, g2, h⟩, n⟩ := D
  exact ⟨⟨ns, t, d, by rw [put_ne (Ne.symm h1)]; exact g1, by rw [put_ne (Ne.symm h2)]; exact g2, h⟩, n⟩
theorem Deck.a_some {S : Store} {a L : Addr} {k : Nat} (D : Deck S a L k) {b : Addr} (h : S b = none) : b ≠ a ∧ b ≠ L := by
  obtain ⟨⟨ns, t, d, g1, g2, _⟩, _⟩ := D
  exact ⟨fun e => (by rw [e, g1] at h; cases h), fun e => (by rw [e, g2] at h; cases h)⟩
/-- a draw -/
def dspDraw : DSp := fun ds S Q _ => ∃ a L k m, ds = [.ref a, .int m] ∧ Deck S a L (k + 1) ∧ 0 < m ∧ m < 1073741824 ∧ ∀ (i : Int) S', 0 ≤ i → i < m → Deck S' a L k → Off2 S S' a L → Q (.int i) S'
/-- one of what is laid out -/
def dspPick : DSp := fun ds S Q _ => ∃ a L k x es, ds = [.ref a, x] ∧ (x = .tup es ∨ x = .lst es) ∧ Deck S a L (k + 1) ∧ 0 < es.length ∧ es.length < 1000000 ∧ ∀ (e : D) S', e ∈ es → Deck S' a L k → Off2 S S' a L → Q e S'
theorem atI_in {α : Type} {l : List α} {i : Int} (h0 : 0 ≤ i) (h1 : i < l.length) : ∃ x, atI l i = some x ∧ x ∈ l := by
  have hl : i.toNat < l.length := by omega
  refine ⟨l[i.toNat], ?_, List.getElem_mem hl⟩
  have e : ((i.toNat : Nat) : Int) = i := by omega
  have h2 : l[i.toNat]? = some l[i.toNat] := List.getElem?_eq_getElem hl
  have h3 := L2.atI_nat h2
  rw [e] at h3
  exact h3
/-- the deck made -/
def dspDeck : DSp := fun ds S Q _ => ∃ ns : List Int, ds = [.scr (ns.map .int)] ∧ ns.length ≤ 63 ∧ (∀ b, S b = none) ∧ ∀ a L S', Deck S' a L 1000000000 → Off2 S S' a L → Q (.ref a) S'
/-! lists of ints in the store -/
theorem ints_last {ns : List Int} {n : Int} (h : ns ≠ []) : ∃ z, (ns.map D.int)[(ns.map D.int).length - 1]? = some (.int z) ∧ (ns.map D.int).dropLast = ns.dropLast.map .int := by
  refine ⟨ns.getLast h, ?_, ?_⟩
  · rw [List.length_map, List.getElem?_map, ← List.getLast?_eq_getElem?, List.getLast?_eq_some_getLast h]
    rfl
  · rw [← List.map_dropLast]
theorem map_isEmpty {α β : Type} {f : α → β} {l : List α} : (l.map f).isEmpty = l.isEmpty := by cases l <;> rfl
/-- a turn that stays within a range -/
theorem emod_in {x m : Int} (h : 0 < m) : 0 ≤ x % m ∧ x % m < m := ⟨Int.emod_nonneg x (by omega), Int.emod_lt_of_pos x h⟩
theorem erase_map {α β : Type} (f : α → β) : ∀ (l : List α) (i : Nat), (l.map f).eraseIdx i = (l.eraseIdx i).map f
  | [], _ => rfl
  | _ :: _, 0 => rfl
  | x :: l, i + 1 => by
    show f x :: (l.map f).eraseIdx i = f x :: (l.eraseIdx i).map f
    rw [erase_map f l i]
theorem erase_perm {α : Type} : ∀ (l : List α) (i : Nat) (h : i < l.length), (l[i] :: l.eraseIdx i).Perm l
  | [], _, h => absurd h (Nat.not_lt_zero _)
  | x :: l, 0, _ => List.Perm.refl _
  | x :: l, i + 1, h => by
    have ih := erase_perm l i (Nat.lt_of_succ_lt_succ h)
    show (l[i]'(Nat.lt_of_succ_lt_succ h) :: x :: l.eraseIdx i).Perm (x :: l)
    exact (List.Perm.swap _ _ _).trans (ih.cons x)
end DL

set_option maxRecDepth 100000
set_option maxHeartbeats 2000000
/-! DLY: the readings a step at a time: each lemma takes the goal's head off. -/
namespace DL
open PySem PySem.Spec L2
section
variable {N : DEnds} {ρ : Sl} {S : Store} {Q : DQ} {E : DX} {t u : DTS} {te tf tg : DTE} {ta tb : DTA} {c c' : DTT} {QA : List D → Store → Prop} {QT : Bool → Store → Prop} {i j : Nat} {d x y : D}
theorem s_seq (h : t { N with nx := u N } ρ S) : dSeq t u N ρ S := h
theorem s_ifs (h : c ρ S (fun b S1 => if b = true then t N ρ S1 else u N ρ S1) (N.ex ρ)) : dIfS c t u N ρ S := h
theorem s_ret (h : te ρ S N.rt (N.ex ρ)) : dRet te N ρ S := h
theorem s_next (h : N.nx ρ S) : dNext N ρ S := h
theorem s_drop (h : te ρ S (fun _ S1 => N.nx ρ S1) (N.ex ρ)) : dDrop te N ρ S := h
theorem s_asg {g : Tgt} (h : te ρ S (fun d S1 => ∃ ρ1, bindT g d ρ = some ρ1 ∧ N.nx ρ1 S1) (N.ex ρ)) : dAsg te g N ρ S := h
theorem s_bindN {P : Sl → Prop} (h : P (ρ.set i (some d))) : ∃ ρ1, bindT (.name i) d ρ = some ρ1 ∧ P ρ1 := ⟨_, rfl, h⟩
theorem s_par (h : ta ρ S (fun ds S1 => ∃ d1 d2, ds = [d1, d2] ∧ N.nx ((ρ.set i (some d1)).set j (some d2)) S1) (N.ex ρ)) : dPar i j ta N ρ S := h
theorem s_two {P : D → D → Prop} (h : P x y) : ∃ d1 d2, [x, y] = [d1, d2] ∧ P d1 d2 := ⟨x, y, rfl, h⟩
theorem s_var (e : ρ[i]? = some (some d)) (q : Q d S) : dVar i ρ S Q E := ⟨d, e, q⟩
theorem s_c (q : Q d S) : dC d ρ S Q E := q
theorem s_nil (q : QA [] S) : dNil ρ S QA E := q
theorem s_cons (h : te ρ S (fun d S1 => tb ρ S1 (fun ds S2 => QA (d :: ds) S2) E) E) : dCons te tb ρ S QA E := h
theorem s_tup (h : ta ρ S (fun ds S1 => ds.length ≤ sizeLine ∧ Q (.tup ds) S1) E) : dTup ta ρ S Q E := h
theorem s_lst (h : ta ρ S (fun ds S1 => ds.length ≤ sizeLine ∧ Q (.lst ds) S1) E) : dLst ta ρ S Q E := h
theorem s_lstM (h : ta ρ S (fun ds S1 => ds.length ≤ sizeLine ∧ ∀ a, S1 a = none → Q (.ref a) (put S1 a (.lst ds))) E) : dLstM ta ρ S Q E := h
theorem s_op {rd : DR2} (h : te ρ S (fun x S1 => tf ρ S1 (fun y S2 => rd x y S2 Q) E) E) : dOp rd te tf ρ S Q E := h
theorem s_un {rd : DR1} (h : te ρ S (fun x S1 => rd x S1 Q) E) : dUn rd te ρ S Q E := h
theorem s_cb {rd : DRL} (h : ta ρ S (fun xs S1 => rd xs S1 Q) E) : dCB rd ta ρ S Q E := h
theorem s_call {dsp : DSp} {dds : List D} (h : ta ρ S (fun xs S1 => dsp (xs ++ dds) S1 Q E) E) : dCall dsp dds ta ρ S Q E := h
theorem s_test (h : te ρ S (fun x S1 => ∃ k, x = .bl k ∧ QT k S1) E) : dTest te ρ S QT E := h
theorem s_bl {P : Bool → Prop} {b : Bool} (h : P b) : ∃ k, D.bl b = .bl k ∧ P k := ⟨b, rfl, h⟩
theorem s_not (h : c ρ S (fun b S1 => QT (!b) S1) E) : dNot c ρ S QT E := h
theorem s_and (h : c ρ S (fun b S1 => if b = true then c' ρ S1 QT E else QT false S1) E) : dAnd c c' ρ S QT E := h
theorem s_or (h : c ρ S (fun b S1 => if b = true then QT true S1 else c' ρ S1 QT E) E) : dOr c c' ρ S QT E := h
theorem s_andV (h : te ρ S (fun x S1 => ∃ b, x = .bl b ∧ if b = true then tf ρ S1 Q E else Q (.bl false) S1) E) : dAndV te tf ρ S Q E := h
theorem s_orV (h : te ρ S (fun x S1 => ∃ b, x = .bl b ∧ if b = true then Q (.bl true) S1 else tf ρ S1 Q E) E) : dOrV te tf ρ S Q E := h
theorem s_notV (h : te ρ S (fun x S1 => ∃ b, x = .bl b ∧ Q (.bl (!b)) S1) E) : dNotV te ρ S Q E := h
theorem s_if (h : c ρ S (fun b S1 => if b = true then te ρ S1 Q E else tf ρ S1 Q E) E) : dIf c te tf ρ S Q E := h
theorem s_chain {rd rd' : DR2} (h : te ρ S (fun x S1 => tf ρ S1 (fun y S2 => rd x y S2 fun z S3 => ∃ k, z = .bl k ∧ if k = true then tg ρ S3 (fun w S4 => rd' y w S4 Q) E else Q (.bl false) S3) E) E) : dChain rd rd' te tf tg ρ S Q E := h
theorem s_int {f : Int → Int → D} {a b : Int} (h : Q (f a b) S) : rdInt f (.int a) (.int b) S Q := ⟨a, b, rfl, rfl, h⟩
theorem s_intC {C : Int → Int → Prop} {f : Int → Int → D} {a b : Int} (g : C a b) (h : Q (f a b) S) : rdIntC C f (.int a) (.int b) S Q := ⟨a, b, rfl, rfl, g, h⟩
theorem s_mulL {f : Int → Int → D} {a b : Int} (g : -18446744073709551616 < a ∧ a < 18446744073709551616) (h : Q (f a b) S) : rdIntC CMul f (.int a) (.int b) S Q := ⟨a, b, rfl, rfl, .inl g, h⟩
theorem s_mulR {f : Int → Int → D} {a b : Int} (g : -18446744073709551616 < b ∧ b < 18446744073709551616) (h : Q (f a b) S) : rdIntC CMul f (.int a) (.int b) S Q := ⟨a, b, rfl, rfl, .inr g, h⟩
theorem s_mod {f : Int → Int → D} {a b : Int} (g : 0 < b) (h : Q (f a b) S) : rdIntC (fun _ j => 0 < j) f (.int a) (.int b) S Q := ⟨a, b, rfl, rfl, g, h⟩
theorem s_div {f : Int → Int → D} {a b : Int} (g : 0 < b ∧ b < 1073741824) (h : Q (f a b) S) : rdIntC CDiv f (.int a) (.int b) S Q := ⟨a, b, rfl, rfl, g, h⟩
theorem s_pow {f : Int → Int → D} {a b : Int} (g : 0 ≤ b ∧ b ≤ 1000000 ∧ a.natAbs < 2 ^ 64) (h : Q (f a b) S) : rdIntC CPow f (.int a) (.int b) S Q := ⟨a, b, rfl, rfl, g, h⟩
theorem s_size {ds : List D} {P : Prop} (z : ds.length ≤ sizeLine) (h : P) : ds.length ≤ sizeLine ∧ P := ⟨z, h⟩
theorem nilR {a : Addr} {ds : List D} (h : S a = some (.lst ds)) : nilD S (.ref a) (.lst []) = some ds := by
  show lstM (S a) = _
  rw [h]
  rfl
theorem s_pop {a : Addr} {ds : List D} (e : ds[ds.length - 1]? = some d) (h : Q d (put S a (.lst ds.dropLast))) : rdPop a ds [] S Q := ⟨d, rfl, e, h⟩
theorem s_append {a : Addr} {ds : List D} (z : ds.length < sizeLine) (h : Q .non (put S a (.lst (ds ++ [d])))) : rdAppend a ds [d] S Q := ⟨d, rfl, z, h⟩
theorem s_popAt {a : Addr} {ds : List D} {i : Int} (h0 : 0 ≤ i) (h1 : i < ds.length) (hz : ds.length < 4611686018427387904) (h : ∀ d, ds[i.toNat]? = some d → Q d (put S a (.lst (ds.eraseIdx i.toNat)))) : rdPopAt a ds [.int i] S Q := by
  have hl : i.toNat < ds.length := by omega
  refine ⟨i, i.toNat, ds[i.toNat], rfl, by omega, by omega, ?_, List.getElem?_eq_getElem hl, h _ (List.getElem?_eq_getElem hl)⟩
  unfold seqIndex?
  have e : ¬ i < 0 := by omega
  simp [e, h0, h1]
theorem lenR {a : Addr} {ds : List D} (h : S a = some (.lst ds)) : lenD S (.ref a) = some ds.length := by
  show lenM (S a) = _
  rw [h]
  rfl
theorem s_addI {a b : Int} (h : Q (.int (a + b)) S) : rdAdd (.int a) (.int b) S Q := h
theorem s_addS {a b : Str} (z : a.length + b.length ≤ sizeLine) (h : Q (.str (a ++ b)) S) : rdAdd (.str a) (.str b) S Q := ⟨z, h⟩
theorem s_addT {a b : List D} (z : a.length + b.length ≤ sizeLine) (h : Q (.tup (a ++ b)) S) : rdAdd (.tup a) (.tup b) S Q := ⟨z, h⟩
theorem s_addL {a b : List D} (z : a.length + b.length ≤ sizeLine) (h : Q (.lst (a ++ b)) S) : rdAdd (.lst a) (.lst b) S Q := ⟨z, h⟩
theorem s_int1 {a : Int} (h : Q (.int a) S) : rdInt1C [.int a] S Q := h
theorem s_rd1 {α : Type} {f : Store → D → Option α} {g : α → D} {a : α} (e : f S x = some a) (h : Q (g a) S) : rd1 f g [x] S Q := ⟨a, e, h⟩
theorem s_isi {n t : String} (e : tyD S x = some t) (m : n ∈ tyIn) (h : Q (.bl (isB t n)) S) : rdIsi2 [x, .ty n] S Q := ⟨t, e, m, h⟩
theorem s_dg (e : dget S x y = some d) (h : Q d S) : rdDG x y S Q := ⟨d, e, h⟩
theorem s_dp {td ty tv : DTE} (h : tv ρ S (fun d S1 => td ρ S1 (fun x S2 => ty ρ S2 (fun y S3 => ∃ S4, dput S3 x y d = some S4 ∧ N.nx ρ S4) (N.ex ρ)) (N.ex ρ)) (N.ex ρ)) : dDP td ty tv N ρ S := h
theorem s_some {α : Type} {o : Option α} {a : α} {P : α → Prop} (e : o = some a) (h : P a) : ∃ b, o = some b ∧ P b := ⟨a, e, h⟩
theorem s_nilC {neg : Bool} {ds : List D} (e : nilD S x y = some ds) (h : Q (.bl (if neg then !ds.isEmpty else ds.isEmpty)) S) : rdNil neg x y S Q := ⟨ds, e, h⟩
theorem s_mt {rd : DRA} {to : DTE} (h : to ρ S (fun x S1 => ∃ a, x = .ref a ∧ (∃ ds, S1 a = some (.lst ds)) ∧ ta ρ S1 (fun xs S2 => ∃ ds, S2 a = some (.lst ds) ∧ rd a ds xs S2 Q) E) E) : dMt rd to ta ρ S Q E := h
theorem s_mtA {a : Addr} {ds : List D} {R : Addr → Prop} (e : S a = some (.lst ds)) (h : R a) : ∃ b, D.ref a = .ref b ∧ (∃ ds, S b = some (.lst ds)) ∧ R b := ⟨a, rfl, ⟨ds, e⟩, h⟩
theorem s_someL {a : Addr} {ds : List D} {R : List D → Prop} (e : S a = some (.lst ds)) (h : R ds) : ∃ es, S a = some (.lst es) ∧ R es := ⟨ds, e, h⟩
theorem s_fld {C : Addr} {f : Str} (h : te ρ S (fun x S1 => ∃ kds d, objD C S1 x = some kds ∧ kds.lookup f = some d ∧ Q d S1) E) : dFld C f te ρ S Q E := h
theorem s_fldE {C : Addr} {f : Str} {kds : List (Str × D)} (e1 : objD C S x = some kds) (e2 : kds.lookup f = some d) (h : Q d S) : ∃ kds d, objD C S x = some kds ∧ kds.lookup f = some d ∧ Q d S := ⟨kds, d, e1, e2, h⟩
theorem s_sl {tl th : DTO} (h : te ρ S (fun x S1 => tl ρ S1 (fun l S2 => th ρ S2 (fun u S3 => rdSl x l u S3 Q) E) E) E) : dSl te tl th ρ S Q E := h
theorem s_noPart {QO : Option Int → Store → Prop} (h : QO none S) : dNoPart ρ S QO E := h
theorem s_part {QO : Option Int → Store → Prop} (h : te ρ S (fun x S1 => ∃ i, x = .int i ∧ QO (some i) S1) E) : dPart te ρ S QO E := h
theorem s_ei {P : Int → Prop} {b : Int} (h : P b) : ∃ k, D.int b = .int k ∧ P k := ⟨b, rfl, h⟩
theorem s_slT {ds : List D} {l h : Option Int} (q : Q (.tup (cutD ds l h)) S) : rdSl (.tup ds) l h S Q := q
theorem s_slL {ds : List D} {l h : Option Int} (q : Q (.lst (cutD ds l h)) S) : rdSl (.lst ds) l h S Q := q
theorem s_slC {ds : List D} {l h : Option Int} (q : Q (.lst (cutD ds l h)) S) : rdSl (.scr ds) l h S Q := q
theorem s_ixT {ds : List D} {k : Int} (e : atI ds k = some d) (q : Q d S) : rdIx (.tup ds) (.int k) S Q := ⟨k, rfl, d, e, q⟩
theorem s_ixL {ds : List D} {k : Int} (e : atI ds k = some d) (q : Q d S) : rdIx (.lst ds) (.int k) S Q := ⟨k, rfl, d, e, q⟩
theorem s_raise {C : Addr} {wd : Str} (h : te ρ S (fun d S1 => N.ex ρ C [wd] [d] S1) (N.ex ρ)) : dRaise C wd te N ρ S := h
theorem s_rev (h : te ρ S (fun x S1 => ∃ d, revD S1 x = some d ∧ Q d S1) E) : dRev te ρ S Q E := h
theorem s_revM (h : te ρ S (fun x S1 => ∃ ds, lstD S1 x = some ds ∧ ∀ a, S1 a = none → Q (.ref a) (put S1 a (.lst ds.reverse))) E) : dRevM te ρ S Q E := h
theorem s_repr {p : PyData} (h : ReprOk x p) (q : Q (.str p.shown) S) : rdReprC [x] S Q := ⟨p, h, q⟩
theorem s_for {ti : DTI} {g : Tgt} {tb : DTS} (h : ti ρ S (fun items S1 => dForGo g tb items N ρ S1) (N.ex ρ)) : dFor ti g tb N ρ S := h
theorem s_itL {QI : List D → Store → Prop} (h : te ρ S (fun d S1 => ∃ ds, (d = .lst ds ∨ d = .scr ds) ∧ QI ds S1) E) : dItL te ρ S QI E := h
theorem s_itLl {QI : List D → Prop} {ds : List D} (h : QI ds) : ∃ es, (D.lst ds = .lst es ∨ D.lst ds = .scr es) ∧ QI es := ⟨ds, .inl rfl, h⟩
theorem s_itT {QI : List D → Store → Prop} (h : te ρ S (fun d S1 => ∃ ds, d = .tup ds ∧ QI ds S1) E) : dItT te ρ S QI E := h
theorem s_itTt {QI : List D → Prop} {ds : List D} (h : QI ds) : ∃ es, D.tup ds = .tup es ∧ QI es := ⟨ds, rfl, h⟩
theorem s_it1 {QI : List D → Store → Prop} (h : ta ρ S (fun ds S1 => ∃ j : Int, ds = [.int j] ∧ -(2 ^ 62) ≤ j ∧ j < 2 ^ 62 ∧ QI (dItR 0 j.toNat) S1) E) : dIt1 ta ρ S QI E := h
theorem s_it1i {P : Int → Prop} {b : Int} (h1 : -(2 ^ 62) ≤ b) (h2 : b < 2 ^ 62) (h : P b) : ∃ j : Int, [D.int b] = [.int j] ∧ -(2 ^ 62) ≤ j ∧ j < 2 ^ 62 ∧ P j := ⟨b, rfl, h1, h2, h⟩
theorem s_lc {ti : DTI} {g : Tgt} {tt : DTT} {vs : List Nat} (h : ti ρ S (fun items S1 => items.length ≤ sizeLine ∧ dLcGo g tt te (wipeD ρ vs) items [] S1 (fun ds S1 => Q (.lst ds) S1)) E) : dLc ti g tt te vs ρ S Q E := h
theorem s_disp {trs : List (DTE × DTE)} {fin : List (Key × D) → Store → DQ → Prop} (h : dPairs trs ρ S (fun ps S1 => ∃ kds : List (Key × D), ps = kds.map (fun kd => (keyD kd.1, kd.2)) ∧ kds.length ≤ 15 ∧ fin (mergeD [] kds) S1 Q) E) : dDisp trs fin ρ S Q E := h
theorem s_pairs0 {QP : List (D × D) → Store → Prop} (h : QP [] S) : dPairs [] ρ S QP E := h
theorem s_pairs1 {QP : List (D × D) → Store → Prop} {tk tv : DTE} {r : List (DTE × DTE)} (h : tk ρ S (fun x S1 => tv ρ S1 (fun y S2 => dPairs r ρ S2 (fun ps S3 => QP ((x, y) :: ps) S3) E) E) E) : dPairs ((tk, tv) :: r) ρ S QP E := h
theorem s_newK (h : Q (.dK [] []) S) : dNewK ρ S Q E := h
theorem s_sortSet {ns : List Str} (h : te ρ S (fun d S1 => ∃ ns : List Str, itemsD S1 d = some (ns.map .str) ∧ ns.length < 64 ∧ Q (.lst ((DLS.uniqS ns).map .str)) S1) E) : dSortSet te ρ S Q E := h
theorem s_sortLen (h : te ρ S (fun d S1 => ∃ ds, lstD S1 d = some ds ∧ (∀ x ∈ ds, ∃ es, x = .tup es) ∧ Q (.lst (ds.mergeSort leLen)) S1) E) : dSortLen te ρ S Q E := h
theorem s_iteT {A B : Prop} (h : A) : if true = true then A else B := by rw [if_pos rfl]; exact h
theorem s_iteF {A B : Prop} (h : B) : if false = true then A else B := by rw [if_neg Bool.false_ne_true]; exact h
theorem s_forCons {g : Tgt} {tb : DTS} {r : List D} (h : ∃ ρ1, bindT g d ρ = some ρ1 ∧ tb { nx := fun ρ2 S2 => dForGo g tb r N ρ2 S2, ct := fun ρ2 S2 => dForGo g tb r N ρ2 S2, bk := N.nx, rt := N.rt, ex := N.ex } ρ1 S) : dForGo g tb (d :: r) N ρ S := h
theorem s_forNil {g : Tgt} {tb : DTS} (h : N.nx ρ S) : dForGo g tb [] N ρ S := h
/-- a loop by what holds between two turns -/
theorem for_inv {g : Tgt} {tb : DTS} (Inv : List D → Sl → Store → Prop) (h0 : ∀ ρ S, Inv [] ρ S → N.nx ρ S) (h1 : ∀ d r, (∀ ρ2 S2, Inv r ρ2 S2 → dForGo g tb r N ρ2 S2) → ∀ ρ S, Inv (d :: r) ρ S → dForGo g tb (d :: r) N ρ S) :
    ∀ items ρ S, Inv items ρ S → dForGo g tb items N ρ S
  | [], ρ, S, h => h0 ρ S h
  | d :: r, ρ, S, h => h1 d r (for_inv Inv h0 h1 r) ρ S h
theorem s_lcCons {g : Tgt} {tt : DTT} {r acc : List D} (h : ∃ ρ1, bindT g d ρ = some ρ1 ∧ tt ρ1 S (fun b S1 => if b = true then te ρ1 S1 (fun y S2 => dLcGo g tt te ρ r (acc ++ [y]) S2 QA) (fun _ _ _ _ => False) else dLcGo g tt te ρ r acc S1 QA) fun _ _ _ _ => False) : dLcGo g tt te ρ (d :: r) acc S QA := h
theorem s_lcNil {g : Tgt} {tt : DTT} {acc : List D} (h : QA acc S) : dLcGo g tt te ρ [] acc S QA := h
theorem s_yes (h : QT true S) : dYes ρ S QT E := h
theorem lc_inv {g : Tgt} {tt : DTT} (Inv : List D → List D → Store → Prop) (h0 : ∀ acc S, Inv [] acc S → QA acc S) (h1 : ∀ d r, (∀ acc S2, Inv r acc S2 → dLcGo g tt te ρ r acc S2 QA) → ∀ acc S, Inv (d :: r) acc S → dLcGo g tt te ρ (d :: r) acc S QA) :
    ∀ items acc S, Inv items acc S → dLcGo g tt te ρ items acc S QA
  | [], acc, S, h => h0 acc S h
  | d :: r, acc, S, h => h1 d r (lc_inv Inv h0 h1 r) acc S h
theorem s_slT0 {ds : List D} (q : Q (.tup []) S) : rdSl (.tup ds) none (some 0) S Q := by
  show Q (.tup (cutD ds none (some 0))) S
  have e : cutD ds none (some 0) = [] := by
    unfold cutD
    have : HT.sIx ds.length ds.length (some 0) = 0 := (HT.sIx_nat ds.length ds.length 0).trans (Nat.zero_min _)
    rw [this]
    simp
  rw [e]
  exact q
theorem s_slL1 {x : D} {ds : List D} (q : Q (.lst ds) S) : rdSl (.lst (x :: ds)) (some 1) none S Q := by
  show Q (.lst (cutD (x :: ds) (some 1) none)) S
  have e : cutD (x :: ds) (some 1) none = ds := by
    unfold cutD
    have : HT.sIx (x :: ds).length 0 (some 1) = 1 := (HT.sIx_nat (x :: ds).length 0 1).trans (by simp)
    rw [this, HT.sIx_none]
    simp
  rw [e]
  exact q
theorem s_forMC {α : Type} {f : α → D} {a : α} {l : List α} {g : Tgt} {tb : DTS} (h : dForGo g tb (f a :: l.map f) N ρ S) : dForGo g tb ((a :: l).map f) N ρ S := h
theorem s_forMN {α : Type} {f : α → D} {g : Tgt} {tb : DTS} (h : N.nx ρ S) : dForGo g tb (([] : List α).map f) N ρ S := h
theorem s_forAC {a : D} {l m : List D} {g : Tgt} {tb : DTS} (h : dForGo g tb (a :: (l ++ m)) N ρ S) : dForGo g tb ((a :: l) ++ m) N ρ S := h
theorem s_forAN {m : List D} {g : Tgt} {tb : DTS} (h : dForGo g tb m N ρ S) : dForGo g tb ([] ++ m) N ρ S := h
theorem s_lcMC {α : Type} {f : α → D} {a : α} {l : List α} {acc : List D} {g : Tgt} {tt : DTT} (h : dLcGo g tt te ρ (f a :: l.map f) acc S QA) : dLcGo g tt te ρ ((a :: l).map f) acc S QA := h
theorem s_lcMN {α : Type} {f : α → D} {acc : List D} {g : Tgt} {tt : DTT} (h : QA acc S) : dLcGo g tt te ρ (([] : List α).map f) acc S QA := h
theorem s_lcAC {a : D} {l m : List D} {acc : List D} {g : Tgt} {tt : DTT} (h : dLcGo g tt te ρ (a :: (l ++ m)) acc S QA) : dLcGo g tt te ρ ((a :: l) ++ m) acc S QA := h
theorem s_lcAN {m : List D} {acc : List D} {g : Tgt} {tt : DTT} (h : dLcGo g tt te ρ m acc S QA) : dLcGo g tt te ρ ([] ++ m) acc S QA := h
/-- lists put together -/
theorem s_slL1A {x : D} {l m : List D} (q : Q (.lst (l ++ m)) S) : rdSl (.lst ((x :: l) ++ m)) (some 1) none S Q := s_slL1 q
theorem s_slL1AA {x : D} {l m n : List D} (q : Q (.lst ((l ++ m) ++ n)) S) : rdSl (.lst (((x :: l) ++ m) ++ n)) (some 1) none S Q := s_slL1 q
theorem s_slL1AAA {x : D} {l m n o : List D} (q : Q (.lst (((l ++ m) ++ n) ++ o)) S) : rdSl (.lst ((((x :: l) ++ m) ++ n) ++ o)) (some 1) none S Q := s_slL1 q
theorem s_lcAAC {a : D} {l m n : List D} {acc : List D} {g : Tgt} {tt : DTT} (h : dLcGo g tt te ρ (a :: ((l ++ m) ++ n)) acc S QA) : dLcGo g tt te ρ (((a :: l) ++ m) ++ n) acc S QA := h
theorem s_lcAAN {m n : List D} {acc : List D} {g : Tgt} {tt : DTT} (h : dLcGo g tt te ρ (m ++ n) acc S QA) : dLcGo g tt te ρ (([] ++ m) ++ n) acc S QA := h
theorem s_lcAAAC {a : D} {l m n o : List D} {acc : List D} {g : Tgt} {tt : DTT} (h : dLcGo g tt te ρ (a :: (((l ++ m) ++ n) ++ o)) acc S QA) : dLcGo g tt te ρ ((((a :: l) ++ m) ++ n) ++ o) acc S QA := h
theorem s_lcAAAN {m n o : List D} {acc : List D} {g : Tgt} {tt : DTT} (h : dLcGo g tt te ρ ((m ++ n) ++ o) acc S QA) : dLcGo g tt te ρ ((([] ++ m) ++ n) ++ o) acc S QA := h
theorem s_iteT1 {b : Bool} {A B : Prop} (e : b = true) (h : A) : if b = true then A else B := by rw [if_pos e]; exact h
theorem s_iteF1 {b : Bool} {A B : Prop} (e : b = false) (h : B) : if b = true then A else B := by rw [if_neg (by rw [e]; exact Bool.false_ne_true)]; exact h
theorem s_lcId {g : Tgt} {tt : DTT} {r acc : List D} (h : dLcGo g tt te ρ r acc S QA) : dLcGo g tt te ρ r acc S QA := h
theorem s_forId {g : Tgt} {tb : DTS} {r : List D} (h : dForGo g tb r N ρ S) : dForGo g tb r N ρ S := h
theorem s_bindT {P : Sl → Prop} {g : Tgt} {ρ1 : Sl} (e : bindT g d ρ = some ρ1) (h : P ρ1) : ∃ ρ2, bindT g d ρ = some ρ2 ∧ P ρ2 := ⟨ρ1, e, h⟩
end
end DL

set_option maxRecDepth 100000
set_option maxHeartbeats 4000000
/-! DLQ: the order of tuples of texts; sets of up to three values, as a choice lists them. -/
namespace DL
open PySem PySem.Spec PySem.W PyProof.Rows L2
/-- x before y -/
def ltS (x y : Str) : Bool := decide (x.cps.toList < y.cps.toList)
theorem ltC_dec : ∀ l m : List Nat, DLS.ltC l m = decide (l < m)
  | [], [] => by simp [DLS.ltC, PySem.Spec.ltCps]
  | [], _ :: _ => by simp [DLS.ltC, PySem.Spec.ltCps]
  | _ :: _, [] => by simp [DLS.ltC, PySem.Spec.ltCps]
  | a :: l, b :: m => by
    have ih := ltC_dec l m
    by_cases h : DLS.ltC (a :: l) (b :: m) = true
    · rw [h]
      have h2 := DLS.ltC_cons.mp h
      symm
      rw [decide_eq_true_eq, List.cons_lt_cons_iff]
      rcases h2 with h2 | ⟨h2, h3⟩
      · exact .inl h2
      · rw [ih, decide_eq_true_eq] at h3
        exact .inr ⟨h2, h3⟩
    · have h1 : DLS.ltC (a :: l) (b :: m) = false := by simpa using h
      rw [h1]
      symm
      rw [decide_eq_false_iff_not, List.cons_lt_cons_iff]
      rintro (h2 | ⟨h2, h3⟩)
      · exact h (DLS.ltC_cons.mpr (.inl h2))
      · exact h (DLS.ltC_cons.mpr (.inr ⟨h2, by rw [ih, decide_eq_true_eq]; exact h3⟩))
theorem leS_lt (x y : Str) : DLS.leS x y = !ltS y x := by
  unfold DLS.leS ltS
  rw [ltC_dec]
theorem ltS_irrefl (x : Str) : ltS x x = false := by
  have h := DLS.ltC_irrefl x.cps.toList
  rw [ltC_dec] at h
  exact h
theorem ltS_asymm {x y : Str} (h : ltS x y = true) : ltS y x = false := by
  cases e : ltS y x with
  | false => rfl
  | true =>
    have h1 : DLS.ltC x.cps.toList y.cps.toList = true := by rw [ltC_dec]; exact h
    have h2 : DLS.ltC y.cps.toList x.cps.toList = true := by rw [ltC_dec]; exact e
    have h3 := DLS.ltC_trans h1 h2
    rw [DLS.ltC_irrefl] at h3
    cases h3
theorem ltS_of {x y : Str} (h : DLS.leS x y = true) (n : x ≠ y) : ltS x y = true := by
  cases e : ltS x y with
  | true => rfl
  | false =>
    exact absurd (DLS.leS_antisymm h (by rw [leS_lt, e]; rfl)) n
theorem ltS_ne {x y : Str} (h : ltS x y = true) : x ≠ y := fun e => by
  rw [e, ltS_irrefl] at h
  cases h
theorem ltS_total {x y : Str} (h : ltS x y = false) (g : ltS y x = false) : x = y :=
  DLS.leS_antisymm (by rw [leS_lt, g]; rfl) (by rw [leS_lt, h]; rfl)
/-- tuples of texts -/
def ltTS : List Str → List Str → Bool
  | [], [] => false
  | [], _ :: _ => true
  | _ :: _, [] => false
  | x :: xs, y :: ys => if x = y then ltTS xs ys else ltS x y
def leTS (x y : List Str) : Bool := !ltTS y x
def encT (z : List Str) : D := .tup (z.map .str)
theorem showD_str (x : Str) : showD (.str x) = some (.str x) := rfl
theorem showDs_strs : ∀ z : List Str, showDs (z.map D.str) = some (z.map .str)
  | [] => rfl
  | x :: z => by
    show (match showD (.str x), showDs (z.map D.str) with
      | some p, some ps => some (p :: ps)
      | _, _ => none) = _
    rw [showDs_strs z]
    rfl
theorem showD_encT (z : List Str) : showD (encT z) = some (.tuple (z.map .str)) := by
  show (showDs (z.map D.str)).map PyData.tuple = _
  rw [showDs_strs]
  rfl
theorem alike_strs : ∀ x y : List Str, x.length = y.length → alikeAll (x.map .str) (y.map .str) = true
  | [], [], _ => by simp [alikeAll]
  | [], _ :: _, h => by cases h
  | _ :: _, [], h => by cases h
  | x :: xs, y :: ys, h => by simp [alikeAll, alike, alike_strs xs ys (by simpa using h)]
theorem rowLt_strs : ∀ xs ys : List Str, rowLt (xs.map .str) (ys.map .str) = ltTS xs ys
  | [], [] => lex_irrefl _
  | [], y :: ys => by
    unfold rowLt
    rw [List.map_nil, List.map_cons, toks_all_cons]
    simp only [keyToksAll]
    rw [lex_diff (O := itemOrd) (by simp)]
    rfl
  | x :: xs, [] => by
    unfold rowLt
    rw [List.map_nil, List.map_cons, toks_all_cons]
    simp only [keyToksAll]
    rw [lex_diff (O := itemOrd) (by simp)]
    rfl
  | x :: xs, y :: ys => by
    have ih := rowLt_strs xs ys
    unfold rowLt at ih ⊢
    rw [List.map_cons, List.map_cons, dataLt_cons (by simp [alike]), dataLt_str, ih]
    simp only [PyData.eqv, beq_iff_eq]
    rfl
theorem dataLt_encT (x y : List Str) : dataLt (.tuple (x.map .str)) (.tuple (y.map .str)) = ltTS x y := by
  rw [dataLt_tuple]
  exact rowLt_strs x y
theorem leD_encT (x y : List Str) : leD (encT x) (encT y) = leTS x y := by
  show (!dataLt (showP (encT y)) (showP (encT x))) = _
  rw [showP_of (showD_encT x), showP_of (showD_encT y), dataLt_encT]
  rfl
theorem leD_total : TotalLe leD := by
  unfold leD PySem.W.dataLe
  exact sortLe_total _ _ _
theorem leTS_total : TotalLe leTS := ⟨fun a b c h g => by
  rw [← leD_encT] at h g ⊢
  exact leD_total.trans _ _ _ h g, fun a b => by
  rw [← leD_encT, ← leD_encT]
  exact leD_total.total _ _⟩
theorem ltTS_total : ∀ {x y : List Str}, ltTS x y = false → ltTS y x = false → x = y
  | [], [], _, _ => rfl
  | [], _ :: _, h, _ => by cases h
  | _ :: _, [], _, h => by cases h
  | x :: xs, y :: ys, h, g => by
    unfold ltTS at h g
    by_cases e : x = y
    · subst e
      rw [if_pos rfl] at h g
      rw [ltTS_total h g]
    · rw [if_neg e] at h
      rw [if_neg fun e2 => e e2.symm] at g
      exact absurd (ltS_total h g) e
theorem leTS_anti {x y : List Str} (h : leTS x y = true) (g : leTS y x = true) : x = y := by
  unfold leTS at h g
  exact ltTS_total (by simpa using g) (by simpa using h)
theorem sortTS_eq {l m : List (List Str)} (p : m.Perm l) (h : m.Pairwise (fun a b => leTS a b = true)) : l.mergeSort leTS = m :=
  List.Perm.eq_of_pairwise (fun a b _ _ h1 h2 => leTS_anti h1 h2) (sort_pairwise leTS_total l) h ((List.mergeSort_perm l leTS).trans p.symm)
theorem sort_encT (l : List (List Str)) : (l.map encT).mergeSort leD = (l.mergeSort leTS).map encT := (sort_maps encT fun a _ b _ => (leD_encT a b).symm).symm
/-- by length -/
def leLn (x y : List Str) : Bool := decide (x.length ≤ y.length)
theorem leLen_encT (x y : List Str) : leLen (encT x) (encT y) = leLn x y := by
  show (!dataLt (lenK (encT y)) (lenK (encT x))) = _
  show (!dataLt (.int ((y.map D.str).length : Nat)) (.int ((x.map D.str).length : Nat))) = _
  rw [dataLt_int, List.length_map, List.length_map]
  unfold leLn
  by_cases h : x.length ≤ y.length
  · have : ¬ ((y.length : Int) < x.length) := by omega
    simp [h, this]
  · have : (y.length : Int) < x.length := by omega
    simp [h, this]
theorem sortLen_encT (l : List (List Str)) : (l.map encT).mergeSort leLen = (l.mergeSort leLn).map encT := (sort_maps encT fun a _ b _ => (leLen_encT a b).symm).symm
theorem leLn_total : TotalLe leLn := ⟨fun a b c h g => by
  unfold leLn at h g ⊢
  rw [decide_eq_true_eq] at h g ⊢
  omega, fun a b => by
  unfold leLn
  rw [decide_eq_true_eq, decide_eq_true_eq]
  omega⟩
/-- pairs of the length and the tuple -/
def encN (z : List Str) : D := .tup [.int z.length, encT z]
def ltN (x y : List Str) : Bool := if x.length = y.length then (if x = y then false else ltTS x y) else decide (x.length < y.length)
def leN (x y : List Str) : Bool := !ltN y x
theorem showD_encN (z : List Str) : showD (encN z) = some (.tuple [.int z.length, .tuple (z.map .str)]) := by
  show (showDs [.int z.length, encT z]).map PyData.tuple = _
  show (match showD (.int z.length), showDs [encT z] with
      | some p, some ps => some (p :: ps)
      | _, _ => none).map PyData.tuple = _
  have e : showDs [encT z] = some [.tuple (z.map .str)] := by
    show (match showD (encT z), showDs [] with
      | some p, some ps => some (p :: ps)
      | _, _ => none) = _
    rw [showD_encT]
    rfl
  rw [e]
  rfl
theorem dataLt_encN (x y : List Str) : dataLt (.tuple [.int x.length, .tuple (x.map .str)]) (.tuple [.int y.length, .tuple (y.map .str)]) = ltN x y := by
  rw [dataLt_tuple, dataLt_cons (by simp [alike])]
  unfold ltN
  have e1 : (PyData.eqv (.int x.length) (.int y.length) = true) ↔ x.length = y.length := by
    simp only [PyData.eqv, beq_iff_eq]
    exact Int.ofNat_inj
  by_cases h : x.length = y.length
  · rw [if_pos (e1.mpr h), if_pos h]
    have al : alike (.tuple (x.map .str)) (.tuple (y.map .str)) = true := by simpa [alike] using alike_strs x y h
    rw [dataLt_cons al]
    have e : PyProof.Rows.lexLt itemOrd (keyToksAll []) (keyToksAll []) = false := lex_irrefl _
    rw [e, eqv_tstrs, dataLt_encT]
    by_cases g : x = y
    · simp [g]
    · simp [g]
  · rw [if_neg fun q => h (e1.mp q), if_neg h, dataLt_int]
    by_cases g : x.length < y.length
    · have : (x.length : Int) < y.length := by omega
      simp [g, this]
    · have : ¬ (x.length : Int) < y.length := by omega
      simp [g, this]
theorem leD_encN (x y : List Str) : leD (encN x) (encN y) = leN x y := by
  show (!dataLt (showP (encN y)) (showP (encN x))) = _
  rw [showP_of (showD_encN x), showP_of (showD_encN y), dataLt_encN]
  rfl
theorem leN_total : TotalLe leN := ⟨fun a b c h g => by
  rw [← leD_encN] at h g ⊢
  exact leD_total.trans _ _ _ h g, fun a b => by
  rw [← leD_encN, ← leD_encN]
  exact leD_total.total _ _⟩
theorem leN_anti {x y : List Str} (h : leN x y = true) (g : leN y x = true) : x = y := by
  unfold leN ltN at h g
  by_cases e : x.length = y.length
  · rw [if_pos e.symm] at h
    rw [if_pos e] at g
    by_cases e2 : x = y
    · exact e2
    · rw [if_neg fun z => e2 z.symm] at h
      rw [if_neg e2] at g
      exact ltTS_total (by simpa using g) (by simpa using h)
  · rw [if_neg fun z => e z.symm] at h
    rw [if_neg e] at g
    simp at h g
    omega
theorem sortN_eq {l m : List (List Str)} (p : m.Perm l) (h : m.Pairwise (fun a b => leN a b = true)) : l.mergeSort leN = m :=
  List.Perm.eq_of_pairwise (fun a b _ _ h1 h2 => leN_anti h1 h2) (sort_pairwise leN_total l) h ((List.mergeSort_perm l leN).trans p.symm)
theorem sort_encN (l : List (List Str)) : (l.map encN).mergeSort leD = (l.mergeSort leN).map encN := (sort_maps encN fun a _ b _ => (leD_encN a b).symm).symm
end DL

set_option maxRecDepth 100000
set_option maxHeartbeats 4000000
/-! DLQ2: the nonempty sets of up to three values, in the order of a choice. -/
namespace DL
open PySem PySem.Spec PySem.W L2
def partsS : List Str → List (List Str)
  | [a] => [[a]]
  | [a, b] => [[a], [b], [a, b]]
  | [a, b, c] => [[a], [b], [c], [a, b], [a, c], [b, c], [a, b, c]]
  | _ => []
/-- .. as they are made -/
def rawS : List Str → List (List Str)
  | [a] => [[a]]
  | [a, b] => [[a], [b], [a, b]]
  | [a, b, c] => [[a], [b], [a, b], [c], [a, c], [b, c], [a, b, c]]
  | _ => []
/-- one to three values, ascending -/
def Dom3 (dom : List Str) : Prop := (∃ a, dom = [a]) ∨ (∃ a b, dom = [a, b] ∧ ltS a b = true) ∨ ∃ a b c, dom = [a, b, c] ∧ ltS a b = true ∧ ltS a c = true ∧ ltS b c = true
theorem dom3_of {dom : List Str} (h1 : 1 ≤ dom.length) (h3 : dom.length ≤ 3) (pw : dom.Pairwise (fun a b => DLS.leS a b = true)) (nd : dom.Nodup) : Dom3 dom := by
  match dom, h1, h3, pw, nd with
  | [a], _, _, _, _ => exact .inl ⟨a, rfl⟩
  | [a, b], _, _, pw, nd =>
    simp at pw nd
    exact .inr (.inl ⟨a, b, rfl, ltS_of pw nd⟩)
  | [a, b, c], _, _, pw, nd =>
    simp at pw nd
    exact .inr (.inr ⟨a, b, c, rfl, ltS_of pw.1.1 nd.1.1, ltS_of pw.1.2 nd.1.2, ltS_of pw.2 nd.2⟩)
  | [], h1, _, _, _ => exact absurd h1 (by simp)
  | _ :: _ :: _ :: _ :: _, _, h3, _, _ => exact absurd h3 (by simp)
/-- what sorted makes of the raw ones -/
def lexS : List Str → List (List Str)
  | [a] => [[a]]
  | [a, b] => [[a], [a, b], [b]]
  | [a, b, c] => [[a], [a, b], [a, b, c], [a, c], [b], [b, c], [c]]
  | _ => []
theorem lex_sorted {dom : List Str} (h : Dom3 dom) : (rawS dom).mergeSort leTS = lexS dom := by
  rcases h with ⟨a, rfl⟩ | ⟨a, b, rfl, h1⟩ | ⟨a, b, c, rfl, h1, h2, h3⟩
  · exact sortTS_eq (List.Perm.refl _) (by simp [lexS])
  · have n1 := ltS_ne h1
    have a1 := ltS_asymm h1
    refine sortTS_eq ?_ ?_
    · show ([[a], [a, b], [b]] : List (List Str)).Perm [[a], [b], [a, b]]
      exact (List.Perm.swap _ _ _).cons _
    · simp [lexS, leTS, ltTS, n1, Ne.symm n1, a1]
  · have n1 := ltS_ne h1
    have a1 := ltS_asymm h1
    have n2 := ltS_ne h2
    have a2 := ltS_asymm h2
    have n3 := ltS_ne h3
    have a3 := ltS_asymm h3
    refine sortTS_eq ?_ ?_
    · show ([[a], [a, b], [a, b, c], [a, c], [b], [b, c], [c]] : List (List Str)).Perm [[a], [b], [a, b], [c], [a, c], [b, c], [a, b, c]]
      rw [List.perm_iff_count]
      intro x
      simp only [List.count_cons, List.count_nil]
      omega
    · simp [lexS, leTS, ltTS, n1, Ne.symm n1, a1, n2, Ne.symm n2, a2, n3, Ne.symm n3, a3]
theorem len_sorted {dom : List Str} (h : Dom3 dom) : (lexS dom).mergeSort leLn = partsS dom := by
  symm
  rcases h with ⟨a, rfl⟩ | ⟨a, b, rfl, _⟩ | ⟨a, b, c, rfl, _, _, _⟩
  · refine sort_unique leLn_total (by simp [partsS]) fun x => rfl
  · refine sort_unique leLn_total (by simp [partsS, leLn]) fun x => ?_
    by_cases e1 : x.length = 1
    · simp [partsS, lexS, sameRank, leLn, e1]
    · by_cases e2 : x.length = 2
      · simp [partsS, lexS, sameRank, leLn, e2]
      · have g1 : ¬ (x.length ≤ 1 ∧ 1 ≤ x.length) := by omega
        have g2 : ¬ (x.length ≤ 2 ∧ 2 ≤ x.length) := by omega
        simp [partsS, lexS, sameRank, leLn, List.filter_cons, g1, g2]
  · refine sort_unique leLn_total (by simp [partsS, leLn]) fun x => ?_
    by_cases e1 : x.length = 1
    · simp [partsS, lexS, sameRank, leLn, e1]
    · by_cases e2 : x.length = 2
      · simp [partsS, lexS, sameRank, leLn, e2]
      · by_cases e3 : x.length = 3
        · simp [partsS, lexS, sameRank, leLn, e3]
        · have g1 : ¬ (x.length ≤ 1 ∧ 1 ≤ x.length) := by omega
          have g2 : ¬ (x.length ≤ 2 ∧ 2 ≤ x.length) := by omega
          have g3 : ¬ (x.length ≤ 3 ∧ 3 ≤ x.length) := by omega
          simp [partsS, lexS, sameRank, leLn, List.filter_cons, g1, g2, g3]
theorem num_sorted {dom : List Str} (h : Dom3 dom) : (rawS dom).mergeSort leN = partsS dom := by
  rcases h with ⟨a, rfl⟩ | ⟨a, b, rfl, h1⟩ | ⟨a, b, c, rfl, h1, h2, h3⟩
  · exact sortN_eq (List.Perm.refl _) (by simp [partsS])
  · have n1 := ltS_ne h1
    have a1 := ltS_asymm h1
    refine sortN_eq (List.Perm.refl _) ?_
    simp [partsS, leN, ltN, ltTS, n1, Ne.symm n1, a1]
  · have n1 := ltS_ne h1
    have a1 := ltS_asymm h1
    have n2 := ltS_ne h2
    have a2 := ltS_asymm h2
    have n3 := ltS_ne h3
    have a3 := ltS_asymm h3
    refine sortN_eq ?_ ?_
    · show ([[a], [b], [c], [a, b], [a, c], [b, c], [a, b, c]] : List (List Str)).Perm [[a], [b], [a, b], [c], [a, c], [b, c], [a, b, c]]
      exact ((List.Perm.swap _ _ _).cons _).cons _
    · simp [partsS, leN, ltN, ltTS, n1, Ne.symm n1, a1, n2, Ne.symm n2, a2, n3, Ne.symm n3, a3]
theorem raw_ok {dom : List Str} (h : Dom3 dom) : (∀ z ∈ rawS dom, z ≠ [] ∧ z.length ≤ 3) ∧ (rawS dom).length ≤ 7 := by
  rcases h with ⟨a, rfl⟩ | ⟨a, b, rfl, _⟩ | ⟨a, b, c, rfl, _, _, _⟩ <;> simp [rawS]
theorem parts_ok {dom : List Str} (h : Dom3 dom) : (∀ z ∈ partsS dom, z ≠ [] ∧ z.length ≤ 3 ∧ (∀ x ∈ z, x ∈ dom) ∧ z = DLS.uniqS z) ∧ (partsS dom).length ≤ 7 := by
  have u1 : ∀ a : Str, [a] = DLS.uniqS [a] := fun a => (DLS.uniqS_self (by simp) (by simp) (fun k => Iff.rfl)).symm
  have u2 : ∀ a b : Str, ltS a b = true → [a, b] = DLS.uniqS [a, b] := fun a b h => (DLS.uniqS_self (by simp [leS_lt, ltS_asymm h]) (by simp [ltS_ne h]) (fun k => Iff.rfl)).symm
  rcases h with ⟨a, rfl⟩ | ⟨a, b, rfl, h1⟩ | ⟨a, b, c, rfl, h1, h2, h3⟩
  · simp [partsS, ← u1]
  · simp [partsS, ← u1, ← u2 a b h1]
  · have u3 : [a, b, c] = DLS.uniqS [a, b, c] := (DLS.uniqS_self (by simp [leS_lt, ltS_asymm h1, ltS_asymm h2, ltS_asymm h3]) (by simp [ltS_ne h1, ltS_ne h2, ltS_ne h3]) (fun k => Iff.rfl)).symm
    simp [partsS, ← u1, ← u2 a b h1, ← u2 a c h2, ← u2 b c h3, ← u3]
end DL

set_option maxRecDepth 100000
set_option maxHeartbeats 4000000
/-! DLQ3: sorted of tuples of texts, read. -/
namespace DL
open PySem PySem.Spec PySem.W L2
theorem showDs_encT : ∀ ls : List (List Str), showDs (ls.map encT) = some (ls.map fun z => .tuple (z.map .str))
  | [] => rfl
  | x :: z => by
    show (match showD (encT x), showDs (z.map encT) with
      | some p, some ps => some (p :: ps)
      | _, _ => none) = _
    rw [showDs_encT z, showD_encT]
    rfl
theorem showDs_encN : ∀ ls : List (List Str), showDs (ls.map encN) = some (ls.map fun z => .tuple [.int z.length, .tuple (z.map .str)])
  | [] => rfl
  | x :: z => by
    show (match showD (encN x), showDs (z.map encN) with
      | some p, some ps => some (p :: ps)
      | _, _ => none) = _
    rw [showDs_encN z, showD_encN]
    rfl
theorem alike_strsA : ∀ x y : List Str, alikeAll (x.map .str) (y.map .str) = true
  | [], [] => by simp [alikeAll]
  | [], _ :: _ => by simp [alikeAll]
  | _ :: _, [] => by simp [alikeAll]
  | x :: xs, y :: ys => by simp [alikeAll, alike, alike_strsA xs ys]
theorem depth_strsT (x : List Str) : (PyData.tuple (x.map .str)).depth ≤ 2 := by simp [PyData.depth, depth_strs]
section
variable {N : DEnds} {ρ : Sl} {S : Store} {Q : DQ} {E : DX} {d : D}
theorem s_sortTS {ls : List (List Str)} (e : lstD S d = some (ls.map encT)) (ne : ∀ z ∈ ls, z ≠ []) (h : Q (.lst ((ls.mergeSort leTS).map encT)) S) : rdSortDC [d] S Q := by
  refine ⟨_, _, e, showDs_encT ls, ?_, .inl ?_, ?_, by rw [sort_encT]; exact h⟩
  · intro p hp q hq
    obtain ⟨x, _, rfl⟩ := List.mem_map.mp hp
    obtain ⟨y, _, rfl⟩ := List.mem_map.mp hq
    simpa [alike] using alike_strsA x y
  · intro p hp
    obtain ⟨x, hx, rfl⟩ := List.mem_map.mp hp
    match x, ne x hx with
    | a :: r, _ => exact ⟨_, _, rfl⟩
    | [], h => exact absurd rfl h
  · intro p hp
    obtain ⟨x, hx, rfl⟩ := List.mem_map.mp hp
    exact Nat.le_trans (depth_strsT x) (by decide)
theorem s_sortN {ls : List (List Str)} (e : lstD S d = some (ls.map encN)) (h : Q (.lst ((ls.mergeSort leN).map encN)) S) : rdSortDC [d] S Q := by
  refine ⟨_, _, e, showDs_encN ls, ?_, .inl ?_, ?_, by rw [sort_encN]; exact h⟩
  · intro p hp q hq
    obtain ⟨x, _, rfl⟩ := List.mem_map.mp hp
    obtain ⟨y, _, rfl⟩ := List.mem_map.mp hq
    simpa [alike, alikeAll] using alike_strsA x y
  · intro p hp
    obtain ⟨x, hx, rfl⟩ := List.mem_map.mp hp
    exact ⟨_, _, rfl⟩
  · intro p hp
    obtain ⟨x, hx, rfl⟩ := List.mem_map.mp hp
    simp [PyData.depth, PyData.depthAll, depth_strs]
theorem s_sortLenT {P : List D → Prop} {ls : List (List Str)} (e : lstD S d = some (ls.map encT)) (h : P ((ls.mergeSort leLn).map encT)) : ∃ ds, lstD S d = some ds ∧ (∀ x ∈ ds, ∃ es, x = .tup es) ∧ P (ds.mergeSort leLen) := by
  refine ⟨_, e, fun x hx => ?_, by rw [sortLen_encT]; exact h⟩
  obtain ⟨y, _, rfl⟩ := List.mem_map.mp hx
  exact ⟨_, rfl⟩
end
end DL

set_option maxRecDepth 100000
set_option maxHeartbeats 4000000
/-! DLU: more steps: tuples of texts compared and cut, dicts of sets, choices as data. -/
namespace DL
open PySem PySem.Spec L2
section
variable {S : Store} {Q : DQ}
theorem s_eqTS {neg : Bool} {x y : List Str} (hx : ∀ z ∈ x, PyData.strOk z = true) (hy : ∀ z ∈ y, PyData.strOk z = true) (h : Q (.bl (if neg then !decide (x = y) else decide (x = y))) S) : rdEq neg (.tup (x.map .str)) (.tup (y.map .str)) S Q := by
  refine ⟨_, _, toPy_strs x, toPy_strs y, (shaped_strs hx).1, (shaped_strs hy).1, ?_⟩
  rw [eqv_tstrs]
  exact h
theorem s_eqS {neg : Bool} {x y : Str} (hx : PyData.strOk x = true) (hy : PyData.strOk y = true) (h : Q (.bl (if neg then !decide (x = y) else decide (x = y))) S) : rdEq neg (.str x) (.str y) S Q := by
  have sh : ∀ z : Str, PyData.strOk z = true → SeqAt.shaped (.str z) = true := fun z hz => by simp [SeqAt.shaped, PyData.canLay0, hz, PyData.depth]
  refine ⟨_, _, rfl, rfl, sh x hx, sh y hy, ?_⟩
  have e : PyData.eqv (.str x) (.str y) = decide (x = y) := by
    show (x == y) = _
    by_cases h : x = y
    · subst h; simp
    · simp [h]
  rw [e]
  exact h
theorem cut_take {α : Type} (l : List α) (n : Nat) : cutD l none (some (n : Int)) = l.take n := by
  unfold cutD
  rw [HT.sIx_nat]
  have e : HT.sIx l.length 0 none = 0 := rfl
  rw [e, Nat.sub_zero, List.drop_zero]
  by_cases h : n ≤ l.length
  · rw [Nat.min_eq_left h]
  · rw [Nat.min_eq_right (by omega), List.take_of_length_le (Nat.le_refl _), List.take_of_length_le (by omega)]
theorem cut_drop {α : Type} (l : List α) (n : Nat) : cutD l (some (n : Int)) none = l.drop n := by
  unfold cutD
  rw [HT.sIx_nat]
  have e : HT.sIx l.length l.length none = l.length := rfl
  rw [e]
  by_cases h : n ≤ l.length
  · rw [Nat.min_eq_left h, List.take_of_length_le]
    rw [List.length_drop]
    omega
  · rw [Nat.min_eq_right (by omega), List.drop_length, List.drop_of_length_le (by omega)]
    simp
end
/-! dicts whose keys are tuples of texts -/
theorem mergeDT_nodup : ∀ (more kds : List (List Key × D)), ((kds ++ more).map (·.1)).Nodup → mergeDT kds more = kds ++ more
  | [], kds, _ => by simp [mergeDT]
  | (k, d) :: r, kds, h => by
    have hk : ∀ x ∈ kds, x.1 ≠ k := fun x hx e => by
      rw [List.map_append, List.nodup_append] at h
      exact h.2.2 x.1 (List.mem_map.mpr ⟨x, hx, rfl⟩) k (by simp) e
    have e : putD kds k d = kds ++ [(k, d)] := by
      unfold putD
      have : ¬ ((kds.any fun kd => decide (kd.1 = k)) = true) := by
        rw [List.any_eq_true]
        rintro ⟨x, hx, e⟩
        exact hk x hx (of_decide_eq_true e)
      rw [if_neg this]
    show mergeDT (putD kds k d) r = _
    rw [e, mergeDT_nodup r (kds ++ [(k, d)]) (by rw [List.append_assoc]; exact h), List.append_assoc]
    rfl
def keyT (z : List Str) : List Key := z.map Sum.inr
theorem keyT_enc (z : List Str) : (D.tup ((keyT z).map keyD)) = encT z := by
  unfold keyT encT
  rw [List.map_map]
  rfl
theorem keyT_inj {x y : List Str} (h : keyT x = keyT y) : x = y := by
  unfold keyT at h
  induction x generalizing y with
  | nil => cases y with
    | nil => rfl
    | cons _ _ => cases h
  | cons a x ih => cases y with
    | nil => cases h
    | cons b y =>
      rw [List.map_cons, List.map_cons] at h
      injection h with h1 h2
      injection h1 with h1
      rw [h1, ih h2]
theorem keyT_nodup {ls : List (List Str)} (h : ls.Nodup) : (ls.map keyT).Nodup := by
  induction h with
  | nil => exact List.nodup_nil
  | @cons a l h1 h2 ih =>
    rw [List.map_cons, List.nodup_cons]
    refine ⟨fun hm => ?_, ih⟩
    obtain ⟨b, hb, e⟩ := List.mem_map.mp hm
    exact h1 b hb (keyT_inj e).symm
/-- the dict of sets ls and what they lead to -/
def tabD (ls : List (List Str)) (vs : List D) : D := .dT (ls.map keyT) vs
theorem zip_fst {α β : Type} : ∀ {l : List α} {m : List β}, l.length = m.length → (l.zip m).map (·.1) = l
  | [], _, _ => rfl
  | x :: l, [], h => by cases h
  | x :: l, y :: m, h => by
    rw [List.zip_cons_cons, List.map_cons, zip_fst (by simpa using h)]
theorem zip_snd {α β : Type} : ∀ {l : List α} {m : List β}, l.length = m.length → (l.zip m).map (·.2) = m
  | [], [], _ => rfl
  | [], _ :: _, h => by cases h
  | x :: l, [], h => by cases h
  | x :: l, y :: m, h => by
    rw [List.zip_cons_cons, List.map_cons, zip_snd (by simpa using h)]
theorem tab_merge {ls : List (List Str)} {vs : List D} (h : ls.Nodup) (hl : ls.length = vs.length) : D.dT ((mergeDT [] ((ls.map keyT).zip vs)).map (·.1)) ((mergeDT [] ((ls.map keyT).zip vs)).map (·.2)) = tabD ls vs := by
  have hl2 : (ls.map keyT).length = vs.length := by rw [List.length_map]; exact hl
  rw [mergeDT_nodup _ [] (by rw [List.nil_append, zip_fst hl2]; exact keyT_nodup h), List.nil_append, zip_fst hl2, zip_snd hl2]
  rfl
/-- what a set leads to -/
def lookS {β : Type} (ls : List (List Str)) (vs : List β) (z : List Str) : Option β := ((ls.zip vs).find? fun p => decide (p.1 = z)).map (·.2)
theorem look_tab {β : Type} (f : β → D) (z : List Str) : ∀ (ls : List (List Str)) (vs : List β), valD ((ls.map keyT).zip (vs.map f)) (keyT z) = (lookS ls vs z).map f
  | [], _ => rfl
  | x :: ls, [] => rfl
  | x :: ls, v :: vs => by
    have ih := look_tab f z ls vs
    unfold valD lookS at ih ⊢
    rw [List.map_cons, List.map_cons, List.zip_cons_cons, List.zip_cons_cons, List.find?_cons, List.find?_cons]
    by_cases h : x = z
    · have h2 : keyT x = keyT z := by rw [h]
      simp [h]
    · have h2 : ¬ keyT x = keyT z := fun e => h (keyT_inj e)
      simp only [h, h2, decide_false]
      exact ih
theorem look_some {β : Type} {z : List Str} : ∀ {ls : List (List Str)} {vs : List β}, z ∈ ls → ls.length = vs.length → ∃ v, lookS ls vs z = some v ∧ v ∈ vs
  | [], _, h, _ => by cases h
  | x :: ls, [], _, h => by cases h
  | x :: ls, v :: vs, hm, hl => by
    unfold lookS
    rw [List.zip_cons_cons, List.find?_cons]
    by_cases h : x = z
    · simp [h]
    · have hm2 : z ∈ ls := by
        rcases List.mem_cons.mp hm with e | e
        · exact absurd e.symm h
        · exact e
      obtain ⟨w, h1, h2⟩ := look_some (vs := vs) hm2 (by simpa using hl)
      unfold lookS at h1
      simp only [h, decide_false]
      exact ⟨w, h1, List.mem_cons_of_mem _ h2⟩
theorem dget_tab {β : Type} {S : Store} (f : β → D) {ls : List (List Str)} {vs : List β} {z : List Str} {v : β} (h : lookS ls vs z = some v) : dget S (tabD ls (vs.map f)) (.tup (z.map .str)) = some (f v) := by
  show (toKeys (z.map D.str)).bind _ = _
  rw [toKeys_strs]
  show valD ((ls.map keyT).zip (vs.map f)) (keyT z) = _
  rw [look_tab, h]
  rfl
/-! sets of values of a domain -/
theorem uniq_filter {dom l : List Str} (pw : dom.Pairwise (fun a b => DLS.leS a b = true)) (nd : dom.Nodup) (h : ∀ x ∈ l, x ∈ dom) : DLS.uniqS l = dom.filter fun x => decide (x ∈ l) := by
  refine DLS.uniqS_self (pw.filter _) (nd.filter _) fun k => ?_
  rw [List.mem_filter, decide_eq_true_eq]
  exact ⟨fun z => z.2, fun z => ⟨h k z, z⟩⟩
theorem dom3_pw {dom : List Str} (h : Dom3 dom) : dom.Pairwise (fun a b => DLS.leS a b = true) ∧ dom.Nodup ∧ 1 ≤ dom.length ∧ dom.length ≤ 3 := by
  rcases h with ⟨a, rfl⟩ | ⟨a, b, rfl, h1⟩ | ⟨a, b, c, rfl, h1, h2, h3⟩
  · simp
  · simp [leS_lt, ltS_asymm h1, ltS_ne h1]
  · simp [leS_lt, ltS_asymm h1, ltS_asymm h2, ltS_asymm h3, ltS_ne h1, ltS_ne h2, ltS_ne h3]
theorem uniq_parts {dom l : List Str} (h : Dom3 dom) (hl : ∀ x ∈ l, x ∈ dom) (ne : l ≠ []) : DLS.uniqS l ∈ partsS dom := by
  obtain ⟨pw, nd, _⟩ := dom3_pw h
  rw [uniq_filter pw nd hl]
  obtain ⟨x, hx⟩ : ∃ x, x ∈ l := by
    cases l with
    | nil => exact absurd rfl ne
    | cons x _ => exact ⟨x, List.mem_cons_self⟩
  have hd := hl x hx
  rcases h with ⟨a, rfl⟩ | ⟨a, b, rfl, h1⟩ | ⟨a, b, c, rfl, h1, h2, h3⟩
  · have e : x = a := by simpa using hd
    subst e
    simp [partsS, hx]
  · by_cases ha : a ∈ l <;> by_cases hb : b ∈ l <;> simp [partsS, ha, hb, List.filter_cons]
    rcases (show x = a ∨ x = b by simpa using hd) with e | e
    · exact ha (e ▸ hx)
    · exact hb (e ▸ hx)
  · by_cases ha : a ∈ l <;> by_cases hb : b ∈ l <;> by_cases hc : c ∈ l <;> simp [partsS, ha, hb, hc, List.filter_cons]
    rcases (show x = a ∨ x = b ∨ x = c by simpa using hd) with e | e | e
    · exact ha (e ▸ hx)
    · exact hb (e ▸ hx)
    · exact hc (e ▸ hx)
theorem parts_nodup {dom : List Str} (h : Dom3 dom) : (partsS dom).Nodup := by
  rcases h with ⟨a, rfl⟩ | ⟨a, b, rfl, h1⟩ | ⟨a, b, c, rfl, h1, h2, h3⟩
  · simp [partsS]
  · simp [partsS, ltS_ne h1]
  · simp [partsS, ltS_ne h1, ltS_ne h2, ltS_ne h3]
section
variable {N : DEnds} {ρ : Sl} {S : Store} {Q : DQ} {E : DX} {t tv : DTE} {ta : DTA}
theorem s_make {C : Addr} {dsp : DSp} {dds : List D} (h : ta ρ S (fun xs S1 => ∀ a, S1 a = none → dsp (.ref a :: (xs ++ dds)) (put S1 a (.ins C [] [])) (fun d S2 => d = .non ∧ ∃ ns ds, S2 a = some (.ins C ns ds) ∧ Q (.obj C ns ds) (del S2 a)) E) E) : dMake C dsp dds ta ρ S Q E := h
theorem del_back {S S' : Store} {a : Addr} (h : S a = none) (g : ∀ b, b ≠ a → S' b = S b) : del S' a = S := by
  funext b
  by_cases e : b = a
  · rw [e, del_same, h]
  · rw [del_ne e, g b e]
/-- a comprehension that keeps some of its items -/
theorem lc_filter {tg : Tgt} {tt : DTT} {te : DTE} {QA : List D → Store → Prop} (f : D → Bool) : ∀ (xs acc : List D), (∀ x ∈ xs, ∃ ρ1, bindT tg x ρ = some ρ1 ∧ (∀ QT : Bool → Store → Prop, (f x = true → QT true S) → (f x = false → QT false S) → tt ρ1 S QT (fun _ _ _ _ => False)) ∧ ∀ R : DQ, R x S → te ρ1 S R (fun _ _ _ _ => False)) →
    QA (acc ++ xs.filter f) S → dLcGo tg tt te ρ xs acc S QA
  | [], acc, _, q => by
    rw [List.filter_nil, List.append_nil] at q
    exact q
  | x :: r, acc, h, q => by
    obtain ⟨ρ1, e, k1, k2⟩ := h x List.mem_cons_self
    refine ⟨ρ1, e, k1 _ (fun hx => ?_) fun hx => ?_⟩
    · refine iteT (k2 _ ?_)
      refine lc_filter f r (acc ++ [x]) (fun d hd => h d (List.mem_cons_of_mem _ hd)) ?_
      rw [List.filter_cons, if_pos hx] at q
      rw [List.append_assoc]
      exact q
    · refine iteF ?_
      refine lc_filter f r acc (fun d hd => h d (List.mem_cons_of_mem _ hd)) ?_
      rw [List.filter_cons, if_neg (by rw [hx]; exact Bool.false_ne_true)] at q
      exact q
theorem s_xf {a C : Addr} {cls : Value} {o : Option Addr} {f : Str} (h : t ρ S (fun x S1 => x = .ref a ∧ cls = .ref C ∧ ∃ dd ns ds v, o = some dd ∧ S1 dd = some (.xd ns ds) ∧ (ns.zip ds).lookup f = some v ∧ Q v S1) E) : dXf a cls o C f t ρ S Q E := h
theorem s_aftNx {i : Nat} (h : N.nx (ρ.set i none) S) : (dAfter N (some i)).nx ρ S := h
theorem s_aftRt {i : Nat} {d : D} (h : N.rt d S) : (dAfter N (some i)).rt d S := h
theorem s_aftNx0 (h : N.nx ρ S) : (dAfter N none).nx ρ S := h
theorem s_try {K : PySem.W.Frag} {tb : DTS} {l : List DClause} (h : tb { N with ex := dHand K N l } ρ S) : dTry K tb l N ρ S := h
/-- the store grows -/
def Ext (S S' : Store) : Prop := ∀ b m, S b = some m → S' b = some m
theorem Ext.refl {S : Store} : Ext S S := fun _ _ h => h
theorem Ext.trans {S S1 S2 : Store} (h : Ext S S1) (g : Ext S1 S2) : Ext S S2 := fun b m e => g b m (h b m e)
theorem Ext.new {S : Store} {a : Addr} {m : M} (h : S a = none) : Ext S (put S a m) := fun b m' e => by
  rw [put_ne fun q => by rw [q, h] at e; cases e]
  exact e
theorem Deck.ext {S S' : Store} {a L : Addr} {k : Nat} (D : Deck S a L k) (h : Ext S S') : Deck S' a L k := by
  obtain ⟨⟨ns, t, d, h1, h2, h3⟩, n⟩ := D
  exact ⟨⟨ns, t, d, h _ _ h1, h _ _ h2, h3⟩, n⟩
theorem s_fldP {C : Addr} {f : Str} {x d : D} {R : D → Prop} {kds : List (Str × D)} (e1 : objD C S x = some kds) (e2 : kds.lookup f = some d) (h : R d) : ∃ kds d, objD C S x = some kds ∧ kds.lookup f = some d ∧ R d := ⟨kds, d, e1, e2, h⟩
theorem s_fldPut {C : Addr} {f : Str} (h : tv ρ S (fun d S1 => t ρ S1 (fun x S2 => ∃ a ns ds, x = .ref a ∧ S2 a = some (.ins C ns ds) ∧ ns.length < 1000 ∧ N.nx ρ (put S2 a (.ins C ((putFD f d (ns.zip ds)).map (·.1)) ((putFD f d (ns.zip ds)).map (·.2))))) (N.ex ρ)) (N.ex ρ)) : dFldPut C f t tv N ρ S := h
theorem s_fldPutA {C a : Addr} {f : Str} {d : D} {ns ns' : List Str} {ds ds' : List D} {R : Store → Prop} (e : S a = some (.ins C ns ds)) (z : ns.length < 1000) (g1 : (putFD f d (ns.zip ds)).map (·.1) = ns') (g2 : (putFD f d (ns.zip ds)).map (·.2) = ds') (h : R (put S a (.ins C ns' ds'))) :
    ∃ b ns ds, D.ref a = .ref b ∧ S b = some (.ins C ns ds) ∧ ns.length < 1000 ∧ R (put S b (.ins C ((putFD f d (ns.zip ds)).map (·.1)) ((putFD f d (ns.zip ds)).map (·.2)))) := ⟨a, ns, ds, rfl, e, z, by rw [g1, g2]; exact h⟩
theorem s_dictZip (h : ta ρ S (fun ds S1 => ∃ (d : D) (ks : List (List Key)) (ys : List D), ds = [d, .tup ys] ∧ lstD S1 d = some (ks.map fun k : List Key => D.tup (k.map keyD)) ∧ ks.length = ys.length ∧ Q (.dT ((mergeDT [] (ks.zip ys)).map (·.1)) ((mergeDT [] (ks.zip ys)).map (·.2))) S1) E) : dDictZip ta ρ S Q E := h
theorem s_dictZipA {d : D} {ls : List (List Str)} {ys : List D} {P : D → Prop} (e : lstD S d = some (ls.map encT)) (nd : ls.Nodup) (hl : ls.length = ys.length) (h : P (tabD ls ys)) :
    ∃ (d' : D) (ks : List (List Key)) (ys' : List D), [d, D.tup ys] = [d', .tup ys'] ∧ lstD S d' = some (ks.map fun k : List Key => D.tup (k.map keyD)) ∧ ks.length = ys'.length ∧ P (.dT ((mergeDT [] (ks.zip ys')).map (·.1)) ((mergeDT [] (ks.zip ys')).map (·.2))) := by
  refine ⟨d, ls.map keyT, ys, rfl, ?_, by rw [List.length_map]; exact hl, by rw [tab_merge nd hl]; exact h⟩
  rw [e, List.map_map]
  exact congrArg some (List.map_congr_left fun z _ => (keyT_enc z).symm)
theorem put_put {a : Addr} {m m' : M} : put (put S a m) a m' = put S a m' := by
  funext b
  by_cases h : b = a
  · rw [h, put_same, put_same]
  · rw [put_ne h, put_ne h, put_ne h]
end
end DL

set_option maxRecDepth 100000
set_option maxHeartbeats 4000000
/-! DLG: what repr may be asked of, put together. -/
namespace DL
open PySem PySem.Spec L2
/-- repr may be asked of d: at most n signs, at most m deep -/
structure Rep (n m : Nat) (d : D) : Prop where
  ex : ∃ p, showD d = some p ∧ goodP p = true ∧ szP p ≤ n ∧ p.depth ≤ m ∧ (p.hasDict = true → noL d = true)
/-- .. and there is no dict in it -/
structure RepL (n m : Nat) (d : D) : Prop where
  ex : ∃ p, showD d = some p ∧ goodP p = true ∧ szP p ≤ n ∧ p.depth ≤ m ∧ p.hasDict = false
/-- .. and no list -/
structure RepD (n m : Nat) (d : D) : Prop where
  ex : ∃ p, showD d = some p ∧ goodP p = true ∧ szP p ≤ n ∧ p.depth ≤ m
  nol : noL d = true
theorem RepL.rep {n m : Nat} {d : D} (h : RepL n m d) : Rep n m d := let ⟨p, a, b, c, e, f⟩ := h.ex; ⟨p, a, b, c, e, fun z => by rw [f] at z; cases z⟩
theorem RepD.rep {n m : Nat} {d : D} (h : RepD n m d) : Rep n m d := let ⟨p, a, b, c, e⟩ := h.ex; ⟨p, a, b, c, e, fun _ => h.nol⟩
theorem Rep.ok {n m : Nat} {d : D} (h : Rep n m d) (hn : n ≤ 16000000) (hm : m ≤ 60) : ∃ p, ReprOk d p := let ⟨p, a, b, c, e, f⟩ := h.ex; ⟨p, ⟨a, b, Nat.le_trans c hn, Nat.le_trans e hm, f⟩⟩
theorem Rep.mono {n m n' m' : Nat} {d : D} (h : Rep n m d) (hn : n ≤ n') (hm : m ≤ m') : Rep n' m' d := let ⟨p, a, b, c, e, f⟩ := h.ex; ⟨p, a, b, Nat.le_trans c hn, Nat.le_trans e hm, f⟩
theorem RepL.mono {n m n' m' : Nat} {d : D} (h : RepL n m d) (hn : n ≤ n') (hm : m ≤ m') : RepL n' m' d := let ⟨p, a, b, c, e, f⟩ := h.ex; ⟨p, a, b, Nat.le_trans c hn, Nat.le_trans e hm, f⟩
theorem RepD.mono {n m n' m' : Nat} {d : D} (h : RepD n m d) (hn : n ≤ n') (hm : m ≤ m') : RepD n' m' d := let ⟨p, a, b, c, e⟩ := h.ex; ⟨⟨p, a, b, Nat.le_trans c hn, Nat.le_trans e hm⟩, h.nol⟩
theorem repsL {n m : Nat} : ∀ {ds : List D}, (∀ d ∈ ds, RepL n m d) → ∃ ps, showDs ds = some ps ∧ goodPs ps = true ∧ szPs ps ≤ ds.length * (n + 2) ∧ PyData.depthAll ps ≤ m ∧ PyData.hasDictAll ps = false
  | [], _ => ⟨[], rfl, rfl, Nat.zero_le _, by simp [PyData.depthAll], rfl⟩
  | d :: ds, h => by
    obtain ⟨p, a, b, c, e, f⟩ := (h d List.mem_cons_self).ex
    obtain ⟨ps, a2, b2, c2, e2, f2⟩ := repsL fun x hx => h x (List.mem_cons_of_mem _ hx)
    refine ⟨p :: ps, by unfold showDs; rw [a, a2], by simp [goodPs, b, b2], ?_, ?_, by simp [PyData.hasDictAll, f, f2]⟩
    · simp only [szPs, List.length_cons, Nat.add_mul]
      omega
    · simp only [PyData.depthAll]
      omega
theorem repsD {n m : Nat} : ∀ {ds : List D}, (∀ d ∈ ds, RepD n m d) → ∃ ps, showDs ds = some ps ∧ goodPs ps = true ∧ szPs ps ≤ ds.length * (n + 2) ∧ PyData.depthAll ps ≤ m ∧ noLs ds = true
  | [], _ => ⟨[], rfl, rfl, Nat.zero_le _, by simp [PyData.depthAll], rfl⟩
  | d :: ds, h => by
    obtain ⟨p, a, b, c, e⟩ := (h d List.mem_cons_self).ex
    obtain ⟨ps, a2, b2, c2, e2, f2⟩ := repsD fun x hx => h x (List.mem_cons_of_mem _ hx)
    refine ⟨p :: ps, by unfold showDs; rw [a, a2], by simp [goodPs, b, b2], ?_, ?_, by simp [noLs, (h d List.mem_cons_self).nol, f2]⟩
    · simp only [szPs, List.length_cons, Nat.add_mul]
      omega
    · simp only [PyData.depthAll]
      omega
theorem repL_tup {n m : Nat} {ds : List D} (h : ∀ d ∈ ds, RepL n m d) : RepL (ds.length * (n + 2) + 3) (m + 1) (.tup ds) := by
  obtain ⟨ps, a, b, c, e, f⟩ := repsL h
  exact ⟨.tuple ps, by unfold showD; rw [a]; rfl, by simp [goodP, b], by simp only [szP]; omega, by simp only [PyData.depth]; omega, by simp [PyData.hasDict, f]⟩
theorem repL_lst {n m : Nat} {ds : List D} (h : ∀ d ∈ ds, RepL n m d) : RepL (ds.length * (n + 2) + 3) (m + 1) (.lst ds) := by
  obtain ⟨ps, a, b, c, e, f⟩ := repsL h
  exact ⟨.list ps, by unfold showD; rw [a]; rfl, by simp [goodP, b], by simp only [szP]; omega, by simp only [PyData.depth]; omega, by simp [PyData.hasDict, f]⟩
theorem repD_tup {n m : Nat} {ds : List D} (h : ∀ d ∈ ds, RepD n m d) : RepD (ds.length * (n + 2) + 3) (m + 1) (.tup ds) := by
  obtain ⟨ps, a, b, c, e, f⟩ := repsD h
  exact ⟨⟨.tuple ps, by unfold showD; rw [a]; rfl, by simp [goodP, b], by simp only [szP]; omega, by simp only [PyData.depth]; omega⟩, by simp [noL, f]⟩
theorem repL_str {z : Str} (h : PyData.strOk z = true) : RepL (10 * z.length + 2) 0 (.str z) := ⟨.str z, rfl, by simp [goodP, h], by simp [szP], by simp [PyData.depth], by simp [PyData.hasDict]⟩
theorem repD_str {z : Str} (h : PyData.strOk z = true) : RepD (10 * z.length + 2) 0 (.str z) := ⟨⟨.str z, rfl, by simp [goodP, h], by simp [szP], by simp [PyData.depth]⟩, rfl⟩
theorem repL_non : RepL 4 0 .non := ⟨.none, rfl, rfl, by simp [szP], by simp [PyData.depth], by simp [PyData.hasDict]⟩
theorem repL_bl (b : Bool) : RepL 5 0 (.bl b) := ⟨.bool b, rfl, rfl, by simp [szP], by simp [PyData.depth], by simp [PyData.hasDict]⟩
theorem repL_int {i : Int} (h : i.natAbs.log2 < 1920) : RepL 1921 0 (.int i) := ⟨.int i, rfl, by simp [goodP, h], by simp [szP], by simp [PyData.depth], by simp [PyData.hasDict]⟩
theorem repD_bl (b : Bool) : RepD 5 0 (.bl b) := ⟨⟨.bool b, rfl, rfl, by simp [szP], by simp [PyData.depth]⟩, rfl⟩
/-- a dict of texts -/
theorem repsK {n : Nat} : ∀ {ks : List Key} {ps : List PyData}, (∀ k ∈ ks, ∃ z : Str, k = .inr z ∧ PyData.strOk z = true ∧ z.length ≤ n) → goodPs ps = true → goodPk ((ks.map keyP).zip ps) = true ∧ szPk ((ks.map keyP).zip ps) ≤ ks.length * (10 * n + 6) + szPs ps
  | [], _, _, _ => ⟨rfl, Nat.zero_le _⟩
  | k :: ks, [], _, _ => ⟨rfl, Nat.zero_le _⟩
  | k :: ks, p :: ps, h, g => by
    have g' : goodP p = true ∧ goodPs ps = true := by simpa [goodPs] using g
    obtain ⟨z, rfl, h1, h2⟩ := h k List.mem_cons_self
    obtain ⟨a, b⟩ := repsK (ks := ks) (ps := ps) (fun x hx => h x (List.mem_cons_of_mem _ hx)) g'.2
    refine ⟨?_, ?_⟩
    · show (goodP (.str z) && goodP p && goodPk ((ks.map keyP).zip ps)) = true
      rw [a, g'.1]
      simp [goodP, h1]
    · show szP (.str z) + szP p + 4 + szPk ((ks.map keyP).zip ps) ≤ _
      simp only [szP, szPs, List.length_cons, Nat.add_mul]
      omega
theorem depthK : ∀ (ks : List Key) (ps : List PyData), PyData.depth (.dict ((ks.map keyP).zip ps)) ≤ PyData.depthAll ps + 1 := fun ks ps => by
  have : ∀ (ks : List Key) (ps : List PyData), PyData.depthKv ((ks.map keyP).zip ps) ≤ PyData.depthAll ps := fun ks => by
    induction ks with
    | nil => intro ps; simp [PyData.depthKv]
    | cons k ks ih =>
      intro ps
      cases ps with
      | nil => simp [PyData.depthKv]
      | cons p ps =>
        have := ih ps
        have e : (keyP k).depth = 0 := by cases k <;> simp [keyP, PyData.depth]
        rw [List.map_cons, List.zip_cons_cons]
        simp only [PyData.depthKv, PyData.depthAll, e]
        omega
  have := this ks ps
  simp only [PyData.depth]
  omega
theorem repD_dK {n j m : Nat} {ks : List Key} {ds : List D} (hk : ∀ k ∈ ks, ∃ z : Str, k = .inr z ∧ PyData.strOk z = true ∧ z.length ≤ n) (h : ∀ d ∈ ds, RepD j m d) : RepD (ks.length * (10 * n + 6) + ds.length * (j + 2) + 3) (m + 1) (.dK ks ds) := by
  obtain ⟨ps, a, b, c, e, f⟩ := repsD h
  obtain ⟨a2, b2⟩ := repsK (n := n) hk b
  exact ⟨⟨.dict ((ks.map keyP).zip ps), by unfold showD; rw [a]; rfl, by simp [goodP, a2], by simp only [szP]; omega, Nat.le_trans (depthK ks ps) (by omega)⟩, by simp [noL, f]⟩
/-- what dict(pairs) holds -/
theorem mergeD_all {P : Key → Prop} {R : D → Prop} : ∀ (more acc : List (Key × D)), (∀ kd ∈ acc, P kd.1 ∧ R kd.2) → (∀ kd ∈ more, P kd.1 ∧ R kd.2) → (∀ kd ∈ mergeD acc more, P kd.1 ∧ R kd.2) ∧ (mergeD acc more).length ≤ acc.length + more.length
  | [], acc, h, _ => ⟨h, Nat.le_refl _⟩
  | (k, d) :: r, acc, h, g => by
    have gk := g (k, d) List.mem_cons_self
    have ha : (∀ kd ∈ putD acc k d, P kd.1 ∧ R kd.2) ∧ (putD acc k d).length ≤ acc.length + 1 := by
      unfold putD
      split
      · refine ⟨fun kd hkd => ?_, by rw [List.length_map]; omega⟩
        obtain ⟨x, hx, rfl⟩ := List.mem_map.mp hkd
        by_cases e : x.1 = k
        · rw [if_pos e]
          exact ⟨(h x hx).1, gk.2⟩
        · rw [if_neg e]
          exact h x hx
      · refine ⟨fun kd hkd => ?_, by simp⟩
        rcases List.mem_append.mp hkd with hkd | hkd
        · exact h kd hkd
        · rw [List.mem_singleton] at hkd
          rw [hkd]
          exact gk
    obtain ⟨a, b⟩ := mergeD_all r (putD acc k d) ha.1 fun kd hkd => g kd (List.mem_cons_of_mem _ hkd)
    refine ⟨a, ?_⟩
    rw [List.length_cons]
    have := ha.2
    show (mergeD (putD acc k d) r).length ≤ _
    omega
/-! texts compared, whatever signs they have -/
def rdStrE (neg : Bool) : DR2 := fun x y S Q => match x, y with
  | .str a, .str b => Q (.bl (if neg then !decide (a = b) else decide (a = b))) S
  | _, _ => False
theorem decV {a b : Str} : decide (V.str a = V.str b) = decide (a = b) := by
  by_cases h : a = b
  · subst h; simp
  · simp [h]
theorem lift_neS {K : PySem.W.Frag} : Lift2 K rNe (rdStrE true) := by
  intro Z H S F x y v w Q P R iv iw q k
  unfold rdStrE at q
  split at q
  · cases iv; cases iw
    refine ⟨rfl, ?_⟩
    rw [decV]
    exact k _ _ ⟨_, S, F, .refl R, .bl _, q⟩
  · exact q.elim
theorem lift_eqSt {K : PySem.W.Frag} : Lift2 K rEq (rdStrE false) := by
  intro Z H S F x y v w Q P R iv iw q k
  unfold rdStrE at q
  split at q
  · cases iv; cases iw
    refine ⟨rfl, ?_⟩
    rw [decV]
    exact k _ _ ⟨_, S, F, .refl R, .bl _, q⟩
  · exact q.elim
theorem s_strE {neg : Bool} {a b : Str} {S : Store} {Q : DQ} (h : Q (.bl (if neg then !decide (a = b) else decide (a = b))) S) : rdStrE neg (.str a) (.str b) S Q := h
theorem room_in1 {k : Nat} {A : Around} (r : Room (k + 1) A) : Room k A.in1 := ⟨r.hd, (by have := r.dp; have e : A.in1.depth = A.depth := rfl; omega), (by have := r.un; have e : A.in1.units = A.units + 1 := rfl; omega)⟩
/-- keywords alone, behind so many arguments -/
def kwD (n m : Nat) (xs zs : List D) : List D := if xs.length = n ∧ zs.length = m then xs ++ zs else []
def kwV (n m : Nat) (xs zs : List V) : List V := if xs.length = n ∧ zs.length = m then xs ++ zs else []
def kwU (n m : Nat) (xs zs : List Value) : List Value := if xs.length = n ∧ zs.length = m then xs ++ zs else []
theorem kwD_ok {K : PySem.W.Frag} {n m : Nat} : ∀ (F : Hp) (xs : List D) (vs : List V) (zs : List D) (ws : List V), IsVs K F xs vs → IsVs K F zs ws → IsVs K F (kwD n m xs zs) (kwV n m vs ws) := fun F xs vs zs ws h g => by
  unfold kwD kwV
  rw [h.length, g.length]
  split
  · exact h.append g
  · exact .nil
theorem kw_binds {K : PySem.W.Frag} {x qual : Str} {st : Stmt} {f : Addr} {fd : FuncData} {ps ks : List Str} {n m : Nat} (F : Fun K x qual st f fd) (hp : 0 < ps.length)
    (h : ∀ (kV doc pm : Value) (an : Option Addr) (cdv ct : Value) (us ws : List Value), us.length = n → ws.length = m → bindArgs (PySem.W.fnOf x qual (defArgs st) (defBody st) (defScope st) .none kV doc pm an cdv ct) ⟨us, ks.zip ws⟩ = pure (ps.zip (us ++ ws))) : KBinds K fd ps ks (kwU n m) (kwV n m) := by
  obtain ⟨oc, od, kV, doc, pm, an, cdv, ct, osl, rfl, lk, hcd⟩ := F.ex
  refine ⟨fun s us ws _ hl => ?_, fun {vs us zs ws} r1 r2 => ?_⟩
  · unfold kwU at hl ⊢
    split at hl
    · rename_i hc
      rw [if_pos hc]
      exact .of_eq (h kV doc pm an cdv ct us ws hc.1 hc.2)
    · rw [List.length_nil] at hl
      omega
  · unfold kwV kwU
    rw [r1.length, r2.length]
    split
    · exact r1.append r2
    · exact .nil
section
variable {N : DEnds} {ρ : Sl} {S : Store} {Q : DQ} {E : DX} {ta : DTA}
theorem s_listZip (h : ta ρ S (fun ds S1 => ∃ d xs ys, ds = [d, .tup ys] ∧ lstD S1 d = some xs ∧ xs.length = ys.length ∧ Q (.lst ((xs.zip ys).map fun p => D.tup [p.1, p.2])) S1) E) : dListZip ta ρ S Q E := h
end
theorem zip_pairD : ∀ (ls : List (List Str)) (ys : List D), ((ls.map encT).zip ys).map (fun p => D.tup [p.1, p.2]) = ((ls.map keyT).zip ys).map pairD
  | [], _ => rfl
  | x :: ls, [] => rfl
  | x :: ls, y :: ys => by
    rw [List.map_cons, List.map_cons, List.zip_cons_cons, List.zip_cons_cons, List.map_cons, List.map_cons, zip_pairD ls ys]
    show D.tup [encT x, y] :: _ = D.tup [D.tup ((keyT x).map keyD), y] :: _
    rw [keyT_enc]
theorem map_pairD {f : List Str → D} : ∀ (ls : List (List Str)), (ls.map fun z => D.tup [encT z, f z]) = ((ls.map keyT).zip (ls.map f)).map pairD
  | [] => rfl
  | x :: ls => by
    rw [List.map_cons, List.map_cons, List.map_cons, List.zip_cons_cons, List.map_cons, map_pairD ls]
    show D.tup [encT x, f x] :: _ = D.tup [D.tup ((keyT x).map keyD), f x] :: _
    rw [keyT_enc]
theorem uniq_same {l z : List Str} (h : ∀ x, x ∈ l ↔ x ∈ z) : DLS.uniqS l = DLS.uniqS z :=
  DLS.uniqS_self (DLS.sortS_pw _) (DLS.uniqS_nodup z) fun k => DLS.uniqS_mem.trans (h k).symm
end DL

set_option maxRecDepth 100000
set_option maxHeartbeats 1000000
/-! DLH: comprehensions with two for. -/
namespace DL
open PySem PySem.Spec PyProof.Rows L2
/-- hidden: one address more -/
theorem Rel.unhide {K : PySem.W.Frag} {Z : Addr → Prop} {Dd : Addr} {H' : Hp} {S' : Store} {F' : Hp} (r : Rel K (fun b => Z b ∨ b = Dd) H' S' F') : Rel K Z H' S' F' ∧ S' Dd = none ∧ F' Dd = none :=
  ⟨⟨fun b u e => ⟨(r.sub b u e).1, (r.sub b u e).2.1, fun z => (r.sub b u e).2.2 (.inl z)⟩, fun b m e => ⟨fun z => (r.sto b m e).1 (.inl z), (r.sto b m e).2⟩, fun b z => r.hid b (.inl z)⟩,
   no_some fun m e => (r.sto Dd m e).1 (.inr rfl), no_some fun o e => (r.sub Dd o e).2.2 (.inr rfl)⟩
theorem Rel.wrHid {K : PySem.W.Frag} {Z : Addr → Prop} {Dd : Addr} {H' : Hp} {S' : Store} {F' : Hp} (ws : List V) (r : Rel K (fun b => Z b ∨ b = Dd) H' S' F') : Rel K (fun b => Z b ∨ b = Dd) (upd H' Dd (.lst ws)) S' F' := by
  obtain ⟨r1, hs, hf⟩ := r.unhide
  have ne : ∀ {b u}, F' b = some u → b ≠ Dd := fun e z => by rw [z, hf] at e; cases e
  have nes : ∀ {b u}, S' b = some u → b ≠ Dd := fun e z => by rw [z, hs] at e; cases e
  exact ⟨fun b u e => ⟨by rw [upd_ne (ne e)]; exact (r.sub b u e).1, (r.sub b u e).2⟩,
    fun b m e => ⟨(r.sto b m e).1, let ⟨o, h1, h2⟩ := (r.sto b m e).2; ⟨o, by rw [upd_ne (nes e)]; exact h1, h2⟩⟩,
    fun b z => by
      by_cases hb : b = Dd
      · subst hb
        exact ⟨_, upd_same⟩
      · rw [upd_ne hb]
        exact r.hid b z⟩
theorem Rel.newHid {K : PySem.W.Frag} {Z : Addr → Prop} {Dd : Addr} {H1 : Hp} {S1 : Store} {F1 : Hp} (A : Rel K Z H1 S1 F1) (hD : H1 Dd = none) : Rel K (fun b => Z b ∨ b = Dd) (upd H1 Dd (.lst [])) S1 F1 := by
  have ne : ∀ {b u}, H1 b = some u → b ≠ Dd := fun e z => by rw [z, hD] at e; cases e
  refine ⟨fun b u e => ?_, fun b m e => ?_, fun b z => ?_⟩
  · have h := A.sub b u e
    exact ⟨by rw [upd_ne (ne h.1)]; exact h.1, h.2.1, fun z => z.elim h.2.2 (ne h.1)⟩
  · obtain ⟨h1, o, h2, h3⟩ := A.sto b m e
    exact ⟨fun z => z.elim h1 (ne h2), o, by rw [upd_ne (ne h2)]; exact h2, h3⟩
  · rcases z with z | z
    · obtain ⟨o, e⟩ := A.hid b z
      exact ⟨o, by rw [upd_ne (ne e)]; exact e⟩
    · subst z
      exact ⟨_, upd_same⟩
/-- the outer items' turns -/
def dLc2Go (tg : Tgt) (tt : DTT) (ti1 : DTI) (tg1 : Tgt) (tt1 : DTT) (te : DTE) (vs1 : List Nat) (ρ : Sl) : List D → List D → Store → (List D → Store → Prop) → Prop
  | [], acc, S, Q => Q acc S
  | d :: r, acc, S, Q => ∃ ρ1, bindT tg d ρ = some ρ1 ∧ tt ρ1 S (fun b S1 => if b = true then ti1 ρ1 S1 (fun its S2 => acc.length + its.length ≤ sizeLine ∧ dLcGo tg1 tt1 te (wipeD ρ1 vs1) its acc S2 fun acc' S3 => dLc2Go tg tt ti1 tg1 tt1 te vs1 ρ r acc' S3 Q) (fun _ _ _ _ => False)
      else dLc2Go tg tt ti1 tg1 tt1 te vs1 ρ r acc S1 Q) fun _ _ _ _ => False
def dLc2I (ti : DTI) (tg : Tgt) (tt : DTT) (ti1 : DTI) (tg1 : Tgt) (tt1 : DTT) (te : DTE) (vs vs1 : List Nat) : DTA := fun ρ S Q E => ti ρ S (fun items S1 => dLc2Go tg tt ti1 tg1 tt1 te vs1 (wipeD ρ vs) items [] S1 Q) E
def dLc2 (ti : DTI) (tg : Tgt) (tt : DTT) (ti1 : DTI) (tg1 : Tgt) (tt1 : DTT) (te : DTE) (vs vs1 : List Nat) : DTE := fun ρ S Q E => dLc2I ti tg tt ti1 tg1 tt1 te vs vs1 ρ S (fun ds S1 => Q (.lst ds) S1) E
section
variable {K : PySem.W.Frag} {W : WX} {ti ti1 : DTI} {g g1 : Tgt} {tt tt1 : DTT} {te : DTE} {vs vs1 : List Nat}
theorem lc2_lift (hv : ∀ i ∈ g.slots, i ∈ vs) (hv1 : ∀ i ∈ g1.slots, i ∈ vs1) {σ : L2.St} {H : Hp} {P : VK} {ρ : Sl} {S : Store} {F : Hp} {Z : Addr → Prop} {Qd : List D → Store → Prop} {Ex : DX} (R : Rel K Z H S F) (E : EnvR K F ρ σ) (q : dLc2I ti g tt ti1 g1 tt1 te vs vs1 ρ S Qd Ex)
    (k : ∀ (H1 F1 : Hp) (S1 : Store) (Dd : Addr) (ds : List D) (ws : List V), Aft K Z H F H1 S1 F1 → H1 Dd = some (.lst ws) → IsVs K F1 ds ws → S1 Dd = none → F1 Dd = none → ¬ Z Dd → Qd ds S1 → P (.ref Dd) H1) (xl : ∀ cls d H', LftX K Z H F Ex cls d H' → W cls d σ H') :
    tLc2 (upI K W ti) (tgV K g) (upT K W0 tt) (upI K W0 ti1) (tgV K g1) (upT K W0 tt1) (upE K W0 te) vs vs1 σ H P := by
  refine ⟨ρ, S, F, Z, _, _, R, E, q, fun J H1 items S1 F1 A1 ok q1 Dd hD => ?_, xl⟩
  have E1 : EnvR K F1 (wipeD ρ vs) (L2.wipe σ vs) := (E.up A1.sm).wipe vs
  have zD : ¬ Z Dd := fun z => by
    obtain ⟨o, e⟩ := A1.rel.hid Dd z
    rw [hD] at e; cases e
  have Rb := A1.rel.newHid hD
  let Z' : Addr → Prop := fun b => Z b ∨ b = Dd
  refine ⟨fun i m H' => m = items.length - i ∧ i ≤ items.length ∧ ∃ (S' : Store) (F' : Hp) (acc : List D) (ws : List V), Same F1 F' ∧ Rel K Z' H' S' F' ∧ Keep Z H1 H' ∧ H' Dd = some (.lst ws) ∧ IsVs K F' acc ws ∧ dLc2Go g tt ti1 g1 tt1 te vs1 (wipeD ρ vs) (items.drop i) acc S' Qd,
    ⟨items.length, rfl, Nat.zero_le _, S1, F1, [], [], Same.refl _, Rb, fun b o z e => ?_, upd_same, .nil, q1⟩, ?_⟩
  · have hb : b ≠ Dd := fun q => zD (q ▸ z)
    rw [upd_ne hb]; exact e
  rintro i m H2 ⟨rfl, hi, S2, F2, acc, ws, s2, R2, k2, hd2, iv2, q2⟩
  by_cases hlt : i < items.length
  · refine .inr ⟨ok.go H2 S2 F2 Z' s2 R2 i hlt, fun H' => i + 1 ≤ items.length ∧ ∃ (S' : Store) (F' : Hp) (acc : List D) (ws : List V), Same F1 F' ∧ Rel K Z' H' S' F' ∧ Keep Z H1 H' ∧ H' Dd = some (.lst ws) ∧ IsVs K F' acc ws ∧ dLc2Go g tt ti1 g1 tt1 te vs1 (wipeD ρ vs) (items.drop (i + 1)) acc S' Qd,
      fun H' p' => ⟨items.length - (i + 1), by omega, rfl, p'⟩, fun x H3 hy => ?_⟩
    obtain ⟨F3, d, A3, hd3, iv3⟩ := ok.yld H2 S2 F2 Z' s2 R2 i x H3 hlt hy
    rw [drop_at hd3] at q2
    obtain ⟨ρ3, hb3, q3⟩ := q2
    have s3 := s2.trans A3.sm
    have hD3 : H3 Dd = some (.lst ws) := A3.kp Dd _ (.inr rfl) hd2
    refine tgV_ok A3.rel ((E1.up s2).up A3.sm) iv3 hb3 fun σ3 E3 ⟨is, us, hσ, hg⟩ => ⟨?_, ?_⟩
    · have hin : ∀ j ∈ is, j ∈ vs := by
        rcases hg with rfl | ⟨j, w, rfl, rfl, _⟩
        · exact hv
        · exact hv
      rw [hσ, wipe_setAll is us _ hin, wipe_wipe vs vs fun _ h => h]
    · refine ⟨ρ3, S2, F3, Z', _, _, A3.rel, E3, q3, fun b H4 ⟨S4, F4, A4, q4⟩ => ?_, fun _ _ _ ⟨_, _, _, _, _, _, _, _, z⟩ => z.elim⟩
      have s4 := s3.trans A4.sm
      have hD4 : H4 Dd = some (.lst ws) := A4.kp Dd _ (.inr rfl) hD3
      have kz : Keep Z H1 H4 := fun b o z e => A4.kp b o (.inl z) (A3.kp b o (.inl z) (k2 b o z e))
      have iv4 := (iv2.up A3.sm).up A4.sm
      have E4 := E3.up A4.sm
      cases b with
      | false => exact iteF ⟨hlt, S4, F4, acc, ws, s4, A4.rel, kz, hD4, iv4, iteF' q4⟩
      | true =>
        refine iteT ⟨ρ3, S4, F4, Z', _, _, A4.rel, E4, iteT' q4, fun J1 H5 its S5 F5 A5 ok1 ⟨hz, q5⟩ => ?_, fun _ _ _ ⟨_, _, _, _, _, _, _, _, z⟩ => z.elim⟩
        have s5 := s4.trans A5.sm
        have hD5 : H5 Dd = some (.lst ws) := A5.kp Dd _ (.inr rfl) hD4
        have kz5 : Keep Z H1 H5 := fun b o z e => A5.kp b o (.inl z) (kz b o z e)
        have iv5 := iv4.up A5.sm
        have E5 : EnvR K F5 (wipeD ρ3 vs1) (L2.wipe σ3 vs1) := (E4.up A5.sm).wipe vs1
        refine ⟨fun j m H' => m = its.length - j ∧ j ≤ its.length ∧ ∃ (S' : Store) (F' : Hp) (acc2 : List D) (ws2 : List V), Same F5 F' ∧ Rel K Z' H' S' F' ∧ Keep Z H1 H' ∧ H' Dd = some (.lst ws2) ∧ IsVs K F' acc2 ws2 ∧ ws2.length ≤ acc.length + j ∧ dLcGo g1 tt1 te (wipeD ρ3 vs1) (its.drop j) acc2 S' fun acc' S3 => dLc2Go g tt ti1 g1 tt1 te vs1 (wipeD ρ vs) (items.drop (i + 1)) acc' S3 Qd,
          ⟨its.length, rfl, Nat.zero_le _, S5, F5, acc, ws, Same.refl _, A5.rel, kz5, hD5, iv5, by rw [iv5.length]; exact Nat.le_refl _, q5⟩, ?_⟩
        rintro j m H6 ⟨rfl, hj, S6, F6, acc6, ws6, s6, R6, k6, hd6, iv6, hl6, q6⟩
        by_cases hlt1 : j < its.length
        · refine .inr ⟨ok1.go H6 S6 F6 Z' s6 R6 j hlt1, fun H' => j + 1 ≤ its.length ∧ ∃ (S' : Store) (F' : Hp) (acc2 : List D) (ws2 : List V), Same F5 F' ∧ Rel K Z' H' S' F' ∧ Keep Z H1 H' ∧ H' Dd = some (.lst ws2) ∧ IsVs K F' acc2 ws2 ∧ ws2.length ≤ acc.length + (j + 1) ∧ dLcGo g1 tt1 te (wipeD ρ3 vs1) (its.drop (j + 1)) acc2 S' fun acc' S3 => dLc2Go g tt ti1 g1 tt1 te vs1 (wipeD ρ vs) (items.drop (i + 1)) acc' S3 Qd,
            fun H' p' => ⟨its.length - (j + 1), by omega, rfl, p'⟩, fun x1 H7 hy1 => ?_⟩
          obtain ⟨F7, d7, A7, hd7, iv7⟩ := ok1.yld H6 S6 F6 Z' s6 R6 j x1 H7 hlt1 hy1
          rw [drop_at hd7] at q6
          obtain ⟨ρ7, hb7, q7⟩ := q6
          have s7 := s6.trans A7.sm
          have hD7 : H7 Dd = some (.lst ws6) := A7.kp Dd _ (.inr rfl) hd6
          refine tgV_ok A7.rel ((E5.up s6).up A7.sm) iv7 hb7 fun σ7 E7 ⟨is, us, hσ, hg⟩ => ⟨?_, ?_⟩
          · have hin : ∀ j ∈ is, j ∈ vs1 := by
              rcases hg with rfl | ⟨j, w, rfl, rfl, _⟩
              · exact hv1
              · exact hv1
            rw [hσ, wipe_setAll is us _ hin, wipe_wipe vs1 vs1 fun _ h => h]
          · refine ⟨ρ7, S6, F7, Z', _, _, A7.rel, E7, q7, fun b H8 ⟨S8, F8, A8, q8⟩ => ?_, fun _ _ _ ⟨_, _, _, _, _, _, _, _, z⟩ => z.elim⟩
            have s8 := s7.trans A8.sm
            have hD8 : H8 Dd = some (.lst ws6) := A8.kp Dd _ (.inr rfl) hD7
            have k8 : Keep Z H1 H8 := fun b o z e => A8.kp b o (.inl z) (A7.kp b o (.inl z) (k6 b o z e))
            cases b with
            | false => exact iteF ⟨hlt1, S8, F8, acc6, ws6, s8, A8.rel, k8, hD8, (iv6.up A7.sm).up A8.sm, by omega, iteF' q8⟩
            | true =>
              refine iteT ⟨ρ7, S8, F8, Z', _, _, A8.rel, E7.up A8.sm, iteT' q8, fun y H9 ⟨dy, S9, F9, A9, iv9, q9⟩ => ?_, fun _ _ _ ⟨_, _, _, _, _, _, _, _, z⟩ => z.elim⟩
              have hD9 : H9 Dd = some (.lst ws6) := A9.kp Dd _ (.inr rfl) hD8
              refine ⟨ws6, hD9, by omega, hlt1, S9, F9, acc6 ++ [dy], ws6 ++ [y], s8.trans A9.sm, A9.rel.wrHid _, fun b o z e => ?_, upd_same, (((iv6.up A7.sm).up A8.sm).up A9.sm).append (.cons iv9 .nil), ?_, q9⟩
              · have hb : b ≠ Dd := fun q => zD (q ▸ z)
                rw [upd_ne hb]
                exact A9.kp b o (.inl z) (k8 b o z e)
              · rw [List.length_append, List.length_singleton]; omega
        · have e : j = its.length := by omega
          subst e
          rw [List.drop_length] at q6
          exact .inl ⟨ok1.stop H6 S6 F6 Z' s6 R6, hlt, S6, F6, acc6, ws6, s5.trans s6, R6, k6, hd6, iv6, q6⟩
  · have e : i = items.length := by omega
    subst e
    rw [List.drop_length] at q2
    obtain ⟨r2, hs2, hf2⟩ := R2.unhide
    refine .inl ⟨ok.stop H2 S2 F2 Z' s2 R2, k H2 F2 S2 Dd acc ws (A1.trans ⟨s2, r2, k2⟩) hd2 iv2 hs2 hf2 zD q2⟩
end
section
variable {X : Cx} {W : WX} {elt tg iter tg1 iter1 : Expr} {ifs ifs1 : List Expr} {scope : Scope} {own : List (Str × Nat)} {pos spos : Pos} {ti ti1 : DTI} {g g1 : Tgt} {tt tt1 : DTT} {te : DTE}
theorem lift_lc2 (hv : ∀ i ∈ g.slots, i ∈ own.map (·.2)) : ∀ σ H P, upE X.K W (dLc2 ti g tt ti1 g1 tt1 te (own.map (·.2)) g1.slots) σ H P → tLc2 (upI X.K W ti) (tgV X.K g) (upT X.K W0 tt) (upI X.K W0 ti1) (tgV X.K g1) (upT X.K W0 tt1) (upE X.K W0 te) (own.map (·.2)) g1.slots σ H P := fun σ H P ⟨ρ, S, F, Z, Q, E, R, V, q, k, x⟩ =>
  lc2_lift hv (fun _ h => h) R V q (fun H1 F1 S1 Dd ds ws A1 hd iv hs hf zd q1 => by
    obtain ⟨R2, s2⟩ := A1.rel.own hd hs hf zd
    exact k _ _ ⟨.lst ds, S1, _, A1.trans ⟨s2, R2, Keep.refl⟩, .lst upd_same (iv.up s2), q1⟩) x
theorem de_lc2 (hc : X.calm = true) (hN : X.N.Nodup) (hi : DI X W tg iter ti) (ok : BlkOk X.N X.env.scope scope own) (hg : Blk X scope fun Y => DG Y tg g) (ht : Blk X scope fun Y => DTs Y ifs tt)
    (hi1 : Blk X scope fun Y => DI Y W0 tg1 iter1 ti1) (hg1 : Blk X scope fun Y => DG Y tg1 g1) (ht1 : Blk X scope fun Y => DTs Y ifs1 tt1) (he : Blk X scope fun Y => DE Y W0 elt te)
    (hv : ∀ i ∈ g.slots, i ∈ own.map (·.2) := by decide) (hv1 : ∀ i ∈ g1.slots, i ∈ own.map (·.2) := by decide) (hs : ∀ x, foldedSetIterable iter X.env x = pure x := by intro _; rfl) (hs1 : ∀ env x, foldedSetIterable iter1 env x = pure x := by intro _ _; rfl) :
    DE X W (.ListComp elt [⟨tg, iter, ifs, 0⟩, ⟨tg1, iter1, ifs1, 0⟩] scope pos) (dLc2 ti g tt ti1 g1 tt1 te (own.map (·.2)) g1.slots) :=
  de_pe (pe_lc2 hc hN hi.pi ok hv1 (fun s H C cl fp => (hg s H C cl fp).pg) (fun s H C cl fp => (ht s H C cl fp).pt) (fun s H C cl fp => (hi1 s H C cl fp).pi) (fun s H C cl fp => (hg1 s H C cl fp).pg) (fun s H C cl fp => (ht1 s H C cl fp).pt) (fun s H C cl fp => (he s H C cl fp).pe) hs hs1) (lift_lc2 hv)
end
end DL

set_option maxRecDepth 100000
set_option maxHeartbeats 1000000
/-! DLI: for a, b in zip(list, tuple). -/
namespace DL
open PySem PySem.Spec PyProof.Rows L2
/-- the turns of zip(list, tuple) -/
def ItLT (K : PySem.W.Frag) (l t : Addr) : It where
  go := fun i H => ∃ xs ys x y, SqL K H l xs ∧ SqT K H t ys ∧ xs[i]? = some x ∧ ys[i]? = some y
  yld := fun i H v H' => ∃ T x y, v = V.ref T ∧ H T = none ∧ H' = upd H T (.tup [x, y]) ∧ (∀ xs, SqL K H l xs → xs[i]? = some x) ∧ ∀ ys, SqT K H t ys → ys[i]? = some y
  stop := fun i H => ∃ xs ys, SqL K H l xs ∧ SqT K H t ys ∧ (xs.length ≤ i ∨ ys.length ≤ i)
def zst (z TI TO i1 i2 l t : Addr) (i : Nat) (h : Heap) : Prop := IsZip h z TI TO .none ∧ IsPair h TI (.ref i1) (.ref i2) ∧ (∃ x y, IsPair h TO x y) ∧ h.IsListIter i1 l i ∧ h.IsTupleIter i2 t i
theorem at_some {xs : List V} {its : List Value} (r : Vals xs its) {i : Nat} {x : V} (e : xs[i]? = some x) : ∃ u, its.toArray[i]? = some u ∧ RelV x u := by
  obtain ⟨u, a, b⟩ := r.get e
  exact ⟨u, by rw [← Array.getElem?_toList]; exact a, b⟩
theorem turn_zipLT {P : Program} {w : World} {K : PySem.W.Frag} {elts : List Expr} {kk : Nat} {tpos : Pos} {l t z TI TO i1 i2 : Addr} (D : ZipApart z TI TO i1 i2 l t) :
    Turn P w K (.Tuple elts kk tpos) (ItLT K l t) [z, TI, TO, i1, i2] z (zst z TI TO i1 i2 l t) where
  mem := List.mem_cons_self
  obj := fun i h ⟨a, b, ⟨x, y, c⟩, ⟨o1, d1, _, d2⟩, ⟨o2, e1, _, e2⟩⟩ q hq => by
    simp only [List.mem_cons, List.not_mem_nil, or_false] at hq
    rcases hq with rfl | rfl | rfl | rfl | rfl
    · exact ⟨_, a, fun v => by intro e; cases e⟩
    · exact ⟨_, b, fun v => by intro e; cases e⟩
    · exact ⟨_, c, fun v => by intro e; cases e⟩
    · exact ⟨_, d1, fun v => by rw [d2]; intro e; cases e⟩
    · exact ⟨_, e1, fun v => by rw [e2]; intro e; cases e⟩
  keep := fun i h h' ⟨a, b, ⟨x, y, c⟩, ⟨o1, d1, d2⟩, ⟨o2, e1, e2⟩⟩ k =>
    ⟨k z (by simp) _ a, k TI (by simp) _ b, ⟨x, y, k TO (by simp) _ c⟩, ⟨o1, k i1 (by simp) _ d1, d2⟩, ⟨o2, k i2 (by simp) _ e1, e2⟩⟩
  item := fun X e1 e2 e3 hc i pins s σ H E I fp ⟨hz, hTI, ⟨x0, y0, hTO⟩, h1, h2⟩ ⟨xs, ys, x, y, sx, sy, ax, ay⟩ => by
    subst e1; subst e2; subst e3
    obtain ⟨its, rv, p1, z1⟩ := I.list sx
    obtain ⟨its2, rv2, p2, z2⟩ := I.tuple sy
    obtain ⟨u, hu, ru⟩ := at_some rv ax
    obtain ⟨u2, hu2, ru2⟩ := at_some rv2 ay
    have p2 : s.heap.IsTuple t its2.toArray := p2
    have hTy : s.TypeIs (.ref z) "zip" := ⟨_, hz, rfl⟩
    unfold pyNext
    refine wpAny_bind (wpAny_attempt (wpAny_callSpecial?_slot (name := Str.ofString "__next__") hTy F.slot_zip_next
      (wpAny_call_entry F.slot_zip_next hTy F.entry_zip_next
        (DLZ.zip_turn_new D (.list i1 l its.toArray) (.tuple i2 t its2.toArray) hz hTI hTO ⟨h1, p1.isList⟩ ⟨h2, p2⟩ hu hu2 fun h' a1 a2 a3 a4 a5 a6 a7 => wpAny_pure ?_) (F.args_zip_next_1 _))))
    refine ⟨_, rfl, wpAny_letOwnedTupleGo_zip a1 fun g b1 b2 => ?_⟩
    have zlt : z < s.heap.objs.size := Heap.lt_size hz
    have zne : z ≠ s.heap.objs.size := Nat.ne_of_lt zlt
    have kg : ∀ c o, c ≠ z → h'.get? c = some o → g.get? c = some o := fun c o hc e => (b2.2 c hc).trans e
    have hT : IsPair g s.heap.objs.size u u2 := kg _ _ (Ne.symm zne) a5
    have kp : ∀ c o, c ∉ [z, TO, i1, i2] → s.heap.get? c = some o → g.get? c = some o := fun c o hm e => by
      simp only [List.mem_cons, List.not_mem_nil, or_false, not_or] at hm
      exact kg c o hm.1 (a7 c o hm.1 hm.2.1 hm.2.2.1 hm.2.2.2 e)
    have ob : ObjOk X.prog X.w (upd H s.heap.objs.size (.tup [x, y])) g s.heap.objs.size (.tup [x, y]) := ⟨by show 2 ≤ sizeLine; decide, [u, u2], .cons ru (.cons ru2 .nil), _, hT, rfl, _, rfl⟩
    have J := I.turnedNew (h' := g) (t' := s.toks) (ch := [z, TO, i1, i2]) kp (fun b hb => fp b (by
      simp only [List.mem_cons, List.not_mem_nil, or_false] at hb ⊢
      rcases hb with h | h | h | h
      · exact .inl h
      · exact .inr (.inr (.inl h))
      · exact .inr (.inr (.inr (.inl h)))
      · exact .inr (.inr (.inr (.inr h))))) (Nat.le_refl _) ob
    have nn : H s.heap.objs.size = none := I.fresh
    refine ⟨.ref s.heap.objs.size, _, J, rfl, ⟨_, x, y, rfl, nn, rfl, fun xs' sx' => ?_, fun ys' sy' => ?_⟩, ⟨b1, kg _ _ D.TIz (a7 _ _ D.TIz D.TITO D.TIi1 D.TIi2 hTI), ⟨u, u2, kg _ _ D.TOz a2⟩, ?_, ?_⟩, fun b hb => ?_⟩
    · rw [I.list_inj sx' sx]; exact ax
    · rw [I.tuple_inj sy' sy]; exact ay
    · obtain ⟨⟨o, c1, c2⟩, _⟩ := a3
      exact ⟨o, kg _ _ D.i1z c1, c2⟩
    · obtain ⟨⟨o, c1, c2⟩, _⟩ := a4
      exact ⟨o, kg _ _ D.i2z c1, c2⟩
    · have hl : b < s.heap.objs.size := by
        simp only [List.mem_cons, List.not_mem_nil, or_false] at hb
        rcases hb with rfl | rfl | rfl | rfl | rfl
        · exact zlt
        · exact Heap.lt_size hTI
        · exact Heap.lt_size hTO
        · obtain ⟨o, c1, _⟩ := h1
          exact Heap.lt_size c1
        · obtain ⟨o, c1, _⟩ := h2
          exact Heap.lt_size c1
      rw [upd_ne (Nat.ne_of_lt hl)]
      exact (fp b hb).1
  done := fun X e1 e2 e3 hc i pins s σ H E I fp ⟨hz, hTI, ⟨x0, y0, hTO⟩, h1, h2⟩ ⟨xs, ys, sx, sy, hl⟩ => by
    subst e1; subst e2; subst e3
    obtain ⟨its, rv, p1, z1⟩ := I.list sx
    obtain ⟨its2, rv2, p2, z2⟩ := I.tuple sy
    have p2 : s.heap.IsTuple t its2.toArray := p2
    refine DLZ.zip_done (I.ok.hd hc) D (.list i1 l its.toArray) (.tuple i2 t its2.toArray) (got := none) ⟨hTI, hz, _, _, hTO⟩ ⟨h1, p1.isList⟩ ⟨h2, p2⟩ ?_ fun h' kp => ⟨rfl, ?_⟩
    · rcases hl with h | h
      · exact .inl (Array.getElem?_eq_none (by rw [List.size_toArray, ← rv.length]; exact h))
      · exact .inr (Array.getElem?_eq_none (by rw [List.size_toArray, ← rv2.length]; exact h))
    · refine I.turnedL (t' := s.toks) (ch := [z, TO, i1, i2]) (fun b o hm e => ?_) (fun b hb => fp b (by
        simp only [List.mem_cons, List.not_mem_nil, or_false] at hb ⊢
        rcases hb with h | h | h | h
        · exact .inl h
        · exact .inr (.inr (.inl h))
        · exact .inr (.inr (.inr (.inl h)))
        · exact .inr (.inr (.inr (.inr h)))))
      simp only [List.mem_cons, List.not_mem_nil, or_false, not_or] at hm
      exact kp b o hm.1 hm.2.1 hm.2.2.1 hm.2.2.2 e
  self := fun A i s Q E ⟨hz, _⟩ q => wpAny_pyIter_zip hz q
section
variable {X : Cx} {e1 e2 : Expr} {ta : TA} {p pos tpos : Pos} {elts : List Expr} {kk : Nat}
def iZipLT (K : PySem.W.Frag) (ta : TA) : TI := fun σ H R => ta σ H fun vs H1 => ∃ a b xs ys, Zs K H1 vs a b xs ys ∧ R (ItLT K a b) H1
theorem pi_zipLT (hg : Gl X "zip") (hm : X.mg "zip" = none) (ha : PA X [e1, e2] ta) (hs : starEach [e1, e2] X.env = (false, eval e1 X.env) :: starEach [e2] X.env := by rfl) (hpl : (backTo pos (starEach [e2] X.env)).any (·.1) = false := by rfl) :
    PI X (.Tuple elts kk tpos) (.Call (.Name "zip" p) [e1, e2] [] pos) (iZipLT X.K ta) := by
  refine ⟨fun pins s σ H R I h => ?_⟩
  refine PyProof.Rows.Call_ (ld_blt I hg hm PyProof.Rows.boot_zip (PyProof.Rows.callWith_type1 (thn (ha.run pos pins s σ H _ I h) fun us s1 ⟨vs, H1, I1, r1, a, b, xs, ys, hz, q1⟩ => ?_) hs hpl))
  refine run_zip I1 r1 hz fun h' its its2 n hn rv rv2 sz st st1 st2 la lb szh kp => ?_
  obtain ⟨hTI, hzz, x0, y0, hTO⟩ := st
  have J : Inv X pins σ H1 { (⟨s1.heap, s1.gens, s1.drawn, s1.toks, s1.os⟩ : Shared) with heap := h' } := I1.kept (t' := s1.toks) kp
  refine wpAny_pyIter_zip hzz ⟨n + 4, [n + 4, n + 2, n + 3, n, n + 1], zst (n + 4) (n + 2) (n + 3) n (n + 1) a b, _, H1, rfl, J, turn_zipLT (DLZ.apart la lb), ⟨hzz, hTI, ⟨x0, y0, hTO⟩, st1.1, st2.1⟩, fun c hc => ?_, q1⟩
  have big : s1.heap.objs.size ≤ c := by
    rw [← hn]
    simp only [List.mem_cons, List.not_mem_nil, or_false] at hc
    rcases hc with rfl | rfl | rfl | rfl | rfl
    · exact Nat.le_add_right _ _
    · exact Nat.le_add_right _ _
    · exact Nat.le_add_right _ _
    · exact Nat.le_refl _
    · exact Nat.le_add_right _ _
  exact I1.fpOk big (I1.hok.fresh big)
end
section
variable {X : Cx} {W : WX} {e1 e2 : Expr} {t : DTA} {p pos tpos : Pos} {elts : List Expr} {kk : Nat}
def dItZ (t : DTA) : DTI := fun ρ S Q E => t ρ S (fun ds S1 => ∃ xs ys, ds = [.lst xs, .tup ys] ∧ xs.length = ys.length ∧ Q ((xs.zip ys).map fun p => D.tup [p.1, p.2]) S1) E
theorem itOk_zip {K : PySem.W.Frag} {F : Hp} {a b : Addr} {vs ws : List V} {xs ys : List D} (h1 : SqL K F a vs) (h2 : IsVs K F xs vs) (g1 : F b = some (.tup ws)) (g2 : IsVs K F ys ws) (hn : xs.length = ys.length) : ItOk K (ItLT K a b) ((xs.zip ys).map fun p => D.tup [p.1, p.2]) F where
  go := fun H S F' Z s R i hi => by
    rw [List.length_map, List.length_zip, hn, Nat.min_self] at hi
    exact ⟨vs, ws, _, _, R.sql (L2.Same.seq s h1), R.sqt (SqT.of (s _ _ g1)), List.getElem?_eq_getElem (by rw [← h2.length, hn]; exact hi), List.getElem?_eq_getElem (by rw [← g2.length]; exact hi)⟩
  stop := fun H S F' Z s R => by
    rw [List.length_map, List.length_zip, hn, Nat.min_self]
    exact ⟨vs, ws, R.sql (L2.Same.seq s h1), R.sqt (SqT.of (s _ _ g1)), .inr (by rw [g2.length]; exact Nat.le_refl _)⟩
  yld := fun H S F' Z s R i x H' hi hy => by
    obtain ⟨T, v, w, rfl, hT, rfl, hv, hw⟩ := hy
    have e1 := hv vs (R.sql (L2.Same.seq s h1))
    have e2 := hw ws (R.sqt (SqT.of (s _ _ g1)))
    obtain ⟨d1, hd1, iv1⟩ := h2.getV e1
    obtain ⟨d2, hd2, iv2⟩ := g2.getV e2
    obtain ⟨R2, s2, k2⟩ := R.laid (o := .tup [v, w]) hT
    refine ⟨_, .tup [d1, d2], ⟨s2, R2, k2⟩, ?_, .tup upd_same (.cons ((iv1.up s).up s2) (.cons ((iv2.up s).up s2) .nil))⟩
    rw [List.getElem?_map, List.getElem?_zip_eq_some (z := (d1, d2)) |>.mpr ⟨hd1, hd2⟩]
    rfl
theorem di_zip (hm : X.mg "zip" = none) (ha : DA X W [e1, e2] t) (hg : Gl X "zip" := by rfl) (hs : starEach [e1, e2] X.env = (false, eval e1 X.env) :: starEach [e2] X.env := by rfl) (hpl : (backTo pos (starEach [e2] X.env)).any (·.1) = false := by rfl) :
    DI X W (.Tuple elts kk tpos) (.Call (.Name "zip" p) [e1, e2] [] pos) (dItZ t) :=
  ⟨pi_imp (pi_zipLT hg hm ha.pa hs hpl) fun σ H P ⟨ρ, S, F, Z, Q, E, R, V, q, k, x⟩ => ⟨ρ, S, F, Z, _, E, R, V, q, fun vs H1 ⟨ds, S1, F1, A1, i1, xs, ys, hd, hn, q1⟩ => by
    subst hd
    obtain ⟨v, w, rfl, j1, j2⟩ := isVs_two i1
    obtain ⟨b, ws, rfl, g1, g2⟩ := tup_inv j2
    cases j1 with
    | lst h1 h2 =>
      exact ⟨_, b, _, ws, ⟨rfl, SqL.of (A1.rel.sub _ _ h1).1, SqT.of (A1.rel.sub _ _ g1).1, by rw [← h2.length, ← g2.length]; exact hn⟩, k _ _ _ S1 F1 A1 (itOk_zip (SqL.of h1) h2 g1 g2 hn) q1⟩, x⟩⟩
end
end DL

set_option maxRecDepth 100000
set_option maxHeartbeats 1000000
/-! DLJ: tuples whose object is known (kup): made by +, counted; join. -/
namespace DL
open PySem PySem.Spec PyProof.Rows L2
/-- t + u of tuples: what is made anew is known -/
def rCatK (K : PySem.W.Frag) : R2 := fun x y H Q => ∃ (l b : Addr) (xs zs : List V), x = .ref l ∧ y = .ref b ∧ SqT K H l xs ∧ SqT K H b zs ∧ xs.length + zs.length ≤ sizeLine ∧ (xs = [] → Q (.ref b) H) ∧ (xs ≠ [] → zs = [] → Q (.ref l) H) ∧
  (xs ≠ [] → zs ≠ [] → ∀ (p : Addr) (o : Obj), o.dict = none → H p = none → Q (.ref p) (upd H p (.frz o (.tup (xs ++ zs)))))
theorem vals_app : ∀ {xs ys : List V} {us ws : List Value}, Vals xs us → Vals ys ws → Vals (xs ++ ys) (us ++ ws)
  | _, _, _, _, .nil, h => h
  | _, _, _, _, .cons a b, h => .cons a (vals_app b h)
theorem valsNil {xs : List V} {us : List Value} (h : Vals xs us) : us.toArray.isEmpty = true ↔ xs = [] := by
  cases h with
  | nil => simp
  | cons _ _ => simp
theorem op_catK {X : Cx} : OpR X (binaryOp .Add) (rCatK X.K) := by
  intro pins s σ H x y v u Q I rx ry ⟨l, b, xs, zs, hx, hy, sx, sy, hl, q1, q2, q3⟩
  subst hx
  subst hy
  cases rx
  cases ry
  obtain ⟨us, rv, ⟨o1, g1, c1, n1, d1⟩, _⟩ := I.tuple sx
  obtain ⟨ws, rw_, ⟨o2, g2, c2, n2, d2⟩, _⟩ := I.tuple sy
  obtain ⟨_, dd1, _, sl1⟩ := o1
  obtain ⟨_, dd2, _, sl2⟩ := o2
  cases c1
  cases d1
  cases c2
  cases d2
  refine binaryOp_concat (T := "tuple") ⟨_, g1, rfl⟩ ⟨_, g2, rfl⟩ noFill_tuple_add seq_tuple_add ?_
  by_cases ex : xs = []
  · exact call_meets F.slot_tuple_add ⟨_, g1, rfl⟩ F.entry_tuple_add (F.args_tuple_add_2 _ _) (tuple_addW0 l b us.toArray ws.toArray n1 n2 dd1 dd2 sl1 sl2 ((valsNil rv).mpr ex)) ⟨g1, g2, .ref b, H, I, rfl, q1 ex⟩
  by_cases ez : zs = []
  · exact call_meets F.slot_tuple_add ⟨_, g1, rfl⟩ F.entry_tuple_add (F.args_tuple_add_2 _ _) (tuple_addW1 l b us.toArray ws.toArray n1 n2 dd1 dd2 sl1 sl2 (fun e => ex ((valsNil rv).mp e)) ((valsNil rw_).mpr ez)) ⟨g1, g2, .ref l, H, I, rfl, q2 ex ez⟩
  · have hs : us.toArray.size + ws.toArray.size ≤ sizeLine := by
      rw [List.size_toArray, List.size_toArray, ← rv.length, ← rw_.length]
      exact hl
    refine call_meets F.slot_tuple_add ⟨_, g1, rfl⟩ F.entry_tuple_add (F.args_tuple_add_2 _ _) (tuple_addW2 l b us.toArray ws.toArray n1 n2 dd1 dd2 sl1 sl2 (fun e => ex ((valsNil rv).mp e)) (fun e => ez ((valsNil rw_).mp e)) hs) ⟨g1, g2, ?_⟩
    have at_ := Heap.get?_push_size s.heap (o := { cls := .type "tuple", data := .seq (us.toArray ++ ws.toArray) }) rfl
    refine ⟨.ref s.heap.objs.size, _, I.laid (t' := s.toks) (a := s.heap.objs.size) (o := .frz { cls := .type "tuple", data := .seq (us.toArray ++ ws.toArray) } (.tup (xs ++ zs))) (fun b u e => Heap.get?_push_of_some _ e) (Nat.le_refl _) ⟨at_, by rw [List.length_append]; exact hl, us ++ ws, vals_app rv rw_, _, at_, rfl, 0, ?_⟩, rfl, q3 ex ez _ _ rfl I.fresh⟩
    rw [List.append_toArray]
def rdAddK : DR2 := fun x y S Q => match x, y with
  | .tup i, .tup j => i.length + j.length ≤ sizeLine ∧ (i = [] → Q (.tup j) S) ∧ (i ≠ [] → j = [] → Q (.tup i) S) ∧ (i ≠ [] → j ≠ [] → Q (.kup (i ++ j)) S)
  | .kup i, .tup j => i.length + j.length ≤ sizeLine ∧ i ≠ [] ∧ j ≠ [] ∧ Q (.kup (i ++ j)) S
  | _, _ => False
theorem nil_vs {K : PySem.W.Frag} {F : Hp} {ds : List D} {vs : List V} (h : IsVs K F ds vs) : vs = [] ↔ ds = [] := by
  cases h with
  | nil => simp
  | cons _ _ => simp
theorem lift_addK {K : PySem.W.Frag} : Lift2 K (rCatK K) rdAddK := by
  intro Z H S F x y v w Q P R iv iw q k
  have made : ∀ {ds1 ds2 : List D} {vs1 vs2 : List V}, IsVs K F ds1 vs1 → IsVs K F ds2 vs2 → Q (.kup (ds1 ++ ds2)) S → ∀ (p : Addr) (o : Obj), o.dict = none → H p = none → P (.ref p) (upd H p (.frz o (.tup (vs1 ++ vs2)))) := fun {ds1 ds2 vs1 vs2} h1 h2 q p o hd hp => by
    obtain ⟨R2, s2, k2⟩ := R.laid (o := .frz o (.tup (vs1 ++ vs2))) hp
    exact k _ _ ⟨_, S, _, ⟨s2, R2, k2⟩, .kup upd_same hd ((h1.append h2).up s2), q⟩
  cases iv with
  | tup h1 h2 =>
    cases iw with
    | tup g1 g2 =>
      obtain ⟨z, q1, q2, q3⟩ := q
      refine ⟨_, _, _, _, rfl, rfl, R.sqt (SqT.of h1), R.sqt (SqT.of g1), by rw [← h2.length, ← g2.length]; exact z, fun e => k _ _ ⟨_, S, F, .refl R, .tup g1 g2, q1 ((nil_vs h2).mp e)⟩, fun e e2 => k _ _ ⟨_, S, F, .refl R, .tup h1 h2, q2 (fun z => e ((nil_vs h2).mpr z)) ((nil_vs g2).mp e2)⟩, fun e e2 p o hd hp => made h2 g2 (q3 (fun z => e ((nil_vs h2).mpr z)) (fun z => e2 ((nil_vs g2).mpr z))) p o hd hp⟩
    | _ => exact False.elim q
  | kup h1 h0 h2 =>
    cases iw with
    | tup g1 g2 =>
      obtain ⟨z, e1, e2, q⟩ := q
      exact ⟨_, _, _, _, rfl, rfl, R.sqt (.inl (.inr ⟨_, h1⟩)), R.sqt (SqT.of g1), by rw [← h2.length, ← g2.length]; exact z, fun e => absurd ((nil_vs h2).mp e) e1, fun e e3 => absurd ((nil_vs g2).mp e3) e2, fun _ _ p o hd hp => made h2 g2 q p o hd hp⟩
    | _ => exact False.elim q
  | _ => exact False.elim q
/-! count -/
def cntR (K : PySem.W.Frag) : V → List V → Hp → VK → Prop := fun x xs H Q => ∃ (p : Addr) (ns : List Str) (k : Str), x = .ref p ∧ xs = [.str k] ∧ SqT K H p (ns.map V.str) ∧ Q (.int (ns.count k : Nat)) H
def isK (k : Str) : Value → Bool
  | .str a _ => a == k
  | _ => false
theorem count_vals {k : Str} : ∀ {ns : List Str} {its : List Value}, Vals (ns.map V.str) its → (∀ y ∈ its, ∃ a t, y = Value.str a t) ∧ its.countP (isK k) = ns.count k
  | [], _, h => by
    cases h
    exact ⟨fun y h => by (cases h), rfl⟩
  | n :: ns, _, h => by
    cases h with
    | cons h1 h2 =>
      obtain ⟨a, b⟩ := count_vals (k := k) h2
      obtain ⟨t, rfl⟩ : ∃ t, _ = Value.str n t := h1
      refine ⟨fun y hy => ?_, ?_⟩
      · rcases List.mem_cons.mp hy with rfl | hy
        · exact ⟨_, _, rfl⟩
        · exact a y hy
      · rw [List.countP_cons, List.count_cons, b]
        rfl
theorem mt_tcount {X : Cx} : MtR X "tuple.count" (cntR X.K) := by
  intro pins s σ H x xs v us Q I rx rs ⟨p, ns, k, hx, hxs, sq, q⟩
  subst hx
  subst hxs
  obtain ⟨its, rv, p1, _⟩ := I.tuple sq
  cases rx
  cases rs with
  | cons r1 r2 =>
    cases r2
    obtain ⟨tk, rfl⟩ : ∃ t, _ = Value.str k t := r1
    obtain ⟨o, ho, hc, n, hd⟩ := p1
    obtain ⟨cls, dict, data, slots⟩ := o
    cases hc
    cases hd
    obtain ⟨all, cnt⟩ := count_vals (k := k) rv
    refine call_meets F.slot_tuple_count ⟨_, ho, rfl⟩ F.entry_tuple_count (F.args_tuple_count_2 _ _) (SeqAt.tuple_countAt p its.toArray n dict slots (.str k tk) (isK k)) ⟨ho, fun y hy => ?_, ?_⟩
    · obtain ⟨a, t, rfl⟩ := all y (by simpa using hy)
      exact SeqAt.EqAt.str_str a t k tk
    · exact ⟨.int (ns.count k : Nat), H, I.tok _, ⟨s.toks, by rw [← cnt]⟩, q⟩
theorem tyOk_tup {X : Cx} : TyOk X "tuple" (fun x H => ∃ (p : Addr) (o : Obj) (xs : List V), x = V.ref p ∧ H p = some (.frz o (.tup xs)) ∧ o.dict = none) := by
  intro pins σ H s x v I rx ⟨p, o, xs, hx, hp, hd⟩
  subst hx
  cases rx
  obtain ⟨g, _, _, _, o2, g2, hc, _⟩ := I.hok p _ hp
  rw [g] at g2
  cases g2
  exact ⟨⟨o, g, hc⟩, fun a e => by cases e; exact ⟨o, g, hd⟩⟩
section
variable {X : Cx} {W : WX} {o e : Expr} {to te : DTE} {apos cpos : Pos}
def dTCnt (to te : DTE) : DTE := fun ρ S Q E => to ρ S (fun x S1 => ∃ ns : List Str, x = .kup (ns.map .str) ∧ dCons te dNil ρ S1 (fun es S2 => ∃ k, es = [.str k] ∧ Q (.int (ns.count k : Nat)) S2) E) E
theorem de_tcount (ho : DE X W o to) (ha : DE X W e te) (hbase : attributeBase o "count" X.env (eval o X.env) = eval o X.env := by rfl)
    (hfew : ((backTo cpos (starEach [e] X.env)).all (fun x => !x.1) && (backToKw cpos (keywordEach [] X.env)).all (fun x => x.1.isSome)
      && decide ([e].length + ([] : List Keyword).length + (if ([] : List Keyword).isEmpty then 0 else 1) < 30)) = true := by rfl)
    (hline : (apos.endLine == cpos.line) = true := by rfl) (hs : starEach [e] X.env = (false, eval e X.env) :: starEach [] X.env := by rfl) (hplain : (backTo cpos (starEach [] X.env)).any (·.1) = false := by rfl) :
    DE X W (.Call (.Attribute o "count" apos) [e] [] cpos) (dTCnt to te) :=
  de_pe (pe_mG tyOk_tup F.plainAttrs_tuple F.slot_tuple_count F.type_tuple_count mt_tcount ho.pe (da_cons ha da_nil hs).pa hbase hfew hline hs hplain) fun σ H P ⟨ρ, S, F, Z, Q, E, R, V, q, k, x⟩ =>
    ⟨ρ, S, F, Z, _, E, R, V, q, fun v H1 ⟨d, S1, F1, A1, i1, ns, hd, q1⟩ => by
      subst hd
      cases i1 with
      | kup hp h0 iv =>
        have ew := isVs_strs_inv iv
        subst ew
        exact ⟨⟨_, _, _, rfl, (A1.rel.sub _ _ hp).1, h0⟩, ρ, S1, F1, Z, _, E, A1.rel, V.up A1.sm, q1, fun ws H2 ⟨es, S2, F2, A2, i2, kk, he, q2⟩ => by
          subst he
          obtain ⟨w, rfl, i3⟩ := isVs_one i2
          cases i3
          exact ⟨_, ns, kk, rfl, rfl, A2.rel.sqt (.inl (.inr ⟨_, A2.sm _ _ hp⟩)), k _ _ ⟨_, S2, F2, A1.trans A2, .int _, q2⟩⟩, xe_tr x A1⟩, x⟩
def dJoin (to te : DTE) : DTE := fun ρ S Q E => to ρ S (fun x S1 => ∃ a, x = .str a ∧ te ρ S1 (fun y S2 => ∃ ys : List Str, (y = .tup (ys.map .str) ∨ y = .lst (ys.map .str)) ∧ (ys.map (·.length)).sum + ys.length * a.length ≤ 16777216 ∧ Q (.str (Txt.join a ys)) S2) E) E
theorem de_join (ho : DE X W o to) (he : DE X W e te) (hs : starEach [e] X.env = [(false, eval e X.env)] := by rfl) (hbase : attributeBase o "join" X.env (eval o X.env) = eval o X.env := by rfl) (hline : (apos.endLine == cpos.line) = true := by rfl) :
    DE X W (.Call (.Attribute o "join" apos) [e] [] cpos) (dJoin to te) :=
  de_pe (pe_join ho.pe he.pe hs hbase hline) fun σ H P ⟨ρ, S, F, Z, Q, E, R, V, q, k, x⟩ =>
    ⟨ρ, S, F, Z, _, E, R, V, q, fun v H1 ⟨d, S1, F1, A1, i1, a, hd, q1⟩ => by
      subst hd
      cases i1
      exact ⟨⟨a, rfl⟩, ρ, S1, F1, Z, _, E, A1.rel, V.up A1.sm, q1, fun w H2 ⟨e, S2, F2, A2, i2, ys, he, hl, q2⟩ => by
        rcases he with rfl | rfl
        · obtain ⟨p, ws, rfl, hp, iv⟩ := tup_inv i2
          have ew := isVs_strs_inv iv
          subst ew
          exact ⟨a, p, ys, rfl, rfl, .inr (SqT.of (A2.rel.sub _ _ hp).1), hl, k _ _ ⟨_, S2, F2, A1.trans A2, .str _, q2⟩⟩
        · cases i2 with
          | lst h1 h2 =>
            have ew := isVs_strs_inv h2
            subst ew
            exact ⟨a, _, ys, rfl, rfl, .inl (SqL.of (A2.rel.sub _ _ h1).1), hl, k _ _ ⟨_, S2, F2, A1.trans A2, .str _, q2⟩⟩, xe_tr x A1⟩, x⟩
end
end DL

set_option maxRecDepth 100000
set_option maxHeartbeats 1000000
/-! DLO: dict(zip(list of known tuples, tuple)), a dict that nobody looks into; sorted of a known tuple. -/
namespace DL
open PySem PySem.Spec PyProof.Rows L2
def Knw (H : Hp) (b : Addr) (k : List Key) : Prop := ∃ o, H b = some (.frz o (.tup (k.map kV)))
section
variable {X : Cx} {pins : List (Addr × Obj)} {σ : L2.St} {H : Hp} {s : Shared}
theorem dict_known {T : String} {a : Addr} {fp wr : List Addr} {n : Nat} {Rl : Nat → Value → Value → Prop} {OK : Heap → Prop} {ps : List (List Key × Addr × Value)} (hc : X.calm = true) (hu : X.A.units + 64 < cLine) (I : Inv X pins σ H s) (P : PairArg X.prog X.w T a fp wr n Rl OK) (ok : OK s.heap)
    (hk : PairsHaveH (tupleKind (mixKind X.prog X.w)) n Rl ps) (kd : ∀ x ∈ ps, Knw H x.2.1 x.1) (hw : ∀ b ∈ wr, H b = none) (hz : n ≤ sizeLine)
    {Q' : Value → Shared → Prop} (fin : ∀ h' tk, (∀ b o, b ∉ wr → s.heap.get? b = some o → h'.get? b = some o) → Q' (.ref s.heap.objs.size) { s with heap := h', toks := tk }) :
    wpAny (model X.prog X.w) X.A (call (.type "dict") [.ref a]) Q' X.xe s := by
  refine call_dict_pairsH (knd := tupleKind (mixKind X.prog X.w)) P (I.ok.hd hc) (by show X.A.units + 2 < cLine; omega) ok hk (fun h' kp x hx => ?_) hz fun h' tk _ kp => fin h' tk kp
  obtain ⟨o0, hb⟩ := kd x hx
  obtain ⟨_, _, its, r, o, h1, h2, m, h3⟩ := I.hok _ _ hb
  refine ⟨o, its.toArray, m, kp _ _ (Nat.ne_of_lt (Heap.lt_size h1)) (fun hm => ?_) h1, h2, h3, by simpa using items_are r⟩
  rw [hw _ hm] at hb
  cases hb
end
def KnwRefs (H : Hp) (xs : List V) (ks : List (List Key)) : Prop := Paired (fun x k => ∃ b, x = V.ref b ∧ Knw H b k) xs ks
theorem knwRefs_zip {H : Hp} {xs : List V} {ks : List (List Key)} (h : KnwRefs H xs ks) : ∀ {ys : List V} {its its2 : List Value}, Vals xs its → Vals ys its2 → xs.length = ys.length → ∃ ps : List (List Key × Addr × Value), (∀ x ∈ ps, Knw H x.2.1 x.1) ∧ ps.length = xs.length ∧
    ∀ (j : Nat) (key v : Value), its[j]? = some key → its2[j]? = some v → ∃ k b, ps[j]? = some (k, b, v) ∧ key = .ref b := by
  unfold KnwRefs at h
  induction h with
  | nil =>
    intro ys its its2 r1 r2 hl
    cases r1
    exact ⟨[], fun x hx => (by cases hx), rfl, fun j key v e _ => by simp at e⟩
  | @cons x k xs ks hk t ih =>
    intro ys its its2 r1 r2 hl
    obtain ⟨b, rfl, hb⟩ := hk
    cases r1 with
    | cons q1 t1 =>
      cases q1
      cases ys with
      | nil => cases hl
      | cons y ys =>
        cases r2 with
        | @cons _ w _ ws q2 t2 =>
          obtain ⟨ps, a1, a2, a3⟩ := ih t1 t2 (Nat.succ.inj hl)
          refine ⟨(k, b, w) :: ps, fun x hx => ?_, by rw [List.length_cons, List.length_cons, a2], fun j key v g1 g2 => ?_⟩
          · rcases List.mem_cons.mp hx with rfl | hx
            · exact hb
            · exact a1 x hx
          · cases j with
            | zero =>
              cases g1
              cases g2
              exact ⟨k, b, rfl, rfl⟩
            | succ j => exact a3 j key v (by simpa using g1) (by simpa using g2)
section
variable {X : Cx} {e1 e2 : Expr} {t : TA} {p p2 q pos : Pos}
def tDictZipO (K : PySem.W.Frag) (t : TA) : TE := fun σ H Q => t σ H fun vs H1 => ∃ a b xs ys ks, Zs K H1 vs a b xs ys ∧ KnwRefs H1 xs ks ∧ ∀ p, Q (.ref p) H1
theorem pe_dictZipO (hc : X.calm = true) (hu : X.A.units + 64 < cLine) (hm : X.mg "dict" = none) (hmz : X.mg "zip" = none) (ha : PA X [e1, e2] t) (hg : Gl X "dict" := by rfl) (hgz : Gl X "zip" := by rfl) (hs : starEach [e1, e2] X.env = (false, eval e1 X.env) :: starEach [e2] X.env := by rfl) (hpl : (backTo q (starEach [e2] X.env)).any (·.1) = false := by rfl)
    (hs2 : starEach [.Call (.Name "zip" p2) [e1, e2] [] q] X.env = (false, eval (.Call (.Name "zip" p2) [e1, e2] [] q) X.env) :: starEach [] X.env := by rfl) : PE X (.Call (.Name "dict" p) [.Call (.Name "zip" p2) [e1, e2] [] q] [] pos) (tDictZipO X.K t) := by
  refine ⟨fun pins s σ H Q I h => ?_⟩
  refine PyProof.Rows.Call_ (ld_blt I hg hm PyProof.Rows.boot_dict ?_)
  refine PyProof.Rows.callWith_type1 (PyProof.Rows.args_cons ?_ hs2) hs2 rfl
  refine PyProof.Rows.Call_ (ld_blt I hgz hmz PyProof.Rows.boot_zip (PyProof.Rows.callWith_type1 (thn (ha.run q pins s σ H _ I h) fun us s1 ⟨vs, H1, I1, r1, a, b, xs, ys, ks, hz, kr, q1⟩ => ?_) hs hpl))
  refine run_zip I1 r1 hz fun h' its its2 n hn rv rv2 sz st st1 st2 la lb szh kp => PyProof.Rows.args_nil ?_
  have ex : its.toArray.size = xs.length := by rw [List.size_toArray, rv.length]
  have ey : its2.toArray.size = xs.length := by rw [List.size_toArray, ← rv2.length, hz.2.2.2]
  obtain ⟨ps, kd, len, at_⟩ := knwRefs_zip kr rv rv2 hz.2.2.2
  have I2 : Inv X pins σ H1 { (⟨s1.heap, s1.gens, s1.drawn, s1.toks, s1.os⟩ : Shared) with heap := h' } := I1.kept (t' := s1.toks) kp
  have low : ∀ {c : Addr}, n ≤ c → H1 c = none := fun h => I1.hok.fresh (by rw [← hn]; exact h)
  have P := DLZ.zip_pairs (prog := X.prog) (w := X.w) (DLZ.apart la lb) (.list n a its.toArray) (.tuple (n + 1) b its2.toArray) xs.length (Nat.le_of_eq ex.symm) (Nat.le_of_eq ey.symm) (.inl (Array.getElem?_eq_none (Nat.le_of_eq ex)))
  refine dict_known (s := { (⟨s1.heap, s1.gens, s1.drawn, s1.toks, s1.os⟩ : Shared) with heap := h' }) hc hu I2 P ⟨st, st1, st2⟩ ⟨len, fun i key v e => ?_⟩ kd (fun c hm => ?_) sz fun g tk kg => ?_
  · have e : its.toArray[i]? = some key ∧ its2.toArray[i]? = some v := e
    exact at_ i key v (by simpa using e.1) (by simpa using e.2)
  · simp only [List.mem_cons, List.not_mem_nil, or_false] at hm
    rcases hm with rfl | rfl | rfl | rfl
    · exact low (Nat.le_add_right _ _)
    · exact low (Nat.le_add_right _ _)
    · exact low (Nat.le_refl _)
    · exact low (Nat.le_add_right _ _)
  · have lt5 : ∀ {c : Addr} {o : Obj}, s1.heap.get? c = some o → c ∉ [n + 4, n + 3, n, n + 1] := fun e hm => by
      have z : _ < s1.heap.objs.size := Heap.lt_size e
      rw [← hn] at z
      simp only [List.mem_cons, List.not_mem_nil, or_false] at hm
      rcases hm with rfl | rfl | rfl | rfl
      · exact absurd z (Nat.not_lt_of_le (Nat.le_add_right _ _))
      · exact absurd z (Nat.not_lt_of_le (Nat.le_add_right _ _))
      · exact absurd z (Nat.lt_irrefl _)
      · exact absurd z (Nat.not_lt_of_le (Nat.le_add_right _ _))
    have keep : ∀ c o, s1.heap.get? c = some o → g.get? c = some o := fun c o e => kg c o (lt5 e) (kp c o e)
    exact ⟨.ref h'.objs.size, _, I1.kept (t' := tk) keep, rfl, q1 _⟩
end
section
variable {X : Cx} {W : WX} {e1 e2 : Expr} {t : DTA} {p p2 q pos : Pos}
abbrev encK (l : List Str) : D := .kup (l.map .str)
def dDictZipO (t : DTA) : DTE := fun ρ S Q E => t ρ S (fun ds S1 => ∃ (ls : List (List Str)) (ys : List D), ds = [.lst (ls.map encK), .tup ys] ∧ ls.length = ys.length ∧ ∀ p, Q (.ref p) S1) E
theorem knwRefs_of {K : PySem.W.Frag} {F H : Hp} (sub : ∀ b u, F b = some u → H b = some u) : ∀ {ls : List (List Str)} {vs : List V}, IsVs K F (ls.map encK) vs → KnwRefs H vs (ls.map fun l => l.map Sum.inr)
  | [], _, h => by cases h; exact .nil
  | l :: ls, _, h => by
    cases h with
    | cons h1 h2 =>
      cases h1 with
      | kup g1 g0 g2 =>
        rw [isVs_strs_inv g2] at g1
        refine .cons ⟨_, rfl, _, (sub _ _ g1).trans (by rw [List.map_map]; rfl)⟩ (knwRefs_of sub h2)
theorem de_dictZipO (hc : X.calm = true) (hu : X.A.units + 64 < cLine) (hm : X.mg "dict" = none) (hmz : X.mg "zip" = none) (ha : DA X W [e1, e2] t) (hg : Gl X "dict" := by rfl) (hgz : Gl X "zip" := by rfl) (hs : starEach [e1, e2] X.env = (false, eval e1 X.env) :: starEach [e2] X.env := by rfl) (hpl : (backTo q (starEach [e2] X.env)).any (·.1) = false := by rfl)
    (hs2 : starEach [.Call (.Name "zip" p2) [e1, e2] [] q] X.env = (false, eval (.Call (.Name "zip" p2) [e1, e2] [] q) X.env) :: starEach [] X.env := by rfl) : DE X W (.Call (.Name "dict" p) [.Call (.Name "zip" p2) [e1, e2] [] q] [] pos) (dDictZipO t) :=
  de_pe (pe_dictZipO hc hu hm hmz ha.pa hg hgz hs hpl hs2) fun σ H P ⟨ρ, S, F, Z, Q, E, R, V, q, k, x⟩ => ⟨ρ, S, F, Z, _, E, R, V, q, fun vs H1 ⟨ds, S1, F1, A1, i1, ls, ys, hd, hn, q1⟩ => by
    subst hd
    obtain ⟨v, w, rfl, j1, j2⟩ := isVs_two i1
    obtain ⟨b, us, rfl, g1, g2⟩ := tup_inv j2
    cases j1 with
    | lst h1 h2 =>
      refine ⟨_, b, _, us, _, ⟨rfl, SqL.of (A1.rel.sub _ _ h1).1, SqT.of (A1.rel.sub _ _ g1).1, ?_⟩, knwRefs_of (fun b u z => (A1.rel.sub b u z).1) h2, fun p => k _ _ ⟨_, S1, F1, A1, .ref p, q1 p⟩⟩
      rw [← h2.length, ← g2.length, List.length_map]
      exact hn, x⟩
end
section
open PySem.Spec in
theorem sorted_tupS {P : Program} {w : World} {A : Around} {E : Value → Shared → Prop} {s : Shared} {a : Addr} {ks : List Str} {vs : List Value} {Q : Value → Shared → Prop} (src : PyProof.Rows.IsTup s.heap a vs.toArray) (txt : PyProof.Rows.StrsAre vs ks) (few : ks.length < 64)
    (fin : ∀ (h1 : Heap) s' p (out : Array Value) (c : Nat), (∀ b o, s.heap.get? b = some o → h1.get? b = some o) → (∀ b o, h1.get? b = some o → s'.heap.get? b = some o) → s'.gens = s.gens → s'.os = s.os → h1.objs.size ≤ p →
      s'.heap.get? p = some (seqObj "list" out c) → PyProof.Rows.StrsAre out.toList (DLS.sortS ks) → Q (.ref p) s') : wpAny (model P w) A (call (.builtin "sorted") [.ref a]) Q E s := by
  obtain ⟨ob, at_, ex, n, dt⟩ := src
  have len : vs.length = ks.length := txt.length
  refine Calls.call_function_entry kind_sorted plain_sorted entry_sorted (args_sorted1 _) ?_
  unfold Builtin.«sorted»
  refine wpAny_bind (m := checkCount "sorted" 1 1 _) (wpAny_pure ?_)
  refine wpAny_bind (wpAny_collect_seq (A := A.in1) a (.inr rfl) at_ ex dt (fun h1 old => ?_) (by rw [List.size_toArray, len, sizeLine_eq]; omega))
  rw [List.toList_toArray]
  refine wpAny_bind (wpAny_newList ?_ (by rw [len, sizeLine_eq]; omega))
  have atL : (h1.push (seqObj "list" vs.toArray 0)).get? h1.objs.size = some (seqObj "list" vs.toArray 0) := Heap.get?_push_size _ rfl
  refine wpAny_bind (wpAny_holding (wpAny_call_entry slot_list_sort ⟨_, atL, rfl⟩ entry_list_sort (list_sort_treeK strKind_oneLt atL txt.keysOf (fun v1 v2 rest e => keyKind_strs (by rw [← e]; exact txt)) (by rw [len]; exact few) fun st' p1 p2 => ⟨_, rfl, ?_⟩) (args_list_sort _)))
  obtain ⟨ss', q1, q2, q3⟩ := sorted_out_str txt p1 p2
  have e : ss' = DLS.sortS ks := DLS.sortS_eq q2 (DLS.sortedS_pw q3)
  subst e
  obtain ⟨c, hc⟩ := sortedHeap_at (vs := vs) (out := (arrOf st').map (·.2)) atL
  refine wpAny_pure ⟨_, rfl, fin h1 _ h1.objs.size _ c old (fun b u q => ?_) rfl rfl (Nat.le_refl _) hc q1⟩
  have lt := Heap.lt_size q
  show (sortedHeap (h1.push (seqObj "list" vs.toArray 0)) h1.objs.size vs ((arrOf st').map (·.2))).get? b = some u
  rw [sortedHeap_old (Nat.ne_of_lt lt) (by rw [size_push']; exact Nat.lt_succ_of_lt lt)]
  exact Heap.get?_push_of_some _ q
end
/-- sorted(t) of a tuple of texts -/
def rSortT (K : PySem.W.Frag) : List V → Hp → VK → Prop := fun xs H Q => ∃ (a : Addr) (ns : List Str), xs = [.ref a] ∧ SqT K H a (ns.map V.str) ∧ ns.length < 64 ∧ ∀ c, H c = none → Q (.ref c) (upd H c (.lst ((DLS.sortS ns).map V.str)))
theorem cr_sortTS {X : Cx} : CallR X (.builtin "sorted") (rSortT X.K) := by
  intro pins s σ H xs us Q I r ⟨a, ks, hx, sq, few, k⟩
  subst hx
  rw [Vals.ref1 r]
  obtain ⟨its, rv, pt, hz⟩ := I.tuple sq
  refine sorted_tupS pt rv.strs few fun h1 s' c out n old1 old g o hn at_ txt => ?_
  have I := I.kept (t' := s.toks) old1
  have len : ((DLS.sortS ks).map V.str).length ≤ sizeLine := by
    rw [List.length_map, (DLS.sortS_perm ks).length_eq, sizeLine_eq]
    omega
  have free : H c = none := I.hok.fresh hn
  have J : Inv X pins σ (upd H c (.lst ((DLS.sortS ks).map V.str))) { s with heap := s'.heap, gens := s'.gens, drawn := s'.drawn, toks := s'.toks } :=
    Inv.call (s := { s with heap := h1, toks := s.toks }) (ch := []) I (Un.laid old hn free) (I.hok.laid old hn ⟨len, out.toList, n, vals_of_strs txt, at_⟩) (by rw [g]; exact I.bare) (fun _ z => nomatch z)
  have e : s' = { s with heap := s'.heap, gens := s'.gens, drawn := s'.drawn, toks := s'.toks } := by
    cases s'
    cases s
    cases o
    rfl
  rw [e]
  exact ⟨.ref c, _, J, rfl, k c free⟩
def rdSortT : DRL := fun xs S Q => match xs with
  | [.tup ds] => ∃ ns : List Str, ds = ns.map .str ∧ ns.length < 64 ∧ Q (.lst ((DLS.sortS ns).map .str)) S
  | [.kup ds] => ∃ ns : List Str, ds = ns.map .str ∧ ns.length < 64 ∧ Q (.lst ((DLS.sortS ns).map .str)) S
  | _ => False
theorem lift_sortT {K : PySem.W.Frag} : LiftL K (rSortT K) rdSortT := by
  intro Z H S F x v Q P R iv q k
  have go : ∀ (a : Addr) (ns : List Str), SqT K H a (ns.map V.str) → ns.length < 64 → Q (.lst ((DLS.sortS ns).map .str)) S → rSortT K [.ref a] H P := fun a ns sq few q => ⟨a, ns, rfl, sq, few, fun c hc => by
    obtain ⟨R2, s2, k2⟩ := R.laid (o := .lst ((DLS.sortS ns).map L2.V.str)) hc
    exact k _ _ ⟨_, S, _, ⟨s2, R2, k2⟩, .lst upd_same (isVs_strs _), q⟩⟩
  match x, q with
  | [.tup ds], ⟨ns, hd, few, q⟩ =>
    subst hd
    obtain ⟨v, rfl, iw⟩ := isVs_one iv
    cases iw with
    | tup h1 h2 =>
      rw [isVs_strs_inv h2] at h1
      exact go _ ns (R.sqt (SqT.of h1)) few q
  | [.kup ds], ⟨ns, hd, few, q⟩ =>
    subst hd
    obtain ⟨v, rfl, iw⟩ := isVs_one iv
    cases iw with
    | kup h1 h0 h2 =>
      rw [isVs_strs_inv h2] at h1
      exact go _ ns (R.sqt (.inl (.inr ⟨_, h1⟩))) few q
section
variable {X : Cx} {W : WX} {e : Expr} {te : DTE} {p pos : Pos}
theorem de_sortT (B : Bis X.mg) (he : DE X W e te) (hg : Gl X "sorted" := by rfl) (hs : starEach [e] X.env = (false, eval e X.env) :: starEach [] X.env := by rfl) (hpl : (backTo pos (starEach [] X.env)).any (·.1) = false := by rfl) :
    DE X W (.Call (.Name "sorted" p) [e] [] pos) (dCB rdSortT (dCons te dNil)) :=
  de_callB cr_sortTS lift_sortT B.sorted (by first | exact PyProof.Rows.boot_sorted | decide +kernel | kernel_rfl) (da_cons he da_nil hs) hg (by decide) (by decide) hs hpl
end
end DL

set_option maxRecDepth 100000
set_option maxHeartbeats 1000000
/-! DLB: xs[i] = e of a list in the store; is of truths; C(k = e, ..). -/
namespace DL
open PySem PySem.Spec L2
section
variable {X : Cx} {W : WX} {o i value : Expr} {to ti tv : DTE} {pos pos' : Pos}
def dLset (tv to ti : DTE) : DTS := fun N ρ S => tv ρ S (fun d S1 => to ρ S1 (fun x S2 => ti ρ S2 (fun y S3 => ∃ a n ds j, x = .ref a ∧ y = .int n ∧ S3 a = some (.lst ds) ∧ ixN ds.length n = some j ∧ N.nx ρ (put S3 a (.lst (ds.set j d)))) (N.ex ρ)) (N.ex ρ)) (N.ex ρ)
theorem lset_lift : ∀ N σ H, upS X.K W (dLset tv to ti) N σ H → tAsg (upE X.K W tv) (gSub (upE X.K W to) (upE X.K W ti) rSetL) N σ H := fun N σ H ⟨ρ, S, F, Z, Q, R, V, q, l⟩ =>
  ⟨ρ, S, F, Z, _, _, R, V, q, fun v H1 ⟨d, S1, F1, A1, i1, q1⟩ => ⟨ρ, S1, F1, Z, _, _, A1.rel, V.up A1.sm, q1, fun ov H2 ⟨x, S2, F2, A2, i2, q2⟩ => ⟨ρ, S2, F2, Z, _, _, A2.rel, (V.up A1.sm).up A2.sm, q2, fun iv H3 ⟨y, S3, F3, A3, i3, a, n, ds, j, hx, hy, hs, hj, q3⟩ => by
    subst hx
    subst hy
    cases i2
    cases i3
    obtain ⟨_, ob, ho, vs, e, h2⟩ := A3.rel.sto a _ hs
    subst e
    obtain ⟨R2, k2⟩ := A3.rel.wrote (o := .lst (vs.set j v)) (m := .lst (ds.set j d)) hs ⟨_, rfl, IsVs.set ((i1.up A2.sm).up A3.sm) j h2⟩
    exact ⟨a, vs, n, j, rfl, rfl, ho, by rw [← h2.length]; exact hj, l.nx _ _ ⟨ρ, _, F3, A1.trans (A2.trans (A3.trans ⟨Same.refl _, R2, k2⟩)), ((V.up A1.sm).up A2.sm).up A3.sm, q3⟩⟩, xe_tr (xe_tr (l.xe V) A1) A2⟩, xe_tr (l.xe V) A1⟩, l.xe V⟩
theorem ds_lset (ho : DE X W o to) (hi : DE X W i ti) (hv : DE X W value tv) (hsub : ∀ (v : Value), assign (o.Subscript i pos') X.env v = (do
      let ov ← holding [v] (eval o X.env)
      let iv ← holding [v, ov] (eval i X.env)
      standAt pos'
      holding [v, ov, iv] (setItem ov iv v)
      release [v, ov, iv] []) := by intro v; rfl)
    (hs : swapsWithSole [.Subscript o i pos'] value pos.line X.env = pure false := by rfl) (hw : swappedStores [.Subscript o i pos'] value X.env = pure none := by rfl) (h1 : (assignEach [.Subscript o i pos'] X.env).map (·.2) = [assign (.Subscript o i pos') X.env] := by rfl) :
    DS X W (.Assign [.Subscript o i pos'] value pos) (dLset tv to ti) := ds_ps (ps_asg hv.pe (pg_sub ho.pe hi.pe set_list hsub) hs hw h1) lset_lift
end
/-- x is y, x is not y of truths -/
theorem op_isB {X : Cx} : OpR X (compareOp .Is) (fun x y H Q => ∃ a b, x = .bl a ∧ y = .bl b ∧ Q (.bl (decide (a = b))) H) := by
  intro pins s σ H x y v u Q I rx ry ⟨a, b, hx, hy, q⟩
  subst hx
  subst hy
  obtain rfl : v = Value.bool a := rx
  obtain rfl : u = Value.bool b := ry
  have e : (Value.bool a == Value.bool b) = decide (a = b) := by cases a <;> cases b <;> rfl
  refine wpAny_bind (wpAny_pure (wpAny_pure ⟨.bl (decide (a = b)), H, I, ?_, q⟩))
  show Value.bool _ = Value.bool _
  rw [← e]
theorem op_isnotB {X : Cx} : OpR X (compareOp .IsNot) (fun x y H Q => ∃ a b, x = .bl a ∧ y = .bl b ∧ Q (.bl (!decide (a = b))) H) := by
  intro pins s σ H x y v u Q I rx ry ⟨a, b, hx, hy, q⟩
  subst hx
  subst hy
  obtain rfl : v = Value.bool a := rx
  obtain rfl : u = Value.bool b := ry
  have e : (Value.bool a == Value.bool b) = decide (a = b) := by cases a <;> cases b <;> rfl
  refine wpAny_bind (wpAny_pure (wpAny_pure ⟨.bl (!decide (a = b)), H, I, ?_, q⟩))
  show Value.bool _ = Value.bool _
  rw [← e]
def rdIsB (neg : Bool) : DR2 := fun x y S Q => ∃ a b, x = .bl a ∧ y = .bl b ∧ Q (.bl (if neg then !decide (a = b) else decide (a = b))) S
theorem lift_isB {K : PySem.W.Frag} : Lift2 K (fun x y H Q => ∃ a b, x = .bl a ∧ y = .bl b ∧ Q (.bl (decide (a = b))) H) (rdIsB false) := by
  intro Z H S F x y v w Q P R iv iw q k
  obtain ⟨i, j, rfl, rfl, q⟩ := q
  cases iv; cases iw
  exact ⟨i, j, rfl, rfl, k _ _ ⟨_, S, F, .refl R, .bl _, q⟩⟩
theorem lift_isnotB {K : PySem.W.Frag} : Lift2 K (fun x y H Q => ∃ a b, x = .bl a ∧ y = .bl b ∧ Q (.bl (!decide (a = b))) H) (rdIsB true) := by
  intro Z H S F x y v w Q P R iv iw q k
  obtain ⟨i, j, rfl, rfl, q⟩ := q
  cases iv; cases iw
  exact ⟨i, j, rfl, rfl, k _ _ ⟨_, S, F, .refl R, .bl _, q⟩⟩
/-! C(k = e, ..) -/
section
variable {X : Cx} {W : WX} {k : Nat} {f C : Addr} {fd : FuncData} {ps ks : List Str} {sp : Sp} {x : Str} {p pos : Pos} {kws : List Keyword} {gx : List Value → List Value → List Value} {gV : List V → List V → List V} {gD : List D → List D → List D}
theorem run_makeKG {pins : List (Addr × Obj)} {σ : L2.St} {H : Hp} {s : Shared} {Q : VK} {ws : List Value} {zs : List V} (M : Mk X.K C f) (F : FnG X.prog X.w X.K X.mg X.base k f fd ps sp) (hr : Room (k + 1) X.A) (hgd : X.A.guards = some []) (hb : KBinds X.K fd ps ks gx gV)
    (tk : Takes X W) (I : Inv X pins σ H s) (r : Vals zs ws) (h : ∀ x dx, H x = none → H dx = none → dx ≠ x → sp (gV [.ref x] zs) (upd (upd H dx (.own x)) x (.ins C dx [])) (fun v H2 => v = .non ∧ Q (.ref x) H2) (WE W σ)) :
    wpAny (model X.prog X.w) X.A (call (.ref C) [] (ks.zip ws)) (EP X pins σ Q) X.xe s := by
  have hq := h (s.heap.objs.size + 1) s.heap.objs.size (I.hok.fresh (Nat.le_succ _)) (I.hok.fresh (Nat.le_refl _)) (Nat.ne_of_lt (Nat.lt_succ_self _))
  have J := Inv.made (C := C) I
  have r2 := hb.rel (vs := [V.ref (s.heap.objs.size + 1)]) (us := [Value.ref (s.heap.objs.size + 1)]) (.cons rfl .nil) r
  have hl : (gx [Value.ref (s.heap.objs.size + 1)] ws).length = ps.length := r2.length.symm.trans (F.len _ _ _ _ hq)
  refine wpAny_call (make_map (f := f) (vs := []) (kw := ks.zip ws) I.kIn M.makes M.init (beq_iff_eq.mp M.fn) (codeAny_mono (F.run _ X.stack _ _ ⟨[Value.ref (s.heap.objs.size + 1)], ks.zip ws⟩ _ _ _ _ (hr.make C [] (ks.zip ws)) (guards_make hgd) (J.env0.make C [] (ks.zip ws)) (hb.to _ [Value.ref (s.heap.objs.size + 1)] ws J.kIn hl) r2 hq) fun r s' hq' => ?_))
  have := call_end tk J hq'
  cases r with
  | error e => exact this
  | ok fl =>
    cases fl with
    | ret u =>
      obtain ⟨v, H', I3, rv, ev, q3⟩ := this
      subst ev
      exact ⟨rv, ⟨V.ref (s.heap.objs.size + 1), H', I3, rfl, q3⟩⟩
    | next => exact False.elim this
    | brk => exact False.elim this
    | cont => exact False.elim this
def tMakeKG (C : Addr) (sp : Sp) (gV : List V → List V → List V) (E : L2.St → XK) (t : TA) : TE := fun σ H Q => t σ H fun zs H1 => ∀ x dx, H1 x = none → H1 dx = none → dx ≠ x → sp (gV [.ref x] zs) (upd (upd H1 dx (.own x)) x (.ins C dx [])) (fun v H2 => v = .non ∧ Q (.ref x) H2) (E σ)
theorem pe_makeKG {t : TA} (M : Mk X.K C f) (F : FnG X.prog X.w X.K X.mg X.base k f fd ps sp) (hr : Room (k + 1) X.A) (hgd : X.A.guards = some []) (hm : X.mg x = some (.ref C)) (hb : KBinds X.K fd ps ks gx gV) (tk : Takes X W) (hkw : PK X kws t)
    (hall : (backToKw pos (keywordEach kws X.env)).all (·.1.isSome) = true := by rfl) (hks : (backToKw pos (keywordEach kws X.env)).filterMap (·.1) = ks := by rfl) (hg : Gl X x := by rfl) (hdb : (x == ("__debug__" : Str)) = false := by decide)
    (hpl : ((backTo pos (starEach [] X.env)).any (·.1) || (backToKw pos (keywordEach kws X.env)).any (·.1.isNone)) = false := by rfl) :
    PE X (.Call (.Name x p) [] kws pos) (tMakeKG C sp gV (WE W) t) :=
  ⟨fun pins s σ H Q I h => wpAny_Call_Name_kw (ld_glob I hg hm (PySem.W.callWith_KW0 (h₀ := X.base) I.ok.mod.kin M.kp hall (thn (hkw.run pos pins s σ H _ I h) fun us s1 ⟨vs, H1, I1, r, q⟩ => ⟨I1.kIn, by rw [hks]; exact run_makeKG M F hr hgd hb tk I1 r q⟩) hpl) hdb)⟩
def dMakeK (C : Addr) (dsp : DSp) (gD : List D → List D → List D) (t : DTA) : DTE := fun ρ S Q E => t ρ S (fun zs S1 => ∀ a, S1 a = none → dsp (gD [.ref a] zs) (put S1 a (.ins C [] [])) (fun d S2 => d = .non ∧ ∃ ns ds, S2 a = some (.ins C ns ds) ∧ Q (.obj C ns ds) (del S2 a)) E) E
theorem lift_makeK {dsp : DSp} {t : DTA} (hgD : ∀ F xs vs zs ws, IsVs X.K F xs vs → IsVs X.K F zs ws → IsVs X.K F (gD xs zs) (gV vs ws)) : ∀ σ H P, upE X.K W (dMakeK C dsp gD t) σ H P → tMakeKG C (spD X.K dsp) gV (WE W) (upA X.K W t) σ H P := fun σ H P ⟨ρ, S, F, Z, Q, E, R, V, q, k, x⟩ =>
  ⟨ρ, S, F, Z, _, E, R, V, q, fun vs H1 ⟨xs, S1, F1, A1, iv, q1⟩ a dx ha hdx ne => by
    obtain ⟨R2, k2⟩ := A1.rel.own_dict (o := .own a) hdx
    have ha2 : upd H1 dx (.own a) a = none := by rw [upd_ne (Ne.symm ne)]; exact ha
    obtain ⟨R3, k3, hS⟩ := R2.made (o := .ins C dx []) (m := .ins C [] []) ha2 ⟨dx, [], rfl, rfl, .nil⟩
    have A3 : Aft X.K Z H1 F1 _ _ F1 := ⟨Same.refl _, R3, k2.trans k3⟩
    refine ⟨gD [.ref a] xs, _, F1, Z, _, E, R3, hgD F1 _ _ _ _ (.cons (.ref a) .nil) iv, q1 a hS, fun v H' ⟨d, S4, F4, A4, i4, hd4, ns, es, hs4, q4⟩ => ?_, fun cls d H' h => x cls d H' (lftX_tr (A1.trans A3) h)⟩
    subst hd4
    cases i4
    obtain ⟨o, ho, ⟨dx4, fs, e1, e2, iv4⟩, R5, s5⟩ := A4.rel.freeze hs4
    subst e1
    exact ⟨rfl, k _ _ ⟨.obj C ns es, _, _, A1.trans (A3.trans (A4.trans ⟨s5, R5, Keep.refl⟩)), .obj upd_same e2 (iv4.up s5), q4⟩⟩, x⟩
theorem de_makeK {dsp : DSp} {t : DTA} (M : Mk X.K C f) (F : FnD X.prog X.w X.K X.mg X.base k f fd ps dsp) (hr : Room (k + 1) X.A) (hgd : X.A.guards = some []) (hm : X.mg x = some (.ref C)) (hb : KBinds X.K fd ps ks gx gV)
    (hgD : ∀ F xs vs zs ws, IsVs X.K F xs vs → IsVs X.K F zs ws → IsVs X.K F (gD xs zs) (gV vs ws)) (tk : Takes X W) (hkw : DK X W kws t)
    (hall : (backToKw pos (keywordEach kws X.env)).all (·.1.isSome) = true := by rfl) (hks : (backToKw pos (keywordEach kws X.env)).filterMap (·.1) = ks := by rfl) (hg : Gl X x := by rfl) (hdb : (x == ("__debug__" : Str)) = false := by decide)
    (hpl : ((backTo pos (starEach [] X.env)).any (·.1) || (backToKw pos (keywordEach kws X.env)).any (·.1.isNone)) = false := by rfl) :
    DE X W (.Call (.Name x p) [] kws pos) (dMakeK C dsp gD t) := de_pe (pe_makeKG M F hr hgd hm hb tk hkw.pk hall hks hg hdb hpl) (lift_makeK hgD)
end
section
variable {X : Cx} {W : WX} {elt tg iter tg1 iter1 : Expr} {ifs ifs1 : List Expr} {scope : Scope} {own : List (Str × Nat)} {pos spos : Pos} {ti ti1 : DTI} {g g1 : Tgt} {tt tt1 : DTT} {te : DTE}
theorem ds_setLc2 {i : Nat} {y : Str} {py : Pos} (hc : X.calm = true) (hN : X.N.Nodup) (hsw : swapsWith (.ListComp elt [⟨tg, iter, ifs, 0⟩, ⟨tg1, iter1, ifs1, 0⟩] scope pos) (some (.Name y py)) spos.line X.env = pure true) (hi : DI X W tg iter ti) (ok : BlkOk X.N X.env.scope scope own)
    (hg : Blk X scope fun Y => DG Y tg g) (ht : Blk X scope fun Y => DTs Y ifs tt) (hi1 : Blk X scope fun Y => DI Y W0 tg1 iter1 ti1) (hg1 : Blk X scope fun Y => DG Y tg1 g1) (ht1 : Blk X scope fun Y => DTs Y ifs1 tt1) (he : Blk X scope fun Y => DE Y W0 elt te)
    (hy : X.N[i]? = some y := by rfl) (hyl : X.env.scope.names.lookup y = some .local := by rfl)
    (hv : ∀ i ∈ g.slots, i ∈ own.map (·.2) := by decide) (hv1 : ∀ i ∈ g1.slots, i ∈ own.map (·.2) := by decide) (hs : ∀ x, foldedSetIterable iter X.env x = pure x := by intro _; rfl) (hs1 : ∀ env x, foldedSetIterable iter1 env x = pure x := by intro _ _; rfl) :
    DS X W (.Assign [.Name y py] (.ListComp elt [⟨tg, iter, ifs, 0⟩, ⟨tg1, iter1, ifs1, 0⟩] scope pos) spos) (dAsg (dLc2 ti g tt ti1 g1 tt1 te (own.map (·.2)) g1.slots) (.name i)) :=
  ds_ps (ps_setLc2 hc hN hy hyl hsw hi.pi ok hv1 (fun s H C cl fp => (hg s H C cl fp).pg) (fun s H C cl fp => (ht s H C cl fp).pt) (fun s H C cl fp => (hi1 s H C cl fp).pi) (fun s H C cl fp => (hg1 s H C cl fp).pg) (fun s H C cl fp => (ht1 s H C cl fp).pt) (fun s H C cl fp => (he s H C cl fp).pe) hs hs1) fun N σ H h => by
    have h2 : tAsg (upE X.K W (dLc2 ti g tt ti1 g1 tt1 te (own.map (·.2)) g1.slots)) (tgV X.K (.name i)) N σ H := asg_lift N σ H h
    exact lift_lc2 hv σ H _ h2
end
/-! steps -/
section
variable {ρ : Sl} {S : Store} {Q : DQ} {E : DX} {N : DEnds} {te to tv ti0 : DTE} {ta : DTA}
theorem s_lc2 {ti ti1 : DTI} {g g1 : Tgt} {tt tt1 : DTT} {vs vs1 : List Nat} (h : ti ρ S (fun items S1 => dLc2Go g tt ti1 g1 tt1 te vs1 (wipeD ρ vs) items [] S1 (fun ds S1 => Q (.lst ds) S1)) E) : dLc2 ti g tt ti1 g1 tt1 te vs vs1 ρ S Q E := h
theorem s_tcnt (h : to ρ S (fun x S1 => ∃ ns : List Str, x = .kup (ns.map .str) ∧ dCons te dNil ρ S1 (fun es S2 => ∃ k, es = [.str k] ∧ Q (.int (ns.count k : Nat)) S2) E) E) : dTCnt to te ρ S Q E := h
theorem s_itZ {QI : List D → Store → Prop} (h : ta ρ S (fun ds S1 => ∃ xs ys, ds = [.lst xs, .tup ys] ∧ xs.length = ys.length ∧ QI ((xs.zip ys).map fun p => D.tup [p.1, p.2]) S1) E) : dItZ ta ρ S QI E := h
theorem s_join (h : to ρ S (fun x S1 => ∃ a, x = .str a ∧ te ρ S1 (fun y S2 => ∃ ys : List Str, (y = .tup (ys.map .str) ∨ y = .lst (ys.map .str)) ∧ (ys.map (·.length)).sum + ys.length * a.length ≤ 16777216 ∧ Q (.str (Txt.join a ys)) S2) E) E) : dJoin to te ρ S Q E := h
theorem s_dzo (h : ta ρ S (fun ds S1 => ∃ (ls : List (List Str)) (ys : List D), ds = [.lst (ls.map encK), .tup ys] ∧ ls.length = ys.length ∧ ∀ p, Q (.ref p) S1) E) : dDictZipO ta ρ S Q E := h
theorem s_lset (h : tv ρ S (fun d S1 => to ρ S1 (fun x S2 => ti0 ρ S2 (fun y S3 => ∃ a n ds j, x = .ref a ∧ y = .int n ∧ S3 a = some (.lst ds) ∧ ixN ds.length n = some j ∧ N.nx ρ (put S3 a (.lst (ds.set j d)))) (N.ex ρ)) (N.ex ρ)) (N.ex ρ)) : dLset tv to ti0 N ρ S := h
theorem s_makeK {C : Addr} {dsp : DSp} {gD : List D → List D → List D} (h : ta ρ S (fun zs S1 => ∀ a, S1 a = none → dsp (gD [.ref a] zs) (put S1 a (.ins C [] [])) (fun d S2 => d = .non ∧ ∃ ns ds, S2 a = some (.ins C ns ds) ∧ Q (.obj C ns ds) (del S2 a)) E) E) : dMakeK C dsp gD ta ρ S Q E := h
/-- the outer turns, by what each adds -/
theorem lc2_map {α : Type} {g g1 : Tgt} {ti1 : DTI} {tt1 : DTT} {vs1 : List Nat} (e1 : α → D) (o : α → List D) {QA : List D → Store → Prop} : ∀ (ls : List α) (acc : List D), acc.length + (ls.flatMap o).length ≤ sizeLine →
    (∀ x ∈ ls, ∃ ρ1, bindT g (e1 x) ρ = some ρ1 ∧ ∀ (acc' : List D) (R : List D → Store → Prop), acc'.length + (o x).length ≤ sizeLine → R (acc' ++ o x) S → ti1 ρ1 S (fun its S2 => acc'.length + its.length ≤ sizeLine ∧ dLcGo g1 tt1 te (wipeD ρ1 vs1) its acc' S2 R) (fun _ _ _ _ => False)) →
    QA (acc ++ ls.flatMap o) S → dLc2Go g dYes ti1 g1 tt1 te vs1 ρ (ls.map e1) acc S QA
  | [], acc, _, _, q => by
    rw [List.flatMap_nil, List.append_nil] at q
    exact q
  | x :: ls, acc, hl, h, q => by
    obtain ⟨ρ1, hb, k⟩ := h x List.mem_cons_self
    rw [List.flatMap_cons, List.length_append] at hl
    refine ⟨ρ1, hb, ?_⟩
    refine s_yes (iteT (k acc _ (by omega) ?_))
    refine lc2_map e1 o ls (acc ++ o x) (by rw [List.length_append]; omega) (fun y hy => h y (List.mem_cons_of_mem _ hy)) ?_
    rw [List.append_assoc]
    rw [List.flatMap_cons] at q
    exact q
end
end DL

set_option maxRecDepth 100000
set_option maxHeartbeats 1000000
/-! DLB2: a tuple of ints that is a constant of the module; x in it. -/
namespace DL
open PySem PySem.Spec L2
/-- the name n of the module is a tuple of the ints is -/
structure CTup (K : PySem.W.Frag) (mg : Str → Option Value) (n : Str) (a : Addr) (is : List Int) : Prop where
  at_ : mg n = some (.ref a)
  sq : ∀ H, SqT K H a (is.map V.int)
def rdInC (K : PySem.W.Frag) (neg : Bool) : DR2 := fun x y S Q => ∃ (i : Int) (a : Addr) (is : List Int), x = .int i ∧ y = .ref a ∧ (∀ H, SqT K H a (is.map V.int)) ∧ Q (.bl (if neg then !decide (i ∈ is) else decide (i ∈ is))) S
theorem inV_ints (i : Int) : ∀ is : List Int, inV (.int i) (is.map V.int) = decide (i ∈ is)
  | [] => rfl
  | j :: is => by
    have ih := inV_ints i is
    unfold inV at ih ⊢
    rw [List.map_cons, List.any_cons, ih]
    by_cases h : i = j
    · subst h
      simp [eqV]
    · simp [eqV, h, Ne.symm h]
theorem flat_ints : ∀ is : List Int, (is.map V.int).all flatV = true
  | [] => rfl
  | _ :: is => by
    rw [List.map_cons, List.all_cons, flat_ints is]
    rfl
theorem lift_inC {K : PySem.W.Frag} (neg : Bool) : Lift2 K (rIn K neg) (rdInC K neg) := by
  intro Z H S F x y v w Q P R iv iw q k
  obtain ⟨i, a, is, rfl, rfl, sq, q⟩ := q
  cases iv
  cases iw
  refine ⟨a, is.map V.int, rfl, .inr (sq H), rfl, flat_ints is, ?_⟩
  rw [inV_ints]
  exact k _ _ ⟨_, S, F, .refl R, .bl _, q⟩
end DL

set_option maxRecDepth 100000
set_option maxHeartbeats 1000000
/-! DLB3: == and != by the own == of a class, against a value of another kind. -/
namespace DL
open PySem PySem.Spec L2
/-- what stands at b: a tuple, or an instance of some class -/
def OthV (K : PySem.W.Frag) (H : Hp) (b : Addr) (tb : Value) : Prop := (∃ xs, SqT K H b xs ∧ tb = .type "tuple") ∨ ∃ C dx fs, H b = some (.ins C dx fs) ∧ tb = .ref C
def rOth (K : PySem.W.Frag) (C : Addr) (sp : Sp) (neg : Bool) : R2 := fun x y H Q => ∃ a b tb dx fs, x = .ref a ∧ y = .ref b ∧ H a = some (.ins C dx fs) ∧ OthV K H b tb ∧ PySem.W.notFirst K C tb = true ∧ sp [.ref a, .ref b] H (fun v H' => ∃ k, v = .bl k ∧ Q (.bl (if neg then !k else k)) H') (fun _ _ _ => False)
section
variable {X : Cx} {k : Nat} {C f : Addr} {fd : FuncData} {ps : List Str}
theorem oth_looks {pins : List (Addr × Obj)} {σ : L2.St} {H : Hp} {s : Shared} {b : Addr} {tb : Value} (I : Inv X pins σ H s) (h : OthV X.K H b tb) : PySem.W.Looks (model X.prog X.w) s.heap (typeOf (.ref b)) tb := by
  rcases h with ⟨xs, sq, rfl⟩ | ⟨C, dx, fs, hb, rfl⟩
  · obtain ⟨its, rv, ⟨o, ho, hc, n, hd⟩, _⟩ := I.tuple sq
    exact fun A Q E s' k q => wpAny_typeOf (T := "tuple") ⟨o, k _ _ ho, hc⟩ q
  · obtain ⟨oy, oe, J2, _⟩ := ob_at I hb
    exact J2.type
theorem or_eqOth {sp : Sp} (O : OwnEq X.K C f) (F : FnG X.prog X.w X.K X.mg X.base k f fd ps sp) (hr : Room k X.A) (hgd : X.A.guards = some []) (hb : Binds X.K fd ps []) : OpR X (compareOp .Eq) (rOth X.K C sp false) := by
  intro pins s σ H x y u v Q I rx ry h
  obtain ⟨a, b, tb, dx, fs, rfl, rfl, ha, hb', nf, q⟩ := h
  cases rx
  cases ry
  show wpAny (model X.prog X.w) X.A (richCompare .Eq (.ref a) (.ref b)) (EP X pins σ Q) X.xe s
  obtain ⟨ox, od, J, _⟩ := ob_at I ha
  obtain ⟨m, hF⟩ := I.fr
  refine PySem.W.cmp_K (op := .Eq) (tb := tb) hr.units0 hF I.ok.mod.kin J (oth_looks I hb') nf O.eq O.fn (wpAny_mono (run_own (A := X.A) F hr hgd rfl hb I q) (fun w s' ⟨z, H', I', rz, kk, ez, q'⟩ => ?_) fun _ _ e => e)
  subst ez
  cases rz
  exact ⟨.bl kk, H', I', rfl, q'⟩
end
end DL
namespace DLC
open PySem PySem.Spec L2
section
variable {P : Program} {w : World} {A : Around} {E : Value → Shared → Prop} {s : Shared} {K : PySem.W.Frag} {x y C f : Addr} {ox oy : Obj} {od oe : Option Obj}
theorem ne_oth {tb : Value} {Q : Value → Shared → Prop} (X : K.In s.heap) (J : PySem.W.InstAt s.heap x ox C od) (J2 : PySem.W.Looks (model P w) s.heap (typeOf (.ref y)) tb) (sb : PySem.W.subIn K tb (.ref C) = some false) (at_ : PySem.W.findIn K (.ref C) "__eq__" = some (some (.ref f))) (fn : PySem.W.isFn K (.ref f) = true)
    (ne_ : PySem.W.findIn K (.ref C) "__ne__" = some (some (.builtin "object.__ne__"))) (mro : PySem.W.mroIn K C (.type "object") = some true) (hu : A.units + 1 < cLine)
    (go : wpAny (model P w) A.in1 (call (.ref f) [.ref x, .ref y]) (fun v s' => ∃ k, v = .bool k ∧ Q (.bool (!k)) s') E s) : wpAny (model P w) A (richCompare .NotEq (.ref x) (.ref y)) Q E s := by
  unfold richCompare
  simp only [oneThing_ref]
  refine wpAny_holding (wpAny_bind (wpAny_cRoomFor (Nat.lt_of_succ_lt hu) ?_))
  rw [cmpInfo_NotEq]
  dsimp only
  refine wpAny_bind (J.type.here (wpAny_bind (J2.here ?_)))
  have go2 : ∀ (Q2 : Option Value → Shared → Prop), (∀ k s', Q (.bool k) s' → Q2 (some (.bool k)) s') → wpAny (model P w) A (tryCompare (.ref x) (Str.ofString "__ne__") (.ref y)) Q2 E s := fun Q2 h => try_ne X J at_ fn ne_ mro hu (wpAny_mono go (fun v s' ⟨k, e, q⟩ => ⟨k, e, h _ _ q⟩) fun _ _ e => e)
  split
  · refine wpAny_bind ((PySem.W.looks_subIn X sb).here ?_)
    rw [if_neg Bool.false_ne_true]
    exact wpAny_bind (go2 _ fun k s' q => wpAny_pure q)
  · refine wpAny_bind (wpAny_pure ?_)
    rw [if_neg Bool.false_ne_true]
    exact wpAny_bind (go2 _ fun k s' q => wpAny_pure q)
end
end DLC
namespace DL
open PySem PySem.Spec L2
def rOthN (K : PySem.W.Frag) (C : Addr) (sp : Sp) : R2 := fun x y H Q => ∃ a b tb dx fs, x = .ref a ∧ y = .ref b ∧ H a = some (.ins C dx fs) ∧ OthV K H b tb ∧ PySem.W.subIn K tb (.ref C) = some false ∧ sp [.ref a, .ref b] H (fun v H' => ∃ k, v = .bl k ∧ Q (.bl (!k)) H') (fun _ _ _ => False)
theorem or_neOth {X : Cx} {k : Nat} {C f : Addr} {fd : FuncData} {ps : List Str} {sp : Sp} (O : OwnEq X.K C f) (F : FnG X.prog X.w X.K X.mg X.base k f fd ps sp) (hr : Room k X.A.in1) (hu : X.A.units + 1 < cLine) (hgd : X.A.guards = some []) (hb : Binds X.K fd ps []) : OpR X (compareOp .NotEq) (rOthN X.K C sp) := by
  intro pins s σ H x y u v Q I rx ry h
  obtain ⟨a, b, tb, dx, fs, rfl, rfl, ha, hb', nf, q⟩ := h
  cases rx
  cases ry
  show wpAny (model X.prog X.w) X.A (richCompare .NotEq (.ref a) (.ref b)) (EP X pins σ Q) X.xe s
  obtain ⟨ox, od, J, _⟩ := ob_at I ha
  refine DLC.ne_oth I.kIn J (oth_looks I hb') nf O.eq O.fn O.ne O.mro hu (wpAny_mono (run_own (A := X.A.in1) F hr (by exact hgd) rfl hb I q) (fun w s' ⟨z, H', I', rz, kk, ez, q'⟩ => ?_) fun _ _ e => e)
  subst ez
  cases rz
  exact ⟨kk, rfl, .bl (!kk), H', I', rfl, q'⟩
/-- a value of another kind, as data -/
def othD (K : PySem.W.Frag) (S : Store) (y : D) (tb : Value) : Prop := (∃ ds, y = .tup ds ∧ tb = .type "tuple") ∨ ∃ C, (objD C S y).isSome = true ∧ tb = .ref C
def rdOth (K : PySem.W.Frag) (C : Addr) (dsp : DSp) (neg : Bool) : DR2 := fun x y S Q => (objD C S x).isSome = true ∧ (∃ tb, othD K S y tb ∧ PySem.W.notFirst K C tb = true) ∧ dsp [x, y] S (fun d S' => ∃ k, d = .bl k ∧ Q (.bl (if neg then !k else k)) S') (fun _ _ _ _ => False)
theorem lift_oth {K : PySem.W.Frag} {C : Addr} {dsp : DSp} {neg : Bool} : Lift2 K (rOth K C (spD K dsp) neg) (rdOth K C dsp neg) := by
  intro Z H S F x y v w Q P R iv iw ⟨o1, ⟨tb, ot, nf⟩, q⟩ k
  obtain ⟨a, dx, fs, rfl, ha⟩ := ins_at R iv o1
  have hb : ∃ b, w = .ref b ∧ OthV K H b tb := by
    rcases ot with ⟨ds, rfl, rfl⟩ | ⟨C2, o2, rfl⟩
    · obtain ⟨b, ws, rfl, g1, g2⟩ := tup_inv iw
      exact ⟨b, rfl, .inl ⟨ws, R.sqt (SqT.of g1), rfl⟩⟩
    · obtain ⟨b, dy, gs, rfl, hb⟩ := ins_at R iw o2
      exact ⟨b, rfl, .inr ⟨C2, dy, gs, hb, rfl⟩⟩
  obtain ⟨b, rfl, hb⟩ := hb
  refine ⟨a, b, tb, dx, fs, rfl, rfl, ha, hb, nf, [x, y], S, F, Z, _, _, R, .cons iv (.cons iw .nil), q, fun v' H' ⟨d, S', F', A', i', kk, ed, q'⟩ => ?_, fun cls d H' ⟨_, _, _, _, _, _, _, _, z⟩ => z.elim⟩
  subst ed
  cases i'
  exact ⟨kk, rfl, k _ _ ⟨_, S', F', A', .bl _, q'⟩⟩
def rdOthN (K : PySem.W.Frag) (C : Addr) (dsp : DSp) : DR2 := fun x y S Q => (objD C S x).isSome = true ∧ (∃ tb, othD K S y tb ∧ PySem.W.subIn K tb (.ref C) = some false) ∧ dsp [x, y] S (fun d S' => ∃ k, d = .bl k ∧ Q (.bl (!k)) S') (fun _ _ _ _ => False)
theorem lift_othN {K : PySem.W.Frag} {C : Addr} {dsp : DSp} : Lift2 K (rOthN K C (spD K dsp)) (rdOthN K C dsp) := by
  intro Z H S F x y v w Q P R iv iw ⟨o1, ⟨tb, ot, nf⟩, q⟩ k
  obtain ⟨a, dx, fs, rfl, ha⟩ := ins_at R iv o1
  have hb : ∃ b, w = .ref b ∧ OthV K H b tb := by
    rcases ot with ⟨ds, rfl, rfl⟩ | ⟨C2, o2, rfl⟩
    · obtain ⟨b, ws, rfl, g1, g2⟩ := tup_inv iw
      exact ⟨b, rfl, .inl ⟨ws, R.sqt (SqT.of g1), rfl⟩⟩
    · obtain ⟨b, dy, gs, rfl, hb⟩ := ins_at R iw o2
      exact ⟨b, rfl, .inr ⟨C2, dy, gs, hb, rfl⟩⟩
  obtain ⟨b, rfl, hb⟩ := hb
  refine ⟨a, b, tb, dx, fs, rfl, rfl, ha, hb, nf, [x, y], S, F, Z, _, _, R, .cons iv (.cons iw .nil), q, fun v' H' ⟨d, S', F', A', i', kk, ed, q'⟩ => ?_, fun cls d H' ⟨_, _, _, _, _, _, _, _, z⟩ => z.elim⟩
  subst ed
  cases i'
  exact ⟨kk, rfl, k _ _ ⟨_, S', F', A', .bl _, q'⟩⟩
end DL

set_option maxRecDepth 100000
set_option maxHeartbeats 2000000
/-! DLB4: repr of trees with lists and dicts at once, of a list of the store too. The module table is written out, so no list stands there. -/
namespace DL
open PySem PySem.Spec L2
section
variable {X : Cx} {pins : List (Addr × Obj)} {σ : L2.St} {H : Hp} {s : Shared} {F : Hp}
theorem pairs_vals {κ : Type} [DecidableEq κ] {P : Program} {w : World} {knd : KeyKind P w κ} : ∀ {es : List DictEntry} {kvs : List (κ × Value)}, Pairs knd es kvs → es.map (·.val) = kvs.map (·.2)
  | _, _, .nil => rfl
  | _, _, .cons _ h t => by rw [List.map_cons, List.map_cons, h, pairs_vals t]
/-- how a value is shown, by the library's own relation -/
abbrev Shw (X : Cx) (s : Shared) (u : Value) (p : PyData) : Prop := ∃ bs, ReadAtMost s.heap p.depth bs ∧ ReprK X.prog X.w bs s.heap p.depth u p.shown
abbrev Shws (X : Cx) (s : Shared) (us : List Value) (ps : List PyData) : Prop := ∃ bs, ReadAtMost s.heap (PyData.depthAll ps) bs ∧ ReprAllK X.prog X.w bs s.heap (PyData.depthAll ps) us (PyData.shownAll ps)
theorem shw_list {a : Addr} {o : Obj} {its : List Value} {n : Nat} {ps : List PyData} {as : List Addr} (ho : s.heap.get? a = some o) (hc : o.cls = .type "list") (hd : o.data = .seq its.toArray n) (ra : ReadsAll s.heap its ps as) (h : Shws X s its ps) : Shw X s (.ref a) (.list ps) := by
  obtain ⟨bs, hb, hk⟩ := h
  have rr : Reads s.heap (.ref a) (.list ps) _ := .list ho hc hd ra
  have out : a ∉ bs := not_mem_of_deeper rr (by simp only [PyData.depth]; omega) hb
  refine ⟨a :: bs, ReadAtMost.cons rr (by simp only [PyData.depth]; omega) hb, ?_⟩
  simp only [PyData.shown, PyData.depth]
  cases its with
  | nil =>
    cases ra
    simp only [listText_nil, PyData.shownAll]
    exact ReprK.listEmpty ho hc hd
  | cons x l => exact ReprK.list ho hc hd out (by simpa using hk.length_eq) fun i y e => hk.item i y (by simpa using e)
theorem shw_tuple {a : Addr} {o : Obj} {its : List Value} {n : Nat} {ps : List PyData} {as : List Addr} (ho : s.heap.get? a = some o) (hc : o.cls = .type "tuple") (hd : o.data = .seq its.toArray n) (ra : ReadsAll s.heap its ps as) (h : Shws X s its ps) : Shw X s (.ref a) (.tuple ps) := by
  obtain ⟨bs, hb, hk⟩ := h
  have rr : Reads s.heap (.ref a) (.tuple ps) _ := .tuple ho hc hd ra
  have out : a ∉ bs := not_mem_of_deeper rr (by simp only [PyData.depth]; omega) hb
  refine ⟨a :: bs, ReadAtMost.cons rr (by simp only [PyData.depth]; omega) hb, ?_⟩
  simp only [PyData.shown, PyData.depth]
  exact ReprK.tuple ho hc hd out hk
theorem shown_in : ∀ {ps : List PyData} {m : Nat}, goodPs ps = true → szPs ps ≤ m → ∀ t ∈ PyData.shownAll ps, t.length ≤ m
  | [], _, _, _, _, ht => by simp [PyData.shownAll] at ht
  | p :: ps, m, g, z, t, ht => by
    have g' : goodP p = true ∧ goodPs ps = true := by simpa [goodPs] using g
    have z' : szP p + 2 + szPs ps ≤ m := by simpa [szPs] using z
    rcases List.mem_cons.mp (by simpa [PyData.shownAll] using ht) with e | ht
    · rw [e]
      have := shown_le p g'.1
      omega
    · exact shown_in g'.2 (Nat.le_trans (Nat.le_add_left _ _) z') t ht
mutual
theorem rk_of (I : Inv X pins σ H s) (sub : ∀ b u, F b = some u → H b = some u) : ∀ (d : D) (v : V) (u : Value) (p : PyData), IsV X.K F d v → RelV v u → showD d = some p → goodP p = true → szP p ≤ sizeLine → Shw X s u p
  | .non, _, _, _, iv, rv, e, _, _ => by
    cases iv; cases rv; unfold showD at e; cases e
    exact ⟨[], fun _ z => (nomatch z), by simp only [PyData.shown]; exact .of_is ReprIs.none _ _ _⟩
  | .bl b, _, _, _, iv, rv, e, _, _ => by
    cases iv; cases rv; unfold showD at e; cases e
    exact ⟨[], fun _ z => (nomatch z), by simp only [PyData.shown]; exact .of_is (ReprIs.bool b) _ _ _⟩
  | .int i, _, _, _, iv, rv, e, g, _ => by
    cases iv; obtain ⟨t, rfl⟩ := rv; unfold showD at e; cases e
    exact ⟨[], fun _ z => (nomatch z), by simp only [PyData.shown]; exact .of_is (ReprIs.int t (by simpa [goodP] using g)) _ _ _⟩
  | .str i, _, _, _, iv, rv, e, g, z => by
    cases iv; obtain ⟨t, rfl⟩ := rv; unfold showD at e; cases e
    have l := Nat.le_trans (shown_le (.str i) g) z
    exact ⟨[], fun _ z => (nomatch z), by simp only [PyData.shown]; exact .of_is (ReprIs.str i t (by simpa only [PyData.shown] using l)) _ _ _⟩
  | .ty _, _, _, _, _, _, e, _, _ => by unfold showD at e; cases e
  | .ref _, _, _, _, _, _, e, _, _ => by unfold showD at e; cases e
  | .scr _, _, _, _, _, _, e, _, _ => by unfold showD at e; cases e
  | .kup _, _, _, _, _, _, e, _, _ => by unfold showD at e; cases e
  | .obj _ _ _, _, _, _, _, _, e, _, _ => by unfold showD at e; cases e
  | .tup ds, _, _, _, iv, rv, e, g, z => by
    unfold showD at e
    obtain ⟨ps, e1, rfl⟩ := map_some e
    cases iv with
    | tup h1 h2 =>
      cases rv
      obtain ⟨its, r, ⟨o, ho, hc, n, hd⟩, _⟩ := I.tuple (SqT.of (K := X.K) (sub _ _ h1))
      obtain ⟨as, ra, _⟩ := reads_ofs I sub ds _ its ps h2 r e1
      exact shw_tuple ho hc hd ra (rk_ofs I sub ds _ its ps h2 r e1 (by simpa [goodP] using g) (by simp only [szP] at z; omega))
  | .lst ds, _, _, _, iv, rv, e, g, z => by
    unfold showD at e
    obtain ⟨ps, e1, rfl⟩ := map_some e
    cases iv with
    | lst h1 h2 =>
      cases rv
      obtain ⟨its, r, ⟨o, n, ho, hc, _, hd⟩, _⟩ := I.list (SqL.of (K := X.K) (sub _ _ h1))
      obtain ⟨as, ra, _⟩ := reads_ofs I sub ds _ its ps h2 r e1
      exact shw_list ho hc hd ra (rk_ofs I sub ds _ its ps h2 r e1 (by simpa [goodP] using g) (by simp only [szP] at z; omega))
  | .dK ks ds, _, _, _, iv, rv, e, g, z => by
    unfold showD at e
    obtain ⟨ps, e1, rfl⟩ := map_some e
    cases iv with
    | dK h1 h2 h3 =>
      cases rv
      obtain ⟨_, hsy, vs, kv, o, es, ep, ho, hx, hdat, _, hp, _⟩ := dk_of I.hok (sub _ _ h1)
      obtain ⟨k1, k2⟩ := kv_split kv
      obtain ⟨as, ra, _⟩ := reads_ofs I sub ds _ _ ps h3 k2 e1
      obtain ⟨r1, r2⟩ := reads_pairs (enc := keyP) (fun k u => reads_key) hp ra
      have lps : vs.length = ps.length := by have := readsAll_len ra; rwa [List.length_map] at this
      have e2 : ((((vs.map (·.1)).map keyP).zip ps).map (·.2)) = ps := List.map_snd_zip (by rw [List.length_map, List.length_map]; omega)
      have gk : goodPk ((ks.map keyP).zip ps) = true := by simpa [goodP] using g
      have zk : szPk ((ks.map keyP).zip ps) + 3 ≤ sizeLine := by simpa only [szP] using z
      have ek : vs.map (·.1) = ks := k1.symm.trans h2
      have spl : ∀ {l : List (PyData × PyData)}, goodPk l = true → (goodPs (l.map (·.1)) = true ∧ goodPs (l.map (·.2)) = true) ∧ szPs (l.map (·.1)) ≤ szPk l ∧ szPs (l.map (·.2)) ≤ szPk l := fun {l} => by
        induction l with
        | nil => intro _; exact ⟨⟨rfl, rfl⟩, Nat.le_refl _, Nat.le_refl _⟩
        | cons x r ih =>
          intro q
          obtain ⟨k, v⟩ := x
          have q' : (goodP k = true ∧ goodP v = true) ∧ goodPk r = true := by simpa [goodPk] using q
          obtain ⟨⟨a1, a2⟩, a3, a4⟩ := ih q'.2
          refine ⟨⟨by simp [goodPs, q'.1.1, a1], by simp [goodPs, q'.1.2, a2]⟩, ?_, ?_⟩
          · simp only [List.map_cons, szPs, szPk]; omega
          · simp only [List.map_cons, szPs, szPk]; omega
      rw [← ek] at gk zk ⊢
      obtain ⟨⟨g1, g2⟩, z1, z2⟩ := spl gk
      have nd : ∀ (l : List Key) (m : List PyData), PyData.hasDictAll (((l.map keyP).zip m).map (·.1)) = false := fun l => by
        induction l with
        | nil => intro m; simp [PyData.hasDictAll]
        | cons k l ih =>
          intro m
          cases m with
          | nil => simp [PyData.hasDictAll]
          | cons y m =>
            simp only [List.map_cons, List.zip_cons_cons, PyData.hasDictAll, ih m, Bool.or_false]
            cases k <;> simp [keyP, PyData.hasDict]
      obtain ⟨b1, hb1, w1⟩ := ReprAllK.of_readsAll (prog := X.prog) (w := X.w) r1 (good_showables _ g1) (fun q => by rw [nd] at q; cases q) (shown_in g1 (by omega))
      have ev : es.toList.map (·.val) = vs.map (·.2) := pairs_vals hp
      have w2' := rk_ofs I sub ds _ _ ps h3 k2 e1 (by rw [e2] at g2; exact g2) (by rw [e2] at z2; omega)
      rw [← ev, ← e2] at w2'
      obtain ⟨b2, hb2, w2⟩ := w2'
      have rr : Reads s.heap (.ref _) (.dict (((vs.map (·.1)).map keyP).zip ps)) _ := .dict ho hx.1 hdat r1 r2
      have hb := (hb1.mono (PyData.depthAll_keys_le (((vs.map (·.1)).map keyP).zip ps))).append (hb2.mono (PyData.depthAll_vals_le (((vs.map (·.1)).map keyP).zip ps)))
      have out := not_mem_of_deeper rr (by simp only [PyData.depth]; omega) hb
      refine ⟨_ :: (b1 ++ b2), ReadAtMost.cons rr (by simp only [PyData.depth]; omega) hb, ?_⟩
      simp only [PyData.shown, PyData.depth, PyData.shownKv_eq]
      exact ReprK.dict ho hx.1 hdat hsy out (ReprEntriesK.of_two es.toList _ _ (w1.more_le (fun _ q => List.mem_append_left _ q) (PyData.depthAll_keys_le _)) (w2.more_le (fun _ q => List.mem_append_right _ q) (PyData.depthAll_vals_le _)))
  | .dT _ _, _, _, _, _, _, e, _, _ => by unfold showD at e; cases e
theorem rk_ofs (I : Inv X pins σ H s) (sub : ∀ b u, F b = some u → H b = some u) : ∀ (ds : List D) (vs : List V) (us : List Value) (ps : List PyData), IsVs X.K F ds vs → Vals vs us → showDs ds = some ps → goodPs ps = true → szPs ps ≤ sizeLine → Shws X s us ps
  | [], _, _, _, iv, rv, e, _, _ => by
    cases iv; cases rv; unfold showDs at e; cases e
    exact ⟨[], fun _ z => (nomatch z), by simp only [PyData.shownAll]; exact .nil⟩
  | d :: ds, _, _, _, iv, rv, e, g, z => by
    obtain ⟨p, r, rfl, e1, e2⟩ := showDs_cons e
    have g' : goodP p = true ∧ goodPs r = true := by simpa [goodPs] using g
    have z' : szP p + 2 + szPs r ≤ sizeLine := by simpa [szPs] using z
    cases iv with
    | cons i1 i2 =>
      cases rv with
      | cons r1 r2 =>
        obtain ⟨b1, hb1, k1⟩ := rk_of I sub d _ _ p i1 r1 e1 g'.1 (by omega)
        obtain ⟨b2, hb2, k2⟩ := rk_ofs I sub ds _ _ r i2 r2 e2 g'.2 (by omega)
        refine ⟨b1 ++ b2, fun b hm => ?_, ?_⟩
        · simp only [PyData.depthAll]
          rcases List.mem_append.mp hm with hm | hm
          · obtain ⟨d1, as1, q1, q2⟩ := hb1 b hm
            exact ⟨d1, as1, q1, Nat.le_trans q2 (Nat.le_max_left _ _)⟩
          · obtain ⟨d1, as1, q1, q2⟩ := hb2 b hm
            exact ⟨d1, as1, q1, Nat.le_trans q2 (Nat.le_max_right _ _)⟩
        · simp only [PyData.shownAll, PyData.depthAll]
          exact .cons ((k1.more fun _ q => List.mem_append_left _ q).level_le (Nat.le_max_left _ _)) (k2.more_le (fun _ q => List.mem_append_right _ q) (Nat.le_max_right _ _))
end
/-- x is the tuple or list d, or a list of the heap of such trees -/
def rReprM (K : PySem.W.Frag) : List V → Hp → VK → Prop := fun xs H Q => ∃ (x : V) (F : Hp) (ds : List D) (d : D) (p : PyData), xs = [x] ∧ (∀ b u, F b = some u → H b = some u) ∧ ((d = .tup ds ∧ IsV K F d x) ∨ ∃ a vs, x = .ref a ∧ H a = some (.lst vs) ∧ d = .lst ds ∧ IsVs K F ds vs) ∧ showD d = some p ∧ goodP p = true ∧ szP p ≤ 16000000 ∧ p.depth ≤ 60 ∧ Q (.str p.shown) H
theorem cr_reprM (hg : X.A.guards = some []) (hu : X.A.units + 64 < cLine) : CallR X (.builtin "repr") (rReprM X.K) := by
  intro pins s σ H xs us Q I r h
  obtain ⟨x, F, ds, d, p, rfl, sub, iv, e, g, z, hd, q⟩ := h
  obtain ⟨u, rfl, ru⟩ := r.one
  have big : (16000000 : Nat) ≤ sizeLine := by rw [sizeLine_eq]; omega
  have back : ∀ h' t tk, (∀ b o, s.heap.get? b = some o → h'.get? b = some o) → EP X pins σ Q (.str p.shown t) { s with heap := h', toks := tk } := fun h' t tk kp => ⟨.str p.shown, H, I.kept kp, ⟨_, rfl⟩, q⟩
  have len := Nat.le_trans (shown_le p g) (Nat.le_trans z big)
  rcases iv with ⟨rfl, iv⟩ | ⟨a, vs, rfl, h1, rfl, h2⟩
  · unfold showD at e
    obtain ⟨ps, e1, rfl⟩ := map_some e
    cases iv with
    | tup h1 h2 =>
      cases ru
      obtain ⟨its, r, ⟨o, ho, hc, n, hd2⟩, _⟩ := I.tuple (SqT.of (K := X.K) (sub _ _ h1))
      obtain ⟨as, ra, _⟩ := reads_ofs I sub ds _ its ps h2 r e1
      obtain ⟨bs, hb, hk⟩ := rk_ofs I sub ds _ its ps h2 r e1 (by simpa [goodP] using g) (by simp only [szP] at z; omega)
      have rr : Reads s.heap (.ref _) (.tuple ps) _ := .tuple ho hc hd2 ra
      have out := not_mem_of_deeper rr (by simp only [PyData.depth]; omega) hb
      simp only [PyData.depth] at hd
      refine call_repr_slot (T := "tuple") (by omega) ⟨o, ho, hc⟩ PySem.F.slot_tuple_repr ?_
      exact call_tuple_reprK ho hc hd2 out hk (g := []) hg (fun b _ => Clear.nil b) (by show X.A.units + 1 + _ < cLine; omega) (fun _ _ y => y) (fun h' t tk kp => ⟨_, _, rfl, by simpa only [PyData.shown] using back h' t tk kp⟩) (by simpa only [PyData.shown] using len)
  · unfold showD at e
    obtain ⟨ps, e1, rfl⟩ := map_some e
    cases ru
    obtain ⟨its, r, ⟨o, n, ho, hc, _, hd2⟩, _⟩ := I.list (SqL.of (K := X.K) h1)
    obtain ⟨as, ra, _⟩ := reads_ofs I sub ds _ its ps h2 r e1
    obtain ⟨bs, hb, hk⟩ := rk_ofs I sub ds _ its ps h2 r e1 (by simpa [goodP] using g) (by simp only [szP] at z; omega)
    have rr : Reads s.heap (.ref _) (.list ps) _ := .list ho hc hd2 ra
    have out := not_mem_of_deeper rr (by simp only [PyData.depth]; omega) hb
    simp only [PyData.depth] at hd
    refine call_repr_slot (T := "list") (by omega) ⟨o, ho, hc⟩ PySem.F.slot_list_repr.toG ?_
    cases its with
    | nil =>
      cases ra
      have b0 := back s.heap s.toks (s.toks + 1) fun _ _ y => y
      simp only [PyData.shown, PyData.shownAll, listText_nil] at b0
      exact call_list_repr_empty ⟨o, ho, hc⟩ ho hd2 ⟨_, _, rfl, b0⟩
    | cons x l =>
      exact call_list_reprK ho hc hd2 out (by simpa using hk.length_eq) (fun i y e => hk.item i y (by simpa using e)) (g := []) hg (fun b _ => Clear.nil b) (by show X.A.units + 1 + _ < cLine; omega) (fun _ _ y => y) (fun h' t tk kp => ⟨_, _, rfl, by simpa only [PyData.shown] using back h' t tk kp⟩) (by simpa only [PyData.shown] using len)
end
/-- what is shown: the tree, or the list of the store -/
def frzM : Option M → D → D
  | some (.lst ds), _ => .lst ds
  | _, d => d
def frz (S : Store) : D → D
  | .ref a => frzM (S a) (.ref a)
  | d => d
/-- a tree that repr shows, at most n signs, m deep -/
structure RepW (n m : Nat) (d : D) : Prop where
  ex : ∃ p, showD d = some p ∧ goodP p = true ∧ szP p ≤ n ∧ p.depth ≤ m
def shownW (d : D) : Str := match showD d with
  | some p => p.shown
  | none => ""
/-- a tuple, or a list of the store or a frozen one -/
def seqB : D → Bool
  | .tup _ => true
  | .lst _ => true
  | _ => false
def rdReprM : DRL := fun xs S Q => match xs with
  | [x] => seqB (frz S x) = true ∧ RepW 16000000 60 (frz S x) ∧ Q (.str (shownW (frz S x))) S
  | _ => False
theorem lift_reprM {K : PySem.W.Frag} : LiftL K (rReprM K) rdReprM := by
  intro Z H S F x v Q P R iv q k
  match x, iv, q with
  | [d], iv, q =>
    obtain ⟨sq, ⟨p, e, g, z, dp⟩, q⟩ := (show seqB (frz S d) = true ∧ RepW 16000000 60 (frz S d) ∧ Q (.str (shownW (frz S d))) S from q)
    obtain ⟨v, rfl, iw⟩ := isVs_one iv
    have es : shownW (frz S d) = p.shown := by unfold shownW; rw [e]
    rw [es] at q
    have go : ∀ ds, ((frz S d = .tup ds ∧ IsV K F (frz S d) v) ∨ ∃ a vs, v = .ref a ∧ H a = some (.lst vs) ∧ frz S d = .lst ds ∧ IsVs K F ds vs) → rReprM K [v] H P := fun ds y =>
      ⟨v, F, ds, frz S d, p, rfl, fun b u z => (R.sub b u z).1, y, e, g, z, dp, k _ _ ⟨_, S, F, .refl R, .str _, q⟩⟩
    cases d with
    | ref a =>
      cases hs : S a with
      | none =>
        have sq : seqB (frzM (S a) (.ref a)) = true := sq
        rw [hs] at sq; cases sq
      | some m =>
        cases m with
        | lst ds =>
          cases iw
          obtain ⟨_, o, ho, vs, e3, h2⟩ := R.sto a _ hs
          subst e3
          exact go ds (.inr ⟨a, vs, rfl, ho, (by show frzM (S a) (.ref a) = _; rw [hs]; rfl), h2⟩)
        | _ =>
          have sq : seqB (frzM (S a) (.ref a)) = true := sq
          rw [hs] at sq; cases sq
    | tup ds => exact go ds (.inl ⟨rfl, iw⟩)
    | lst ds =>
      cases iw with
      | lst h1 h2 => exact go ds (.inr ⟨_, _, rfl, (R.sub _ _ h1).1, rfl, h2⟩)
    | _ => cases sq
section
variable {X : Cx} {W : WX} {e : Expr} {te : DTE} {p pos : Pos}
theorem de_reprM (B : Bis X.mg) (hgd : X.A.guards = some []) (hu : X.A.units + 64 < cLine) (he : DE X W e te) (hg : Gl X "repr" := by rfl) (hs : starEach [e] X.env = (false, eval e X.env) :: starEach [] X.env := by rfl) (hpl : (backTo pos (starEach [] X.env)).any (·.1) = false := by rfl) :
    DE X W (.Call (.Name "repr" p) [e] [] pos) (dCB rdReprM (dCons te dNil)) :=
  de_callB (cr_reprM hgd hu) lift_reprM B.repr (by first | exact PyProof.Rows.boot_repr | decide +kernel | kernel_rfl) (da_cons he da_nil hs) hg (by decide) (by decide) hs hpl
end
theorem s_reprM {S : Store} {Q : DQ} {x : D} (s : seqB (frz S x) = true) (h : RepW 16000000 60 (frz S x)) (q : Q (.str (shownW (frz S x))) S) : rdReprM [x] S Q := ⟨s, h, q⟩
theorem RepW.mono {n m n' m' : Nat} {d : D} (h : RepW n m d) (hn : n ≤ n') (hm : m ≤ m') : RepW n' m' d := let ⟨p, a, b, c, e⟩ := h.ex; ⟨p, a, b, Nat.le_trans c hn, Nat.le_trans e hm⟩
theorem RepL.repW {n m : Nat} {d : D} (h : RepL n m d) : RepW n m d := let ⟨p, a, b, c, e, _⟩ := h.ex; ⟨p, a, b, c, e⟩
theorem Rep.repW {n m : Nat} {d : D} (h : Rep n m d) : RepW n m d := let ⟨p, a, b, c, e, _⟩ := h.ex; ⟨p, a, b, c, e⟩
theorem repsW {n m : Nat} : ∀ {ds : List D}, (∀ d ∈ ds, RepW n m d) → ∃ ps, showDs ds = some ps ∧ goodPs ps = true ∧ szPs ps ≤ ds.length * (n + 2) ∧ PyData.depthAll ps ≤ m
  | [], _ => ⟨[], rfl, rfl, by simp [szPs], by simp [PyData.depthAll]⟩
  | d :: ds, h => by
    obtain ⟨ps, a1, a2, a3, a4⟩ := repsW (ds := ds) fun x hx => h x (List.mem_cons_of_mem _ hx)
    obtain ⟨p, b1, b2, b3, b4⟩ := (h d List.mem_cons_self).ex
    refine ⟨p :: ps, ?_, ?_, ?_, ?_⟩
    · unfold showDs; rw [b1, a1]
    · simp [goodPs, a2, b2]
    · simp only [szPs, List.length_cons, Nat.add_mul, Nat.one_mul]; omega
    · simp [PyData.depthAll]; omega
theorem repW_tup {n m : Nat} {ds : List D} (h : ∀ d ∈ ds, RepW n m d) : RepW (ds.length * (n + 2) + 3) (m + 1) (.tup ds) := by
  obtain ⟨ps, a1, a2, a3, a4⟩ := repsW h
  exact ⟨.tuple ps, by unfold showD; rw [a1]; rfl, by simp [goodP, a2], by simp only [szP]; omega, by simp only [PyData.depth]; omega⟩
theorem repW_lst {n m : Nat} {ds : List D} (h : ∀ d ∈ ds, RepW n m d) : RepW (ds.length * (n + 2) + 3) (m + 1) (.lst ds) := by
  obtain ⟨ps, a1, a2, a3, a4⟩ := repsW h
  exact ⟨.list ps, by unfold showD; rw [a1]; rfl, by simp [goodP, a2], by simp only [szP]; omega, by simp only [PyData.depth]; omega⟩
/-- a written tree, checked -/
def repB (n m : Nat) (d : D) : Bool := match showD d with
  | some p => goodP p && decide (szP p ≤ n) && decide (p.depth ≤ m)
  | none => false
theorem repW_of {n m : Nat} {d : D} (h : repB n m d = true) : RepW n m d := by
  unfold repB at h
  cases e : showD d with
  | none => rw [e] at h; cases h
  | some p =>
    rw [e] at h
    simp only [Bool.and_eq_true, decide_eq_true_eq] at h
    exact ⟨p, e, h.1.1, h.1.2, h.2⟩
end DL

set_option maxRecDepth 100000
set_option maxHeartbeats 2000000
/-! DLB5: tuple * n; facts about slices. -/
namespace DL
open PySem PySem.Spec L2
def rdRepT : DR2 := fun x y S Q => match x, y with
  | .tup ds, .int k => (2 ≤ k ∧ k ≤ 1000) ∧ ds.length ≤ 1000 ∧ ds ≠ [] ∧ Q (.tup (List.replicate k.toNat ds).flatten) S
  | _, _ => False
theorem lift_repT {K : PySem.W.Frag} : Lift2 K (rRepT K) rdRepT := by
  intro Z H S F x y v w Q P R iv iw q k
  unfold rdRepT at q
  split at q
  · rename_i ds j
    obtain ⟨⟨z0, z1⟩, z2, ne, q⟩ := q
    cases iw
    cases iv with
    | tup h1 h2 =>
      refine ⟨_, j, _, rfl, rfl, R.sqt (SqT.of h1), fun e => ne ?_, by omega, by omega, by rw [← h2.length]; exact z2, fun p hp => ?_⟩
      · exact (nil_vs h2).mp e
      · obtain ⟨R2, s2, k2⟩ := R.laid (o := .tup _) hp
        exact k _ _ ⟨.tup _, S, _, ⟨s2, R2, k2⟩, .tup upd_same ((isVs_rep h2 _).up s2), q⟩
  · exact q.elim
theorem s_rep {S : Store} {Q : DQ} {ds : List D} {k : Int} (h0 : 0 ≤ k ∧ k ≤ 1000) (h1 : ds.length ≤ 1000) (q : Q (.lst (List.replicate k.toNat ds).flatten) S) : rdRep (.lst ds) (.int k) S Q := ⟨h0, h1, q⟩
theorem s_repT {S : Store} {Q : DQ} {ds : List D} {k : Int} (h0 : 2 ≤ k ∧ k ≤ 1000) (h1 : ds.length ≤ 1000) (ne : ds ≠ []) (q : Q (.tup (List.replicate k.toNat ds).flatten) S) : rdRepT (.tup ds) (.int k) S Q := ⟨h0, h1, ne, q⟩
theorem cut_map {α β : Type} (f : α → β) (l : List α) (lo hi : Option Int) : cutD (l.map f) lo hi = (cutD l lo hi).map f := by
  unfold cutD
  rw [List.length_map, List.map_take, List.map_drop]
theorem cut_mem {α : Type} {l : List α} {lo hi : Option Int} {x : α} (h : x ∈ cutD l lo hi) : x ∈ l := List.mem_of_mem_drop (List.mem_of_mem_take h)
theorem cut_len {α : Type} (l : List α) (lo hi : Option Int) : (cutD l lo hi).length ≤ l.length := by
  unfold cutD
  rw [List.length_take, List.length_drop]
  omega
theorem rep_mem {α : Type} {l : List α} {n : Nat} {x : α} (h : x ∈ (List.replicate n l).flatten) : x ∈ l := by
  obtain ⟨m, h1, h2⟩ := List.mem_flatten.mp h
  rw [List.eq_of_mem_replicate h1] at h2
  exact h2
theorem rep_len {α : Type} (l : List α) (n : Nat) : (List.replicate n l).flatten.length = n * l.length := by
  induction n with
  | zero => simp
  | succ n ih => rw [List.replicate_succ, List.flatten_cons, List.length_append, ih, Nat.succ_mul]; omega
theorem rep_map {α β : Type} (f : α → β) (l : List α) (n : Nat) : (List.replicate n (l.map f)).flatten = ((List.replicate n l).flatten).map f := by
  induction n with
  | zero => rfl
  | succ n ih => rw [List.replicate_succ, List.replicate_succ, List.flatten_cons, List.flatten_cons, List.map_append, ih]
end DL

set_option maxRecDepth 100000
set_option maxHeartbeats 2000000
/-! DLB6: isinstance of a caught exception of an own class. -/
namespace DL
open PySem PySem.Spec L2
/-- an own exception class, for isinstance -/
structure IsX (K : PySem.W.Frag) (C : Addr) : Prop where
  cl : PySem.W.isClsIn K C = true
  xf : XfC K C
  ha : PySem.W.findIn K (.ref C) "__class__" = some (some (.builtin "object.__class__"))
  hn : PySem.W.specialIn K (.builtin "object.__class__") "__get__" = some (some (.builtin "getset_descriptor.__get__"))
  htk : PySem.W.takesIn K (.builtin "object.__class__") = some true
  hm : PySem.W.mroIn K C (.type "object") = some true
section
variable {X : Cx} {a C C2 : Addr} {oe : Obj} {cls : Value} {d : Option Addr} {pn : List (Addr × Obj)} {b : Bool}
def rIsX (a C C2 : Addr) (cls : Value) (d : Option Addr) (b : Bool) : List V → Hp → VK → Prop := fun xs H Q => xs = [.ref a, .ref C2] ∧ cls = .ref C ∧ (∃ dd fs, d = some dd ∧ H dd = some (.xd fs)) ∧ Q (.bl b) H
theorem call_isX (T : IsX X.K C) (hk : PySem.W.kitOne X.K (.ref C) (.ref C2) = some b) (hz : Zc cls d oe) (hf : ∃ vs, oe.data = .fields vs) : CallR (X.suite a ((a, oe) :: pn)) (.builtin "isinstance") (rIsX a C C2 cls d b) := by
  intro pins s σ H xs us Q I r h
  obtain ⟨rfl, ec, ⟨dd, fs, ed, ea⟩, q⟩ := h
  obtain ⟨u1, u2, rfl, r1, r2⟩ := vals2 r
  obtain rfl : u1 = Value.ref a := r1
  obtain rfl : u2 = Value.ref C2 := r2
  subst ec
  subst ed
  obtain ⟨ha, _⟩ := I.pin (a, oe) (List.mem_append_left _ List.mem_cons_self)
  obtain ⟨vs, hd⟩ := hf
  have hx : ObjOk X.prog X.w H s.heap dd (.xd fs) := I.hok dd _ ea
  obtain ⟨mA, hns, hr⟩ := hx
  obtain ⟨od, ho, hl⟩ := lookIn_ns hns
  have J : PySem.W.InstAt s.heap a oe C (some od) := ⟨ha, hz.1, by unfold PySem.W.notCls; rw [hd] <;> rfl, by rw [hz.2]; exact ho⟩
  exact PySem.W.kia_one (PySem.W.kitx_exc (gt := none) T.cl T.xf.ga T.xf.gg T.xf.exC T.ha T.hn T.htk T.hm) I.kIn J hk (fun z => nomatch z) fun tk => ⟨.bl b, H, I.tok tk, rfl, q⟩
def rdIsX (a C C2 : Addr) (cls : Value) (d : Option Addr) (b : Bool) : DRL := fun xs S Q => xs = [.ref a, .ref C2] ∧ cls = .ref C ∧ (∃ dd ns ds, d = some dd ∧ S dd = some (.xd ns ds)) ∧ Q (.bl b) S
theorem lift_isX {K : PySem.W.Frag} : LiftL K (rIsX a C C2 cls d b) (rdIsX a C C2 cls d b) := by
  intro Z H S F x v Q P R iv ⟨e1, e2, ⟨dd, ns, ds, e3, hs⟩, q⟩ k
  subst e1
  obtain ⟨v1, v2, rfl, i1, i2⟩ := isVs_two iv
  cases i1
  cases i2
  obtain ⟨_, o, ho, fs, e, _⟩ := R.sto dd _ hs
  subst e
  exact ⟨rfl, e2, ⟨dd, fs, e3, ho⟩, k _ _ ⟨_, S, F, .refl R, .bl _, q⟩⟩
theorem de_isiX {W : WX} {e : Expr} {te : DTE} {x : Str} {p p2 pos : Pos} (B : Bis X.mg) (hm : X.mg x = some (.ref C2)) (T : IsX X.K C) (hk : PySem.W.kitOne X.K (.ref C) (.ref C2) = some b) (hz : Zc cls d oe) (hf : ∃ vs, oe.data = .fields vs) (he : DE (X.suite a ((a, oe) :: pn)) W e te) (hg : Gl X "isinstance" := by rfl) (hgx : Gl X x := by rfl) (hd : (x == ("__debug__" : Str)) = false := by decide)
    (hs : starEach [e, .Name x p2] X.env = (false, eval e X.env) :: starEach [.Name x p2] X.env := by rfl) (hs2 : starEach [.Name x p2] X.env = (false, eval (.Name x p2) X.env) :: starEach [] X.env := by rfl) (hpl : (backTo pos (starEach [.Name x p2] X.env)).any (·.1) = false := by rfl) :
    DE (X.suite a ((a, oe) :: pn)) W (.Call (.Name "isinstance" p) [e, .Name x p2] [] pos) (dCB (rdIsX a C C2 cls d b) (dCons te (dCons (dC (.ref C2)) dNil))) :=
  de_callB (X := X.suite a ((a, oe) :: pn)) (call_isX T hk hz hf) lift_isX B.isi PyProof.Rows.boot_isinstance (da_cons he (da_cons (de_glob (v := .ref _) hm rfl (fun _ => .ref _) hgx hd) da_nil hs2) hs) hg (by decide) (by decide) hs hpl
end
theorem s_isX {a C C2 dd : Addr} {b : Bool} {ns : List Str} {ds : List D} {S : Store} {Q : DQ} (hs : S dd = some (.xd ns ds)) (h : Q (.bl b) S) : rdIsX a C C2 (.ref C) (some dd) b [.ref a, .ref C2] S Q := ⟨rfl, rfl, ⟨dd, ns, ds, rfl, hs⟩, h⟩
end DL
namespace DL
open PySem PySem.Spec L2
/-- both ways of an if meet again: I holds there -/
theorem s_ifK {c : DTT} {t u : DTS} {N : DEnds} {ρ : Sl} {S : Store} (I : Sl → Store → Prop) (h2 : ∀ ρ' S', I ρ' S' → N.nx ρ' S')
    (h1 : ∀ J : Sl → Store → Prop, (∀ ρ' S', I ρ' S' → J ρ' S') → c ρ S (fun b S1 => if b = true then t { N with nx := J } ρ S1 else u { N with nx := J } ρ S1) (N.ex ρ)) : dIfS c t u N ρ S := h1 N.nx h2
theorem s_ixR {S : Store} {Q : DQ} {a : Addr} {ds : List D} {k : Int} {d : D} (e : S a = some (.lst ds)) (h : L2.atI ds k = some d) (q : Q d S) : rdIx (.ref a) (.int k) S Q := ⟨k, rfl, ds, d, e, h, q⟩
theorem Ext.deck {S S' : Store} {a L : Addr} {k : Nat} (e : Ext S S') (D : Deck S a L k) : Deck S' a L k := by
  obtain ⟨⟨ns, t, d, h1, h2, h3⟩, n⟩ := D
  exact ⟨⟨ns, t, d, e _ _ h1, e _ _ h2, h3⟩, n⟩
end DL

set_option maxRecDepth 100000
set_option maxHeartbeats 2000000
/-! DLB7: walking known tuples; x in a tuple of data. -/
namespace DL
open PySem PySem.Spec L2
section
variable {X : Cx} {W : WX} {tg e : Expr} {te : DTE}
def dItTK (te : DTE) : DTI := fun ρ S Q E => te ρ S (fun d S1 => ∃ ds, (d = .tup ds ∨ d = .kup ds) ∧ Q ds S1) E
theorem di_tupK (h : DE X W e te) : DI X W tg e (dItTK te) := ⟨pi_imp (pi_tup h.pe) fun σ H P ⟨ρ, S, F, Z, Q, E, R, V, q, k, x⟩ => ⟨ρ, S, F, Z, _, E, R, V, q, fun v H1 ⟨d, S1, F1, A1, i1, ds, hd, q1⟩ => by
  have go : ∀ a vs, v = .ref a → SqT X.K F1 a vs → IsVs X.K F1 ds vs → ∃ a, v = .ref a ∧ (∃ xs, SqT X.K H1 a xs) ∧ P (Itt X.K a) H1 := fun a vs ev h1 h2 => by
    refine ⟨a, ev, ⟨_, A1.rel.sqt h1⟩, k _ _ ds S1 F1 A1 ⟨fun H S F' Z s R i hi => ?_, fun H S F' Z s R => ?_, fun H S F' Z s R i x H' hi hy => ?_⟩ q1⟩
    · exact ⟨_, _, R.sqt (Same.sqt s h1), List.getElem?_eq_getElem (by rw [← h2.length]; exact hi)⟩
    · exact ⟨_, R.sqt (Same.sqt s h1), by rw [h2.length]; exact Nat.le_refl _⟩
    · obtain ⟨rfl, hy⟩ := hy
      have e := hy _ (R.sqt (Same.sqt s h1))
      obtain ⟨d, hd, iv⟩ := h2.getV e
      exact ⟨F', d, .refl R, hd, iv.up s⟩
  rcases hd with rfl | rfl
  · cases i1 with
    | tup h1 h2 => exact go _ _ rfl (SqT.of h1) h2
  · cases i1 with
    | kup h1 h0 h2 => exact go _ _ rfl (.inl (.inr ⟨_, h1⟩)) h2, x⟩⟩
theorem s_itTK {ρ : Sl} {S : Store} {E : DX} {QI : List D → Store → Prop} (h : te ρ S (fun d S1 => ∃ ds, (d = .tup ds ∨ d = .kup ds) ∧ QI ds S1) E) : dItTK te ρ S QI E := h
theorem s_itTKt {QI : List D → Prop} {ds : List D} (h : QI ds) : ∃ es, (D.tup ds = .tup es ∨ D.tup ds = .kup es) ∧ QI es := ⟨ds, .inl rfl, h⟩
theorem s_itTKk {QI : List D → Prop} {ds : List D} (h : QI ds) : ∃ es, (D.kup ds = .tup es ∨ D.kup ds = .kup es) ∧ QI es := ⟨ds, .inr rfl, h⟩
end
/-! x in a tuple, by data -/
section
variable {X : Cx}
def rInDT (K : PySem.W.Frag) (neg : Bool) : R2 := fun x y H Q => ∃ d ds, Dp K H x d ∧ Dp K H y (.tuple ds) ∧ SeqAt.shaped d = true ∧ SeqAt.shaped (.tuple ds) = true ∧ Q (.bl (if neg then !(ds.any fun z => PyData.eqv z d) else ds.any fun z => PyData.eqv z d)) H
theorem op_inDT (hu : X.A.units + 65 < cLine) : OpR X (compareOp .In) (rInDT X.K false) := by
  intro pins s σ H x y v u Q I rx ry h
  obtain ⟨d, ds, hd, he, sd, se, q⟩ := h
  obtain ⟨as, r1⟩ := Dp.reads I d x v hd rx
  obtain ⟨bs, r2⟩ := Dp.reads I (.tuple ds) y u he ry
  exact SeqAt.in_tuple_reads r2 r1 (SeqAt.canLay_of_shaped se) (SeqAt.canLay_of_shaped sd) (PyProof.Rows.room_in_shaped sd hu) ⟨.bl _, H, I, rfl, q⟩
theorem op_notInDT (hu : X.A.units + 65 < cLine) : OpR X (compareOp .NotIn) (rInDT X.K true) := by
  intro pins s σ H x y v u Q I rx ry h
  obtain ⟨d, ds, hd, he, sd, se, q⟩ := h
  obtain ⟨as, r1⟩ := Dp.reads I d x v hd rx
  obtain ⟨bs, r2⟩ := Dp.reads I (.tuple ds) y u he ry
  exact SeqAt.notIn_tuple_reads r2 r1 (SeqAt.canLay_of_shaped se) (SeqAt.canLay_of_shaped sd) (PyProof.Rows.room_in_shaped sd hu) ⟨.bl _, H, I, rfl, q⟩
def rdInDT (neg : Bool) : DR2 := fun x y S Q => ∃ es p ps, y = .tup es ∧ toPy x = some p ∧ toPys es = some ps ∧ SeqAt.shaped p = true ∧ SeqAt.shaped (.tuple ps) = true ∧ Q (.bl (if neg then !(ps.any fun z => PyData.eqv z p) else ps.any fun z => PyData.eqv z p)) S
theorem lift_inDT {K : PySem.W.Frag} (neg : Bool) : Lift2 K (rInDT K neg) (rdInDT neg) := by
  intro Z H S F x y v w Q P R iv iw q k
  obtain ⟨es, p, ps, rfl, e1, e2, s1, s2, q⟩ := q
  exact ⟨p, ps, R.dp iv e1, R.dp iw (by unfold toPy; rw [e2]; rfl), s1, s2, k _ _ ⟨_, S, F, .refl R, .bl _, q⟩⟩
end
end DL
namespace DL
open PySem L2
theorem units65 {k : Nat} {A : Around} (r : Room k A) : A.units + 65 < cLine := by have := r.un; omega
end DL
namespace DL
open PySem PySem.Spec L2
/-- -x of an int -/
def rdNeg : DR1 := fun x S Q => match x with
  | .int i => Q (.int (-i)) S
  | _ => False
theorem lift_neg {K : PySem.W.Frag} : Lift1 K (rU fun i => .int (-i)) rdNeg := by
  intro Z H S F x v Q P R iv q k
  cases iv with
  | int i => exact ⟨i, rfl, k _ _ ⟨_, S, F, .refl R, .int _, q⟩⟩
  | _ => exact False.elim q
theorem s_neg {S : Store} {Q : DQ} {i : Int} (q : Q (.int (-i)) S) : rdNeg (.int i) S Q := q
end DL

set_option maxRecDepth 100000
set_option maxHeartbeats 2000000
/-! DLB8: the steps of statements with the ends laid open (terms stay small), joins. -/
namespace DL
open PySem PySem.Spec L2
section
variable {nx bk ct : Sl → Store → Prop} {rt : DQ} {ex : Sl → DX} {ρ : Sl} {S : Store} {Q : DQ} {E : DX} {t u : DTS} {te tv ty ti0 : DTE} {ta : DTA} {c : DTT} {i j : Nat} {d : D} {g : Tgt} {tb : DTS}
theorem e_seq (h : t ⟨u ⟨nx, rt, bk, ct, ex⟩, rt, bk, ct, ex⟩ ρ S) : dSeq t u ⟨nx, rt, bk, ct, ex⟩ ρ S := h
theorem e_ifs (h : c ρ S (fun b S1 => if b = true then t ⟨nx, rt, bk, ct, ex⟩ ρ S1 else u ⟨nx, rt, bk, ct, ex⟩ ρ S1) (ex ρ)) : dIfS c t u ⟨nx, rt, bk, ct, ex⟩ ρ S := h
theorem e_ret (h : te ρ S rt (ex ρ)) : dRet te ⟨nx, rt, bk, ct, ex⟩ ρ S := h
theorem e_next (h : nx ρ S) : dNext ⟨nx, rt, bk, ct, ex⟩ ρ S := h
theorem e_brk (h : bk ρ S) : dBreak ⟨nx, rt, bk, ct, ex⟩ ρ S := h
theorem e_drop (h : te ρ S (fun _ S1 => nx ρ S1) (ex ρ)) : dDrop te ⟨nx, rt, bk, ct, ex⟩ ρ S := h
theorem e_asg (h : te ρ S (fun d S1 => ∃ ρ1, bindT g d ρ = some ρ1 ∧ nx ρ1 S1) (ex ρ)) : dAsg te g ⟨nx, rt, bk, ct, ex⟩ ρ S := h
theorem e_par (h : ta ρ S (fun ds S1 => ∃ d1 d2, ds = [d1, d2] ∧ nx ((ρ.set i (some d1)).set j (some d2)) S1) (ex ρ)) : dPar i j ta ⟨nx, rt, bk, ct, ex⟩ ρ S := h
theorem e_for {ti : DTI} (h : ti ρ S (fun items S1 => dForGo g tb items ⟨nx, rt, bk, ct, ex⟩ ρ S1) (ex ρ)) : dFor ti g tb ⟨nx, rt, bk, ct, ex⟩ ρ S := h
theorem e_forCons {r : List D} (h : ∃ ρ1, bindT g d ρ = some ρ1 ∧ tb ⟨fun ρ2 S2 => dForGo g tb r ⟨nx, rt, bk, ct, ex⟩ ρ2 S2, rt, nx, fun ρ2 S2 => dForGo g tb r ⟨nx, rt, bk, ct, ex⟩ ρ2 S2, ex⟩ ρ1 S) : dForGo g tb (d :: r) ⟨nx, rt, bk, ct, ex⟩ ρ S := h
theorem e_forNil (h : nx ρ S) : dForGo g tb [] ⟨nx, rt, bk, ct, ex⟩ ρ S := h
theorem e_dp {td : DTE} (h : tv ρ S (fun d S1 => td ρ S1 (fun x S2 => ty ρ S2 (fun y S3 => ∃ S4, dput S3 x y d = some S4 ∧ nx ρ S4) (ex ρ)) (ex ρ)) (ex ρ)) : dDP td ty tv ⟨nx, rt, bk, ct, ex⟩ ρ S := h
theorem e_raise {C : Addr} {wd : Str} (h : te ρ S (fun d S1 => ex ρ C [wd] [d] S1) (ex ρ)) : dRaise C wd te ⟨nx, rt, bk, ct, ex⟩ ρ S := h
theorem e_try {K : PySem.W.Frag} {l : List DClause} (h : tb ⟨nx, rt, bk, ct, dHand K ⟨nx, rt, bk, ct, ex⟩ l⟩ ρ S) : dTry K tb l ⟨nx, rt, bk, ct, ex⟩ ρ S := h
theorem e_fldPut {C : Addr} {f : Str} (h : tv ρ S (fun d S1 => te ρ S1 (fun x S2 => ∃ a ns ds, x = .ref a ∧ S2 a = some (.ins C ns ds) ∧ ns.length < 1000 ∧ nx ρ (put S2 a (.ins C ((putFD f d (ns.zip ds)).map (·.1)) ((putFD f d (ns.zip ds)).map (·.2))))) (ex ρ)) (ex ρ)) : dFldPut C f te tv ⟨nx, rt, bk, ct, ex⟩ ρ S := h
theorem e_lset {to : DTE} (h : tv ρ S (fun d S1 => to ρ S1 (fun x S2 => ti0 ρ S2 (fun y S3 => ∃ a n ds j, x = .ref a ∧ y = .int n ∧ S3 a = some (.lst ds) ∧ ixN ds.length n = some j ∧ nx ρ (put S3 a (.lst (ds.set j d)))) (ex ρ)) (ex ρ)) (ex ρ)) : dLset tv to ti0 ⟨nx, rt, bk, ct, ex⟩ ρ S := h
theorem e_aft (h : t ⟨fun ρ S => nx (ρ.set i none) S, rt, fun ρ S => bk (ρ.set i none) S, fun ρ S => ct (ρ.set i none) S, fun _ _ _ _ _ => False⟩ ρ S) : t (dAfter ⟨nx, rt, bk, ct, ex⟩ (some i)) ρ S := h
theorem e_aft0 (h : t ⟨nx, rt, bk, ct, fun _ _ _ _ _ => False⟩ ρ S) : t (dAfter ⟨nx, rt, bk, ct, ex⟩ none) ρ S := h
/-- both ways of an if meet again -/
theorem e_ifK (I : Sl → Store → Prop) (h2 : ∀ ρ' S', I ρ' S' → nx ρ' S')
    (h1 : ∀ J : Sl → Store → Prop, (∀ ρ' S', I ρ' S' → J ρ' S') → c ρ S (fun b S1 => if b = true then t ⟨J, rt, bk, ct, ex⟩ ρ S1 else u ⟨J, rt, bk, ct, ex⟩ ρ S1) (ex ρ)) : dIfS c t u ⟨nx, rt, bk, ct, ex⟩ ρ S := h1 nx h2
/-- a loop by what holds between two turns; the rest of the loop is a letter -/
theorem e_forK (Inv : List D → Sl → Store → Prop) (h0 : ∀ ρ S, Inv [] ρ S → nx ρ S)
    (h1 : ∀ (J : Sl → Store → Prop) d r, (∀ ρ2 S2, Inv r ρ2 S2 → J ρ2 S2) → ∀ ρ S, Inv (d :: r) ρ S → ∃ ρ1, bindT g d ρ = some ρ1 ∧ tb ⟨J, rt, nx, J, ex⟩ ρ1 S) :
    ∀ items ρ S, Inv items ρ S → dForGo g tb items ⟨nx, rt, bk, ct, ex⟩ ρ S
  | [], ρ, S, h => h0 ρ S h
  | d :: r, ρ, S, h => h1 (fun ρ2 S2 => dForGo g tb r ⟨nx, rt, bk, ct, ex⟩ ρ2 S2) d r (fun ρ2 S2 q => e_forK Inv h0 h1 r ρ2 S2 q) ρ S h
/-- a comprehension, the rest a letter -/
theorem e_lcK {tt : DTT} {QA : List D → Store → Prop} (Inv : List D → List D → Store → Prop) (h0 : ∀ acc S, Inv [] acc S → QA acc S)
    (h1 : ∀ (J : List D → Store → Prop) d r, (∀ acc S2, Inv r acc S2 → J acc S2) → ∀ acc S, Inv (d :: r) acc S → ∃ ρ1, bindT g d ρ = some ρ1 ∧ tt ρ1 S (fun b S1 => if b = true then te ρ1 S1 (fun y S2 => J (acc ++ [y]) S2) (fun _ _ _ _ => False) else J acc S1) fun _ _ _ _ => False) :
    ∀ items acc S, Inv items acc S → dLcGo g tt te ρ items acc S QA
  | [], acc, S, h => h0 acc S h
  | d :: r, acc, S, h => h1 (fun acc S2 => dLcGo g tt te ρ r acc S2 QA) d r (fun acc S2 q => e_lcK Inv h0 h1 r acc S2 q) acc S h
end
end DL
namespace DL
open PySem PySem.Spec L2
section
variable {ρ : Sl} {S : Store} {Q : DQ} {E : DX} {i : Nat} {d x y : D} {g : Tgt}
/-! looks at a goal's head -/
theorem g_var (h : dVar i ρ S Q E) : dVar i ρ S Q E := h
theorem g_nil {neg : Bool} (h : rdNil neg x y S Q) : rdNil neg x y S Q := h
theorem g_rd1 {α : Type} {f : Store → D → Option α} {g : α → D} (h : rd1 f g [x] S Q) : rd1 f g [x] S Q := h
theorem g_ite {b : Bool} {A B : Prop} (h : if b = true then A else B) : if b = true then A else B := h
theorem g_bind {P : Sl → Prop} (h : ∃ ρ2, bindT g d ρ = some ρ2 ∧ P ρ2) : ∃ ρ2, bindT g d ρ = some ρ2 ∧ P ρ2 := h
end
end DL
namespace DL
open PySem PySem.Spec L2
theorem e_sortSet {ρ : Sl} {S : Store} {Q : DQ} {E : DX} {te : DTE} (h : te ρ S (fun d S1 => ∃ ns : List Str, itemsD S1 d = some (ns.map .str) ∧ ns.length < 64 ∧ Q (.lst ((DLS.uniqS ns).map .str)) S1) E) : dSortSet te ρ S Q E := h
end DL

set_option maxRecDepth 100000
set_option maxHeartbeats 2000000
/-! DTS1: sets whose keys lie on the heap (tuples of any keys): searched, added to, laid anew. -/
namespace DTS
open PySem PySem.Spec PyProof.Rows L2
/-- a kind of key on the heap that a set asks nothing odd of -/
structure HKey (P : Program) (w : World) (κ : Type) [DecidableEq κ] where
  kind : HeapKind P w κ
  cls : ∀ {A : Around} {E : Value → Shared → Prop} {s : Shared} {k : κ} {b : Addr} {Q : Bool → Shared → Prop}, kind.is s.heap k b → Q false s → wpAny (model P w) A (ofAClassStatement 8 (.ref b)) Q E s
  byv : ∀ {A : Around} {E : Value → Shared → Prop} {s : Shared} {k : κ} {b : Addr} {Q : Bool → Shared → Prop}, kind.is s.heap k b → (∀ q, Q q s) → wpAny (model P w) A (hashByValue 8 (.ref b)) Q E s
  move : ∀ {h g : Heap} {k : κ} {b : Addr}, kind.is h k b → (∀ o, h.get? b = some o → g.get? b = some o) → kind.is g k b
  some_ : ∀ {h : Heap} {k : κ} {b : Addr}, kind.is h k b → ∃ o, h.get? b = some o ∧ ∀ es ep t, o.data ≠ .set es ep t
section
variable {P : Program} {w : World} {κ : Type} [DecidableEq κ] (K : HKey P w κ)
def lines (L : List (Addr × κ)) : List (Int × Value) := L.map fun p => (K.kind.hash p.2, .ref p.1)
abbrev sums (L : List (Addr × κ)) : List Int := L.map fun p => K.kind.hash p.2
/-- the set at a holds just the keys of L, each once, at these addresses -/
structure Bag (h : Heap) (a : Addr) (L : List (Addr × κ)) (es : Array (Int × Value)) (t : SetTable) : Prop where
  body : ∃ ob ep, h.get? a = some ob ∧ ob.ExactSet ∧ ob.data = .set es ep t
  text : es.toList = lines K L
  tab : TabOk t (sums K L)
  once : (L.map (·.2)).Nodup
  keys : ∀ p ∈ L, K.kind.is h p.2 p.1
  led : w.params.followText "set-order" = true ∨ t.led = true
  wide : L.length * 5 < t.mask * 3
  small : L.length < 64
abbrev home (t : SetTable) (H : Int) : SetTable.Probe := runAt t.mask (SetTable.bits H % (t.mask + 1)) (SetTable.bits H)
end
section
variable {P : Program} {w : World} {κ : Type} [DecidableEq κ] {K : HKey P w κ} {A : Around} {E : Value → Shared → Prop} {s : Shared} {a : Addr} {L : List (Addr × κ)} {es : Array (Int × Value)} {t : SetTable}
theorem lines_len {l : List (Int × Value)} (e : l = lines K L) : l.length = L.length := by
  rw [e]
  exact List.length_map ..
theorem Bag.size {h : Heap} (B : Bag K h a L es t) : es.size = L.length := lines_len (K := K) B.text
theorem fits_of {n : Nat} (sz : t.place.size = n) (dm : t.dummies = #[]) (le : n ≤ t.mask) : t.fits n = true := by
  have z : t.fill = n := by
    show t.place.size + t.dummies.size = n
    rw [dm, sz]
    rfl
  unfold SetTable.fits
  rw [z, sz]
  simp [le]
theorem Bag.fits {h : Heap} (B : Bag K h a L es t) : t.fits es.size = true := by
  have x := B.tab.sz
  have y := B.wide
  rw [List.length_map] at x
  exact fits_of (x.trans B.size.symm) B.tab.dm (by rw [B.size]; omega)
theorem lines_at {es : Array (Int × Value)} (e : es.toList = lines K L) {i : Nat} {p : Addr × κ} (hp : L[i]? = some p) : es[i]? = some (K.kind.hash p.2, .ref p.1) := by
  have z : (lines K L)[i]? = some (K.kind.hash p.2, .ref p.1) := by
    unfold lines
    rw [List.getElem?_map, hp]
    rfl
  rw [← e, Array.getElem?_toList] at z
  exact z
theorem Bag.stays {h g : Heap} (B : Bag K h a L es t) (ka : ∀ o, h.get? a = some o → g.get? a = some o) (kk : ∀ p ∈ L, K.kind.is g p.2 p.1) : Bag K g a L es t := by
  obtain ⟨ob, ep, at_, r⟩ := B.body
  exact { B with body := ⟨ob, ep, ka ob at_, r⟩, keys := kk }
/-- a key is not the set -/
theorem key_but {h g : Heap} {k : κ} {b : Addr} {ob : Obj} {ep : Nat} (kb : K.kind.is h k b) (at_ : h.get? a = some ob) (dt : ob.data = .set es ep t) (sb : Heap.SameBut a h g) : K.kind.is g k b := by
  obtain ⟨o, ho, hn⟩ := K.some_ kb
  have ne : b ≠ a := fun e => by
    rw [e, at_] at ho
    exact hn es ep t (Option.some.inj ho ▸ dt)
  exact K.move kb fun o2 e2 => (sb.2 b ne).trans e2
/-- a search among such keys shows nothing -/
theorem unseen {k : κ} {b : Addr} {Q : Bool → Shared → Prop} (kb : K.kind.is s.heap k b) {ys : List Value} (all : ∀ y ∈ ys, ∃ j c, y = Value.ref c ∧ K.kind.is s.heap j c) (fin : Q false s) :
    wpAny (model P w) A (searchCouldBeSeen (.ref b) ys) Q E s := by
  unfold searchCouldBeSeen
  refine wpAny_bind (wpAny_forIn_list _ (fun rest r z => r.1 = none ∧ z = s ∧ ∀ y ∈ rest, ∃ j c, y = Value.ref c ∧ K.kind.is s.heap j c) _ ?_ ?_ _ _ ⟨rfl, rfl, all⟩)
  · rintro y rest r z ⟨e, rfl, hs⟩
    obtain ⟨j, c, rfl, kc⟩ := hs y List.mem_cons_self
    have tl : ∀ y ∈ rest, ∃ j c, y = Value.ref c ∧ K.kind.is z.heap j c := fun y hy => hs y (List.mem_cons_of_mem _ hy)
    dsimp only
    by_cases q : (b == c || (carriedByValue (.ref b) && carriedByValue (.ref c))) = true
    · exact wp_if_pos q (wpAny_pure ⟨rfl, rfl, tl⟩)
    · refine wp_if_neg q (wpAny_bind (K.kind.quiet kb ?_))
      simp only [Bool.not_true, Bool.false_eq_true, ↓reduceIte]
      refine wpAny_bind (K.kind.quiet kc ?_)
      simp only [Bool.not_true, Bool.false_eq_true, ↓reduceIte]
      refine wpAny_bind (K.cls kb ?_)
      simp only [Bool.false_eq_true, ↓reduceIte]
      refine wpAny_bind (K.cls kc ?_)
      simp only [Bool.false_eq_true, ↓reduceIte]
      exact wpAny_pure ⟨rfl, rfl, tl⟩
  · rintro ⟨r, u⟩ z ⟨e, rfl, _⟩
    dsimp only at e
    subst e
    exact wpAny_pure fin
theorem no_dummy {m : Nat} : ∀ (n : Nat) (p : SetTable.Probe), p.dummy = none → (nth m p n).dummy = none
  | 0, _, e => e
  | n + 1, p, e => no_dummy n (adv m p) (by
    unfold adv
    split <;> exact e)
theorem not_gave {h : Heap} (B : Bag K h a L es t) : ¬ t.gaveWay = true := by
  have z := mask_odd B.tab.mok
  unfold SetTable.gaveWay
  rw [z]
  decide
set_option maxHeartbeats 4000000 in
/-- the search, from the c-th step of its way on; n is the first empty slot of the way -/
theorem find_from (B : Bag K s.heap a L es t) {x : Addr} {k : κ} {H : Int} (eH : K.kind.hash k = H) (kx : K.kind.is s.heap k x) (rm : K.kind.room A) {n : Nat} (nb : n < 10 * SetTable.turns t.mask)
    (stop : way t.mask H n ∉ t.place.toList) (run : ∀ c, c < n → way t.mask H c ∈ t.place.toList) {Q : SetFound → Shared → Prop} (yes : k ∈ L.map (·.2) → Q (.there none) s) (no : k ∉ L.map (·.2) → Q (.free (way t.mask H n) false) s) :
    ∀ (fuel c : Nat) (st : Option SetTable.Probe), st.getD (t.probeStart H) = nth t.mask (home t H) c → c ≤ n → n - c < fuel →
      (∀ (i : Nat) (p : Addr × κ), L[i]? = some p → p.2 = k → ∃ d, c ≤ d ∧ d < n ∧ t.place.toList[i]? = some (way t.mask H d)) → wpAny (model P w) A (setSearchFrom a (.ref x) H true fuel st) Q E s
  | 0, _, _, _, _, lt, _ => (Nat.not_lt_zero _ lt).elim
  | fuel + 1, c, st, est, cn, lt, ahead => by
    obtain ⟨ob, ep, at_, ex, dt⟩ := B.body
    have len : t.place.toList.length = L.length := by
      rw [Array.length_toList, B.tab.sz, List.length_map]
    have hop : ∀ q, nth t.mask (nth t.mask (home t H) c) q = nth t.mask (home t H) (c + q) := fun q => (nth_add t.mask c (home t H) q).symm
    have hopj : ∀ q, (nth t.mask (nth t.mask (home t H) c) q).j = way t.mask H (c + q) := fun q => by rw [hop]
    have cnn : c + (n - c) = n := by omega
    have sum : ∀ (i : Nat) p, L[i]? = some p → ((es[i]?.map (·.1)).getD 0) = K.kind.hash p.2 := fun i p hp => by
      rw [lines_at B.text hp]
      rfl
    rw [setSearchFrom_succ]
    refine wpAny_bind (wpAny_setState_of at_ dt B.fits ?_)
    dsimp only
    refine wp_if_neg (not_gave B) ?_
    try refine wpAny_bind (wpAny_pure ?_)
    rcases go_spec t B.tab.ris B.tab.dm (fun i => (es[i]?.map (·.1)).getD 0) H (10 * SetTable.turns t.mask) (n - c) (nth t.mask (home t H) c) (no_dummy c _ rfl) (by omega)
        (fun q hq => by rw [hopj]; exact run _ (by omega)) (by rw [hopj, cnn]; exact stop) with ⟨q, i, qn, pi, hi, hn, go⟩ | ⟨hn, go⟩
    · rw [hopj] at pi
      have met : t.probe (fun i => (es[i]?.map (·.1)).getD 0) H (st.getD (t.probeStart H)) = some (.candidate (way t.mask H (c + q)) i (nth t.mask (home t H) (c + (q + 1)))) := by
        rw [est, ← hopj, ← hop]
        exact go
      rw [met]
      dsimp only
      have il : i < L.length := by
        rw [← len]
        exact (List.getElem?_eq_some_iff.mp pi).1
      obtain ⟨p, hp⟩ : ∃ p, L[i]? = some p := ⟨_, List.getElem?_eq_getElem il⟩
      have pL : p ∈ L := List.mem_of_getElem? hp
      have slot : t.slot (way t.mask H (c + q)) = .live i := slot_live B.tab.ris pi
      have cont : wpAny (model P w) A (searchRest a (.ref x) H true fuel es t (way t.mask H (c + q)) i (nth t.mask (home t H) (c + (q + 1)))) Q E s := by
        unfold searchRest
        rw [lines_at B.text hp]
        dsimp only
        refine wpAny_bind (wpAny_holding (K.kind.eqBool rm (B.keys p pL) kx ?_))
        refine wpAny_bind (wpAny_setState_of at_ dt B.fits ?_)
        dsimp only
        by_cases same : p.2 = k
        · exact wp_if_pos (by simp [same]) (wpAny_pure (yes (List.mem_map.mpr ⟨p, pL, same⟩)))
        · refine wp_if_neg (by simp [same]) ?_
          try refine wpAny_bind (wpAny_pure ?_)
          rw [sameMem]
          dsimp only
          simp only [slot, lines_at B.text hp, ↓reduceIte]
          refine wpAny_bind (wpAny_isSame_ref_self (wpAny_bind (wpAny_pure ?_)))
          simp only [↓reduceIte]
          refine wp_if_neg (by simp [same]) (find_from B eH kx rm nb stop run yes no fuel (c + (q + 1)) _ rfl (by omega) (by omega) fun i2 p2 h2 e2 => ?_)
          obtain ⟨d, cd, dn, pd⟩ := ahead i2 p2 h2 e2
          refine ⟨d, ?_, dn, pd⟩
          by_cases le : c + (q + 1) ≤ d
          · exact le
          · exfalso
            by_cases eq : d = c + q
            · subst eq
              have s2 := slot_live B.tab.ris pd
              rw [slot] at s2
              injection s2 with s2
              subst s2
              rw [hp] at h2
              cases h2
              exact same e2
            · refine hn (d - c) i2 (by omega) ?_ ((sum i2 p2 h2).trans ((congrArg K.kind.hash e2).trans eH))
              rw [hopj, show c + (d - c) = d by omega]
              exact pd
      by_cases ld : t.led = true
      · refine wp_if_neg (by simp [ld]) ?_
        try refine wpAny_bind (wpAny_pure ?_)
        exact cont
      · refine wp_if_pos (by simp [ld]) (wpAny_bind (unseen kx (fun y hy => ?_) ?_))
        · obtain ⟨e, he, rfl⟩ := List.mem_map.mp hy
          have he2 : e ∈ es.toList := by
            have z : e ∈ es ∧ e.1 = H := by simpa using he
            simpa using z.1
          rw [B.text] at he2
          obtain ⟨p2, m2, rfl⟩ := List.mem_map.mp he2
          exact ⟨p2.2, p2.1, rfl, B.keys p2 m2⟩
        · refine wp_if_neg Bool.false_ne_true ?_
          try refine wpAny_bind (wpAny_pure ?_)
          exact cont
    · have met : t.probe (fun i => (es[i]?.map (·.1)).getD 0) H (st.getD (t.probeStart H)) = some (.empty (way t.mask H n) none) := by
        rw [hopj, cnn] at go
        rw [est]
        exact go
      rw [met]
      dsimp only
      refine wpAny_pure (no fun hm => ?_)
      obtain ⟨p2, m2, e2⟩ := List.mem_map.mp hm
      obtain ⟨i2, l2, h2⟩ := List.getElem_of_mem m2
      have h3 : L[i2]? = some p2 := by rw [List.getElem?_eq_getElem l2, h2]
      obtain ⟨d, cd, dn, pd⟩ := ahead i2 p2 h3 e2
      refine hn (d - c) i2 (by omega) ?_ ((sum i2 p2 h3).trans ((congrArg K.kind.hash e2).trans eH))
      rw [hopj, show c + (d - c) = d by omega]
      exact pd
/-- the search that adding begins with -/
theorem find_at (B : Bag K s.heap a L es t) {x : Addr} {k : κ} {H : Int} (eH : K.kind.hash k = H) (kx : K.kind.is s.heap k x) (rm : K.kind.room A) {Q : SetFound → Shared → Prop} (yes : k ∈ L.map (·.2) → Q (.there none) s)
    (no : ∀ n, k ∉ L.map (·.2) → way t.mask H n ∉ t.place.toList → (∀ c, c < n → way t.mask H c ∈ t.place.toList) → Q (.free (way t.mask H n) false) s) : wpAny (model P w) A (setSearch a (.ref x) H true) Q E s := by
  have wd := B.wide
  obtain ⟨n, nb, stop, run⟩ := B.tab.first (by rw [List.length_map]; omega) H
  have most : 10 * SetTable.turns t.mask < 100000 := by
    unfold SetTable.turns
    rcases B.tab.mok with e | e | e <;> rw [e] <;> decide
  unfold setSearch
  refine find_from B eH kx rm nb stop run yes (fun z => no n z stop run) 100000 0 none rfl (Nat.zero_le _) (by omega) fun i p hp pk => ?_
  have hi : (sums K L)[i]? = some H := by
    rw [List.getElem?_map, hp, ← eH, ← pk]
    rfl
  have il : i < t.place.toList.length := by
    rw [Array.length_toList, B.tab.sz]
    exact (List.getElem?_eq_some_iff.mp hi).1
  obtain ⟨d, dn, e⟩ := B.tab.before stop hi (List.getElem?_eq_getElem il)
  exact ⟨d, Nat.zero_le _, dn, by rw [List.getElem?_eq_getElem il, e]⟩
end
end DTS

set_option maxRecDepth 100000
set_option maxHeartbeats 2000000
/-! DTS2: sets whose keys lie on the heap: adding, laying anew, filling. -/
namespace DTS
open PySem PySem.Spec PyProof.Rows L2
section
variable {P : Program} {w : World} {κ : Type} [DecidableEq κ] {K : HKey P w κ} {A : Around} {E : Value → Shared → Prop} {s : Shared} {a : Addr} {L : List (Addr × κ)} {es : Array (Int × Value)} {t : SetTable}
theorem lines_mid (i : Nat) (p : Addr × κ) : lines K (L.take i ++ p :: L.drop i) = (lines K L).take i ++ (K.kind.hash p.2, .ref p.1) :: (lines K L).drop i := by
  unfold lines
  simp
theorem sums_mid (i : Nat) (p : Addr × κ) : sums K (L.take i ++ p :: L.drop i) = (sums K L).take i ++ K.kind.hash p.2 :: (sums K L).drop i := by
  simp
/-- what a list of places picks -/
theorem picks (e : es.toList = lines K L) : ∀ is : List Nat, (∀ i ∈ is, i < L.length) →
    is.filterMap (fun i => es[i]?) = lines K (is.filterMap fun i => L[i]?) ∧ sums K (is.filterMap fun i => L[i]?) = is.map fun i => (es.map (·.1)).getD i 0
  | [], _ => ⟨rfl, rfl⟩
  | i :: is, h => by
    have il := h i List.mem_cons_self
    obtain ⟨u, v⟩ := picks e is fun j hj => h j (List.mem_cons_of_mem _ hj)
    have hp : L[i]? = some L[i] := List.getElem?_eq_getElem il
    have he := lines_at e hp
    have hg : (es.map (·.1)).getD i 0 = K.kind.hash L[i].2 := by
      rw [Array.getD_eq_getD_getElem?, Array.getElem?_map, he]
      rfl
    rw [List.filterMap_cons_some he, List.filterMap_cons_some hp, u]
    refine ⟨rfl, ?_⟩
    show K.kind.hash L[i].2 :: sums K (is.filterMap fun i => L[i]?) = (es.map (·.1)).getD i 0 :: is.map fun i => (es.map (·.1)).getD i 0
    rw [hg, v]
theorem range_picks : ∀ (M : List (Addr × κ)), (List.range M.length).filterMap (fun i => M[i]?) = M := by
  intro M
  have z : ∀ n, n ≤ M.length → (List.range n).filterMap (fun i => M[i]?) = M.take n := by
    intro n
    induction n with
    | zero => exact fun _ => rfl
    | succ n ih =>
      intro le
      have hp : M[n]? = some (M[n]'le) := List.getElem?_eq_getElem le
      rw [List.range_succ, List.filterMap_append, ih (Nat.le_of_succ_le le), List.take_succ, List.filterMap_cons_some hp, hp]
      rfl
  rw [z _ (Nat.le_refl _), List.take_length]
set_option maxHeartbeats 4000000 in
/-- the set laid anew on a wider table -/
theorem lay_anew {ob : Obj} {ep : Nat} (at_ : s.heap.get? a = some ob) (ex : ob.ExactSet) (dt : ob.data = .set es ep t) (tx : es.toList = lines K L) (sz : t.place.size = es.size) (dm : t.dummies = #[]) (le : es.size ≤ t.mask)
    (once : (L.map (·.2)).Nodup) (keys : ∀ p ∈ L, K.kind.is s.heap p.2 p.1) (led : w.params.followText "set-order" = true ∨ t.led = true) (small : L.length < 64) {n m : Nat}
    (em : SetTable.sizeAbove n - 1 = m) (hm : MaskOk m) (top : SetTable.sizeAbove n ≤ 128) (wide : L.length * 5 < m * 3) {Q : Unit → Shared → Prop}
    (fin : ∀ g M fs u, Heap.SameBut a s.heap g → Bag K g a M fs u → M.Perm L → Q () { s with heap := g }) : wpAny (model P w) A (setRelay a n) Q E s := by
  have len : es.size = L.length := lines_len (K := K) tx
  obtain ⟨u, order, eu, perm, tab, e1, e2, e3, _⟩ := relaid_ok t (hs := es.map (·.1)) (wanted := n) em hm (by rw [Array.size_map, len]; omega)
  rw [Array.size_map, len] at perm
  obtain ⟨g1, g2⟩ := picks (K := K) tx order.toList fun i hi => List.mem_range.mp (perm.mem_iff.mp hi)
  have pm : (order.toList.filterMap fun i => L[i]?).Perm L := by
    have z := perm.filterMap fun i => L[i]?
    rw [range_picks] at z
    exact z
  generalize (order.toList.filterMap fun i => L[i]?) = M at g1 g2 pm
  have tl : (order.filterMap fun i => es[i]?).toList = lines K M := by
    rw [Array.toList_filterMap]
    exact g1
  have sz2 : (order.filterMap fun i => es[i]?).size = es.size := (lines_len (K := K) tl).trans (pm.length_eq.trans len.symm)
  rw [← g2] at tab
  rw [setRelay_eq]
  refine wpAny_bind (wpAny_setState_of at_ dt (fits_of sz dm le) ?_)
  dsimp only
  refine wp_if_neg (by rw [sizeLine_eq]; omega) ?_
  try refine wpAny_bind (wpAny_pure ?_)
  rw [eu]
  dsimp only
  refine wpAny_bind (wp_if_neg (by rw [sz2]; simp) ?_)
  try refine wpAny_bind (wpAny_pure ?_)
  refine wpAny_pure ?_
  dsimp only
  refine wpAny_storeSet_of at_ dt ?_ (by rw [sz2, len, sizeLine_eq]; omega)
  have sb : Heap.SameBut a s.heap (s.heap.update a (Obj.putSet (order.filterMap fun i => es[i]?) u)) := Heap.SameBut.update ..
  refine fin _ M (order.filterMap fun i => es[i]?) u sb ?_ pm
  exact {
    body := ⟨_, _, store_at at_ dt, ⟨ex.1, ex.2.1, ex.2.2⟩, rfl⟩
    text := tl
    tab := tab
    once := (pm.map (·.2)).nodup_iff.mpr once
    keys := fun p hp => key_but (keys p (pm.mem_iff.mp hp)) at_ dt sb
    led := led.imp id fun z => e2.trans z
    wide := by rw [pm.length_eq, e1]; exact wide
    small := by rw [pm.length_eq]; exact small }
theorem by_kind {x : Addr} {k : κ} {β : Type} (kx : K.kind.is s.heap k x) {c : Bool} {J : Bool → Sem β} {Q : β → Shared → Prop} (fin : ∀ q, wpAny (model P w) A (J q) Q E s) :
    wpAny (model P w) A (if c = true then hashByValue 8 (.ref x) >>= J else pure true >>= J) Q E s := by
  by_cases z : c = true
  · exact wp_if_pos z (wpAny_bind (K.byv kx fin))
  · exact wp_if_neg z (wpAny_bind (wpAny_pure (fin true)))
set_option maxHeartbeats 4000000 in
/-- one key more -/
theorem put_key (B : Bag K s.heap a L es t) {x : Addr} {k : κ} {H : Int} (eH : K.kind.hash k = H) (kx : K.kind.is s.heap k x) (rm : K.kind.room A) (small : L.length + 1 < 64) {Q : Bool → Shared → Prop}
    (fin : ∀ b g M fs u, Heap.SameBut a s.heap g → Bag K g a M fs u → (k ∈ L.map (·.2) → M = L) → (k ∉ L.map (·.2) → M.Perm ((x, k) :: L)) → Q b { s with heap := g }) :
    wpAny (model P w) A (setAddHashed a (.ref x) H) Q E s := by
  obtain ⟨ob, ep, at_, ex, dt⟩ := B.body
  have len := B.size
  have wide := B.wide
  unfold setAddHashed
  refine wpAny_holding ?_
  show wpAny _ _ (setAddHashedIn a (.ref x) H (99999 + 1)) Q E s
  rw [setAddHashedIn_succ]
  refine wpAny_bind (wpAny_setState_of at_ dt B.fits ?_)
  dsimp only
  refine wp_if_neg (by simp [byScan, Value.scannable]) ?_
  try refine wpAny_bind (wpAny_pure ?_)
  refine wpAny_bind (find_at B eH kx rm (fun z => ?_) fun n out stop run => ?_)
  · exact wpAny_pure (fin false s.heap L es t (Heap.SameBut.refl a s.heap) B (fun _ => rfl) fun y => absurd z y)
  · dsimp only
    refine wpAny_bind (wpAny_setState_of at_ dt B.fits ?_)
    dsimp only
    obtain ⟨r1, r2, tab, emask, eled, eplain, _, _, efill⟩ := B.tab.put stop run
    rw [r1]
    generalize (t.put (way t.mask H n)).1 = v at tab emask eled eplain efill ⊢
    generalize SetTable.below t.place (way t.mask H n) = i at r2 tab ⊢
    refine by_kind kx fun q => ?_
    try dsimp only
    have eu : ∃ u, (if q = true then v else { v with plain := false }) = u ∧ TabOk u ((sums K L).take i ++ H :: (sums K L).drop i) ∧ u.mask = t.mask ∧ u.led = t.led ∧ u.fill = (sums K L).length + 1 := by
      cases q
      · exact ⟨_, rfl, ⟨tab.ris, tab.dm, tab.sz, tab.mok, tab.bd, tab.reach⟩, emask, eled, efill⟩
      · exact ⟨_, rfl, tab, emask, eled, efill⟩
    clear tab emask eled eplain efill
    obtain ⟨u, eu, tab, emask, eled, efill⟩ := eu
    rw [eu]
    have pm := put_perm L i (x, k)
    have tl : (SetTable.insertAt es i (H, Value.ref x)).toList = lines K (L.take i ++ (x, k) :: L.drop i) := by
      rw [SetTable.toList_insertAt, lines_mid, B.text, eH]
    have et : sums K (L.take i ++ (x, k) :: L.drop i) = (sums K L).take i ++ H :: (sums K L).drop i := by
      rw [sums_mid, eH]
    rw [← et] at tab
    generalize SetTable.insertAt es i (H, Value.ref x) = fs at tl ⊢
    generalize L.take i ++ (x, k) :: L.drop i = M at pm tl tab et
    have lenM : M.length = L.length + 1 := pm.length_eq
    have lenF : fs.size = L.length + 1 := (lines_len (K := K) tl).trans lenM
    have onceM : (M.map (·.2)).Nodup := (pm.map (·.2)).nodup_iff.mpr (List.nodup_cons.mpr ⟨out, B.once⟩)
    have full : u.tooFull = true ↔ u.mask * 3 ≤ (L.length + 1) * 5 := by
      unfold SetTable.tooFull
      rw [efill, List.length_map]
      simp
    refine wpAny_bind (wpAny_storeSet_of at_ dt ?_ (by rw [lenF, sizeLine_eq]; omega))
    have sb : Heap.SameBut a s.heap (s.heap.update a (Obj.putSet fs u)) := Heap.SameBut.update ..
    have at2 := store_at (es' := fs) (t' := u) at_ dt
    generalize s.heap.update a (Obj.putSet fs u) = g at sb at2 ⊢
    have keysM : ∀ p ∈ M, K.kind.is g p.2 p.1 := fun p hp => by
      rcases List.mem_cons.mp (pm.mem_iff.mp hp) with rfl | hp
      · exact key_but kx at_ dt sb
      · exact key_but (B.keys p hp) at_ dt sb
    have ledM : w.params.followText "set-order" = true ∨ u.led = true := B.led.imp id fun z => eled.trans z
    have szu : u.place.size = fs.size := by
      rw [tab.sz, List.length_map, lenM, lenF]
    by_cases q : u.tooFull = true
    · have lo := full.mp q
      rw [len]
      have two : (t.mask = 7 ∧ L.length = 4) ∨ (t.mask = 31 ∧ L.length = 18) := by
        rw [emask] at lo
        rcases B.tab.mok with e | e | e <;> rw [e] at lo wide ⊢ <;> omega
      have go : ∀ m, SetTable.sizeAbove (SetTable.grown (L.length + 1)) - 1 = m → MaskOk m → SetTable.sizeAbove (SetTable.grown (L.length + 1)) ≤ 128 → (L.length + 1) * 5 < m * 3 →
          wpAny (model P w) A (setRelay a (SetTable.grown (L.length + 1))) (fun _ z => wpAny (model P w) A (pure true) Q E z) E { s with heap := g } := fun m c1 c2 c3 c4 =>
        lay_anew (s := { s with heap := g }) at2 ⟨ex.1, ex.2.1, ex.2.2⟩ rfl tl szu tab.dm (by rw [lenF, emask]; rcases two with ⟨e, f⟩ | ⟨e, f⟩ <;> omega) onceM keysM ledM (by omega) c1 c2 c3 (by rw [lenM]; exact c4)
          fun g2 M2 fs2 u2 sb2 B2 pm2 => wpAny_pure (fin true g2 M2 fs2 u2 (sb.trans sb2) B2 (fun z => absurd z out) fun _ => pm2.trans pm)
      first
        | refine wpAny_bind (wp_if_pos (by simp [q]) ?_)
        | refine wp_if_pos (by simp [q]) (wpAny_bind ?_)
      rcases two with ⟨_, e⟩ | ⟨_, e⟩
      · exact go 31 (by rw [e, size_20]) (.inr (.inl rfl)) (by rw [e, size_20]; decide) (by omega)
      · exact go 127 (by rw [e, size_76]) (.inr (.inr rfl)) (by rw [e, size_76]; decide) (by omega)
    · have hi : ¬ u.mask * 3 ≤ (L.length + 1) * 5 := fun z => q (full.mpr z)
      first
        | refine wp_if_neg (by simp [q]) ?_
        | refine wpAny_bind (wp_if_neg (by simp [q]) (wpAny_pure ?_))
      refine wpAny_pure (fin true g M fs u sb ?_ (fun z => absurd z out) fun _ => pm)
      exact {
        body := ⟨_, _, at2, ⟨ex.1, ex.2.1, ex.2.2⟩, rfl⟩
        text := tl
        tab := tab
        once := onceM
        keys := keysM
        led := ledM
        wide := by rw [lenM]; omega
        small := by rw [lenM]; exact small }
end
end DTS

set_option maxRecDepth 100000
set_option maxHeartbeats 2000000
/-! DTS3: sets whose keys lie on the heap: made of a list or a tuple. -/
namespace DTS
open PySem PySem.Spec PyProof.Rows L2
abbrev Old (h g : Heap) : Prop := ∀ b o, h.get? b = some o → g.get? b = some o
section
variable {κ : Type} [DecidableEq κ]
/-- not too many different keys -/
def Few (ks : List (Addr × κ)) : Prop := ∀ M : List κ, M.Nodup → (∀ k ∈ M, k ∈ ks.map (·.2)) → M.length < 63
/-- what a set has of the first i items -/
structure Part (ks : List (Addr × κ)) (i : Nat) (L : List (Addr × κ)) : Prop where
  inn : ∀ p ∈ L, p ∈ ks.take i
  all : ∀ p ∈ ks.take i, p.2 ∈ L.map (·.2)
theorem Part.none (ks : List (Addr × κ)) : Part ks 0 [] := ⟨fun p h => (List.not_mem_nil h).elim, fun p h => by simp at h⟩
theorem Part.in_ {ks L : List (Addr × κ)} {i : Nat} (g : Part ks i L) : ∀ p ∈ L, p ∈ ks := fun p hp => List.mem_of_mem_take (g.inn p hp)
theorem Part.few {ks L : List (Addr × κ)} {i : Nat} (g : Part ks i L) (f : Few ks) (nd : (L.map (·.2)).Nodup) : L.length < 63 := by
  have z := f _ nd fun k hk => by
    obtain ⟨p, hp, e⟩ := List.mem_map.mp hk
    exact List.mem_map.mpr ⟨p, g.in_ p hp, e⟩
  rw [List.length_map] at z
  exact z
theorem Part.step {ks L M : List (Addr × κ)} {i : Nat} {p : Addr × κ} (g : Part ks i L) (h : ks[i]? = some p) (old : p.2 ∈ L.map (·.2) → M = L) (new : p.2 ∉ L.map (·.2) → M.Perm (p :: L)) : Part ks (i + 1) M := by
  have e := DLS.take_succ_at h
  have at_end : p ∈ ks.take (i + 1) := by rw [e]; simp
  have up : ∀ q ∈ ks.take i, q ∈ ks.take (i + 1) := fun q hq => by rw [e]; exact List.mem_append_left _ hq
  have split : ∀ q ∈ ks.take (i + 1), q ∈ ks.take i ∨ q = p := fun q hq => by
    rw [e] at hq
    simpa using hq
  by_cases c : p.2 ∈ L.map (·.2)
  · rw [old c]
    refine ⟨fun q hq => up q (g.inn q hq), fun q hq => ?_⟩
    rcases split q hq with z | rfl
    · exact g.all q z
    · exact c
  · have pm := new c
    refine ⟨fun q hq => ?_, fun q hq => ?_⟩
    · rcases List.mem_cons.mp (pm.mem_iff.mp hq) with rfl | z
      · exact at_end
      · exact up q (g.inn q z)
    · refine (pm.map (·.2)).mem_iff.mpr (List.mem_cons.mpr ?_)
      rcases split q hq with z | rfl
      · exact .inr (g.all q z)
      · exact .inl rfl
end
section
variable {P : Program} {w : World} {κ : Type} [DecidableEq κ] {K : HKey P w κ} {A : Around} {E : Value → Shared → Prop} {s : Shared}
abbrev newSet (w : World) : Obj := { cls := .type "set", dict := none, data := .set #[] 0 (.fresh 0 0 (!w.params.followText "set-order")) }
theorem bag_new {h : Heap} {a : Addr} (e : h.get? a = some (newSet w)) : Bag K h a [] #[] (.fresh 0 0 (!w.params.followText "set-order")) where
  body := ⟨_, 0, e, ⟨rfl, rfl, rfl⟩, rfl⟩
  text := rfl
  tab := { ris := .nil, dm := rfl, sz := rfl, mok := .inl rfl, bd := fun x hx => by simp [SetTable.fresh] at hx, reach := fun i H j hi => by simp at hi }
  once := List.nodup_nil
  keys := fun p hp => (List.not_mem_nil hp).elim
  led := by
    show _ ∨ (!w.params.followText "set-order") = true
    cases w.params.followText "set-order" <;> simp
  wide := by
    show 0 * 5 < 7 * 3
    omega
  small := by
    show 0 < 64
    omega
set_option maxHeartbeats 4000000 in
/-- the loop that fills a set -/
theorem fill {I : Addr} {fp wr : List Addr} {G : Array GenState → Array GenState → Prop} {n : Nat} {Pv : Nat → Value → Prop} {St : Nat → Shared → Prop} {R : Result → Shared → Prop}
    (W : WalksS P w A.in1 I fp wr G n Pv St) (T : Addr) (off : T ∉ fp) (ks : List (Addr × κ)) (hn : n = ks.length) (few : Few ks) (val : ∀ i v, Pv i v → ∃ p, ks[i]? = some p ∧ v = Value.ref p.1)
    {h0 : Heap} (kh : ∀ p ∈ ks, K.kind.is h0 p.2 p.1) (noT : h0.get? T = none) (noW : ∀ b ∈ wr, h0.get? b = none) (rm : K.kind.room A.in1) :
    ∀ (m i : Nat) (s : Shared), n - i = m → i ≤ n → St i s → Old h0 s.heap → (∃ L es t, Bag K s.heap T L es t ∧ Part ks i L) →
      (∀ s' L es t, Moved (T :: wr) G s s' → Bag K s'.heap T L es t → Part ks n L → Old h0 s'.heap → R (.ok (.ret .none)) s') →
      codeAny (model P w) A (.builtin "set.update.loop" ⟨[.ref T, .ref I], []⟩) R s := by
  have offw : T ∉ wr := fun h => off (W.sub _ h)
  have wider : ∀ b ∈ wr, b ∈ T :: wr := fun b hb => List.mem_cons_of_mem _ hb
  have oldM : ∀ {s s' : Shared}, Moved wr G s s' → Old h0 s.heap → Old h0 s'.heap := fun mv old b o e =>
    mv.heap b o (fun z => by rw [noW b z] at e; cases e) (old b o e)
  have bagM : ∀ {s s' : Shared} {i : Nat} {L es t}, Moved wr G s s' → Old h0 s.heap → Part ks i L → Bag K s.heap T L es t → Bag K s'.heap T L es t := fun mv old part bag =>
    bag.stays (fun o e => mv.heap T o offw e) fun p hp => K.move (kh p (part.in_ p hp)) fun o e => oldM mv old p.1 o e
  intro m
  induction m with
  | zero =>
    intro i s em hi st old ⟨L, es, t, bag, part⟩ fin
    have z : i = n := by omega
    subst z
    refine codeAny_builtin F.entry_set_update_loop ?_
    rw [Around.under_plainId F.plain_set_update_loop _]
    show wpAny _ A.in1 (pyNext (.ref I) >>= _) _ _ s
    refine wpAny_bind (W.done s _ _ st fun s' mv => ?_)
    show wpAny _ A.in1 (ret Value.none) _ _ s'
    exact wpAny_pure (fin s' L es t (mv.mono wider) (bagM mv old part bag) part (oldM mv old))
  | succ m ih =>
    intro i s em hi st old ⟨L, es, t, bag, part⟩ fin
    have lt : i < n := by omega
    refine codeAny_builtin F.entry_set_update_loop ?_
    rw [Around.under_plainId F.plain_set_update_loop _]
    show wpAny _ A.in1 (pyNext (.ref I) >>= _) _ _ s
    refine wpAny_bind (W.item i s _ _ lt st fun v s' hv st' mv => ?_)
    obtain ⟨p, hp, rfl⟩ := val i v hv
    have old' := oldM mv old
    have bag' := bagM mv old part bag
    have kx : K.kind.is s'.heap p.2 p.1 := K.move (kh p (List.mem_of_getElem? hp)) fun o e => old' p.1 o e
    show wpAny _ A.in1 (holding [Value.ref p.1] (setAdd T (.ref p.1)) >>= _) _ _ s'
    refine wpAny_bind (wpAny_holding ?_)
    unfold setAdd
    refine wpAny_holding (wpAny_bind (K.kind.pyHash rm kx ?_))
    have le : s'.toks ≤ s'.toks + K.kind.draws p.2 := Nat.le_add_right _ _
    refine put_key (s := { s' with toks := s'.toks + K.kind.draws p.2 }) bag' rfl kx rm (by have := part.few few bag.once; omega) fun b g M fs u sb bag2 c1 c2 => ?_
    have old2 : Old h0 g := fun b o e => (sb.2 b fun z => by rw [z, noT] at e; cases e).trans (old' b o e)
    refine wpAny_pure ⟨plainId_quiet F.plain_set_update_loop _, ih (i + 1) _ (by omega) lt (W.frame _ s' _ _ st' le fun b hb o e => ?_) old2 ⟨M, fs, u, bag2, part.step hp c1 c2⟩ fun s'' M2 fs2 u2 mv2 bag3 part3 old3 => ?_⟩
    · rw [sb.2 b fun z : b = T => off (z ▸ hb)]; exact e
    · refine fin s'' M2 fs2 u2 (Moved.trans W.gtrans ((mv.mono wider).then_heap le fun b o hb e => ?_) mv2) bag3 part3 old3
      rw [sb.2 b fun z : b = T => hb (z ▸ List.mem_cons_self)]; exact e

set_option maxHeartbeats 4000000 in
theorem bag_of_tuple {l : Addr} {its : Array Value} {ks : List (Addr × κ)} {Q : Value → Shared → Prop} (calm : A.handled = none) (src : s.heap.IsTuple l its) (eit : its.toList = ks.map fun p => Value.ref p.1) (kh : ∀ p ∈ ks, K.kind.is s.heap p.2 p.1) (few : Few ks)
    (rm : ∀ B : Around, B.units = A.units + 3 → K.kind.room B)
    (fin : ∀ (g : Heap) (tk : Nat) L es t, Bag K g s.heap.objs.size L es t → Part ks ks.length L → Old s.heap g → Q (.ref s.heap.objs.size) { s with heap := g, toks := tk }) :
    wpAny (model P w) A (call (.type "set") [.ref l]) Q E s := by
  obtain ⟨c0, tl0, mro0⟩ := F.called_set.mro
  have made0 := F.called_set.made
  have sub0 := F.called_set.sub
  refine wpAny_call (codeAny_of_tree ?_)
  show wpAny _ _ (callAny (.type "set") _) _ _ _
  refine wpAny_pure ⟨Code.quiet_builtin _ (by decide +kernel), codeAny_builtin F.entry_type_call ?_⟩
  rw [Around.under_plain (weight_type_call_type "set" [.ref l] []) rfl]
  have nt0 := F.called_set.notType
  have cc0 := F.called_set.canCreate
  have ct0 := F.typeCall_set_1 (.ref l)
  repeat (any_goals (first | assumption | wp_step))
  refine codeAny_mono (code_set_led1 (.ref l) (E := E) (Q₁ := fun ob z => ob = .ref s.heap.objs.size ∧ z = { s with heap := s.heap.push (newSet w) }) ⟨rfl, rfl⟩) fun r z hr => ?_
  cases r with
  | error e => exact hr
  | ok fl =>
    cases fl with
    | ret ob =>
      obtain ⟨rfl, rfl⟩ := hr
      have atS : (s.heap.push (newSet w)).get? s.heap.objs.size = some (newSet w) := Heap.get?_push_size _ rfl
      have tyS : Shared.TypeIs { s with heap := s.heap.push (newSet w) } (.ref s.heap.objs.size) "set" := ⟨_, atS, rfl⟩
      have li0 := F.called_set.init.lookup
      have bi0 := F.called_set.init.bind (.ref s.heap.objs.size)
      repeat (any_goals (first | assumption | wp_step))
      refine codeAny_mono (codeAny_call_builtin (R := wants (fun r z => r = .none ∧ ∃ h' tk, z = { s with heap := h', toks := tk } ∧ (∃ L es t, Bag K h' s.heap.objs.size L es t ∧ Part ks ks.length L) ∧ Old s.heap h') E) F.called_set.init.plain F.entry_set_init (check_set_init_1 tyS ?_)) fun r2 z2 hr2 => ?_
      · obtain ⟨ol, atl, cl, nl, dl⟩ := src
        obtain ⟨oc, od, ob, os⟩ := ol
        simp only at cl dl
        subst cl; subst dl
        have atl2 : (s.heap.push (newSet w)).get? l = some { cls := .type "tuple", dict := od, data := .seq its nl, slots := os } := Heap.get?_push_of_some _ atl
        have no1 := F.sub_tuple_set
        have no2 := F.sub_tuple_frozenset
        have no3 : (Value.type "tuple" == Value.type "dict") = false := by decide
        have isl : (s.heap.push (newSet w)).IsTuple l its := ⟨_, atl2, rfl, nl, rfl⟩
        unfold Builtin.«set.__init__» noKeywords Builtin.Frozenset.updateFrom
        generalize hPI : pyIter = PI
        wp_walk
        subst hPI
        refine wpAny_pyIter_tuple isl ?_
        refine wpAny_bind (wpAny_runValue ?_)
        have ltl : l < s.heap.objs.size := Heap.lt_size atl
        have calm3 : A.in1.in1.in1.handled = none := by simp [calm]
        have size1 : (s.heap.push (newSet w)).objs.size = s.heap.objs.size + 1 := Heap.size_push ..
        have lneI : l ≠ (s.heap.push (newSet w)).objs.size := by
          rw [size1]; exact Nat.ne_of_lt (Nat.lt_succ_of_lt ltl)
        have offS : s.heap.objs.size ∉ [(s.heap.push (newSet w)).objs.size, l] := fun z => by
          rw [size1] at z
          rcases List.mem_cons.mp z with z | z
          · exact absurd z (Nat.ne_of_lt (Nat.lt_succ_self _))
          · exact absurd (List.mem_singleton.mp z) (Nat.ne_of_gt ltl)
        have sz : its.size = ks.length := by
          rw [← Array.length_toList, eit, List.length_map]
        have val : ∀ (i : Nat) (v : Value), its[i]? = some v → ∃ p, ks[i]? = some p ∧ v = Value.ref p.1 := fun i v hv => by
          rw [← Array.getElem?_toList, eit, List.getElem?_map] at hv
          obtain ⟨p, hp, rfl⟩ := Option.map_eq_some_iff.mp hv
          exact ⟨p, hp, rfl⟩
        have free : ∀ b, s.heap.objs.size ≤ b → s.heap.get? b = none := fun b hb => by
          cases q : s.heap.get? b with
          | none => rfl
          | some o => exact absurd (Heap.lt_size q) (Nat.not_lt_of_le hb)
        refine fill ((Walks.tuple calm3 _ l lneI its).toS) s.heap.objs.size offS ks sz few val (h0 := s.heap) kh (free _ (Nat.le_refl _)) (fun b hb => free b (by rw [List.mem_singleton.mp hb, size1]; exact Nat.le_succ _)) (rm _ rfl) (its.size - 0) 0 _ (by omega) (Nat.zero_le _)
          ⟨⟨_, Heap.get?_push_size _ rfl, rfl, rfl⟩, isl.push _⟩ (fun b o e => Heap.get?_push_of_some _ (Heap.get?_push_of_some _ e)) ⟨[], #[], _, bag_new (Heap.get?_push_of_some _ atS), Part.none ks⟩ fun z L es t mv made part old => ?_
        obtain ⟨h', g2, d2, tk2, os2⟩ := z
        have eg : g2 = s.gens := mv.gens
        have ed : d2 = s.drawn := mv.drawn
        have eo : os2 = s.os := mv.os
        subst eg; subst ed; subst eo
        show wpAny _ _ _ _ _ _
        refine wpAny_pure ?_
        show wpAny _ _ (ret Value.none) _ _ _
        rw [sz] at part
        exact wpAny_pure ⟨rfl, h', tk2, rfl, ⟨L, es, t, made, part⟩, old⟩
      · cases r2 with
        | error e => exact hr2
        | ok fl2 =>
          cases fl2 with
          | ret v2 =>
            obtain ⟨rfl, h', tk, rfl, ⟨L, es, t, made, part⟩, old⟩ := hr2
            repeat (any_goals (first | assumption | wp_step))
            exact fin _ _ L es t made part old
          | _ => exact hr2.elim
    | _ => exact hr.elim

set_option maxHeartbeats 4000000 in
theorem bag_of_list {l : Addr} {its : Array Value} {ks : List (Addr × κ)} {Q : Value → Shared → Prop} (calm : A.handled = none) (src : s.heap.IsList l its) (eit : its.toList = ks.map fun p => Value.ref p.1) (kh : ∀ p ∈ ks, K.kind.is s.heap p.2 p.1) (few : Few ks)
    (rm : ∀ B : Around, B.units = A.units + 3 → K.kind.room B)
    (fin : ∀ (g : Heap) (tk : Nat) L es t, Bag K g s.heap.objs.size L es t → Part ks ks.length L → Old s.heap g → Q (.ref s.heap.objs.size) { s with heap := g, toks := tk }) :
    wpAny (model P w) A (call (.type "set") [.ref l]) Q E s := by
  obtain ⟨c0, tl0, mro0⟩ := F.called_set.mro
  have made0 := F.called_set.made
  have sub0 := F.called_set.sub
  refine wpAny_call (codeAny_of_tree ?_)
  show wpAny _ _ (callAny (.type "set") _) _ _ _
  refine wpAny_pure ⟨Code.quiet_builtin _ (by decide +kernel), codeAny_builtin F.entry_type_call ?_⟩
  rw [Around.under_plain (weight_type_call_type "set" [.ref l] []) rfl]
  have nt0 := F.called_set.notType
  have cc0 := F.called_set.canCreate
  have ct0 := F.typeCall_set_1 (.ref l)
  repeat (any_goals (first | assumption | wp_step))
  refine codeAny_mono (code_set_led1 (.ref l) (E := E) (Q₁ := fun ob z => ob = .ref s.heap.objs.size ∧ z = { s with heap := s.heap.push (newSet w) }) ⟨rfl, rfl⟩) fun r z hr => ?_
  cases r with
  | error e => exact hr
  | ok fl =>
    cases fl with
    | ret ob =>
      obtain ⟨rfl, rfl⟩ := hr
      have atS : (s.heap.push (newSet w)).get? s.heap.objs.size = some (newSet w) := Heap.get?_push_size _ rfl
      have tyS : Shared.TypeIs { s with heap := s.heap.push (newSet w) } (.ref s.heap.objs.size) "set" := ⟨_, atS, rfl⟩
      have li0 := F.called_set.init.lookup
      have bi0 := F.called_set.init.bind (.ref s.heap.objs.size)
      repeat (any_goals (first | assumption | wp_step))
      refine codeAny_mono (codeAny_call_builtin (R := wants (fun r z => r = .none ∧ ∃ h' tk, z = { s with heap := h', toks := tk } ∧ (∃ L es t, Bag K h' s.heap.objs.size L es t ∧ Part ks ks.length L) ∧ Old s.heap h') E) F.called_set.init.plain F.entry_set_init (check_set_init_1 tyS ?_)) fun r2 z2 hr2 => ?_
      · obtain ⟨ol, atl, cl, nl, dl⟩ := src
        obtain ⟨oc, od, ob, os⟩ := ol
        simp only at cl dl
        subst cl; subst dl
        have atl2 : (s.heap.push (newSet w)).get? l = some { cls := .type "list", dict := od, data := .seq its nl, slots := os } := Heap.get?_push_of_some _ atl
        have no1 := F.sub_list_set
        have no2 := F.sub_list_frozenset
        have no3 : (Value.type "list" == Value.type "dict") = false := by decide
        have isl : (s.heap.push (newSet w)).IsList l its := ⟨_, atl2, rfl, nl, rfl⟩
        unfold Builtin.«set.__init__» noKeywords Builtin.Frozenset.updateFrom
        generalize hPI : pyIter = PI
        wp_walk
        subst hPI
        refine wpAny_pyIter_list isl ?_
        refine wpAny_bind (wpAny_runValue ?_)
        have ltl : l < s.heap.objs.size := Heap.lt_size atl
        have calm3 : A.in1.in1.in1.handled = none := by simp [calm]
        have size1 : (s.heap.push (newSet w)).objs.size = s.heap.objs.size + 1 := Heap.size_push ..
        have lneI : l ≠ (s.heap.push (newSet w)).objs.size := by
          rw [size1]; exact Nat.ne_of_lt (Nat.lt_succ_of_lt ltl)
        have offS : s.heap.objs.size ∉ [(s.heap.push (newSet w)).objs.size, l] := fun z => by
          rw [size1] at z
          rcases List.mem_cons.mp z with z | z
          · exact absurd z (Nat.ne_of_lt (Nat.lt_succ_self _))
          · exact absurd (List.mem_singleton.mp z) (Nat.ne_of_gt ltl)
        have sz : its.size = ks.length := by
          rw [← Array.length_toList, eit, List.length_map]
        have val : ∀ (i : Nat) (v : Value), its[i]? = some v → ∃ p, ks[i]? = some p ∧ v = Value.ref p.1 := fun i v hv => by
          rw [← Array.getElem?_toList, eit, List.getElem?_map] at hv
          obtain ⟨p, hp, rfl⟩ := Option.map_eq_some_iff.mp hv
          exact ⟨p, hp, rfl⟩
        have free : ∀ b, s.heap.objs.size ≤ b → s.heap.get? b = none := fun b hb => by
          cases q : s.heap.get? b with
          | none => rfl
          | some o => exact absurd (Heap.lt_size q) (Nat.not_lt_of_le hb)
        refine fill ((Walks.list calm3 _ l lneI its).toS) s.heap.objs.size offS ks sz few val (h0 := s.heap) kh (free _ (Nat.le_refl _)) (fun b hb => free b (by rw [List.mem_singleton.mp hb, size1]; exact Nat.le_succ _)) (rm _ rfl) (its.size - 0) 0 _ (by omega) (Nat.zero_le _)
          ⟨⟨_, Heap.get?_push_size _ rfl, rfl, rfl⟩, isl.push _⟩ (fun b o e => Heap.get?_push_of_some _ (Heap.get?_push_of_some _ e)) ⟨[], #[], _, bag_new (Heap.get?_push_of_some _ atS), Part.none ks⟩ fun z L es t mv made part old => ?_
        obtain ⟨h', g2, d2, tk2, os2⟩ := z
        have eg : g2 = s.gens := mv.gens
        have ed : d2 = s.drawn := mv.drawn
        have eo : os2 = s.os := mv.os
        subst eg; subst ed; subst eo
        show wpAny _ _ _ _ _ _
        refine wpAny_pure ?_
        show wpAny _ _ (ret Value.none) _ _ _
        rw [sz] at part
        exact wpAny_pure ⟨rfl, h', tk2, rfl, ⟨L, es, t, made, part⟩, old⟩
      · cases r2 with
        | error e => exact hr2
        | ok fl2 =>
          cases fl2 with
          | ret v2 =>
            obtain ⟨rfl, h', tk, rfl, ⟨L, es, t, made, part⟩, old⟩ := hr2
            repeat (any_goals (first | assumption | wp_step))
            exact fin _ _ L es t made part old
          | _ => exact hr2.elim
    | _ => exact hr.elim
end
end DTS

set_option maxRecDepth 100000
set_option maxHeartbeats 2000000
/-! DTS4: tuples of texts as keys; sorted of a set of them. -/
namespace DTS
open PySem PySem.Spec PyProof.Rows L2
section
variable {P : Program} {w : World} {A : Around} {E : Value → Shared → Prop} {s : Shared}
abbrev TK (P : Program) (w : World) : HeapKind P w (List Str) := tupleKind (PySem.strKind P w)
theorem texts_items {k : List Str} {vs : List Value} (h : ItemsAre (PySem.strKind P w) k vs) : StrsAre vs k := by
  induction h with
  | nil => exact .nil
  | @cons x v ks vs h1 _ ih =>
    obtain ⟨t, rfl⟩ := Value.isStrOf_shape (show Value.isStrOf x v = true from h1)
    exact .cons x t ih
theorem items_texts {k : List Str} {vs : List Value} (h : StrsAre vs k) : ItemsAre (PySem.strKind P w) k vs := by
  induction h with
  | nil => exact .nil
  | cons x t _ ih => exact .cons (strKind_is P w x t) ih
theorem only_texts {k : List Str} {vs : List Value} (h : StrsAre vs k) : ∀ v ∈ vs, ∃ x t, v = Value.str x t := by
  induction h with
  | nil => exact fun v hv => (List.not_mem_nil hv).elim
  | cons x t _ ih =>
    intro v hv
    rcases List.mem_cons.mp hv with rfl | hv
    · exact ⟨x, t, rfl⟩
    · exact ih v hv
theorem cls_text (n : Nat) (x : Str) (t : Tok) : ofAClassStatement n (.str x t) = pure false := by cases n <;> rfl
theorem byv_text (n : Nat) (x : Str) (t : Tok) : hashByValue n (.str x t) = pure false := by cases n <;> simp [hashByValue]
theorem cls_tup {k : List Str} {b : Addr} {Q : Bool → Shared → Prop} (kb : (TK P w).is s.heap k b) (fin : Q false s) : wpAny (model P w) A (ofAClassStatement 8 (.ref b)) Q E s := by
  have ty : s.TypeIs (.ref b) "tuple" := IsTupleKey.typeIs kb
  obtain ⟨ob, its, n, at_, _, dt, hi⟩ := kb
  unfold ofAClassStatement
  refine wpAny_bind (wpAny_typeOf ty ?_)
  dsimp only
  simp only [show (("tuple" : String) == "tuple") = true by decide, ↓reduceIte, Bool.not_true, Bool.false_eq_true]
  try refine wpAny_bind (wpAny_pure ?_)
  show wpAny _ _ (seqItems? (.ref b) >>= _) _ _ s
  refine wpAny_bind (wpAny_seqItems at_ dt ?_)
  dsimp only
  refine wpAny_bind ?_
  show wpAny _ _ (forIn its _ _) _ _ s
  rw [← Array.forIn_toList]
  refine wpAny_forIn_list _ (fun rest r z => r.1 = none ∧ z = s ∧ ∀ v ∈ rest, ∃ x t, v = Value.str x t) _ ?_ ?_ _ _ ⟨rfl, rfl, only_texts (texts_items hi)⟩
  · rintro v rest r z ⟨er, rfl, all⟩
    obtain ⟨x, t, rfl⟩ := all v List.mem_cons_self
    rw [cls_text]
    refine wpAny_bind (wpAny_pure ?_)
    simp only [Bool.false_eq_true, ↓reduceIte]
    exact wpAny_pure ⟨rfl, rfl, fun u hu => all u (List.mem_cons_of_mem _ hu)⟩
  · rintro ⟨r, u⟩ z ⟨er, rfl, _⟩
    dsimp only at er
    subst er
    exact wpAny_pure fin
theorem byv_tup {k : List Str} {b : Addr} {Q : Bool → Shared → Prop} (kb : (TK P w).is s.heap k b) (fin : ∀ q, Q q s) : wpAny (model P w) A (hashByValue 8 (.ref b)) Q E s := by
  have ty : s.TypeIs (.ref b) "tuple" := IsTupleKey.typeIs kb
  obtain ⟨ob, its, n, at_, _, dt, hi⟩ := kb
  unfold hashByValue
  refine wpAny_bind (wpAny_specialOf ty F.slot_tuple_hash.lookup ?_)
  show wpAny _ _ (seqItems? (.ref b) >>= _) _ _ s
  refine wpAny_bind (wpAny_seqItems at_ dt (wpAny_bind ?_))
  show wpAny _ _ (forIn its _ _) _ _ s
  rw [← Array.forIn_toList]
  refine wpAny_forIn_list _ (fun rest r z => r.1 = none ∧ z = s ∧ ∀ v ∈ rest, ∃ x t, v = Value.str x t) _ ?_ ?_ _ _ ⟨rfl, rfl, only_texts (texts_items hi)⟩
  · rintro v rest r z ⟨er, rfl, all⟩
    obtain ⟨x, t, rfl⟩ := all v List.mem_cons_self
    rw [byv_text]
    refine wpAny_bind (wpAny_pure ?_)
    simp only [Bool.not_false, ↓reduceIte]
    exact wpAny_pure (wpAny_pure (fin false))
  · rintro ⟨r, u⟩ z ⟨er, rfl, _⟩
    dsimp only at er
    subst er
    exact wpAny_pure (fin true)
/-- tuples of texts -/
def TT (P : Program) (w : World) : HKey P w (List Str) where
  kind := TK P w
  cls := fun kb fin => cls_tup kb fin
  byv := fun kb fin => byv_tup kb fin
  move := fun ⟨o, its, n, e, r⟩ k => ⟨o, its, n, k o e, r⟩
  some_ := fun ⟨o, its, n, e, _, dt, _⟩ => ⟨o, e, fun es ep t z => by
    rw [dt] at z
    cases z⟩
theorem reads_strs {h : Heap} {k : List Str} {vs : List Value} (e : StrsAre vs k) : ReadsAll h vs (k.map .str) [] := by
  induction e with
  | nil => exact .nil
  | cons x t _ ih => exact .cons (.str x t) ih
theorem reads_tup {h : Heap} {k : List Str} {b : Addr} (kb : (TK P w).is h k b) : Reads h (.ref b) (.tuple (k.map .str)) [] := by
  obtain ⟨ob, its, n, at_, c, dt, hi⟩ := kb
  exact .tuple at_ c dt (reads_strs (texts_items hi))
end
end DTS

set_option maxRecDepth 100000
set_option maxHeartbeats 2000000
/-! DTS5: sorted(set(xs)) of tuples of texts. -/
namespace DTS
open PySem PySem.Spec PyProof.Rows L2
theorem perm_map_inv {α β : Type} {f : α → β} : ∀ {vs : List β} {L : List α}, vs.Perm (L.map f) → ∃ M : List α, vs = M.map f ∧ M.Perm L
  | [], L, p => by
    have e : L.map f = [] := p.symm.eq_nil
    cases L with
    | nil => exact ⟨[], rfl, .nil⟩
    | cons x L => cases e
  | v :: vs, L, p => by
    obtain ⟨q, hq, rfl⟩ := List.mem_map.mp (p.mem_iff.mp List.mem_cons_self)
    obtain ⟨l, r, rfl⟩ := List.append_of_mem hq
    have p2 : vs.Perm ((l ++ r).map f) := by
      have z : (l ++ q :: r).Perm (q :: (l ++ r)) := List.perm_middle
      exact (List.perm_cons (f q)).mp (p.trans (z.map f))
    obtain ⟨M, e, pm⟩ := perm_map_inv p2
    exact ⟨q :: M, by rw [e]; rfl, (pm.cons q).trans List.perm_middle.symm⟩
theorem each_map_ref {β : Type} {R : Value → β → Prop} {f : β → Value} : ∀ (M : List β), (∀ p ∈ M, R (f p) p) → PySem.W.EachIs R (M.map f) M
  | [], _ => .nil
  | p :: M, h => .cons (h p List.mem_cons_self) (each_map_ref M fun q hq => h q (List.mem_cons_of_mem _ hq))
theorem map_ref_each {β : Type} {f : β → Value} : ∀ {out : List Value} {M : List β}, PySem.W.EachIs (fun v p => v = f p) out M → out = M.map f
  | _, _, .nil => rfl
  | _, _, .cons e t => by
    rw [List.map_cons, ← map_ref_each t, ← e]
/-- each row once, ascending -/
def uniqT (ks : List (List Str)) : List (List Str) := (DLS.insAll [] ks).mergeSort DL.leTS
theorem uniqT_mem {ks : List (List Str)} {k : List Str} : k ∈ uniqT ks ↔ k ∈ ks := by
  unfold uniqT
  rw [(List.mergeSort_perm _ _).mem_iff, DLS.insAll_mem]
  simp
theorem uniqT_nodup (ks : List (List Str)) : (uniqT ks).Nodup := (List.mergeSort_perm _ _).nodup_iff.mpr (DLS.insAll_nodup List.nodup_nil)
def encP (p : Addr × List Str) : PyData := .tuple (p.2.map .str)
section
variable {P : Program} {w : World} {A : Around} {E : Value → Shared → Prop} {s : Shared} {a : Addr}
theorem enc_alike (M : List (Addr × List Str)) : PySem.W.AllAlike (M.map encP) := by
  intro p hp q hq
  obtain ⟨x, _, rfl⟩ := List.mem_map.mp hp
  obtain ⟨y, _, rfl⟩ := List.mem_map.mp hq
  simpa [encP, PySem.W.alike] using DL.alike_strsA x.2 y.2
theorem enc_sortable {M : List (Addr × List Str)} (ne : ∀ p ∈ M, p.2 ≠ []) : PySem.W.Sortable (M.map encP) := by
  refine .inl fun d hd => ?_
  obtain ⟨p, hp, rfl⟩ := List.mem_map.mp hd
  obtain ⟨b, k⟩ := p
  match k, ne _ hp with
  | x :: r, _ => exact ⟨_, _, rfl⟩
  | [], h => exact absurd rfl h
theorem sort_enc (M : List (Addr × List Str)) : (M.mergeSort (PySem.W.dataLe false encP)).map (·.2) = (M.map (·.2)).mergeSort DL.leTS :=
  PySem.W.sort_maps (r := PySem.W.dataLe false encP) (s := DL.leTS) (Prod.snd : Addr × List Str → List Str) fun a _ b _ => by
    show (!PySem.W.dataLt (encP b) (encP a)) = DL.leTS a.2 b.2
    unfold encP
    rw [DL.dataLt_encT]
    rfl
set_option maxHeartbeats 4000000 in
theorem sorted_bag {L : List (Addr × List Str)} {es : Array (Int × Value)} {t : SetTable} {Q : Value → Shared → Prop} (B : Bag (TT P w) s.heap a L es t) (calm : A.handled = none) (ne : ∀ p ∈ L, p.2 ≠ []) (un : A.units + 8 < cLine)
    (fin : ∀ z p (out : Array Value) (c : Nat) (M : List (Addr × List Str)), Old s.heap z.heap → z.gens = s.gens → z.os = s.os → s.heap.objs.size ≤ p → z.heap.get? p = some (seqObj "list" out c) →
      out.toList = M.map (fun q => Value.ref q.1) → M.Perm L → M.map (·.2) = (L.map (·.2)).mergeSort DL.leTS → Q (.ref p) z) :
    wpAny (model P w) A (call (.builtin "sorted") [.ref a]) Q E s := by
  obtain ⟨ob, ep, at_, ex, dt⟩ := B.body
  have few := B.small
  refine Calls.call_function_entry kind_sorted plain_sorted entry_sorted (args_sorted1 _) ?_
  unfold Builtin.«sorted»
  refine wpAny_bind (m := checkCount "sorted" 1 1 _) (wpAny_pure ?_)
  refine wpAny_bind (collect_set (A := A.in1) calm ⟨ob, at_, ex.1, dt⟩ B.fits (by rw [B.size]; unfold scanBound; omega) B.tab.ris B.led fun z vs old size1 g1 o1 pv => ?_)
  have ev : es.toList.map (·.2) = L.map fun q => Value.ref q.1 := by
    rw [B.text]
    unfold lines
    rw [List.map_map]
    rfl
  rw [ev] at pv
  obtain ⟨M, rfl, pm⟩ := perm_map_inv pv
  have len : M.length < 64 := by rw [pm.length_eq]; exact few
  refine wpAny_bind (wpAny_newList ?_ (by rw [List.length_map, sizeLine_eq]; omega))
  have atL : (z.heap.push (seqObj "list" (M.map fun q => Value.ref q.1).toArray 0)).get? z.heap.objs.size = some (seqObj "list" (M.map fun q => Value.ref q.1).toArray 0) := Heap.get?_push_size _ rfl
  have rd : ∀ p ∈ M, Reads (z.heap.push (seqObj "list" (M.map fun q => Value.ref q.1).toArray 0)) (.ref p.1) (encP p) [] := fun p hp =>
    reads_tup (P := P) (w := w) ((TT P w).move (B.keys p (pm.mem_iff.mp hp)) fun o e => Heap.get?_push_of_some _ (old p.1 o e))
  refine wpAny_bind (wpAny_holding (PySem.W.list_sort_data (R := fun v p => v = Value.ref p.1) (enc := encP) (bs := M) atL (each_map_ref M fun _ _ => rfl) (each_map_ref M fun p hp => ⟨[], rd p hp, List.not_mem_nil⟩)
    (enc_alike M) (enc_sortable fun p hp => ne p (pm.mem_iff.mp hp)) (by rw [sizeLine_eq]; omega) (fun p _ => ?_) fun out _ eo => ?_))
  · have d2 := DL.depth_strsT p.2
    show A.in1.units + 1 + (encP p).depth < cLine
    have u1 : A.in1.units = A.units + 1 := rfl
    unfold encP
    omega
  · obtain ⟨c, hc⟩ := sortedHeap_at (vs := M.map fun q => Value.ref q.1) (out := out.toArray) atL
    have eo2 := map_ref_each (f := fun p : Addr × List Str => Value.ref p.1) eo
    refine wpAny_pure ⟨_, rfl, fin _ z.heap.objs.size _ c _ (fun b u e => ?_) g1 o1 size1 hc (by rw [← eo2]) ((List.mergeSort_perm _ _).trans pm) ?_⟩
    · have q := old b u e
      have lt := Heap.lt_size q
      show (sortedHeap (z.heap.push (seqObj "list" (M.map fun q => Value.ref q.1).toArray 0)) z.heap.objs.size (M.map fun q => Value.ref q.1) out.toArray).get? b = some u
      rw [sortedHeap_old (Nat.ne_of_lt lt) (by rw [size_push']; exact Nat.lt_succ_of_lt lt)]
      exact Heap.get?_push_of_some _ q
    · rw [sort_enc]
      exact DL.sortTS_eq ((List.mergeSort_perm _ _).trans (pm.map (·.2)).symm) (PySem.W.sort_pairwise DL.leTS_total _)
end
end DTS

set_option maxRecDepth 100000
set_option maxHeartbeats 2000000
/-! DTS6: sorted(set(x)) of tuples of texts, over trees. -/
namespace DL
open PySem PySem.Spec L2 DTS
section
variable {X : Cx} {W : WX} {e : Expr} {ta : TE} {te : DTE} {p p2 q pos : Pos}
def tSortSetT (K : PySem.W.Frag) (ta : TE) : TE := fun σ H Q => ta σ H fun x H1 => ∃ (l : Addr) (ks : List (Addr × List Str)), x = V.ref l ∧ (SqT K H1 l (ks.map fun p => V.ref p.1) ∨ SqL K H1 l (ks.map fun p => V.ref p.1)) ∧ (∀ p ∈ ks, SqT K H1 p.1 (p.2.map V.str)) ∧ Few ks ∧ (∀ p ∈ ks, p.2 ≠ []) ∧
  ∀ (c : Addr) (M : List (Addr × List Str)), H1 c = none → (∀ p ∈ M, p ∈ ks) → M.map (·.2) = uniqT (ks.map (·.2)) → Q (.ref c) (upd H1 c (.lst (M.map fun p => V.ref p.1)))
theorem refs_only : ∀ {ks : List (Addr × List Str)} {us : List Value}, Vals (ks.map fun p => V.ref p.1) us → us = ks.map fun p => Value.ref p.1
  | [], _, .nil => rfl
  | _ :: _, _, .cons r t => by
    cases r
    rw [refs_only t]
    rfl
theorem refs_vals : ∀ ks : List (Addr × List Str), Vals (ks.map fun p => V.ref p.1) (ks.map fun p => Value.ref p.1)
  | [] => .nil
  | p :: ks => .cons (show RelV (.ref p.1) (.ref p.1) from rfl) (refs_vals ks)
theorem key_at {pins : List (Addr × Obj)} {σ : L2.St} {H : Hp} {s : Shared} (I : Inv X pins σ H s) {b : Addr} {k : List Str} (h : SqT X.K H b (k.map V.str)) : (TT X.prog X.w).kind.is s.heap k b := by
  obtain ⟨its, r, ⟨o, ho, hc, n, hd⟩, _⟩ := I.tuple h
  exact ⟨o, its.toArray, n, ho, hc, hd, by simpa using items_texts (P := X.prog) (w := X.w) r.strs⟩
/-- the keys of the set are the keys of the items -/
theorem part_keys {ks L : List (Addr × List Str)} (g : Part ks ks.length L) (nd : (L.map (·.2)).Nodup) : (L.map (·.2)).mergeSort leTS = uniqT (ks.map (·.2)) := by
  refine sortTS_eq ?_ (PySem.W.sort_pairwise leTS_total _)
  refine (List.mergeSort_perm _ _).trans ?_
  refine DLS.perm_of_mem (DLS.insAll_nodup List.nodup_nil) nd fun k => ?_
  rw [DLS.insAll_mem]
  constructor
  · rintro (h | h)
    · exact (List.not_mem_nil h).elim
    · obtain ⟨p, hp, rfl⟩ := List.mem_map.mp h
      exact g.all p (by rw [List.take_length]; exact hp)
  · intro h
    obtain ⟨p, hp, rfl⟩ := List.mem_map.mp h
    exact .inr (List.mem_map.mpr ⟨p, g.in_ p hp, rfl⟩)
theorem run_sortSetT {pins : List (Addr × Obj)} {σ : L2.St} {H : Hp} {s : Shared} {a : Addr} {ks L : List (Addr × List Str)} {es : Array (Int × Value)} {t : SetTable} {Q : VK} (hc : X.calm = true) (hu : X.A.units + 64 < cLine) (I : Inv X pins σ H s) (B : Bag (TT X.prog X.w) s.heap a L es t)
    (g : Part ks ks.length L) (ne : ∀ p ∈ ks, p.2 ≠ []) (k : ∀ (c : Addr) (M : List (Addr × List Str)), H c = none → (∀ p ∈ M, p ∈ ks) → M.map (·.2) = uniqT (ks.map (·.2)) → Q (.ref c) (upd H c (.lst (M.map fun p => V.ref p.1)))) :
    wpAny (model X.prog X.w) X.A (call (.builtin "sorted") [.ref a]) (EP X pins σ Q) X.xe s := by
  refine sorted_bag B (I.ok.hd hc) (fun p hp => ne p (g.in_ p hp)) (by omega) fun s' c out n M old gg o hn at_ eo pm em => ?_
  have len : (M.map fun p => V.ref p.1).length ≤ sizeLine := by
    have z := B.small
    rw [List.length_map, pm.length_eq, sizeLine_eq]
    omega
  have free : H c = none := I.hok.fresh hn
  have J : Inv X pins σ (upd H c (.lst (M.map fun p => V.ref p.1))) { s with heap := s'.heap, gens := s'.gens, drawn := s'.drawn, toks := s'.toks } :=
    I.call (ch := []) (Un.laid old hn free) (I.hok.laid old hn ⟨len, out.toList, n, by rw [eo]; exact refs_vals M, at_⟩) (by rw [gg]; exact I.bare) (fun _ z => nomatch z)
  have e : s' = { s with heap := s'.heap, gens := s'.gens, drawn := s'.drawn, toks := s'.toks } := by
    cases s'
    cases s
    cases o
    rfl
  rw [e]
  exact ⟨.ref c, _, J, rfl, k c M free (fun p hp => g.in_ p (pm.mem_iff.mp hp)) (em.trans (part_keys g B.once))⟩
theorem pe_sortSetT (hc : X.calm = true) (hu : X.A.units + 64 < cLine) (hm : X.mg "sorted" = none) (hm2 : X.mg "set" = none) (ha : PE X e ta) (hg : Gl X "sorted" := by rfl) (hg2 : Gl X "set" := by rfl)
    (na : starEach [e] X.env = (false, eval e X.env) :: starEach [] X.env := by rfl) (nb : starEach [.Call (.Name "set" p2) [e] [] q] X.env = (false, eval (.Call (.Name "set" p2) [e] [] q) X.env) :: starEach [] X.env := by rfl) :
    PE X (.Call (.Name "sorted" p) [.Call (.Name "set" p2) [e] [] q] [] pos) (tSortSetT X.K ta) := by
  refine ⟨fun pins s σ H Q I h => ?_⟩
  refine PyProof.Rows.Call_ (ld_blt I hg hm PyProof.Rows.boot_sorted ?_)
  refine PyProof.Rows.callWith_builtin1 (PyProof.Rows.args_cons ?_ nb) nb rfl
  refine PyProof.Rows.Call_ (ld_blt I hg2 hm2 PyProof.Rows.boot_set ?_)
  refine PyProof.Rows.callWith_type1 (PyProof.Rows.args_cons (thn (ha.run pins s σ H _ I h) fun v s1 ⟨x, H1, I1, r1, l, ks, ex, sq, rows, few, ne, k⟩ => PyProof.Rows.args_nil ?_) na) na rfl
  subst ex
  cases r1
  have calm := I1.ok.hd hc
  have kh : ∀ p ∈ ks, (TT X.prog X.w).kind.is s1.heap p.2 p.1 := fun p hp => key_at I1 (rows p hp)
  have rm : ∀ B : Around, B.units = X.A.units + 3 → (TT X.prog X.w).kind.room B := fun B e => by
    show B.units < cLine
    omega
  have go : ∀ (g : Heap) (tk : Nat) L es t, Bag (TT X.prog X.w) g s1.heap.objs.size L es t → Part ks ks.length L → Old s1.heap g →
      wpAny (model X.prog X.w) X.A (call (.builtin "sorted") [.ref s1.heap.objs.size]) (EP X pins σ Q) X.xe { s1 with heap := g, toks := tk } := fun g tk L es t B part old =>
    run_sortSetT hc hu (I1.kept old) B part ne k
  rcases sq with sq | sq
  · obtain ⟨its, r, pt, hz⟩ := I1.tuple sq
    exact bag_of_tuple calm (show s1.heap.IsTuple l its.toArray from pt) (by simpa using refs_only r) kh few rm fun g tk L es t B part old => PyProof.Rows.args_nil (go g tk L es t B part old)
  · obtain ⟨its, r, pl, hz⟩ := I1.list sq
    exact bag_of_list calm pl.isList (by simpa using refs_only r) kh few rm fun g tk L es t B part old => PyProof.Rows.args_nil (go g tk L es t B part old)
end
end DL

set_option maxRecDepth 100000
set_option maxHeartbeats 2000000
/-! DTS7: sorted(set(x)) of tuples of texts, over trees. -/
namespace DL
open PySem PySem.Spec L2 DTS
/-- a row: a tuple of texts, of either kind -/
inductive RowIs : D → List Str → Prop
  | tup (k : List Str) : RowIs (.tup (k.map .str)) k
  | kup (k : List Str) : RowIs (.kup (k.map .str)) k
abbrev RowsAre (ds : List D) (ns : List (List Str)) : Prop := PySem.W.EachIs RowIs ds ns
def FewL (ns : List (List Str)) : Prop := ∀ M : List (List Str), M.Nodup → (∀ k ∈ M, k ∈ ns) → M.length < 63
def itemsK (S : Store) : D → Option (List D)
  | .kup ds => some ds
  | d => itemsD S d
section
variable {K : PySem.W.Frag} {Z : Addr → Prop} {H F : Hp} {S : Store}
theorem row_sq {d : D} {k : List Str} (r : RowIs d k) {v : V} (iv : IsV K F d v) : ∃ b, v = .ref b ∧ SqT K F b (k.map V.str) := by
  cases r with
  | tup =>
    cases iv with
    | tup h1 h2 =>
      rw [isVs_strs_inv h2] at h1
      exact ⟨_, rfl, SqT.of h1⟩
  | kup =>
    cases iv with
    | kup h1 h0 h2 =>
      rw [isVs_strs_inv h2] at h1
      exact ⟨_, rfl, .inl (.inr ⟨_, h1⟩)⟩
theorem rows_refs : ∀ {ds : List D} {ns : List (List Str)} {vs : List V}, RowsAre ds ns → IsVs K F ds vs →
    ∃ ks : List (Addr × List Str), vs = ks.map (fun p => V.ref p.1) ∧ ks.map (·.2) = ns ∧ ∀ p ∈ ks, SqT K F p.1 (p.2.map V.str) ∧ ∃ d ∈ ds, RowIs d p.2 ∧ IsV K F d (.ref p.1)
  | _, _, _, .nil, .nil => ⟨[], rfl, rfl, fun p hp => (List.not_mem_nil hp).elim⟩
  | _, _, _, .cons (a := d) (b := k) r t, .cons i j => by
    obtain ⟨b, rfl, sq⟩ := row_sq r i
    obtain ⟨ks, e1, e2, h⟩ := rows_refs t j
    refine ⟨(b, k) :: ks, by rw [e1]; rfl, by rw [← e2]; rfl, fun p hp => ?_⟩
    rcases List.mem_cons.mp hp with rfl | hp
    · exact ⟨sq, d, List.mem_cons_self, r, i⟩
    · obtain ⟨g1, x, hx, g2⟩ := h p hp
      exact ⟨g1, x, List.mem_cons_of_mem _ hx, g2⟩
theorem refs_rows {ds : List D} : ∀ {M : List (Addr × List Str)}, (∀ p ∈ M, ∃ d ∈ ds, RowIs d p.2 ∧ IsV K F d (.ref p.1)) → ∃ es, IsVs K F es (M.map fun p => V.ref p.1) ∧ RowsAre es (M.map (·.2)) ∧ ∀ x ∈ es, x ∈ ds
  | [], _ => ⟨[], .nil, .nil, fun x hx => (List.not_mem_nil hx).elim⟩
  | p :: M, h => by
    obtain ⟨d, hd, r, i⟩ := h p List.mem_cons_self
    obtain ⟨es, g1, g2, g3⟩ := refs_rows (M := M) fun q hq => h q (List.mem_cons_of_mem _ hq)
    refine ⟨d :: es, .cons i g1, .cons r g2, fun x hx => ?_⟩
    rcases List.mem_cons.mp hx with rfl | hx
    · exact hd
    · exact g3 x hx
end
section
variable {X : Cx} {W : WX} {e : Expr} {te : DTE} {p p2 q pos : Pos}
def dSortSetT (te : DTE) : DTE := fun ρ S Q E => te ρ S (fun d S1 => ∃ (ds : List D) (ns : List (List Str)), itemsK S1 d = some ds ∧ RowsAre ds ns ∧ FewL ns ∧ (∀ k ∈ ns, k ≠ []) ∧ ∀ es, RowsAre es (uniqT ns) → (∀ x ∈ es, x ∈ ds) → Q (.lst es) S1) E
theorem de_sortSetT (hc : X.calm = true) (hu : X.A.units + 64 < cLine) (hm : X.mg "sorted" = none) (hm2 : X.mg "set" = none) (he : DE X W e te) (hg : Gl X "sorted" := by rfl) (hg2 : Gl X "set" := by rfl)
    (na : starEach [e] X.env = (false, eval e X.env) :: starEach [] X.env := by rfl) (nb : starEach [.Call (.Name "set" p2) [e] [] q] X.env = (false, eval (.Call (.Name "set" p2) [e] [] q) X.env) :: starEach [] X.env := by rfl) :
    DE X W (.Call (.Name "sorted" p) [.Call (.Name "set" p2) [e] [] q] [] pos) (dSortSetT te) :=
  de_pe (pe_sortSetT hc hu hm hm2 he.pe hg hg2 na nb) fun σ H P ⟨ρ, S, F, Z, Q, E, R, V, q, k, x⟩ => ⟨ρ, S, F, Z, _, E, R, V, q, fun v H1 ⟨d, S1, F1, A1, i1, ds, ns, hd, rs, few, ne, q1⟩ => by
    have src : ∃ l vs, v = .ref l ∧ (SqL X.K H1 l vs ∨ SqT X.K H1 l vs) ∧ IsVs X.K F1 ds vs := by
      cases d with
      | kup =>
        cases hd
        cases i1 with
        | kup h1 h0 h2 => exact ⟨_, _, rfl, .inr (.inl (.inr ⟨_, (A1.rel.sub _ _ h1).1⟩)), h2⟩
      | _ => exact items_of A1.rel i1 hd
    obtain ⟨l, vs, rfl, sq, iv⟩ := src
    obtain ⟨ks, rfl, rfl, each⟩ := rows_refs rs iv
    refine ⟨l, ks, rfl, sq.symm, fun p hp => (Same.sqt (fun b u z => (A1.rel.sub b u z).1) (each p hp).1), few, fun p hp => ne _ (List.mem_map.mpr ⟨p, hp, rfl⟩), fun c M hcn inn em => ?_⟩
    obtain ⟨es, g1, g2, g3⟩ := refs_rows (K := X.K) (F := F1) (ds := ds) fun p hp => (each p (inn p hp)).2
    rw [em] at g2
    obtain ⟨R2, s2, k2⟩ := A1.rel.laid (o := .lst (M.map fun p => L2.V.ref p.1)) hcn
    exact k _ _ ⟨_, S1, _, A1.trans ⟨s2, R2, k2⟩, .lst upd_same (g1.up s2), q1 es g2 g3⟩, x⟩
end
end DL

set_option maxRecDepth 100000
set_option maxHeartbeats 2000000
/-! DTS8: a set comprehension of texts. -/
namespace DL
open PySem PySem.Spec L2
/-- the set at a holds just the texts ks -/
abbrev SS (P : Program) (w : World) (h : Heap) (a : Addr) (ks : List Str) : Prop := DLS.SetV (PySem.strKind P w) PyProof.Rows.strOf h a ks
def SetSO (P : Program) (w : World) (a : Addr) (ks : List Str) : HO := .ext fun h => SS P w h a ks
theorem setSO_ok {P : Program} {w : World} {H : Hp} {h : Heap} {a : Addr} {ks : List Str} (R : SS P w h a ks) : ObjOk P w H h a (SetSO P w a ks) := by
  have R2 := R
  obtain ⟨ob, es, ep, tb, e, r⟩ := R2
  exact ⟨R, ⟨ob, e⟩, fun h1 h2 p k => DLS.SetV.at (knd := PySem.strKind P w) p fun o z => k o z⟩
section
variable {P : Program} {w : World} {A : Around} {E : Value → Shared → Prop} {s : Shared}
theorem call_add {a : Addr} {ks : List Str} {y : Str} {t : Tok} {Q : Value → Shared → Prop} (R : SS P w s.heap a ks) (room : ks.length + 1 < scanBound)
    (fin : ∀ g, Heap.SameBut a s.heap g → SS P w g a (DLS.insK ks y) → Q .none { s with heap := g, toks := s.toks + 1 }) : wpAny (model P w) A (call (.builtin "set.add") [.ref a, .str y t]) Q E s := by
  have ty : s.TypeIs (.ref a) "set" := by
    obtain ⟨ob, es, ep, tb, e, ex, _⟩ := R
    exact ⟨ob, e, ex.1⟩
  have ky : (PySem.strKind P w).is y (.str y t) = true := strKind_is P w y t
  refine wpAny_call_entry F.slot_set_add ty F.entry_set_add ?_ (F.args_set_add_2 _ _)
  unfold Builtin.«set.add» Builtin.Frozenset.oneOther Builtin.Frozenset.addrOf setAdd
  simp only [List.isEmpty_nil, bind_assoc]
  refine wpAny_bind (wpAny_pure ?_)
  try dsimp only
  refine wpAny_bind (wpAny_pure ?_)
  try dsimp only
  refine wpAny_bind (wpAny_holding (wpAny_bind ((PySem.strKind P w).pyHash ky ?_)))
  refine DLS.add_key (s := { s with toks := s.toks + 1 }) DLS.dec_str ky R room fun g b sb r => ?_
  show wpAny _ _ (ret Value.none) _ _ _
  exact wpAny_pure ⟨_, rfl, fin g sb r⟩
end
section
variable {X : Cx}
theorem setSO_get {pins : List (Addr × Obj)} {σ : L2.St} {H : Hp} {s : Shared} {a : Addr} {ks : List Str} (I : Inv X pins σ H s) (e : H a = some (SetSO X.prog X.w a ks)) : SS X.prog X.w s.heap a ks := (I.hok a _ e).1
/-- the set's add, of a text -/
theorem add_text {pins : List (Addr × Obj)} {σ : L2.St} {H : Hp} {s : Shared} {E : Value → Shared → Prop} {a : Addr} {ks : List Str} {y : Str} {t : Tok} {Q : Value → Shared → Prop} (I : Inv X pins σ H s) (e : H a = some (SetSO X.prog X.w a ks)) (room : ks.length + 1 < scanBound)
    (fin : ∀ z, Inv X pins σ (upd H a (SetSO X.prog X.w a (DLS.insK ks y))) z → Q .none z) : wpAny (model X.prog X.w) X.A (call (.builtin "set.add") [.ref a, .str y t]) Q E s := by
  refine call_add (setSO_get I e) room fun g sb R => ?_
  have R2 := R
  obtain ⟨ob, es, ep, tb, at_, r⟩ := R2
  exact fin _ (I.write (e := a) (t' := s.toks + 1) (by rw [e]; trivial) (.inl rfl) (fun b u ne hu => (sb.2 b ne).trans hu) ⟨ob, at_⟩ (setSO_ok R))
end
end DL

set_option maxRecDepth 100000
set_option maxHeartbeats 2000000
/-! DTS9: a set comprehension of texts, its loop. -/
namespace DL
open PySem PySem.Spec L2
section
variable {X : Cx}
abbrev BlkPG (X : Cx) (scope : Scope) (e : Expr) (g : TG) : Prop := ∀ (s : Shared) (H : Hp) (C : Addr) (cl : List (Str × Addr)) (fp : List Addr), PG (X.blk s H scope (compEnvC scope cl C X.env) fp) e g
abbrev BlkPTs (X : Cx) (scope : Scope) (es : List Expr) (t : TT) : Prop := ∀ (s : Shared) (H : Hp) (C : Addr) (cl : List (Str × Addr)) (fp : List Addr), PTs (X.blk s H scope (compEnvC scope cl C X.env) fp) es t
abbrev BlkPE (X : Cx) (scope : Scope) (e : Expr) (t : TE) : Prop := ∀ (s : Shared) (H : Hp) (C : Addr) (cl : List (Str × Addr)) (fp : List Addr), PE (X.blk s H scope (compEnvC scope cl C X.env) fp) e t
/-- {elt for tg in iter if ..}, elt a text: D the new set -/
def tScS (P : Program) (w : World) (wi : TI) (g : TG) (tt : TT) (te : TE) (vs : List Nat) : TE := fun σ H Q => wi σ H fun J H1 => ∀ D, H1 D = none → ∃ W : Nat → Nat → Hp → Prop, (∃ m, W 0 m (upd H1 D (SetSO P w D []))) ∧ ∀ i m H, W i m H →
  (J.stop i H ∧ Q (.ref D) H) ∨ (J.go i H ∧ ∃ Nx : Hp → Prop, (∀ H', Nx H' → ∃ m', m' < m ∧ W (i + 1) m' H') ∧ ∀ x H', J.yld i H x H' → g x (wipe σ vs) H' fun σ2 H2 => wipe σ2 vs = wipe σ vs ∧ tt σ2 H2 fun b H3 =>
    if b = true then te σ2 H3 fun y H4 => ∃ (c : Str) (ks : List Str), y = .str c ∧ H4 D = some (SetSO P w D ks) ∧ ks.length + 1 < scanBound ∧ Nx (upd H4 D (SetSO P w D (DLS.insK ks c))) else Nx H3)
set_option maxHeartbeats 8000000 in
theorem scS_core {pins : List (Addr × Obj)} {s : Shared} {σ : L2.St} {H : Hp} {Q : VK} {elt tg iter : Expr} {ifs : List Expr} {scope : Scope} {own : List (Str × Nat)} {pos pos' : Pos} {wi : TI} {g : TG} {tt : TT} {te : TE} {use : Option (Value → Sem Unit)} {Qf : Value → Shared → Prop}
    (calm : X.calm = true) (nd : X.N.Nodup) (I : Inv X pins σ H s) (hi : PI X tg iter wi) (ok : BlkOk X.N X.env.scope scope own) (hg : BlkPG X scope tg g) (ht : BlkPTs X scope ifs tt) (he : BlkPE X scope elt te) (hs : ∀ x, foldedSetIterable iter X.env x = pure x)
    (h : tScS X.prog X.w wi g tt te (own.map (·.2)) σ H Q)
    (back : ∀ D C z m H', Inv X pins σ H' z → Q (.ref D) H' → z.heap.Ns C m → FpOk X pins H' C → compPost (model X.prog X.w) X.A X.xe use Qf (.ref D) C (.ok .next) z) :
    wpAny (model X.prog X.w) X.A (comprehension (.SetComp elt [⟨tg, iter, ifs, 0⟩] scope pos) scope X.env pos' (newSet (.type "set")) false (eval iter X.env) use) Qf X.xe s := by
  have cells : ∀ y ∈ scope.names, y.2 = .free → ∃ c, X.env.cells.lookup y.1 = some c := fun y hy e => (ok.free y hy e).elim (fun k => I.ok.has _ (.inl k)) fun k => I.ok.has _ (.inr k)
  refine wpAny_comprehension_free (use := use) rfl hs (closure_ok cells) ok.kind (fun y hy e => by rw [ok.uniq y hy, e])
    (thn (hi.run pins s σ H _ I h) fun xv s1 hx => thn hx fun itv s2 ⟨it, fp, tn, J, H2, ei, I2, T, st2, f2, q⟩ => ?_)
  subst ei
  refine PpSet.newSet_ok (newEnv_comp ?_)
  generalize hD : s2.heap.objs.size = D
  have freeD : H2 D = none := I2.hok.fresh (Nat.le_of_eq hD)
  obtain ⟨W, ⟨m0, w0⟩, turn⟩ := q D freeD
  generalize e3 : ({ s2 with heap := s2.heap.push (DLS.newSet X.w) } : Shared) = s3
  have h3 : s3.heap = s2.heap.push (DLS.newSet X.w) := by rw [← e3]
  have I3 : Inv X pins σ (upd H2 D (SetSO X.prog X.w D [])) s3 := by
    rw [← e3]
    refine I2.laid (t' := s2.toks) (fun b o z => Heap.get?_push_of_some _ z) (Nat.le_of_eq hD) (setSO_ok (DLS.setV_new ?_))
    rw [← hD]
    exact Heap.get?_push_size _ rfl
  have low : ∀ b ∈ fp, b < s2.heap.objs.size := fun b hb => by
    obtain ⟨o, z, _⟩ := T.obj _ _ st2 b hb
    exact Heap.lt_size z
  have f3 : ∀ b ∈ fp, FpOk X pins (upd H2 D (SetSO X.prog X.w D [])) b ∧ b < s3.heap.objs.size := fun b hb => by
    have lt := low b hb
    have ne : b ≠ D := by rw [← hD]; exact Nat.ne_of_lt lt
    refine ⟨⟨(upd_ne ne).trans (f2 b hb).1, (f2 b hb).2⟩, ?_⟩
    rw [h3, Heap.size_push]
    exact Nat.lt_succ_of_lt lt
  have st3 : tn 0 s3.heap := T.keep _ _ _ st2 fun b _ o z => by rw [h3]; exact Heap.get?_push_of_some _ z
  have I4 := block_start I3 ok nd f3
  generalize eH : upd H2 D (SetSO X.prog X.w D []) = H3 at I3 I4 w0 f3
  have nfp : ∀ b ∈ fp, H3 b = none := fun b hb => (f3 b hb).1.1
  have pg := hg s3 H3 s3.heap.objs.size (cellsFrom (s3.heap.objs.size + 1) scope.names (cloFrom X.env.cells scope.names [])) fp
  have pt := ht s3 H3 s3.heap.objs.size (cellsFrom (s3.heap.objs.size + 1) scope.names (cloFrom X.env.cells scope.names [])) fp
  have pe := he s3 H3 s3.heap.objs.size (cellsFrom (s3.heap.objs.size + 1) scope.names (cloFrom X.env.cells scope.names [])) fp
  show codeAny _ _ (.compStart (.SetComp elt [⟨tg, iter, ifs, 0⟩] scope pos) 0 (.ref it) (.ref D) (compEnvC scope (cellsFrom (s3.heap.objs.size + 1) scope.names (cloFrom X.env.cells scope.names [])) s3.heap.objs.size X.env))
    (compPost (model X.prog X.w) X.A X.xe use Qf (.ref D) s3.heap.objs.size) { s3 with heap := pushCells (s3.heap.push { cls := .type "dict", data := .dict #[] }) scope.names }
  generalize ec : compEnvC scope (cellsFrom (s3.heap.objs.size + 1) scope.names (cloFrom X.env.cells scope.names [])) s3.heap.objs.size X.env = ce at I4 pg pt pe ⊢
  have loc : ce.locals = s3.heap.objs.size := by subst ec; rfl
  generalize e4 : ({ s3 with heap := pushCells (s3.heap.push { cls := .type "dict", data := .dict #[] }) scope.names } : Shared) = s4 at I4 ⊢
  have st4 : tn 0 s4.heap := T.keep _ _ _ st3 fun b _ o z => by
    rw [← e4]
    exact pushCells_keeps _ _ _ _ (Heap.get?_push_of_some _ z)
  have fpk : ∀ {σ' : L2.St} {H' : Hp} {z : Shared}, Inv (X.blk s3 H3 scope ce fp) [] σ' H' z → (∀ b ∈ fp, H' b = none) → ∀ b ∈ fp, FpOk (X.blk s3 H3 scope ce fp) [] H' b := fun {σ' H' z} J2 n b hb =>
    ⟨n b hb, (J2.ok.exf b hb).1, J2.ok.exfs b hb, .inl hb, fun x c e => (J2.ok.exf b hb).2 x c e, fun p hp => (List.not_mem_nil (show p ∈ ([] : List (Addr × Obj)) from hp)).elim⟩
  refine PpSet.codeAny_compStart_set ?loop (T.self X.A 0 _ _ _ st4 ?loop2)
  all_goals
    refine PpSet.compLoopS_any (fun n z => ∃ i H', Inv (X.blk s3 H3 scope ce fp) [] (wipe σ (own.map (·.2))) H' z ∧ tn i z.heap ∧ (∀ b ∈ fp, H' b = none) ∧ W i n H') ?_ m0 ⟨0, H3, I4, st4, nfp, w0⟩
    rintro n s5 ⟨i, H5, I5, st5, n5, w5⟩
    rcases turn i n H5 w5 with ⟨stop, qq⟩ | ⟨go, Nx, hNx, step⟩
    · refine thnF (T.done (X.blk s3 H3 scope ce fp) rfl rfl rfl calm i [] s5 _ H5 (fun _ _ => False) I5 (fpk I5 n5) st5 stop) fun r s6 ⟨er, I6⟩ => ?_
      subst er
      have I7 : Inv X pins σ H5 s6 := I3.call' (ch := fp) I6.os I6.base I6.hok I6.bare fun b hb => ⟨(f3 b hb).1.2.2.2.1, (f3 b hb).1.2.1, (f3 b hb).1.2.2.2.2.1, (f3 b hb).1.2.2.2.2.2⟩
      have nC : H5 s3.heap.objs.size = none := loc ▸ (show H5 ce.locals = none from I6.free)
      obtain ⟨m, hn, _⟩ := I6.loc
      have hn2 : s6.heap.Ns s3.heap.objs.size m := loc ▸ (show s6.heap.Ns ce.locals m from hn)
      exact back D s3.heap.objs.size s6 m H5 I7 qq hn2 (I3.fpOk (Nat.le_refl _) nC)
    · refine thnF (T.item (X.blk s3 H3 scope ce fp) rfl rfl rfl calm i [] s5 _ H5 (fun _ _ => False) I5 (fpk I5 n5) st5 go) fun r s6 ⟨u, er, h6⟩ => ?_
      subst er
      refine thnF h6 fun _ s7 ⟨x, H7, I7, r7, y7, st7, n7⟩ => ?_
      refine thnF (pg.run _ s7 _ H7 x u _ (I7.pinned (fpk I7 n7) (T.obj _ _ st7)) r7 (step x H7 y7)) fun _ s8 ⟨σ8, H8, I8, same, q8⟩ => ?_
      refine thnF (pt.run _ s8 σ8 H8 _ I8 q8) fun b s9 ⟨H9, I9, q9⟩ => ?_
      have fin : ∀ {z : Shared} {H' : Hp}, Inv (X.blk s3 H3 scope ce fp) ([] ++ pinsAt fp s7.heap) σ8 H' z → Nx H' → ∃ m, m < n ∧ ∃ i H', Inv (X.blk s3 H3 scope ce fp) [] (wipe σ (own.map (·.2))) H' z ∧ tn i z.heap ∧ (∀ b ∈ fp, H' b = none) ∧ W i m H' := fun {z H'} J2 nx => by
        obtain ⟨m', lt, w'⟩ := hNx H' nx
        have pin : ∀ b ∈ fp, ∀ o, s7.heap.get? b = some o → z.heap.get? b = some o ∧ H' b = none := fun b hb o e =>
          have y := J2.pin (b, o) (List.mem_append_right _ (List.mem_append_right _ (mem_pinsAt hb e)))
          ⟨y.1, y.2.1⟩
        refine ⟨m', lt, i + 1, H', (J2.unpinned (pins := [])).weak (by rw [← same, wipe_length]) (fun j v e => ?_), T.keep _ _ _ st7 fun b hb o e => (pin b hb o e).1, fun b hb => ?_, w'⟩
        · rw [← same] at e
          exact (wipe_some e).1
        · obtain ⟨o, e, _⟩ := T.obj _ _ st7 b hb
          exact (pin b hb o e).2
      cases b with
      | false =>
        simp only [Bool.false_eq_true, ↓reduceIte] at q9 ⊢
        exact fin I9 q9
      | true =>
        simp only [↓reduceIte] at q9 ⊢
        refine thnF (pe.run _ s9 σ8 H9 _ I9 q9) fun v s10 ⟨yv, H10, I10, r10, c, ks, ey, hD10, few, nx⟩ => ?_
        subst ey
        obtain ⟨tk, rfl⟩ := (show ∃ t, v = Value.str c t from r10)
        exact add_text (X := X.blk s3 H3 scope ce fp) I10 hD10 few fun z J2 => fin J2 nx
end
end DL

set_option maxRecDepth 100000
set_option maxHeartbeats 2000000
/-! DTS10: sorted({text for x in xs}). -/
namespace DL
open PySem PySem.Spec L2
section
variable {X : Cx}
theorem pe_scS {elt tg iter : Expr} {ifs : List Expr} {scope : Scope} {own : List (Str × Nat)} {pos : Pos} {wi : TI} {g : TG} {tt : TT} {te : TE} (calm : X.calm = true) (nd : X.N.Nodup) (hi : PI X tg iter wi) (ok : BlkOk X.N X.env.scope scope own)
    (hg : BlkPG X scope tg g) (ht : BlkPTs X scope ifs tt) (he : BlkPE X scope elt te) (hs : ∀ x, foldedSetIterable iter X.env x = pure x := by intro _; rfl) :
    PE X (.SetComp elt [⟨tg, iter, ifs, 0⟩] scope pos) (tScS X.prog X.w wi g tt te (own.map (·.2))) := by
  refine ⟨fun pins s σ H Q I h => ?_⟩
  rw [PpSet.eval_SetComp]
  refine scS_core calm nd I hi ok hg ht he hs h fun D C z m H' J q hn f => ⟨m, hn, fun h2 sb => ?_⟩
  obtain ⟨f0, f1, _, f3, f4, f5⟩ := f
  exact ⟨.ref D, H', J.turned (t' := z.toks) (fun b o hb e => (sb.2 b hb).trans e) f0 f1 f3 f4 f5, rfl, q⟩
/-- the set goes into sorted: nobody else sees it -/
def tSortSc (P : Program) (w : World) (ta : TE) : TE := fun σ H Q => ta σ H fun x H1 => ∃ (D : Addr) (ks : List Str), x = .ref D ∧ H1 D = some (SetSO P w D ks) ∧ ks.length < 64 ∧ ∀ c, H1 c = none → Q (.ref c) (upd H1 c (.lst ((DLS.sortS ks).map V.str)))
theorem pe_sortSc {e : Expr} {ta : TE} {p pos : Pos} (calm : X.calm = true) (hm : X.mg "sorted" = none) (ha : PE X e ta) (hg : Gl X "sorted" := by rfl) (na : starEach [e] X.env = (false, eval e X.env) :: starEach [] X.env := by rfl) :
    PE X (.Call (.Name "sorted" p) [e] [] pos) (tSortSc X.prog X.w ta) := by
  refine ⟨fun pins s σ H Q I h => ?_⟩
  refine PyProof.Rows.Call_ (ld_blt I hg hm PyProof.Rows.boot_sorted ?_)
  refine PyProof.Rows.callWith_builtin1 (PyProof.Rows.args_cons (thn (ha.run pins s σ H _ I h) fun v s1 ⟨x, H1, I1, r1, D, ks, ex, hD, few, k⟩ => PyProof.Rows.args_nil ?_) na) na rfl
  subst ex
  cases r1
  exact run_sortSet (s0 := s1) calm I1 (setSO_get I1 hD) few k
end
end DL

set_option maxRecDepth 100000
set_option maxHeartbeats 2000000
/-! DTS11: sorted({text for x in xs}), over trees. -/
namespace DL
open PySem PySem.Spec L2
/-- the items' turns: acc is what was added so far -/
def dScGo (tg : Tgt) (tt : DTT) (te : DTE) (ρ : Sl) : List D → List Str → Store → (List Str → Store → Prop) → Prop
  | [], acc, S, Q => Q acc S
  | d :: r, acc, S, Q => ∃ ρ1, bindT tg d ρ = some ρ1 ∧ tt ρ1 S (fun b S1 => if b = true then te ρ1 S1 (fun y S2 => ∃ c, y = .str c ∧ dScGo tg tt te ρ r (acc ++ [c]) S2 Q) (fun _ _ _ _ => False) else dScGo tg tt te ρ r acc S1 Q) fun _ _ _ _ => False
def dScI (ti : DTI) (tg : Tgt) (tt : DTT) (te : DTE) (vs : List Nat) (ρ : Sl) (S : Store) (Q : List Str → Store → Prop) (E : DX) : Prop := ti ρ S (fun items S1 => items.length + 1 < scanBound ∧ dScGo tg tt te (wipeD ρ vs) items [] S1 Q) E
/-- sorted of a set comprehension of texts -/
def dSortSc (ti : DTI) (tg : Tgt) (tt : DTT) (te : DTE) (vs : List Nat) : DTE := fun ρ S Q E => dScI ti tg tt te vs ρ S (fun ns S1 => (DLS.uniqS ns).length < 64 ∧ Q (.lst ((DLS.uniqS ns).map .str)) S1) E
section
variable {K : PySem.W.Frag} {W : WX} {ti : DTI} {g : Tgt} {tt : DTT} {te : DTE} {vs : List Nat}
/-- the set under way is hidden from the element -/
theorem sc_lift (hv : ∀ i ∈ g.slots, i ∈ vs) {σ : L2.St} {H : Hp} {P : VK} {ρ : Sl} {S : Store} {F : Hp} {Z : Addr → Prop} {Qd : List Str → Store → Prop} {Pr : Program} {w : World} {Ex : DX} (R : Rel K Z H S F) (E : EnvR K F ρ σ) (q : dScI ti g tt te vs ρ S Qd Ex)
    (k : ∀ (H1 F1 : Hp) (S1 : Store) (Dd : Addr) (ns : List Str), Aft K Z H F H1 S1 F1 → H1 Dd = some (SetSO Pr w Dd (DLS.insAll [] ns)) → Qd ns S1 → P (.ref Dd) H1) (xl : ∀ cls d H', LftX K Z H F Ex cls d H' → W cls d σ H') :
    tScS Pr w (upI K W ti) (tgV K g) (upT K W0 tt) (upE K W0 te) vs σ H P := by
  refine ⟨ρ, S, F, Z, _, _, R, E, q, fun J H1 items S1 F1 A1 ok ⟨hz, q1⟩ Dd hD => ?_, xl⟩
  have E1 : EnvR K F1 (wipeD ρ vs) (L2.wipe σ vs) := (E.up A1.sm).wipe vs
  -- the hidden set
  let Z' : Addr → Prop := fun b => Z b ∨ b = Dd
  have zD : ¬ Z Dd := fun z => by
    obtain ⟨o, e⟩ := A1.rel.hid Dd z
    rw [hD] at e; cases e
  have sD : S1 Dd = none := by
    cases e : S1 Dd with
    | none => rfl
    | some m =>
      obtain ⟨_, o, e2, _⟩ := A1.rel.sto Dd m e
      rw [hD] at e2; cases e2
  have fD : F1 Dd = none := by
    cases e : F1 Dd with
    | none => rfl
    | some o =>
      have := (A1.rel.sub Dd o e).1
      rw [hD] at this; cases this
  have down : ∀ {H' : Hp} {S' : Store} {F' : Hp}, Rel K Z' H' S' F' → Rel K Z H' S' F' ∧ S' Dd = none ∧ F' Dd = none := fun {H' S' F'} r =>
    ⟨⟨fun b u e => ⟨(r.sub b u e).1, (r.sub b u e).2.1, fun z => (r.sub b u e).2.2 (.inl z)⟩, fun b m e => ⟨fun z => (r.sto b m e).1 (.inl z), (r.sto b m e).2⟩, fun b z => r.hid b (.inl z)⟩,
     no_some fun m e => (r.sto Dd m e).1 (.inr rfl), no_some fun o e => (r.sub Dd o e).2.2 (.inr rfl)⟩
  -- writing the hidden set
  have wr : ∀ {H' : Hp} {S' : Store} {F' : Hp} (ob : HO), Rel K Z' H' S' F' → Rel K Z' (upd H' Dd ob) S' F' := fun {H' S' F'} ob r => by
    obtain ⟨r1, hs, hf⟩ := down r
    have ne : ∀ {b u}, F' b = some u → b ≠ Dd := fun e z => by rw [z, hf] at e; cases e
    have nes : ∀ {b u}, S' b = some u → b ≠ Dd := fun e z => by rw [z, hs] at e; cases e
    exact ⟨fun b u e => ⟨by rw [upd_ne (ne e)]; exact (r.sub b u e).1, (r.sub b u e).2⟩,
      fun b m e => ⟨(r.sto b m e).1, let ⟨o, h1, h2⟩ := (r.sto b m e).2; ⟨o, by rw [upd_ne (nes e)]; exact h1, h2⟩⟩,
      fun b z => by
        by_cases hb : b = Dd
        · subst hb
          exact ⟨_, upd_same⟩
        · rw [upd_ne hb]
          exact r.hid b z⟩
  have Rb : Rel K Z' (upd H1 Dd (SetSO Pr w Dd [])) S1 F1 := by
    obtain ⟨r1, _, _⟩ := A1.rel.laid (o := SetSO Pr w Dd []) hD
    have ne : ∀ {b u}, H1 b = some u → b ≠ Dd := fun e z => by rw [z, hD] at e; cases e
    refine ⟨fun b u e => ?_, fun b m e => ?_, fun b z => ?_⟩
    · have h := A1.rel.sub b u e
      exact ⟨by rw [upd_ne (ne h.1)]; exact h.1, h.2.1, fun z => z.elim h.2.2 (ne h.1)⟩
    · obtain ⟨h1, o, h2, h3⟩ := A1.rel.sto b m e
      exact ⟨fun z => z.elim h1 (ne h2), o, by rw [upd_ne (ne h2)]; exact h2, h3⟩
    · rcases z with z | z
      · obtain ⟨o, e⟩ := A1.rel.hid b z
        exact ⟨o, by rw [upd_ne (ne e)]; exact e⟩
      · subst z
        exact ⟨_, upd_same⟩
  refine ⟨fun i m H' => m = items.length - i ∧ i ≤ items.length ∧ ∃ (S' : Store) (F' : Hp) (acc : List Str), Same F1 F' ∧ Rel K Z' H' S' F' ∧ Keep Z H1 H' ∧ H' Dd = some (SetSO Pr w Dd (DLS.insAll [] acc)) ∧ acc.length ≤ i ∧ dScGo g tt te (wipeD ρ vs) (items.drop i) acc S' Qd,
    ⟨items.length, rfl, Nat.zero_le _, S1, F1, [], Same.refl _, Rb, fun b o z e => ?_, upd_same, Nat.le_refl _, q1⟩, ?_⟩
  · have hb : b ≠ Dd := fun q => zD (q ▸ z)
    rw [upd_ne hb]; exact e
  rintro i m H2 ⟨rfl, hi, S2, F2, acc, s2, R2, k2, hd2, hl2, q2⟩
  by_cases hlt : i < items.length
  · refine .inr ⟨ok.go H2 S2 F2 Z' s2 R2 i hlt, fun H' => i + 1 ≤ items.length ∧ ∃ (S' : Store) (F' : Hp) (acc : List Str), Same F1 F' ∧ Rel K Z' H' S' F' ∧ Keep Z H1 H' ∧ H' Dd = some (SetSO Pr w Dd (DLS.insAll [] acc)) ∧ acc.length ≤ i + 1 ∧ dScGo g tt te (wipeD ρ vs) (items.drop (i + 1)) acc S' Qd,
      fun H' p' => ⟨items.length - (i + 1), by omega, rfl, p'⟩, fun x H3 hy => ?_⟩
    obtain ⟨F3, d, A3, hd3, iv3⟩ := ok.yld H2 S2 F2 Z' s2 R2 i x H3 hlt hy
    rw [drop_at hd3] at q2
    obtain ⟨ρ3, hb3, q3⟩ := q2
    have s3 := s2.trans A3.sm
    have hD3 : H3 Dd = some (SetSO Pr w Dd (DLS.insAll [] acc)) := A3.kp Dd _ (.inr rfl) hd2
    refine tgV_ok A3.rel ((E1.up s2).up A3.sm) iv3 hb3 fun σ3 E3 ⟨is, us, hσ, hg⟩ => ⟨?_, ?_⟩
    · have hin : ∀ j ∈ is, j ∈ vs := by
        rcases hg with rfl | ⟨j, w, rfl, rfl, _⟩
        · exact hv
        · exact hv
      rw [hσ, wipe_setAll is us _ hin, wipe_wipe vs vs fun _ h => h]
    · refine ⟨ρ3, S2, F3, Z', _, _, A3.rel, E3, q3, fun b H4 ⟨S4, F4, A4, q4⟩ => ?_, fun _ _ _ ⟨_, _, _, _, _, _, _, _, z⟩ => z.elim⟩
      have s4 := s3.trans A4.sm
      have hD4 : H4 Dd = some (SetSO Pr w Dd (DLS.insAll [] acc)) := A4.kp Dd _ (.inr rfl) hD3
      have kz : Keep Z H1 H4 := fun b o z e => A4.kp b o (.inl z) (A3.kp b o (.inl z) (k2 b o z e))
      cases b with
      | false => exact iteF ⟨hlt, S4, F4, acc, s4, A4.rel, kz, hD4, Nat.le_succ_of_le hl2, iteF' q4⟩
      | true =>
        refine iteT ⟨ρ3, S4, F4, Z', _, _, A4.rel, E3.up A4.sm, iteT' q4, fun y H5 ⟨dy, S5, F5, A5, iv5, c, ey, q5⟩ => ?_, fun _ _ _ ⟨_, _, _, _, _, _, _, _, z⟩ => z.elim⟩
        have hD5 : H5 Dd = some (SetSO Pr w Dd (DLS.insAll [] acc)) := A5.kp Dd _ (.inr rfl) hD4
        subst ey
        cases iv5
        have cnt := DLS.insAll_length (r := acc) (ks := ([] : List Str))
        rw [List.length_nil] at cnt
        refine ⟨c, DLS.insAll [] acc, rfl, hD5, by omega, hlt, S5, F5, acc ++ [c], s4.trans A5.sm, wr _ A5.rel, fun b o z e => ?_, by rw [DLS.insAll_snoc]; exact upd_same, ?_, q5⟩
        · have hb : b ≠ Dd := fun q => zD (q ▸ z)
          rw [upd_ne hb]
          exact A5.kp b o (.inl z) (kz b o z e)
        · rw [List.length_append, List.length_singleton]; omega
  · have e : i = items.length := by omega
    subst e
    rw [List.drop_length] at q2
    obtain ⟨r2, hs2, hf2⟩ := down R2
    refine .inl ⟨ok.stop H2 S2 F2 Z' s2 R2, k H2 F2 S2 Dd acc (A1.trans ⟨s2, r2, k2⟩) hd2 q2⟩
end
section
variable {X : Cx} {W : WX} {elt tg iter : Expr} {ifs : List Expr} {scope : Scope} {own : List (Str × Nat)} {p pos spos : Pos} {ti : DTI} {g : Tgt} {tt : DTT} {te : DTE}
theorem de_sortSc (hc : X.calm = true) (hN : X.N.Nodup) (hm : X.mg "sorted" = none) (hi : DI X W tg iter ti) (ok : BlkOk X.N X.env.scope scope own) (hg : Blk X scope fun Y => DG Y tg g) (ht : Blk X scope fun Y => DTs Y ifs tt) (he : Blk X scope fun Y => DE Y W0 elt te)
    (hv : ∀ i ∈ g.slots, i ∈ own.map (·.2) := by decide) (hs : ∀ x, foldedSetIterable iter X.env x = pure x := by intro _; rfl) (hgl : Gl X "sorted" := by rfl)
    (na : starEach [.SetComp elt [⟨tg, iter, ifs, 0⟩] scope pos] X.env = (false, eval (.SetComp elt [⟨tg, iter, ifs, 0⟩] scope pos) X.env) :: starEach [] X.env := by rfl) :
    DE X W (.Call (.Name "sorted" p) [.SetComp elt [⟨tg, iter, ifs, 0⟩] scope pos] [] spos) (dSortSc ti g tt te (own.map (·.2))) :=
  de_pe (pe_sortSc hc hm (pe_scS hc hN hi.pi ok (fun s H C cl fp => (hg s H C cl fp).pg) (fun s H C cl fp => (ht s H C cl fp).pt) (fun s H C cl fp => (he s H C cl fp).pe) hs) hgl na) fun σ H P ⟨ρ, S, F, Z, Q, E, R, V, q, k, x⟩ =>
    sc_lift hv R V q (fun H1 F1 S1 Dd ns A1 hd ⟨few, q1⟩ => ⟨Dd, DLS.insAll [] ns, rfl, hd, by rw [← (DLS.sortS_perm _).length_eq]; exact few, fun c hcn => by
      obtain ⟨R2, s2, k2⟩ := A1.rel.laid (o := .lst ((DLS.uniqS ns).map L2.V.str)) hcn
      exact k _ _ ⟨_, S1, _, A1.trans ⟨s2, R2, k2⟩, .lst upd_same (isVs_strs _), q1⟩⟩) x
end
end DL

set_option maxRecDepth 100000
set_option maxHeartbeats 2000000
/-! DTS12: name *= e, ints. -/
namespace DL
open PySem PySem.Spec L2
section
variable {X : Cx} {W : WX} {e : Expr} {te : DTE} {pos : Pos}
def ipMul : TIp := fun x y H Q => ∃ i j : Int, x = .int i ∧ y = .int j ∧ IntMulOk i j ∧ Q (.int (i * j)) H
theorem ip_mul : PIp X .Mult ipMul := by
  rintro pins s σ H x y v u Q I rx ry ⟨i, j, rfl, rfl, ok, q⟩
  obtain ⟨t, rfl⟩ := rx
  obtain ⟨t2, rfl⟩ := ry
  exact PyProof.Rows.imul_int ⟨.int _, H, I.tok _, ⟨_, rfl⟩, q⟩ ok
def dMulS (i : Nat) (te : DTE) : DTS := fun N ρ S => ∃ a : Int, ρ[i]? = some (some (.int a)) ∧ te ρ S (fun d S1 => ∃ b : Int, d = .int b ∧ IntMulOk a b ∧ N.nx (ρ.set i (some (.int (a * b)))) S1) (N.ex ρ)
theorem ds_mulS {x : Str} {p : Pos} (i : Nat) (hN : X.N.Nodup) (he : DE X W e te) (hi : X.N[i]? = some x := by rfl) (hx : Loc X.env.scope x := by first | exact Or.inl rfl | exact Or.inr rfl)
    (hf : X.fn x = true ∨ X.env.scope.names.lookup x = some .local := by first | exact .inl rfl | exact .inr rfl | assumption) : DS X W (.AugAssign (.Name x p) .Mult e pos) (dMulS i te) :=
  ds_ps (ps_aug hN hi hx he.pe ip_mul hf) fun N σ H ⟨ρ, S, F, Z, Q, R, V, ⟨a, ha, q⟩, l⟩ => by
    obtain ⟨v, e1, iv⟩ := V.2 i _ ha
    cases iv
    exact ⟨_, e1, ρ, S, F, Z, _, _, R, V, q, fun y H1 ⟨d, S1, F1, A1, i1, b, hb, ok, q1⟩ => by
      subst hb
      cases i1
      exact ⟨a, b, rfl, rfl, ok, l.nx _ _ ⟨_, S1, F1, A1, (V.up A1.sm).set (.int (a * b)) i, q1⟩⟩, l.xe V⟩
end
end DL

set_option maxRecDepth 100000
set_option maxHeartbeats 2000000
/-! DTS13: a op b and ~a by own methods of a class (they may raise); len(set(texts)); text.split(text); a slice of a text. -/
namespace DL
open PySem PySem.Spec L2
/-- the own method of an operator, by its name -/
structure OwnOp (K : PySem.W.Frag) (C f : Addr) (name : Str) : Prop where
  at_ : PySem.W.findIn K (.ref C) name = some (some (.ref f))
  fn : PySem.W.isFn K (.ref f) = true
section
variable {X : Cx} {W : WX} {k : Nat} {C f : Addr} {fd : FuncData} {ps : List Str} {dsp : DSp} {a b : Expr} {pos : Pos} {ta tb : TE} {da db : DTE}
theorem back_of {pins : List (Addr × Obj)} {σ : L2.St} {Q : VK} {v : Value} {s : Shared} (h : EP X pins σ Q v s) : PySem.W.CmpBack (EP X pins σ Q) v s := by
  have h2 := h
  obtain ⟨z, H', I', rz, q'⟩ := h2
  cases v with
  | notImplemented =>
    cases z with
    | non => cases rz
    | bl => cases rz
    | int => obtain ⟨_, e⟩ := rz; cases e
    | str => obtain ⟨_, e⟩ := rz; cases e
    | byt => obtain ⟨_, e⟩ := rz; cases e
    | flt => obtain ⟨_, e⟩ := rz; cases e
    | ref => cases rz
    | ty => cases rz
  | _ => exact h
/-- a def is called with what is known to stand there -/
theorem run_fnE {sp : Sp} {pins : List (Addr × Obj)} {σ : L2.St} {H : Hp} {s : Shared} {Q : VK} {us : List Value} {vs : List V} (F : FnG X.prog X.w X.K X.mg X.base k f fd ps sp) (hr : Room k X.A) (hgd : X.A.guards = some []) (hb : Binds X.K fd ps []) (tk : Takes X W)
    (I : Inv X pins σ H s) (r : Vals vs us) (h : sp vs H Q (WE W σ)) : wpAny (model X.prog X.w) X.A (call (.ref f) us) (EP X pins σ Q) X.xe s := by
  have hl : (us ++ ([] : List Value)).length = ps.length := by
    rw [List.append_nil]
    exact r.length.symm.trans (F.len _ _ _ _ h)
  have bt := hb s us I.kIn hl
  rw [List.append_nil] at bt
  exact wpAny_call (run_fnC F hr hgd tk I bt r h)
def tBinO (C : Addr) (sp : Sp) (E : L2.St → XK) (ta tb : TE) : TE := fun σ H Q => ta σ H fun x H1 => tb σ H1 fun y H2 => ∃ a b dx dy fs gs, x = .ref a ∧ y = .ref b ∧ H2 a = some (.ins C dx fs) ∧ H2 b = some (.ins C dy gs) ∧ sp [.ref a, .ref b] H2 Q (E σ)
theorem pe_binO {sp : Sp} {op : Operator} (hc : PySem.W.selfFirst X.K C = true) (O : OwnOp X.K C f (PySem.dunder op.info.2)) (F : FnG X.prog X.w X.K X.mg X.base k f fd ps sp) (hr : Room k X.A) (hgd : X.A.guards = some []) (hbd : Binds X.K fd ps []) (tk : Takes X W) (ha : PE X a ta) (hb : PE X b tb) :
    PE X (.BinOp a op b pos) (tBinO C sp (WE W) ta tb) := by
  refine ⟨fun pins s σ H Q I h => ?_⟩
  refine wpAny_BinOp (binT ha hb I h fun v u s2 x y H2 I2 rx ry q => ?_)
  obtain ⟨a, b, dx, dy, fs, gs, rfl, rfl, hx, hy, q⟩ := q
  cases rx
  cases ry
  obtain ⟨ox, od, J, _⟩ := ob_at I2 hx
  obtain ⟨oy, oe, J2, _⟩ := ob_at I2 hy
  obtain ⟨m, hF⟩ := I2.fr
  exact PySem.W.binop_K hF I2.ok.mod.kin J J2.type hc O.at_ O.fn (wpAny_mono (run_fnE F hr hgd hbd tk I2 (vs := [.ref a, .ref b]) (.cons rfl (.cons rfl .nil)) q) (fun w s' h => back_of h) fun _ _ e => e)
def dBinO (C : Addr) (dsp : DSp) (da db : DTE) : DTE := fun ρ S Q E => da ρ S (fun x S1 => db ρ S1 (fun y S2 => (objD C S2 x).isSome = true ∧ (objD C S2 y).isSome = true ∧ dsp [x, y] S2 Q E) E) E
theorem de_binO {op : Operator} (hc : PySem.W.selfFirst X.K C = true) (O : OwnOp X.K C f (PySem.dunder op.info.2)) (F : FnD X.prog X.w X.K X.mg X.base k f fd ps dsp) (hr : Room k X.A) (hgd : X.A.guards = some []) (hbd : Binds X.K fd ps []) (tk : Takes X W) (ha : DE X W a da) (hb : DE X W b db) :
    DE X W (.BinOp a op b pos) (dBinO C dsp da db) :=
  de_pe (pe_binO hc O F hr hgd hbd tk ha.pe hb.pe) fun σ H P ⟨ρ, S, F, Z, Q, E, R, V, q, k, x⟩ => ⟨ρ, S, F, Z, _, E, R, V, q, fun v H1 ⟨d, S1, F1, A1, i1, q1⟩ => ⟨ρ, S1, F1, Z, _, E, A1.rel, V.up A1.sm, q1, fun w H2 ⟨e, S2, F2, A2, i2, o1, o2, q2⟩ => by
    obtain ⟨a, dx, fs, rfl, hx⟩ := ins_at A2.rel (i1.up A2.sm) o1
    obtain ⟨b, dy, gs, rfl, hy⟩ := ins_at A2.rel i2 o2
    exact ⟨a, b, dx, dy, fs, gs, rfl, rfl, hx, hy, [d, e], S2, F2, Z, Q, E, A2.rel, .cons (i1.up A2.sm) (.cons i2 .nil), q2, fun v H' h => k v H' (lftE_tr (A1.trans A2) h), fun cls d H' h => x cls d H' (lftX_tr (A1.trans A2) h)⟩, xe_tr x A1⟩, x⟩
/-! ~a -/
theorem inv_K {A : Around} {E : Value → Shared → Prop} {s : Shared} {p : Addr} {ox : Obj} {od : Option Obj} {P : Program} {w : World} {K : PySem.W.Frag} {Q : Value → Shared → Prop} (X : K.In s.heap) (I : PySem.W.InstAt s.heap p ox C od) (O : OwnOp K C f "__invert__")
    (h : wpAny (model P w) A (call (.ref f) [.ref p]) Q E s) : wpAny (model P w) A (unaryOp .Invert (.ref p)) Q E s := by
  unfold unaryOp
  refine wpAny_holding ?_
  dsimp only
  rw [if_neg (show ¬ ((UnaryOp.Invert == UnaryOp.Not) = true) from by decide)]
  refine wpAny_bind (m := callSpecial? (.ref p) (Str.ofString "__invert__") []) (PySem.W.special_fn X I O.at_ (beq_iff_eq.mp O.fn) (wpAny_mono h (fun v s' q => wpAny_pure q) fun _ _ e => e))
def tUnO (C : Addr) (sp : Sp) (E : L2.St → XK) (ta : TE) : TE := fun σ H Q => ta σ H fun x H1 => ∃ a dx fs, x = .ref a ∧ H1 a = some (.ins C dx fs) ∧ sp [.ref a] H1 Q (E σ)
theorem pe_invO {sp : Sp} (O : OwnOp X.K C f "__invert__") (F : FnG X.prog X.w X.K X.mg X.base k f fd ps sp) (hr : Room k X.A) (hgd : X.A.guards = some []) (hbd : Binds X.K fd ps []) (tk : Takes X W) (ha : PE X a ta) :
    PE X (.UnaryOp .Invert a pos) (tUnO C sp (WE W) ta) := by
  refine ⟨fun pins s σ H Q I h => ?_⟩
  refine PyProof.Rows.UnaryOp_ (thn (ha.run pins s σ H _ I h) fun v s1 ⟨x, H1, I1, r1, a, dx, fs, ex, hx, q⟩ => ?_)
  subst ex
  cases r1
  obtain ⟨ox, od, J, _⟩ := ob_at I1 hx
  exact inv_K I1.kIn J O (run_fnE F hr hgd hbd tk I1 (vs := [.ref a]) (.cons rfl .nil) q)
def dUnO (C : Addr) (dsp : DSp) (da : DTE) : DTE := fun ρ S Q E => da ρ S (fun x S1 => (objD C S1 x).isSome = true ∧ dsp [x] S1 Q E) E
theorem de_invO (O : OwnOp X.K C f "__invert__") (F : FnD X.prog X.w X.K X.mg X.base k f fd ps dsp) (hr : Room k X.A) (hgd : X.A.guards = some []) (hbd : Binds X.K fd ps []) (tk : Takes X W) (ha : DE X W a da) : DE X W (.UnaryOp .Invert a pos) (dUnO C dsp da) :=
  de_pe (pe_invO O F hr hgd hbd tk ha.pe) fun σ H P ⟨ρ, S, F, Z, Q, E, R, V, q, k, x⟩ => ⟨ρ, S, F, Z, _, E, R, V, q, fun v H1 ⟨d, S1, F1, A1, i1, o1, q1⟩ => by
    obtain ⟨a, dx, fs, rfl, hx⟩ := ins_at A1.rel i1 o1
    exact ⟨a, dx, fs, rfl, hx, [d], S1, F1, Z, Q, E, A1.rel, .cons i1 .nil, q1, fun v H' h => k v H' (lftE_tr A1 h), fun cls d H' h => x cls d H' (lftX_tr A1 h)⟩, x⟩
end
/-! ### len(set(x)) of texts -/
section
variable {X : Cx} {W : WX} {e : Expr} {ta : TE} {te : DTE} {p p2 q pos : Pos}
def tLenSetT (K : PySem.W.Frag) (ta : TE) : TE := fun σ H Q => ta σ H fun x H1 => ∃ (l : Addr) (ns : List Str), x = V.ref l ∧ (SqT K H1 l (ns.map V.str) ∨ SqL K H1 l (ns.map V.str)) ∧ ns.length < 1000 ∧ Q (.int (DLS.insAll [] ns).length) H1
theorem pe_lenSetT (hc : X.calm = true) (hm : X.mg "len" = none) (hm2 : X.mg "set" = none) (ha : PE X e ta) (hg : Gl X "len" := by rfl) (hg2 : Gl X "set" := by rfl)
    (na : starEach [e] X.env = (false, eval e X.env) :: starEach [] X.env := by rfl) (nb : starEach [.Call (.Name "set" p2) [e] [] q] X.env = (false, eval (.Call (.Name "set" p2) [e] [] q) X.env) :: starEach [] X.env := by rfl) :
    PE X (.Call (.Name "len" p) [.Call (.Name "set" p2) [e] [] q] [] pos) (tLenSetT X.K ta) := by
  refine ⟨fun pins s σ H Q I h => ?_⟩
  refine PyProof.Rows.Call_ (ld_blt I hg hm PySem.boot_len ?_)
  refine PyProof.Rows.callWith_builtin1 (PyProof.Rows.args_cons ?_ nb) nb rfl
  refine PyProof.Rows.Call_ (ld_blt I hg2 hm2 PyProof.Rows.boot_set ?_)
  refine PyProof.Rows.callWith_type1 (PyProof.Rows.args_cons (thn (ha.run pins s σ H _ I h) fun v s1 ⟨x, H1, I1, r1, l, ns, ex, sq, few, k⟩ => PyProof.Rows.args_nil ?_) na) na rfl
  subst ex
  cases r1
  have calm := I1.ok.hd hc
  have fits : ns.length + 1 < scanBound := by unfold scanBound; omega
  have few2 : (DLS.insAll [] ns).length < 1000 := Nat.lt_of_le_of_lt (by simpa using DLS.insAll_length (r := ns) (ks := ([] : List Str))) few
  have go : ∀ (h' : Heap) (tk : Nat), DLS.SetV (PySem.strKind X.prog X.w) PyProof.Rows.strOf h' s1.heap.objs.size (DLS.insAll [] ns) → (∀ b o, s1.heap.get? b = some o → h'.get? b = some o) →
      wpAny (model X.prog X.w) X.A (call (.builtin "len") [.ref s1.heap.objs.size]) (EP X pins σ Q) X.xe { s1 with heap := h', toks := tk } := fun h' tk R old => by
    obtain ⟨ob, es, ep, tb, at_, ex, hd, _, pm, _, _, hf, _⟩ := R
    have I2 : Inv X pins σ H1 { s1 with heap := h', toks := tk } := I1.kept old
    have hz : es.size = (DLS.insAll [] ns).length := by
      have z := pm.length_eq
      rw [List.length_map] at z
      exact z
    refine call_len_set at_ ex hd hf (by rw [hz]; omega) ⟨.int _, H1, I2.tok _, ⟨_, by rw [hz]⟩, k⟩
  rcases sq with sq | sq
  · obtain ⟨its, r, pt, hz⟩ := I1.tuple sq
    obtain ⟨sz, val⟩ := strs_at r.strs
    exact DLS.set_of_tuple DLS.dec_str calm (show s1.heap.IsTuple l its.toArray from pt) sz val fits fun h' tk R old => PyProof.Rows.args_nil (go h' tk R old)
  · obtain ⟨its, r, pl, hz⟩ := I1.list sq
    obtain ⟨sz, val⟩ := strs_at r.strs
    exact DLS.set_of_list DLS.dec_str calm pl.isList sz val fits fun h' tk R old => PyProof.Rows.args_nil (go h' tk R old)
def dLenSet (te : DTE) : DTE := fun ρ S Q E => te ρ S (fun d S1 => ∃ ns : List Str, itemsD S1 d = some (ns.map .str) ∧ ns.length < 1000 ∧ Q (.int (DLS.uniqS ns).length) S1) E
theorem de_lenSet (hc : X.calm = true) (hm : X.mg "len" = none) (hm2 : X.mg "set" = none) (he : DE X W e te) (hg : Gl X "len" := by rfl) (hg2 : Gl X "set" := by rfl)
    (na : starEach [e] X.env = (false, eval e X.env) :: starEach [] X.env := by rfl) (nb : starEach [.Call (.Name "set" p2) [e] [] q] X.env = (false, eval (.Call (.Name "set" p2) [e] [] q) X.env) :: starEach [] X.env := by rfl) :
    DE X W (.Call (.Name "len" p) [.Call (.Name "set" p2) [e] [] q] [] pos) (dLenSet te) :=
  de_pe (pe_lenSetT hc hm hm2 he.pe hg hg2 na nb) fun σ H P ⟨ρ, S, F, Z, Q, E, R, V, q, k, x⟩ => ⟨ρ, S, F, Z, _, E, R, V, q, fun v H1 ⟨d, S1, F1, A1, i1, ns, hd, few, q1⟩ => by
    obtain ⟨l, vs, rfl, sq, iv⟩ := items_of A1.rel i1 hd
    rw [isVs_strs_inv iv] at sq
    have e : (DLS.insAll [] ns).length = (DLS.uniqS ns).length := (DLS.sortS_perm _).length_eq.symm
    exact ⟨l, ns, rfl, sq.symm, few, k _ _ ⟨_, S1, F1, A1, .int _, by rw [e]; exact q1⟩⟩, x⟩
/-! ### a.split(b) -/
def dSplitM (to te : DTE) : DTE := fun ρ S Q E => to ρ S (fun x S1 => ∃ a, x = .str a ∧ te ρ S1 (fun y S2 => ∃ b, y = .str b ∧ (b.length == 0) = false ∧ a.length + 2 ≤ sizeLine ∧ ∀ p, S2 p = none → Q (.ref p) (put S2 p (.lst ((Txt.split a b).map .str)))) E) E
theorem de_splitM {o : Expr} {to : DTE} {apos : Pos} (ho : DE X W o to) (he : DE X W e te) (hs : starEach [e] X.env = [(false, eval e X.env)] := by rfl) (hbase : attributeBase o "split" X.env (eval o X.env) = eval o X.env := by rfl) (hline : (apos.endLine == pos.line) = true := by rfl) :
    DE X W (.Call (.Attribute o "split" apos) [e] [] pos) (dSplitM to te) :=
  de_pe (pe_split ho.pe he.pe hs hbase hline) fun σ H P ⟨ρ, S, F, Z, Q, E, R, V, q, k, x⟩ => ⟨ρ, S, F, Z, _, E, R, V, q, fun v H1 ⟨d, S1, F1, A1, i1, a, ea, q1⟩ => by
    subst ea
    cases i1
    refine ⟨⟨a, rfl⟩, ρ, S1, F1, Z, _, E, A1.rel, V.up A1.sm, q1, fun w H2 ⟨d2, S2, F2, A2, i2, b, eb, b0, az, q2⟩ => ?_, xe_tr x A1⟩
    subst eb
    cases i2
    refine ⟨a, b, rfl, rfl, b0, az, fun p hp => ?_⟩
    obtain ⟨R3, k3, hS⟩ := A2.rel.made (o := .lst ((Txt.split a b).map L2.V.str)) (m := .lst ((Txt.split a b).map .str)) hp ⟨_, rfl, isVs_strs _⟩
    exact k _ _ ⟨.ref p, _, F2, (A1.trans A2).trans ⟨Same.refl _, R3, k3⟩, .ref p, q2 p hS⟩, x⟩
/-! ### a slice of a text -/
def rdSlS : D → Option Int → Option Int → Store → DQ → Prop := fun x lo hi S Q => ∃ z, x = .str z ∧ z.length ≤ sizeLine ∧ Q (.str (cutS z lo hi)) S
def dSlS (te : DTE) (tl th : DTO) : DTE := fun ρ S Q E => te ρ S (fun x S1 => tl ρ S1 (fun l S2 => th ρ S2 (fun u S3 => rdSlS x l u S3 Q) E) E) E
theorem de_sliceS {lo hi : Option Expr} {tl th : DTO} (he : DE X W e te) (hl : DO X W lo tl) (hu : DO X W hi th) : DE X W (.Subscript e (.Slice lo hi none p2) pos) (dSlS te tl th) :=
  de_pe (pe_slice sl_str he.pe hl.po hu.po) fun σ H P ⟨ρ, S, F, Z, Q, E, R, V, q, k, x⟩ => ⟨ρ, S, F, Z, _, E, R, V, q, fun v H1 ⟨d, S1, F1, A1, i1, q1⟩ =>
    ⟨ρ, S1, F1, Z, _, E, A1.rel, V.up A1.sm, q1, fun l H2 ⟨S2, F2, A2, q2⟩ => ⟨ρ, S2, F2, Z, _, E, A2.rel, (V.up A1.sm).up A2.sm, q2, fun u H3 ⟨S3, F3, A3, z, ez, hz, q3⟩ => by
      subst ez
      cases i1
      exact ⟨z, rfl, hz, k _ _ ⟨_, S3, F3, A1.trans (A2.trans A3), .str _, q3⟩⟩, xe_tr x (A1.trans A2)⟩, xe_tr x A1⟩, x⟩
end
/-! ### steps -/
section
variable {ρ : Sl} {S : Store} {Q : DQ} {E : DX} {da db te to : DTE} {dsp : DSp} {C : Addr}
theorem s_binO (h : da ρ S (fun x S1 => db ρ S1 (fun y S2 => (objD C S2 x).isSome = true ∧ (objD C S2 y).isSome = true ∧ dsp [x, y] S2 Q E) E) E) : dBinO C dsp da db ρ S Q E := h
theorem s_unO (h : da ρ S (fun x S1 => (objD C S1 x).isSome = true ∧ dsp [x] S1 Q E) E) : dUnO C dsp da ρ S Q E := h
theorem s_lenSet (h : te ρ S (fun d S1 => ∃ ns : List Str, itemsD S1 d = some (ns.map .str) ∧ ns.length < 1000 ∧ Q (.int (DLS.uniqS ns).length) S1) E) : dLenSet te ρ S Q E := h
theorem s_splitM (h : to ρ S (fun x S1 => ∃ a, x = .str a ∧ te ρ S1 (fun y S2 => ∃ b, y = .str b ∧ (b.length == 0) = false ∧ a.length + 2 ≤ sizeLine ∧ ∀ p, S2 p = none → Q (.ref p) (put S2 p (.lst ((Txt.split a b).map .str)))) E) E) : dSplitM to te ρ S Q E := h
theorem s_slS {tl th : DTO} (h : te ρ S (fun x S1 => tl ρ S1 (fun l S2 => th ρ S2 (fun u S3 => rdSlS x l u S3 Q) E) E) E) : dSlS te tl th ρ S Q E := h
theorem s_mulS {N : DEnds} {i : Nat} {a : Int} (e : ρ[i]? = some (some (.int a))) (h : te ρ S (fun d S1 => ∃ b : Int, d = .int b ∧ IntMulOk a b ∧ N.nx (ρ.set i (some (.int (a * b)))) S1) (N.ex ρ)) : dMulS i te N ρ S := ⟨a, e, h⟩
theorem s_meth {m : Str} {dds : List D} {t : DTA} (h : da ρ S (fun d S1 => IsObj C m d S1 ∧ t ρ S1 (fun xs S2 => dsp (d :: (xs ++ dds)) S2 Q E) E) E) : dMeth C m dsp dds da t ρ S Q E := h
theorem s_sortSetT (h : te ρ S (fun d S1 => ∃ (ds : List D) (ns : List (List Str)), itemsK S1 d = some ds ∧ RowsAre ds ns ∧ FewL ns ∧ (∀ k ∈ ns, k ≠ []) ∧ ∀ es, RowsAre es (DTS.uniqT ns) → (∀ x ∈ es, x ∈ ds) → Q (.lst es) S1) E) : dSortSetT te ρ S Q E := h
theorem s_sortSc {ti : DTI} {tg : Tgt} {tt : DTT} {vs : List Nat} (h : ti ρ S (fun items S1 => items.length + 1 < scanBound ∧ dScGo tg tt te (wipeD ρ vs) items [] S1 (fun ns S1 => (DLS.uniqS ns).length < 64 ∧ Q (.lst ((DLS.uniqS ns).map .str)) S1)) E) : dSortSc ti tg tt te vs ρ S Q E := h
end
/-- the loop of a set comprehension without tests, elements computed -/
theorem scgo_map {tg : Tgt} {te : DTE} {ρ : Sl} {α : Type} (f : α → D) (g : α → Str) {S : Store} {Q : List Str → Store → Prop} : ∀ (xs : List α) (acc : List Str), (∀ x ∈ xs, ∃ ρ1, bindT tg (f x) ρ = some ρ1 ∧ ∀ R : DQ, R (.str (g x)) S → te ρ1 S R (fun _ _ _ _ => False)) → Q (acc ++ xs.map g) S → dScGo tg dYes te ρ (xs.map f) acc S Q
  | [], acc, _, q => by
    rw [List.map_nil, List.append_nil] at q
    exact q
  | x :: xs, acc, h, q => by
    obtain ⟨ρ1, e1, h1⟩ := h x List.mem_cons_self
    refine ⟨ρ1, e1, ?_⟩
    refine s_yes ?_
    with_reducible refine s_iteT ?_
    refine h1 _ ⟨g x, rfl, scgo_map f g xs (acc ++ [g x]) (fun y hy => h y (List.mem_cons_of_mem _ hy)) ?_⟩
    rw [List.append_assoc]
    exact q
end DL

set_option maxRecDepth 100000
set_option maxHeartbeats 2000000
/-! DLM: the deck of a law whose keys are cells, mixed, draws (written by wip/lib/mkdlm.py from DLD, DLW, DLU). -/
namespace DLM
open PySem PySem.Spec L2 DL
/-! ### the deck of a law: a dict with the keys cells, mixed, draws -/
abbrev deckKs : List Key := [.inr "cells", .inr "mixed", .inr "draws"]
section
variable {x y z d : D}
theorem deck_cells : valD [((Sum.inr "cells" : Key), x), (Sum.inr "mixed", y), (Sum.inr "draws", z)] (Sum.inr "cells") = some x := by with_unfolding_all rfl
theorem deck_mixed : valD [((Sum.inr "cells" : Key), x), (Sum.inr "mixed", y), (Sum.inr "draws", z)] (Sum.inr "mixed") = some y := by with_unfolding_all rfl
theorem deck_draws : valD [((Sum.inr "cells" : Key), x), (Sum.inr "mixed", y), (Sum.inr "draws", z)] (Sum.inr "draws") = some z := by with_unfolding_all rfl
theorem deck_put : putD [((Sum.inr "cells" : Key), x), (Sum.inr "mixed", y), (Sum.inr "draws", z)] (Sum.inr "draws") d = [((Sum.inr "cells" : Key), x), (Sum.inr "mixed", y), (Sum.inr "draws", d)] := by with_unfolding_all rfl
theorem deck_merge : mergeD [] [((Sum.inr "cells" : Key), x), (Sum.inr "mixed", y), (Sum.inr "draws", z)] = [((Sum.inr "cells" : Key), x), (Sum.inr "mixed", y), (Sum.inr "draws", z)] := by with_unfolding_all rfl
/-- asked and written by the store -/
theorem dget_cells {S : Store} {a : Addr} (h : S a = some (.dK deckKs [x, y, z])) : dget S (.ref a) (.str "cells") = some x := by
  show (dkM (S a)).bind _ = _
  rw [h]
  exact deck_cells
theorem dget_mixed {S : Store} {a : Addr} (h : S a = some (.dK deckKs [x, y, z])) : dget S (.ref a) (.str "mixed") = some y := by
  show (dkM (S a)).bind _ = _
  rw [h]
  exact deck_mixed
theorem dget_draws {S : Store} {a : Addr} (h : S a = some (.dK deckKs [x, y, z])) : dget S (.ref a) (.str "draws") = some z := by
  show (dkM (S a)).bind _ = _
  rw [h]
  exact deck_draws
theorem dput_draws {S : Store} {a : Addr} (h : S a = some (.dK deckKs [x, y, z])) : dput S (.ref a) (.str "draws") d = some (put S a (.dK deckKs [x, y, d])) := by
  unfold dput
  simp only [h, toKey, Option.bind_some]
  have e : deckKs.length < sizeLine := by rw [sizeLine_eq]; decide
  rw [if_pos e]
  have e2 : deckKs.zip [x, y, z] = [((Sum.inr "cells" : Key), x), (Sum.inr "mixed", y), (Sum.inr "draws", z)] := rfl
  rw [e2, deck_put]
  rfl
end
/-- the deck at a, its list at L: k draws may still come -/
structure Deck (S : Store) (a L : Addr) (k : Nat) : Prop where
  ex : ∃ (ns : List Int) (t d : Int), S a = some (.dK deckKs [.ref L, .int t, .int d]) ∧ S L = some (.lst (ns.map .int)) ∧ ns.length ≤ 63 ∧ 0 ≤ t ∧ t < 2147483648 ∧ 0 ≤ d ∧ d + k ≤ 2 ^ 40
  ne : L ≠ a
theorem Deck.mono {S : Store} {a L : Addr} {j k : Nat} (D : Deck S a L k) (h : j ≤ k) : Deck S a L j := by
  obtain ⟨⟨ns, t, d, h1, h2, h3, h4, h5, h6, h7⟩, n⟩ := D
  exact ⟨⟨ns, t, d, h1, h2, h3, h4, h5, h6, by omega⟩, n⟩
/-- a place of the store that is no part of the deck -/
theorem Deck.put_off {S : Store} {a L b : Addr} {k : Nat} {m : M} (D : Deck S a L k) (h1 : b ≠ a) (h2 : b ≠ L) : Deck (put S b m) a L k := by
  obtain ⟨⟨ns, t, d, g1, g2, h⟩, n⟩ := D
  exact ⟨⟨ns, t, d, by rw [put_ne (Ne.symm h1)]; exact g1, by rw [put_ne (Ne.symm h2)]; exact g2, h⟩, n⟩
theorem Deck.a_some {S : Store} {a L : Addr} {k : Nat} (D : Deck S a L k) {b : Addr} (h : S b = none) : b ≠ a ∧ b ≠ L := by
  obtain ⟨⟨ns, t, d, g1, g2, _⟩, _⟩ := D
  exact ⟨fun e => (by rw [e, g1] at h; cases h), fun e => (by rw [e, g2] at h; cases h)⟩
/-- a draw -/
def dspDraw : DSp := fun ds S Q _ => ∃ a L k m, ds = [.ref a, .int m] ∧ Deck S a L (k + 1) ∧ 0 < m ∧ m < 1073741824 ∧ ∀ (i : Int) S', 0 ≤ i → i < m → Deck S' a L k → Off2 S S' a L → Q (.int i) S'
/-- one of what is laid out -/
def dspPick : DSp := fun ds S Q _ => ∃ a L k x es, ds = [.ref a, x] ∧ (x = .tup es ∨ x = .lst es) ∧ Deck S a L (k + 1) ∧ 0 < es.length ∧ es.length < 1000000 ∧ ∀ (e : D) S', e ∈ es → Deck S' a L k → Off2 S S' a L → Q e S'
/-- the deck made -/
def dspDeck : DSp := fun ds S Q _ => ∃ ns : List Int, ds = [.scr (ns.map .int)] ∧ ns.length ≤ 63 ∧ (∀ b, S b = none) ∧ ∀ a L S', Deck S' a L 1000000000 → Off2 S S' a L → Q (.ref a) S'
theorem Deck.ext {S S' : Store} {a L : Addr} {k : Nat} (D : Deck S a L k) (h : Ext S S') : Deck S' a L k := by
  obtain ⟨⟨ns, t, d, h1, h2, h3⟩, n⟩ := D
  exact ⟨⟨ns, t, d, h _ _ h1, h _ _ h2, h3⟩, n⟩
end DLM

set_option maxRecDepth 100000
set_option maxHeartbeats 2000000
/-! DTP: plain facts of rows: order, all rows of a width, columns. -/
namespace DL
open PySem PySem.Spec L2 DTS
theorem ltTS_irrefl : ∀ x : List Str, ltTS x x = false
  | [] => rfl
  | x :: xs => by
    unfold ltTS
    rw [if_pos rfl]
    exact ltTS_irrefl xs
theorem ltTS_ne {x y : List Str} (h : ltTS x y = true) : x ≠ y := fun e => by
  rw [e, ltTS_irrefl] at h
  cases h
theorem ltTS_le {x y : List Str} (h : ltTS x y = true) : leTS x y = true := by
  rcases leTS_total.total x y with g | g
  · exact g
  · unfold leTS at g
    rw [h] at g
    cases g
theorem ltTS_of {x y : List Str} (h : leTS x y = true) (n : x ≠ y) : ltTS x y = true := by
  cases e : ltTS x y with
  | true => rfl
  | false => exact absurd (leTS_anti h (by unfold leTS; rw [e]; rfl)) n
theorem ltTS_app : ∀ {x y a b : List Str}, x.length = y.length → ltTS (x ++ a) (y ++ b) = if x = y then ltTS a b else ltTS x y
  | [], [], a, b, _ => by simp
  | [], _ :: _, _, _, h => by cases h
  | _ :: _, [], _, _, h => by cases h
  | x :: xs, y :: ys, a, b, h => by
    have ih := ltTS_app (x := xs) (y := ys) (a := a) (b := b) (by simpa using h)
    show (if x = y then ltTS (xs ++ a) (ys ++ b) else ltS x y) = _
    by_cases e : x = y
    · subst e
      rw [if_pos rfl, ih]
      by_cases g : xs = ys
      · subst g; simp
      · have : ¬ (x :: xs = x :: ys) := fun z => g (by injection z)
        rw [if_neg g, if_neg this]
        show _ = (if x = x then ltTS xs ys else ltS x x)
        rw [if_pos rfl]
    · have : ¬ (x :: xs = y :: ys) := fun z => e (by injection z)
      rw [if_neg e, if_neg this]
      show _ = (if x = y then ltTS xs ys else ltS x y)
      rw [if_neg e]
/-- ascending, each once -/
def Asc (l : List (List Str)) : Prop := l.Pairwise fun a b => ltTS a b = true
theorem Asc.pw {l : List (List Str)} (h : Asc l) : l.Pairwise fun a b => leTS a b = true := h.imp ltTS_le
theorem Asc.nodup {l : List (List Str)} (h : Asc l) : l.Nodup := h.imp ltTS_ne
theorem asc_of {l : List (List Str)} (h : l.Pairwise fun a b => leTS a b = true) (g : l.Nodup) : Asc l := (h.and g).imp fun ⟨a, b⟩ => ltTS_of a b
theorem uniqT_asc (ks : List (List Str)) : Asc (uniqT ks) := asc_of (PySem.W.sort_pairwise leTS_total _) (uniqT_nodup ks)
theorem asc_ext {a b : List (List Str)} (h : Asc a) (g : Asc b) (m : ∀ k, k ∈ a ↔ k ∈ b) : a = b :=
  List.Perm.eq_of_pairwise (fun _ _ _ _ h1 h2 => leTS_anti h1 h2) h.pw g.pw (DLS.perm_of_mem h.nodup g.nodup m)
theorem uniqT_of {xs ys : List (List Str)} (h : Asc ys) (m : ∀ k, k ∈ xs ↔ k ∈ ys) : uniqT xs = ys := asc_ext (uniqT_asc xs) h fun k => uniqT_mem.trans (m k)
theorem uniqT_self {xs : List (List Str)} (h : Asc xs) : uniqT xs = xs := uniqT_of h fun _ => Iff.rfl
theorem Asc.filter {l : List (List Str)} (h : Asc l) (p : List Str → Bool) : Asc (l.filter p) := List.Pairwise.filter p h
theorem asc_nil : Asc [] := .nil
theorem asc_sub {a b : List (List Str)} (h : Asc b) (s : a.Sublist b) : Asc a := List.Pairwise.sublist s h
theorem sort_asc {l : List (List Str)} (h : Asc l) : l.mergeSort leTS = l := sortTS_eq (List.Perm.refl _) h.pw
/-- all rows of a width -/
def rowsS (dom : List Str) : Nat → List (List Str)
  | 0 => [[]]
  | n + 1 => (rowsS dom n).flatMap fun r => dom.map fun v => r ++ [v]
theorem rowsS_len (dom : List Str) : ∀ n, (rowsS dom n).length = dom.length ^ n
  | 0 => rfl
  | n + 1 => by
    show ((rowsS dom n).flatMap _).length = _
    have h : ∀ l : List (List Str), (l.flatMap fun r => dom.map fun v => r ++ [v]).length = l.length * dom.length := fun l => by
      induction l with
      | nil => simp
      | cons x l ih => rw [List.flatMap_cons, List.length_append, ih, List.length_map, List.length_cons, Nat.add_mul, Nat.one_mul, Nat.add_comm]
    rw [h, rowsS_len dom n, Nat.pow_succ]
theorem rowsS_small {dom : List Str} (h : dom.length ≤ 3) {n : Nat} (hn : n ≤ 4) : (rowsS dom n).length ≤ 81 := by
  rw [rowsS_len]
  exact Nat.le_trans (Nat.pow_le_pow_left h n) (Nat.le_trans (Nat.pow_le_pow_right (by omega) hn) (by decide))
theorem rowsS_27 {dom : List Str} (h : dom.length ≤ 3) {n : Nat} (hn : n ≤ 3) : (rowsS dom n).length ≤ 27 := by
  rw [rowsS_len]
  exact Nat.le_trans (Nat.pow_le_pow_left h n) (Nat.le_trans (Nat.pow_le_pow_right (by omega) hn) (by decide))
theorem rowsS_each {dom : List Str} : ∀ {n : Nat} {r : List Str}, r ∈ rowsS dom n → r.length = n ∧ ∀ x ∈ r, x ∈ dom
  | 0, r, h => by
    have e : r = [] := by simpa [rowsS] using h
    subst e
    exact ⟨rfl, fun x hx => (by cases hx)⟩
  | n + 1, r, h => by
    obtain ⟨r0, h0, h⟩ := List.mem_flatMap.mp h
    obtain ⟨v, hv, rfl⟩ := List.mem_map.mp h
    obtain ⟨a, b⟩ := rowsS_each h0
    refine ⟨by rw [List.length_append, a]; rfl, fun x hx => ?_⟩
    rcases List.mem_append.mp hx with hx | hx
    · exact b x hx
    · rw [List.mem_singleton.mp hx]; exact hv
theorem rowsS_has {dom : List Str} : ∀ {n : Nat} {r : List Str}, r.length = n → (∀ x ∈ r, x ∈ dom) → r ∈ rowsS dom n
  | 0, r, h, _ => by
    have e : r = [] := List.eq_nil_of_length_eq_zero h
    subst e
    exact List.mem_singleton.mpr rfl
  | n + 1, r, h, g => by
    have ne : r ≠ [] := fun e => by rw [e] at h; cases h
    have e := List.dropLast_concat_getLast ne
    refine List.mem_flatMap.mpr ⟨r.dropLast, rowsS_has (by rw [List.length_dropLast]; omega) fun x hx => g x (List.dropLast_subset _ hx), List.mem_map.mpr ⟨r.getLast ne, g _ (List.getLast_mem ne), e⟩⟩
theorem rowsS_mem {dom : List Str} {n : Nat} {r : List Str} : r ∈ rowsS dom n ↔ r.length = n ∧ ∀ x ∈ r, x ∈ dom := ⟨rowsS_each, fun h => rowsS_has h.1 h.2⟩
/-- rows followed by rows -/
def timesS (a b : List (List Str)) : List (List Str) := a.flatMap fun r => b.map fun o => r ++ o
theorem timesS_asc {a b : List (List Str)} {n : Nat} (ha : Asc a) (hb : Asc b) (ln : ∀ r ∈ a, r.length = n) : Asc (timesS a b) := by
  unfold Asc timesS
  rw [List.pairwise_flatMap]
  constructor
  · intro r hr
    rw [List.pairwise_map]
    refine hb.imp fun {x y} h => ?_
    rw [ltTS_app rfl, if_pos rfl]
    exact h
  · refine List.Pairwise.imp_of_mem (fun {r r'} hr hr' h x hx y hy => ?_) ha
    obtain ⟨o, _, rfl⟩ := List.mem_map.mp hx
    obtain ⟨o', _, rfl⟩ := List.mem_map.mp hy
    rw [ltTS_app ((ln r hr).trans (ln r' hr').symm), if_neg (ltTS_ne h)]
    exact h
theorem timesS_mem {a b : List (List Str)} {k : List Str} : k ∈ timesS a b ↔ ∃ x ∈ a, ∃ y ∈ b, x ++ y = k := by
  unfold timesS
  rw [List.mem_flatMap]
  constructor
  · rintro ⟨x, hx, h⟩
    obtain ⟨y, hy, e⟩ := List.mem_map.mp h
    exact ⟨x, hx, y, hy, e⟩
  · rintro ⟨x, hx, y, hy, e⟩
    exact ⟨x, hx, List.mem_map.mpr ⟨y, hy, e⟩⟩
theorem rowsS_times (dom : List Str) (n : Nat) : rowsS dom (n + 1) = timesS (rowsS dom n) (dom.map fun v => [v]) := by
  show (rowsS dom n).flatMap _ = (rowsS dom n).flatMap _
  refine congrArg (fun f => (rowsS dom n).flatMap f) (funext fun r => ?_)
  rw [List.map_map]
  rfl
theorem single_asc {dom : List Str} (pw : dom.Pairwise (fun a b => DLS.leS a b = true)) (nd : dom.Nodup) : Asc (dom.map fun v => [v]) := by
  unfold Asc
  rw [List.pairwise_map]
  refine (pw.and nd).imp fun {a b} ⟨h, g⟩ => ?_
  show (if a = b then ltTS [] [] else ltS a b) = true
  rw [if_neg g]
  exact ltS_of h g
theorem rowsS_asc {dom : List Str} (pw : dom.Pairwise (fun a b => DLS.leS a b = true)) (nd : dom.Nodup) : ∀ n, Asc (rowsS dom n)
  | 0 => List.pairwise_singleton _ _
  | n + 1 => by
    rw [rowsS_times]
    exact timesS_asc (rowsS_asc pw nd n) (single_asc pw nd) fun r hr => (rowsS_each hr).1
theorem nodup_len {α : Type} [DecidableEq α] : ∀ {l m : List α}, l.Nodup → (∀ x ∈ l, x ∈ m) → l.length ≤ m.length
  | [], _, _, _ => Nat.zero_le _
  | x :: l, m, h, g => by
    have hx := g x List.mem_cons_self
    have h2 := List.nodup_cons.mp h
    have ih := nodup_len (l := l) (m := m.erase x) h2.2 fun y hy => (List.mem_erase_of_ne fun e => h2.1 (by rw [← e]; exact hy)).mpr (g y (List.mem_cons_of_mem _ hy))
    rw [List.length_erase_of_mem hx] at ih
    have : 0 < m.length := List.length_pos_of_mem hx
    rw [List.length_cons]
    omega
theorem few_rows {dom : List Str} {n : Nat} {ns : List (List Str)} (hd : dom.length ≤ 3) (hn : n ≤ 3) (h : ∀ k ∈ ns, k ∈ rowsS dom n) : FewL ns := fun M nd sub => by
  have a := nodup_len nd fun k hk => h k (sub k hk)
  have b := rowsS_27 hd hn
  omega
/-- what stands in a column, ascending, each once -/
def colS (rows : List (List Str)) (i : Nat) : List Str := DLS.uniqS (rows.map fun r => r.getD i Str.empty)
def prodTo (rows : List (List Str)) : Nat → Int
  | 0 => 1
  | n + 1 => prodTo rows n * ((colS rows n).length : Int)
theorem colS_len (rows : List (List Str)) (i : Nat) : (colS rows i).length ≤ rows.length := by
  have z := DLS.uniqS_length (rows.map fun r => r.getD i Str.empty)
  rw [List.length_map] at z
  exact z
theorem colS_uniq {rows : List (List Str)} {i : Nat} : colS (uniqT rows) i = colS rows i := by
  unfold colS
  refine DLS.uniqS_self (DLS.sortS_pw _) (DLS.uniqS_nodup _) fun k => ?_
  rw [DLS.uniqS_mem, List.mem_map, List.mem_map]
  exact ⟨fun ⟨r, hr, e⟩ => ⟨r, uniqT_mem.mpr hr, e⟩, fun ⟨r, hr, e⟩ => ⟨r, uniqT_mem.mp hr, e⟩⟩
/-- rows as data -/
theorem rowsAre_enc : ∀ ns : List (List Str), RowsAre (ns.map encT) ns
  | [] => .nil
  | k :: ns => .cons (.tup k) (rowsAre_enc ns)
theorem strs_inj : ∀ {a b : List Str}, a.map D.str = b.map D.str → a = b
  | [], [], _ => rfl
  | [], _ :: _, h => by cases h
  | _ :: _, [], h => by cases h
  | x :: a, y :: b, h => by
    injection h with h1 h2
    injection h1 with h1
    rw [h1, strs_inj h2]
theorem enc_of_rows {ns : List (List Str)} : ∀ {es : List D} {ms : List (List Str)}, RowsAre es ms → (∀ x ∈ es, x ∈ ns.map encT) → es = ms.map encT
  | _, _, .nil, _ => rfl
  | _, _, .cons (a := d) (b := k) r t, h => by
    have h1 := h d List.mem_cons_self
    obtain ⟨z, _, e⟩ := List.mem_map.mp h1
    rw [enc_of_rows t fun x hx => h x (List.mem_cons_of_mem _ hx)]
    cases r with
    | tup => rfl
    | kup => cases e
theorem encT_inj {x y : List Str} (h : encT x = encT y) : x = y := by
  unfold encT at h
  injection h with h
  exact strs_inj h
/-- tuples of rows compared -/
theorem toPys_rows : ∀ ns : List (List Str), toPys (ns.map encT) = some (ns.map fun k => .tuple (k.map .str))
  | [] => rfl
  | k :: ns => by
    show (match toPy (encT k), toPys (ns.map encT) with
      | some p, some ps => some (p :: ps)
      | _, _ => none) = _
    rw [toPys_rows ns]
    have : toPy (encT k) = some (.tuple (k.map .str)) := toPy_strs k
    rw [this]
    rfl
theorem eqvAll_rows : ∀ a b : List (List Str), PyData.eqvAll (a.map fun k => .tuple (k.map .str)) (b.map fun k => .tuple (k.map .str)) = decide (a = b)
  | [], [] => rfl
  | [], _ :: _ => rfl
  | _ :: _, [] => rfl
  | x :: a, y :: b => by
    show (PyData.eqv (.tuple (x.map .str)) (.tuple (y.map .str)) && PyData.eqvAll (a.map fun k => .tuple (k.map .str)) (b.map fun k => .tuple (k.map .str))) = _
    rw [eqvAll_rows a b, eqv_tstrs]
    by_cases h : x = y <;> by_cases g : a = b <;> simp [h, g]
theorem canLay_rows : ∀ a : List (List Str), (∀ k ∈ a, ∀ x ∈ k, PyData.strOk x = true) → PyData.canLayAll0 (a.map fun k => .tuple (k.map .str)) = true
  | [], _ => rfl
  | k :: a, h => by
    show (PyData.canLay0 (.tuple (k.map .str)) && PyData.canLayAll0 (a.map fun k => .tuple (k.map .str))) = true
    rw [canLay_rows a fun y hy => h y (List.mem_cons_of_mem _ hy)]
    have : PyData.canLay0 (.tuple (k.map .str)) = true := by simpa [PyData.canLay0] using canLay_strs k (h k List.mem_cons_self)
    rw [this]
    rfl
theorem depth_rows : ∀ a : List (List Str), PyData.depthAll (a.map fun k => .tuple (k.map .str)) ≤ 1
  | [] => by simp [PyData.depthAll]
  | k :: a => by
    have ih := depth_rows a
    have : (PyData.tuple (k.map .str)).depth ≤ 1 := by simp [PyData.depth, depth_strs]
    simp only [List.map_cons, PyData.depthAll]
    omega
theorem shaped_rows {a : List (List Str)} (h : ∀ k ∈ a, ∀ x ∈ k, PyData.strOk x = true) : SeqAt.shaped (.tuple (a.map fun k => .tuple (k.map .str))) = true ∧ SeqAt.shaped (.list (a.map fun k => .tuple (k.map .str))) = true := by
  have c := canLay_rows a h
  have d := depth_rows a
  have e1 : (PyData.tuple (a.map fun k => .tuple (k.map .str))).depth ≤ 64 := by simp only [PyData.depth]; omega
  have e2 : (PyData.list (a.map fun k => .tuple (k.map .str))).depth ≤ 64 := by simp only [PyData.depth]; omega
  have c1 : (PyData.tuple (a.map fun k => .tuple (k.map .str))).canLay0 = true := by simpa [PyData.canLay0] using c
  have c2 : (PyData.list (a.map fun k => .tuple (k.map .str))).canLay0 = true := by simpa [PyData.canLay0] using c
  unfold SeqAt.shaped
  rw [c1, c2, decide_eq_true e1, decide_eq_true e2]
  exact ⟨rfl, rfl⟩
theorem toPy_rows (a : List (List Str)) : toPy (.tup (a.map encT)) = some (.tuple (a.map fun k => .tuple (k.map .str))) := by
  show (toPys (a.map encT)).map PyData.tuple = _
  rw [toPys_rows]
  rfl
theorem toPy_rowsL (a : List (List Str)) : toPy (.lst (a.map encT)) = some (.list (a.map fun k => .tuple (k.map .str))) := by
  show (toPys (a.map encT)).map PyData.list = _
  rw [toPys_rows]
  rfl
section
variable {S : Store} {Q : DQ}
theorem s_eqRows {neg : Bool} {x y : List (List Str)} (hx : ∀ k ∈ x, ∀ z ∈ k, PyData.strOk z = true) (hy : ∀ k ∈ y, ∀ z ∈ k, PyData.strOk z = true) (h : Q (.bl (if neg then !decide (x = y) else decide (x = y))) S) : rdEq neg (.tup (x.map encT)) (.tup (y.map encT)) S Q := by
  refine ⟨_, _, toPy_rows x, toPy_rows y, (shaped_rows hx).1, (shaped_rows hy).1, ?_⟩
  have e : PyData.eqv (.tuple (x.map fun k => .tuple (k.map .str))) (.tuple (y.map fun k => .tuple (k.map .str))) = decide (x = y) := eqvAll_rows x y
  rw [e]
  exact h
theorem any_rows (z : List Str) : ∀ ns : List (List Str), ((ns.map fun k => PyData.tuple (k.map .str)).any fun y => PyData.eqv y (.tuple (z.map .str))) = decide (z ∈ ns)
  | [] => rfl
  | k :: ns => by
    rw [List.map_cons, List.any_cons, any_rows z ns, eqv_tstrs]
    by_cases h : k = z
    · subst h; simp
    · have h2 : ¬ z = k := fun e => h e.symm
      simp [h, h2]
end
section
variable {X : Cx}
def rInDX (K : PySem.W.Frag) (neg : Bool) : R2 := fun x y H Q => ∃ d ds, Dp K H x d ∧ (Dp K H y (.tuple ds) ∨ Dp K H y (.list ds)) ∧ SeqAt.shaped d = true ∧ PyData.canLayAll0 ds = true ∧ Q (.bl (if neg then !(ds.any fun z => PyData.eqv z d) else ds.any fun z => PyData.eqv z d)) H
theorem op_inDX (hu : X.A.units + 65 < cLine) : OpR X (compareOp .In) (rInDX X.K false) := by
  intro pins s σ H x y v u Q I rx ry h
  obtain ⟨d, ds, hd, he, sd, se, q⟩ := h
  obtain ⟨as, r1⟩ := Dp.reads I d x v hd rx
  rcases he with he | he
  · obtain ⟨bs, r2⟩ := Dp.reads I (.tuple ds) y u he ry
    exact SeqAt.in_tuple_reads r2 r1 se (SeqAt.canLay_of_shaped sd) (PyProof.Rows.room_in_shaped sd hu) ⟨.bl _, H, I, rfl, q⟩
  · obtain ⟨bs, r2⟩ := Dp.reads I (.list ds) y u he ry
    exact SeqAt.in_list_reads r2 r1 se (SeqAt.canLay_of_shaped sd) (PyProof.Rows.room_in_shaped sd hu) ⟨.bl _, H, I, rfl, q⟩
theorem op_notInDX (hu : X.A.units + 65 < cLine) : OpR X (compareOp .NotIn) (rInDX X.K true) := by
  intro pins s σ H x y v u Q I rx ry h
  obtain ⟨d, ds, hd, he, sd, se, q⟩ := h
  obtain ⟨as, r1⟩ := Dp.reads I d x v hd rx
  rcases he with he | he
  · obtain ⟨bs, r2⟩ := Dp.reads I (.tuple ds) y u he ry
    exact SeqAt.notIn_tuple_reads r2 r1 se (SeqAt.canLay_of_shaped sd) (PyProof.Rows.room_in_shaped sd hu) ⟨.bl _, H, I, rfl, q⟩
  · obtain ⟨bs, r2⟩ := Dp.reads I (.list ds) y u he ry
    exact SeqAt.notIn_list_reads r2 r1 se (SeqAt.canLay_of_shaped sd) (PyProof.Rows.room_in_shaped sd hu) ⟨.bl _, H, I, rfl, q⟩
/-- x in y by data, y a tuple or a list -/
def rdInDX (neg : Bool) : DR2 := fun x y S Q => ∃ es p ps, (y = .tup es ∨ y = .lst es) ∧ toPy x = some p ∧ toPys es = some ps ∧ SeqAt.shaped p = true ∧ PyData.canLayAll0 ps = true ∧ Q (.bl (if neg then !(ps.any fun z => PyData.eqv z p) else ps.any fun z => PyData.eqv z p)) S
theorem lift_inDX {K : PySem.W.Frag} (neg : Bool) : Lift2 K (rInDX K neg) (rdInDX neg) := by
  intro Z H S F x y v w Q P R iv iw q k
  obtain ⟨es, p, ps, hy, e1, e2, s1, s2, q⟩ := q
  refine ⟨p, ps, R.dp iv e1, ?_, s1, s2, k _ _ ⟨_, S, F, .refl R, .bl _, q⟩⟩
  rcases hy with rfl | rfl
  · exact .inl (R.dp iw (by unfold toPy; rw [e2]; rfl))
  · exact .inr (R.dp iw (by unfold toPy; rw [e2]; rfl))
theorem s_inRows {S : Store} {Q : DQ} {neg : Bool} {z : List Str} {ns : List (List Str)} {y : D} (hy : y = .tup (ns.map encT) ∨ y = .lst (ns.map encT)) (hz : ∀ x ∈ z, PyData.strOk x = true) (hn : ∀ k ∈ ns, ∀ x ∈ k, PyData.strOk x = true)
    (h : Q (.bl (if neg then !decide (z ∈ ns) else decide (z ∈ ns))) S) : rdInDX neg (encT z) y S Q := by
  refine ⟨_, _, _, hy, toPy_strs z, toPys_rows ns, (shaped_strs hz).1, canLay_rows ns hn, ?_⟩
  rw [any_rows]
  exact h
end
end DL

set_option maxRecDepth 100000
set_option maxHeartbeats 2000000
/-! DTS14: defs with defaults (all arguments given by place); own operators out of methods. -/
namespace DL
open PySem PySem.Spec L2
/-- a def that may have defaults -/
structure FunV (K : PySem.W.Frag) (x qual : Str) (st : Stmt) (f : Addr) (fd : FuncData) : Prop where
  ex : ∃ (oc : Value) (od : Option Addr) (dV kV doc pm : Value) (an : Option Addr) (cdv ct : Value) (osl : Array (Option Value)),
    fd = PySem.W.fnOf x qual (defArgs st) (defBody st) (defScope st) dV kV doc pm an cdv ct ∧ K.lookup f = some ⟨oc, od, .func fd, osl⟩ ∧ PySem.W.codeIn K cdv qual = true
  kp : PySem.W.keepIn K (.ref f) = true
section
variable {P : Program} {w : World} {K : PySem.W.Frag} {mg : Str → Option Value} {base : Heap}
theorem fn_ofGV {k : Nat} {f : Addr} {x qual : Str} {st : Stmt} {fd : FuncData} {N ps : List Str} {sp : Sp} (F : FunV K x qual st f fd) (S : FnScope N ps (defScope st)) (len : ∀ vs H Q E, sp vs H Q E → vs.length = ps.length)
    (hbody : ∀ (cdv : Value) (A : Around) (outer : List Env) (s : Shared) (H : Hp) (vs : List V) (Q : VK) (E : XK), Room k (A.deeper (PyProof.Rows.envOfC qual (defScope st) s.heap.objs.size f cdv)) → A.guards = some [] → sp vs H Q E →
      ∃ t, PSs (cxD P w K mg base N qual (defScope st) f cdv A outer s H E) (defBody st) t ∧ t { nx := fun _ H' => Q .non H', rt := Q } (L2.start N vs) H) : FnG P w K mg base (k + 1) f fd ps sp := by
  obtain ⟨oc, od, dV, kV, doc, pm, an, cdv, ct, osl, rfl, lk, hcd⟩ := F.ex
  refine ⟨len, fun A outer s H args us vs Q E hr hgd e0 hb r hsp => ?_⟩
  have KX : K.In s.heap := e0.mod.kin.keeps fun b o e => (e0.bs b o e).1
  have lim : s.heap.NoLimit := e0.mod.nolimit.keeps fun b o e => (e0.bs b o e).1
  refine codeAny_call_function hr.depth (KX _ _ lk) rfl S.co S.gen rfl (PySem.W.codeRec_of KX hcd) (hb _ _ _ _ ?_)
  refine wpAny_newFunctionEnv_cells S.kind (fun ⟨n, v⟩ hy => ?_) fun env he s1 x1 => ?_
  · rcases S.par n (List.of_mem_zip hy).1 with q | q
    · exact .inl q
    · exact .inr ⟨q, PySem.W.cellsFrom_some _ _ _ (.inl q)⟩
  subst he
  refine ⟨lim.keeps x1.toInCall.keep, codeAny_func ?_⟩
  obtain ⟨t, ht, hq⟩ := hbody cdv A outer s H vs Q E (hr.deeper _) hgd hsp
  have I := inv_start (CX := L2.CX P w) (P := P) (w := w) (E := E) S hr.hd e0 (len _ _ _ _ hsp) r x1
  refine wpAny_mono (ht.run [] s1 (L2.start N vs) H _ I hq) (fun fl s' hs => ?_) fun e s' hs => hs
  cases fl with
  | ret u =>
    obtain ⟨v, σ', H', J, rv, q⟩ := hs
    exact ⟨v, H', J.os, J.bare, J.base, J.hok, rv, q⟩
  | next =>
    obtain ⟨σ', H', J, q⟩ := hs
    exact ⟨V.non, H', J.os, J.bare, J.base, J.hok, rfl, q⟩
  | brk =>
    obtain ⟨_, _, _, q⟩ := hs
    exact False.elim q
  | cont =>
    obtain ⟨_, _, _, q⟩ := hs
    exact False.elim q
theorem fn_ofEV {k : Nat} {f : Addr} {x qual : Str} {st : Stmt} {fd : FuncData} {N ps : List Str} {dsp : DSp} (F : FunV K x qual st f fd) (S : FnScope N ps (defScope st)) (len : ∀ ds S Q E, dsp ds S Q E → ds.length = ps.length)
    (hbody : ∀ (cdv : Value) (A : Around) (outer : List Env) (s : Shared) (H : Hp) (E : XK), Room k (A.deeper (PyProof.Rows.envOfC qual (defScope st) s.heap.objs.size f cdv)) → (A.deeper (PyProof.Rows.envOfC qual (defScope st) s.heap.objs.size f cdv)).guards = some [] →
      Takes (cxD P w K mg base N qual (defScope st) f cdv A outer s H E) (Wd E) → PassesOwn (model P w) (A.deeper (PyProof.Rows.envOfC qual (defScope st) s.heap.objs.size f cdv)) (PyProof.Rows.envOfC qual (defScope st) s.heap.objs.size f cdv) (cxD P w K mg base N qual (defScope st) f cdv A outer s H E).xe →
      ∃ T, DSs (cxD P w K mg base N qual (defScope st) f cdv A outer s H E) (Wd E) (defBody st) T ∧ ∀ ds S Q E', dsp ds S Q E' → T { nx := fun _ S' => Q .non S', rt := Q, ex := fun _ => E' } (startD N ds) S) : FnD P w K mg base (k + 1) f fd ps dsp := by
  refine fn_ofGV F S (fun vs H Q E ⟨ds, S, Fz, Z, Qd, Ed, R, iv, q, _⟩ => by rw [← iv.length]; exact len _ _ _ _ q) fun cdv A outer s H vs Q E hr hgd ⟨ds, Sd, Fz, Z, Qd, Ed, R, iv, q, k1, k2⟩ => ?_
  obtain ⟨T, hT, read⟩ := hbody cdv A outer s H E hr (guards_deeper hgd) (takes_of rfl rfl rfl rfl) (passes_of rfl)
  refine ⟨_, hT.pss, ?_⟩
  exact ⟨startD N ds, Sd, Fz, Z, _, R, envR_start iv, read ds Sd Qd Ed q, ⟨fun σ' H' ⟨ρ', S', F', A', _, q'⟩ => k1 _ _ ⟨.non, S', F', A', .non, q'⟩, fun v H' h => k1 v H' h, fun _ _ ⟨_, _, _, _, _, z⟩ => z.elim, fun _ _ ⟨_, _, _, _, _, z⟩ => z.elim, fun cls d σ' H' ⟨C, ns, ds', ρ', S', F', e, A', _, xr, q'⟩ => k2 cls d H' ⟨C, ns, ds', S', F', e, A', xr, q'⟩⟩⟩
end
/-- a method that may have defaults -/
structure MFV (K : PySem.W.Frag) (C : Addr) (m qual : Str) (st : Stmt) (ps : List Str) : Type where
  f : Addr
  fd : FuncData
  F : FunV K m qual st f fd
  at_ : Meth K C m f
  bd : Binds K fd ps []
abbrev BdOkV (x qual : Str) (st : Stmt) (ps : List Str) : Prop := ∀ (T : Addr) (v kV doc pm : Value) (an : Option Addr) (cdv ct : Value) (us : List Value), us.length = ps.length →
  ∃ k, bindArgs (PySem.W.fnOf x qual (defArgs st) (defBody st) (defScope st) (.ref T) kV doc pm an cdv ct) ⟨us, []⟩ = seqItems? (.ref T) >>= k ∧ k (some #[v]) = pure (ps.zip us)
/-- one default -/
def MFV.of {K : PySem.W.Frag} {x qual : Str} {st : Stmt} {ps : List Str} {f C T : Addr} {oc cl v : Value} {od an dd : Option Addr} {osl sl : Array (Option Value)} {kV doc pm cdv ct : Value} {n : Nat} (a : PySem.W.findIn K (.ref C) x = some (some (.ref f))) (i : PySem.W.isFn K (.ref f) = true)
    (l : K.lookup f = some ⟨oc, od, .func (PySem.W.fnOf x qual (defArgs st) (defBody st) (defScope st) (.ref T) kV doc pm an cdv ct), osl⟩) (c : PySem.W.codeIn K cdv qual = true) (k : PySem.W.keepIn K (.ref f) = true) (lT : K.lookup T = some ⟨cl, dd, .seq #[v] n, sl⟩) (b : BdOkV x qual st ps) : MFV K C x qual st ps :=
  ⟨f, _, ⟨⟨oc, od, .ref T, kV, doc, pm, an, cdv, ct, osl, rfl, l, c⟩, k⟩, ⟨a, i, k⟩, fun s us X hl => by
    rw [List.append_nil] at hl ⊢
    obtain ⟨k, e1, e2⟩ := b T v kV doc pm an cdv ct us hl
    refine BindsTo.of_looks fun M => ?_
    rw [e1]
    exact looks_items X lT rfl (.of_pure e2)⟩
theorem op_of {K : PySem.W.Frag} {C f : Addr} {m : Str} (M : Meth K C m f) : OwnOp K C f m := ⟨M.at_, M.fn⟩
end DL

set_option maxRecDepth 100000
set_option maxHeartbeats 2000000
/-! DTS15: a loop over range(n), by the number of the turn; readings that come often. -/
namespace DL
open PySem PySem.Spec L2
theorem dItR_range (n : Nat) : dItR 0 ((n : Int).toNat) = (List.range' 0 n).map fun (i : Nat) => D.int (i : Int) := by
  unfold dItR
  rw [Int.toNat_natCast, List.range_eq_range']
  exact List.map_congr_left fun i _ => by rw [Int.zero_add]
section
variable {nx bk ct : Sl → Store → Prop} {rt : DQ} {ex : Sl → DX} {g : Tgt} {tb : DTS}
theorem e_forR {n : Nat} (Inv : Nat → Sl → Store → Prop) (h0 : ∀ ρ S, Inv n ρ S → nx ρ S)
    (h1 : ∀ (J : Sl → Store → Prop) (j : Nat), j < n → (∀ ρ2 S2, Inv (j + 1) ρ2 S2 → J ρ2 S2) → ∀ ρ S, Inv j ρ S → ∃ ρ1, bindT g (.int j) ρ = some ρ1 ∧ tb ⟨J, rt, nx, J, ex⟩ ρ1 S) {ρ : Sl} {S : Store} (h : Inv 0 ρ S) :
    dForGo g tb (dItR 0 ((n : Int).toNat)) ⟨nx, rt, bk, ct, ex⟩ ρ S := by
  rw [dItR_range]
  refine e_forK (fun items ρ S => ∃ j, j ≤ n ∧ items = (List.range' j (n - j)).map (fun i : Nat => D.int (i : Int)) ∧ Inv j ρ S) ?_ ?_ _ _ _ ⟨0, Nat.zero_le _, rfl, h⟩
  · rintro ρ S ⟨j, hj, e, i⟩
    have : j = n := by
      have z := congrArg List.length e
      rw [List.length_map, List.length_range'] at z
      simp at z
      omega
    subst this
    exact h0 _ _ i
  · rintro J d r ih ρ S ⟨j, hj, e, i⟩
    have lt : j < n := by
      have z := congrArg List.length e
      rw [List.length_map, List.length_range', List.length_cons] at z
      omega
    rw [show n - j = (n - (j + 1)) + 1 by omega, List.range'_succ, List.map_cons] at e
    injection e with e1 e2
    subst e1 e2
    exact h1 J j lt (fun ρ2 S2 q => ih ρ2 S2 ⟨j + 1, lt, rfl, q⟩) ρ S i
end
theorem objD_ref {C a : Addr} {S : Store} {ns : List Str} {ds : List D} (h : S a = some (.ins C ns ds)) : objD C S (.ref a) = some (ns.zip ds) := by
  show objM C (S a) = _
  rw [h]
  show (if C = C then _ else _) = _
  rw [if_pos rfl]
theorem s_isObj {C a : Addr} {m : Str} {S : Store} {ns : List Str} {ds : List D} {R : Prop} (h : S a = some (.ins C ns ds)) (hm : m ∉ ns) (r : R) : IsObj C m (.ref a) S ∧ R := ⟨.inr ⟨a, ns, ds, rfl, h, hm⟩, r⟩
theorem s_isObjO {C : Addr} {m : Str} {S : Store} {ns : List Str} {ds : List D} {R : Prop} (hm : m ∉ ns) (r : R) : IsObj C m (.obj C ns ds) S ∧ R := ⟨.inl ⟨ns, ds, rfl, hm⟩, r⟩
end DL

set_option maxRecDepth 100000
set_option maxHeartbeats 2000000
/-! DTS16: comprehensions that keep some of what was laid out by a function. -/
namespace DL
open PySem PySem.Spec L2
theorem lc_filterM {tg : Tgt} {tt : DTT} {te : DTE} {ρ : Sl} {S : Store} {QA : List D → Store → Prop} {α : Type} (f : α → D) (p : α → Bool) : ∀ (xs : List α) (acc : List D), (∀ x ∈ xs, ∃ ρ1, bindT tg (f x) ρ = some ρ1 ∧ (∀ QT : Bool → Store → Prop, QT (p x) S → tt ρ1 S QT (fun _ _ _ _ => False)) ∧ ∀ R : DQ, R (f x) S → te ρ1 S R (fun _ _ _ _ => False)) →
    QA (acc ++ (xs.filter p).map f) S → dLcGo tg tt te ρ (xs.map f) acc S QA
  | [], acc, _, q => by
    rw [List.filter_nil, List.map_nil, List.append_nil] at q
    exact q
  | x :: r, acc, h, q => by
    obtain ⟨ρ1, e, k1, k2⟩ := h x List.mem_cons_self
    refine ⟨ρ1, e, k1 _ ?_⟩
    cases hx : p x with
    | true =>
      refine iteT (k2 _ ?_)
      refine lc_filterM f p r (acc ++ [f x]) (fun d hd => h d (List.mem_cons_of_mem _ hd)) ?_
      rw [List.filter_cons, if_pos hx, List.map_cons] at q
      rw [List.append_assoc]
      exact q
    | false =>
      refine iteF ?_
      refine lc_filterM f p r acc (fun d hd => h d (List.mem_cons_of_mem _ hd)) ?_
      rw [List.filter_cons, if_neg (by rw [hx]; exact Bool.false_ne_true)] at q
      exact q
end DL

set_option maxRecDepth 100000
set_option maxHeartbeats 4000000
local macro_rules | `(tactic| walk_at "st") => `(tactic| (repeat (first
    | with_reducible refine DL.e_seq ?_
    | with_reducible refine DL.e_ifs ?_
    | with_reducible refine DL.e_ret ?_
    | with_reducible refine DL.e_next ?_
    | with_reducible refine DL.e_asg ?_
    | with_reducible refine DL.e_par ?_
    | with_reducible refine DL.e_for ?_
    | with_reducible refine DL.e_forCons ?_
    | with_reducible refine DL.e_forNil ?_
    | with_reducible refine DL.e_dp ?_
    | with_reducible refine DL.e_raise ?_
    | with_reducible refine DL.e_try ?_
    | with_reducible refine DL.e_fldPut ?_
    | with_reducible refine DL.e_lset ?_
    | with_reducible refine DL.e_drop ?_
    | with_reducible refine DL.e_brk ?_
    | with_reducible refine DL.e_aft ?_
    | with_reducible refine DL.e_aft0 ?_
    | with_reducible refine DL.s_bindN ?_
    | with_reducible refine DL.s_two ?_
    | with_reducible refine DL.s_var rfl ?_
    | with_reducible refine DL.s_c ?_
    | with_reducible refine DL.s_nil ?_
    | with_reducible refine DL.s_cons ?_
    | with_reducible refine DL.s_tup ?_
    | with_reducible refine DL.s_lst ?_
    | with_reducible refine DL.s_op ?_
    | with_reducible refine DL.s_un ?_
    | with_reducible refine DL.s_cb ?_
    | with_reducible refine DL.s_call ?_
    | with_reducible refine DL.s_test ?_
    | with_reducible refine DL.s_bl ?_
    | with_reducible refine DL.s_not ?_
    | with_reducible refine DL.s_and ?_
    | with_reducible refine DL.s_or ?_
    | with_reducible refine DL.s_andV ?_
    | with_reducible refine DL.s_orV ?_
    | with_reducible refine DL.s_notV ?_
    | with_reducible refine DL.s_if ?_
    | with_reducible refine DL.s_chain ?_
    | with_reducible refine DL.s_int ?_
    | with_reducible refine DL.s_addI ?_
    | with_reducible refine DL.s_int1 ?_
    | with_reducible refine DL.s_ei ?_
    | with_reducible refine DL.s_sl ?_
    | with_reducible refine DL.s_noPart ?_
    | with_reducible refine DL.s_part ?_
    | with_reducible refine DL.s_slT0 ?_
    | with_reducible refine DL.s_slL1 ?_
    | with_reducible refine DL.s_slT ?_
    | with_reducible refine DL.s_slL ?_
    | with_reducible refine DL.s_slC ?_
    | with_reducible refine DL.s_mt ?_
    | with_reducible refine DL.s_fld ?_
    | with_reducible refine DL.s_rev ?_
    | with_reducible refine DL.s_revM ?_
    | with_reducible refine DL.s_itL ?_
    | with_reducible refine DL.s_itLl ?_
    | with_reducible refine DL.s_itT ?_
    | with_reducible refine DL.s_itTt ?_
    | with_reducible refine DL.s_it1 ?_
    | with_reducible refine DL.s_lc ?_
    | with_reducible refine DL.s_disp ?_
    | with_reducible refine DL.s_pairs0 ?_
    | with_reducible refine DL.s_pairs1 ?_
    | with_reducible refine DL.s_newK ?_
    | with_reducible refine DL.s_sortLen ?_
    | with_reducible refine DL.s_iteT ?_
    | with_reducible refine DL.s_iteF ?_
    | with_reducible refine DL.s_dg (DL.dget_draws (by assumption)) ?_
    | with_reducible refine DL.s_dg (DL.dget_items (by assumption)) ?_
    | with_reducible refine DL.s_dg (DL.dget_total (by assumption)) ?_
    | with_reducible refine DL.s_some (DL.dput_draws (by assumption)) ?_
    | with_reducible refine DL.s_mod (by first | assumption | omega) ?_
    | with_reducible refine DL.s_div (by first | assumption | omega) ?_
    | with_reducible refine DL.s_pow (by decide) ?_
    | with_reducible refine DL.s_mulR (by first | decide | omega) ?_
    | with_reducible refine DL.s_mulL (by omega) ?_
    | with_reducible refine DL.s_nilC (DL.nilR (by assumption)) ?_
    | with_reducible refine DL.s_mtA (by assumption) ?_
    | with_reducible refine DL.s_someL (by assumption) ?_
    | with_reducible refine DL.s_lcCons ?_
    | with_reducible refine DL.s_lcNil ?_
    | with_reducible refine DL.s_yes ?_
    | with_reducible refine DL.s_lstM ?_
    | with_reducible refine DL.s_size (by rw [PySem.sizeLine_eq]; simp only [List.length_append, List.length_map, List.length_cons, List.length_nil]; omega) ?_
    | with_reducible refine DL.s_addT (by rw [PySem.sizeLine_eq]; simp only [List.length_append, List.length_map, List.length_cons, List.length_nil]; omega) ?_
    | with_reducible refine DL.s_addL (by rw [PySem.sizeLine_eq]; simp only [List.length_append, List.length_map, List.length_cons, List.length_nil]; omega) ?_
    | with_reducible refine DL.s_forMC ?_
    | with_reducible refine DL.s_forMN ?_
    | with_reducible refine DL.s_lcMC ?_
    | with_reducible refine DL.s_lcMN ?_
    | with_reducible refine DL.s_dictZip ?_
    | with_reducible refine DL.s_make ?_
    | with_reducible refine DL.s_xf ?_
    | with_reducible refine DL.s_aftNx ?_
    | with_reducible refine DL.s_aftRt ?_
    | with_reducible refine DL.s_aftNx0 ?_
    | with_reducible refine DL.s_listZip ?_
    | with_reducible refine DL.s_lc2 ?_
    | with_reducible refine DL.s_tcnt ?_
    | with_reducible refine DL.s_itZ ?_
    | with_reducible refine DL.s_join ?_
    | with_reducible refine DL.s_dzo ?_
    | with_reducible refine DL.s_makeK ?_
    | with_reducible refine DL.s_itTK ?_
    | with_reducible refine DL.s_itTKt ?_
    | with_reducible refine DL.s_itTKk ?_
    | with_reducible refine DL.s_neg ?_
    | with_reducible refine DL.e_sortSet ?_
    | with_reducible refine DL.s_dg (DLM.dget_draws (by assumption)) ?_
    | with_reducible refine DL.s_dg (DLM.dget_cells (by assumption)) ?_
    | with_reducible refine DL.s_dg (DLM.dget_mixed (by assumption)) ?_
    | with_reducible refine DL.s_some (DLM.dput_draws (by assumption)) ?_
    | with_reducible refine DL.s_binO ?_
    | with_reducible refine DL.s_unO ?_
    | with_reducible refine DL.s_lenSet ?_
    | with_reducible refine DL.s_splitM ?_
    | with_reducible refine DL.s_slS ?_
    | with_reducible refine DL.s_meth ?_
    | with_reducible refine DL.s_sortSetT ?_
    | with_reducible refine DL.s_sortSc ?_
    | ((with_reducible refine DL.g_var ?_); refine DL.s_var rfl ?_)
    | ((with_reducible refine DL.g_nil ?_); refine DL.s_nilC rfl ?_)
    | ((with_reducible refine DL.g_rd1 ?_); refine DL.s_rd1 rfl ?_)
    | ((with_reducible refine DL.g_ite ?_); first | refine DL.s_iteT1 rfl ?_ | refine DL.s_iteF1 rfl ?_)
    | ((with_reducible refine DL.g_bind ?_); refine DL.s_bindT rfl ?_)
    | ((with_reducible refine DL.s_lcId ?_); first | refine DL.s_lcCons ?_ | refine DL.s_lcNil ?_)
    | ((with_reducible refine DL.s_forId ?_); first | refine DL.s_forCons ?_ | refine DL.s_forNil ?_))))
local macro_rules | `(tactic| walk_at "sj") => `(tactic| (repeat (first
    | with_reducible refine DL.e_seq ?_
    | with_reducible refine DL.e_ret ?_
    | with_reducible refine DL.e_next ?_
    | with_reducible refine DL.e_asg ?_
    | with_reducible refine DL.e_par ?_
    | with_reducible refine DL.e_for ?_
    | with_reducible refine DL.e_forCons ?_
    | with_reducible refine DL.e_forNil ?_
    | with_reducible refine DL.e_dp ?_
    | with_reducible refine DL.e_raise ?_
    | with_reducible refine DL.e_try ?_
    | with_reducible refine DL.e_fldPut ?_
    | with_reducible refine DL.e_lset ?_
    | with_reducible refine DL.e_drop ?_
    | with_reducible refine DL.e_brk ?_
    | with_reducible refine DL.e_aft ?_
    | with_reducible refine DL.e_aft0 ?_
    | with_reducible refine DL.s_bindN ?_
    | with_reducible refine DL.s_two ?_
    | with_reducible refine DL.s_var rfl ?_
    | with_reducible refine DL.s_c ?_
    | with_reducible refine DL.s_nil ?_
    | with_reducible refine DL.s_cons ?_
    | with_reducible refine DL.s_tup ?_
    | with_reducible refine DL.s_lst ?_
    | with_reducible refine DL.s_op ?_
    | with_reducible refine DL.s_un ?_
    | with_reducible refine DL.s_cb ?_
    | with_reducible refine DL.s_call ?_
    | with_reducible refine DL.s_test ?_
    | with_reducible refine DL.s_bl ?_
    | with_reducible refine DL.s_not ?_
    | with_reducible refine DL.s_and ?_
    | with_reducible refine DL.s_or ?_
    | with_reducible refine DL.s_andV ?_
    | with_reducible refine DL.s_orV ?_
    | with_reducible refine DL.s_notV ?_
    | with_reducible refine DL.s_if ?_
    | with_reducible refine DL.s_chain ?_
    | with_reducible refine DL.s_int ?_
    | with_reducible refine DL.s_addI ?_
    | with_reducible refine DL.s_int1 ?_
    | with_reducible refine DL.s_ei ?_
    | with_reducible refine DL.s_sl ?_
    | with_reducible refine DL.s_noPart ?_
    | with_reducible refine DL.s_part ?_
    | with_reducible refine DL.s_slT0 ?_
    | with_reducible refine DL.s_slL1 ?_
    | with_reducible refine DL.s_slT ?_
    | with_reducible refine DL.s_slL ?_
    | with_reducible refine DL.s_slC ?_
    | with_reducible refine DL.s_mt ?_
    | with_reducible refine DL.s_fld ?_
    | with_reducible refine DL.s_rev ?_
    | with_reducible refine DL.s_revM ?_
    | with_reducible refine DL.s_itL ?_
    | with_reducible refine DL.s_itLl ?_
    | with_reducible refine DL.s_itT ?_
    | with_reducible refine DL.s_itTt ?_
    | with_reducible refine DL.s_it1 ?_
    | with_reducible refine DL.s_lc ?_
    | with_reducible refine DL.s_disp ?_
    | with_reducible refine DL.s_pairs0 ?_
    | with_reducible refine DL.s_pairs1 ?_
    | with_reducible refine DL.s_newK ?_
    | with_reducible refine DL.s_sortLen ?_
    | with_reducible refine DL.s_iteT ?_
    | with_reducible refine DL.s_iteF ?_
    | with_reducible refine DL.s_dg (DL.dget_draws (by assumption)) ?_
    | with_reducible refine DL.s_dg (DL.dget_items (by assumption)) ?_
    | with_reducible refine DL.s_dg (DL.dget_total (by assumption)) ?_
    | with_reducible refine DL.s_some (DL.dput_draws (by assumption)) ?_
    | with_reducible refine DL.s_mod (by first | assumption | omega) ?_
    | with_reducible refine DL.s_div (by first | assumption | omega) ?_
    | with_reducible refine DL.s_pow (by decide) ?_
    | with_reducible refine DL.s_mulR (by first | decide | omega) ?_
    | with_reducible refine DL.s_mulL (by omega) ?_
    | with_reducible refine DL.s_nilC (DL.nilR (by assumption)) ?_
    | with_reducible refine DL.s_mtA (by assumption) ?_
    | with_reducible refine DL.s_someL (by assumption) ?_
    | with_reducible refine DL.s_lcCons ?_
    | with_reducible refine DL.s_lcNil ?_
    | with_reducible refine DL.s_yes ?_
    | with_reducible refine DL.s_lstM ?_
    | with_reducible refine DL.s_size (by rw [PySem.sizeLine_eq]; simp only [List.length_append, List.length_map, List.length_cons, List.length_nil]; omega) ?_
    | with_reducible refine DL.s_addT (by rw [PySem.sizeLine_eq]; simp only [List.length_append, List.length_map, List.length_cons, List.length_nil]; omega) ?_
    | with_reducible refine DL.s_addL (by rw [PySem.sizeLine_eq]; simp only [List.length_append, List.length_map, List.length_cons, List.length_nil]; omega) ?_
    | with_reducible refine DL.s_forMC ?_
    | with_reducible refine DL.s_forMN ?_
    | with_reducible refine DL.s_lcMC ?_
    | with_reducible refine DL.s_lcMN ?_
    | with_reducible refine DL.s_dictZip ?_
    | with_reducible refine DL.s_make ?_
    | with_reducible refine DL.s_xf ?_
    | with_reducible refine DL.s_aftNx ?_
    | with_reducible refine DL.s_aftRt ?_
    | with_reducible refine DL.s_aftNx0 ?_
    | with_reducible refine DL.s_listZip ?_
    | with_reducible refine DL.s_lc2 ?_
    | with_reducible refine DL.s_tcnt ?_
    | with_reducible refine DL.s_itZ ?_
    | with_reducible refine DL.s_join ?_
    | with_reducible refine DL.s_dzo ?_
    | with_reducible refine DL.s_makeK ?_
    | with_reducible refine DL.s_itTK ?_
    | with_reducible refine DL.s_itTKt ?_
    | with_reducible refine DL.s_itTKk ?_
    | with_reducible refine DL.s_neg ?_
    | with_reducible refine DL.e_sortSet ?_
    | with_reducible refine DL.s_dg (DLM.dget_draws (by assumption)) ?_
    | with_reducible refine DL.s_dg (DLM.dget_cells (by assumption)) ?_
    | with_reducible refine DL.s_dg (DLM.dget_mixed (by assumption)) ?_
    | with_reducible refine DL.s_some (DLM.dput_draws (by assumption)) ?_
    | with_reducible refine DL.s_binO ?_
    | with_reducible refine DL.s_unO ?_
    | with_reducible refine DL.s_lenSet ?_
    | with_reducible refine DL.s_splitM ?_
    | with_reducible refine DL.s_slS ?_
    | with_reducible refine DL.s_meth ?_
    | with_reducible refine DL.s_sortSetT ?_
    | with_reducible refine DL.s_sortSc ?_
    | ((with_reducible refine DL.g_var ?_); refine DL.s_var rfl ?_)
    | ((with_reducible refine DL.g_nil ?_); refine DL.s_nilC rfl ?_)
    | ((with_reducible refine DL.g_rd1 ?_); refine DL.s_rd1 rfl ?_)
    | ((with_reducible refine DL.g_ite ?_); first | refine DL.s_iteT1 rfl ?_ | refine DL.s_iteF1 rfl ?_)
    | ((with_reducible refine DL.g_bind ?_); refine DL.s_bindT rfl ?_)
    | ((with_reducible refine DL.s_lcId ?_); first | refine DL.s_lcCons ?_ | refine DL.s_lcNil ?_)
    | ((with_reducible refine DL.s_forId ?_); first | refine DL.s_forCons ?_ | refine DL.s_forNil ?_))))
local macro_rules | `(tactic| walk_at "sf") => `(tactic| (repeat (first
    | with_reducible refine DL.e_seq ?_
    | with_reducible refine DL.e_ret ?_
    | with_reducible refine DL.e_next ?_
    | with_reducible refine DL.e_asg ?_
    | with_reducible refine DL.e_par ?_
    | with_reducible refine DL.e_for ?_
    | with_reducible refine DL.e_dp ?_
    | with_reducible refine DL.e_raise ?_
    | with_reducible refine DL.e_try ?_
    | with_reducible refine DL.e_fldPut ?_
    | with_reducible refine DL.e_lset ?_
    | with_reducible refine DL.e_drop ?_
    | with_reducible refine DL.e_brk ?_
    | with_reducible refine DL.e_aft ?_
    | with_reducible refine DL.e_aft0 ?_
    | with_reducible refine DL.s_bindN ?_
    | with_reducible refine DL.s_two ?_
    | with_reducible refine DL.s_var rfl ?_
    | with_reducible refine DL.s_c ?_
    | with_reducible refine DL.s_nil ?_
    | with_reducible refine DL.s_cons ?_
    | with_reducible refine DL.s_tup ?_
    | with_reducible refine DL.s_lst ?_
    | with_reducible refine DL.s_op ?_
    | with_reducible refine DL.s_un ?_
    | with_reducible refine DL.s_cb ?_
    | with_reducible refine DL.s_call ?_
    | with_reducible refine DL.s_test ?_
    | with_reducible refine DL.s_bl ?_
    | with_reducible refine DL.s_not ?_
    | with_reducible refine DL.s_and ?_
    | with_reducible refine DL.s_or ?_
    | with_reducible refine DL.s_andV ?_
    | with_reducible refine DL.s_orV ?_
    | with_reducible refine DL.s_notV ?_
    | with_reducible refine DL.s_if ?_
    | with_reducible refine DL.s_chain ?_
    | with_reducible refine DL.s_int ?_
    | with_reducible refine DL.s_addI ?_
    | with_reducible refine DL.s_int1 ?_
    | with_reducible refine DL.s_ei ?_
    | with_reducible refine DL.s_sl ?_
    | with_reducible refine DL.s_noPart ?_
    | with_reducible refine DL.s_part ?_
    | with_reducible refine DL.s_slT0 ?_
    | with_reducible refine DL.s_slL1 ?_
    | with_reducible refine DL.s_slT ?_
    | with_reducible refine DL.s_slL ?_
    | with_reducible refine DL.s_slC ?_
    | with_reducible refine DL.s_mt ?_
    | with_reducible refine DL.s_fld ?_
    | with_reducible refine DL.s_rev ?_
    | with_reducible refine DL.s_revM ?_
    | with_reducible refine DL.s_itL ?_
    | with_reducible refine DL.s_itLl ?_
    | with_reducible refine DL.s_itT ?_
    | with_reducible refine DL.s_itTt ?_
    | with_reducible refine DL.s_it1 ?_
    | with_reducible refine DL.s_lc ?_
    | with_reducible refine DL.s_disp ?_
    | with_reducible refine DL.s_pairs0 ?_
    | with_reducible refine DL.s_pairs1 ?_
    | with_reducible refine DL.s_newK ?_
    | with_reducible refine DL.s_sortLen ?_
    | with_reducible refine DL.s_iteT ?_
    | with_reducible refine DL.s_iteF ?_
    | with_reducible refine DL.s_dg (DL.dget_draws (by assumption)) ?_
    | with_reducible refine DL.s_dg (DL.dget_items (by assumption)) ?_
    | with_reducible refine DL.s_dg (DL.dget_total (by assumption)) ?_
    | with_reducible refine DL.s_some (DL.dput_draws (by assumption)) ?_
    | with_reducible refine DL.s_mod (by first | assumption | omega) ?_
    | with_reducible refine DL.s_div (by first | assumption | omega) ?_
    | with_reducible refine DL.s_pow (by decide) ?_
    | with_reducible refine DL.s_mulR (by first | decide | omega) ?_
    | with_reducible refine DL.s_mulL (by omega) ?_
    | with_reducible refine DL.s_nilC (DL.nilR (by assumption)) ?_
    | with_reducible refine DL.s_mtA (by assumption) ?_
    | with_reducible refine DL.s_someL (by assumption) ?_
    | with_reducible refine DL.s_lcCons ?_
    | with_reducible refine DL.s_lcNil ?_
    | with_reducible refine DL.s_yes ?_
    | with_reducible refine DL.s_lstM ?_
    | with_reducible refine DL.s_size (by rw [PySem.sizeLine_eq]; simp only [List.length_append, List.length_map, List.length_cons, List.length_nil]; omega) ?_
    | with_reducible refine DL.s_addT (by rw [PySem.sizeLine_eq]; simp only [List.length_append, List.length_map, List.length_cons, List.length_nil]; omega) ?_
    | with_reducible refine DL.s_addL (by rw [PySem.sizeLine_eq]; simp only [List.length_append, List.length_map, List.length_cons, List.length_nil]; omega) ?_
    | with_reducible refine DL.s_lcMC ?_
    | with_reducible refine DL.s_lcMN ?_
    | with_reducible refine DL.s_dictZip ?_
    | with_reducible refine DL.s_make ?_
    | with_reducible refine DL.s_xf ?_
    | with_reducible refine DL.s_aftNx ?_
    | with_reducible refine DL.s_aftRt ?_
    | with_reducible refine DL.s_aftNx0 ?_
    | with_reducible refine DL.s_listZip ?_
    | with_reducible refine DL.s_lc2 ?_
    | with_reducible refine DL.s_tcnt ?_
    | with_reducible refine DL.s_itZ ?_
    | with_reducible refine DL.s_join ?_
    | with_reducible refine DL.s_dzo ?_
    | with_reducible refine DL.s_makeK ?_
    | with_reducible refine DL.s_itTK ?_
    | with_reducible refine DL.s_itTKt ?_
    | with_reducible refine DL.s_itTKk ?_
    | with_reducible refine DL.s_neg ?_
    | with_reducible refine DL.e_sortSet ?_
    | with_reducible refine DL.s_dg (DLM.dget_draws (by assumption)) ?_
    | with_reducible refine DL.s_dg (DLM.dget_cells (by assumption)) ?_
    | with_reducible refine DL.s_dg (DLM.dget_mixed (by assumption)) ?_
    | with_reducible refine DL.s_some (DLM.dput_draws (by assumption)) ?_
    | with_reducible refine DL.s_binO ?_
    | with_reducible refine DL.s_unO ?_
    | with_reducible refine DL.s_lenSet ?_
    | with_reducible refine DL.s_splitM ?_
    | with_reducible refine DL.s_slS ?_
    | with_reducible refine DL.s_meth ?_
    | with_reducible refine DL.s_sortSetT ?_
    | with_reducible refine DL.s_sortSc ?_
    | ((with_reducible refine DL.g_var ?_); refine DL.s_var rfl ?_)
    | ((with_reducible refine DL.g_nil ?_); refine DL.s_nilC rfl ?_)
    | ((with_reducible refine DL.g_rd1 ?_); refine DL.s_rd1 rfl ?_)
    | ((with_reducible refine DL.g_ite ?_); first | refine DL.s_iteT1 rfl ?_ | refine DL.s_iteF1 rfl ?_)
    | ((with_reducible refine DL.s_lcId ?_); first | refine DL.s_lcCons ?_ | refine DL.s_lcNil ?_))))
namespace K03
open PySem PySem.Spec L2 DL
def top (i : Nat) : Stmt := PySem.Challenge.pw_clashnumber_k03_operators_of_tables.main.body.getD i (.Pass ⟨0, 0, 0, 0⟩)
def inC (s : Stmt) (i : Nat) : Stmt := match s with
  | .ClassDef _ _ _ b _ _ _ _ _ _ _ => b.getD i (.Pass ⟨0, 0, 0, 0⟩)
  | _ => s
abbrev sIsInteger : Stmt := top 10
abbrev sIsName : Stmt := top 11
abbrev sIsDomain : Stmt := top 12
abbrev sAllRows : Stmt := top 13
abbrev sIsRow : Stmt := top 14
abbrev sAreRows : Stmt := top 15
abbrev sLDeck : Stmt := top 18
abbrev sLDraw : Stmt := top 19
abbrev sLPick : Stmt := top 20
abbrev sLWords : Stmt := top 21
abbrev sLEvery : Stmt := top 22
abbrev sLLines : Stmt := top 23
abbrev sLIs : Stmt := top 24
abbrev sLWord : Stmt := top 25
abbrev sLBothWords : Stmt := top 26
abbrev sLAlikeRight : Stmt := top 27
abbrev sLTimesRight : Stmt := top 28
abbrev sLUnlikeRight : Stmt := top 29
abbrev sLaw : Stmt := top 30
abbrev sTable_init : Stmt := inC (top 16) 0
abbrev sTable_eq : Stmt := inC (top 16) 1
abbrev sTable_len : Stmt := inC (top 16) 2
abbrev sTable_iter : Stmt := inC (top 16) 3
abbrev sTable_contains : Stmt := inC (top 16) 4
abbrev sTable_need_alike : Stmt := inC (top 16) 5
abbrev sTable_and : Stmt := inC (top 16) 6
abbrev sTable_or : Stmt := inC (top 16) 7
abbrev sTable_sub : Stmt := inC (top 16) 8
abbrev sTable_mul : Stmt := inC (top 16) 9
abbrev sTable_invert : Stmt := inC (top 16) 10
abbrev sTable_column : Stmt := inC (top 16) 11
structure Facts (P : Program) (K : PySem.W.Frag) (mg : Str → Option Value) : Type where
  bis : Bis mg
  g_LETTERS : ∃ t, mg "LETTERS" = some (.str "abcdefghijklmnopqrstuvwxyz" t)
  g_LONGEST_NAME : ∃ t, mg "LONGEST_NAME" = some (.int 8 t)
  g_MOST_VALUES : ∃ t, mg "MOST_VALUES" = some (.int 3 t)
  g_MOST_WIDTH : ∃ t, mg "MOST_WIDTH" = some (.int 3 t)
  n_ClashnumberError : ∃ C, mg "ClashnumberError" = some (.ref C)
  NoTable : EF P K mg "NoTable" "word"
  NoBook : EF P K mg "NoBook" "word"
  Table : CF K mg "Table"
  Table_init : MFV K Table.C "__init__" "Table.__init__" sTable_init ["self", "domain", "width", "rows"]
  Table_eq : MF K Table.C "__eq__" "Table.__eq__" sTable_eq ["self", "other"]
  Table_len : MF K Table.C "__len__" "Table.__len__" sTable_len ["self"]
  Table_iter : MF K Table.C "__iter__" "Table.__iter__" sTable_iter ["self"]
  Table_contains : MF K Table.C "__contains__" "Table.__contains__" sTable_contains ["self", "row"]
  Table_need_alike : MF K Table.C "need_alike" "Table.need_alike" sTable_need_alike ["self", "other"]
  Table_and : MF K Table.C "__and__" "Table.__and__" sTable_and ["self", "other"]
  Table_or : MF K Table.C "__or__" "Table.__or__" sTable_or ["self", "other"]
  Table_sub : MF K Table.C "__sub__" "Table.__sub__" sTable_sub ["self", "other"]
  Table_mul : MF K Table.C "__mul__" "Table.__mul__" sTable_mul ["self", "other"]
  Table_invert : MF K Table.C "__invert__" "Table.__invert__" sTable_invert ["self"]
  Table_column : MF K Table.C "column" "Table.column" sTable_column ["self", "place"]
  Table_mk : Mk K Table.C Table_init.f
  Table_own : OwnEq K Table.C Table_eq.f
  Table_sf : PySem.W.selfFirst K Table.C = true
  Table_ty : ClsTy K Table.C
  Table_no_domain : NoAttr K Table.C "domain"
  Table_no_width : NoAttr K Table.C "width"
  Table_no_rows : NoAttr K Table.C "rows"
  Table_no_is_full : NoAttr K Table.C "is_full"
  Table_no_is_product : NoAttr K Table.C "is_product"
  is_integer : DF K mg "is_integer" sIsInteger ["thing"]
  is_name : DF K mg "is_name" sIsName ["thing"]
  is_domain : DF K mg "is_domain" sIsDomain ["thing"]
  all_rows : DF K mg "all_rows" sAllRows ["domain", "width"]
  is_row : DF K mg "is_row" sIsRow ["domain", "width", "thing"]
  are_rows : DF K mg "are_rows" sAreRows ["domain", "width", "thing"]
  _law_deck : DF K mg "_law_deck" sLDeck ["_law_script"]
  _law_draw : DF K mg "_law_draw" sLDraw ["_law_deck_here", "_law_many"]
  _law_pick : DF K mg "_law_pick" sLPick ["_law_deck_here", "_law_some"]
  _law_words : DF K mg "_law_words" sLWords ["_law_deck_here", "_law_many"]
  _law_every : DF K mg "_law_every" sLEvery ["_law_words_here", "_law_size"]
  _law_lines : DF K mg "_law_lines" sLLines ["_law_deck_here", "_law_every_here"]
  _law_is : DF K mg "_law_is" sLIs ["_law_made", "_law_words_here", "_law_size", "_law_lines_here"]
  _law_word : DF K mg "_law_word" sLWord ["_law_one", "_law_two", "_law_way"]
  _law_both_words : DF K mg "_law_both_words" sLBothWords ["_law_one", "_law_two", "_law_way"]
  _law_alike_right : DF K mg "_law_alike_right" sLAlikeRight ["_law_words_here", "_law_size", "_law_a", "_law_b"]
  _law_times_right : DF K mg "_law_times_right" sLTimesRight ["_law_deck_here", "_law_words_here", "_law_size", "_law_a"]
  _law_unlike_right : DF K mg "_law_unlike_right" sLUnlikeRight ["_law_deck_here", "_law_words_here", "_law_size", "_law_a"]
  law : DF K mg "law" sLaw ["_law_script"]
def facts_mk {P : Program} {K : PySem.W.Frag} {h : Heap} {mg : Str → Option Value} {t_LETTERS : Tok}
    {t_LONGEST_NAME : Tok}
    {t_MOST_VALUES : Tok}
    {t_MOST_WIDTH : Tok}
    {e2C : Addr}
    {e3C : Addr}
    {e3nm e3q : Str}
    {e3N e3fI e3cda e3cc : Addr}
    {e3bs e3bm e3sub : List Value}
    {e3sn : List Str}
    {e3ab : Bool}
    {e3col : Option Bool}
    {e3dd e3od e3an e3cld e3ccd : Option Addr}
    {e3m0 e3m1 e3m2 e3m3 e3m5 : Option Value}
    {e3oc e3kV e3dc e3pm e3ct e3cl e3ccl : Value}
    {e3sl e3csl e3ccs : Array (Option Value)}
    {e3vs : Array Value}
    {e3file : Str}
    {e3tf : Tok}
    {e4C : Addr}
    {e4nm e4q : Str}
    {e4N e4fI e4cda e4cc : Addr}
    {e4bs e4bm e4sub : List Value}
    {e4sn : List Str}
    {e4ab : Bool}
    {e4col : Option Bool}
    {e4dd e4od e4an e4cld e4ccd : Option Addr}
    {e4m0 e4m1 e4m2 e4m3 e4m5 : Option Value}
    {e4oc e4kV e4dc e4pm e4ct e4cl e4ccl : Value}
    {e4sl e4csl e4ccs : Array (Option Value)}
    {e4vs : Array Value}
    {e4file : Str}
    {e4tf : Tok}
    {c16C : Addr}
    {c16m0f : Addr}
    {c16m0oc c16m0kV c16m0dc c16m0pm c16m0cd c16m0ct : Value}
    {c16m0od c16m0an : Option Addr}
    {c16m0sl : Array (Option Value)}
    {c16m0dT : Addr} {c16m0dcl c16m0dv : Value} {c16m0ddd : Option Addr} {c16m0dsl : Array (Option Value)} {c16m0dn : Nat}
    {c16m1f : Addr}
    {c16m1oc c16m1kV c16m1dc c16m1pm c16m1cd c16m1ct : Value}
    {c16m1od c16m1an : Option Addr}
    {c16m1sl : Array (Option Value)}
    {c16m2f : Addr}
    {c16m2oc c16m2kV c16m2dc c16m2pm c16m2cd c16m2ct : Value}
    {c16m2od c16m2an : Option Addr}
    {c16m2sl : Array (Option Value)}
    {c16m3f : Addr}
    {c16m3oc c16m3kV c16m3dc c16m3pm c16m3cd c16m3ct : Value}
    {c16m3od c16m3an : Option Addr}
    {c16m3sl : Array (Option Value)}
    {c16m4f : Addr}
    {c16m4oc c16m4kV c16m4dc c16m4pm c16m4cd c16m4ct : Value}
    {c16m4od c16m4an : Option Addr}
    {c16m4sl : Array (Option Value)}
    {c16m5f : Addr}
    {c16m5oc c16m5kV c16m5dc c16m5pm c16m5cd c16m5ct : Value}
    {c16m5od c16m5an : Option Addr}
    {c16m5sl : Array (Option Value)}
    {c16m6f : Addr}
    {c16m6oc c16m6kV c16m6dc c16m6pm c16m6cd c16m6ct : Value}
    {c16m6od c16m6an : Option Addr}
    {c16m6sl : Array (Option Value)}
    {c16m7f : Addr}
    {c16m7oc c16m7kV c16m7dc c16m7pm c16m7cd c16m7ct : Value}
    {c16m7od c16m7an : Option Addr}
    {c16m7sl : Array (Option Value)}
    {c16m8f : Addr}
    {c16m8oc c16m8kV c16m8dc c16m8pm c16m8cd c16m8ct : Value}
    {c16m8od c16m8an : Option Addr}
    {c16m8sl : Array (Option Value)}
    {c16m9f : Addr}
    {c16m9oc c16m9kV c16m9dc c16m9pm c16m9cd c16m9ct : Value}
    {c16m9od c16m9an : Option Addr}
    {c16m9sl : Array (Option Value)}
    {c16m10f : Addr}
    {c16m10oc c16m10kV c16m10dc c16m10pm c16m10cd c16m10ct : Value}
    {c16m10od c16m10an : Option Addr}
    {c16m10sl : Array (Option Value)}
    {c16m11f : Addr}
    {c16m11oc c16m11kV c16m11dc c16m11pm c16m11cd c16m11ct : Value}
    {c16m11od c16m11an : Option Addr}
    {c16m11sl : Array (Option Value)}
    {d10f : Addr}
    {d10oc d10kV d10dc d10pm d10cd d10ct : Value}
    {d10od d10an : Option Addr}
    {d10sl : Array (Option Value)}
    {d11f : Addr}
    {d11oc d11kV d11dc d11pm d11cd d11ct : Value}
    {d11od d11an : Option Addr}
    {d11sl : Array (Option Value)}
    {d12f : Addr}
    {d12oc d12kV d12dc d12pm d12cd d12ct : Value}
    {d12od d12an : Option Addr}
    {d12sl : Array (Option Value)}
    {d13f : Addr}
    {d13oc d13kV d13dc d13pm d13cd d13ct : Value}
    {d13od d13an : Option Addr}
    {d13sl : Array (Option Value)}
    {d14f : Addr}
    {d14oc d14kV d14dc d14pm d14cd d14ct : Value}
    {d14od d14an : Option Addr}
    {d14sl : Array (Option Value)}
    {d15f : Addr}
    {d15oc d15kV d15dc d15pm d15cd d15ct : Value}
    {d15od d15an : Option Addr}
    {d15sl : Array (Option Value)}
    {d18f : Addr}
    {d18oc d18kV d18dc d18pm d18cd d18ct : Value}
    {d18od d18an : Option Addr}
    {d18sl : Array (Option Value)}
    {d19f : Addr}
    {d19oc d19kV d19dc d19pm d19cd d19ct : Value}
    {d19od d19an : Option Addr}
    {d19sl : Array (Option Value)}
    {d20f : Addr}
    {d20oc d20kV d20dc d20pm d20cd d20ct : Value}
    {d20od d20an : Option Addr}
    {d20sl : Array (Option Value)}
    {d21f : Addr}
    {d21oc d21kV d21dc d21pm d21cd d21ct : Value}
    {d21od d21an : Option Addr}
    {d21sl : Array (Option Value)}
    {d22f : Addr}
    {d22oc d22kV d22dc d22pm d22cd d22ct : Value}
    {d22od d22an : Option Addr}
    {d22sl : Array (Option Value)}
    {d23f : Addr}
    {d23oc d23kV d23dc d23pm d23cd d23ct : Value}
    {d23od d23an : Option Addr}
    {d23sl : Array (Option Value)}
    {d24f : Addr}
    {d24oc d24kV d24dc d24pm d24cd d24ct : Value}
    {d24od d24an : Option Addr}
    {d24sl : Array (Option Value)}
    {d25f : Addr}
    {d25oc d25kV d25dc d25pm d25cd d25ct : Value}
    {d25od d25an : Option Addr}
    {d25sl : Array (Option Value)}
    {d26f : Addr}
    {d26oc d26kV d26dc d26pm d26cd d26ct : Value}
    {d26od d26an : Option Addr}
    {d26sl : Array (Option Value)}
    {d27f : Addr}
    {d27oc d27kV d27dc d27pm d27cd d27ct : Value}
    {d27od d27an : Option Addr}
    {d27sl : Array (Option Value)}
    {d28f : Addr}
    {d28oc d28kV d28dc d28pm d28cd d28ct : Value}
    {d28od d28an : Option Addr}
    {d28sl : Array (Option Value)}
    {d29f : Addr}
    {d29oc d29kV d29dc d29pm d29cd d29ct : Value}
    {d29od d29an : Option Addr}
    {d29sl : Array (Option Value)}
    {d30f : Addr}
    {d30oc d30kV d30dc d30pm d30cd d30ct : Value}
    {d30od d30an : Option Addr}
    {d30sl : Array (Option Value)}
    (X : K.In h) (G : h.Ns mainGlobals mg)
    (z1 : PySem.W.nsIn K mainGlobals "len" = some none)
    (z2 : PySem.W.nsIn K mainGlobals "isinstance" = some none)
    (z3 : PySem.W.nsIn K mainGlobals "all" = some none)
    (z4 : PySem.W.nsIn K mainGlobals "tuple" = some none)
    (z5 : PySem.W.nsIn K mainGlobals "list" = some none)
    (z6 : PySem.W.nsIn K mainGlobals "dict" = some none)
    (z7 : PySem.W.nsIn K mainGlobals "set" = some none)
    (z8 : PySem.W.nsIn K mainGlobals "sorted" = some none)
    (z9 : PySem.W.nsIn K mainGlobals "int" = some none)
    (z10 : PySem.W.nsIn K mainGlobals "str" = some none)
    (z11 : PySem.W.nsIn K mainGlobals "bool" = some none)
    (z12 : PySem.W.nsIn K mainGlobals "repr" = some none)
    (z13 : PySem.W.nsIn K mainGlobals "range" = some none)
    (z14 : PySem.W.nsIn K mainGlobals "zip" = some none)
    (z15 : PySem.W.nsIn K mainGlobals "super" = some none)
    (z16 : PySem.W.nsIn K mainGlobals "LETTERS" = some (some (.str "abcdefghijklmnopqrstuvwxyz" t_LETTERS)))
    (z17 : PySem.W.nsIn K mainGlobals "LONGEST_NAME" = some (some (.int 8 t_LONGEST_NAME)))
    (z18 : PySem.W.nsIn K mainGlobals "MOST_VALUES" = some (some (.int 3 t_MOST_VALUES)))
    (z19 : PySem.W.nsIn K mainGlobals "MOST_WIDTH" = some (some (.int 3 t_MOST_WIDTH)))
    (z20 : PySem.W.nsIn K mainGlobals "ClashnumberError" = some (some (.ref e2C)))
    (z21 : PySem.W.nsIn K mainGlobals "NoTable" = some (some (.ref e3C)))
    (z22 : PySem.W.findIn K (.ref e3C) "__init__" = some (some (.ref e3fI)))
    (z23 : K.lookup e3C = some (excClassObj e3nm e3q e3C e3N e3bs e3bm true e3sn e3sub e3ab e3col e3dd e3m0 e3m1 e3m2 e3m3 e3m5 "Exception.__new__"))
    (z24 : PySem.W.excTail exBm e3bm = true)
    (z25 : PySem.W.findIn K (.ref e3C) "__setattr__" = some (some (.builtin "object.__setattr__")))
    (z26 : PySem.W.subIn K (.ref e3C) (.type "BaseException") = some true)
    (z27 : PySem.W.subIn K (.ref e3C) (.type "Exception") = some true)
    (z28 : PySem.W.typeIn K (.ref e3C) = some (.type "type"))
    (z29 : PySem.W.keepIn K (.ref e3C) = true)
    (z30 : PySem.W.typeIn K (.ref e3fI) = some (.type "function"))
    (z31 : PySem.W.findIn K (.ref e3C) "word" = some none)
    (z32 : K.lookup e3fI = some ⟨e3oc, e3od, .func (PySem.W.ksFn "__init__" "NoTable.__init__" (xiArgs "word" ⟨9, 17, 9, 21⟩ ⟨9, 23, 9, 27⟩) (xiBody "word" "the values are no table" ⟨10, 8, 10, 13⟩ ⟨10, 8, 10, 15⟩ ⟨10, 8, 10, 24⟩ ⟨10, 25, 10, 50⟩ ⟨10, 8, 10, 51⟩ ⟨10, 8, 10, 51⟩ ⟨11, 8, 11, 12⟩ ⟨11, 8, 11, 17⟩ ⟨11, 20, 11, 24⟩ ⟨11, 8, 11, 24⟩) (xiScope "word") .none e3kV e3dc e3pm e3an (.ref e3cda) e3ct e3cc), e3sl⟩)
    (z33 : PySem.W.codeIn K (.ref e3cda) "NoTable.__init__" = true)
    (z34 : K.lookup e3cc = some ⟨e3cl, e3cld, .cell (some (.ref e3C)), e3csl⟩)
    (z35 : K.lookup e3cda = some ⟨e3ccl, e3ccd, .fields e3vs, e3ccs⟩)
    (z36 : e3vs[2]? = some (.str e3file e3tf))
    (z37 : ((P.main.file : Str) == e3file) = true)
    (z38 : PySem.W.ks_superIn K e3C e3C "__init__" = some (some (.builtin "Exception.__init__")))
    (z39 : PySem.W.nsIn K cStatics "thirdparty.any" = some none)
    (z40 : (P.main.scope.names.lookup ("super" : Str)).isSome = false)
    (z41 : PySem.W.findIn K (.ref e3C) "__getattribute__" = some (some (.builtin "BaseException.__getattribute__")))
    (z42 : PySem.W.findIn K (.ref e3C) "__getattr__" = some none)
    (z43 : PySem.W.hasDictIn K e3C = true)
    (z44 : PySem.W.isClsIn K e3C = true)
    (z45 : PySem.W.subIn K (.ref e3C) (.ref e3C) = some true)
    (z46 : PySem.W.nsIn K mainGlobals "NoBook" = some (some (.ref e4C)))
    (z47 : PySem.W.findIn K (.ref e4C) "__init__" = some (some (.ref e4fI)))
    (z48 : K.lookup e4C = some (excClassObj e4nm e4q e4C e4N e4bs e4bm true e4sn e4sub e4ab e4col e4dd e4m0 e4m1 e4m2 e4m3 e4m5 "Exception.__new__"))
    (z49 : PySem.W.excTail exBm e4bm = true)
    (z50 : PySem.W.findIn K (.ref e4C) "__setattr__" = some (some (.builtin "object.__setattr__")))
    (z51 : PySem.W.subIn K (.ref e4C) (.type "BaseException") = some true)
    (z52 : PySem.W.subIn K (.ref e4C) (.type "Exception") = some true)
    (z53 : PySem.W.typeIn K (.ref e4C) = some (.type "type"))
    (z54 : PySem.W.keepIn K (.ref e4C) = true)
    (z55 : PySem.W.typeIn K (.ref e4fI) = some (.type "function"))
    (z56 : PySem.W.findIn K (.ref e4C) "word" = some none)
    (z57 : K.lookup e4fI = some ⟨e4oc, e4od, .func (PySem.W.ksFn "__init__" "NoBook.__init__" (xiArgs "word" ⟨14, 17, 14, 21⟩ ⟨14, 23, 14, 27⟩) (xiBody "word" "the values are no book" ⟨15, 8, 15, 13⟩ ⟨15, 8, 15, 15⟩ ⟨15, 8, 15, 24⟩ ⟨15, 25, 15, 49⟩ ⟨15, 8, 15, 50⟩ ⟨15, 8, 15, 50⟩ ⟨16, 8, 16, 12⟩ ⟨16, 8, 16, 17⟩ ⟨16, 20, 16, 24⟩ ⟨16, 8, 16, 24⟩) (xiScope "word") .none e4kV e4dc e4pm e4an (.ref e4cda) e4ct e4cc), e4sl⟩)
    (z58 : PySem.W.codeIn K (.ref e4cda) "NoBook.__init__" = true)
    (z59 : K.lookup e4cc = some ⟨e4cl, e4cld, .cell (some (.ref e4C)), e4csl⟩)
    (z60 : K.lookup e4cda = some ⟨e4ccl, e4ccd, .fields e4vs, e4ccs⟩)
    (z61 : e4vs[2]? = some (.str e4file e4tf))
    (z62 : ((P.main.file : Str) == e4file) = true)
    (z63 : PySem.W.ks_superIn K e4C e4C "__init__" = some (some (.builtin "Exception.__init__")))
    (z64 : PySem.W.nsIn K cStatics "thirdparty.any" = some none)
    (z65 : (P.main.scope.names.lookup ("super" : Str)).isSome = false)
    (z66 : PySem.W.findIn K (.ref e4C) "__getattribute__" = some (some (.builtin "BaseException.__getattribute__")))
    (z67 : PySem.W.findIn K (.ref e4C) "__getattr__" = some none)
    (z68 : PySem.W.hasDictIn K e4C = true)
    (z69 : PySem.W.isClsIn K e4C = true)
    (z70 : PySem.W.subIn K (.ref e4C) (.ref e4C) = some true)
    (z71 : PySem.W.nsIn K mainGlobals "Table" = some (some (.ref c16C)))
    (z72 : PySem.W.keepIn K (.ref c16C) = true)
    (z73 : PySem.W.plainGet K c16C Str.empty = true)
    (z74 : PySem.W.hasDictIn K c16C = true)
    (z75 : PySem.W.plainOver K c16C = true)
    (z76 : PySem.W.findIn K (.ref c16C) "__setattr__" = some (some (.builtin "object.__setattr__")))
    (z77 : PySem.W.findIn K (.ref c16C) "__init__" = some (some (.ref c16m0f)))
    (z78 : PySem.W.isFn K (.ref c16m0f) = true)
    (z79 : K.lookup c16m0f = some ⟨c16m0oc, c16m0od, .func (PySem.W.fnOf "__init__" "Table.__init__" (defArgs sTable_init) (defBody sTable_init) (defScope sTable_init) (.ref c16m0dT) c16m0kV c16m0dc c16m0pm c16m0an c16m0cd c16m0ct), c16m0sl⟩)
    (z80 : PySem.W.codeIn K c16m0cd "Table.__init__" = true)
    (z81 : PySem.W.keepIn K (.ref c16m0f) = true)
    (z82 : K.lookup c16m0dT = some ⟨c16m0dcl, c16m0ddd, .seq #[c16m0dv] c16m0dn, c16m0dsl⟩)
    (z83 : PySem.W.findIn K (.ref c16C) "__eq__" = some (some (.ref c16m1f)))
    (z84 : PySem.W.isFn K (.ref c16m1f) = true)
    (z85 : K.lookup c16m1f = some ⟨c16m1oc, c16m1od, .func (PySem.W.fnOf "__eq__" "Table.__eq__" (defArgs sTable_eq) (defBody sTable_eq) (defScope sTable_eq) .none c16m1kV c16m1dc c16m1pm c16m1an c16m1cd c16m1ct), c16m1sl⟩)
    (z86 : PySem.W.codeIn K c16m1cd "Table.__eq__" = true)
    (z87 : PySem.W.keepIn K (.ref c16m1f) = true)
    (z88 : PySem.W.findIn K (.ref c16C) "__len__" = some (some (.ref c16m2f)))
    (z89 : PySem.W.isFn K (.ref c16m2f) = true)
    (z90 : K.lookup c16m2f = some ⟨c16m2oc, c16m2od, .func (PySem.W.fnOf "__len__" "Table.__len__" (defArgs sTable_len) (defBody sTable_len) (defScope sTable_len) .none c16m2kV c16m2dc c16m2pm c16m2an c16m2cd c16m2ct), c16m2sl⟩)
    (z91 : PySem.W.codeIn K c16m2cd "Table.__len__" = true)
    (z92 : PySem.W.keepIn K (.ref c16m2f) = true)
    (z93 : PySem.W.findIn K (.ref c16C) "__iter__" = some (some (.ref c16m3f)))
    (z94 : PySem.W.isFn K (.ref c16m3f) = true)
    (z95 : K.lookup c16m3f = some ⟨c16m3oc, c16m3od, .func (PySem.W.fnOf "__iter__" "Table.__iter__" (defArgs sTable_iter) (defBody sTable_iter) (defScope sTable_iter) .none c16m3kV c16m3dc c16m3pm c16m3an c16m3cd c16m3ct), c16m3sl⟩)
    (z96 : PySem.W.codeIn K c16m3cd "Table.__iter__" = true)
    (z97 : PySem.W.keepIn K (.ref c16m3f) = true)
    (z98 : PySem.W.findIn K (.ref c16C) "__contains__" = some (some (.ref c16m4f)))
    (z99 : PySem.W.isFn K (.ref c16m4f) = true)
    (z100 : K.lookup c16m4f = some ⟨c16m4oc, c16m4od, .func (PySem.W.fnOf "__contains__" "Table.__contains__" (defArgs sTable_contains) (defBody sTable_contains) (defScope sTable_contains) .none c16m4kV c16m4dc c16m4pm c16m4an c16m4cd c16m4ct), c16m4sl⟩)
    (z101 : PySem.W.codeIn K c16m4cd "Table.__contains__" = true)
    (z102 : PySem.W.keepIn K (.ref c16m4f) = true)
    (z103 : PySem.W.findIn K (.ref c16C) "need_alike" = some (some (.ref c16m5f)))
    (z104 : PySem.W.isFn K (.ref c16m5f) = true)
    (z105 : K.lookup c16m5f = some ⟨c16m5oc, c16m5od, .func (PySem.W.fnOf "need_alike" "Table.need_alike" (defArgs sTable_need_alike) (defBody sTable_need_alike) (defScope sTable_need_alike) .none c16m5kV c16m5dc c16m5pm c16m5an c16m5cd c16m5ct), c16m5sl⟩)
    (z106 : PySem.W.codeIn K c16m5cd "Table.need_alike" = true)
    (z107 : PySem.W.keepIn K (.ref c16m5f) = true)
    (z108 : PySem.W.findIn K (.ref c16C) "__and__" = some (some (.ref c16m6f)))
    (z109 : PySem.W.isFn K (.ref c16m6f) = true)
    (z110 : K.lookup c16m6f = some ⟨c16m6oc, c16m6od, .func (PySem.W.fnOf "__and__" "Table.__and__" (defArgs sTable_and) (defBody sTable_and) (defScope sTable_and) .none c16m6kV c16m6dc c16m6pm c16m6an c16m6cd c16m6ct), c16m6sl⟩)
    (z111 : PySem.W.codeIn K c16m6cd "Table.__and__" = true)
    (z112 : PySem.W.keepIn K (.ref c16m6f) = true)
    (z113 : PySem.W.findIn K (.ref c16C) "__or__" = some (some (.ref c16m7f)))
    (z114 : PySem.W.isFn K (.ref c16m7f) = true)
    (z115 : K.lookup c16m7f = some ⟨c16m7oc, c16m7od, .func (PySem.W.fnOf "__or__" "Table.__or__" (defArgs sTable_or) (defBody sTable_or) (defScope sTable_or) .none c16m7kV c16m7dc c16m7pm c16m7an c16m7cd c16m7ct), c16m7sl⟩)
    (z116 : PySem.W.codeIn K c16m7cd "Table.__or__" = true)
    (z117 : PySem.W.keepIn K (.ref c16m7f) = true)
    (z118 : PySem.W.findIn K (.ref c16C) "__sub__" = some (some (.ref c16m8f)))
    (z119 : PySem.W.isFn K (.ref c16m8f) = true)
    (z120 : K.lookup c16m8f = some ⟨c16m8oc, c16m8od, .func (PySem.W.fnOf "__sub__" "Table.__sub__" (defArgs sTable_sub) (defBody sTable_sub) (defScope sTable_sub) .none c16m8kV c16m8dc c16m8pm c16m8an c16m8cd c16m8ct), c16m8sl⟩)
    (z121 : PySem.W.codeIn K c16m8cd "Table.__sub__" = true)
    (z122 : PySem.W.keepIn K (.ref c16m8f) = true)
    (z123 : PySem.W.findIn K (.ref c16C) "__mul__" = some (some (.ref c16m9f)))
    (z124 : PySem.W.isFn K (.ref c16m9f) = true)
    (z125 : K.lookup c16m9f = some ⟨c16m9oc, c16m9od, .func (PySem.W.fnOf "__mul__" "Table.__mul__" (defArgs sTable_mul) (defBody sTable_mul) (defScope sTable_mul) .none c16m9kV c16m9dc c16m9pm c16m9an c16m9cd c16m9ct), c16m9sl⟩)
    (z126 : PySem.W.codeIn K c16m9cd "Table.__mul__" = true)
    (z127 : PySem.W.keepIn K (.ref c16m9f) = true)
    (z128 : PySem.W.findIn K (.ref c16C) "__invert__" = some (some (.ref c16m10f)))
    (z129 : PySem.W.isFn K (.ref c16m10f) = true)
    (z130 : K.lookup c16m10f = some ⟨c16m10oc, c16m10od, .func (PySem.W.fnOf "__invert__" "Table.__invert__" (defArgs sTable_invert) (defBody sTable_invert) (defScope sTable_invert) .none c16m10kV c16m10dc c16m10pm c16m10an c16m10cd c16m10ct), c16m10sl⟩)
    (z131 : PySem.W.codeIn K c16m10cd "Table.__invert__" = true)
    (z132 : PySem.W.keepIn K (.ref c16m10f) = true)
    (z133 : PySem.W.findIn K (.ref c16C) "column" = some (some (.ref c16m11f)))
    (z134 : PySem.W.isFn K (.ref c16m11f) = true)
    (z135 : K.lookup c16m11f = some ⟨c16m11oc, c16m11od, .func (PySem.W.fnOf "column" "Table.column" (defArgs sTable_column) (defBody sTable_column) (defScope sTable_column) .none c16m11kV c16m11dc c16m11pm c16m11an c16m11cd c16m11ct), c16m11sl⟩)
    (z136 : PySem.W.codeIn K c16m11cd "Table.column" = true)
    (z137 : PySem.W.keepIn K (.ref c16m11f) = true)
    (z138 : PySem.W.mroIn K c16C (.type "object") = some true)
    (z139 : PySem.W.makesIn K c16C = true)
    (z140 : PySem.W.findIn K (.ref c16C) "__ne__" = some (some (.builtin "object.__ne__")))
    (z141 : PySem.W.selfFirst K c16C = true)
    (z142 : PySem.W.findIn K (.ref c16C) "__class__" = some (some (.builtin "object.__class__")))
    (z143 : PySem.W.specialIn K (.builtin "object.__class__") "__get__" = some (some (.builtin "getset_descriptor.__get__")))
    (z144 : PySem.W.takesIn K (.builtin "object.__class__") = some true)
    (z145 : PySem.W.findIn K (.ref c16C) "domain" = some none)
    (z146 : PySem.W.findIn K (.ref c16C) "width" = some none)
    (z147 : PySem.W.findIn K (.ref c16C) "rows" = some none)
    (z148 : PySem.W.findIn K (.ref c16C) "is_full" = some none)
    (z149 : PySem.W.findIn K (.ref c16C) "is_product" = some none)
    (z150 : PySem.W.nsIn K mainGlobals "is_integer" = some (some (.ref d10f)))
    (z151 : K.lookup d10f = some ⟨d10oc, d10od, .func (PySem.W.fnOf "is_integer" "is_integer" (defArgs sIsInteger) (defBody sIsInteger) (defScope sIsInteger) .none d10kV d10dc d10pm d10an d10cd d10ct), d10sl⟩)
    (z152 : PySem.W.codeIn K d10cd "is_integer" = true)
    (z153 : PySem.W.keepIn K (.ref d10f) = true)
    (z154 : PySem.W.nsIn K mainGlobals "is_name" = some (some (.ref d11f)))
    (z155 : K.lookup d11f = some ⟨d11oc, d11od, .func (PySem.W.fnOf "is_name" "is_name" (defArgs sIsName) (defBody sIsName) (defScope sIsName) .none d11kV d11dc d11pm d11an d11cd d11ct), d11sl⟩)
    (z156 : PySem.W.codeIn K d11cd "is_name" = true)
    (z157 : PySem.W.keepIn K (.ref d11f) = true)
    (z158 : PySem.W.nsIn K mainGlobals "is_domain" = some (some (.ref d12f)))
    (z159 : K.lookup d12f = some ⟨d12oc, d12od, .func (PySem.W.fnOf "is_domain" "is_domain" (defArgs sIsDomain) (defBody sIsDomain) (defScope sIsDomain) .none d12kV d12dc d12pm d12an d12cd d12ct), d12sl⟩)
    (z160 : PySem.W.codeIn K d12cd "is_domain" = true)
    (z161 : PySem.W.keepIn K (.ref d12f) = true)
    (z162 : PySem.W.nsIn K mainGlobals "all_rows" = some (some (.ref d13f)))
    (z163 : K.lookup d13f = some ⟨d13oc, d13od, .func (PySem.W.fnOf "all_rows" "all_rows" (defArgs sAllRows) (defBody sAllRows) (defScope sAllRows) .none d13kV d13dc d13pm d13an d13cd d13ct), d13sl⟩)
    (z164 : PySem.W.codeIn K d13cd "all_rows" = true)
    (z165 : PySem.W.keepIn K (.ref d13f) = true)
    (z166 : PySem.W.nsIn K mainGlobals "is_row" = some (some (.ref d14f)))
    (z167 : K.lookup d14f = some ⟨d14oc, d14od, .func (PySem.W.fnOf "is_row" "is_row" (defArgs sIsRow) (defBody sIsRow) (defScope sIsRow) .none d14kV d14dc d14pm d14an d14cd d14ct), d14sl⟩)
    (z168 : PySem.W.codeIn K d14cd "is_row" = true)
    (z169 : PySem.W.keepIn K (.ref d14f) = true)
    (z170 : PySem.W.nsIn K mainGlobals "are_rows" = some (some (.ref d15f)))
    (z171 : K.lookup d15f = some ⟨d15oc, d15od, .func (PySem.W.fnOf "are_rows" "are_rows" (defArgs sAreRows) (defBody sAreRows) (defScope sAreRows) .none d15kV d15dc d15pm d15an d15cd d15ct), d15sl⟩)
    (z172 : PySem.W.codeIn K d15cd "are_rows" = true)
    (z173 : PySem.W.keepIn K (.ref d15f) = true)
    (z174 : PySem.W.nsIn K mainGlobals "_law_deck" = some (some (.ref d18f)))
    (z175 : K.lookup d18f = some ⟨d18oc, d18od, .func (PySem.W.fnOf "_law_deck" "_law_deck" (defArgs sLDeck) (defBody sLDeck) (defScope sLDeck) .none d18kV d18dc d18pm d18an d18cd d18ct), d18sl⟩)
    (z176 : PySem.W.codeIn K d18cd "_law_deck" = true)
    (z177 : PySem.W.keepIn K (.ref d18f) = true)
    (z178 : PySem.W.nsIn K mainGlobals "_law_draw" = some (some (.ref d19f)))
    (z179 : K.lookup d19f = some ⟨d19oc, d19od, .func (PySem.W.fnOf "_law_draw" "_law_draw" (defArgs sLDraw) (defBody sLDraw) (defScope sLDraw) .none d19kV d19dc d19pm d19an d19cd d19ct), d19sl⟩)
    (z180 : PySem.W.codeIn K d19cd "_law_draw" = true)
    (z181 : PySem.W.keepIn K (.ref d19f) = true)
    (z182 : PySem.W.nsIn K mainGlobals "_law_pick" = some (some (.ref d20f)))
    (z183 : K.lookup d20f = some ⟨d20oc, d20od, .func (PySem.W.fnOf "_law_pick" "_law_pick" (defArgs sLPick) (defBody sLPick) (defScope sLPick) .none d20kV d20dc d20pm d20an d20cd d20ct), d20sl⟩)
    (z184 : PySem.W.codeIn K d20cd "_law_pick" = true)
    (z185 : PySem.W.keepIn K (.ref d20f) = true)
    (z186 : PySem.W.nsIn K mainGlobals "_law_words" = some (some (.ref d21f)))
    (z187 : K.lookup d21f = some ⟨d21oc, d21od, .func (PySem.W.fnOf "_law_words" "_law_words" (defArgs sLWords) (defBody sLWords) (defScope sLWords) .none d21kV d21dc d21pm d21an d21cd d21ct), d21sl⟩)
    (z188 : PySem.W.codeIn K d21cd "_law_words" = true)
    (z189 : PySem.W.keepIn K (.ref d21f) = true)
    (z190 : PySem.W.nsIn K mainGlobals "_law_every" = some (some (.ref d22f)))
    (z191 : K.lookup d22f = some ⟨d22oc, d22od, .func (PySem.W.fnOf "_law_every" "_law_every" (defArgs sLEvery) (defBody sLEvery) (defScope sLEvery) .none d22kV d22dc d22pm d22an d22cd d22ct), d22sl⟩)
    (z192 : PySem.W.codeIn K d22cd "_law_every" = true)
    (z193 : PySem.W.keepIn K (.ref d22f) = true)
    (z194 : PySem.W.nsIn K mainGlobals "_law_lines" = some (some (.ref d23f)))
    (z195 : K.lookup d23f = some ⟨d23oc, d23od, .func (PySem.W.fnOf "_law_lines" "_law_lines" (defArgs sLLines) (defBody sLLines) (defScope sLLines) .none d23kV d23dc d23pm d23an d23cd d23ct), d23sl⟩)
    (z196 : PySem.W.codeIn K d23cd "_law_lines" = true)
    (z197 : PySem.W.keepIn K (.ref d23f) = true)
    (z198 : PySem.W.nsIn K mainGlobals "_law_is" = some (some (.ref d24f)))
    (z199 : K.lookup d24f = some ⟨d24oc, d24od, .func (PySem.W.fnOf "_law_is" "_law_is" (defArgs sLIs) (defBody sLIs) (defScope sLIs) .none d24kV d24dc d24pm d24an d24cd d24ct), d24sl⟩)
    (z200 : PySem.W.codeIn K d24cd "_law_is" = true)
    (z201 : PySem.W.keepIn K (.ref d24f) = true)
    (z202 : PySem.W.nsIn K mainGlobals "_law_word" = some (some (.ref d25f)))
    (z203 : K.lookup d25f = some ⟨d25oc, d25od, .func (PySem.W.fnOf "_law_word" "_law_word" (defArgs sLWord) (defBody sLWord) (defScope sLWord) .none d25kV d25dc d25pm d25an d25cd d25ct), d25sl⟩)
    (z204 : PySem.W.codeIn K d25cd "_law_word" = true)
    (z205 : PySem.W.keepIn K (.ref d25f) = true)
    (z206 : PySem.W.nsIn K mainGlobals "_law_both_words" = some (some (.ref d26f)))
    (z207 : K.lookup d26f = some ⟨d26oc, d26od, .func (PySem.W.fnOf "_law_both_words" "_law_both_words" (defArgs sLBothWords) (defBody sLBothWords) (defScope sLBothWords) .none d26kV d26dc d26pm d26an d26cd d26ct), d26sl⟩)
    (z208 : PySem.W.codeIn K d26cd "_law_both_words" = true)
    (z209 : PySem.W.keepIn K (.ref d26f) = true)
    (z210 : PySem.W.nsIn K mainGlobals "_law_alike_right" = some (some (.ref d27f)))
    (z211 : K.lookup d27f = some ⟨d27oc, d27od, .func (PySem.W.fnOf "_law_alike_right" "_law_alike_right" (defArgs sLAlikeRight) (defBody sLAlikeRight) (defScope sLAlikeRight) .none d27kV d27dc d27pm d27an d27cd d27ct), d27sl⟩)
    (z212 : PySem.W.codeIn K d27cd "_law_alike_right" = true)
    (z213 : PySem.W.keepIn K (.ref d27f) = true)
    (z214 : PySem.W.nsIn K mainGlobals "_law_times_right" = some (some (.ref d28f)))
    (z215 : K.lookup d28f = some ⟨d28oc, d28od, .func (PySem.W.fnOf "_law_times_right" "_law_times_right" (defArgs sLTimesRight) (defBody sLTimesRight) (defScope sLTimesRight) .none d28kV d28dc d28pm d28an d28cd d28ct), d28sl⟩)
    (z216 : PySem.W.codeIn K d28cd "_law_times_right" = true)
    (z217 : PySem.W.keepIn K (.ref d28f) = true)
    (z218 : PySem.W.nsIn K mainGlobals "_law_unlike_right" = some (some (.ref d29f)))
    (z219 : K.lookup d29f = some ⟨d29oc, d29od, .func (PySem.W.fnOf "_law_unlike_right" "_law_unlike_right" (defArgs sLUnlikeRight) (defBody sLUnlikeRight) (defScope sLUnlikeRight) .none d29kV d29dc d29pm d29an d29cd d29ct), d29sl⟩)
    (z220 : PySem.W.codeIn K d29cd "_law_unlike_right" = true)
    (z221 : PySem.W.keepIn K (.ref d29f) = true)
    (z222 : PySem.W.nsIn K mainGlobals "law" = some (some (.ref d30f)))
    (z223 : K.lookup d30f = some ⟨d30oc, d30od, .func (PySem.W.fnOf "law" "law" (defArgs sLaw) (defBody sLaw) (defScope sLaw) .none d30kV d30dc d30pm d30an d30cd d30ct), d30sl⟩)
    (z224 : PySem.W.codeIn K d30cd "law" = true)
    (z225 : PySem.W.keepIn K (.ref d30f) = true) : Facts P K mg where
  bis := Bis.of X G z1 z2 z3 z4 z5 z6 z7 z8 z9 z10 z11 z12 z13 z14 z15
  g_LETTERS := ⟨_, PySem.W.mg_of X G z16⟩
  g_LONGEST_NAME := ⟨_, PySem.W.mg_of X G z17⟩
  g_MOST_VALUES := ⟨_, PySem.W.mg_of X G z18⟩
  g_MOST_WIDTH := ⟨_, PySem.W.mg_of X G z19⟩
  n_ClashnumberError := ⟨_, PySem.W.mg_of X G z20⟩
  NoTable := { C := e3C, fI := e3fI, at_ := PySem.W.mg_of X G z21, xi := { cls := ⟨_, _, _, _, _, _, _, _, _, _, _, _, _, _, _, z23, z24⟩, sa := z25, exC := z26, exE := z27, tyC := z28, kC := z29, init := z22, tI := z30, no := z31, fn := ⟨_, _, _, _, _, _, _, _, _, _, _, _, _, _, _, _, _, _, _, _, _, _, _, _, _, z32, z33, fun _ _ => rfl, fun _ => ⟨_, rfl⟩, ⟨_, _, _, z34⟩, ⟨_, _, _, _, _, _, z35, z36, z37⟩⟩, up := z38, opq := z39, wdl := by decide +kernel, slf := by decide +kernel, sup := by decide +kernel, cll := by decide +kernel, dbg := by decide +kernel, wds := by decide +kernel, top := z40 }, xf := ⟨z41, z42, z26, z43⟩, no := z31, me := exm_selfK z26 z44 z28 z45 }
  NoBook := { C := e4C, fI := e4fI, at_ := PySem.W.mg_of X G z46, xi := { cls := ⟨_, _, _, _, _, _, _, _, _, _, _, _, _, _, _, z48, z49⟩, sa := z50, exC := z51, exE := z52, tyC := z53, kC := z54, init := z47, tI := z55, no := z56, fn := ⟨_, _, _, _, _, _, _, _, _, _, _, _, _, _, _, _, _, _, _, _, _, _, _, _, _, z57, z58, fun _ _ => rfl, fun _ => ⟨_, rfl⟩, ⟨_, _, _, z59⟩, ⟨_, _, _, _, _, _, z60, z61, z62⟩⟩, up := z63, opq := z64, wdl := by decide +kernel, slf := by decide +kernel, sup := by decide +kernel, cll := by decide +kernel, dbg := by decide +kernel, wds := by decide +kernel, top := z65 }, xf := ⟨z66, z67, z51, z68⟩, no := z56, me := exm_selfK z51 z69 z53 z70 }
  Table := ⟨c16C, PySem.W.mg_of X G z71, z72, ⟨z73, z74, z75, z76⟩⟩
  Table_init := MFV.of z77 z78 z79 z80 z81 z82 (fun _ _ _ _ _ _ _ _ us hl => match us, hl with | [_, _, _, _], _ => ⟨_, rfl, rfl⟩)
  Table_eq := MF.of z83 z84 z85 z86 z87 (fun _ _ _ _ _ _ us hl => match us, hl with | [_, _], _ => rfl)
  Table_len := MF.of z88 z89 z90 z91 z92 (fun _ _ _ _ _ _ us hl => match us, hl with | [_], _ => rfl)
  Table_iter := MF.of z93 z94 z95 z96 z97 (fun _ _ _ _ _ _ us hl => match us, hl with | [_], _ => rfl)
  Table_contains := MF.of z98 z99 z100 z101 z102 (fun _ _ _ _ _ _ us hl => match us, hl with | [_, _], _ => rfl)
  Table_need_alike := MF.of z103 z104 z105 z106 z107 (fun _ _ _ _ _ _ us hl => match us, hl with | [_, _], _ => rfl)
  Table_and := MF.of z108 z109 z110 z111 z112 (fun _ _ _ _ _ _ us hl => match us, hl with | [_, _], _ => rfl)
  Table_or := MF.of z113 z114 z115 z116 z117 (fun _ _ _ _ _ _ us hl => match us, hl with | [_, _], _ => rfl)
  Table_sub := MF.of z118 z119 z120 z121 z122 (fun _ _ _ _ _ _ us hl => match us, hl with | [_, _], _ => rfl)
  Table_mul := MF.of z123 z124 z125 z126 z127 (fun _ _ _ _ _ _ us hl => match us, hl with | [_, _], _ => rfl)
  Table_invert := MF.of z128 z129 z130 z131 z132 (fun _ _ _ _ _ _ us hl => match us, hl with | [_], _ => rfl)
  Table_column := MF.of z133 z134 z135 z136 z137 (fun _ _ _ _ _ _ us hl => match us, hl with | [_, _], _ => rfl)
  Table_mk := ⟨z139, z77, z78, z72⟩
  Table_own := ⟨z83, z84, z140, z138⟩
  Table_sf := z141
  Table_ty := ⟨⟨z73, z74, z75, z76⟩, z142, z143, z144, z138⟩
  Table_no_domain := z145
  Table_no_width := z146
  Table_no_rows := z147
  Table_no_is_full := z148
  Table_no_is_product := z149
  is_integer := DF.of X G z150 z151 z152 z153 (fun _ _ _ _ _ _ us hl => match us, hl with | [_], _ => rfl)
  is_name := DF.of X G z154 z155 z156 z157 (fun _ _ _ _ _ _ us hl => match us, hl with | [_], _ => rfl)
  is_domain := DF.of X G z158 z159 z160 z161 (fun _ _ _ _ _ _ us hl => match us, hl with | [_], _ => rfl)
  all_rows := DF.of X G z162 z163 z164 z165 (fun _ _ _ _ _ _ us hl => match us, hl with | [_, _], _ => rfl)
  is_row := DF.of X G z166 z167 z168 z169 (fun _ _ _ _ _ _ us hl => match us, hl with | [_, _, _], _ => rfl)
  are_rows := DF.of X G z170 z171 z172 z173 (fun _ _ _ _ _ _ us hl => match us, hl with | [_, _, _], _ => rfl)
  _law_deck := DF.of X G z174 z175 z176 z177 (fun _ _ _ _ _ _ us hl => match us, hl with | [_], _ => rfl)
  _law_draw := DF.of X G z178 z179 z180 z181 (fun _ _ _ _ _ _ us hl => match us, hl with | [_, _], _ => rfl)
  _law_pick := DF.of X G z182 z183 z184 z185 (fun _ _ _ _ _ _ us hl => match us, hl with | [_, _], _ => rfl)
  _law_words := DF.of X G z186 z187 z188 z189 (fun _ _ _ _ _ _ us hl => match us, hl with | [_, _], _ => rfl)
  _law_every := DF.of X G z190 z191 z192 z193 (fun _ _ _ _ _ _ us hl => match us, hl with | [_, _], _ => rfl)
  _law_lines := DF.of X G z194 z195 z196 z197 (fun _ _ _ _ _ _ us hl => match us, hl with | [_, _], _ => rfl)
  _law_is := DF.of X G z198 z199 z200 z201 (fun _ _ _ _ _ _ us hl => match us, hl with | [_, _, _, _], _ => rfl)
  _law_word := DF.of X G z202 z203 z204 z205 (fun _ _ _ _ _ _ us hl => match us, hl with | [_, _, _], _ => rfl)
  _law_both_words := DF.of X G z206 z207 z208 z209 (fun _ _ _ _ _ _ us hl => match us, hl with | [_, _, _], _ => rfl)
  _law_alike_right := DF.of X G z210 z211 z212 z213 (fun _ _ _ _ _ _ us hl => match us, hl with | [_, _, _, _], _ => rfl)
  _law_times_right := DF.of X G z214 z215 z216 z217 (fun _ _ _ _ _ _ us hl => match us, hl with | [_, _, _, _], _ => rfl)
  _law_unlike_right := DF.of X G z218 z219 z220 z221 (fun _ _ _ _ _ _ us hl => match us, hl with | [_, _, _, _], _ => rfl)
  law := DF.of X G z222 z223 z224 z225 (fun _ _ _ _ _ _ us hl => match us, hl with | [_], _ => rfl)
section
variable {P : Program} {w : World} {K : PySem.W.Frag} {mg : Str → Option Value} {base : Heap}
abbrev letters : Str := "abcdefghijklmnopqrstuvwxyz"
structure Txt (K : PySem.W.Frag) (mg : Str → Option Value) : Prop where
  bis : Bis mg
  letters : ∃ t, mg "LETTERS" = some (.str letters t)
  longest : ∃ t, mg "LONGEST_NAME" = some (.int 8 t)
  most : ∃ t, mg "MOST_VALUES" = some (.int 3 t)
/-- a name: a text of 1 to 8 letters -/
def isNameS (z : Str) : Bool := decide (1 ≤ z.length) && decide (z.length ≤ 8) && z.cps.toList.all fun c => decide (c ∈ letters.cps.toList)
def isNameD : D → Bool
  | .str z => isNameS z
  | _ => false
theorem scIsName : FnScope ["thing", "letter"] ["thing"] (defScope sIsName) := ⟨rfl, rfl, rfl, by decide +kernel, rfl, by decide +kernel, by decide +kernel⟩
def dspIsName : DSp := fun ds S Q _ => ∃ d t, ds = [d] ∧ tyD S d = some t ∧ (∀ z, d = .str z → z.length ≤ sizeLine) ∧ Q (.bl (isNameD d)) S
theorem ok_isName {f : Addr} {fd : FuncData} (F : Fun K "is_name" "is_name" sIsName f fd) (T : Txt K mg) : FnD P w K mg base 1 f fd ["thing"] dspIsName := by
  obtain ⟨tl, hl⟩ := T.letters
  obtain ⟨tn, hn⟩ := T.longest
  refine fn_ofE (k := 0) F scIsName (fun ds S Q E ⟨d, t, e, _⟩ => by subst e; rfl) fun cdv A outer s H E hr hgd tk hp => ?_
  refine ⟨_, dss_cons (ds_if (DW.dt (dw_or (dt_not (dt_val (de_isi T.bis T.bis.str PyProof.Rows.boot_str (dv 0)))) (dw_or1 (dt_not (dt_chain op_le op_le (lift_cmpI _) (lift_cmpI _) de_int (de_len T.bis (dv 0)) (de_globI hn)))))) (dss_one (ds_ret de_bl)) dss_nil)
      (dss_one (ds_ret (de_all rfl T.bis (de_lc (own := [("letter", 1)]) rfl scIsName.nd (di_str (dv 0)) (⟨rfl, by decide +kernel, by decide +kernel, by decide +kernel, by decide +kernel⟩ : BlkOk ["thing", "letter"] (defScope sIsName) _ [("letter", 1)]) (fun s H C cl fp => dg_name 1 scIsName.nd) (fun s H C cl fp => dts_nil)
        (fun s H C cl fp => de_cmp op_in_sign lift_inS (dv 1) (de_globS hl) rfl))))), ?_⟩
  intro ds S Q E' ⟨d, t, e, ht, hz, q⟩
  subst e
  refine ⟨d, rfl, t, ht, (by decide), ?_⟩
  obtain ⟨e1, _⟩ := ty_is ht
  rw [e1]
  refine ⟨_, rfl, iteB (fun hb => iteT ?_) fun hb => ?_⟩
  · have e2 : isNameD d = false := by
      cases d with
      | str z => cases hb
      | _ => rfl
    rw [e2] at q
    exact q
  · obtain ⟨z, rfl⟩ := isStr_of (d := d) (by simpa using hb)
    have hz := hz z rfl
    refine ⟨_, rfl, z.length, if_pos hz, 1, z.length, rfl, rfl, _, rfl, iteB (fun h1 => ⟨_, _, rfl, rfl, _, rfl, iteB (fun h2 => ?_) fun h2 => ?_⟩) fun h1 => ⟨_, rfl, iteT ?_⟩⟩
    · have e2 : isNameS z = false := by
        unfold isNameS
        have h3 : ¬ z.length ≤ 8 := by
          have h4 : decide ((z.length : Int) ≤ 8) = false := by simpa using h2
          have h5 := of_decide_eq_false h4
          omega
        simp [h3]
      have q' : Q (.bl (isNameS z)) S := q
      rw [e2] at q'
      exact q'
    · refine ⟨_, rfl, z, rfl, (by unfold signs; rw [List.length_map, Array.length_toList]; exact hz), lcgo_map (fun c : Nat => D.str ⟨#[c]⟩) (fun c => D.bl (decide (c ∈ letters.cps.toList))) _ [] (fun c _ => ⟨_, rfl, fun R r => ⟨_, rfl, c, letters, rfl, rfl, r⟩⟩) ?_⟩
      refine ⟨z.cps.toList.map fun c => decide (c ∈ letters.cps.toList), by rw [List.nil_append, List.map_map]; rfl, ?_⟩
      have e2 : isNameS z = (z.cps.toList.map fun c => decide (c ∈ letters.cps.toList)).all id := by
        unfold isNameS
        have h3 : 1 ≤ z.length := by
          have h4 := of_decide_eq_true h1
          omega
        have h4 : z.length ≤ 8 := by
          have h5 : decide ((z.length : Int) ≤ 8) = true := by simpa using h2
          have h6 := of_decide_eq_true h5
          omega
        simp [h3, h4, List.all_map]
      have q' : Q (.bl (isNameS z)) S := q
      rw [e2] at q'
      exact q'
    · have e2 : isNameS z = false := by
        unfold isNameS
        have h3 : ¬ 1 ≤ z.length := by
          have h4 := of_decide_eq_false h1
          omega
        simp [h3]
      have q' : Q (.bl (isNameS z)) S := q
      rw [e2] at q'
      exact q'
/-- a domain: one to three names, ascending, each once -/
def strsOf : List D → Option (List Str)
  | [] => some []
  | .str z :: r => (strsOf r).map (z :: ·)
  | _ :: _ => none
def isDomD : D → Bool
  | .tup ds => decide (1 ≤ ds.length) && decide (ds.length ≤ 3) && ds.all isNameD && (match strsOf ds with
    | some ss => decide (ss = DLS.uniqS ss)
    | none => false)
  | _ => false
/-- data whose texts can be measured -/
def OkI (S : Store) (d : D) : Prop := (∃ t, tyD S d = some t) ∧ ∀ z, d = .str z → z.length ≤ sizeLine
def dspIsDomain : DSp := fun ds S Q _ => ∃ d, ds = [d] ∧ OkI S d ∧ (∀ es, d = .tup es → ∀ e ∈ es, OkI S e) ∧ Q (.bl (isDomD d)) S
theorem strsOf_map : ∀ ss : List Str, strsOf (ss.map .str) = some ss
  | [] => rfl
  | x :: ss => by
    show (strsOf (ss.map .str)).map (x :: ·) = _
    rw [strsOf_map ss]
    rfl
theorem names_of : ∀ {es : List D}, es.all isNameD = true → ∃ ss : List Str, es = ss.map .str ∧ ∀ z ∈ ss, isNameS z = true
  | [], _ => ⟨[], rfl, fun z hz => by cases hz⟩
  | e :: es, h => by
    rw [List.all_cons, Bool.and_eq_true] at h
    obtain ⟨ss, h1, h2⟩ := names_of h.2
    cases e with
    | str z => exact ⟨z :: ss, by rw [h1]; rfl, fun y hy => by
        rcases List.mem_cons.mp hy with e | hy
        · rw [e]; exact h.1
        · exact h2 y hy⟩
    | _ => cases h.1
theorem letters_ok : (letters.cps.toList.all fun c => decide (c < 0x110000)) = true := by decide +kernel
theorem name_ok {z : Str} (h : isNameS z = true) : PyData.strOk z = true ∧ z.length ≤ 8 := by
  unfold isNameS at h
  rw [Bool.and_eq_true, Bool.and_eq_true] at h
  refine ⟨?_, of_decide_eq_true h.1.2⟩
  unfold PyData.strOk
  rw [Array.all_eq_true_iff_forall_mem]
  intro c hc
  have h1 := List.all_eq_true.mp h.2 c (by simpa using hc)
  exact List.all_eq_true.mp letters_ok c (of_decide_eq_true h1)
theorem scIsDomain : FnScope ["thing", "value"] ["thing"] (defScope sIsDomain) := ⟨rfl, rfl, rfl, by decide +kernel, rfl, by decide +kernel, by decide +kernel⟩
theorem ok_isDomain {f fN : Addr} {fd fdN : FuncData} (F : Fun K "is_domain" "is_domain" sIsDomain f fd) (T : Txt K mg) (N : DefD P w K mg base 1 "is_name" ["thing"] dspIsName fN fdN) : FnD P w K mg base 2 f fd ["thing"] dspIsDomain := by
  obtain ⟨tn, hn⟩ := T.most
  refine fn_ofE (k := 1) F scIsDomain (fun ds S Q E ⟨d, e, _⟩ => by subst e; rfl) fun cdv A outer s H E hr hgd tk hp => ?_
  refine ⟨_, dss_cons (ds_if (DW.dt (dw_or (dt_not (dt_val (de_isi T.bis T.bis.tuple PyProof.Rows.boot_tuple (dv 0)))) (dw_or1 (dt_not (dt_chain op_le op_le (lift_cmpI _) (lift_cmpI _) de_int (de_len T.bis (dv 0)) (de_globI hn)))))) (dss_one (ds_ret de_bl)) dss_nil)
      (dss_one (ds_ret (de_and (de_all rfl T.bis (de_lc (own := [("value", 1)]) rfl scIsDomain.nd (di_tup (dv 0)) (⟨rfl, by decide +kernel, by decide +kernel, by decide +kernel, by decide +kernel⟩ : BlkOk ["thing", "value"] (defScope sIsDomain) _ [("value", 1)]) (fun s H C cl fp => dg_name 1 scIsDomain.nd) (fun s H C cl fp => dts_nil)
        (fun s H C cl fp => de_def N hr hgd takes_none5 (da_cons (dv 1) da_nil))))
        (de_one (de_cmp (op_eqD hr.units) lift_eq (dv 0) (de_tuple T.bis (de_sortSet rfl T.bis.sorted T.bis.set (dv 0))) rfl))))), ?_⟩
  intro ds S Q E' ⟨d, e, ok, oks, q⟩
  subst e
  obtain ⟨t, ht⟩ := ok.1
  refine ⟨d, rfl, t, ht, (by decide), ?_⟩
  obtain ⟨_, e1, _⟩ := ty_is ht
  rw [e1]
  refine ⟨_, rfl, iteB (fun hb => iteT ?_) fun hb => ?_⟩
  · have e2 : isDomD d = false := by
      cases d with
      | tup z => cases hb
      | _ => rfl
    rw [e2] at q
    exact q
  · obtain ⟨es, rfl⟩ := isTup_of (d := d) (by simpa using hb)
    have oks := oks es rfl
    refine ⟨_, rfl, es.length, rfl, 1, es.length, rfl, rfl, _, rfl, iteB (fun h1 => ⟨_, _, rfl, rfl, _, rfl, iteB (fun h2 => ?_) fun h2 => ?_⟩) fun h1 => ⟨_, rfl, iteT ?_⟩⟩
    · have e2 : isDomD (.tup es) = false := by
        have h3 : ¬ es.length ≤ 3 := by
          have h4 : decide ((es.length : Int) ≤ 3) = false := by simpa using h2
          have h5 := of_decide_eq_false h4
          omega
        simp [isDomD, h3]
      rw [e2] at q
      exact q
    · have l1 : 1 ≤ es.length := by
        have h4 := of_decide_eq_true h1
        omega
      have l3 : es.length ≤ 3 := by
        have h5 : decide ((es.length : Int) ≤ 3) = true := by simpa using h2
        have h6 := of_decide_eq_true h5
        omega
      refine ⟨_, rfl, es, rfl, (by rw [sizeLine_eq]; omega), lcgo_pure (fun e => .bl (isNameD e)) es [] (fun e he => ?_) ?_⟩
      · obtain ⟨⟨t, ht⟩, hz⟩ := oks e he
        exact ⟨_, rfl, fun R r => ⟨_, rfl, e, t, rfl, ht, hz, r⟩⟩
      · refine ⟨es.map isNameD, by rw [List.nil_append, List.map_map]; rfl, _, rfl, ?_⟩
        have ea : (es.map isNameD).all id = es.all isNameD := by rw [List.all_map]; rfl
        rw [ea]
        refine iteB (fun ha => ?_) fun ha => ?_
        · obtain ⟨ss, rfl, nm⟩ := names_of ha
          rw [List.length_map] at l1 l3
          have so := shaped_strs (a := ss) fun z hz => (name_ok (nm z hz)).1
          have su := shaped_strs (a := DLS.uniqS ss) fun z hz => (name_ok (nm z (DLS.uniqS_mem.mp hz))).1
          refine ⟨_, rfl, _, rfl, ss, rfl, by omega, _, rfl, _, _, toPy_strs _, toPy_strs _, so.1, su.1, ?_⟩
          have e2 : isDomD (.tup (ss.map .str)) = PyData.eqv (.tuple (ss.map .str)) (.tuple ((DLS.uniqS ss).map .str)) := by
            rw [eqv_tstrs]
            simp [isDomD, l1, l3, ha, strsOf_map]
          rw [e2] at q
          exact q
        · have e2 : isDomD (.tup es) = false := by simp [isDomD, ha]
          rw [e2] at q
          exact q
    · have e2 : isDomD (.tup es) = false := by
        have h3 : ¬ 1 ≤ es.length := by
          have h4 := of_decide_eq_false h1
          omega
        simp [isDomD, h3]
      rw [e2] at q
      exact q
/-- a row: so many values of the domain -/
def inDom (dom : List Str) : D → Bool
  | .str z => decide (z ∈ dom)
  | _ => false
def isRowD (dom : List Str) (n : Int) : D → Bool
  | .tup es => decide ((es.length : Int) = n) && es.all (inDom dom)
  | _ => false
def dspIsRow : DSp := fun ds S Q _ => ∃ dom n d, ds = [.tup (dom.map .str), .int n, d] ∧ OkI S d ∧ (∀ es, d = .tup es → es.length ≤ sizeLine ∧ ∀ e ∈ es, OkI S e) ∧ Q (.bl (isRowD dom n d)) S
theorem scIsRow : FnScope ["domain", "width", "thing", "value"] ["domain", "width", "thing"] (defScope sIsRow) := ⟨rfl, rfl, rfl, by decide +kernel, rfl, by decide +kernel, by decide +kernel⟩
theorem ok_isRow {f : Addr} {fd : FuncData} (F : Fun K "is_row" "is_row" sIsRow f fd) (T : Txt K mg) : FnD P w K mg base 1 f fd ["domain", "width", "thing"] dspIsRow := by
  refine fn_ofE (k := 0) F scIsRow (fun ds S Q E ⟨dom, n, d, e, _⟩ => by subst e; rfl) fun cdv A outer s H E hr hgd tk hp => ?_
  refine ⟨_, dss_cons (ds_if (DW.dt (dw_or (dt_not (dt_val (de_isi T.bis T.bis.tuple PyProof.Rows.boot_tuple (dv 2)))) (dw_or1 (dt_cmp (op_neD hr.units) lift_ne (de_len T.bis (dv 2)) (dv 1) rfl)))) (dss_one (ds_ret de_bl)) dss_nil)
      (dss_one (ds_ret (de_all rfl T.bis (de_lc (own := [("value", 3)]) rfl scIsRow.nd (di_tup (dv 2)) (⟨rfl, by decide +kernel, by decide +kernel, by decide +kernel, by decide +kernel⟩ : BlkOk ["domain", "width", "thing", "value"] (defScope sIsRow) _ [("value", 3)]) (fun s H C cl fp => dg_name 3 scIsRow.nd) (fun s H C cl fp => dts_nil)
        (fun s H C cl fp => de_and (de_isi T.bis T.bis.str PyProof.Rows.boot_str (dv 3)) (de_one (de_cmp op_in_seq (lift_in false) (dv 3) (dv 0) rfl))))))), ?_⟩
  intro ds S Q E' ⟨dom, n, d, e, ok, oks, q⟩
  subst e
  obtain ⟨t, ht⟩ := ok.1
  refine ⟨d, rfl, t, ht, (by decide), ?_⟩
  obtain ⟨_, e1, _⟩ := ty_is ht
  rw [e1]
  refine ⟨_, rfl, iteB (fun hb => iteT ?_) fun hb => ?_⟩
  · have e2 : isRowD dom n d = false := by
      cases d with
      | tup z => cases hb
      | _ => rfl
    rw [e2] at q
    exact q
  · obtain ⟨es, rfl⟩ := isTup_of (d := d) (by simpa using hb)
    obtain ⟨hz, oks⟩ := oks es rfl
    refine ⟨_, rfl, es.length, rfl, _, rfl, rdEq_int ⟨_, rfl, iteB (fun h1 => ?_) fun h1 => ?_⟩⟩
    · have e2 : isRowD dom n (.tup es) = false := by
        have h3 : ¬ (es.length : Int) = n := by simpa using h1
        simp [isRowD, h3]
      rw [e2] at q
      exact q
    · have h3 : (es.length : Int) = n := by simpa using h1
      refine ⟨_, rfl, es, rfl, hz, lcgo_pure (fun e => .bl (inDom dom e)) es [] (fun e he => ?_) ?_⟩
      · obtain ⟨⟨t, ht⟩, _⟩ := oks e he
        refine ⟨_, rfl, fun R r => ⟨e, rfl, t, ht, (by decide), _, rfl, ?_⟩⟩
        obtain ⟨e3, _⟩ := ty_is ht
        rw [e3]
        refine iteB (fun h => ?_) fun h => ?_
        · obtain ⟨z, rfl⟩ := isStr_of h
          exact ⟨_, rfl, _, rfl, rdIn_strs (.inl rfl) r⟩
        · have e4 : inDom dom e = false := by
            cases e with
            | str z => cases h
            | _ => rfl
          rw [e4] at r
          exact r
      · refine ⟨es.map (inDom dom), by rw [List.nil_append, List.map_map]; rfl, ?_⟩
        have e2 : isRowD dom n (.tup es) = (es.map (inDom dom)).all id := by
          rw [List.all_map]
          simp [isRowD, h3]
        rw [e2] at q
        exact q

theorem Facts.txt (T : Facts P K mg) : Txt K mg := ⟨T.bis, T.g_LETTERS, T.g_LONGEST_NAME, T.g_MOST_VALUES⟩
theorem ok_is_name (T : Facts P K mg) : FnD P w K mg base 1 T.is_name.f T.is_name.fd ["thing"] dspIsName := ok_isName T.is_name.F T.txt
theorem dd_is_name (T : Facts P K mg) : DefD P w K mg base 1 "is_name" ["thing"] dspIsName T.is_name.f T.is_name.fd := .of T.is_name (ok_is_name T)
theorem ok_is_domain (T : Facts P K mg) : FnD P w K mg base 2 T.is_domain.f T.is_domain.fd ["thing"] dspIsDomain := ok_isDomain T.is_domain.F T.txt (dd_is_name T)
theorem dd_is_domain (T : Facts P K mg) : DefD P w K mg base 2 "is_domain" ["thing"] dspIsDomain T.is_domain.f T.is_domain.fd := .of T.is_domain (ok_is_domain T)
theorem ok_is_row (T : Facts P K mg) : FnD P w K mg base 1 T.is_row.f T.is_row.fd ["domain", "width", "thing"] dspIsRow := ok_isRow T.is_row.F T.txt
theorem dd_is_row (T : Facts P K mg) : DefD P w K mg base 1 "is_row" ["domain", "width", "thing"] dspIsRow T.is_row.f T.is_row.fd := .of T.is_row (ok_is_row T)


end
end K03

set_option maxRecDepth 100000
set_option maxHeartbeats 4000000
namespace K03
open PySem PySem.Spec L2 DL
section
variable {P : Program} {w : World} {K : PySem.W.Frag} {mg : Str → Option Value} {base : Heap}
abbrev Deck := DLM.Deck
abbrev dspDraw := DLM.dspDraw
abbrev dspPick := DLM.dspPick
abbrev dspDeck := DLM.dspDeck
abbrev deckKs := DLM.deckKs
theorem sc__law_draw : FnScope ["_law_deck_here", "_law_many", "_law_turn", "_law_cell", "_law_mixed"] ["_law_deck_here", "_law_many"] (defScope sLDraw) := ⟨rfl, rfl, rfl, by decide +kernel, rfl, by decide +kernel, by decide +kernel⟩
theorem ok__law_draw (T : Facts P K mg) : FnD P w K mg base 1 T._law_draw.f T._law_draw.fd ["_law_deck_here", "_law_many"] dspDraw := by
  refine fn_ofE (k := 0) T._law_draw.F sc__law_draw (fun ds S Q E ⟨a, L, k, m, e, _⟩ => by subst e; rfl) fun cdv A outer s H E hr hgd tk hp => ?_
  refine ⟨_, (dss_cons (ds_dp (units1 hr) (dv 0) de_str (de_op or_add lift_add (de_dg (units1 hr) (dv 0) de_str) de_int))
      (dss_cons (ds_par (i := 2) (j := 3) rfl sc__law_draw.nd (da_cons (de_dg (units1 hr) (dv 0) de_str) (da_cons (de_dg (units1 hr) (dv 0) de_str) da_nil)) (by rfl))
      (dss_cons (ds_if (dt_cmp (op_neNil hr.units0) lift_nil (de_dg (units1 hr) (dv 0) de_str) (de_lst da_nil) rfl) (dss_cons (ds_set (i := 3) sc__law_draw.nd (de_pop (de_dg (units1 hr) (dv 0) de_str)))
      (dss_cons (ds_if (dt_cmp op_ge (lift_cmpI _) (dv 3) (de_op op_pow (lift_intC _ _) de_int de_int) rfl) (dss_cons (ds_expr (de_append (de_dg (units1 hr) (dv 0) de_str) (de_op op_fdiv (lift_intC _ _) (dv 3) (dv 1))))
      (dss_one (ds_ret (de_op op_mod (lift_intC _ _) (de_int1 T.bis (dv 3)) (dv 1))))) dss_nil)
      (dss_one (ds_set (i := 3) sc__law_draw.nd (de_op or_add lift_add (dv 3) (de_dg (units1 hr) (dv 0) de_str)))))) dss_nil)
      (dss_cons (ds_set (i := 4) sc__law_draw.nd (de_op or_add lift_add (de_op or_add lift_add (de_op op_mod (lift_intC _ _) (de_int1 T.bis (dv 3)) de_int) (de_op op_mul (lift_intC _ _) (de_op op_mul (lift_intC _ _) de_int (dv 2)) (dv 2))) de_int))
      (dss_cons (ds_set (i := 4) sc__law_draw.nd (de_op op_mod (lift_intC _ _) (de_int1 T.bis (de_op op_mul (lift_intC _ _) (dv 4) de_int)) de_int))
      (dss_cons (ds_set (i := 4) sc__law_draw.nd (de_op op_mod (lift_intC _ _) (de_int1 T.bis (de_op or_add lift_add (de_op or_add lift_add (de_op op_mul (lift_intC _ _) (dv 4) (dv 4)) (de_op op_mul (lift_intC _ _) de_int (dv 2))) de_int)) de_int))
      (dss_one (ds_ret (de_op op_mod (lift_intC _ _) (de_op op_fdiv (lift_intC _ _) (de_op op_mod (lift_intC _ _) (de_int1 T.bis (de_op op_mul (lift_intC _ _) (dv 4) de_int)) de_int) de_int) (dv 1)))))))))), ?_⟩
  intro ds S Q E' ⟨a, L, k, m, e, D, m0, m1, q⟩
  subst e
  obtain ⟨⟨ns, t, d, ha, hL, hn, t0, t1, d0, d1⟩, ne⟩ := D
  have ha1 : put S a (.dK deckKs [.ref L, .int t, .int (d + 1)]) a = some (.dK deckKs [.ref L, .int t, .int (d + 1)]) := put_same
  have hL1 : put S a (.dK deckKs [.ref L, .int t, .int (d + 1)]) L = some (.lst (ns.map .int)) := (put_ne ne).trans hL
  clear tk hp hgd hr
  walk_at "st"
  refine iteB (fun h => ?_) fun h => ?_
  · have hne : ns ≠ [] := by
      intro e
      subst e
      cases h
    obtain ⟨z, hz, hd⟩ := ints_last (n := 0) hne
    walk_at "st"
    refine s_pop hz ?_
    rw [hd]
    have ha2 : put (put S a (.dK deckKs [.ref L, .int t, .int (d + 1)])) L (.lst (ns.dropLast.map .int)) a = some (.dK deckKs [.ref L, .int t, .int (d + 1)]) := (put_ne (Ne.symm ne)).trans ha1
    have hL2 : put (put S a (.dK deckKs [.ref L, .int t, .int (d + 1)])) L (.lst (ns.dropLast.map .int)) L = some (.lst (ns.dropLast.map .int)) := put_same
    have ln : ns.dropLast.length ≤ 62 := by rw [List.length_dropLast]; omega
    walk_at "st"
    refine iteB (fun h => ?_) fun h => ?_
    · walk_at "st"
      refine s_append (by rw [sizeLine_eq, List.length_map]; omega) ?_
      walk_at "st"
      refine q _ _ (emod_in m0).1 (emod_in m0).2 ⟨⟨ns.dropLast ++ [z / m], t, d + 1, ?_, ?_, ?_, t0, t1, by omega, by omega⟩, ne⟩ ?_
      · rw [put_ne (Ne.symm ne)]
        exact ha2
      · rw [List.map_append]
        exact put_same
      · rw [List.length_append]
        show ns.dropLast.length + 1 ≤ 63
        omega
      · exact fun b h1 h2 => by rw [put_ne h2, put_ne h2, put_ne h1]
    · walk_at "st"
      exact q _ _ (emod_in m0).1 (emod_in m0).2 ⟨⟨ns.dropLast, t, d + 1, ha2, hL2, by omega, t0, t1, by omega, by omega⟩, ne⟩ fun b h1 h2 => by rw [put_ne h2, put_ne h1]
  · walk_at "st"
    exact q _ _ (emod_in m0).1 (emod_in m0).2 ⟨⟨ns, t, d + 1, ha1, hL1, by omega, t0, t1, by omega, by omega⟩, ne⟩ fun b h1 h2 => by rw [put_ne h1]
theorem dd__law_draw (T : Facts P K mg) : DefD P w K mg base 1 "_law_draw" ["_law_deck_here", "_law_many"] dspDraw T._law_draw.f T._law_draw.fd := .of T._law_draw (ok__law_draw T)
theorem sc__law_pick : FnScope ["_law_deck_here", "_law_some"] ["_law_deck_here", "_law_some"] (defScope sLPick) := ⟨rfl, rfl, rfl, by decide +kernel, rfl, by decide +kernel, by decide +kernel⟩
theorem ok__law_pick (T : Facts P K mg) : FnD P w K mg base 2 T._law_pick.f T._law_pick.fd ["_law_deck_here", "_law_some"] dspPick := by
  refine fn_ofE (k := 1) T._law_pick.F sc__law_pick (fun ds S Q E ⟨a, L, k, x, es, e, _⟩ => by subst e; rfl) fun cdv A outer s H E hr hgd tk hp => ?_
  refine ⟨_, (dss_one (ds_ret (de_ix (dv 1) (de_def (dd__law_draw T) (hr.mono (by decide)) hgd tk (da_cons (dv 0) (da_cons (de_len T.bis (dv 1)) da_nil)))))), ?_⟩
  intro ds S Q E' ⟨a, L, k, x, es, e, hx, D, l0, l1, q⟩
  subst e
  clear tk hp hgd hr
  rcases hx with rfl | rfl
  · walk_at "st"
    refine ⟨a, L, k, es.length, rfl, D, by omega, by omega, fun i S' i0 i1 D' off => ?_⟩
    obtain ⟨e, he, hm⟩ := atI_in (l := es) i0 i1
    exact s_ixT he (q e S' hm D' off)
  · walk_at "st"
    refine ⟨a, L, k, es.length, rfl, D, by omega, by omega, fun i S' i0 i1 D' off => ?_⟩
    obtain ⟨e, he, hm⟩ := atI_in (l := es) i0 i1
    exact s_ixL he (q e S' hm D' off)
theorem dd__law_pick (T : Facts P K mg) : DefD P w K mg base 2 "_law_pick" ["_law_deck_here", "_law_some"] dspPick T._law_pick.f T._law_pick.fd := .of T._law_pick (ok__law_pick T)
theorem sc__law_deck : FnScope ["_law_script", "_law_cells", "_law_mixed", "_law_cell"] ["_law_script"] (defScope sLDeck) := ⟨rfl, rfl, rfl, by decide +kernel, rfl, by decide +kernel, by decide +kernel⟩
theorem ok__law_deck (T : Facts P K mg) : FnD P w K mg base 1 T._law_deck.f T._law_deck.fd ["_law_script"] dspDeck := by
  refine fn_ofE (k := 0) T._law_deck.F sc__law_deck (fun ds S Q E ⟨ns, e, _⟩ => by subst e; rfl) fun cdv A outer s H E hr hgd tk hp => ?_
  refine ⟨_, (dss_cons (ds_par (i := 1) (j := 2) rfl sc__law_deck.nd (da_cons (de_list T.bis (de_slice (dv 0) do_none (do_some de_int))) (da_cons de_int da_nil)) (by rfl))
      (dss_cons (ds_for rfl (di_list (de_slice (dv 0) do_none (do_some de_int))) (dg_name 3 sc__law_deck.nd) (dss_one (ds_set (i := 2) sc__law_deck.nd (de_op op_mod (lift_intC _ _) (de_int1 T.bis (de_op or_add lift_add (de_op or_add lift_add (de_op op_mul (lift_intC _ _) (dv 2) de_int) (de_op op_mod (lift_intC _ _) (de_int1 T.bis (dv 3)) de_int)) de_int)) de_int))) hp)
      (dss_one (ds_ret (de_dispM (dps_cons de_str (de_revM (dv 1)) (dps_cons de_str (dv 2) (dps_cons de_str de_int dps_nil)))))))), ?_⟩
  intro ds S Q E' ⟨ns, e, hn, em, q⟩
  subst e
  clear tk hp hgd hr
  walk_at "st"
  refine for_inv (fun items ρ S' => S' = S ∧ ∃ (ms : List Int) (t : Int) (v : Option D), items = ms.map .int ∧ ρ = [some (.scr (ns.map .int)), some (.lst (cutD (ns.map .int) none (some 63))), some (.int t), v] ∧ 0 ≤ t ∧ t < 2147483648) ?_ ?_ _ _ _ ⟨rfl, cutD ns none (some 63), _, none, ?_, rfl, by decide, by decide⟩
  · rintro ρ S' ⟨rfl, ms, t, v, _, rfl, t0, t1⟩
    walk_at "st"
    refine ⟨_, rfl, fun L hL => ?_⟩
    walk_at "st"
    refine ⟨[((Sum.inr "cells" : Key), .ref L), (Sum.inr "mixed", .int t), (Sum.inr "draws", .int 0)], rfl, Nat.le_of_ble_eq_true rfl, ?_⟩
    rw [DLM.deck_merge]
    refine fun a ha => q a L _ ⟨⟨(cutD ns none (some 63)).reverse, t, 0, put_same, ?_, ?_, t0, t1, by decide, by decide⟩, ?_⟩ fun b h1 h2 => by rw [put_ne h1, put_ne h2]
    · have ne : L ≠ a := fun e => by
        rw [e, put_same] at ha
        cases ha
      rw [put_ne ne, put_same]
      unfold cutD
      simp
    · unfold cutD
      simp
      omega
    · intro e
      rw [e, put_same] at ha
      cases ha
  · rintro d r ih ρ S' ⟨rfl, ms, t, v, e, rfl, t0, t1⟩
    cases ms with
    | nil => cases e
    | cons m ms =>
      cases e
      walk_at "st"
      refine ih _ _ ⟨rfl, ms, _, _, rfl, rfl, ?_, ?_⟩
      all_goals omega
  · unfold cutD
    simp
theorem dd__law_deck (T : Facts P K mg) : DefD P w K mg base 1 "_law_deck" ["_law_script"] dspDeck T._law_deck.f T._law_deck.fd := .of T._law_deck (ok__law_deck T)


end
end K03

set_option maxRecDepth 100000
set_option maxHeartbeats 4000000
namespace K03
open PySem PySem.Spec L2 DL
section
variable {P : Program} {w : World} {K : PySem.W.Frag} {mg : Str → Option Value} {base : Heap}
def isIntV : D → Bool
  | .int _ => true
  | _ => false
theorem isIntV_eq (d : D) : isIntV d = (isIntD d && !isBlD d) := by cases d <;> rfl
def dspIsInt : DSp := fun ds S Q _ => ∃ d t, ds = [d] ∧ tyD S d = some t ∧ Q (.bl (isIntV d)) S
theorem sc_is_integer : FnScope ["thing"] ["thing"] (defScope sIsInteger) := ⟨rfl, rfl, rfl, by decide +kernel, rfl, by decide +kernel, by decide +kernel⟩
theorem ok_is_integer (T : Facts P K mg) : FnD P w K mg base 1 T.is_integer.f T.is_integer.fd ["thing"] dspIsInt := by
  refine fn_ofE (k := 0) T.is_integer.F sc_is_integer (fun ds S Q E ⟨d, t, e, _⟩ => by subst e; rfl) fun cdv A outer s H E hr hgd tk hp => ?_
  refine ⟨_, (dss_one (ds_ret (de_and (de_isi T.bis T.bis.int PyProof.Rows.boot_int (dv 0)) (de_one (de_not (de_isi T.bis T.bis.bool (show PySem.bootBuiltins "bool" = some (.type "bool") from by decide +kernel) (dv 0))))))), ?_⟩
  intro ds S Q E' ⟨d, t, e, ht, q⟩
  subst e
  clear tk hp hgd hr
  rw [isIntV_eq, ← (ty_is ht).2.2.1, ← (ty_is ht).2.2.2] at q
  walk_at "st"
  refine s_isi ht (by decide) ?_
  walk_at "st"
  refine iteB (fun h => ?_) fun h => ?_
  · rw [h, Bool.true_and] at q
    walk_at "st"
    refine s_isi ht (by decide) ?_
    walk_at "st"
    exact q
  · rw [h, Bool.false_and] at q
    exact q
theorem dd_is_integer (T : Facts P K mg) : DefD P w K mg base 1 "is_integer" ["thing"] dspIsInt T.is_integer.f T.is_integer.fd := .of T.is_integer (ok_is_integer T)

theorem all_names {dom : List Str} (h : ∀ z ∈ dom, isNameS z = true) : (dom.map D.str).all isNameD = true := by
  rw [List.all_map, List.all_eq_true]
  exact fun z hz => h z hz
theorem dom_ok {dom : List Str} (h : Dom3 dom) (nm : ∀ z ∈ dom, isNameS z = true) : isDomD (.tup (dom.map .str)) = true := by
  obtain ⟨pw, nd, l1, l3⟩ := dom3_pw h
  have u : dom = DLS.uniqS dom := (DLS.uniqS_self pw nd fun k => Iff.rfl).symm
  simp only [isDomD, List.length_map, l1, l3, decide_true, all_names nm, strsOf_map, ← u]
  rfl
theorem row_ok {dom row : List Str} (h : ∀ r ∈ row, r ∈ dom) : isRowD dom row.length (.tup (row.map .str)) = true := by
  show (decide (((row.map D.str).length : Int) = row.length) && (row.map D.str).all (inDom dom)) = true
  rw [List.length_map, List.all_map, decide_eq_true rfl, Bool.true_and, List.all_eq_true]
  exact fun z hz => decide_eq_true (h z hz)
theorem nm_len {z : Str} (h : isNameS z = true) : z.length ≤ sizeLine := by
  have := (name_ok h).2
  rw [sizeLine_eq]
  omega
theorem okI_str {S : Store} {z : Str} (h : z.length ≤ sizeLine) : OkI S (.str z) := ⟨⟨_, rfl⟩, fun y e => by cases e; exact h⟩
theorem okI_tup {S : Store} {ds : List D} : OkI S (.tup ds) := ⟨⟨_, rfl⟩, fun y e => by cases e⟩
/-- the texts of a tuple -/
def strsL : List D → List Str
  | [] => []
  | .str z :: r => z :: strsL r
  | _ :: r => strsL r
theorem strsL_dom {dom : List Str} : ∀ {es : List D}, es.all (inDom dom) = true → es = (strsL es).map .str ∧ ∀ z ∈ strsL es, z ∈ dom
  | [], _ => ⟨rfl, fun z hz => by cases hz⟩
  | e :: es, h => by
    rw [List.all_cons, Bool.and_eq_true] at h
    obtain ⟨h1, h2⟩ := strsL_dom h.2
    cases e with
    | str z =>
      refine ⟨by show _ :: es = _ :: (strsL es).map .str; rw [← h1], fun y hy => ?_⟩
      rcases List.mem_cons.mp hy with e | hy
      · rw [e]; exact of_decide_eq_true h.1
      · exact h2 y hy
    | _ => exact absurd h.1 Bool.false_ne_true
theorem strsL_map : ∀ l : List Str, strsL (l.map .str) = l
  | [] => rfl
  | x :: l => by
    show x :: strsL (l.map .str) = _
    rw [strsL_map l]
def rowOf : D → List Str
  | .tup es => strsL es
  | _ => []
theorem domD_of {d : D} (h : isDomD d = true) : ∃ dom : List Str, d = .tup (dom.map .str) ∧ Dom3 dom ∧ ∀ z ∈ dom, isNameS z = true := by
  cases d with
  | tup es =>
    have h : (decide (1 ≤ es.length) && decide (es.length ≤ 3) && es.all isNameD && (match strsOf es with
      | some ss => decide (ss = DLS.uniqS ss)
      | none => false)) = true := h
    simp only [Bool.and_eq_true] at h
    obtain ⟨⟨⟨l1, l3⟩, nm⟩, u⟩ := h
    obtain ⟨dom, rfl, hn⟩ := names_of nm
    rw [strsOf_map] at u
    have u := of_decide_eq_true u
    have l1 := of_decide_eq_true l1
    have l3 := of_decide_eq_true l3
    rw [List.length_map] at l1 l3
    refine ⟨dom, rfl, dom3_of l1 l3 ?_ ?_, hn⟩
    · rw [u]
      exact DLS.sortS_pw _
    · rw [u]
      exact DLS.uniqS_nodup _
  | _ => cases h
/-- values of any kind -/
structure AnyD (d : D) : Prop where
  ok : ∀ S, OkI S d
  els : ∀ es, d = .tup es → es.length ≤ sizeLine ∧ ∀ e ∈ es, ∀ S, OkI S e
theorem s_eqLS {neg : Bool} {x y : List Str} {S : Store} {Q : DQ} (hx : ∀ z ∈ x, PyData.strOk z = true) (hy : ∀ z ∈ y, PyData.strOk z = true) (h : Q (.bl (if neg then !decide (x = y) else decide (x = y))) S) : rdEq neg (.lst (x.map .str)) (.lst (y.map .str)) S Q := by
  refine ⟨_, _, toPy_strsL x, toPy_strsL y, (shaped_strs hx).2, (shaped_strs hy).2, ?_⟩
  rw [eqv_lstrs]
  exact h
theorem str_rep {z : Str} (h : isNameS z = true) : RepL 82 0 (.str z) ∧ RepD 82 0 (.str z) := by
  obtain ⟨a, b⟩ := name_ok h
  exact ⟨(repL_str a).mono (by omega) (Nat.le_refl _), (repD_str a).mono (by omega) (Nat.le_refl _)⟩
theorem strs_repL {gs : List Str} (h : ∀ z ∈ gs, isNameS z = true) : ∀ d ∈ gs.map D.str, RepL 82 0 d := fun d hd => by
  obtain ⟨z, hz, rfl⟩ := List.mem_map.mp hd
  exact (str_rep (h z hz)).1
theorem strs_repD {gs : List Str} (h : ∀ z ∈ gs, isNameS z = true) : ∀ d ∈ gs.map D.str, RepD 82 0 d := fun d hd => by
  obtain ⟨z, hz, rfl⟩ := List.mem_map.mp hd
  exact (str_rep (h z hz)).2
theorem strOk_app {x y : Str} (h : PyData.strOk x = true) (g : PyData.strOk y = true) : PyData.strOk (x ++ y) = true := by
  unfold PyData.strOk at *
  show (x.cps ++ y.cps).all _ = true
  rw [Array.all_append, h, g]
  rfl
theorem head_at : ∀ {dom : List Str}, 1 ≤ dom.length → ∃ b0, b0 ∈ dom ∧ L2.atI (dom.map D.str) 0 = some (.str b0)
  | b :: r, _ => ⟨b, List.mem_cons_self, L2.atI_nat (j := 0) rfl⟩
  | [], h => absurd h (by simp)
/-- a value that is handed to a choice, and shown -/
structure AnyR (d : D) : Prop where
  any : AnyD d
  rep : RepW 1000000 10 d
def okB : D → Bool
  | .str z => decide (z.length ≤ 1000)
  | .ref _ => false
  | .ty _ => false
  | .obj _ _ _ => false
  | .kup _ => false
  | .scr _ => false
  | .dT _ _ => false
  | _ => true
theorem okI_b {d : D} (h : okB d = true) : ∀ S, OkI S d := fun S => by
  cases d with
  | str z => exact okI_str (by have := of_decide_eq_true h; rw [sizeLine_eq]; omega)
  | ref _ => cases h
  | ty _ => cases h
  | obj _ _ _ => cases h
  | kup _ => cases h
  | scr _ => cases h
  | dT _ _ => cases h
  | _ => exact ⟨⟨_, rfl⟩, fun z e => by cases e⟩
def anyB : D → Bool
  | .tup es => decide (es.length ≤ 1000) && es.all okB
  | d => okB d
theorem anyD_b {d : D} (h : anyB d = true) : AnyD d := by
  cases d with
  | tup es =>
    have h' : (decide (es.length ≤ 1000) && es.all okB) = true := h
    simp only [Bool.and_eq_true, decide_eq_true_eq, List.all_eq_true] at h'
    exact ⟨fun S => okI_tup, fun fs e => by cases e; exact ⟨by rw [sizeLine_eq]; omega, fun x hx => okI_b (h'.2 x hx)⟩⟩
  | _ => exact ⟨okI_b h, fun es e => by cases e⟩
theorem anyR_b {d : D} (h : (anyB d && repB 1000000 10 d) = true) : AnyR d := by
  rw [Bool.and_eq_true] at h
  exact ⟨anyD_b h.1, repW_of h.2⟩
theorem anyR_s {z : Str} (h : PyData.strOk z = true) (l : z.length ≤ 1000) : AnyR (.str z) :=
  ⟨anyD_b (decide_eq_true l), ((repL_str h).repW).mono (by omega) (by omega)⟩
theorem anyR_t {es : List D} (hl : es.length ≤ 150) (h : ∀ e ∈ es, ∀ S, OkI S e) (r : ∀ e ∈ es, RepW 5000 5 e) : AnyR (.tup es) := by
  have z : es.length * 5002 ≤ 150 * 5002 := Nat.mul_le_mul_right _ hl
  exact ⟨⟨fun S => okI_tup, fun fs e => by cases e; exact ⟨by rw [sizeLine_eq]; omega, h⟩⟩, (repW_tup r).mono (by omega) (by omega)⟩
theorem anyR_l {es : List D} (hl : es.length ≤ 150) (r : ∀ e ∈ es, RepW 5000 5 e) : AnyR (.lst es) := by
  have z : es.length * 5002 ≤ 150 * 5002 := Nat.mul_le_mul_right _ hl
  exact ⟨⟨fun S => ⟨⟨_, rfl⟩, fun z e => by cases e⟩, fun fs e => by cases e⟩, (repW_lst r).mono (by omega) (by omega)⟩
theorem strs_W {gs : List Str} (h : ∀ z ∈ gs, PyData.strOk z = true ∧ z.length ≤ 100) : ∀ e ∈ gs.map D.str, RepW 5000 5 e := fun e he => by
  obtain ⟨z, hz, rfl⟩ := List.mem_map.mp he
  exact ((repL_str (h z hz).1).repW).mono (by have := (h z hz).2; omega) (by omega)
theorem strs_O {gs : List Str} (h : ∀ z ∈ gs, PyData.strOk z = true ∧ z.length ≤ 100) : ∀ e ∈ gs.map D.str, ∀ S, OkI S e := fun e he S => by
  obtain ⟨z, hz, rfl⟩ := List.mem_map.mp he
  exact okI_str (by rw [sizeLine_eq]; have := (h z hz).2; omega)
theorem anyR_names {gs : List Str} (hl : gs.length ≤ 400) (h : ∀ z ∈ gs, PyData.strOk z = true ∧ z.length ≤ 100) : AnyR (.tup (gs.map .str)) := by
  have z : gs.length * 1004 ≤ 400 * 1004 := Nat.mul_le_mul_right _ hl
  refine ⟨⟨fun S => okI_tup, fun fs e => by cases e; exact ⟨by rw [sizeLine_eq, List.length_map]; omega, strs_O h⟩⟩, (repW_tup (n := 1002) (m := 0) fun e he => ?_).mono (by rw [List.length_map]; omega) (by omega)⟩
  obtain ⟨z, hz, rfl⟩ := List.mem_map.mp he
  exact ((repL_str (h z hz).1).repW).mono (by have := (h z hz).2; omega) (by omega)
/-- an item of what is handed over -/
structure EltR (e : D) : Prop where
  ok : ∀ S, OkI S e
  rep : RepW 5000 5 e
theorem eltR_b {e : D} (h : (okB e && repB 5000 5 e) = true) : EltR e := by
  rw [Bool.and_eq_true] at h
  exact ⟨okI_b h.1, repW_of h.2⟩
theorem eltR_s {z : Str} (h : PyData.strOk z = true) (l : z.length ≤ 100) : EltR (.str z) := ⟨okI_b (decide_eq_true (by omega)), ((repL_str h).repW).mono (by omega) (by omega)⟩
theorem eltR_ss {gs : List Str} (h : ∀ z ∈ gs, PyData.strOk z = true ∧ z.length ≤ 100) : ∀ e ∈ gs.map D.str, EltR e := fun e he => by
  obtain ⟨z, hz, rfl⟩ := List.mem_map.mp he
  exact eltR_s (h z hz).1 (h z hz).2
theorem eltR_tup {gs : List Str} (hl : gs.length ≤ 3) (h : ∀ z ∈ gs, PyData.strOk z = true ∧ z.length ≤ 100) : EltR (.tup (gs.map .str)) := by
  have z : gs.length * 1004 ≤ 3 * 1004 := Nat.mul_le_mul_right _ hl
  exact ⟨fun S => okI_tup, (repW_tup (n := 1002) (m := 0) (ds := gs.map .str) fun e he => by
    obtain ⟨z, hz, rfl⟩ := List.mem_map.mp he
    exact ((repL_str (h z hz).1).repW).mono (by have := (h z hz).2; omega) (by omega)).mono (by rw [List.length_map]; omega) (by omega)⟩
theorem eltR_lst {gs : List Str} (hl : gs.length ≤ 3) (h : ∀ z ∈ gs, PyData.strOk z = true ∧ z.length ≤ 100) : EltR (.lst (gs.map .str)) := by
  have z : gs.length * 1004 ≤ 3 * 1004 := Nat.mul_le_mul_right _ hl
  exact ⟨fun S => ⟨⟨_, rfl⟩, fun z e => by cases e⟩, (repW_lst (n := 1002) (m := 0) (ds := gs.map .str) fun e he => by
    obtain ⟨z, hz, rfl⟩ := List.mem_map.mp he
    exact ((repL_str (h z hz).1).repW).mono (by have := (h z hz).2; omega) (by omega)).mono (by rw [List.length_map]; omega) (by omega)⟩
theorem anyR_e {es : List D} (hl : es.length ≤ 150) (h : ∀ e ∈ es, EltR e) : AnyR (.tup es) := anyR_t hl (fun e he => (h e he).ok) fun e he => (h e he).rep
theorem parts_pos {dom : List Str} (d3 : Dom3 dom) : dom.length ≤ (partsS dom).length := by
  rcases d3 with ⟨a, rfl⟩ | ⟨a, b, rfl, _⟩ | ⟨a, b, c, rfl, _⟩ <;> simp [partsS]
theorem join_ok0 : ∀ {ys : List Str}, (∀ z ∈ ys, PyData.strOk z = true ∧ z.length ≤ 8) → PyData.strOk (Str.join ⟨#[]⟩ ys) = true ∧ (Str.join ⟨#[]⟩ ys).length ≤ 8 * ys.length
  | [], _ => ⟨by decide +kernel, by decide +kernel⟩
  | z :: ys, h => by
    have e : Str.join ⟨#[]⟩ (z :: ys) = z ++ Str.join ⟨#[]⟩ ys := by
      cases ys with
      | nil =>
        show z = z ++ (⟨#[]⟩ : Str)
        exact DLS.str_ext (by show z.cps.toList = (z.cps ++ #[]).toList; simp)
      | cons y r =>
        show (z ++ (⟨#[]⟩ : Str)) ++ Str.join ⟨#[]⟩ (y :: r) = _
        have : z ++ (⟨#[]⟩ : Str) = z := DLS.str_ext (by show (z.cps ++ #[]).toList = z.cps.toList; simp)
        rw [this]
    obtain ⟨a, b⟩ := join_ok0 (ys := ys) fun x hx => h x (List.mem_cons_of_mem _ hx)
    obtain ⟨c, d⟩ := h z List.mem_cons_self
    rw [e]
    exact ⟨strOk_app c a, by rw [strLen_append, List.length_cons]; omega⟩
theorem join_ok {ys : List Str} (h : ∀ z ∈ ys, PyData.strOk z = true ∧ z.length ≤ 8) : PyData.strOk (Txt.join (Str.ofString "") ys) = true ∧ (Txt.join (Str.ofString "") ys).length ≤ 8 * ys.length := by
  have e : Txt.join (Str.ofString "") ys = Str.join ⟨#[]⟩ ys := eq_of_beq (PyProof.Rows.join_closes (by decide +kernel))
  rw [e]
  exact join_ok0 h
theorem sum_len : ∀ {ys : List Str}, (∀ z ∈ ys, z.length ≤ 8) → (ys.map (·.length)).sum ≤ 8 * ys.length
  | [], _ => Nat.le_refl _
  | z :: ys, h => by
    have a := sum_len (ys := ys) fun x hx => h x (List.mem_cons_of_mem _ hx)
    have b := h z List.mem_cons_self
    rw [List.map_cons, List.sum_cons, List.length_cons]
    omega
theorem rdNe_bl {S : Store} {Q : DQ} {a b : Bool} (h : Q (.bl (a != b)) S) : rdEq true (.bl a) (.bl b) S Q := by
  refine ⟨.bool a, .bool b, rfl, rfl, rfl, rfl, ?_⟩
  have e : (if true = true then !PyData.eqv (.bool a) (.bool b) else PyData.eqv (.bool a) (.bool b)) = (a != b) := by
    cases a <;> cases b <;> rfl
  rw [e]
  exact h
theorem anyD_ss {gs : List Str} (hl : gs.length ≤ 100) (h : ∀ z ∈ gs, isNameS z = true) : AnyD (.tup (gs.map .str)) :=
  ⟨fun S => okI_tup, fun es e => by cases e; exact ⟨by rw [List.length_map, sizeLine_eq]; omega, strs_O fun z hz => ⟨(name_ok (h z hz)).1, by have := (name_ok (h z hz)).2; omega⟩⟩⟩
theorem rowOf_tup (gs : List Str) : rowOf (.tup (gs.map .str)) = gs := strsL_map gs
theorem neF {a : Str} : (if true = true then !decide (a = a) else decide (a = a)) = false := by simp
/-- a name with a sign ahead -/
def qS (x : Str) : Str := Str.ofString "q" ++ x
theorem qS_cps (x : Str) : (qS x).cps.toList = 113 :: x.cps.toList := by
  show ((Str.ofString "q").cps ++ x.cps).toList = _
  rw [Array.toList_append]
  rfl
theorem qS_len (x : Str) : (qS x).length = x.length + 1 := by
  show ((Str.ofString "q") ++ x).length = _
  rw [strLen_append]
  have : (Str.ofString "q").length = 1 := rfl
  omega
theorem qS_lt {x y : Str} (h : ltS x y = true) : ltS (qS x) (qS y) = true := by
  unfold ltS at *
  rw [qS_cps, qS_cps]
  simpa using h
theorem qS_name {x : Str} (h : isNameS x = true) (l : x.length < 8) : isNameS (qS x) = true := by
  unfold isNameS at *
  rw [Bool.and_eq_true, Bool.and_eq_true] at *
  refine ⟨⟨decide_eq_true (by rw [qS_len]; omega), decide_eq_true (by rw [qS_len]; omega)⟩, ?_⟩
  rw [qS_cps, List.all_cons, h.2, Bool.and_true]
  decide +kernel

theorem add_enc {a b : List Str} {S : Store} {Q : DQ} (hz : a.length + b.length ≤ sizeLine) (q : Q (encT (a ++ b)) S) : rdAdd (encT a) (encT b) S Q := by
  have e : encT (a ++ b) = .tup (a.map .str ++ b.map .str) := by unfold encT; rw [List.map_append]
  rw [e] at q
  exact ⟨by rw [List.length_map, List.length_map]; exact hz, q⟩
theorem rowsS_step (dom : List Str) (j : Nat) : ((rowsS dom j).flatMap fun r => dom.map fun v => encT (r ++ [v])) = (rowsS dom (j + 1)).map encT := by
  show _ = ((rowsS dom j).flatMap fun r => dom.map fun v => r ++ [v]).map encT
  rw [List.map_flatMap]
  refine congrArg (fun f => (rowsS dom j).flatMap f) (funext fun r => ?_)
  rw [List.map_map]
  rfl
def dspAllRows : DSp := fun ds S Q _ => ∃ (dom : List Str) (n : Nat), ds = [.tup (dom.map .str), .int n] ∧ dom.length ≤ 3 ∧ n ≤ 4 ∧ Q (.lst ((rowsS dom n).map encT)) S
theorem sc_all_rows : FnScope ["domain", "width", "found", "place", "row", "value"] ["domain", "width"] (defScope sAllRows) := ⟨rfl, rfl, rfl, by decide +kernel, rfl, by decide +kernel, by decide +kernel⟩
theorem ok_all_rows (T : Facts P K mg) : FnD P w K mg base 1 T.all_rows.f T.all_rows.fd ["domain", "width"] dspAllRows := by
  refine fn_ofE (k := 0) T.all_rows.F sc_all_rows (fun ds S Q E ⟨dom, n, e, _⟩ => by subst e; rfl) fun cdv A outer s H E hr hgd tk hp => ?_
  refine ⟨_, (dss_cons (ds_set (i := 2) sc_all_rows.nd (de_lst (da_cons (de_tup da_nil) da_nil)))
      (dss_cons (ds_for rfl (di_range1 T.bis.range (da_cons (dv 1) da_nil)) (dg_name 3 sc_all_rows.nd) (dss_one (ds_setLc2 (own := [("row", 4), ("value", 5)]) (i := 2) rfl sc_all_rows.nd (sw_true rfl rfl rfl (by decide +kernel)) (di_list (dv 2)) (⟨rfl, by decide +kernel, by decide +kernel, by decide +kernel, by decide +kernel⟩ : BlkOk ["domain", "width", "found", "place", "row", "value"] (defScope sAllRows) _ [("row", 4), ("value", 5)]) (fun s H C cl fp => (dg_name 4 sc_all_rows.nd)) (fun s H C cl fp => dts_nil) (fun s H C cl fp => (di_tup (dv 0))) (fun s H C cl fp => (dg_name 5 sc_all_rows.nd)) (fun s H C cl fp => dts_nil)
        (fun s H C cl fp => (de_op or_add lift_add (dv 4) (de_tup (da_cons (dv 5) da_nil)))))) hp)
      (dss_one (ds_ret (dv 2))))), ?_⟩
  intro ds S Q E' ⟨dom, n, e, hd, hn, q⟩
  subst e
  clear tk hp hgd hr
  walk_at "st"
  refine s_it1i (by omega) (by omega) ?_
  refine for_inv (fun items ρ S' => S' = S ∧ ∃ (j : Nat) (v3 v4 v5 : Option D), j + items.length = n ∧ ρ = [some (.tup (dom.map .str)), some (.int n), some (.lst ((rowsS dom j).map encT)), v3, v4, v5]) ?_ ?_ _ _ _ ⟨rfl, 0, none, none, none, ?_, rfl⟩
  · rintro ρ S' ⟨rfl, j, v3, v4, v5, hj, rfl⟩
    have e : j = n := by simpa using hj
    subst e
    walk_at "st"
    exact q
  · rintro d r ih ρ S' ⟨rfl, j, v3, v4, v5, hj, rfl⟩
    rw [List.length_cons] at hj
    have hs := rowsS_small hd (n := j + 1) (by omega)
    walk_at "st"
    have he := rowsS_step dom j
    have rl : ∀ r ∈ rowsS dom j, r.length ≤ 4 := fun r hr => by
      rw [(rowsS_each hr).1]
      omega
    refine lc2_map encT (fun r => dom.map fun v => encT (r ++ [v])) (rowsS dom j) [] ?_ (fun r hr => ⟨_, rfl, fun acc' R hl q => ?_⟩) ?_
    · rw [he, List.length_map, List.length_nil, sizeLine_eq]
      omega
    · rw [List.length_map] at hl
      have hr4 := rl r hr
      walk_at "st"
      refine ⟨by rw [List.length_map]; exact hl, ?_⟩
      refine lcgo_map D.str (fun v => encT (r ++ [v])) dom acc' (fun v hv => ⟨_, rfl, fun R2 r2 => ?_⟩) q
      walk_at "st"
      exact add_enc (b := [v]) (by rw [sizeLine_eq]; simp only [List.length_cons, List.length_nil]; omega) r2
    · rw [he, List.nil_append]
      walk_at "st"
      exact ih _ _ ⟨rfl, j + 1, _, _, _, by omega, rfl⟩
  · unfold dItR
    rw [List.length_map, List.length_range]
    omega
theorem dd_all_rows (T : Facts P K mg) : DefD P w K mg base 1 "all_rows" ["domain", "width"] dspAllRows T.all_rows.f T.all_rows.fd := .of T.all_rows (ok_all_rows T)
/-- a tuple of rows -/
def areRowsD (dom : List Str) (n : Int) : D → Bool
  | .tup es => es.all (isRowD dom n)
  | _ => false
def dspAreRows : DSp := fun ds S Q _ => ∃ dom n d, ds = [.tup (dom.map .str), .int n, d] ∧ OkI S d ∧ (∀ es, d = .tup es → es.length ≤ sizeLine ∧ ∀ e ∈ es, AnyD e) ∧ Q (.bl (areRowsD dom n d)) S
theorem sc_are_rows : FnScope ["domain", "width", "thing", "row"] ["domain", "width", "thing"] (defScope sAreRows) := ⟨rfl, rfl, rfl, by decide +kernel, rfl, by decide +kernel, by decide +kernel⟩
theorem ok_are_rows (T : Facts P K mg) : FnD P w K mg base 2 T.are_rows.f T.are_rows.fd ["domain", "width", "thing"] dspAreRows := by
  refine fn_ofE (k := 1) T.are_rows.F sc_are_rows (fun ds S Q E ⟨dom, n, d, e, _⟩ => by subst e; rfl) fun cdv A outer s H E hr hgd tk hp => ?_
  refine ⟨_, (dss_one (ds_ret (de_and (de_isi T.bis T.bis.tuple PyProof.Rows.boot_tuple (dv 2)) (de_one (de_all rfl T.bis (de_lc (own := [("row", 3)]) rfl sc_are_rows.nd (di_tup (dv 2)) (⟨rfl, by decide +kernel, by decide +kernel, by decide +kernel, by decide +kernel⟩ : BlkOk ["domain", "width", "thing", "row"] (defScope sAreRows) _ [("row", 3)]) (fun s H C cl fp => (dg_name 3 sc_are_rows.nd)) (fun s H C cl fp => dts_nil)
        (fun s H C cl fp => (de_def (dd_is_row T) (hr.mono (by decide)) hgd takes_none5 (da_cons (dv 0) (da_cons (dv 1) (da_cons (dv 3) da_nil))))))))))), ?_⟩
  intro ds S Q E' ⟨dom, n, d, e, ok, oks, q⟩
  subst e
  clear tk hp hgd hr
  obtain ⟨t, ht⟩ := ok.1
  walk_at "st"
  refine s_isi ht (by decide) ?_
  walk_at "st"
  obtain ⟨_, e1, _⟩ := ty_is ht
  rw [e1]
  refine iteB (fun h => ?_) fun h => ?_
  · obtain ⟨es, rfl⟩ := isTup_of h
    obtain ⟨hz, oks⟩ := oks es rfl
    walk_at "st"
    refine ⟨hz, lcgo_pure (fun e => .bl (isRowD dom n e)) es [] (fun e he => ⟨_, rfl, fun R r => ?_⟩) ?_⟩
    · walk_at "st"
      refine ⟨dom, n, e, rfl, (oks e he).ok S, fun fs ef => ⟨((oks e he).els fs ef).1, fun z hz => ((oks e he).els fs ef).2 z hz S⟩, r⟩
    · refine ⟨es.map (isRowD dom n), by rw [List.nil_append, List.map_map]; rfl, ?_⟩
      have e2 : areRowsD dom n (.tup es) = (es.map (isRowD dom n)).all id := by
        rw [List.all_map]
        rfl
      rw [e2] at q
      exact q
  · have e2 : areRowsD dom n d = false := by
      cases d with
      | tup => cases h
      | _ => rfl
    rw [e2] at q
    exact q
theorem dd_are_rows (T : Facts P K mg) : DefD P w K mg base 2 "are_rows" ["domain", "width", "thing"] dspAreRows T.are_rows.f T.are_rows.fd := .of T.are_rows (ok_are_rows T)


end
end K03

set_option maxRecDepth 100000
set_option maxHeartbeats 4000000
namespace K03
open PySem PySem.Spec L2 DL
section
variable {P : Program} {w : World} {K : PySem.W.Frag} {mg : Str → Option Value} {base : Heap}
abbrev tabNs : List Str := ["domain", "width", "rows", "is_full", "is_product"]
def fullB (dom : List Str) (n : Nat) (rows : List (List Str)) : Bool := decide ((rows.length : Int) = ((rowsS dom n).length : Int))
def prodB (n : Nat) (rows : List (List Str)) : Bool := decide ((rows.length : Int) = prodTo rows n)
abbrev tabDs (dom : List Str) (n : Nat) (rows : List (List Str)) : List D := [.tup (dom.map .str), .int n, .tup (rows.map encT), .bl (fullB dom n rows), .bl (prodB n rows)]
def tableD (C : Addr) (dom : List Str) (n : Nat) (rows : List (List Str)) : D := .obj C tabNs (tabDs dom n rows)
structure TableOk (dom : List Str) (n : Nat) (rows : List (List Str)) : Prop where
  d3 : Dom3 dom
  nm : ∀ z ∈ dom, isNameS z = true
  n1 : 1 ≤ n
  n3 : n ≤ 3
  mem : ∀ r ∈ rows, r ∈ rowsS dom n
theorem TableOk.l3 {dom : List Str} {n : Nat} {rows : List (List Str)} (ok : TableOk dom n rows) : dom.length ≤ 3 := (dom3_pw ok.d3).2.2.2
theorem TableOk.few {dom : List Str} {n : Nat} {rows : List (List Str)} (ok : TableOk dom n rows) : FewL rows := few_rows ok.l3 ok.n3 ok.mem
theorem TableOk.ne {dom : List Str} {n : Nat} {rows : List (List Str)} (ok : TableOk dom n rows) : ∀ k ∈ rows, k ≠ [] := fun k hk e => by
  have h := (rowsS_each (ok.mem k hk)).1
  have h1 := ok.n1
  rw [e, List.length_nil] at h
  omega
theorem TableOk.strs {dom : List Str} {n : Nat} {rows : List (List Str)} (ok : TableOk dom n rows) : ∀ k ∈ rows, ∀ z ∈ k, PyData.strOk z = true := fun k hk z hz => (name_ok (ok.nm z ((rowsS_each (ok.mem k hk)).2 z hz))).1
theorem TableOk.uniq {dom : List Str} {n : Nat} {rows : List (List Str)} (ok : TableOk dom n rows) : TableOk dom n (DTS.uniqT rows) := ⟨ok.d3, ok.nm, ok.n1, ok.n3, fun r hr => ok.mem r (DTS.uniqT_mem.mp hr)⟩
theorem TableOk.len27 {dom : List Str} {n : Nat} {rows : List (List Str)} (ok : TableOk dom n rows) (nd : rows.Nodup) : rows.length ≤ 27 := Nat.le_trans (nodup_len nd ok.mem) (rowsS_27 ok.l3 ok.n3)
theorem rows_ok {dom : List Str} {n : Nat} {ns : List (List Str)} (h : ∀ r ∈ ns, r ∈ rowsS dom n) : areRowsD dom n (.tup (ns.map encT)) = true := by
  show (ns.map encT).all (isRowD dom n) = true
  rw [List.all_map, List.all_eq_true]
  intro k hk
  obtain ⟨e, m⟩ := rowsS_each (h k hk)
  have z := row_ok (dom := dom) m
  rw [e] at z
  exact z
theorem tfl {C : Addr} {S : Store} {dom : List Str} {n : Nat} {rows : List (List Str)} : objD C S (tableD C dom n rows) = some (tabNs.zip (tabDs dom n rows)) := by
  show (if C = C then _ else _) = _
  rw [if_pos rfl]
theorem tlk_dom {x y z u v : D} : (tabNs.zip [x, y, z, u, v]).lookup ("domain" : Str) = some x := by with_unfolding_all rfl
theorem tlk_wid {x y z u v : D} : (tabNs.zip [x, y, z, u, v]).lookup ("width" : Str) = some y := by with_unfolding_all rfl
theorem tlk_row {x y z u v : D} : (tabNs.zip [x, y, z, u, v]).lookup ("rows" : Str) = some z := by with_unfolding_all rfl
theorem tlk_ful {x y z u v : D} : (tabNs.zip [x, y, z, u, v]).lookup ("is_full" : Str) = some u := by with_unfolding_all rfl
theorem tlk_pro {x y z u v : D} : (tabNs.zip [x, y, z, u, v]).lookup ("is_product" : Str) = some v := by with_unfolding_all rfl
theorem tlk3 {x y z : D} : ((["domain", "width", "rows"] : List Str).zip [x, y, z]).lookup ("rows" : Str) = some z := by with_unfolding_all rfl
/-- what stands at a place of each row -/
def dspColumn (C : Addr) : DSp := fun ds S Q _ => ∃ (x : D) (i : Nat) (kds : List (Str × D)) (rows : List (List Str)), ds = [x, .int i] ∧ objD C S x = some kds ∧ kds.lookup ("rows" : Str) = some (.tup (rows.map encT)) ∧ (∀ r ∈ rows, i < r.length) ∧ rows.length ≤ 27 ∧ Q (.tup ((colS rows i).map .str)) S
theorem atI_row {r : List Str} {i : Nat} (h : i < r.length) : L2.atI (r.map D.str) (i : Int) = some (.str (r.getD i Str.empty)) := by
  refine L2.atI_nat ?_
  rw [List.getElem?_map, List.getElem?_eq_getElem h, List.getD_eq_getElem?_getD, List.getElem?_eq_getElem h]
  rfl
theorem sc_Table_column : FnScope ["self", "place", "row"] ["self", "place"] (defScope sTable_column) := ⟨rfl, rfl, rfl, by decide +kernel, rfl, by decide +kernel, by decide +kernel⟩
theorem ok_Table_column (T : Facts P K mg) : FnD P w K mg base 1 T.Table_column.f T.Table_column.fd ["self", "place"] (dspColumn T.Table.C) := by
  refine fn_ofE (k := 0) T.Table_column.F sc_Table_column (fun ds S Q E ⟨x, i, kds, rows, e, _⟩ => by subst e; rfl) fun cdv A outer s H E hr hgd tk hp => ?_
  refine ⟨_, (dss_one (ds_ret (de_tuple T.bis (de_sortSc (own := [("row", 2)]) rfl sc_Table_column.nd T.bis.sorted (di_tup (de_fld T.Table.cl T.Table_no_rows (dv 0))) (⟨rfl, by decide +kernel, by decide +kernel, by decide +kernel, by decide +kernel⟩ : BlkOk ["self", "place", "row"] (defScope sTable_column) _ [("row", 2)]) (fun s H C cl fp => (dg_name 2 sc_Table_column.nd)) (fun s H C cl fp => dts_nil)
        (fun s H C cl fp => (de_ix (dv 2) (dv 1))))))), ?_⟩
  intro ds S Q E' ⟨x, i, kds, rows, e, h1, h2, h3, h4, q⟩
  subst e
  clear tk hp hgd hr
  walk_at "st"
  refine s_fldP h1 h2 ?_
  walk_at "st"
  refine ⟨by rw [List.length_map]; unfold scanBound; omega, scgo_map encT (fun r => r.getD i Str.empty) rows [] (fun r hr => ⟨_, rfl, fun R q2 => ?_⟩) ?_⟩
  · walk_at "st"
    exact s_ixT (atI_row (h3 r hr)) q2
  · have lc := colS_len rows i
    refine ⟨?_, ?_⟩
    · rw [List.nil_append]
      show (colS rows i).length < 64
      omega
    · rw [List.nil_append]
      walk_at "st"
      exact q


end
end K03

set_option maxRecDepth 100000
set_option maxHeartbeats 4000000
namespace K03
open PySem PySem.Spec L2 DL
section
variable {P : Program} {w : World} {K : PySem.W.Frag} {mg : Str → Option Value} {base : Heap}
theorem tput1 (x : D) : putFD "domain" x (([] : List Str).zip []) = [(("domain" : Str), x)] := rfl
theorem tput2 (x y : D) : putFD "width" y ((["domain"] : List Str).zip [x]) = [(("domain" : Str), x), (("width" : Str), y)] := by with_unfolding_all rfl
theorem tput3 (x y z : D) : putFD "rows" z ((["domain", "width"] : List Str).zip [x, y]) = [(("domain" : Str), x), (("width" : Str), y), (("rows" : Str), z)] := by with_unfolding_all rfl
theorem tput4 (x y z u : D) : putFD "is_full" u ((["domain", "width", "rows"] : List Str).zip [x, y, z]) = [(("domain" : Str), x), (("width" : Str), y), (("rows" : Str), z), (("is_full" : Str), u)] := by with_unfolding_all rfl
theorem tput5 (x y z u v : D) : putFD "is_product" v ((["domain", "width", "rows", "is_full"] : List Str).zip [x, y, z, u]) = [(("domain" : Str), x), (("width" : Str), y), (("rows" : Str), z), (("is_full" : Str), u), (("is_product" : Str), v)] := by with_unfolding_all rfl
theorem tlk4 {x y z u : D} : (((["domain", "width", "rows", "is_full"] : List Str)).zip [x, y, z, u]).lookup ("rows" : Str) = some z := by with_unfolding_all rfl
theorem e_mulS {nx bk ct : Sl → Store → Prop} {rt : DQ} {ex : Sl → DX} {ρ : Sl} {S : Store} {te : DTE} {i : Nat} {a : Int} (e : ρ[i]? = some (some (.int a))) (h : te ρ S (fun d S1 => ∃ b : Int, d = .int b ∧ IntMulOk a b ∧ nx (ρ.set i (some (.int (a * b)))) S1) (ex ρ)) : dMulS i te ⟨nx, rt, bk, ct, ex⟩ ρ S := ⟨a, e, h⟩
theorem mul_ok {a : Int} {n : Nat} (h : n ≤ 27) : IntMulOk a (n : Int) := CMul.ok (.inr ⟨by omega, by omega⟩)
theorem anyD_row {dom : List Str} {n : Nat} {k : List Str} (nm : ∀ z ∈ dom, isNameS z = true) (n3 : n ≤ 4) (h : k ∈ rowsS dom n) : AnyD (encT k) := by
  obtain ⟨e, m⟩ := rowsS_each h
  exact anyD_ss (by omega) fun z hz => nm z (m z hz)
def dspTInit (C : Addr) : DSp := fun ds S Q _ => ∃ (a : Addr) (dom : List Str) (n : Nat) (ns : List (List Str)), ds = [.ref a, .tup (dom.map .str), .int n, .tup (ns.map encT)] ∧ S a = some (.ins C [] []) ∧ TableOk dom n ns ∧ ns.length ≤ 2000 ∧
  ∀ S', S' a = some (.ins C tabNs (tabDs dom n (DTS.uniqT ns))) → (∀ b, b ≠ a → S' b = S b) → Q .non S'
theorem sc_Table_init : FnScope ["self", "domain", "width", "rows", "columns", "place"] ["self", "domain", "width", "rows"] (defScope sTable_init) := ⟨rfl, rfl, rfl, by decide +kernel, rfl, by decide +kernel, by decide +kernel⟩
theorem ok_Table_init (T : Facts P K mg) : FnD P w K mg base 3 T.Table_init.f T.Table_init.fd ["self", "domain", "width", "rows"] (dspTInit T.Table.C) := by
  obtain ⟨_, h_MOST_WIDTH⟩ := T.g_MOST_WIDTH
  refine fn_ofEV (k := 2) T.Table_init.F sc_Table_init (fun ds S Q E ⟨a, dom, n, ns, e, _⟩ => by subst e; rfl) fun cdv A outer s H E hr hgd tk hp => ?_
  refine ⟨_, (dss_cons (ds_if (dt_not (dt_val (de_def (dd_is_domain T) (hr.mono (by decide)) hgd tk (da_cons (dv 1) da_nil)))) (dss_one (ds_raise T.NoTable.xi T.bis.super (hr.mono (by decide)) rfl tk T.NoTable.at_ de_str)) dss_nil)
      (dss_cons (ds_if (DW.dt (dw_or (dt_not (dt_val (de_def (dd_is_integer T) (hr.mono (by decide)) hgd tk (da_cons (dv 2) da_nil)))) (dw_or1 (dt_not (dt_chain op_le op_le (lift_cmpI _) (lift_cmpI _) de_int (dv 2) (de_globI h_MOST_WIDTH)))))) (dss_one (ds_raise T.NoTable.xi T.bis.super (hr.mono (by decide)) rfl tk T.NoTable.at_ de_str)) dss_nil)
      (dss_cons (ds_if (dt_not (dt_val (de_def (dd_are_rows T) (hr.mono (by decide)) hgd tk (da_cons (dv 1) (da_cons (dv 2) (da_cons (dv 3) da_nil)))))) (dss_one (ds_raise T.NoTable.xi T.bis.super (hr.mono (by decide)) rfl tk T.NoTable.at_ de_str)) dss_nil)
      (dss_cons (ds_fld T.Table.cl T.Table_no_domain (dv 0) (dv 1))
      (dss_cons (ds_fld T.Table.cl T.Table_no_width (dv 0) (dv 2))
      (dss_cons (ds_fld T.Table.cl T.Table_no_rows (dv 0) (de_tuple T.bis (de_sortSetT rfl hr.units T.bis.sorted T.bis.set (dv 3))))
      (dss_cons (ds_set (i := 4) sc_Table_init.nd de_int)
      (dss_cons (ds_for rfl (di_range1 T.bis.range (da_cons (dv 2) da_nil)) (dg_name 5 sc_Table_init.nd) (dss_one (ds_mulS 4 sc_Table_init.nd (de_len T.bis (de_meth (dv 0) T.Table.cl T.Table_column.at_ (ok_Table_column T) (hr.mono (by decide)) hgd T.Table_column.bd .nil (fun _ => .nil) tk (da_cons (dv 5) da_nil))))) hp)
      (dss_cons (ds_fld T.Table.cl T.Table_no_is_full (dv 0) (de_cmp (op_eqD hr.units) lift_eq (de_len T.bis (de_fld T.Table.cl T.Table_no_rows (dv 0))) (de_len T.bis (de_def (dd_all_rows T) (hr.mono (by decide)) hgd tk (da_cons (dv 1) (da_cons (dv 2) da_nil)))) rfl))
      (dss_one (ds_fld T.Table.cl T.Table_no_is_product (dv 0) (de_cmp (op_eqD hr.units) lift_eq (de_len T.bis (de_fld T.Table.cl T.Table_no_rows (dv 0))) (dv 4) rfl)))))))))))), ?_⟩
  intro ds S Q E' ⟨a, dom, n, ns, e, ha, ok, hz, q⟩
  subst e
  clear tk hp hgd hr
  have n1 := ok.n1
  have n3 := ok.n3
  have l3 := ok.l3
  have nz : ∀ z ∈ dom, z.length ≤ sizeLine := fun z hz => nm_len (ok.nm z hz)
  have l27 := ok.uniq.len27 (DTS.uniqT_nodup ns)
  walk_at "st"
  refine ⟨_, rfl, okI_tup, fun es e z hz => ?_, ?_⟩
  · cases e
    obtain ⟨y, hy, rfl⟩ := List.mem_map.mp hz
    exact okI_str (nz y hy)
  rw [dom_ok ok.d3 ok.nm]
  walk_at "st"
  refine ⟨_, _, rfl, rfl, ?_⟩
  walk_at "st"
  rw [decide_eq_true (show (1 : Int) ≤ (n : Int) by omega)]
  walk_at "st"
  rw [decide_eq_true (show (n : Int) ≤ 3 by omega)]
  walk_at "st"
  refine ⟨dom, n, _, rfl, okI_tup, fun es e => ?_, ?_⟩
  · cases e
    refine ⟨by rw [List.length_map, sizeLine_eq]; omega, fun z hz2 => ?_⟩
    obtain ⟨k, hk, rfl⟩ := List.mem_map.mp hz2
    exact anyD_row ok.nm (by omega) (ok.mem k hk)
  rw [rows_ok ok.mem]
  walk_at "st"
  refine s_fldPutA ha (by decide) (congrArg (List.map (·.1)) (tput1 _)) (congrArg (List.map (·.2)) (tput1 _)) ?_
  walk_at "st"
  refine s_fldPutA put_same (Nat.le_of_ble_eq_true rfl) (congrArg (List.map (·.1)) (tput2 _ _)) (congrArg (List.map (·.2)) (tput2 _ _)) ?_
  walk_at "st"
  refine ⟨_, ns, rfl, rowsAre_enc ns, ok.few, ok.ne, fun es he hin => ?_⟩
  obtain rfl := enc_of_rows he hin
  walk_at "st"
  refine s_fldPutA put_same (Nat.le_of_ble_eq_true rfl) (congrArg (List.map (·.1)) (tput3 _ _ _)) (congrArg (List.map (·.2)) (tput3 _ _ _)) ?_
  generalize hS : put _ a _ = S1
  have h1 : S1 a = some (.ins T.Table.C ["domain", "width", "rows"] [.tup (dom.map .str), .int n, .tup ((DTS.uniqT ns).map encT)]) := by rw [← hS]; exact put_same
  have h2 : ∀ b, b ≠ a → S1 b = S b := fun b hb => by rw [← hS, put_ne hb, put_ne hb, put_ne hb]
  clear hS
  walk_at "st"
  refine s_it1i (by omega) (by omega) ?_
  refine e_forR (fun j ρ S' => S' = S1 ∧ ∃ v5, ρ = [some (.ref a), some (.tup (dom.map .str)), some (.int n), some (.tup (ns.map encT)), some (.int (prodTo (DTS.uniqT ns) j)), v5]) ?_ ?_ ⟨rfl, none, rfl⟩
  · rintro ρ S' ⟨rfl, v5, rfl⟩
    walk_at "st"
    refine s_fldP (objD_ref h1) tlk3 ?_
    walk_at "st"
    refine ⟨dom, n, rfl, l3, by omega, ?_⟩
    walk_at "st"
    refine rdEq_int ?_
    rw [List.length_map, List.length_map]
    walk_at "st"
    refine s_fldPutA h1 (Nat.le_of_ble_eq_true rfl) (congrArg (List.map (·.1)) (tput4 _ _ _ _)) (congrArg (List.map (·.2)) (tput4 _ _ _ _)) ?_
    walk_at "st"
    refine s_fldP (objD_ref put_same) tlk4 ?_
    walk_at "st"
    refine rdEq_int ?_
    rw [List.length_map]
    walk_at "st"
    refine s_fldPutA put_same (Nat.le_of_ble_eq_true rfl) (congrArg (List.map (·.1)) (tput5 _ _ _ _ _)) (congrArg (List.map (·.2)) (tput5 _ _ _ _ _)) ?_
    exact q _ put_same fun b hb => by rw [put_ne hb, put_ne hb]; exact h2 b hb
  · rintro J j hj ih ρ S' ⟨rfl, v5, rfl⟩
    have lc := colS_len (DTS.uniqT ns) j
    walk_at "st"
    refine e_mulS rfl ?_
    walk_at "st"
    refine s_isObj h1 (by decide) ?_
    walk_at "st"
    refine ⟨.ref a, j, _, DTS.uniqT ns, rfl, objD_ref h1, tlk3, fun r hr => ?_, l27, ?_⟩
    · rw [(rowsS_each (ok.mem r (DTS.uniqT_mem.mp hr))).1]
      exact hj
    walk_at "st"
    rw [List.length_map]
    exact ⟨mul_ok (by omega), ih _ _ ⟨rfl, _, rfl⟩⟩
/-- a table is made -/
theorem mk_table {C : Addr} {S : Store} {Q : DQ} {E : DX} {dom : List Str} {n : Nat} {ns : List (List Str)} (ok : TableOk dom n ns) (hz : ns.length ≤ 2000) (q : Q (tableD C dom n (DTS.uniqT ns)) S) :
    ∀ a, S a = none → dspTInit C (.ref a :: ([.tup (dom.map .str), .int n, .tup (ns.map encT)] ++ [])) (put S a (.ins C [] [])) (fun d S2 => d = .non ∧ ∃ ns ds, S2 a = some (.ins C ns ds) ∧ Q (.obj C ns ds) (del S2 a)) E := by
  intro a ha
  refine ⟨a, dom, n, ns, rfl, put_same, ok, hz, fun S' h1 h2 => ⟨rfl, _, _, h1, ?_⟩⟩
  rw [del_back ha fun b hb => (h2 b hb).trans (put_ne hb)]
  exact q


end
end K03

set_option maxRecDepth 100000
set_option maxHeartbeats 4000000
namespace K03
open PySem PySem.Spec L2 DL
section
variable {P : Program} {w : World} {K : PySem.W.Frag} {mg : Str → Option Value} {base : Heap}
theorem kit_self {K : PySem.W.Frag} {C : Addr} : PySem.W.kitOne K (.ref C) (.ref C) = some true := by
  unfold PySem.W.kitOne
  rw [if_pos (by simp)]
/-- a table as it stands -/
structure TabV (dom : List Str) (n : Nat) (rows : List (List Str)) : Prop extends TableOk dom n rows where
  asc : Asc rows
theorem TabV.len {dom : List Str} {n : Nat} {rows : List (List Str)} (v : TabV dom n rows) : rows.length ≤ 27 := v.len27 v.asc.nodup
theorem TableOk.tab {dom : List Str} {n : Nat} {rows : List (List Str)} (ok : TableOk dom n rows) : TabV dom n (DTS.uniqT rows) := ⟨ok.uniq, uniqT_asc rows⟩
def tabEqB (dom : List Str) (n : Nat) (a : List (List Str)) (dom2 : List Str) (n2 : Nat) (b : List (List Str)) : Bool := decide (dom = dom2) && (decide (n = n2) && decide (a = b))
def dspTEq (K : PySem.W.Frag) (C : Addr) : DSp := fun ds S Q _ => ∃ dom n a o, ds = [tableD C dom n a, o] ∧ TabV dom n a ∧ ((∃ dom2 n2 b, o = tableD C dom2 n2 b ∧ TabV dom2 n2 b ∧ Q (.bl (tabEqB dom n a dom2 n2 b)) S) ∨ ∃ t, tyO K S o t ∧ PySem.W.kitOne K t (.ref C) = some false ∧ Q (.bl false) S)
theorem sc_Table_eq : FnScope ["self", "other"] ["self", "other"] (defScope sTable_eq) := ⟨rfl, rfl, rfl, by decide +kernel, rfl, by decide +kernel, by decide +kernel⟩
theorem ok_Table_eq (T : Facts P K mg) : FnD P w K mg base 1 T.Table_eq.f T.Table_eq.fd ["self", "other"] (dspTEq K T.Table.C) := by
  refine fn_ofE (k := 0) T.Table_eq.F sc_Table_eq (fun ds S Q E ⟨dom, n, a, o, e, _⟩ => by subst e; rfl) fun cdv A outer s H E hr hgd tk hp => ?_
  refine ⟨_, (dss_cons (ds_if (dt_not (dt_val (de_isiO T.bis T.Table.at_ (dv 1)))) (dss_one (ds_ret de_bl)) dss_nil)
      (dss_one (ds_ret (de_and (de_cmp (op_eqD hr.units) lift_eq (de_fld T.Table.cl T.Table_no_domain (dv 0)) (de_fld T.Table.cl T.Table_no_domain (dv 1)) rfl) (de_and (de_cmp (op_eqD hr.units) lift_eq (de_fld T.Table.cl T.Table_no_width (dv 0)) (de_fld T.Table.cl T.Table_no_width (dv 1)) rfl) (de_one (de_cmp (op_eqD hr.units) lift_eq (de_fld T.Table.cl T.Table_no_rows (dv 0)) (de_fld T.Table.cl T.Table_no_rows (dv 1)) rfl))))))), ?_⟩
  intro ds S Q E' ⟨dom, n, a, o, e, ok, q⟩
  subst e
  clear tk hp hgd hr
  walk_at "st"
  rcases q with ⟨dom2, n2, b, rfl, ok2, q⟩ | ⟨t, ht, hk, q⟩
  · refine ⟨_, _, .ref T.Table.C, true, rfl, .inl ⟨T.Table.C, T.Table_ty, by rw [tfl]; rfl, rfl⟩, kit_self, ?_⟩
    walk_at "st"
    refine s_fldP tfl tlk_dom ?_
    walk_at "st"
    refine s_fldP tfl tlk_dom ?_
    refine s_eqTS (fun z hz => (name_ok (ok.nm z hz)).1) (fun z hz => (name_ok (ok2.nm z hz)).1) ?_
    unfold tabEqB at q
    walk_at "st"
    refine iteB (fun h => ?_) fun h => ?_
    · have h : decide (dom = dom2) = true := h
      rw [h, Bool.true_and] at q
      walk_at "st"
      refine s_fldP tfl tlk_wid ?_
      walk_at "st"
      refine s_fldP tfl tlk_wid ?_
      refine rdEq_int ?_
      have en : decide ((n : Int) = (n2 : Int)) = decide (n = n2) := decide_eq_decide.mpr (by omega)
      rw [← en] at q
      walk_at "st"
      refine iteB (fun g => ?_) fun g => ?_
      · have g : decide ((n : Int) = (n2 : Int)) = true := g
        rw [g, Bool.true_and] at q
        walk_at "st"
        refine s_fldP tfl tlk_row ?_
        walk_at "st"
        refine s_fldP tfl tlk_row ?_
        refine s_eqRows ok.strs ok2.strs ?_
        exact q
      · have g : decide ((n : Int) = (n2 : Int)) = false := g
        rw [g, Bool.false_and] at q
        exact q
    · have h : decide (dom = dom2) = false := h
      rw [h, Bool.false_and] at q
      exact q
  · refine ⟨o, _, t, false, rfl, ht, hk, ?_⟩
    walk_at "st"
    exact q
/-- two tables, alike or not -/
def dspAlike (C CE : Addr) : DSp := fun ds S Q E => ∃ dom n a dom2 n2 b, ds = [tableD C dom n a, tableD C dom2 n2 b] ∧ TabV dom n a ∧ TabV dom2 n2 b ∧ (dom = dom2 → n = n2 → Q .non S) ∧ ((dom ≠ dom2 ∨ n ≠ n2) → E CE ["word"] [.str "unlike"] S)
theorem sc_Table_need_alike : FnScope ["self", "other"] ["self", "other"] (defScope sTable_need_alike) := ⟨rfl, rfl, rfl, by decide +kernel, rfl, by decide +kernel, by decide +kernel⟩
theorem ok_Table_need_alike (T : Facts P K mg) : FnD P w K mg base 2 T.Table_need_alike.f T.Table_need_alike.fd ["self", "other"] (dspAlike T.Table.C T.NoTable.C) := by
  refine fn_ofE (k := 1) T.Table_need_alike.F sc_Table_need_alike (fun ds S Q E ⟨dom, n, a, dom2, n2, b, e, _⟩ => by subst e; rfl) fun cdv A outer s H E hr hgd tk hp => ?_
  refine ⟨_, (dss_one (ds_if (DW.dt (dw_or (dt_cmp (op_neD hr.units) lift_ne (de_fld T.Table.cl T.Table_no_domain (dv 0)) (de_fld T.Table.cl T.Table_no_domain (dv 1)) rfl) (dw_or1 (dt_cmp (op_neD hr.units) lift_ne (de_fld T.Table.cl T.Table_no_width (dv 0)) (de_fld T.Table.cl T.Table_no_width (dv 1)) rfl)))) (dss_one (ds_raise T.NoTable.xi T.bis.super (hr.mono (by decide)) rfl tk T.NoTable.at_ de_str)) dss_nil)), ?_⟩
  intro ds S Q E' ⟨dom, n, a, dom2, n2, b, e, ok, ok2, q, qx⟩
  subst e
  clear tk hp hgd hr
  walk_at "st"
  refine s_fldP tfl tlk_dom ?_
  walk_at "st"
  refine s_fldP tfl tlk_dom ?_
  refine s_eqTS (fun z hz => (name_ok (ok.nm z hz)).1) (fun z hz => (name_ok (ok2.nm z hz)).1) ?_
  walk_at "st"
  refine iteB (fun h => ?_) fun h => ?_
  · have h : ¬ dom = dom2 := by simpa using h
    walk_at "st"
    exact qx (.inl h)
  · have h : dom = dom2 := by simpa using h
    walk_at "st"
    refine s_fldP tfl tlk_wid ?_
    walk_at "st"
    refine s_fldP tfl tlk_wid ?_
    refine rdEq_int ?_
    walk_at "st"
    refine iteB (fun g => ?_) fun g => ?_
    · have g : ¬ (n : Int) = (n2 : Int) := by simpa using g
      walk_at "st"
      exact qx (.inr fun e => g (by rw [e]))
    · have g : (n : Int) = (n2 : Int) := by simpa using g
      walk_at "st"
      exact q h (by omega)


end
end K03

set_option maxRecDepth 100000
set_option maxHeartbeats 4000000
namespace K03
open PySem PySem.Spec L2 DL
section
variable {P : Program} {w : World} {K : PySem.W.Frag} {mg : Str → Option Value} {base : Heap}
/-- an operator of two tables that must be alike -/
def dspBin (C CE : Addr) (f : List (List Str) → List (List Str) → List (List Str)) : DSp := fun ds S Q E => ∃ dom n a dom2 n2 b, ds = [tableD C dom n a, tableD C dom2 n2 b] ∧ TabV dom n a ∧ TabV dom2 n2 b ∧ (dom = dom2 → n = n2 → Q (tableD C dom n (f a b)) S) ∧ ((dom ≠ dom2 ∨ n ≠ n2) → E CE ["word"] [.str "unlike"] S)
def andS (a b : List (List Str)) : List (List Str) := a.filter fun r => decide (r ∈ b)
def subS (a b : List (List Str)) : List (List Str) := a.filter fun r => !decide (r ∈ b)
def orS (a b : List (List Str)) : List (List Str) := DTS.uniqT (a ++ b)
theorem TabV.filt {dom : List Str} {n : Nat} {a : List (List Str)} (v : TabV dom n a) (p : List Str → Bool) : TabV dom n (a.filter p) := ⟨⟨v.d3, v.nm, v.n1, v.n3, fun r hr => v.mem r ((List.mem_filter.mp hr).1)⟩, v.asc.filter p⟩
theorem TabV.or {dom : List Str} {n : Nat} {a b : List (List Str)} (v : TabV dom n a) (u : TabV dom n b) : TableOk dom n (a ++ b) := ⟨v.d3, v.nm, v.n1, v.n3, fun r hr => (List.mem_append.mp hr).elim (v.mem r) (u.mem r)⟩
theorem sc_Table_and : FnScope ["self", "other", "row"] ["self", "other"] (defScope sTable_and) := ⟨rfl, rfl, rfl, by decide +kernel, rfl, by decide +kernel, by decide +kernel⟩
theorem ok_Table_and (T : Facts P K mg) : FnD P w K mg base 5 T.Table_and.f T.Table_and.fd ["self", "other"] (dspBin T.Table.C T.NoTable.C andS) := by
  refine fn_ofE (k := 4) T.Table_and.F sc_Table_and (fun ds S Q E ⟨dom, n, a, dom2, n2, b, e, _⟩ => by subst e; rfl) fun cdv A outer s H E hr hgd tk hp => ?_
  refine ⟨_, (dss_cons (ds_expr (de_meth (dv 0) T.Table.cl T.Table_need_alike.at_ (ok_Table_need_alike T) (hr.mono (by decide)) hgd T.Table_need_alike.bd .nil (fun _ => .nil) tk (da_cons (dv 1) da_nil)))
      (dss_one (ds_ret (de_make T.Table_mk (ok_Table_init T) (hr.mono (by decide)) hgd T.Table.at_ T.Table_init.bd .nil (fun _ => .nil) tk (da_cons (de_fld T.Table.cl T.Table_no_domain (dv 0)) (da_cons (de_fld T.Table.cl T.Table_no_width (dv 0)) (da_cons (de_tuple T.bis (de_lc (own := [("row", 2)]) rfl sc_Table_and.nd (di_tup (de_fld T.Table.cl T.Table_no_rows (dv 0))) (⟨rfl, by decide +kernel, by decide +kernel, by decide +kernel, by decide +kernel⟩ : BlkOk ["self", "other", "row"] (defScope sTable_and) _ [("row", 2)]) (fun s H C cl fp => (dg_name 2 sc_Table_and.nd)) (fun s H C cl fp => (dts_one (dt_cmp (op_inDX (units65 hr)) (lift_inDX false) (dv 2) (de_fld T.Table.cl T.Table_no_rows (dv 1)) rfl)))
        (fun s H C cl fp => (dv 2)))) da_nil))))))), ?_⟩
  intro ds S Q E' ⟨dom, n, a, dom2, n2, b, e, ok, ok2, q, qx⟩
  subst e
  clear tk hp hgd hr
  have la := ok.len
  have lb := ok2.len
  have fl := List.length_filter_le (fun r => decide (r ∈ b)) a
  walk_at "st"
  refine s_isObjO (by decide) ?_
  walk_at "st"
  refine ⟨dom, n, a, dom2, n2, b, rfl, ok, ok2, fun e1 e2 => ?_, qx⟩
  have q := q e1 e2
  walk_at "st"
  refine s_fldP tfl tlk_dom ?_
  walk_at "st"
  refine s_fldP tfl tlk_wid ?_
  walk_at "st"
  refine s_fldP tfl tlk_row ?_
  walk_at "st"
  refine lc_filterM encT (fun r => decide (r ∈ b)) a [] (fun r hr => ⟨_, rfl, fun QT qt => ?_, fun R rr => ?_⟩) ?_
  · walk_at "st"
    refine s_fldP tfl tlk_row ?_
    refine s_inRows (.inl rfl) (ok.strs r hr) ok2.strs ?_
    walk_at "st"
    exact qt
  · walk_at "st"
    exact rr
  rw [List.nil_append]
  walk_at "st"
  have v := ok.filt fun r => decide (r ∈ b)
  refine mk_table v.toTableOk (by omega) ?_
  rw [uniqT_self v.asc]
  exact q
theorem sc_Table_sub : FnScope ["self", "other", "row"] ["self", "other"] (defScope sTable_sub) := ⟨rfl, rfl, rfl, by decide +kernel, rfl, by decide +kernel, by decide +kernel⟩
theorem ok_Table_sub (T : Facts P K mg) : FnD P w K mg base 5 T.Table_sub.f T.Table_sub.fd ["self", "other"] (dspBin T.Table.C T.NoTable.C subS) := by
  refine fn_ofE (k := 4) T.Table_sub.F sc_Table_sub (fun ds S Q E ⟨dom, n, a, dom2, n2, b, e, _⟩ => by subst e; rfl) fun cdv A outer s H E hr hgd tk hp => ?_
  refine ⟨_, (dss_cons (ds_expr (de_meth (dv 0) T.Table.cl T.Table_need_alike.at_ (ok_Table_need_alike T) (hr.mono (by decide)) hgd T.Table_need_alike.bd .nil (fun _ => .nil) tk (da_cons (dv 1) da_nil)))
      (dss_one (ds_ret (de_make T.Table_mk (ok_Table_init T) (hr.mono (by decide)) hgd T.Table.at_ T.Table_init.bd .nil (fun _ => .nil) tk (da_cons (de_fld T.Table.cl T.Table_no_domain (dv 0)) (da_cons (de_fld T.Table.cl T.Table_no_width (dv 0)) (da_cons (de_tuple T.bis (de_lc (own := [("row", 2)]) rfl sc_Table_sub.nd (di_tup (de_fld T.Table.cl T.Table_no_rows (dv 0))) (⟨rfl, by decide +kernel, by decide +kernel, by decide +kernel, by decide +kernel⟩ : BlkOk ["self", "other", "row"] (defScope sTable_sub) _ [("row", 2)]) (fun s H C cl fp => (dg_name 2 sc_Table_sub.nd)) (fun s H C cl fp => (dts_one (dt_cmp (op_notInDX (units65 hr)) (lift_inDX true) (dv 2) (de_fld T.Table.cl T.Table_no_rows (dv 1)) rfl)))
        (fun s H C cl fp => (dv 2)))) da_nil))))))), ?_⟩
  intro ds S Q E' ⟨dom, n, a, dom2, n2, b, e, ok, ok2, q, qx⟩
  subst e
  clear tk hp hgd hr
  have la := ok.len
  have lb := ok2.len
  have fl := List.length_filter_le (fun r => !decide (r ∈ b)) a
  walk_at "st"
  refine s_isObjO (by decide) ?_
  walk_at "st"
  refine ⟨dom, n, a, dom2, n2, b, rfl, ok, ok2, fun e1 e2 => ?_, qx⟩
  have q := q e1 e2
  walk_at "st"
  refine s_fldP tfl tlk_dom ?_
  walk_at "st"
  refine s_fldP tfl tlk_wid ?_
  walk_at "st"
  refine s_fldP tfl tlk_row ?_
  walk_at "st"
  refine lc_filterM encT (fun r => !decide (r ∈ b)) a [] (fun r hr => ⟨_, rfl, fun QT qt => ?_, fun R rr => ?_⟩) ?_
  · walk_at "st"
    refine s_fldP tfl tlk_row ?_
    refine s_inRows (.inl rfl) (ok.strs r hr) ok2.strs ?_
    walk_at "st"
    exact qt
  · walk_at "st"
    exact rr
  rw [List.nil_append]
  walk_at "st"
  have v := ok.filt fun r => !decide (r ∈ b)
  refine mk_table v.toTableOk (by omega) ?_
  rw [uniqT_self v.asc]
  exact q
theorem sc_Table_or : FnScope ["self", "other"] ["self", "other"] (defScope sTable_or) := ⟨rfl, rfl, rfl, by decide +kernel, rfl, by decide +kernel, by decide +kernel⟩
theorem ok_Table_or (T : Facts P K mg) : FnD P w K mg base 5 T.Table_or.f T.Table_or.fd ["self", "other"] (dspBin T.Table.C T.NoTable.C orS) := by
  refine fn_ofE (k := 4) T.Table_or.F sc_Table_or (fun ds S Q E ⟨dom, n, a, dom2, n2, b, e, _⟩ => by subst e; rfl) fun cdv A outer s H E hr hgd tk hp => ?_
  refine ⟨_, (dss_cons (ds_expr (de_meth (dv 0) T.Table.cl T.Table_need_alike.at_ (ok_Table_need_alike T) (hr.mono (by decide)) hgd T.Table_need_alike.bd .nil (fun _ => .nil) tk (da_cons (dv 1) da_nil)))
      (dss_one (ds_ret (de_make T.Table_mk (ok_Table_init T) (hr.mono (by decide)) hgd T.Table.at_ T.Table_init.bd .nil (fun _ => .nil) tk (da_cons (de_fld T.Table.cl T.Table_no_domain (dv 0)) (da_cons (de_fld T.Table.cl T.Table_no_width (dv 0)) (da_cons (de_op or_add lift_add (de_fld T.Table.cl T.Table_no_rows (dv 0)) (de_fld T.Table.cl T.Table_no_rows (dv 1))) da_nil))))))), ?_⟩
  intro ds S Q E' ⟨dom, n, a, dom2, n2, b, e, ok, ok2, q, qx⟩
  subst e
  clear tk hp hgd hr
  have la := ok.len
  have lb := ok2.len
  walk_at "st"
  refine s_isObjO (by decide) ?_
  walk_at "st"
  refine ⟨dom, n, a, dom2, n2, b, rfl, ok, ok2, fun e1 e2 => ?_, qx⟩
  replace q := q e1 e2
  subst e1 e2
  walk_at "st"
  refine s_fldP tfl tlk_dom ?_
  walk_at "st"
  refine s_fldP tfl tlk_wid ?_
  walk_at "st"
  refine s_fldP tfl tlk_row ?_
  walk_at "st"
  refine s_fldP tfl tlk_row ?_
  walk_at "st"
  rw [← List.map_append]
  refine mk_table (ok.or ok2) (by rw [List.length_append]; omega) ?_
  exact q
/-- each row of the first followed by each of the second -/
def dspMul (C CE : Addr) : DSp := fun ds S Q E => ∃ dom n a dom2 n2 b, ds = [tableD C dom n a, tableD C dom2 n2 b] ∧ TabV dom n a ∧ TabV dom2 n2 b ∧ (dom = dom2 → n + n2 ≤ 3 → Q (tableD C dom (n + n2) (timesS a b)) S) ∧ (dom ≠ dom2 → E CE ["word"] [.str "unlike"] S) ∧ (dom = dom2 → 3 < n + n2 → E CE ["word"] [.str "width"] S)
theorem timesS_len (a b : List (List Str)) : (timesS a b).length = a.length * b.length := by
  unfold timesS
  induction a with
  | nil => simp
  | cons x a ih => rw [List.flatMap_cons, List.length_append, ih, List.length_map, List.length_cons, Nat.add_mul, Nat.one_mul, Nat.add_comm]
theorem TabV.times {dom : List Str} {n n2 : Nat} {a b : List (List Str)} (v : TabV dom n a) (u : TabV dom n2 b) (h : n + n2 ≤ 3) : TabV dom (n + n2) (timesS a b) := by
  refine ⟨⟨v.d3, v.nm, by have := v.n1; omega, h, fun r hr => ?_⟩, timesS_asc v.asc u.asc fun r hr => (rowsS_each (v.mem r hr)).1⟩
  obtain ⟨x, hx, y, hy, rfl⟩ := timesS_mem.mp hr
  obtain ⟨l1, m1⟩ := rowsS_each (v.mem x hx)
  obtain ⟨l2, m2⟩ := rowsS_each (u.mem y hy)
  exact rowsS_has (by rw [List.length_append, l1, l2]) fun z hz => (List.mem_append.mp hz).elim (m1 z) (m2 z)
theorem timesS_enc (a b : List (List Str)) : (a.flatMap fun r => b.map fun o => encT (r ++ o)) = (timesS a b).map encT := by
  unfold timesS
  rw [List.map_flatMap]
  refine congrArg (fun f => a.flatMap f) (funext fun r => ?_)
  rw [List.map_map]
  rfl
theorem sc_Table_mul : FnScope ["self", "other", "rows", "one", "two"] ["self", "other"] (defScope sTable_mul) := ⟨rfl, rfl, rfl, by decide +kernel, rfl, by decide +kernel, by decide +kernel⟩
theorem ok_Table_mul (T : Facts P K mg) : FnD P w K mg base 5 T.Table_mul.f T.Table_mul.fd ["self", "other"] (dspMul T.Table.C T.NoTable.C) := by
  obtain ⟨_, h_MOST_WIDTH⟩ := T.g_MOST_WIDTH
  refine fn_ofE (k := 4) T.Table_mul.F sc_Table_mul (fun ds S Q E ⟨dom, n, a, dom2, n2, b, e, _⟩ => by subst e; rfl) fun cdv A outer s H E hr hgd tk hp => ?_
  refine ⟨_, (dss_cons (ds_if (dt_cmp (op_neD hr.units) lift_ne (de_fld T.Table.cl T.Table_no_domain (dv 0)) (de_fld T.Table.cl T.Table_no_domain (dv 1)) rfl) (dss_one (ds_raise T.NoTable.xi T.bis.super (hr.mono (by decide)) rfl tk T.NoTable.at_ de_str)) dss_nil)
      (dss_cons (ds_if (dt_cmp op_gt (lift_cmpI _) (de_op or_add lift_add (de_fld T.Table.cl T.Table_no_width (dv 0)) (de_fld T.Table.cl T.Table_no_width (dv 1))) (de_globI h_MOST_WIDTH) rfl) (dss_one (ds_raise T.NoTable.xi T.bis.super (hr.mono (by decide)) rfl tk T.NoTable.at_ de_str)) dss_nil)
      (dss_cons (ds_setLc2 (own := [("one", 3), ("two", 4)]) (i := 2) rfl sc_Table_mul.nd (sw_true rfl rfl rfl (by decide +kernel)) (di_tup (de_fld T.Table.cl T.Table_no_rows (dv 0))) (⟨rfl, by decide +kernel, by decide +kernel, by decide +kernel, by decide +kernel⟩ : BlkOk ["self", "other", "rows", "one", "two"] (defScope sTable_mul) _ [("one", 3), ("two", 4)]) (fun s H C cl fp => (dg_name 3 sc_Table_mul.nd)) (fun s H C cl fp => dts_nil) (fun s H C cl fp => (di_tup (de_fld T.Table.cl T.Table_no_rows (dv 1)))) (fun s H C cl fp => (dg_name 4 sc_Table_mul.nd)) (fun s H C cl fp => dts_nil)
        (fun s H C cl fp => (de_op or_add lift_add (dv 3) (dv 4))))
      (dss_one (ds_ret (de_make T.Table_mk (ok_Table_init T) (hr.mono (by decide)) hgd T.Table.at_ T.Table_init.bd .nil (fun _ => .nil) tk (da_cons (de_fld T.Table.cl T.Table_no_domain (dv 0)) (da_cons (de_op or_add lift_add (de_fld T.Table.cl T.Table_no_width (dv 0)) (de_fld T.Table.cl T.Table_no_width (dv 1))) (da_cons (de_tuple T.bis (dv 2)) da_nil))))))))), ?_⟩
  intro ds S Q E' ⟨dom, n, a, dom2, n2, b, e, ok, ok2, q, qu, qw⟩
  subst e
  clear tk hp hgd hr
  have la := ok.len
  have lb := ok2.len
  have lt := timesS_len a b
  have lm : a.length * b.length ≤ 27 * 27 := Nat.mul_le_mul la lb
  walk_at "st"
  refine s_fldP tfl tlk_dom ?_
  walk_at "st"
  refine s_fldP tfl tlk_dom ?_
  refine s_eqTS (fun z hz => (name_ok (ok.nm z hz)).1) (fun z hz => (name_ok (ok2.nm z hz)).1) ?_
  walk_at "st"
  refine iteB (fun h => ?_) fun h => ?_
  · have h : ¬ dom = dom2 := by simpa using h
    walk_at "st"
    exact qu h
  have h : dom = dom2 := by simpa using h
  walk_at "st"
  refine s_fldP tfl tlk_wid ?_
  walk_at "st"
  refine s_fldP tfl tlk_wid ?_
  walk_at "st"
  refine iteB (fun g => ?_) fun g => ?_
  · have g : (3 : Int) < (n : Int) + n2 := of_decide_eq_true g
    walk_at "st"
    exact qw h (by omega)
  have g : ¬ (3 : Int) < (n : Int) + n2 := of_decide_eq_false g
  have g3 : n + n2 ≤ 3 := by omega
  replace q := q h g3
  clear qu qw
  subst h
  have r3 : ∀ r ∈ a, r.length ≤ 3 := fun r hr => by rw [(rowsS_each (ok.mem r hr)).1]; exact ok.n3
  have o3 : ∀ r ∈ b, r.length ≤ 3 := fun r hr => by rw [(rowsS_each (ok2.mem r hr)).1]; exact ok2.n3
  walk_at "st"
  refine s_fldP tfl tlk_row ?_
  walk_at "st"
  refine lc2_map encT (fun r => b.map fun o => encT (r ++ o)) a [] ?_ (fun r hr => ⟨_, rfl, fun acc' R hl q2 => ?_⟩) ?_
  · rw [timesS_enc, List.length_map, List.length_nil, sizeLine_eq]
    omega
  · rw [List.length_map] at hl
    have hr3 := r3 r hr
    walk_at "st"
    refine s_fldP tfl tlk_row ?_
    walk_at "st"
    refine ⟨by rw [List.length_map]; exact hl, ?_⟩
    refine lcgo_map encT (fun o => encT (r ++ o)) b acc' (fun o ho => ⟨_, rfl, fun R2 r2 => ?_⟩) q2
    have ho3 := o3 o ho
    walk_at "st"
    exact add_enc (by rw [sizeLine_eq]; omega) r2
  rw [timesS_enc, List.nil_append]
  walk_at "st"
  refine s_fldP tfl tlk_dom ?_
  walk_at "st"
  refine s_fldP tfl tlk_wid ?_
  walk_at "st"
  refine s_fldP tfl tlk_wid ?_
  walk_at "st"
  have v := ok.times ok2 g3
  have en : ((n : Int) + (n2 : Int)) = ((n + n2 : Nat) : Int) := by omega
  rw [en]
  refine mk_table v.toTableOk (by omega) ?_
  rw [uniqT_self v.asc]
  exact q
/-- all rows that are not there -/
def dspInv (C : Addr) : DSp := fun ds S Q _ => ∃ dom n a, ds = [tableD C dom n a] ∧ TabV dom n a ∧ Q (tableD C dom n (subS (rowsS dom n) a)) S
theorem TabV.all {dom : List Str} {n : Nat} {a : List (List Str)} (v : TabV dom n a) : TabV dom n (rowsS dom n) := ⟨⟨v.d3, v.nm, v.n1, v.n3, fun r hr => hr⟩, rowsS_asc (dom3_pw v.d3).1 (dom3_pw v.d3).2.1 n⟩
theorem sc_Table_invert : FnScope ["self", "rows", "row"] ["self"] (defScope sTable_invert) := ⟨rfl, rfl, rfl, by decide +kernel, rfl, by decide +kernel, by decide +kernel⟩
theorem ok_Table_invert (T : Facts P K mg) : FnD P w K mg base 5 T.Table_invert.f T.Table_invert.fd ["self"] (dspInv T.Table.C) := by
  refine fn_ofE (k := 4) T.Table_invert.F sc_Table_invert (fun ds S Q E ⟨dom, n, a, e, _⟩ => by subst e; rfl) fun cdv A outer s H E hr hgd tk hp => ?_
  refine ⟨_, (dss_cons (ds_setLc (own := [("row", 2)]) (i := 1) rfl sc_Table_invert.nd (sw_true rfl rfl rfl (by decide +kernel)) (di_list (de_def (dd_all_rows T) (hr.mono (by decide)) hgd tk (da_cons (de_fld T.Table.cl T.Table_no_domain (dv 0)) (da_cons (de_fld T.Table.cl T.Table_no_width (dv 0)) da_nil)))) (⟨rfl, by decide +kernel, by decide +kernel, by decide +kernel, by decide +kernel⟩ : BlkOk ["self", "rows", "row"] (defScope sTable_invert) _ [("row", 2)]) (fun s H C cl fp => (dg_name 2 sc_Table_invert.nd)) (fun s H C cl fp => (dts_one (dt_cmp (op_notInDX (units65 hr)) (lift_inDX true) (dv 2) (de_fld T.Table.cl T.Table_no_rows (dv 0)) rfl)))
        (fun s H C cl fp => (dv 2)))
      (dss_one (ds_ret (de_make T.Table_mk (ok_Table_init T) (hr.mono (by decide)) hgd T.Table.at_ T.Table_init.bd .nil (fun _ => .nil) tk (da_cons (de_fld T.Table.cl T.Table_no_domain (dv 0)) (da_cons (de_fld T.Table.cl T.Table_no_width (dv 0)) (da_cons (de_tuple T.bis (dv 1)) da_nil))))))), ?_⟩
  intro ds S Q E' ⟨dom, n, a, e, ok, q⟩
  subst e
  clear tk hp hgd hr
  have la := ok.len
  have v0 := ok.all
  have l0 := v0.len
  have fl := List.length_filter_le (fun r => !decide (r ∈ a)) (rowsS dom n)
  walk_at "st"
  refine s_fldP tfl tlk_dom ?_
  walk_at "st"
  refine s_fldP tfl tlk_wid ?_
  walk_at "st"
  refine ⟨dom, n, rfl, ok.l3, by have := ok.n3; omega, ?_⟩
  walk_at "st"
  refine lc_filterM encT (fun r => !decide (r ∈ a)) (rowsS dom n) [] (fun r hr => ⟨_, rfl, fun QT qt => ?_, fun R rr => ?_⟩) ?_
  · walk_at "st"
    refine s_fldP tfl tlk_row ?_
    refine s_inRows (.inl rfl) (v0.strs r hr) ok.strs ?_
    walk_at "st"
    exact qt
  · walk_at "st"
    exact rr
  rw [List.nil_append]
  walk_at "st"
  refine s_fldP tfl tlk_dom ?_
  walk_at "st"
  refine s_fldP tfl tlk_wid ?_
  walk_at "st"
  have v := v0.filt fun r => !decide (r ∈ a)
  refine mk_table v.toTableOk (by omega) ?_
  rw [uniqT_self v.asc]
  exact q


end
end K03

set_option maxRecDepth 100000
set_option maxHeartbeats 4000000
namespace K03
open PySem PySem.Spec L2 DL
section
variable {P : Program} {w : World} {K : PySem.W.Frag} {mg : Str → Option Value} {base : Heap}
/-- so many names, ascending, each once -/
def dspNames : DSp := fun ds S Q _ => ∃ a L k m, ds = [.ref a, .int m] ∧ Deck S a L (k + 3) ∧ 1 ≤ m ∧ m ≤ 3 ∧ ∀ (dom : List Str) S', (dom.length : Int) = m → (∀ z ∈ dom, isNameS z = true) → dom.Pairwise (fun a b => DLS.leS a b = true) → dom.Nodup → Deck S' a L k → Q (.tup (dom.map .str)) S'
abbrev lawPool : List Str := ["x", "y", "ab", "abc", "abcd", "no", "yes", "off", "width", "rows", "zz", "zzzzzzzz"]
theorem pool_nodup : lawPool.Nodup := by decide +kernel
theorem pool_names : ∀ z ∈ lawPool, isNameS z = true := by decide +kernel
theorem pool_split : Txt.split (Str.ofString "x y ab abc abcd no yes off width rows zz zzzzzzzz") (Str.ofString " ") = lawPool := by decide +kernel
theorem sc__law_words : FnScope ["_law_deck_here", "_law_many", "_law_left", "_law_got", "_law_k"] ["_law_deck_here", "_law_many"] (defScope sLWords) := ⟨rfl, rfl, rfl, by decide +kernel, rfl, by decide +kernel, by decide +kernel⟩
theorem ok__law_words (T : Facts P K mg) : FnD P w K mg base 2 T._law_words.f T._law_words.fd ["_law_deck_here", "_law_many"] dspNames := by
  refine fn_ofE (k := 1) T._law_words.F sc__law_words (fun ds S Q E ⟨a, L, k, m, e, _⟩ => by subst e; rfl) fun cdv A outer s H E hr hgd tk hp => ?_
  refine ⟨_, (dss_cons (ds_par (i := 2) (j := 3) rfl sc__law_words.nd (da_cons (de_splitM de_str de_str) (da_cons (de_lstM da_nil) da_nil)) (by rfl))
      (dss_cons (ds_for rfl (di_range1 T.bis.range (da_cons (dv 1) da_nil)) (dg_name 4 sc__law_words.nd) (dss_one (ds_expr (de_append (dv 3) (de_popAt (dv 2) (de_def (dd__law_draw T) (hr.mono (by decide)) hgd tk (da_cons (dv 0) (da_cons (de_len T.bis (dv 2)) da_nil))))))) hp)
      (dss_one (ds_ret (de_tuple T.bis (de_sortS T.bis (dv 3))))))), ?_⟩
  intro ds S Q E' ⟨a, L, k, m, e, D, m0, m1, q⟩
  subst e
  clear tk hp hgd hr
  walk_at "st"
  refine ⟨_, rfl, ?_⟩
  walk_at "st"
  refine ⟨_, rfl, by decide +kernel, by decide +kernel, fun p hp => ?_⟩
  rw [pool_split]
  obtain ⟨pa, pL⟩ := D.a_some hp
  walk_at "st"
  intro p2 hp2
  have pp : p ≠ p2 := fun e => by rw [e, put_same] at hp2; cases hp2
  have h2 : S p2 = none := by rw [put_ne (Ne.symm pp)] at hp2; exact hp2
  obtain ⟨pa2, pL2⟩ := D.a_some h2
  walk_at "st"
  refine s_it1i (by omega) (by omega) ?_
  have hm : m = ((m.toNat : Nat) : Int) := by omega
  rw [hm]
  refine e_forR (fun j ρ S' => ∃ v4, ρ = [some (.ref a), some (.int m.toNat), some (.ref p), some (.ref p2), v4] ∧ ∃ ps got : List Str, S' p = some (.lst (ps.map .str)) ∧ S' p2 = some (.lst (got.map .str)) ∧ Deck S' a L (k + (m.toNat - j)) ∧ (got ++ ps).Perm lawPool ∧ got.length = j) ?_ ?_ ?_
  · rintro ρ S' ⟨v4, rfl, ps, got, hS, hG, D', pm, hl⟩
    have nd : (got ++ ps).Nodup := pm.nodup_iff.mpr pool_nodup
    have hmm : ∀ z ∈ got, isNameS z = true := fun z hz => pool_names z (pm.mem_iff.mp (List.mem_append_left _ hz))
    walk_at "st"
    refine ⟨got, (show lstM (S' p2) = _ by rw [hG]; rfl), by omega, ?_⟩
    walk_at "st"
    refine q (DLS.sortS got) S' ?_ (fun z hz => hmm z ((DLS.sortS_perm got).mem_iff.mp hz)) (DLS.sortS_pw got) ((DLS.sortS_perm got).nodup_iff.mpr (List.nodup_append.mp nd).1) (D'.mono (by omega))
    rw [(DLS.sortS_perm got).length_eq]
    omega
  · rintro J j hj ih ρ S' ⟨v4, rfl, ps, got, hS, hG, D', pm, hl⟩
    have le := pm.length_eq
    rw [List.length_append] at le
    have l0 : lawPool.length = 12 := rfl
    have lp : 0 < ps.length := by omega
    walk_at "st"
    refine s_rd1 (lenR hS) ?_
    walk_at "st"
    rw [List.length_map]
    refine ⟨a, L, k + (m.toNat - (j + 1)), ps.length, rfl, D'.mono (by omega), by omega, by omega, fun i S2 i0 i1 D2 off => ?_⟩
    have hS2 : S2 p = some (.lst (ps.map .str)) := (off p pa pL).trans hS
    have hG2 : S2 p2 = some (.lst (got.map .str)) := (off p2 pa2 pL2).trans hG
    walk_at "st"
    refine s_popAt i0 (by rw [List.length_map]; exact i1) (by rw [List.length_map]; omega) fun d hd => ?_
    have hil : i.toNat < ps.length := by omega
    rw [List.getElem?_map, List.getElem?_eq_getElem hil] at hd
    cases hd
    refine ⟨_, (put_ne (Ne.symm pp)).trans hG2, ?_⟩
    refine s_append (by rw [sizeLine_eq, List.length_map]; omega) ?_
    refine ih _ _ ⟨_, rfl, ps.eraseIdx i.toNat, got ++ [ps[i.toNat]], ?_, ?_, (D2.put_off pa pL).put_off pa2 pL2, ?_, ?_⟩
    · rw [put_ne pp, put_same, erase_map]
    · rw [put_same, List.map_append]
      rfl
    · refine List.Perm.trans ?_ pm
      rw [List.append_assoc]
      exact List.Perm.append_left got (erase_perm ps i.toNat hil)
    · rw [List.length_append, List.length_singleton]
      omega
  · refine ⟨none, rfl, lawPool, [], ?_, put_same, ((D.put_off pa pL).put_off pa2 pL2).mono (by omega), List.Perm.refl _, rfl⟩
    rw [put_ne pp, put_same]
theorem dd__law_words (T : Facts P K mg) : DefD P w K mg base 2 "_law_words" ["_law_deck_here", "_law_many"] dspNames T._law_words.f T._law_words.fd := .of T._law_words (ok__law_words T)

theorem sc__law_every : FnScope ["_law_words_here", "_law_size", "_law_got", "_law_k", "_law_longer", "_law_row", "_law_word_here"] ["_law_words_here", "_law_size"] (defScope sLEvery) := ⟨rfl, rfl, rfl, by decide +kernel, rfl, by decide +kernel, by decide +kernel⟩
theorem ok__law_every (T : Facts P K mg) : FnD P w K mg base 1 T._law_every.f T._law_every.fd ["_law_words_here", "_law_size"] dspAllRows := by
  refine fn_ofE (k := 0) T._law_every.F sc__law_every (fun ds S Q E ⟨dom, n, e, _⟩ => by subst e; rfl) fun cdv A outer s H E hr hgd tk hp => ?_
  refine ⟨_, (dss_cons (ds_set (i := 2) sc__law_every.nd (de_lst (da_cons (de_tup da_nil) da_nil)))
      (dss_cons (ds_for rfl (di_range1 T.bis.range (da_cons (dv 1) da_nil)) (dg_name 3 sc__law_every.nd) (dss_cons (ds_set (i := 4) sc__law_every.nd (de_lst da_nil))
      (dss_cons (ds_for rfl (di_list (dv 2)) (dg_name 5 sc__law_every.nd) (dss_one (ds_set (i := 4) sc__law_every.nd (de_op or_add lift_add (dv 4) (de_lc (own := [("_law_word_here", 6)]) rfl sc__law_every.nd (di_tup (dv 0)) (⟨rfl, by decide +kernel, by decide +kernel, by decide +kernel, by decide +kernel⟩ : BlkOk ["_law_words_here", "_law_size", "_law_got", "_law_k", "_law_longer", "_law_row", "_law_word_here"] (defScope sLEvery) _ [("_law_word_here", 6)]) (fun s H C cl fp => (dg_name 6 sc__law_every.nd)) (fun s H C cl fp => dts_nil)
        (fun s H C cl fp => (de_op or_add lift_add (dv 5) (de_tup (da_cons (dv 6) da_nil)))))))) hp)
      (dss_one (ds_set (i := 2) sc__law_every.nd (dv 4))))) hp)
      (dss_one (ds_ret (dv 2))))), ?_⟩
  intro ds S Q E' ⟨dom, n, e, hd, hn, q⟩
  subst e
  clear tk hp hgd hr
  walk_at "st"
  refine s_it1i (by omega) (by omega) ?_
  refine for_inv (fun items ρ S' => S' = S ∧ ∃ (j : Nat) (v3 v4 v5 v6 : Option D), j + items.length = n ∧ ρ = [some (.tup (dom.map .str)), some (.int n), some (.lst ((rowsS dom j).map encT)), v3, v4, v5, v6]) ?_ ?_ _ _ _ ⟨rfl, 0, none, none, none, none, ?_, rfl⟩
  · rintro ρ S' ⟨rfl, j, v3, v4, v5, v6, hj, rfl⟩
    have e : j = n := by simpa using hj
    subst e
    walk_at "st"
    exact q
  · rintro d r ih ρ S' ⟨rfl, j, v3, v4, v5, v6, hj, rfl⟩
    rw [List.length_cons] at hj
    have hs := rowsS_small hd (n := j + 1) (by omega)
    walk_at "st"
    have he := rowsS_step dom j
    have rl : ∀ r ∈ rowsS dom j, r.length ≤ 4 := fun r hr => by
      rw [(rowsS_each hr).1]
      omega
    refine for_inv (fun items ρ S2 => S2 = S' ∧ ∃ (done rest : List (List Str)) (v5 v6 : Option D), done ++ rest = rowsS dom j ∧ items = rest.map encT ∧ ρ = [some (.tup (dom.map .str)), some (.int n), some (.lst ((rowsS dom j).map encT)), some d, some (.lst (done.flatMap fun r => dom.map fun v => encT (r ++ [v]))), v5, v6]) ?_ ?_ _ _ _ ⟨rfl, [], rowsS dom j, v5, v6, rfl, rfl, rfl⟩
    · rintro ρ S2 ⟨rfl, done, rest, v5, v6, hd2, hi, rfl⟩
      have hr : rest = [] := by simpa using hi.symm
      subst hr
      rw [List.append_nil] at hd2
      rw [hd2, he]
      walk_at "st"
      exact ih _ _ ⟨rfl, j + 1, _, _, _, _, by omega, rfl⟩
    · rintro x r2 ih2 ρ S2 ⟨rfl, done, rest, v5, v6, hd2, hi, rfl⟩
      match rest, hi with
      | y :: rest, hi =>
        cases hi
        have y4 := rl y (by rw [← hd2]; simp)
        have hsz : ((done ++ [y]).flatMap fun r => dom.map fun v => encT (r ++ [v])).length ≤ 81 := by
          have e2 : ((rowsS dom j).flatMap fun r => dom.map fun v => encT (r ++ [v])).length = (rowsS dom (j + 1)).length := by rw [he, List.length_map]
          have e3 : ((rowsS dom j).flatMap fun r => dom.map fun v => encT (r ++ [v])) = ((done ++ [y]).flatMap fun r => dom.map fun v => encT (r ++ [v])) ++ (rest.flatMap fun r => dom.map fun v => encT (r ++ [v])) := by
            rw [← hd2, ← List.flatMap_append, List.append_assoc]
            rfl
          rw [e3, List.length_append] at e2
          omega
        rw [List.flatMap_append, List.length_append, List.flatMap_cons, List.flatMap_nil, List.append_nil, List.length_map] at hsz
        walk_at "st"
        refine lcgo_map D.str (fun v => encT (y ++ [v])) dom [] (fun v hv => ⟨_, rfl, fun R2 q2 => ?_⟩) ?_
        · walk_at "st"
          exact add_enc (b := [v]) (by rw [sizeLine_eq]; simp only [List.length_cons, List.length_nil]; omega) q2
        refine s_addL (by rw [sizeLine_eq, List.nil_append, List.length_map]; omega) ?_
        walk_at "st"
        refine ih2 _ _ ⟨rfl, done ++ [y], rest, some (encT y), v6, by rw [List.append_assoc]; exact hd2, rfl, ?_⟩
        rw [List.flatMap_append, List.flatMap_cons, List.flatMap_nil, List.append_nil]
        rfl
  · unfold dItR
    rw [List.length_map, List.length_range]
    omega
theorem dd__law_every (T : Facts P K mg) : DefD P w K mg base 1 "_law_every" ["_law_words_here", "_law_size"] dspAllRows T._law_every.f T._law_every.fd := .of T._law_every (ok__law_every T)


end
end K03

set_option maxRecDepth 100000
set_option maxHeartbeats 4000000
namespace K03
open PySem PySem.Spec L2 DL
section
variable {P : Program} {w : World} {K : PySem.W.Frag} {mg : Str → Option Value} {base : Heap}
theorem atI_some {α : Type} {l : List α} {i : Int} (h0 : -(l.length : Int) ≤ i) (h1 : i < l.length) : ∃ x, L2.atI l i = some x ∧ x ∈ l := by
  by_cases h : 0 ≤ i
  · obtain ⟨x, e, m⟩ := atI_in h h1
    exact ⟨x, e, m⟩
  · have hl : (i + l.length).toNat < l.length := by omega
    refine ⟨l[(i + l.length).toNat], ?_, List.getElem_mem hl⟩
    unfold L2.atI L2.ixN
    rw [if_neg h, if_pos (by omega)]
    exact List.getElem?_eq_getElem hl
/-- some of the rows that are laid out, in their order -/
def dspLines : DSp := fun ds S Q _ => ∃ (a L : Addr) (k : Nat) (ns : List (List Str)), ds = [.ref a, .lst (ns.map encT)] ∧ Deck S a L (k + 40) ∧ 1 ≤ ns.length ∧ ns.length ≤ 30 ∧ (∀ r ∈ ns, ∀ z ∈ r, PyData.strOk z = true) ∧ ∀ (ms : List (List Str)) S', ms.Sublist ns → Deck S' a L k → Q (.lst (ms.map encT)) S'
theorem sc__law_lines : FnScope ["_law_deck_here", "_law_every_here", "_law_way", "_law_gone", "_law_row"] ["_law_deck_here", "_law_every_here"] (defScope sLLines) := ⟨rfl, rfl, rfl, by decide +kernel, rfl, by decide +kernel, by decide +kernel⟩
theorem ok__law_lines (T : Facts P K mg) : FnD P w K mg base 2 T._law_lines.f T._law_lines.fd ["_law_deck_here", "_law_every_here"] dspLines := by
  refine fn_ofE (k := 1) T._law_lines.F sc__law_lines (fun ds S Q E ⟨a, L, k, ns, e, _⟩ => by subst e; rfl) fun cdv A outer s H E hr hgd tk hp => ?_
  refine ⟨_, (dss_cons (ds_set (i := 2) sc__law_lines.nd (de_def (dd__law_draw T) (hr.mono (by decide)) hgd tk (da_cons (dv 0) (da_cons de_int da_nil))))
      (dss_cons (ds_if (dt_cmp (op_eqD hr.units) lift_eq (dv 2) de_int rfl) (dss_one (ds_ret (de_lst da_nil))) dss_nil)
      (dss_cons (ds_if (dt_cmp (op_eqD hr.units) lift_eq (dv 2) de_int rfl) (dss_one (ds_ret (dv 1))) dss_nil)
      (dss_cons (ds_if (dt_cmp (op_eqD hr.units) lift_eq (dv 2) de_int rfl) (dss_cons (ds_set (i := 3) sc__law_lines.nd (de_ix (dv 1) (de_op op_sub (lift_int _) (de_def (dd__law_draw T) (hr.mono (by decide)) hgd tk (da_cons (dv 0) (da_cons de_int da_nil))) de_int)))
      (dss_one (ds_ret (de_lc (own := [("_law_row", 4)]) rfl sc__law_lines.nd (di_list (dv 1)) (⟨rfl, by decide +kernel, by decide +kernel, by decide +kernel, by decide +kernel⟩ : BlkOk ["_law_deck_here", "_law_every_here", "_law_way", "_law_gone", "_law_row"] (defScope sLLines) _ [("_law_row", 4)]) (fun s H C cl fp => (dg_name 4 sc__law_lines.nd)) (fun s H C cl fp => (dts_one (dt_cmp (op_neD hr.units) lift_ne (dv 4) (dv 3) rfl)))
        (fun s H C cl fp => (dv 4)))))) dss_nil)
      (dss_one (ds_ret (de_lc (own := [("_law_row", 4)]) rfl sc__law_lines.nd (di_list (dv 1)) (⟨rfl, by decide +kernel, by decide +kernel, by decide +kernel, by decide +kernel⟩ : BlkOk ["_law_deck_here", "_law_every_here", "_law_way", "_law_gone", "_law_row"] (defScope sLLines) _ [("_law_row", 4)]) (fun s H C cl fp => (dg_name 4 sc__law_lines.nd)) (fun s H C cl fp => (dts_one (dt_cmp (op_eqD hr.units) lift_eq (de_def (dd__law_draw T) (hr.mono (by decide)) hgd takes_none5 (da_cons (dv 0) (da_cons (dv 2) da_nil))) de_int rfl)))
        (fun s H C cl fp => (dv 4))))))))), ?_⟩
  intro ds S Q E' ⟨a, L, k, ns, e, D, l1, l2, hs, q⟩
  subst e
  clear tk hp hgd hr
  walk_at "st"
  refine ⟨a, L, k + 39, 8, rfl, D, by decide, by decide, fun way S1 w0 w8 D1 _ => ?_⟩
  walk_at "st"
  refine rdEq_int ?_
  walk_at "st"
  refine iteB (fun h => ?_) fun h => ?_
  · walk_at "st"
    exact q [] S1 (List.nil_sublist _) (D1.mono (by omega))
  have h0 : ¬ way = 0 := of_decide_eq_false h
  walk_at "st"
  refine rdEq_int ?_
  walk_at "st"
  refine iteB (fun h => ?_) fun h => ?_
  · walk_at "st"
    exact q ns S1 (List.Sublist.refl _) (D1.mono (by omega))
  have h1 : ¬ way = 1 := of_decide_eq_false h
  walk_at "st"
  refine rdEq_int ?_
  walk_at "st"
  refine iteB (fun h => ?_) fun h => ?_
  · walk_at "st"
    refine ⟨a, L, k + 38, 2, rfl, D1, by decide, by decide, fun i S2 i0 i1 D2 _ => ?_⟩
    obtain ⟨g, hg, mg⟩ := atI_some (l := ns.map encT) (i := i - 1) (by rw [List.length_map]; omega) (by rw [List.length_map]; omega)
    obtain ⟨gone, hgn, rfl⟩ := List.mem_map.mp mg
    walk_at "st"
    refine s_ixL hg ?_
    walk_at "st"
    refine lc_filterM encT (fun r => !decide (r = gone)) ns [] (fun r hr => ⟨_, rfl, fun QT qt => ?_, fun R rr => ?_⟩) ?_
    · walk_at "st"
      refine s_eqTS (hs r hr) (hs gone hgn) ?_
      walk_at "st"
      exact qt
    · walk_at "st"
      exact rr
    · walk_at "st"
      exact q _ S2 List.filter_sublist (D2.mono (by omega))
  have h2 : ¬ way = 2 := of_decide_eq_false h
  walk_at "st"
  refine e_lcK (fun items acc S' => ∃ done rest ms : List (List Str), items = rest.map encT ∧ done ++ rest = ns ∧ acc = ms.map encT ∧ ms.Sublist done ∧ Deck S' a L (k + rest.length)) ?_ ?_ _ _ _ ⟨[], ns, [], rfl, rfl, rfl, .slnil, D1.mono (by omega)⟩
  · rintro acc S3 ⟨done, rest, ms, hi, hd, rfl, sub, D3⟩
    have hr : rest = [] := by simpa using hi.symm
    subst hr
    rw [List.append_nil] at hd
    subst hd
    walk_at "st"
    exact q _ S3 sub (D3.mono (by omega))
  · rintro J d r ih acc S3 ⟨done, rest, ms, hi, hd, rfl, sub, D3⟩
    match rest, hi with
    | y :: rest, hi =>
      cases hi
      rw [List.length_cons] at D3
      walk_at "st"
      refine ⟨a, L, k + rest.length, way, rfl, D3.mono (by omega), by omega, by omega, fun i S4 _ _ D4 _ => ?_⟩
      walk_at "st"
      refine rdEq_int ?_
      walk_at "st"
      refine iteB (fun h => ?_) fun h => ?_
      · walk_at "st"
        refine ih _ _ ⟨done ++ [y], rest, ms ++ [y], rfl, by rw [List.append_assoc]; exact hd, by rw [List.map_append]; rfl, sub.append (List.Sublist.refl _), D4⟩
      · refine ih _ _ ⟨done ++ [y], rest, ms, rfl, by rw [List.append_assoc]; exact hd, rfl, sub.trans (List.sublist_append_left _ _), D4⟩
theorem dd__law_lines (T : Facts P K mg) : DefD P w K mg base 2 "_law_lines" ["_law_deck_here", "_law_every_here"] dspLines T._law_lines.f T._law_lines.fd := .of T._law_lines (ok__law_lines T)

theorem TabV.rep3 {dom : List Str} {n : Nat} {a : List (List Str)} (v : TabV dom n a) : ∃ p, ReprOk (.tup [.tup (dom.map .str), .int n, .tup (a.map encT)]) p := by
  have l3 := v.l3
  have la := v.len
  have n3 := v.n3
  have r1 : RepL 300 1 (.tup (dom.map .str)) := (repL_tup (n := 82) (m := 0) (strs_repL v.nm)).mono (by rw [List.length_map]; omega) (by omega)
  have r2 : RepL 1921 1 (.int (n : Int)) := (repL_int (by have := Nat.log2_lt (n := n) (k := 2) (by have := v.n1; omega); simp; omega)).mono (by omega) (by omega)
  have r3 : RepL 10000 2 (.tup (a.map encT)) := (repL_tup (n := 300) (m := 1) fun d hd => by
    obtain ⟨k, hk, rfl⟩ := List.mem_map.mp hd
    obtain ⟨e, m⟩ := rowsS_each (v.mem k hk)
    exact (repL_tup (n := 82) (m := 0) (strs_repL fun z hz => v.nm z (m z hz))).mono (by rw [List.length_map]; omega) (by omega)).mono (by rw [List.length_map]; omega) (by omega)
  have r4 := repL_tup (n := 10000) (m := 2) (ds := [.tup (dom.map .str), .int n, .tup (a.map encT)]) fun d hd => by
    simp only [List.mem_cons, List.not_mem_nil, or_false] at hd
    rcases hd with rfl | rfl | rfl
    · exact r1.mono (by omega) (by omega)
    · exact r2.mono (by omega) (by omega)
    · exact r3
  exact r4.rep.ok (by simp) (by simp)
theorem rep_bls (b c : Bool) : ∃ p, ReprOk (.tup [.bl b, .bl c]) p := by
  have r := repL_tup (n := 5) (m := 0) (ds := [.bl b, .bl c]) fun d hd => by
    simp only [List.mem_cons, List.not_mem_nil, or_false] at hd
    rcases hd with rfl | rfl
    · exact repL_bl b
    · exact repL_bl c
  exact r.rep.ok (by simp) (by simp)
/-- what a table that is right is told -/
def dspIs (C : Addr) : DSp := fun ds S Q _ => ∃ dom n a, ds = [tableD C dom n a, .tup (dom.map .str), .int n, .lst (a.map encT)] ∧ TabV dom n a ∧ Q (.bl true) S
theorem sc__law_is : FnScope ["_law_made", "_law_words_here", "_law_size", "_law_lines_here", "_law_columns", "_law_place", "_law_line", "_law_full"] ["_law_made", "_law_words_here", "_law_size", "_law_lines_here"] (defScope sLIs) := ⟨rfl, rfl, rfl, by decide +kernel, rfl, by decide +kernel, by decide +kernel⟩
theorem ok__law_is (T : Facts P K mg) : FnD P w K mg base 2 T._law_is.f T._law_is.fd ["_law_made", "_law_words_here", "_law_size", "_law_lines_here"] (dspIs T.Table.C) := by
  refine fn_ofE (k := 1) T._law_is.F sc__law_is (fun ds S Q E ⟨dom, n, a, e, _⟩ => by subst e; rfl) fun cdv A outer s H E hr hgd tk hp => ?_
  refine ⟨_, (dss_cons (ds_if (dt_not (dt_val (de_isiO T.bis T.Table.at_ (dv 0)))) (dss_one (ds_ret de_bl)) dss_nil)
      (dss_cons (ds_if (dt_cmp op_ne lift_neS (de_repr T.bis hgd hr.units (de_tup (da_cons (de_fld T.Table.cl T.Table_no_domain (dv 0)) (da_cons (de_fld T.Table.cl T.Table_no_width (dv 0)) (da_cons (de_fld T.Table.cl T.Table_no_rows (dv 0)) da_nil))))) (de_repr T.bis hgd hr.units (de_tup (da_cons (dv 1) (da_cons (dv 2) (da_cons (de_tuple T.bis (dv 3)) da_nil))))) rfl) (dss_one (ds_ret de_bl)) dss_nil)
      (dss_cons (ds_set (i := 4) sc__law_is.nd de_int)
      (dss_cons (ds_for rfl (di_range1 T.bis.range (da_cons (dv 2) da_nil)) (dg_name 5 sc__law_is.nd) (dss_one (ds_set (i := 4) sc__law_is.nd (de_op op_mul (lift_intC _ _) (dv 4) (de_lenSet rfl T.bis.len T.bis.set (de_lc (own := [("_law_line", 6)]) rfl sc__law_is.nd (di_list (dv 3)) (⟨rfl, by decide +kernel, by decide +kernel, by decide +kernel, by decide +kernel⟩ : BlkOk ["_law_made", "_law_words_here", "_law_size", "_law_lines_here", "_law_columns", "_law_place", "_law_line", "_law_full"] (defScope sLIs) _ [("_law_line", 6)]) (fun s H C cl fp => (dg_name 6 sc__law_is.nd)) (fun s H C cl fp => dts_nil)
        (fun s H C cl fp => (de_ix (dv 6) (dv 5)))))))) hp)
      (dss_cons (ds_set (i := 7) sc__law_is.nd (de_cmp (op_eqD hr.units) lift_eq (de_len T.bis (dv 3)) (de_len T.bis (de_def (dd__law_every T) (hr.mono (by decide)) hgd tk (da_cons (dv 1) (da_cons (dv 2) da_nil)))) rfl))
      (dss_one (ds_ret (de_cmp op_eq lift_eqSt (de_repr T.bis hgd hr.units (de_tup (da_cons (de_fld T.Table.cl T.Table_no_is_full (dv 0)) (da_cons (de_fld T.Table.cl T.Table_no_is_product (dv 0)) da_nil)))) (de_repr T.bis hgd hr.units (de_tup (da_cons (dv 7) (da_cons (de_cmp (op_eqD hr.units) lift_eq (dv 4) (de_len T.bis (dv 3)) rfl) da_nil)))) rfl)))))))), ?_⟩
  intro ds S Q E' ⟨dom, n, a, e, ok, q⟩
  subst e
  clear tk hp hgd hr
  have n3 := ok.n3
  have la := ok.len
  walk_at "st"
  refine ⟨_, _, .ref T.Table.C, true, rfl, .inl ⟨T.Table.C, T.Table_ty, by rw [tfl]; rfl, rfl⟩, kit_self, ?_⟩
  walk_at "st"
  refine s_fldP tfl tlk_dom ?_
  walk_at "st"
  refine s_fldP tfl tlk_wid ?_
  walk_at "st"
  refine s_fldP tfl tlk_row ?_
  walk_at "st"
  obtain ⟨p, hp⟩ := ok.rep3
  refine s_repr hp ?_
  walk_at "st"
  refine s_repr hp ?_
  refine s_strE ?_
  rw [neF]
  walk_at "st"
  refine s_it1i (by omega) (by omega) ?_
  refine e_forR (fun j ρ S' => S' = S ∧ ∃ v5 v6 v7 : Option D, ρ = [some (tableD T.Table.C dom n a), some (.tup (dom.map .str)), some (.int n), some (.lst (a.map encT)), some (.int (prodTo a j)), v5, v6, v7]) ?_ ?_ ⟨rfl, none, none, none, rfl⟩
  · rintro ρ S' ⟨rfl, v5, v6, v7, rfl⟩
    walk_at "st"
    refine ⟨dom, n, rfl, ok.l3, by omega, ?_⟩
    walk_at "st"
    refine rdEq_int ?_
    rw [List.length_map, List.length_map]
    walk_at "st"
    refine s_fldP tfl tlk_ful ?_
    walk_at "st"
    refine s_fldP tfl tlk_pro ?_
    walk_at "st"
    obtain ⟨p2, hp2⟩ := rep_bls (fullB dom n a) (prodB n a)
    refine s_repr hp2 ?_
    walk_at "st"
    refine rdEq_int ?_
    rw [List.length_map]
    walk_at "st"
    have e : decide (prodTo a n = (a.length : Int)) = prodB n a := decide_eq_decide.mpr eq_comm
    rw [e]
    refine s_repr hp2 ?_
    refine s_strE ?_
    rw [if_neg Bool.false_ne_true, decide_eq_true rfl]
    exact q
  · rintro J j hj ih ρ S' ⟨rfl, v5, v6, v7, rfl⟩
    have lc := colS_len a j
    walk_at "st"
    refine lcgo_map encT (fun r => D.str (r.getD j Str.empty)) a [] (fun r hr => ⟨_, rfl, fun R q2 => ?_⟩) ?_
    · have hr2 : j < r.length := by rw [(rowsS_each (ok.mem r hr)).1]; exact hj
      walk_at "st"
      exact s_ixT (atI_row hr2) q2
    · refine ⟨a.map fun r => r.getD j Str.empty, by rw [List.nil_append, List.map_map]; rfl, by rw [List.length_map]; omega, ?_⟩
      refine s_mulR ⟨by have := lc; unfold colS at this; omega, by have := lc; unfold colS at this; omega⟩ ?_
      walk_at "st"
      exact ih _ _ ⟨rfl, _, _, _, rfl⟩
theorem dd__law_is (T : Facts P K mg) : DefD P w K mg base 2 "_law_is" ["_law_made", "_law_words_here", "_law_size", "_law_lines_here"] (dspIs T.Table.C) T._law_is.f T._law_is.fd := .of T._law_is (ok__law_is T)


end
end K03

set_option maxRecDepth 100000
set_option maxHeartbeats 4000000
namespace K03
open PySem PySem.Spec L2 DL
section
variable {P : Program} {w : World} {K : PySem.W.Frag} {mg : Str → Option Value} {base : Heap}
/-- what the end gives besides the facts -/
structure Xtr3 (T : Facts P K mg) : Prop where
  ix : IsX K T.NoTable.C
  kNB : PySem.W.kitOne K (.ref T.NoTable.C) (.ref T.NoBook.C) = some false
/-- the word of an operator that refuses -/
inductive WordIs (dom : List Str) (n : Nat) (dom2 : List Str) (n2 : Nat) : Nat → Str → Prop
  | w0 (h : dom ≠ dom2 ∨ n ≠ n2) : WordIs dom n dom2 n2 0 "unlike"
  | w1 (h : dom ≠ dom2 ∨ n ≠ n2) : WordIs dom n dom2 n2 1 "unlike"
  | w2 (h : dom ≠ dom2 ∨ n ≠ n2) : WordIs dom n dom2 n2 2 "unlike"
  | w3 (h : dom ≠ dom2) : WordIs dom n dom2 n2 3 "unlike"
  | w4 (h : dom = dom2) (g : 3 < n + n2) : WordIs dom n dom2 n2 3 "width"
def dspWord (C : Addr) : DSp := fun ds S Q _ => ∃ dom n a dom2 n2 b, ∃ way : Nat, ∃ wd, ds = [tableD C dom n a, tableD C dom2 n2 b, .int way] ∧ TabV dom n a ∧ TabV dom2 n2 b ∧ WordIs dom n dom2 n2 way wd ∧ ∀ S', Ext S S' → Q (.str wd) S'
theorem sc__law_word : FnScope ["_law_one", "_law_two", "_law_way", "_law_word_here", "_law_made", "e"] ["_law_one", "_law_two", "_law_way"] (defScope sLWord) := ⟨rfl, rfl, rfl, by decide +kernel, rfl, by decide +kernel, by decide +kernel⟩
theorem ok__law_word (T : Facts P K mg) (X : Xtr3 T) : FnD P w K mg base 6 T._law_word.f T._law_word.fd ["_law_one", "_law_two", "_law_way"] (dspWord T.Table.C) := by
  refine fn_ofE (k := 5) T._law_word.F sc__law_word (fun ds S Q E ⟨dom, n, a, dom2, n2, b, way, wd, e, _⟩ => by subst e; rfl) fun cdv A outer s H E hr hgd tk hp => ?_
  refine ⟨_, (dss_cons (ds_set (i := 3) sc__law_word.nd de_non)
      (dss_cons (ds_try rfl rfl tk (fun W' pn xe tk' hp' => (dss_cons (ds_if (dt_cmp (op_eqD hr.units) lift_eq (dv 2) de_int rfl) (dss_one (ds_set (i := 4) sc__law_word.nd (de_binO T.Table_sf (op_of T.Table_and.at_) (ok_Table_and T) (hr.mono (by decide)) hgd T.Table_and.bd tk' (dv 0) (dv 1)))) (dss_one (ds_if (dt_cmp (op_eqD hr.units) lift_eq (dv 2) de_int rfl) (dss_one (ds_set (i := 4) sc__law_word.nd (de_binO T.Table_sf (op_of T.Table_or.at_) (ok_Table_or T) (hr.mono (by decide)) hgd T.Table_or.bd tk' (dv 0) (dv 1)))) (dss_one (ds_if (dt_cmp (op_eqD hr.units) lift_eq (dv 2) de_int rfl) (dss_one (ds_set (i := 4) sc__law_word.nd (de_binO T.Table_sf (op_of T.Table_sub.at_) (ok_Table_sub T) (hr.mono (by decide)) hgd T.Table_sub.bd tk' (dv 0) (dv 1)))) (dss_one (ds_set (i := 4) sc__law_word.nd (de_binO T.Table_sf (op_of T.Table_mul.at_) (ok_Table_mul T) (hr.mono (by decide)) hgd T.Table_mul.bd tk' (dv 0) (dv 1)))))))))
      (dss_one (ds_set (i := 3) sc__law_word.nd (de_ifExp (dt_not (dt_val (show DE _ _ _ (dCB (rdIsiO K) _) from de_isiO T.bis T.Table.at_ (dv 4)))) de_str de_non))))) (dcs_named (i := 5) sc__law_word.nd ⟨rfl, by decide, .inl T.NoTable.at_⟩ (fun a oe cls d pn hz hf => (dss_one (ds_set (i := 3) sc__law_word.nd (de_ifExp (dt_not (dt_val (de_isiX T.bis T.NoBook.at_ X.ix X.kNB hz hf (dv 5)))) (de_xf T.NoTable.xf T.NoTable.no hz hf (dv 5)) de_str)))) dcs_nil))
      (dss_one (ds_ret (dv 3))))), ?_⟩
  intro ds S Q E' ⟨dom, n, a, dom2, n2, b, way, wd, e, ok, ok2, hw, q⟩
  subst e
  clear tk hp hgd hr
  cases hw with
  | w0 hu =>
    walk_at "st"
    refine rdEq_int ?_
    rw [decide_eq_true (show (((0 : Nat) : Int) = 0) from by decide)]
    walk_at "st"
    refine ⟨by rw [tfl]; rfl, by rw [tfl]; rfl, dom, n, a, dom2, n2, b, rfl, ok, ok2, fun e1 e2 => absurd (hu.elim (fun h => h e1) fun h => h e2) (fun z => z), fun _ => ?_⟩
    refine ⟨true, T.NoTable.me, fun _ a2 ha2 => ⟨fun h => (by cases h), fun dd hdd ne => ?_⟩, fun h => (by cases h)⟩
    walk_at "st"
    refine s_isX put_same ?_
    walk_at "st"
    refine ⟨rfl, rfl, dd, _, _, .str "unlike", rfl, put_same, by with_unfolding_all rfl, ?_⟩
    walk_at "st"
    exact q _ (Ext.new hdd)
  | w1 hu =>
    walk_at "st"
    refine rdEq_int ?_
    rw [decide_eq_false (show ¬ (((1 : Nat) : Int) = 0) from by decide)]
    walk_at "st"
    refine rdEq_int ?_
    rw [decide_eq_true (show (((1 : Nat) : Int) = 1) from by decide)]
    walk_at "st"
    refine ⟨by rw [tfl]; rfl, by rw [tfl]; rfl, dom, n, a, dom2, n2, b, rfl, ok, ok2, fun e1 e2 => absurd (hu.elim (fun h => h e1) fun h => h e2) (fun z => z), fun _ => ?_⟩
    refine ⟨true, T.NoTable.me, fun _ a2 ha2 => ⟨fun h => (by cases h), fun dd hdd ne => ?_⟩, fun h => (by cases h)⟩
    walk_at "st"
    refine s_isX put_same ?_
    walk_at "st"
    refine ⟨rfl, rfl, dd, _, _, .str "unlike", rfl, put_same, by with_unfolding_all rfl, ?_⟩
    walk_at "st"
    exact q _ (Ext.new hdd)
  | w2 hu =>
    walk_at "st"
    refine rdEq_int ?_
    rw [decide_eq_false (show ¬ (((2 : Nat) : Int) = 0) from by decide)]
    walk_at "st"
    refine rdEq_int ?_
    rw [decide_eq_false (show ¬ (((2 : Nat) : Int) = 1) from by decide)]
    walk_at "st"
    refine rdEq_int ?_
    rw [decide_eq_true (show (((2 : Nat) : Int) = 2) from by decide)]
    walk_at "st"
    refine ⟨by rw [tfl]; rfl, by rw [tfl]; rfl, dom, n, a, dom2, n2, b, rfl, ok, ok2, fun e1 e2 => absurd (hu.elim (fun h => h e1) fun h => h e2) (fun z => z), fun _ => ?_⟩
    refine ⟨true, T.NoTable.me, fun _ a2 ha2 => ⟨fun h => (by cases h), fun dd hdd ne => ?_⟩, fun h => (by cases h)⟩
    walk_at "st"
    refine s_isX put_same ?_
    walk_at "st"
    refine ⟨rfl, rfl, dd, _, _, .str "unlike", rfl, put_same, by with_unfolding_all rfl, ?_⟩
    walk_at "st"
    exact q _ (Ext.new hdd)
  | w3 hu =>
    walk_at "st"
    refine rdEq_int ?_
    rw [decide_eq_false (show ¬ (((3 : Nat) : Int) = 0) from by decide)]
    walk_at "st"
    refine rdEq_int ?_
    rw [decide_eq_false (show ¬ (((3 : Nat) : Int) = 1) from by decide)]
    walk_at "st"
    refine rdEq_int ?_
    rw [decide_eq_false (show ¬ (((3 : Nat) : Int) = 2) from by decide)]
    walk_at "st"
    refine ⟨by rw [tfl]; rfl, by rw [tfl]; rfl, dom, n, a, dom2, n2, b, rfl, ok, ok2, fun e1 _ => absurd e1 hu, fun _ => ?_, fun e1 _ => absurd e1 hu⟩
    refine ⟨true, T.NoTable.me, fun _ a2 ha2 => ⟨fun h => (by cases h), fun dd hdd ne => ?_⟩, fun h => (by cases h)⟩
    walk_at "st"
    refine s_isX put_same ?_
    walk_at "st"
    refine ⟨rfl, rfl, dd, _, _, .str "unlike", rfl, put_same, by with_unfolding_all rfl, ?_⟩
    walk_at "st"
    exact q _ (Ext.new hdd)
  | w4 h g =>
    walk_at "st"
    refine rdEq_int ?_
    rw [decide_eq_false (show ¬ (((3 : Nat) : Int) = 0) from by decide)]
    walk_at "st"
    refine rdEq_int ?_
    rw [decide_eq_false (show ¬ (((3 : Nat) : Int) = 1) from by decide)]
    walk_at "st"
    refine rdEq_int ?_
    rw [decide_eq_false (show ¬ (((3 : Nat) : Int) = 2) from by decide)]
    walk_at "st"
    refine ⟨by rw [tfl]; rfl, by rw [tfl]; rfl, dom, n, a, dom2, n2, b, rfl, ok, ok2, fun _ g2 => absurd g (by omega), fun hn => absurd h hn, fun _ _ => ?_⟩
    refine ⟨true, T.NoTable.me, fun _ a2 ha2 => ⟨fun h => (by cases h), fun dd hdd ne => ?_⟩, fun h => (by cases h)⟩
    walk_at "st"
    refine s_isX put_same ?_
    walk_at "st"
    refine ⟨rfl, rfl, dd, _, _, .str "width", rfl, put_same, by with_unfolding_all rfl, ?_⟩
    walk_at "st"
    exact q _ (Ext.new hdd)
theorem dd__law_word (T : Facts P K mg) (X : Xtr3 T) : DefD P w K mg base 6 "_law_word" ["_law_one", "_law_two", "_law_way"] (dspWord T.Table.C) T._law_word.f T._law_word.fd := .of T._law_word (ok__law_word T X)
/-- both orders -/
def dspBoth (C : Addr) : DSp := fun ds S Q _ => ∃ dom n a dom2 n2 b, ∃ way : Nat, ∃ wd, ds = [tableD C dom n a, tableD C dom2 n2 b, .int way] ∧ TabV dom n a ∧ TabV dom2 n2 b ∧ WordIs dom n dom2 n2 way wd ∧ WordIs dom2 n2 dom n way wd ∧ ∀ S', Ext S S' → Q (.lst ([wd, wd].map .str)) S'
theorem sc__law_both_words : FnScope ["_law_one", "_law_two", "_law_way"] ["_law_one", "_law_two", "_law_way"] (defScope sLBothWords) := ⟨rfl, rfl, rfl, by decide +kernel, rfl, by decide +kernel, by decide +kernel⟩
theorem ok__law_both_words (T : Facts P K mg) (X : Xtr3 T) : FnD P w K mg base 7 T._law_both_words.f T._law_both_words.fd ["_law_one", "_law_two", "_law_way"] (dspBoth T.Table.C) := by
  refine fn_ofE (k := 6) T._law_both_words.F sc__law_both_words (fun ds S Q E ⟨dom, n, a, dom2, n2, b, way, wd, e, _⟩ => by subst e; rfl) fun cdv A outer s H E hr hgd tk hp => ?_
  refine ⟨_, (dss_one (ds_ret (de_lst (da_cons (de_def (dd__law_word T X) (hr.mono (by decide)) hgd tk (da_cons (dv 0) (da_cons (dv 1) (da_cons (dv 2) da_nil)))) (da_cons (de_def (dd__law_word T X) (hr.mono (by decide)) hgd tk (da_cons (dv 1) (da_cons (dv 0) (da_cons (dv 2) da_nil)))) da_nil))))), ?_⟩
  intro ds S Q E' ⟨dom, n, a, dom2, n2, b, way, wd, e, ok, ok2, hw, hw2, q⟩
  subst e
  clear tk hp hgd hr
  walk_at "st"
  refine ⟨dom, n, a, dom2, n2, b, way, wd, rfl, ok, ok2, hw, fun S1 e1 => ?_⟩
  walk_at "st"
  refine ⟨dom2, n2, b, dom, n, a, way, wd, rfl, ok2, ok, hw2, fun S2 e2 => ?_⟩
  walk_at "st"
  exact q S2 (e1.trans e2)
theorem dd__law_both_words (T : Facts P K mg) (X : Xtr3 T) : DefD P w K mg base 7 "_law_both_words" ["_law_one", "_law_two", "_law_way"] (dspBoth T.Table.C) T._law_both_words.f T._law_both_words.fd := .of T._law_both_words (ok__law_both_words T X)


end
end K03

set_option maxRecDepth 100000
set_option maxHeartbeats 4000000
namespace K03
open PySem PySem.Spec L2 DL
section
variable {P : Program} {w : World} {K : PySem.W.Frag} {mg : Str → Option Value} {base : Heap}
theorem TabV.rows_in {dom : List Str} {n : Nat} {a : List (List Str)} (v : TabV dom n a) : ∀ r ∈ a, r ∈ rowsS dom n := v.mem
theorem mk_table2 {C : Addr} {S : Store} {R : Addr → DQ} {E : DX} {dom : List Str} {n : Nat} {ns : List (List Str)} (ok : TableOk dom n ns) (hz : ns.length ≤ 2000) (q : ∀ (a : Addr) (S2 : Store), S2 a = some (.ins C tabNs (tabDs dom n (DTS.uniqT ns))) → DL.del S2 a = S → R a .non S2) :
    ∀ a, S a = none → dspTInit C (.ref a :: ([.tup (dom.map .str), .int n, .tup (ns.map encT)] ++ [])) (put S a (.ins C [] [])) (R a) E := by
  intro a ha
  exact ⟨a, dom, n, ns, rfl, put_same, ok, hz, fun S' h1 h2 => q a S' h1 (del_back ha fun b hb => (h2 b hb).trans (put_ne hb))⟩
theorem fold_tab {C : Addr} {dom : List Str} {n : Nat} {a : List (List Str)} : D.obj C tabNs (tabDs dom n a) = tableD C dom n a := rfl
theorem bin_alike {C CE : Addr} {f : List (List Str) → List (List Str) → List (List Str)} {S : Store} {Q : DQ} {E : DX} {dom : List Str} {n : Nat} {a b : List (List Str)} (va : TabV dom n a) (vb : TabV dom n b) (q : Q (tableD C dom n (f a b)) S) :
    (objD C S (tableD C dom n a)).isSome = true ∧ (objD C S (tableD C dom n b)).isSome = true ∧ dspBin C CE f [tableD C dom n a, tableD C dom n b] S Q E :=
  ⟨by rw [tfl]; rfl, by rw [tfl]; rfl, dom, n, a, dom, n, b, rfl, va, vb, fun _ _ => q, fun h => h.elim (fun h => absurd rfl h) fun h => absurd rfl h⟩
theorem inv_alike {C : Addr} {S : Store} {Q : DQ} {E : DX} {dom : List Str} {n : Nat} {a : List (List Str)} (va : TabV dom n a) (q : Q (tableD C dom n (subS (rowsS dom n) a)) S) :
    (objD C S (tableD C dom n a)).isSome = true ∧ dspInv C [tableD C dom n a] S Q E := ⟨by rw [tfl]; rfl, dom, n, a, rfl, va, q⟩
theorem eq_alike {K : PySem.W.Frag} {C : Addr} {S : Store} {Q : DQ} {dom : List Str} {n : Nat} {a b : List (List Str)} (va : TabV dom n a) (vb : TabV dom n b) (e : a = b) (q : Q (.bl true) S) :
    rdOwn C (dspTEq K C) false (tableD C dom n a) (tableD C dom n b) S Q := by
  refine ⟨by rw [tfl]; rfl, by rw [tfl]; rfl, dom, n, a, _, rfl, va, .inl ⟨dom, n, b, rfl, vb, ⟨_, rfl, ?_⟩⟩⟩
  subst e
  unfold tabEqB
  rw [decide_eq_true rfl, decide_eq_true rfl, decide_eq_true rfl]
  exact q
theorem TabV.sub {dom : List Str} {n : Nat} {a : List (List Str)} (v : TabV dom n a) (b : List (List Str)) : TabV dom n (subS a b) := v.filt _
theorem TabV.and {dom : List Str} {n : Nat} {a : List (List Str)} (v : TabV dom n a) (b : List (List Str)) : TabV dom n (andS a b) := v.filt _
theorem TabV.orV {dom : List Str} {n : Nat} {a b : List (List Str)} (v : TabV dom n a) (u : TabV dom n b) : TabV dom n (orS a b) := (v.or u).tab
theorem mem_and {a b : List (List Str)} {k : List Str} : k ∈ andS a b ↔ k ∈ a ∧ k ∈ b := by unfold andS; rw [List.mem_filter, decide_eq_true_eq]
theorem mem_sub {a b : List (List Str)} {k : List Str} : k ∈ subS a b ↔ k ∈ a ∧ ¬ k ∈ b := by unfold subS; rw [List.mem_filter]; simp
theorem mem_or {a b : List (List Str)} {k : List Str} : k ∈ orS a b ↔ k ∈ a ∨ k ∈ b := by unfold orS; rw [DTS.uniqT_mem, List.mem_append]
theorem okI_tab {K : PySem.W.Frag} {C : Addr} {S : Store} : True := trivial
def bothS (e a b : List (List Str)) : List (List Str) := e.filter fun r => decide (r ∈ a) && decide (r ∈ b)
def someS (e a b : List (List Str)) : List (List Str) := e.filter fun r => decide (r ∈ a) || decide (r ∈ b)
theorem mem_both {e a b : List (List Str)} {k : List Str} : k ∈ bothS e a b ↔ k ∈ e ∧ k ∈ a ∧ k ∈ b := by unfold bothS; rw [List.mem_filter]; simp
theorem mem_some {e a b : List (List Str)} {k : List Str} : k ∈ someS e a b ↔ k ∈ e ∧ (k ∈ a ∨ k ∈ b) := by unfold someS; rw [List.mem_filter]; simp
theorem TabV.nil {dom : List Str} {n : Nat} {a : List (List Str)} (v : TabV dom n a) : TabV dom n [] := ⟨⟨v.d3, v.nm, v.n1, v.n3, fun r hr => (List.not_mem_nil hr).elim⟩, asc_nil⟩
section
variable {dom : List Str} {n : Nat} {a b : List (List Str)}
theorem e_and1 (va : TabV dom n a) (vb : TabV dom n b) : andS a b = bothS (rowsS dom n) a b := asc_ext (va.and b).asc (va.all.filt _).asc fun k => by
  rw [mem_and, mem_both]; exact ⟨fun h => ⟨va.mem k h.1, h⟩, fun h => h.2⟩
theorem e_and2 (va : TabV dom n a) (vb : TabV dom n b) : andS b a = bothS (rowsS dom n) a b := asc_ext (vb.and a).asc (va.all.filt _).asc fun k => by
  rw [mem_and, mem_both]; exact ⟨fun h => ⟨vb.mem k h.1, h.2, h.1⟩, fun h => ⟨h.2.2, h.2.1⟩⟩
theorem e_or1 (va : TabV dom n a) (vb : TabV dom n b) : orS a b = someS (rowsS dom n) a b := asc_ext (va.orV vb).asc (va.all.filt _).asc fun k => by
  rw [mem_or, mem_some]; exact ⟨fun h => ⟨h.elim (va.mem k) (vb.mem k), h⟩, fun h => h.2⟩
theorem e_or2 (va : TabV dom n a) (vb : TabV dom n b) : orS b a = someS (rowsS dom n) a b := asc_ext (vb.orV va).asc (va.all.filt _).asc fun k => by
  rw [mem_or, mem_some]; exact ⟨fun h => ⟨h.elim (vb.mem k) (va.mem k), h.symm⟩, fun h => h.2.symm⟩
theorem e_sub0 (va : TabV dom n a) : subS a a = [] := asc_ext (va.sub a).asc asc_nil fun k => by
  rw [mem_sub]; exact ⟨fun h => absurd h.1 h.2, fun h => (List.not_mem_nil h).elim⟩
theorem e_inv2 (va : TabV dom n a) : subS (rowsS dom n) (subS (rowsS dom n) a) = a := asc_ext (va.all.sub _).asc va.asc fun k => by
  rw [mem_sub, mem_sub]; exact ⟨fun h => Classical.byContradiction fun g => h.2 ⟨h.1, g⟩, fun h => ⟨va.mem k h, fun g => g.2 h⟩⟩
theorem e_or0 (va : TabV dom n a) : orS a a = a := asc_ext (va.orV va).asc va.asc fun k => by
  rw [mem_or]; exact ⟨fun h => h.elim id id, .inl⟩
theorem e_none (va : TabV dom n a) (vb : TabV dom n b) : subS (rowsS dom n) (orS a b) = subS (rowsS dom n) (someS (rowsS dom n) a b) := by rw [e_or1 va vb]
theorem e_andI (va : TabV dom n a) : andS a (subS (rowsS dom n) b) = subS a b := asc_ext (va.and _).asc (va.sub b).asc fun k => by
  rw [mem_and, mem_sub, mem_sub]; exact ⟨fun h => ⟨h.1, h.2.2⟩, fun h => ⟨h.1, va.mem k h.1, h.2⟩⟩
theorem e_dm (va : TabV dom n a) (vb : TabV dom n b) : subS (rowsS dom n) (orS a b) = andS (subS (rowsS dom n) a) (subS (rowsS dom n) b) := asc_ext (va.all.sub _).asc ((va.all.sub a).and _).asc fun k => by
  rw [mem_and, mem_sub, mem_sub, mem_sub, mem_or]; exact ⟨fun h => ⟨⟨h.1, fun g => h.2 (.inl g)⟩, h.1, fun g => h.2 (.inr g)⟩, fun h => ⟨h.1.1, fun g => g.elim h.1.2 h.2.2⟩⟩
end
def dspAlikeR : DSp := fun ds S Q _ => ∃ (dom : List Str) (n : Nat) (a b : List (List Str)), ds = [.tup (dom.map .str), .int n, .lst (a.map encT), .lst (b.map encT)] ∧ TabV dom n a ∧ TabV dom n b ∧ Q (.bl true) S
theorem sc__law_alike_right : FnScope ["_law_words_here", "_law_size", "_law_a", "_law_b", "_law_one", "_law_two", "_law_every_here", "_law_both", "_law_row", "_law_some", "_law_first", "_law_rest", "_law_pairs", "_law_none", "_law_made", "_law_due"] ["_law_words_here", "_law_size", "_law_a", "_law_b"] (defScope sLAlikeRight) := ⟨rfl, rfl, rfl, by decide +kernel, rfl, by decide +kernel, by decide +kernel⟩
theorem ok__law_alike_right (T : Facts P K mg) : FnD P w K mg base 6 T._law_alike_right.f T._law_alike_right.fd ["_law_words_here", "_law_size", "_law_a", "_law_b"] dspAlikeR := by
  refine fn_ofE (k := 5) T._law_alike_right.F sc__law_alike_right (fun ds S Q E ⟨dom, n, a, b, e, _⟩ => by subst e; rfl) fun cdv A outer s H E hr hgd tk hp => ?_
  refine ⟨_, (dss_cons (ds_par (i := 4) (j := 5) rfl sc__law_alike_right.nd (da_cons (de_make T.Table_mk (ok_Table_init T) (hr.mono (by decide)) hgd T.Table.at_ T.Table_init.bd .nil (fun _ => .nil) tk (da_cons (dv 0) (da_cons (dv 1) (da_cons (de_tuple T.bis (dv 2)) da_nil)))) (da_cons (de_make T.Table_mk (ok_Table_init T) (hr.mono (by decide)) hgd T.Table.at_ T.Table_init.bd .nil (fun _ => .nil) tk (da_cons (dv 0) (da_cons (dv 1) (da_cons (de_tuple T.bis (de_rev (dv 3))) da_nil)))) da_nil)) (by rfl))
      (dss_cons (ds_set (i := 6) sc__law_alike_right.nd (de_def (dd__law_every T) (hr.mono (by decide)) hgd tk (da_cons (dv 0) (da_cons (dv 1) da_nil))))
      (dss_cons (ds_setLc (own := [("_law_row", 8)]) (i := 7) rfl sc__law_alike_right.nd (sw_true rfl rfl rfl (by decide +kernel)) (di_list (dv 6)) (⟨rfl, by decide +kernel, by decide +kernel, by decide +kernel, by decide +kernel⟩ : BlkOk ["_law_words_here", "_law_size", "_law_a", "_law_b", "_law_one", "_law_two", "_law_every_here", "_law_both", "_law_row", "_law_some", "_law_first", "_law_rest", "_law_pairs", "_law_none", "_law_made", "_law_due"] (defScope sLAlikeRight) _ [("_law_row", 8)]) (fun s H C cl fp => (dg_name 8 sc__law_alike_right.nd)) (fun s H C cl fp => (dts_one (DW.dt (dw_and (dt_cmp (op_inDX (units65 hr)) (lift_inDX false) (dv 8) (dv 2) rfl) (dw_and1 (dt_cmp (op_inDX (units65 hr)) (lift_inDX false) (dv 8) (dv 3) rfl))))))
        (fun s H C cl fp => (dv 8)))
      (dss_cons (ds_set (i := 9) sc__law_alike_right.nd (de_lc (own := [("_law_row", 8)]) rfl sc__law_alike_right.nd (di_list (dv 6)) (⟨rfl, by decide +kernel, by decide +kernel, by decide +kernel, by decide +kernel⟩ : BlkOk ["_law_words_here", "_law_size", "_law_a", "_law_b", "_law_one", "_law_two", "_law_every_here", "_law_both", "_law_row", "_law_some", "_law_first", "_law_rest", "_law_pairs", "_law_none", "_law_made", "_law_due"] (defScope sLAlikeRight) _ [("_law_row", 8)]) (fun s H C cl fp => (dg_name 8 sc__law_alike_right.nd)) (fun s H C cl fp => (dts_one (DW.dt (dw_or (dt_cmp (op_inDX (units65 hr)) (lift_inDX false) (dv 8) (dv 2) rfl) (dw_or1 (dt_cmp (op_inDX (units65 hr)) (lift_inDX false) (dv 8) (dv 3) rfl))))))
        (fun s H C cl fp => (dv 8))))
      (dss_cons (ds_setLc (own := [("_law_row", 8)]) (i := 10) rfl sc__law_alike_right.nd (sw_true rfl rfl rfl (by decide +kernel)) (di_list (dv 2)) (⟨rfl, by decide +kernel, by decide +kernel, by decide +kernel, by decide +kernel⟩ : BlkOk ["_law_words_here", "_law_size", "_law_a", "_law_b", "_law_one", "_law_two", "_law_every_here", "_law_both", "_law_row", "_law_some", "_law_first", "_law_rest", "_law_pairs", "_law_none", "_law_made", "_law_due"] (defScope sLAlikeRight) _ [("_law_row", 8)]) (fun s H C cl fp => (dg_name 8 sc__law_alike_right.nd)) (fun s H C cl fp => (dts_one (dt_cmp (op_notInDX (units65 hr)) (lift_inDX true) (dv 8) (dv 3) rfl)))
        (fun s H C cl fp => (dv 8)))
      (dss_cons (ds_setLc (own := [("_law_row", 8)]) (i := 11) rfl sc__law_alike_right.nd (sw_true rfl rfl rfl (by decide +kernel)) (di_list (dv 6)) (⟨rfl, by decide +kernel, by decide +kernel, by decide +kernel, by decide +kernel⟩ : BlkOk ["_law_words_here", "_law_size", "_law_a", "_law_b", "_law_one", "_law_two", "_law_every_here", "_law_both", "_law_row", "_law_some", "_law_first", "_law_rest", "_law_pairs", "_law_none", "_law_made", "_law_due"] (defScope sLAlikeRight) _ [("_law_row", 8)]) (fun s H C cl fp => (dg_name 8 sc__law_alike_right.nd)) (fun s H C cl fp => (dts_one (dt_cmp (op_notInDX (units65 hr)) (lift_inDX true) (dv 8) (dv 2) rfl)))
        (fun s H C cl fp => (dv 8)))
      (dss_cons (ds_set (i := 12) sc__law_alike_right.nd (de_lst (da_cons (de_tup (da_cons (de_binO T.Table_sf (op_of T.Table_and.at_) (ok_Table_and T) (hr.mono (by decide)) hgd T.Table_and.bd tk (dv 4) (dv 5)) (da_cons (dv 7) da_nil))) (da_cons (de_tup (da_cons (de_binO T.Table_sf (op_of T.Table_and.at_) (ok_Table_and T) (hr.mono (by decide)) hgd T.Table_and.bd tk (dv 5) (dv 4)) (da_cons (dv 7) da_nil))) (da_cons (de_tup (da_cons (de_binO T.Table_sf (op_of T.Table_or.at_) (ok_Table_or T) (hr.mono (by decide)) hgd T.Table_or.bd tk (dv 4) (dv 5)) (da_cons (dv 9) da_nil))) (da_cons (de_tup (da_cons (de_binO T.Table_sf (op_of T.Table_or.at_) (ok_Table_or T) (hr.mono (by decide)) hgd T.Table_or.bd tk (dv 5) (dv 4)) (da_cons (dv 9) da_nil))) (da_cons (de_tup (da_cons (de_binO T.Table_sf (op_of T.Table_sub.at_) (ok_Table_sub T) (hr.mono (by decide)) hgd T.Table_sub.bd tk (dv 4) (dv 5)) (da_cons (dv 10) da_nil))) da_nil)))))))
      (dss_cons (ds_setLc (own := [("_law_row", 8)]) (i := 13) rfl sc__law_alike_right.nd (sw_true rfl rfl rfl (by decide +kernel)) (di_list (dv 6)) (⟨rfl, by decide +kernel, by decide +kernel, by decide +kernel, by decide +kernel⟩ : BlkOk ["_law_words_here", "_law_size", "_law_a", "_law_b", "_law_one", "_law_two", "_law_every_here", "_law_both", "_law_row", "_law_some", "_law_first", "_law_rest", "_law_pairs", "_law_none", "_law_made", "_law_due"] (defScope sLAlikeRight) _ [("_law_row", 8)]) (fun s H C cl fp => (dg_name 8 sc__law_alike_right.nd)) (fun s H C cl fp => (dts_one (dt_cmp (op_notInDX (units65 hr)) (lift_inDX true) (dv 8) (dv 9) rfl)))
        (fun s H C cl fp => (dv 8)))
      (dss_cons (ds_set (i := 12) sc__law_alike_right.nd (de_op or_add lift_add (dv 12) (de_lst (da_cons (de_tup (da_cons (de_binO T.Table_sf (op_of T.Table_sub.at_) (ok_Table_sub T) (hr.mono (by decide)) hgd T.Table_sub.bd tk (dv 4) (dv 4)) (da_cons (de_lst da_nil) da_nil))) (da_cons (de_tup (da_cons (de_invO (op_of T.Table_invert.at_) (ok_Table_invert T) (hr.mono (by decide)) hgd T.Table_invert.bd tk (dv 4)) (da_cons (dv 11) da_nil))) (da_cons (de_tup (da_cons (de_invO (op_of T.Table_invert.at_) (ok_Table_invert T) (hr.mono (by decide)) hgd T.Table_invert.bd tk (de_invO (op_of T.Table_invert.at_) (ok_Table_invert T) (hr.mono (by decide)) hgd T.Table_invert.bd tk (dv 4))) (da_cons (dv 2) da_nil))) (da_cons (de_tup (da_cons (de_binO T.Table_sf (op_of T.Table_or.at_) (ok_Table_or T) (hr.mono (by decide)) hgd T.Table_or.bd tk (dv 4) (dv 4)) (da_cons (dv 2) da_nil))) (da_cons (de_tup (da_cons (de_invO (op_of T.Table_invert.at_) (ok_Table_invert T) (hr.mono (by decide)) hgd T.Table_invert.bd tk (de_binO T.Table_sf (op_of T.Table_or.at_) (ok_Table_or T) (hr.mono (by decide)) hgd T.Table_or.bd tk (dv 4) (dv 5))) (da_cons (dv 13) da_nil))) da_nil))))))))
      (dss_cons (ds_for rfl (di_list (de_op or_add lift_add (dv 12) (de_lst (da_cons (de_tup (da_cons (de_binO T.Table_sf (op_of T.Table_and.at_) (ok_Table_and T) (hr.mono (by decide)) hgd T.Table_and.bd tk (dv 4) (de_invO (op_of T.Table_invert.at_) (ok_Table_invert T) (hr.mono (by decide)) hgd T.Table_invert.bd tk (dv 5))) (da_cons (dv 10) da_nil))) (da_cons (de_tup (da_cons (dv 4) (da_cons (dv 2) da_nil))) (da_cons (de_tup (da_cons (dv 5) (da_cons (de_sortD hr.units T.bis (dv 3)) da_nil))) da_nil)))))) (dg_tup rfl (gn_cons 14 sc__law_alike_right.nd (gn_cons 15 sc__law_alike_right.nd gn_nil))) (dss_one (ds_if (dt_not (dt_val (de_def (dd__law_is T) (hr.mono (by decide)) hgd tk (da_cons (dv 14) (da_cons (dv 0) (da_cons (dv 1) (da_cons (dv 15) da_nil))))))) (dss_one (ds_ret de_bl)) dss_nil)) hp)
      (dss_one (ds_ret (de_and (de_cmp (or_eqOwn T.Table_own (ok_Table_eq T) (hr.mono (by decide)) hgd T.Table_eq.bd) lift_own (de_invO (op_of T.Table_invert.at_) (ok_Table_invert T) (hr.mono (by decide)) hgd T.Table_invert.bd tk (de_binO T.Table_sf (op_of T.Table_or.at_) (ok_Table_or T) (hr.mono (by decide)) hgd T.Table_or.bd tk (dv 4) (dv 5))) (de_binO T.Table_sf (op_of T.Table_and.at_) (ok_Table_and T) (hr.mono (by decide)) hgd T.Table_and.bd tk (de_invO (op_of T.Table_invert.at_) (ok_Table_invert T) (hr.mono (by decide)) hgd T.Table_invert.bd tk (dv 4)) (de_invO (op_of T.Table_invert.at_) (ok_Table_invert T) (hr.mono (by decide)) hgd T.Table_invert.bd tk (dv 5))) rfl) (de_one (de_cmp (or_eqOwn T.Table_own (ok_Table_eq T) (hr.mono (by decide)) hgd T.Table_eq.bd) lift_own (de_binO T.Table_sf (op_of T.Table_sub.at_) (ok_Table_sub T) (hr.mono (by decide)) hgd T.Table_sub.bd tk (dv 4) (dv 5)) (de_binO T.Table_sf (op_of T.Table_and.at_) (ok_Table_and T) (hr.mono (by decide)) hgd T.Table_and.bd tk (dv 4) (de_invO (op_of T.Table_invert.at_) (ok_Table_invert T) (hr.mono (by decide)) hgd T.Table_invert.bd tk (dv 5))) rfl))))))))))))))), ?_⟩
  intro ds S Q E' ⟨dom, n, a, b, e, va, vb, q⟩
  subst e
  clear tk hp hgd hr
  have la := va.len
  have lb := vb.len
  have ve := va.all
  have le := ve.len
  have n3 := va.n3
  walk_at "st"
  refine mk_table2 va.toTableOk (by omega) fun a1 S1 h1 d1 => ⟨rfl, _, _, h1, ?_⟩
  rw [d1, uniqT_self va.asc, fold_tab]
  clear h1 d1 S1 a1
  walk_at "st"
  refine ⟨_, rfl, ?_⟩
  walk_at "st"
  rw [← List.map_reverse]
  have vr : TableOk dom n b.reverse := ⟨vb.d3, vb.nm, vb.n1, vb.n3, fun r hr => vb.mem r (List.mem_reverse.mp hr)⟩
  refine mk_table2 vr (by rw [List.length_reverse]; omega) fun a1 S1 h1 d1 => ⟨rfl, _, _, h1, ?_⟩
  rw [d1, uniqT_of (ys := b) vb.asc (fun k => List.mem_reverse), fold_tab]
  clear h1 d1 S1 a1 vr
  walk_at "st"
  refine ⟨dom, n, rfl, va.l3, by omega, ?_⟩
  walk_at "st"
  refine lc_filterM encT (fun r => decide (r ∈ a) && decide (r ∈ b)) (rowsS dom n) [] (fun r hr => ⟨_, rfl, fun QT qt => ?_, fun R rr => ?_⟩) ?_
  · walk_at "st"
    refine s_inRows (.inr rfl) (ve.strs r hr) va.strs ?_
    walk_at "st"
    refine iteB (fun h => ?_) fun h => ?_
    · have h : decide (r ∈ a) = true := h
      rw [h, Bool.true_and] at qt
      walk_at "st"
      refine s_inRows (.inr rfl) (ve.strs r hr) vb.strs ?_
      walk_at "st"
      exact qt
    · have h : decide (r ∈ a) = false := h
      rw [h, Bool.false_and] at qt
      exact qt
  · walk_at "st"
    exact rr
  rw [List.nil_append, show (rowsS dom n).filter (fun r => decide (r ∈ a) && decide (r ∈ b)) = bothS (rowsS dom n) a b from rfl]
  walk_at "st"
  refine lc_filterM encT (fun r => decide (r ∈ a) || decide (r ∈ b)) (rowsS dom n) [] (fun r hr => ⟨_, rfl, fun QT qt => ?_, fun R rr => ?_⟩) ?_
  · walk_at "st"
    refine s_inRows (.inr rfl) (ve.strs r hr) va.strs ?_
    walk_at "st"
    refine iteB (fun h => ?_) fun h => ?_
    · have h : decide (r ∈ a) = true := h
      rw [h, Bool.true_or] at qt
      exact qt
    · have h : decide (r ∈ a) = false := h
      rw [h, Bool.false_or] at qt
      walk_at "st"
      refine s_inRows (.inr rfl) (ve.strs r hr) vb.strs ?_
      walk_at "st"
      exact qt
  · walk_at "st"
    exact rr
  rw [List.nil_append, show (rowsS dom n).filter (fun r => decide (r ∈ a) || decide (r ∈ b)) = someS (rowsS dom n) a b from rfl]
  walk_at "st"
  refine lc_filterM encT (fun r => !decide (r ∈ b)) a [] (fun r hr => ⟨_, rfl, fun QT qt => ?_, fun R rr => ?_⟩) ?_
  · walk_at "st"
    refine s_inRows (.inr rfl) (va.strs r hr) vb.strs ?_
    walk_at "st"
    exact qt
  · walk_at "st"
    exact rr
  rw [List.nil_append, show (a).filter (fun r => !decide (r ∈ b)) = subS a b from rfl]
  walk_at "st"
  refine lc_filterM encT (fun r => !decide (r ∈ a)) (rowsS dom n) [] (fun r hr => ⟨_, rfl, fun QT qt => ?_, fun R rr => ?_⟩) ?_
  · walk_at "st"
    refine s_inRows (.inr rfl) (ve.strs r hr) va.strs ?_
    walk_at "st"
    exact qt
  · walk_at "st"
    exact rr
  rw [List.nil_append, show ((rowsS dom n)).filter (fun r => !decide (r ∈ a)) = subS (rowsS dom n) a from rfl]
  walk_at "st"
  have vab := va.orV vb
  have vs : TabV dom n (someS (rowsS dom n) a b) := ve.filt _
  have B := fun f => @bin_alike T.Table.C T.NoTable.C f
  refine bin_alike va vb ?_
  walk_at "st"
  refine bin_alike vb va ?_
  walk_at "st"
  refine bin_alike va vb ?_
  walk_at "st"
  refine bin_alike vb va ?_
  walk_at "st"
  refine bin_alike va vb ?_
  walk_at "st"
  refine lc_filterM encT (fun r => !decide (r ∈ someS (rowsS dom n) a b)) (rowsS dom n) [] (fun r hr => ⟨_, rfl, fun QT qt => ?_, fun R rr => ?_⟩) ?_
  · walk_at "st"
    refine s_inRows (.inr rfl) (ve.strs r hr) vs.strs ?_
    walk_at "st"
    exact qt
  · walk_at "st"
    exact rr
  rw [List.nil_append, show (rowsS dom n).filter (fun r => !decide (r ∈ someS (rowsS dom n) a b)) = subS (rowsS dom n) (someS (rowsS dom n) a b) from rfl]
  walk_at "st"
  refine bin_alike va va ?_
  walk_at "st"
  refine inv_alike va ?_
  walk_at "st"
  refine inv_alike va ?_
  walk_at "st"
  refine inv_alike (ve.sub a) ?_
  walk_at "st"
  refine bin_alike va va ?_
  walk_at "st"
  refine bin_alike va vb ?_
  walk_at "st"
  refine inv_alike vab ?_
  walk_at "st"
  refine inv_alike vb ?_
  walk_at "st"
  refine bin_alike va (ve.sub b) ?_
  walk_at "st"
  refine s_sortTS rfl vb.ne ?_
  rw [sort_asc vb.asc]
  walk_at "sf"
  have good : ∀ {x y : List (List Str)}, x = y → TabV dom n y → ∃ y', D.tup [tableD T.Table.C dom n x, .lst (y.map encT)] = .tup [tableD T.Table.C dom n y', .lst (y'.map encT)] ∧ TabV dom n y' := fun {x y} e v => ⟨y, by rw [e], v⟩
  refine e_forK (fun items ρ S' => S' = S ∧ (∀ d ∈ items, ∃ y, d = .tup [tableD T.Table.C dom n y, .lst (y.map encT)] ∧ TabV dom n y) ∧ ∃ v2 v3 v6 v7 v8 v9 v10 v11 v12 v13 v14 v15, ρ = [some (.tup (dom.map .str)), some (.int n), v2, v3, some (tableD T.Table.C dom n a), some (tableD T.Table.C dom n b), v6, v7, v8, v9, v10, v11, v12, v13, v14, v15]) ?_ ?_ _ _ _ ⟨rfl, ?_, _, _, _, _, _, _, _, _, _, _, _, _, rfl⟩
  · rintro ρ S' ⟨rfl, _, v2, v3, v6, v7, v8, v9, v10, v11, v12, v13, v14, v15, rfl⟩
    walk_at "st"
    refine bin_alike va vb ?_
    walk_at "st"
    refine inv_alike vab ?_
    walk_at "st"
    refine inv_alike va ?_
    walk_at "st"
    refine inv_alike vb ?_
    walk_at "st"
    refine bin_alike (ve.sub a) (ve.sub b) ?_
    walk_at "st"
    refine eq_alike (ve.sub _) ((ve.sub a).and _) (e_dm va vb) ?_
    walk_at "st"
    refine bin_alike va vb ?_
    walk_at "st"
    refine inv_alike vb ?_
    walk_at "st"
    refine bin_alike va (ve.sub b) ?_
    walk_at "st"
    refine eq_alike (va.sub b) (va.and _) (e_andI va).symm ?_
    exact q
  · rintro J d r ih ρ S' ⟨rfl, hi, v2, v3, v6, v7, v8, v9, v10, v11, v12, v13, v14, v15, rfl⟩
    obtain ⟨y, rfl, vy⟩ := hi d List.mem_cons_self
    walk_at "st"
    refine ⟨dom, n, y, rfl, vy, ?_⟩
    walk_at "st"
    exact ih _ _ ⟨rfl, fun x hx => hi x (List.mem_cons_of_mem _ hx), _, _, _, _, _, _, _, _, _, _, _, _, rfl⟩
  · intro d hd
    simp only [List.mem_append, List.mem_cons, List.not_mem_nil, or_false] at hd
    rcases hd with ((h | h | h | h | h) | (h | h | h | h | h)) | (h | h | h)
    · rw [h]; exact good (e_and1 va vb) (ve.filt _)
    · rw [h]; exact good (e_and2 va vb) (ve.filt _)
    · rw [h]; exact good (e_or1 va vb) vs
    · rw [h]; exact good (e_or2 va vb) vs
    · rw [h]; exact good rfl (va.sub b)
    · rw [h]; exact good (e_sub0 va) va.nil
    · rw [h]; exact good rfl (ve.sub a)
    · rw [h]; exact good (e_inv2 va) va
    · rw [h]; exact good (e_or0 va) va
    · rw [h]; exact good (e_none va vb) (ve.sub _)
    · rw [h]; exact good (e_andI va) (va.sub b)
    · rw [h]; exact good rfl va
    · rw [h]; exact good rfl vb
theorem dd__law_alike_right (T : Facts P K mg) : DefD P w K mg base 6 "_law_alike_right" ["_law_words_here", "_law_size", "_law_a", "_law_b"] dspAlikeR T._law_alike_right.f T._law_alike_right.fd := .of T._law_alike_right (ok__law_alike_right T)


end
end K03

set_option maxRecDepth 100000
set_option maxHeartbeats 4000000
namespace K03
open PySem PySem.Spec L2 DL
section
variable {P : Program} {w : World} {K : PySem.W.Frag} {mg : Str → Option Value} {base : Heap}
theorem rows_pos {dom : List Str} (h : 1 ≤ dom.length) (n : Nat) : 1 ≤ (rowsS dom n).length := by
  rw [rowsS_len]
  exact Nat.pow_pos h
theorem rowsS_strs {dom : List Str} (nm : ∀ z ∈ dom, isNameS z = true) {n : Nat} : ∀ r ∈ rowsS dom n, ∀ z ∈ r, PyData.strOk z = true := fun r hr z hz => (name_ok (nm z ((rowsS_each hr).2 z hz))).1
theorem TabV.of_sub {dom : List Str} {n : Nat} {ms : List (List Str)} (d3 : Dom3 dom) (nm : ∀ z ∈ dom, isNameS z = true) (n1 : 1 ≤ n) (n3 : n ≤ 3) (s : ms.Sublist (rowsS dom n)) : TabV dom n ms :=
  ⟨⟨d3, nm, n1, n3, fun r hr => s.subset hr⟩, asc_sub (rowsS_asc (dom3_pw d3).1 (dom3_pw d3).2.1 n) s⟩
theorem mul_alike {C CE : Addr} {S : Store} {Q : DQ} {E : DX} {dom : List Str} {n n2 : Nat} {a b : List (List Str)} (va : TabV dom n a) (vb : TabV dom n2 b) (h : n + n2 ≤ 3) (q : Q (tableD C dom (n + n2) (timesS a b)) S) :
    (objD C S (tableD C dom n a)).isSome = true ∧ (objD C S (tableD C dom n2 b)).isSome = true ∧ dspMul C CE [tableD C dom n a, tableD C dom n2 b] S Q E :=
  ⟨by rw [tfl]; rfl, by rw [tfl]; rfl, dom, n, a, dom, n2, b, rfl, va, vb, fun _ _ => q, fun h => absurd rfl h, fun _ g => absurd h (by omega)⟩
theorem lines_ok {a L : Addr} {k : Nat} {S : Store} {Q : DQ} {E : DX} {dom : List Str} {n : Nat} (D : Deck S a L (k + 40)) (d3 : Dom3 dom) (nm : ∀ z ∈ dom, isNameS z = true) (n3 : n ≤ 3) (q : ∀ (ms : List (List Str)) (S' : Store), ms.Sublist (rowsS dom n) → Deck S' a L k → Q (.lst (ms.map encT)) S') :
    dspLines ([.ref a, .lst ((rowsS dom n).map encT)] ++ []) S Q E :=
  ⟨a, L, k, _, rfl, D, rows_pos (dom3_pw d3).2.2.1 n, by have := rowsS_27 (dom3_pw d3).2.2.2 n3; omega, rowsS_strs nm, q⟩
theorem ext_deck {S S' : Store} {a L : Addr} {k : Nat} (e : Ext S S') (D : Deck S a L k) : Deck S' a L k := D.ext e
def dspTimesR : DSp := fun ds S Q _ => ∃ (a0 L : Addr) (k : Nat) (dom : List Str) (n : Nat) (a : List (List Str)), ds = [.ref a0, .tup (dom.map .str), .int n, .lst (a.map encT)] ∧ Deck S a0 L (k + 100) ∧ TabV dom n a ∧ ∀ S', Deck S' a0 L k → Q (.bl true) S'
theorem strOk_width : PyData.strOk (Str.ofString "width") = true := by decide +kernel
theorem strOk_unlike : PyData.strOk (Str.ofString "unlike") = true := by decide +kernel
theorem sc__law_times_right : FnScope ["_law_deck_here", "_law_words_here", "_law_size", "_law_a", "_law_wide", "_law_b", "_law_one", "_law_two", "_law_due", "_law_row", "_law_other"] ["_law_deck_here", "_law_words_here", "_law_size", "_law_a"] (defScope sLTimesRight) := ⟨rfl, rfl, rfl, by decide +kernel, rfl, by decide +kernel, by decide +kernel⟩
theorem ok__law_times_right (T : Facts P K mg) (X : Xtr3 T) : FnD P w K mg base 8 T._law_times_right.f T._law_times_right.fd ["_law_deck_here", "_law_words_here", "_law_size", "_law_a"] dspTimesR := by
  refine fn_ofE (k := 7) T._law_times_right.F sc__law_times_right (fun ds S Q E ⟨a0, L, k, dom, n, a, e, _⟩ => by subst e; rfl) fun cdv A outer s H E hr hgd tk hp => ?_
  refine ⟨_, (dss_cons (ds_set (i := 4) sc__law_times_right.nd (de_op or_add lift_add de_int (de_def (dd__law_draw T) (hr.mono (by decide)) hgd tk (da_cons (dv 0) (da_cons de_int da_nil)))))
      (dss_cons (ds_set (i := 5) sc__law_times_right.nd (de_def (dd__law_lines T) (hr.mono (by decide)) hgd tk (da_cons (dv 0) (da_cons (de_def (dd__law_every T) (hr.mono (by decide)) hgd tk (da_cons (dv 1) (da_cons (dv 4) da_nil))) da_nil))))
      (dss_cons (ds_par (i := 6) (j := 7) rfl sc__law_times_right.nd (da_cons (de_make T.Table_mk (ok_Table_init T) (hr.mono (by decide)) hgd T.Table.at_ T.Table_init.bd .nil (fun _ => .nil) tk (da_cons (dv 1) (da_cons (dv 2) (da_cons (de_tuple T.bis (dv 3)) da_nil)))) (da_cons (de_make T.Table_mk (ok_Table_init T) (hr.mono (by decide)) hgd T.Table.at_ T.Table_init.bd .nil (fun _ => .nil) tk (da_cons (dv 1) (da_cons (dv 4) (da_cons (de_tuple T.bis (dv 5)) da_nil)))) da_nil)) (by rfl))
      (dss_cons (ds_if (dt_cmp op_gt (lift_cmpI _) (de_op or_add lift_add (dv 2) (dv 4)) de_int rfl) (dss_one (ds_ret (de_cmp (op_eqD hr.units) lift_eq (de_def (dd__law_both_words T X) (hr.mono (by decide)) hgd tk (da_cons (dv 6) (da_cons (dv 7) (da_cons de_int da_nil)))) (de_lst (da_cons de_str (da_cons de_str da_nil))) rfl))) dss_nil)
      (dss_cons (ds_set (i := 8) sc__law_times_right.nd (de_lst da_nil))
      (dss_cons (ds_for rfl (di_list (dv 3)) (dg_name 9 sc__law_times_right.nd) (dss_one (ds_set (i := 8) sc__law_times_right.nd (de_op or_add lift_add (dv 8) (de_lc (own := [("_law_other", 10)]) rfl sc__law_times_right.nd (di_list (dv 5)) (⟨rfl, by decide +kernel, by decide +kernel, by decide +kernel, by decide +kernel⟩ : BlkOk ["_law_deck_here", "_law_words_here", "_law_size", "_law_a", "_law_wide", "_law_b", "_law_one", "_law_two", "_law_due", "_law_row", "_law_other"] (defScope sLTimesRight) _ [("_law_other", 10)]) (fun s H C cl fp => (dg_name 10 sc__law_times_right.nd)) (fun s H C cl fp => dts_nil)
        (fun s H C cl fp => (de_op or_add lift_add (dv 9) (dv 10))))))) hp)
      (dss_cons (ds_if (dt_not (dt_val (de_def (dd__law_is T) (hr.mono (by decide)) hgd tk (da_cons (de_binO T.Table_sf (op_of T.Table_mul.at_) (ok_Table_mul T) (hr.mono (by decide)) hgd T.Table_mul.bd tk (dv 6) (dv 7)) (da_cons (dv 1) (da_cons (de_op or_add lift_add (dv 2) (dv 4)) (da_cons (dv 8) da_nil))))))) (dss_one (ds_ret de_bl)) dss_nil)
      (dss_one (ds_ret (de_and (de_def (dd__law_is T) (hr.mono (by decide)) hgd tk (da_cons (dv 6) (da_cons (dv 1) (da_cons (dv 2) (da_cons (dv 3) da_nil))))) (de_one (de_def (dd__law_is T) (hr.mono (by decide)) hgd tk (da_cons (dv 7) (da_cons (dv 1) (da_cons (dv 4) (da_cons (dv 5) da_nil)))))))))))))))), ?_⟩
  intro ds S Q E' ⟨a0, L, k, dom, n, a, e, D0, va, q⟩
  subst e
  clear tk hp hgd hr
  have la := va.len
  have n3 := va.n3
  walk_at "st"
  refine ⟨a0, L, k + 99, 3, rfl, D0, by decide, by decide, fun i S1 i0 i1 D1 _ => ?_⟩
  obtain ⟨m, hm, m1, m3⟩ : ∃ m : Nat, (1 : Int) + i = m ∧ 1 ≤ m ∧ m ≤ 3 := ⟨(1 + i).toNat, by omega, by omega, by omega⟩
  walk_at "st"
  rw [hm]
  walk_at "st"
  refine ⟨dom, m, rfl, va.l3, by omega, ?_⟩
  walk_at "st"
  refine lines_ok (k := k + 59) (D1.mono (by omega)) va.d3 va.nm m3 fun b S2 sub D2 => ?_
  have vb : TabV dom m b := .of_sub va.d3 va.nm m1 m3 sub
  have lb := vb.len
  walk_at "st"
  refine mk_table2 va.toTableOk (by omega) fun a1 S3 h1 d1 => ⟨rfl, _, _, h1, ?_⟩
  rw [d1, uniqT_self va.asc, fold_tab]
  clear h1 d1 S3 a1
  walk_at "st"
  refine mk_table2 vb.toTableOk (by omega) fun a1 S3 h1 d1 => ⟨rfl, _, _, h1, ?_⟩
  rw [d1, uniqT_self vb.asc, fold_tab]
  clear h1 d1 S3 a1
  walk_at "st"
  refine iteB (fun h => ?_) fun h => ?_
  · have h : (3 : Int) < (n : Int) + m := of_decide_eq_true h
    walk_at "st"
    refine ⟨dom, n, a, dom, m, b, 3, _, rfl, va, vb, .w4 rfl (by omega), .w4 rfl (by omega), fun S3 ext => ?_⟩
    walk_at "st"
    refine s_eqLS (x := [Str.ofString "width", Str.ofString "width"]) (y := [Str.ofString "width", Str.ofString "width"]) (fun z hz => by simp at hz; rw [hz]; exact strOk_width) (fun z hz => by simp at hz; rw [hz]; exact strOk_width) ?_
    rw [if_neg Bool.false_ne_true, decide_eq_true rfl]
    exact q S3 (ext_deck ext (D2.mono (by omega)))
  have h : ¬ (3 : Int) < (n : Int) + m := of_decide_eq_false h
  have g3 : n + m ≤ 3 := by omega
  have lt := timesS_len a b
  have lm : a.length * b.length ≤ 27 * 27 := Nat.mul_le_mul la lb
  have en : ((n : Int) + (m : Int)) = ((n + m : Nat) : Int) := by omega
  walk_at "sf"
  refine e_forK (fun items ρ S' => S' = S2 ∧ ∃ (done rest : List (List Str)) (v9 v10 : Option D), done ++ rest = a ∧ items = rest.map encT ∧ ρ = [some (.ref a0), some (.tup (dom.map .str)), some (.int n), some (.lst (a.map encT)), some (.int m), some (.lst (b.map encT)), some (tableD T.Table.C dom n a), some (tableD T.Table.C dom m b), some (.lst ((timesS done b).map encT)), v9, v10]) ?_ ?_ _ _ _ ⟨rfl, [], a, _, _, rfl, rfl, rfl⟩
  · rintro ρ S' ⟨rfl, done, rest, v9, v10, hd, hi, rfl⟩
    have hr : rest = [] := by simpa using hi.symm
    subst hr
    rw [List.append_nil] at hd
    subst hd
    walk_at "st"
    refine mul_alike va vb g3 ?_
    walk_at "st"
    rw [en]
    refine ⟨dom, n + m, timesS done b, rfl, va.times vb g3, ?_⟩
    walk_at "st"
    refine ⟨dom, n, done, rfl, va, ?_⟩
    walk_at "st"
    refine ⟨dom, m, b, rfl, vb, ?_⟩
    exact q _ (D2.mono (by omega))
  · rintro J d r ih ρ S' ⟨rfl, done, rest, v9, v10, hd, hi, rfl⟩
    match rest, hi with
    | y :: rest, hi =>
      cases hi
      have y3 : y.length ≤ 3 := by rw [(rowsS_each (va.mem y (by rw [← hd]; simp))).1]; exact n3
      have es : (timesS (done ++ [y]) b).map encT = (timesS done b).map encT ++ b.map fun o => encT (y ++ o) := by
        unfold timesS
        rw [List.flatMap_append, List.map_append, List.flatMap_cons, List.flatMap_nil, List.append_nil, List.map_map]
        rfl
      have ls : (timesS (done ++ [y]) b).length ≤ 27 * 27 := by
        rw [timesS_len]
        refine Nat.mul_le_mul ?_ lb
        have := congrArg List.length hd
        rw [List.length_append, List.length_cons] at this
        rw [List.length_append, List.length_singleton]
        omega
      have ls2 := congrArg List.length es
      rw [List.length_map, List.length_append, List.length_map, List.length_map] at ls2
      walk_at "st"
      refine lcgo_map encT (fun o => encT (y ++ o)) b [] (fun o ho => ⟨_, rfl, fun R2 r2 => ?_⟩) ?_
      · have o3 : o.length ≤ 3 := by rw [(rowsS_each (vb.mem o ho)).1]; exact m3
        walk_at "st"
        exact add_enc (by rw [sizeLine_eq]; omega) r2
      · rw [List.nil_append]
        refine s_addL (by rw [sizeLine_eq, List.length_map, List.length_map]; omega) ?_
        walk_at "st"
        exact ih _ _ ⟨rfl, done ++ [y], rest, _, _, by rw [List.append_assoc]; exact hd, rfl, by rw [es]; rfl⟩
theorem dd__law_times_right (T : Facts P K mg) (X : Xtr3 T) : DefD P w K mg base 8 "_law_times_right" ["_law_deck_here", "_law_words_here", "_law_size", "_law_a"] dspTimesR T._law_times_right.f T._law_times_right.fd := .of T._law_times_right (ok__law_times_right T X)


end
end K03

set_option maxRecDepth 100000
set_option maxHeartbeats 4000000
namespace K03
open PySem PySem.Spec L2 DL
section
variable {P : Program} {w : World} {K : PySem.W.Frag} {mg : Str → Option Value} {base : Heap}
theorem cut7_cps (z : Str) : (cutS z none (some 7)).cps.toList = z.cps.toList.take 7 := by
  show (((z.cps.toList.drop (HT.sIx z.length 0 none)).take (HT.sIx z.length z.length (some ((7 : Nat) : Int)) - HT.sIx z.length 0 none)).toArray).toList = _
  rw [HT.sIx_nat]
  have e : HT.sIx z.length 0 none = 0 := rfl
  have l : z.length = z.cps.toList.length := rfl
  rw [e, Nat.sub_zero, List.drop_zero, List.toList_toArray, l]
  by_cases h : 7 ≤ z.cps.toList.length
  · rw [Nat.min_eq_left h]
  · rw [Nat.min_eq_right (by omega), List.take_of_length_le (Nat.le_refl _), List.take_of_length_le (by omega)]
theorem cut7_name {z : Str} (h : isNameS z = true) : isNameS (cutS z none (some 7) ++ Str.ofString "a") = true := by
  unfold isNameS at *
  rw [Bool.and_eq_true, Bool.and_eq_true] at *
  obtain ⟨⟨h1, h2⟩, h3⟩ := h
  have lc : (cutS z none (some 7)).length = (z.cps.toList.take 7).length := by rw [← cut7_cps]; exact (Array.length_toList).symm
  have la : (Str.ofString "a").length = 1 := rfl
  have e : (cutS z none (some 7) ++ Str.ofString "a").cps.toList = z.cps.toList.take 7 ++ [97] := by
    show ((cutS z none (some 7)).cps ++ (Str.ofString "a").cps).toList = _
    rw [Array.toList_append, cut7_cps]
    rfl
  refine ⟨⟨decide_eq_true (by rw [strLen_append]; omega), decide_eq_true ?_⟩, ?_⟩
  · rw [strLen_append, lc, List.length_take]
    omega
  · rw [e, List.all_append, Bool.and_eq_true]
    refine ⟨List.all_eq_true.mpr fun c hc => List.all_eq_true.mp h3 c (List.mem_of_mem_take hc), by decide +kernel⟩
theorem word_dom {dom dom2 : List Str} {n n2 : Nat} (h : dom ≠ dom2) : ∀ {j : Nat}, j < 4 → WordIs dom n dom2 n2 j "unlike"
  | 0, _ => .w0 (.inl h)
  | 1, _ => .w1 (.inl h)
  | 2, _ => .w2 (.inl h)
  | 3, _ => .w3 h
  | j + 4, h => absurd h (by omega)
theorem word_wid {dom dom2 : List Str} {n n2 : Nat} (h : n ≠ n2) : ∀ {j : Nat}, j < 3 → WordIs dom n dom2 n2 j "unlike"
  | 0, _ => .w0 (.inr h)
  | 1, _ => .w1 (.inr h)
  | 2, _ => .w2 (.inr h)
  | j + 3, h => absurd h (by omega)
theorem s_unl {S : Store} {Q : DQ} (q : Q (.bl false) S) : rdEq true (.lst ([Str.ofString "unlike", Str.ofString "unlike"].map .str)) (.lst [.str (Str.ofString "unlike"), .str (Str.ofString "unlike")]) S Q := by
  have so : ∀ z ∈ [Str.ofString "unlike", Str.ofString "unlike"], PyData.strOk z = true := fun z hz => by simp at hz; rw [hz]; exact strOk_unlike
  refine s_eqLS (x := [Str.ofString "unlike", Str.ofString "unlike"]) (y := [Str.ofString "unlike", Str.ofString "unlike"]) so so ?_
  rw [if_pos rfl, decide_eq_true rfl]
  exact q
theorem sc__law_unlike_right : FnScope ["_law_deck_here", "_law_words_here", "_law_size", "_law_a", "_law_one", "_law_wide", "_law_others", "_law_other", "_law_two", "_law_way"] ["_law_deck_here", "_law_words_here", "_law_size", "_law_a"] (defScope sLUnlikeRight) := ⟨rfl, rfl, rfl, by decide +kernel, rfl, by decide +kernel, by decide +kernel⟩
theorem ok__law_unlike_right (T : Facts P K mg) (X : Xtr3 T) : FnD P w K mg base 8 T._law_unlike_right.f T._law_unlike_right.fd ["_law_deck_here", "_law_words_here", "_law_size", "_law_a"] dspTimesR := by
  refine fn_ofE (k := 7) T._law_unlike_right.F sc__law_unlike_right (fun ds S Q E ⟨a0, L, k, dom, n, a, e, _⟩ => by subst e; rfl) fun cdv A outer s H E hr hgd tk hp => ?_
  refine ⟨_, (dss_cons (ds_par (i := 4) (j := 5) rfl sc__law_unlike_right.nd (da_cons (de_make T.Table_mk (ok_Table_init T) (hr.mono (by decide)) hgd T.Table.at_ T.Table_init.bd .nil (fun _ => .nil) tk (da_cons (dv 1) (da_cons (dv 2) (da_cons (de_tuple T.bis (dv 3)) da_nil)))) (da_cons (de_op or_add lift_add de_int (de_def (dd__law_draw T) (hr.mono (by decide)) hgd tk (da_cons (dv 0) (da_cons de_int da_nil)))) da_nil)) (by rfl))
      (dss_cons (ds_set (i := 6) sc__law_unlike_right.nd (de_lst (da_cons (de_op or_add lift_add (dv 1) (de_tup (da_cons de_str da_nil))) (da_cons (de_slice (dv 1) do_none (do_some (de_un un_neg lift_neg de_int))) (da_cons (de_slice (dv 1) (do_some de_int) do_none) (da_cons (de_op or_add lift_add (de_tup (da_cons de_str da_nil)) (de_slice (dv 1) (do_some de_int) do_none)) (da_cons (de_op or_add lift_add (de_tup (da_cons (de_op or_add lift_add (de_sliceS (de_ix (dv 1) de_int) do_none (do_some de_int)) de_str) da_nil)) (de_slice (dv 1) (do_some de_int) do_none)) da_nil)))))))
      (dss_cons (ds_set (i := 7) sc__law_unlike_right.nd (de_slice (de_tuple T.bis (de_sortSet rfl T.bis.sorted T.bis.set (de_def (dd__law_pick T) (hr.mono (by decide)) hgd tk (da_cons (dv 0) (da_cons (dv 6) da_nil))))) do_none (do_some de_int)))
      (dss_cons (ds_if (DW.dt (dw_and (dt_cmp (op_neD hr.units) lift_ne (dv 7) (dv 1) rfl) (dw_and1 (dt_cmp (op_neNil hr.units0) lift_nil (dv 7) (de_tup da_nil) rfl)))) (dss_cons (ds_set (i := 8) sc__law_unlike_right.nd (de_make T.Table_mk (ok_Table_init T) (hr.mono (by decide)) hgd T.Table.at_ T.Table_init.bd .nil (fun _ => .nil) tk (da_cons (dv 7) (da_cons (dv 5) (da_cons (de_tuple T.bis (de_def (dd__law_lines T) (hr.mono (by decide)) hgd tk (da_cons (dv 0) (da_cons (de_def (dd__law_every T) (hr.mono (by decide)) hgd tk (da_cons (dv 7) (da_cons (dv 5) da_nil))) da_nil)))) da_nil)))))
      (dss_one (ds_for rfl (di_range1 T.bis.range (da_cons de_int da_nil)) (dg_name 9 sc__law_unlike_right.nd) (dss_one (ds_if (dt_cmp (op_neD hr.units) lift_ne (de_def (dd__law_both_words T X) (hr.mono (by decide)) hgd tk (da_cons (dv 4) (da_cons (dv 8) (da_cons (dv 9) da_nil)))) (de_lst (da_cons de_str (da_cons de_str da_nil))) rfl) (dss_one (ds_ret de_bl)) dss_nil)) hp))) dss_nil)
      (dss_cons (ds_if (dt_cmp (op_neD hr.units) lift_ne (dv 5) (dv 2) rfl) (dss_cons (ds_set (i := 8) sc__law_unlike_right.nd (de_make T.Table_mk (ok_Table_init T) (hr.mono (by decide)) hgd T.Table.at_ T.Table_init.bd .nil (fun _ => .nil) tk (da_cons (dv 1) (da_cons (dv 5) (da_cons (de_tuple T.bis (de_def (dd__law_lines T) (hr.mono (by decide)) hgd tk (da_cons (dv 0) (da_cons (de_def (dd__law_every T) (hr.mono (by decide)) hgd tk (da_cons (dv 1) (da_cons (dv 5) da_nil))) da_nil)))) da_nil)))))
      (dss_one (ds_for rfl (di_range1 T.bis.range (da_cons de_int da_nil)) (dg_name 9 sc__law_unlike_right.nd) (dss_one (ds_if (dt_cmp (op_neD hr.units) lift_ne (de_def (dd__law_both_words T X) (hr.mono (by decide)) hgd tk (da_cons (dv 4) (da_cons (dv 8) (da_cons (dv 9) da_nil)))) (de_lst (da_cons de_str (da_cons de_str da_nil))) rfl) (dss_one (ds_ret de_bl)) dss_nil)) hp))) dss_nil)
      (dss_one (ds_ret de_bl))))))), ?_⟩
  intro ds S Q E' ⟨a0, L, k, dom, n, a, e, D0, va, q⟩
  subst e
  clear tk hp hgd hr
  have la := va.len
  have n3 := va.n3
  have l3 := va.l3
  obtain ⟨w0, m0, h0⟩ := head_at (dom3_pw va.d3).2.2.1
  walk_at "st"
  refine mk_table2 va.toTableOk (by omega) fun a1 S3 h1 d1 => ⟨rfl, _, _, h1, ?_⟩
  rw [d1, uniqT_self va.asc, fold_tab]
  clear h1 d1 S3 a1
  walk_at "st"
  refine ⟨a0, L, k + 99, 3, rfl, D0, by decide, by decide, fun i S1 i0 i1 D1 _ => ?_⟩
  obtain ⟨m, hm, m1, m3⟩ : ∃ m : Nat, (1 : Int) + i = m ∧ 1 ≤ m ∧ m ≤ 3 := ⟨(1 + i).toNat, by omega, by omega, by omega⟩
  walk_at "st"
  rw [hm]
  walk_at "st"
  have c1 := cut_len dom (some 1) none
  have c2 := cut_len dom none (some (-1))
  have nw := (name_ok (va.nm w0 m0)).2
  have cs := cutS_length w0 none (some 7)
  rw [cut_map]
  refine s_addT (by rw [sizeLine_eq]; simp only [List.length_map, List.length_cons, List.length_nil]; omega) ?_
  walk_at "st"
  refine s_ixT h0 ?_
  walk_at "st"
  refine ⟨_, rfl, nm_len (va.nm w0 m0), ?_⟩
  walk_at "st"
  refine s_addS (by rw [sizeLine_eq, show (Str.ofString "a").length = 1 from rfl]; omega) ?_
  walk_at "st"
  rw [cut_map]
  refine s_addT (by rw [sizeLine_eq]; simp only [List.length_map, List.length_cons, List.length_nil]; omega) ?_
  walk_at "st"
  have nd1 : ∀ {lo hi : Option Int}, ∀ z ∈ cutD dom lo hi, isNameS z = true := fun {lo hi} z hz => va.nm z (cut_mem hz)
  have nz : isNameS (Str.ofString "zzz") = true := by decide +kernel
  have nq : isNameS (Str.ofString "q") = true := by decide +kernel
  have n7 := cut7_name (va.nm w0 m0)
  refine ⟨a0, L, k + 98, _, _, rfl, .inr rfl, D1, Nat.le_of_ble_eq_true rfl, Nat.le_of_ble_eq_true rfl, fun e S2 he D2 _ => ?_⟩
  have pk : ∃ l : List Str, e = .tup (l.map .str) ∧ l.length ≤ 4 ∧ ∀ z ∈ l, isNameS z = true := by
    simp only [List.mem_cons, List.not_mem_nil, or_false] at he
    rcases he with rfl | rfl | rfl | rfl | rfl
    · refine ⟨dom ++ [Str.ofString "zzz"], by rw [List.map_append]; rfl, by rw [List.length_append, List.length_singleton]; omega, fun z hz => ?_⟩
      rcases List.mem_append.mp hz with hz | hz
      · exact va.nm z hz
      · rw [List.mem_singleton.mp hz]; exact nz
    · exact ⟨cutD dom none (some (-1)), by rw [cut_map], by omega, nd1⟩
    · exact ⟨cutD dom (some 1) none, rfl, by omega, nd1⟩
    · refine ⟨[Str.ofString "q"] ++ cutD dom (some 1) none, by rw [List.map_append]; rfl, by rw [List.length_append, List.length_singleton]; omega, fun z hz => ?_⟩
      rcases List.mem_append.mp hz with hz | hz
      · rw [List.mem_singleton.mp hz]; exact nq
      · exact nd1 z hz
    · refine ⟨[cutS w0 none (some 7) ++ Str.ofString "a"] ++ cutD dom (some 1) none, by rw [List.map_append]; rfl, by rw [List.length_append, List.length_singleton]; omega, fun z hz => ?_⟩
      rcases List.mem_append.mp hz with hz | hz
      · rw [List.mem_singleton.mp hz]; exact n7
      · exact nd1 z hz
  obtain ⟨l, rfl, ll, ln⟩ := pk
  walk_at "st"
  refine ⟨l, rfl, by omega, ?_⟩
  walk_at "sj"
  rw [cut_map D.str (DLS.uniqS l), show cutD (DLS.uniqS l) none (some 3) = (DLS.uniqS l).take 3 from cut_take _ 3]
  generalize ho : (DLS.uniqS l).take 3 = oth
  have on : ∀ z ∈ oth, isNameS z = true := fun z hz => ln z (DLS.uniqS_mem.mp (List.mem_of_mem_take (by rw [ho]; exact hz)))
  have o3 : oth.length ≤ 3 := by rw [← ho, List.length_take]; omega
  have opw : oth.Pairwise (fun a b => DLS.leS a b = true) := by rw [← ho]; exact (DLS.sortS_pw _).sublist (List.take_sublist _ _)
  have ond : oth.Nodup := by rw [← ho]; exact (DLS.uniqS_nodup l).sublist (List.take_sublist _ _)
  clear ho he
  refine e_ifK (fun ρ' S' => ∃ v7 v8 v9 : Option D, ρ' = [some (.ref a0), some (.tup (dom.map .str)), some (.int n), some (.lst (a.map encT)), some (tableD T.Table.C dom n a), some (.int m), v7, some (.tup (oth.map .str)), v8, v9] ∧ Deck S' a0 L (k + 50)) ?_ ?_
  · rintro ρ' S3 ⟨v7, v8, v9, rfl, D3⟩
    walk_at "st"
    refine rdEq_int ?_
    walk_at "sj"
    refine iteB (fun h => ?_) fun h => ?_
    · have h : ¬ (m : Int) = (n : Int) := by simpa using h
      walk_at "sf"
      refine ⟨dom, m, rfl, l3, by omega, ?_⟩
      walk_at "sf"
      refine lines_ok (k := k + 10) (D3.mono (by omega)) va.d3 va.nm m3 fun b S4 sub D4 => ?_
      have vb : TabV dom m b := .of_sub va.d3 va.nm m1 m3 sub
      have lb := vb.len
      walk_at "sf"
      refine mk_table2 vb.toTableOk (by omega) fun a1 S7 h1 d1 => ⟨rfl, _, _, h1, ?_⟩
      rw [d1, uniqT_self vb.asc, fold_tab]
      clear h1 d1 S7 a1
      walk_at "sf"
      refine s_it1i (by omega) (by omega) ?_
      refine e_forR (n := 3) (fun j ρ S' => (∃ v6 v9 : Option D, ρ = [some (.ref a0), some (.tup (dom.map .str)), some (.int n), some (.lst (a.map encT)), some (tableD T.Table.C dom n a), some (.int m), v6, some (.tup (oth.map .str)), some (tableD T.Table.C dom m b), v9]) ∧ Deck S' a0 L (k + 10)) ?_ ?_ ⟨⟨_, _, rfl⟩, D4⟩
      · rintro ρ S5 ⟨⟨v6, v9, rfl⟩, D5⟩
        walk_at "st"
        exact q S5 (D5.mono (by omega))
      · rintro J2 j hj ih ρ S5 ⟨⟨v6, v9, rfl⟩, D5⟩
        walk_at "st"
        refine ⟨dom, n, a, dom, m, b, j, _, rfl, va, vb, word_wid (fun e => h (by rw [e])) hj, word_wid (fun e => h (by rw [e])) hj, fun S6 ext => ?_⟩
        walk_at "st"
        refine s_unl ?_
        walk_at "st"
        exact ih _ _ ⟨⟨_, _, rfl⟩, ext_deck ext D5⟩
    · walk_at "st"
      exact q S3 (D3.mono (by omega))
  · intro J hJ
    walk_at "st"
    refine s_eqTS (fun z hz => (name_ok (on z hz)).1) (fun z hz => (name_ok (va.nm z hz)).1) ?_
    walk_at "sj"
    refine iteB (fun h => ?_) fun h => ?_
    · have h : ¬ oth = dom := by simpa using h
      walk_at "sj"
      refine iteB (fun g => ?_) fun g => ?_
      · have g : oth ≠ [] := fun e => by rw [e] at g; cases g
        have od : Dom3 oth := dom3_of (List.length_pos_iff.mpr g) o3 opw ond
        walk_at "sf"
        refine ⟨oth, m, rfl, o3, by omega, ?_⟩
        walk_at "sf"
        refine lines_ok (k := k + 50) (D2.mono (by omega)) od on m3 fun b S4 sub D4 => ?_
        have vb : TabV oth m b := .of_sub od on m1 m3 sub
        have lb := vb.len
        walk_at "sf"
        refine mk_table2 vb.toTableOk (by omega) fun a1 S7 h1 d1 => ⟨rfl, _, _, h1, ?_⟩
        rw [d1, uniqT_self vb.asc, fold_tab]
        clear h1 d1 S7 a1
        walk_at "sf"
        refine s_it1i (by omega) (by omega) ?_
        refine e_forR (n := 4) (fun j ρ S' => (∃ v6 v9 : Option D, ρ = [some (.ref a0), some (.tup (dom.map .str)), some (.int n), some (.lst (a.map encT)), some (tableD T.Table.C dom n a), some (.int m), v6, some (.tup (oth.map .str)), some (tableD T.Table.C oth m b), v9]) ∧ Deck S' a0 L (k + 50)) ?_ ?_ ⟨⟨_, _, rfl⟩, D4⟩
        · rintro ρ S5 ⟨⟨v6, v9, rfl⟩, D5⟩
          exact hJ _ _ ⟨_, _, _, rfl, D5⟩
        · rintro J2 j hj ih ρ S5 ⟨⟨v6, v9, rfl⟩, D5⟩
          walk_at "st"
          refine ⟨dom, n, a, oth, m, b, j, _, rfl, va, vb, word_dom (Ne.symm h) hj, word_dom h hj, fun S6 ext => ?_⟩
          walk_at "st"
          refine s_unl ?_
          walk_at "st"
          exact ih _ _ ⟨⟨_, _, rfl⟩, ext_deck ext D5⟩
      · walk_at "st"
        exact hJ _ _ ⟨_, _, _, rfl, D2.mono (by omega)⟩
    · walk_at "st"
      exact hJ _ _ ⟨_, _, _, rfl, D2.mono (by omega)⟩
theorem dd__law_unlike_right (T : Facts P K mg) (X : Xtr3 T) : DefD P w K mg base 8 "_law_unlike_right" ["_law_deck_here", "_law_words_here", "_law_size", "_law_a"] dspTimesR T._law_unlike_right.f T._law_unlike_right.fd := .of T._law_unlike_right (ok__law_unlike_right T X)


end
end K03

set_option maxRecDepth 100000
set_option maxHeartbeats 4000000
namespace K03
open PySem PySem.Spec L2 DL
section
variable {P : Program} {w : World} {K : PySem.W.Frag} {mg : Str → Option Value} {base : Heap}
theorem sc_law : FnScope ["_law_script", "_law_deck_here", "_law_turn", "_law_words_here", "_law_size", "_law_every_here", "_law_a", "_law_b", "_law_gone", "_law_row"] ["_law_script"] (defScope sLaw) := ⟨rfl, rfl, rfl, by decide +kernel, rfl, by decide +kernel, by decide +kernel⟩
theorem ok_law (T : Facts P K mg) (X : Xtr3 T) : FnD P w K mg base 9 T.law.f T.law.fd ["_law_script"] dspLaw := by
  refine fn_ofE (k := 8) T.law.F sc_law (fun ds S Q E ⟨ns, e, _⟩ => by subst e; rfl) fun cdv A outer s H E hr hgd tk hp => ?_
  refine ⟨_, (dss_cons (ds_set (i := 1) sc_law.nd (de_def (dd__law_deck T) (hr.mono (by decide)) hgd tk (da_cons (dv 0) da_nil)))
      (dss_cons (ds_for rfl (di_range1 T.bis.range (da_cons de_int da_nil)) (dg_name 2 sc_law.nd) (dss_cons (ds_set (i := 3) sc_law.nd (de_def (dd__law_words T) (hr.mono (by decide)) hgd tk (da_cons (dv 1) (da_cons (de_op or_add lift_add de_int (de_def (dd__law_draw T) (hr.mono (by decide)) hgd tk (da_cons (dv 1) (da_cons de_int da_nil)))) da_nil))))
      (dss_cons (ds_set (i := 4) sc_law.nd (de_op or_add lift_add de_int (de_def (dd__law_draw T) (hr.mono (by decide)) hgd tk (da_cons (dv 1) (da_cons de_int da_nil)))))
      (dss_cons (ds_set (i := 5) sc_law.nd (de_def (dd__law_every T) (hr.mono (by decide)) hgd tk (da_cons (dv 3) (da_cons (dv 4) da_nil))))
      (dss_cons (ds_par (i := 6) (j := 7) rfl sc_law.nd (da_cons (de_def (dd__law_lines T) (hr.mono (by decide)) hgd tk (da_cons (dv 1) (da_cons (dv 5) da_nil))) (da_cons (de_def (dd__law_lines T) (hr.mono (by decide)) hgd tk (da_cons (dv 1) (da_cons (dv 5) da_nil))) da_nil)) (by rfl))
      (dss_cons (ds_set (i := 8) sc_law.nd (de_def (dd__law_pick T) (hr.mono (by decide)) hgd tk (da_cons (dv 1) (da_cons (dv 5) da_nil))))
      (dss_cons (ds_if (dt_cmp (op_eqD hr.units) lift_eq (de_def (dd__law_draw T) (hr.mono (by decide)) hgd tk (da_cons (dv 1) (da_cons de_int da_nil))) de_int rfl) (dss_one (ds_setLc (own := [("_law_row", 9)]) (i := 7) rfl sc_law.nd (sw_true rfl rfl rfl (by decide +kernel)) (di_list (dv 6)) (⟨rfl, by decide +kernel, by decide +kernel, by decide +kernel, by decide +kernel⟩ : BlkOk ["_law_script", "_law_deck_here", "_law_turn", "_law_words_here", "_law_size", "_law_every_here", "_law_a", "_law_b", "_law_gone", "_law_row"] (defScope sLaw) _ [("_law_row", 9)]) (fun s H C cl fp => (dg_name 9 sc_law.nd)) (fun s H C cl fp => (dts_one (dt_cmp (op_neD hr.units) lift_ne (dv 9) (dv 8) rfl)))
        (fun s H C cl fp => (dv 9)))) dss_nil)
      (dss_cons (ds_if (dt_not (dt_val (de_def (dd__law_alike_right T) (hr.mono (by decide)) hgd tk (da_cons (dv 3) (da_cons (dv 4) (da_cons (dv 6) (da_cons (dv 7) da_nil))))))) (dss_one (ds_ret de_bl)) dss_nil)
      (dss_cons (ds_if (dt_not (dt_val (de_def (dd__law_times_right T X) (hr.mono (by decide)) hgd tk (da_cons (dv 1) (da_cons (dv 3) (da_cons (dv 4) (da_cons (dv 6) da_nil))))))) (dss_one (ds_ret de_bl)) dss_nil)
      (dss_one (ds_if (dt_not (dt_val (de_def (dd__law_unlike_right T X) (hr.mono (by decide)) hgd tk (da_cons (dv 1) (da_cons (dv 3) (da_cons (dv 4) (da_cons (dv 6) da_nil))))))) (dss_one (ds_ret de_bl)) dss_nil)))))))))) hp)
      (dss_one (ds_ret de_bl)))), ?_⟩
  intro ds S Q E' ⟨ns, e, hn, hb, em, q⟩
  subst e
  clear tk hp hgd hr
  walk_at "sf"
  refine ⟨ns, rfl, hn, em, fun a0 L S1 D1 _ => ?_⟩
  walk_at "sf"
  refine s_it1i (by omega) (by omega) ?_
  refine e_forR (n := 8) (fun j ρ S' => ∃ v2 v3 v4 v5 v6 v7 v8 v9 : Option D, ρ = [some (.scr (ns.map .int)), some (.ref a0), v2, v3, v4, v5, v6, v7, v8, v9] ∧ Deck S' a0 L (500 * (8 - j))) ?_ ?_ ⟨none, none, none, none, none, none, none, none, rfl, D1.mono (by omega)⟩
  · rintro ρ S' ⟨v2, v3, v4, v5, v6, v7, v8, v9, rfl, D'⟩
    walk_at "st"
    exact q _
  · rintro J j hj ih ρ S' ⟨v2, v3, v4, v5, v6, v7, v8, v9, rfl, D'⟩
    replace D' := D'.mono (j := 500 * (8 - (j + 1)) + 500) (by omega)
    generalize 500 * (8 - (j + 1)) = k at ih D'
    walk_at "st"
    refine ⟨a0, L, k + 499, 3, rfl, D', by decide, by decide, fun i S2 i0 i1 D2 _ => ?_⟩
    walk_at "st"
    refine ⟨a0, L, k + 490, 1 + i, rfl, D2.mono (by omega), by omega, by omega, fun dom S3 dl nm pw nd D3 => ?_⟩
    have d3 : Dom3 dom := dom3_of (by omega) (by omega) pw nd
    obtain ⟨_, _, l1, l3⟩ := dom3_pw d3
    walk_at "st"
    refine ⟨a0, L, k + 489, 3, rfl, D3, by decide, by decide, fun i2 S4 i20 i21 D4 _ => ?_⟩
    obtain ⟨n, hn2, n1, n3⟩ : ∃ n : Nat, (1 : Int) + i2 = n ∧ 1 ≤ n ∧ n ≤ 3 := ⟨(1 + i2).toNat, by omega, by omega, by omega⟩
    walk_at "st"
    rw [hn2]
    walk_at "st"
    refine ⟨dom, n, rfl, l3, by omega, ?_⟩
    walk_at "st"
    refine lines_ok (k := k + 440) (D4.mono (by omega)) d3 nm n3 fun a S5 sa D5 => ?_
    walk_at "st"
    refine lines_ok (k := k + 400) (D5.mono (by omega)) d3 nm n3 fun b S6 sb D6 => ?_
    have va : TabV dom n a := .of_sub d3 nm n1 n3 sa
    have vb : TabV dom n b := .of_sub d3 nm n1 n3 sb
    have ve := va.all
    have le := ve.len
    have la := va.len
    have lp := rows_pos l1 n
    walk_at "st"
    refine ⟨a0, L, k + 399, _, _, rfl, .inr rfl, D6, by rw [List.length_map]; omega, by rw [List.length_map]; omega, fun e S7 he D7 _ => ?_⟩
    obtain ⟨gone, hg, rfl⟩ := List.mem_map.mp he
    walk_at "sj"
    refine e_ifK (fun ρ' S' => ∃ (c : List (List Str)) (v9 : Option D), TabV dom n c ∧ ρ' = [some (.scr (ns.map .int)), some (.ref a0), some (.int j), some (.tup (dom.map .str)), some (.int n), some (.lst ((rowsS dom n).map encT)), some (.lst (a.map encT)), some (.lst (c.map encT)), some (encT gone), v9] ∧ Deck S' a0 L (k + 398)) ?_ ?_
    · rintro ρ' S9 ⟨c, v9, vc, rfl, D9⟩
      walk_at "st"
      refine ⟨dom, n, a, c, rfl, va, vc, ?_⟩
      walk_at "st"
      refine ⟨a0, L, k + 200, dom, n, a, rfl, D9.mono (by omega), va, fun S10 D10 => ?_⟩
      walk_at "st"
      refine ⟨a0, L, k, dom, n, a, rfl, D10.mono (by omega), va, fun S11 D11 => ?_⟩
      walk_at "st"
      exact ih _ _ ⟨_, _, _, _, _, _, _, _, rfl, D11⟩
    · intro J2 hJ
      walk_at "st"
      refine ⟨a0, L, k + 398, 4, rfl, D7, by decide, by decide, fun i3 S8 i30 i31 D8 _ => ?_⟩
      walk_at "st"
      refine rdEq_int ?_
      walk_at "st"
      refine iteB (fun h => ?_) fun h => ?_
      · walk_at "st"
        refine lc_filterM encT (fun r => !decide (r = gone)) a [] (fun r hr => ⟨_, rfl, fun QT qt => ?_, fun R rr => ?_⟩) ?_
        · walk_at "st"
          refine s_eqTS (va.strs r hr) (ve.strs gone hg) ?_
          walk_at "st"
          exact qt
        · walk_at "st"
          exact rr
        · rw [List.nil_append]
          walk_at "st"
          exact hJ _ _ ⟨_, _, va.filt _, rfl, D8.mono (by omega)⟩
      · walk_at "st"
        exact hJ _ _ ⟨b, _, vb, rfl, D8.mono (by omega)⟩

end
end K03

set_option maxRecDepth 100000
namespace K03
open PySem PySem.Spec L2 DL
def top_level : Nat := 9
theorem fin {P : Program} {w : World} {K : PySem.W.Frag} {mg : Str → Option Value} {fa : Addr}  (hmg : mg "law" = some (.ref fa)) (T : Facts P K mg) (X : Xtr3 T) :
    ∃ fd : FuncData, (∀ (s : Shared) (u : Value), BindsTo s fd ⟨[u], []⟩ [("_law_script", u)]) ∧ ∀ base : Heap, K.In base → base.Ns mainGlobals mg → FnD P w K mg base top_level fa fd ["_law_script"] dspLaw := by
  have e := T.law.at_.symm.trans hmg
  have e : T.law.f = fa := by injection e with e; injection e
  subst e
  exact ⟨T.law.fd, fun s u => T.law.bu s [u] rfl, fun base _ _ => ok_law T X⟩
end K03
open PySem PySem.W PyProof.Rows in
set_option maxRecDepth 100000 in
set_option maxHeartbeats 0 in
theorem PySem.Challenge.cw_clashnumber_k03_operators_of_tables_holds : PySem.Challenge.rw_clashnumber_k03_operators_of_tables.Holds := by
  w_on; o_law; k_head; (case hw => w_witness2)
  k_fill
  refine DL.walk_ofD (l := PySem.Challenge.rw_clashnumber_k03_operators_of_tables) (k := K03.top_level) (x := "_law_script") rfl rfl ⟨rfl, by decide, by decide⟩ (fun w h Y => PySem.W.kIn_of Y) ?F
  case F =>
    intro w mg fa h KX G hmg
    refine' K03.fin (P := PySem.Challenge.pw_clashnumber_k03_operators_of_tables) hmg (K03.facts_mk KX G ?z1 ?z2 ?z3 ?z4 ?z5 ?z6 ?z7 ?z8 ?z9 ?z10 ?z11 ?z12 ?z13 ?z14 ?z15 ?z16 ?z17 ?z18 ?z19 ?z20 ?z21 ?z22 ?z23 ?z24 ?z25 ?z26 ?z27 ?z28 ?z29 ?z30 ?z31 ?z32 ?z33 ?z34 ?z35 ?z36 ?z37 ?z38 ?z39 ?z40 ?z41 ?z42 ?z43 ?z44 ?z45 ?z46 ?z47 ?z48 ?z49 ?z50 ?z51 ?z52 ?z53 ?z54 ?z55 ?z56 ?z57 ?z58 ?z59 ?z60 ?z61 ?z62 ?z63 ?z64 ?z65 ?z66 ?z67 ?z68 ?z69 ?z70 ?z71 ?z72 ?z73 ?z74 ?z75 ?z76 ?z77 ?z78 ?z79 ?z80 ?z81 ?z82 ?z83 ?z84 ?z85 ?z86 ?z87 ?z88 ?z89 ?z90 ?z91 ?z92 ?z93 ?z94 ?z95 ?z96 ?z97 ?z98 ?z99 ?z100 ?z101 ?z102 ?z103 ?z104 ?z105 ?z106 ?z107 ?z108 ?z109 ?z110 ?z111 ?z112 ?z113 ?z114 ?z115 ?z116 ?z117 ?z118 ?z119 ?z120 ?z121 ?z122 ?z123 ?z124 ?z125 ?z126 ?z127 ?z128 ?z129 ?z130 ?z131 ?z132 ?z133 ?z134 ?z135 ?z136 ?z137 ?z138 ?z139 ?z140 ?z141 ?z142 ?z143 ?z144 ?z145 ?z146 ?z147 ?z148 ?z149 ?z150 ?z151 ?z152 ?z153 ?z154 ?z155 ?z156 ?z157 ?z158 ?z159 ?z160 ?z161 ?z162 ?z163 ?z164 ?z165 ?z166 ?z167 ?z168 ?z169 ?z170 ?z171 ?z172 ?z173 ?z174 ?z175 ?z176 ?z177 ?z178 ?z179 ?z180 ?z181 ?z182 ?z183 ?z184 ?z185 ?z186 ?z187 ?z188 ?z189 ?z190 ?z191 ?z192 ?z193 ?z194 ?z195 ?z196 ?z197 ?z198 ?z199 ?z200 ?z201 ?z202 ?z203 ?z204 ?z205 ?z206 ?z207 ?z208 ?z209 ?z210 ?z211 ?z212 ?z213 ?z214 ?z215 ?z216 ?z217 ?z218 ?z219 ?z220 ?z221 ?z222 ?z223 ?z224 ?z225) ⟨⟨?i1, ⟨?i2, ?i3, ?i4, ?i5⟩, ?i6, ?i7, ?i8, ?i9⟩, ?n1⟩
    (case z1 => k_is)
    (case z2 => k_is)
    (case z3 => k_is)
    (case z4 => k_is)
    (case z5 => k_is)
    (case z6 => k_is)
    (case z7 => k_is)
    (case z8 => k_is)
    (case z9 => k_is)
    (case z10 => k_is)
    (case z11 => k_is)
    (case z12 => k_is)
    (case z13 => k_is)
    (case z14 => k_is)
    (case z15 => k_is)
    (case z16 => k_is)
    (case z17 => k_is)
    (case z18 => k_is)
    (case z19 => k_is)
    (case z20 => k_is)
    (case z21 => k_is)
    (case z22 => k_is)
    (case z23 => k_is)
    (case z24 => first | rfl | decide +kernel | kernel_rfl)
    (case z25 => k_is)
    (case z26 => k_is)
    (case z27 => k_is)
    (case z28 => k_is)
    (case z29 => k_is)
    (case z30 => k_is)
    (case z31 => k_is)
    (case z32 => k_is)
    (case z33 => k_is)
    (case z34 => k_is)
    (case z35 => k_is)
    (case z36 => first | rfl | exact Eq.refl _)
    (case z37 => first | rfl | decide +kernel)
    (case z38 => ks_is)
    (case z39 => k_is)
    (case z40 => first | rfl | decide +kernel)
    (case z41 => k_is)
    (case z42 => k_is)
    (case z43 => k_is)
    (case z44 => k_is)
    (case z45 => first | k_is | rfl)
    (case z46 => k_is)
    (case z47 => k_is)
    (case z48 => k_is)
    (case z49 => first | rfl | decide +kernel | kernel_rfl)
    (case z50 => k_is)
    (case z51 => k_is)
    (case z52 => k_is)
    (case z53 => k_is)
    (case z54 => k_is)
    (case z55 => k_is)
    (case z56 => k_is)
    (case z57 => k_is)
    (case z58 => k_is)
    (case z59 => k_is)
    (case z60 => k_is)
    (case z61 => first | rfl | exact Eq.refl _)
    (case z62 => first | rfl | decide +kernel)
    (case z63 => ks_is)
    (case z64 => k_is)
    (case z65 => first | rfl | decide +kernel)
    (case z66 => k_is)
    (case z67 => k_is)
    (case z68 => k_is)
    (case z69 => k_is)
    (case z70 => first | k_is | rfl)
    (case z71 => k_is)
    (case z72 => k_is)
    (case z73 => k_is)
    (case z74 => k_is)
    (case z75 => k_is)
    (case z76 => k_is)
    (case z77 => k_is)
    (case z78 => k_is)
    (case z79 => k_is)
    (case z80 => k_is)
    (case z81 => k_is)
    (case z82 => k_is)
    (case z83 => k_is)
    (case z84 => k_is)
    (case z85 => k_is)
    (case z86 => k_is)
    (case z87 => k_is)
    (case z88 => k_is)
    (case z89 => k_is)
    (case z90 => k_is)
    (case z91 => k_is)
    (case z92 => k_is)
    (case z93 => k_is)
    (case z94 => k_is)
    (case z95 => k_is)
    (case z96 => k_is)
    (case z97 => k_is)
    (case z98 => k_is)
    (case z99 => k_is)
    (case z100 => k_is)
    (case z101 => k_is)
    (case z102 => k_is)
    (case z103 => k_is)
    (case z104 => k_is)
    (case z105 => k_is)
    (case z106 => k_is)
    (case z107 => k_is)
    (case z108 => k_is)
    (case z109 => k_is)
    (case z110 => k_is)
    (case z111 => k_is)
    (case z112 => k_is)
    (case z113 => k_is)
    (case z114 => k_is)
    (case z115 => k_is)
    (case z116 => k_is)
    (case z117 => k_is)
    (case z118 => k_is)
    (case z119 => k_is)
    (case z120 => k_is)
    (case z121 => k_is)
    (case z122 => k_is)
    (case z123 => k_is)
    (case z124 => k_is)
    (case z125 => k_is)
    (case z126 => k_is)
    (case z127 => k_is)
    (case z128 => k_is)
    (case z129 => k_is)
    (case z130 => k_is)
    (case z131 => k_is)
    (case z132 => k_is)
    (case z133 => k_is)
    (case z134 => k_is)
    (case z135 => k_is)
    (case z136 => k_is)
    (case z137 => k_is)
    (case z138 => k_is)
    (case z139 => k_is)
    (case z140 => k_is)
    (case z141 => k_is)
    (case z142 => k_is)
    (case z143 => k_is)
    (case z144 => k_is)
    (case z145 => k_is)
    (case z146 => k_is)
    (case z147 => k_is)
    (case z148 => k_is)
    (case z149 => k_is)
    (case z150 => k_is)
    (case z151 => k_is)
    (case z152 => k_is)
    (case z153 => k_is)
    (case z154 => k_is)
    (case z155 => k_is)
    (case z156 => k_is)
    (case z157 => k_is)
    (case z158 => k_is)
    (case z159 => k_is)
    (case z160 => k_is)
    (case z161 => k_is)
    (case z162 => k_is)
    (case z163 => k_is)
    (case z164 => k_is)
    (case z165 => k_is)
    (case z166 => k_is)
    (case z167 => k_is)
    (case z168 => k_is)
    (case z169 => k_is)
    (case z170 => k_is)
    (case z171 => k_is)
    (case z172 => k_is)
    (case z173 => k_is)
    (case z174 => k_is)
    (case z175 => k_is)
    (case z176 => k_is)
    (case z177 => k_is)
    (case z178 => k_is)
    (case z179 => k_is)
    (case z180 => k_is)
    (case z181 => k_is)
    (case z182 => k_is)
    (case z183 => k_is)
    (case z184 => k_is)
    (case z185 => k_is)
    (case z186 => k_is)
    (case z187 => k_is)
    (case z188 => k_is)
    (case z189 => k_is)
    (case z190 => k_is)
    (case z191 => k_is)
    (case z192 => k_is)
    (case z193 => k_is)
    (case z194 => k_is)
    (case z195 => k_is)
    (case z196 => k_is)
    (case z197 => k_is)
    (case z198 => k_is)
    (case z199 => k_is)
    (case z200 => k_is)
    (case z201 => k_is)
    (case z202 => k_is)
    (case z203 => k_is)
    (case z204 => k_is)
    (case z205 => k_is)
    (case z206 => k_is)
    (case z207 => k_is)
    (case z208 => k_is)
    (case z209 => k_is)
    (case z210 => k_is)
    (case z211 => k_is)
    (case z212 => k_is)
    (case z213 => k_is)
    (case z214 => k_is)
    (case z215 => k_is)
    (case z216 => k_is)
    (case z217 => k_is)
    (case z218 => k_is)
    (case z219 => k_is)
    (case z220 => k_is)
    (case z221 => k_is)
    (case z222 => k_is)
    (case z223 => k_is)
    (case z224 => k_is)
    (case z225 => k_is)
    (case i1 => first | k_is | rfl | (with_unfolding_all rfl) | decide +kernel | kernel_rfl)
    (case i2 => first | k_is | rfl | (with_unfolding_all rfl) | decide +kernel | kernel_rfl)
    (case i3 => first | k_is | rfl | (with_unfolding_all rfl) | decide +kernel | kernel_rfl)
    (case i4 => first | k_is | rfl | (with_unfolding_all rfl) | decide +kernel | kernel_rfl)
    (case i5 => first | k_is | rfl | (with_unfolding_all rfl) | decide +kernel | kernel_rfl)
    (case i6 => first | k_is | rfl | (with_unfolding_all rfl) | decide +kernel | kernel_rfl)
    (case i7 => first | k_is | rfl | (with_unfolding_all rfl) | decide +kernel | kernel_rfl)
    (case i8 => first | k_is | rfl | (with_unfolding_all rfl) | decide +kernel | kernel_rfl)
    (case i9 => first | k_is | rfl | (with_unfolding_all rfl) | decide +kernel | kernel_rfl)
    (case n1 => first | k_is | rfl | (with_unfolding_all rfl) | decide +kernel | kernel_rfl)
