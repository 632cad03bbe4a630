import PyProof.Rows.All
import Wide.All
import OpenK.AllK
import Wide.FinOn
import HandS.ForMost
import HandS.ForExc
import HandS.Exc
import HandS.ExcValue
import HandS.Lambda
import HandS.Deep
import HandS.TupAny
import HandS.TupMul
import HandS.IsInst
import HandS.CallSlots
import HandS.ExcCtx
import HandS.Dict
import HandS.Conv
import HandS.Iter
import KE.KSuper
import KE.KExcInit
import HandS.ExcSuper
import HandS.ExcField
import HandS.TryMany
import HandS.ExcInit
import HandS.RaiseMore
import KE.SortData
import KE.SortKeyHeap
import HandS.Zip
import KE.KDictZip
import HandS.Set
import HandS.SetFor
import PyProof.Rows.SortStr
import PyProof.SetKind
import HandS.TupSets
import HandS.Star
import HandS.ClsMeth
import HandS.OwnEq
import HandS.Ends
import HandS.EndBits
import KE.KNestM
import PyProof.Rows.SeqGen
import HandS.AnyAll
import KE.RegKSuper
import PyProof.FitsInt
import PyProof.StrLawsRepr
import PyProof.Rows.RegStrFacts
import PyProof.NeKinds
import HandS.Style
import KE.KRevSl
import HandS.Comp
import HandS.Walk
import HandS.ReCall
import HandS.MakeKwOnly
import PyProof.ReprRoads
import KE.KExcIs
import HandS.SetBool
import HandS.Text
import HandS.Defaults
import OpenK.KOps
import HandS.Strs
import HandS.ListItems
import HandS.WordsDict
import HandS.DictComp
import KE.KUnpack
import PyProof.CollectIter
import HandS.More
import HandS.SuiteRaise
import HandS.RaiseFrom
import KE.GoesRaise
import HandS.TryOnly
import HandS.TupLe
import HandS.Flt
import KE.KeyNested
import PyProof.ListStr
import PyProof.EqKinds
import PyProof.FactsAll.dict
import PyProof.DictUpdate
import PyProof.FString5
import KE.DataCmp
import KE.GoesMore
import KE.KDictList
import KE.KDictWalk
import PySem.Challenge.RW_clashnumber_k30_votes_called
set_option Elab.async false
set_option linter.all false
set_option maxRecDepth 100000
/-! DL: values as trees, over the hand layer. A value is a tree D (tuples, lists, dicts, instances that are never written again are part of the tree);
what is still written stands in a store S. up T is the hand layer's reading of a transformer T over such trees. -/
namespace DL
open PySem PySem.Spec PyProof.Rows L2

inductive D where
  | non | bl (b : Bool) | int (i : Int) | str (x : Str) | ty (n : String) | ref (a : Addr)
  | tup (ds : List D) | kup (ds : List D) | ctp (ds : List D) | lst (ds : List D) | scr (ds : List D)
  | dK (ks : List Key) (ds : List D) | dT (ks : List (List Key)) (ds : List D) | kdK (ks : List Key) (ds : List D) | dX (hf : List Key → Int) (ks : List (List Key)) (ds : List D)
  | obj (C : Addr) (ns : List Str) (ds : List D) | exc (C : Addr) (ns : List Str) (ds : List D)
/-- what stands in the store -/
inductive M where
  | lst (ds : List D) | dK (ks : List Key) (ds : List D) | dT (ks : List (List Key)) (ds : List D) | dX (a : Addr) (hf : List Key → Int) (ks : List (List Key)) (ds : List D) | ins (C : Addr) (ns : List Str) (ds : List D) | xd (ns : List Str) (ds : List D)
abbrev Store := Addr → Option M
def put (S : Store) (a : Addr) (m : M) : Store := fun b => if b = a then some m else S b
def del (S : Store) (a : Addr) : Store := fun b => if b = a then none else S b
theorem put_same {S : Store} {a : Addr} {m : M} : put S a m a = some m := if_pos rfl
theorem put_ne {S : Store} {a b : Addr} {m : M} (h : b ≠ a) : put S a m b = S b := if_neg h
theorem del_same {S : Store} {a : Addr} : del S a a = none := if_pos rfl
theorem del_ne {S : Store} {a b : Addr} (h : b ≠ a) : del S a b = S b := if_neg h

/-- a dict at a whose keys are known tuples: its entries -/
def DictX (hf : List Key → Int) (a : Addr) (xs : List (List Key × Addr × Value)) : HO := .ext fun h => ∃ o es ep, h.get? a = some o ∧ o.ExactDict ∧ o.data = .dict es ep ∧ es.toList = xs.map (fun x => (⟨hf x.1, .ref x.2.1, x.2.2⟩ : DictEntry)) ∧ (xs.map (·.1)).Nodup ∧ xs.length ≤ sizeLine ∧ (a == sysModules) = false
/-- its keys are frozen -/
def KX (F : Hp) (kvs : List (List Key × V)) (xs : List (List Key × Addr × Value)) : Prop := Paired (fun (p : List Key × V) (q : List Key × Addr × Value) => p.1 = q.1 ∧ (∃ o, F q.2.1 = some (.frz o (.tup (p.1.map kV))) ∧ o.dict = none) ∧ RelV p.2 q.2.2) kvs xs
theorem KX.up {F F' : Hp} (s : Same F F') {kvs : List (List Key × V)} {xs : List (List Key × Addr × Value)} (h : KX F kvs xs) : KX F' kvs xs := Paired.mapP h fun p q ⟨h1, ⟨o, h2, h3⟩, h4⟩ => ⟨h1, ⟨o, s _ _ h2, h3⟩, h4⟩
/-- an own exception at a, not raised, its dict at d -/
def ExW (C d a : Addr) : HO := .ext fun h => ∃ (oe : Obj) (vs : Array Value), h.get? a = some oe ∧ Zc (.ref C) (some d) oe ∧ oe.data = .fields vs
/-- what isinstance asks of an own class -/
structure ClsTy (K : PySem.W.Frag) (C : Addr) : Prop where
  cl : Cls K C
  at_ : PySem.W.findIn K (.ref C) "__class__" = some (some (.builtin "object.__class__"))
  get : PySem.W.specialIn K (.builtin "object.__class__") "__get__" = some (some (.builtin "getset_descriptor.__get__"))
  tk : PySem.W.takesIn K (.builtin "object.__class__") = some true
  mro : PySem.W.mroIn K C (.type "object") = some true
/-- no built-in type of data is behind the class -/
structure ClsV (K : PySem.W.Frag) (C : Addr) : Prop where
  ty : ClsTy K C
  no : ((["bool", "int", "str", "tuple", "list", "dict"] : List String).all fun n => decide (PySem.W.kitOne K (.ref C) (.type n) = some false)) = true
mutual
inductive IsV (K : PySem.W.Frag) (F : Hp) : D → V → Prop
  | non : IsV K F .non .non
  | bl (b : Bool) : IsV K F (.bl b) (.bl b)
  | int (i : Int) : IsV K F (.int i) (.int i)
  | str (x : Str) : IsV K F (.str x) (.str x)
  | ty (n : String) : IsV K F (.ty n) (.ty n)
  | ref (a : Addr) : IsV K F (.ref a) (.ref a)
  | tup {a : Addr} {vs : List V} {ds : List D} : F a = some (.tup vs) → IsVs K F ds vs → IsV K F (.tup ds) (.ref a)
  | kup {a : Addr} {o : Obj} {vs : List V} {ds : List D} : F a = some (.frz o (.tup vs)) → o.dict = none → IsVs K F ds vs → IsV K F (.kup ds) (.ref a)
  | ctp {a : Addr} {vs : List V} {ds : List D} : SqT K F a vs → IsVs K F ds vs → IsV K F (.ctp ds) (.ref a)
  | lst {a : Addr} {vs : List V} {ds : List D} : F a = some (.lst vs) → IsVs K F ds vs → IsV K F (.lst ds) (.ref a)
  | scr {a : Addr} {vs : List V} {ds : List D} : SqL K F a vs → IsVs K F ds vs → IsV K F (.scr ds) (.ref a)
  | dK {a : Addr} {kvs : List (Key × V)} {ks : List Key} {ds : List D} : F a = some (.dK kvs) → kvs.map (·.1) = ks → IsVs K F ds (kvs.map (·.2)) → IsV K F (.dK ks ds) (.ref a)
  | dT {a : Addr} {kvs : List (List Key × V)} {ks : List (List Key)} {ds : List D} : F a = some (.dT kvs) → kvs.map (·.1) = ks → IsVs K F ds (kvs.map (·.2)) → IsV K F (.dT ks ds) (.ref a)
  | kdK {a : Addr} {o : Obj} {kvs : List (Key × V)} {ks : List Key} {ds : List D} : F a = some (.frz o (.dK kvs)) → kvs.map (·.1) = ks → IsVs K F ds (kvs.map (·.2)) → IsV K F (.kdK ks ds) (.ref a)
  | dX {hf : List Key → Int} {a : Addr} {o : Obj} {kvs : List (List Key × V)} {xs : List (List Key × Addr × Value)} {ks : List (List Key)} {ds : List D} : F a = some (.frz o (DictX hf a xs)) → KX F kvs xs → kvs.map (·.1) = ks → IsVs K F ds (kvs.map (·.2)) → IsV K F (.dX hf ks ds) (.ref a)
  | obj {a C dx : Addr} {fs : List (Str × V)} {ns : List Str} {ds : List D} : ClsV K C → F a = some (.ins C dx fs) → fs.map (·.1) = ns → IsVs K F ds (fs.map (·.2)) → IsV K F (.obj C ns ds) (.ref a)
  | exc {a C d : Addr} {fs : List (Str × V)} {ns : List Str} {ds : List D} : F a = some (ExW C d a) → F d = some (.xd fs) → fs.map (·.1) = ns → IsVs K F ds (fs.map (·.2)) → IsV K F (.exc C ns ds) (.ref a)
  | exc0 {a C : Addr} : F a = some (ExO (.ref C) a) → IsV K F (.exc C [] []) (.ref a)
inductive IsVs (K : PySem.W.Frag) (F : Hp) : List D → List V → Prop
  | nil : IsVs K F [] []
  | cons {d : D} {v : V} {ds : List D} {vs : List V} : IsV K F d v → IsVs K F ds vs → IsVs K F (d :: ds) (v :: vs)
end

theorem Same.sqt {K : PySem.W.Frag} {F F' : Hp} (s : Same F F') {a : Addr} {xs : List V} (h : SqT K F a xs) : SqT K F' a xs := by
  rcases h with (h | ⟨o, h⟩) | h
  · exact .inl (.inl (s _ _ h))
  · exact .inl (.inr ⟨o, s _ _ h⟩)
  · exact .inr h

section
variable {K : PySem.W.Frag} {F F' : Hp}
mutual
theorem IsV.mono (s : Same F F') : ∀ (d : D) (v : V), IsV K F d v → IsV K F' d v
  | .non, _, h => by cases h; exact .non
  | .bl b, _, h => by cases h; exact .bl b
  | .int i, _, h => by cases h; exact .int i
  | .str x, _, h => by cases h; exact .str x
  | .ty n, _, h => by cases h; exact .ty n
  | .ref a, _, h => by cases h; exact .ref a
  | .tup ds, _, h => by
    cases h with
    | tup h1 h2 => exact .tup (s _ _ h1) (IsVs.mono s ds _ h2)
  | .kup ds, _, h => by
    cases h with
    | kup h1 h0 h2 => exact .kup (s _ _ h1) h0 (IsVs.mono s ds _ h2)
  | .ctp ds, _, h => by
    cases h with
    | ctp h1 h2 => exact .ctp (Same.sqt s h1) (IsVs.mono s ds _ h2)
  | .lst ds, _, h => by
    cases h with
    | lst h1 h2 => exact .lst (s _ _ h1) (IsVs.mono s ds _ h2)
  | .scr ds, _, h => by
    cases h with
    | scr h1 h2 => exact .scr (s.seq h1) (IsVs.mono s ds _ h2)
  | .dK ks ds, _, h => by
    cases h with
    | dK h1 h2 h3 => exact .dK (s _ _ h1) h2 (IsVs.mono s ds _ h3)
  | .dT ks ds, _, h => by
    cases h with
    | dT h1 h2 h3 => exact .dT (s _ _ h1) h2 (IsVs.mono s ds _ h3)
  | .kdK ks ds, _, h => by
    cases h with
    | kdK h1 h2 h3 => exact .kdK (s _ _ h1) h2 (IsVs.mono s ds _ h3)
  | .dX hf ks ds, _, h => by
    cases h with
    | dX h1 h0 h2 h3 => exact .dX (s _ _ h1) (h0.up s) h2 (IsVs.mono s ds _ h3)
  | .obj C ns ds, _, h => by
    cases h with
    | obj h0 h1 h2 h3 => exact .obj h0 (s _ _ h1) h2 (IsVs.mono s ds _ h3)
  | .exc C ns ds, _, h => by
    cases h with
    | exc h1 h0 h2 h3 => exact .exc (s _ _ h1) (s _ _ h0) h2 (IsVs.mono s ds _ h3)
    | exc0 h1 => exact .exc0 (s _ _ h1)
theorem IsVs.mono (s : Same F F') : ∀ (ds : List D) (vs : List V), IsVs K F ds vs → IsVs K F' ds vs
  | [], _, h => by cases h; exact .nil
  | d :: ds, _, h => by
    cases h with
    | cons h1 h2 => exact .cons (IsV.mono s d _ h1) (IsVs.mono s ds _ h2)
end
theorem IsV.up (s : Same F F') {d : D} {v : V} (h : IsV K F d v) : IsV K F' d v := IsV.mono s d v h
theorem IsVs.up (s : Same F F') {d : List D} {v : List V} (h : IsVs K F d v) : IsVs K F' d v := IsVs.mono s d v h
theorem IsVs.length : ∀ {ds : List D} {vs : List V}, IsVs K F ds vs → ds.length = vs.length
  | _, _, .nil => rfl
  | _, _, .cons _ h => congrArg (· + 1) (IsVs.length h)
theorem IsVs.get : ∀ {ds : List D} {vs : List V} {i : Nat} {d : D}, IsVs K F ds vs → ds[i]? = some d → ∃ v, vs[i]? = some v ∧ IsV K F d v
  | _, _, _, _, .nil, e => by simp at e
  | _, _, 0, _, .cons h _, e => by simp at e; subst e; exact ⟨_, rfl, h⟩
  | _, _, i + 1, _, .cons _ h, e => by
    obtain ⟨v, h1, h2⟩ := IsVs.get (i := i) h (by simpa using e)
    exact ⟨v, by simpa using h1, h2⟩
theorem IsVs.getV : ∀ {ds : List D} {vs : List V} {i : Nat} {v : V}, IsVs K F ds vs → vs[i]? = some v → ∃ d, ds[i]? = some d ∧ IsV K F d v
  | _, _, _, _, .nil, e => by simp at e
  | _, _, 0, _, .cons h _, e => by simp at e; subst e; exact ⟨_, rfl, h⟩
  | _, _, i + 1, _, .cons _ h, e => by
    obtain ⟨v, h1, h2⟩ := IsVs.getV (i := i) h (by simpa using e)
    exact ⟨v, by simpa using h1, h2⟩
theorem IsVs.append : ∀ {ds es : List D} {vs ws : List V}, IsVs K F ds vs → IsVs K F es ws → IsVs K F (ds ++ es) (vs ++ ws)
  | _, _, _, _, .nil, h => h
  | _, _, _, _, .cons a b, h => .cons a (IsVs.append b h)
theorem IsVs.take : ∀ {ds : List D} {vs : List V} (n : Nat), IsVs K F ds vs → IsVs K F (ds.take n) (vs.take n)
  | _, _, 0, _ => .nil
  | _, _, _ + 1, .nil => .nil
  | _, _, n + 1, .cons a b => .cons a (IsVs.take n b)
theorem IsVs.drop : ∀ {ds : List D} {vs : List V} (n : Nat), IsVs K F ds vs → IsVs K F (ds.drop n) (vs.drop n)
  | _, _, 0, h => h
  | _, _, _ + 1, .nil => .nil
  | _, _, n + 1, .cons _ b => IsVs.drop n b
theorem IsVs.reverse {ds : List D} {vs : List V} (h : IsVs K F ds vs) : IsVs K F ds.reverse vs.reverse := by
  induction h using IsVs.rec (motive_1 := fun _ _ _ => True) with
  | nil => exact .nil
  | cons h1 h2 _ ih =>
    rw [List.reverse_cons, List.reverse_cons]
    exact ih.append (.cons h1 .nil)
  | _ => trivial
theorem IsVs.eraseIdx : ∀ {ds : List D} {vs : List V} (n : Nat), IsVs K F ds vs → IsVs K F (ds.eraseIdx n) (vs.eraseIdx n)
  | _, _, _, .nil => .nil
  | _, _, 0, .cons _ b => b
  | _, _, n + 1, .cons a b => .cons a (IsVs.eraseIdx n b)
theorem IsVs.set {d : D} {v : V} (r : IsV K F d v) : ∀ {ds : List D} {vs : List V} (n : Nat), IsVs K F ds vs → IsVs K F (ds.set n d) (vs.set n v)
  | _, _, _, .nil => .nil
  | _, _, 0, .cons _ b => .cons r b
  | _, _, n + 1, .cons a b => .cons a (IsVs.set r n b)
theorem isVs_ints : ∀ ns : List Int, IsVs K F (ns.map D.int) (ns.map V.int)
  | [] => .nil
  | n :: r => .cons (.int n) (isVs_ints r)
theorem isVs_strs : ∀ ns : List Str, IsVs K F (ns.map D.str) (ns.map V.str)
  | [] => .nil
  | n :: r => .cons (.str n) (isVs_strs r)
theorem isVs_strs_inv : ∀ {ns : List Str} {vs : List V}, IsVs K F (ns.map D.str) vs → vs = ns.map V.str
  | [], _, h => by cases h; rfl
  | n :: r, _, h => by
    cases h with
    | cons h1 h2 =>
      cases h1
      rw [isVs_strs_inv h2]
      rfl
end

/-- an object of the store -/
def MRel (K : PySem.W.Frag) (F : Hp) : M → HO → Prop
  | .lst ds, o => ∃ vs, o = .lst vs ∧ IsVs K F ds vs
  | .dK ks ds, o => ∃ kvs, o = .dK kvs ∧ kvs.map (·.1) = ks ∧ IsVs K F ds (kvs.map (·.2))
  | .dT ks ds, o => ∃ kvs, o = .dT kvs ∧ kvs.map (·.1) = ks ∧ IsVs K F ds (kvs.map (·.2))
  | .dX a hf ks ds, o => ∃ xs kvs, o = DictX hf a xs ∧ KX F kvs xs ∧ kvs.map (·.1) = ks ∧ IsVs K F ds (kvs.map (·.2))
  | .ins C ns ds, o => ∃ dx fs, o = .ins C dx fs ∧ fs.map (·.1) = ns ∧ IsVs K F ds (fs.map (·.2))
  | .xd ns ds, o => ∃ fs, o = .xd fs ∧ fs.map (·.1) = ns ∧ IsVs K F ds (fs.map (·.2))
theorem MRel.up {K : PySem.W.Frag} {F F' : Hp} (s : Same F F') : ∀ {m : M} {o : HO}, MRel K F m o → MRel K F' m o
  | .lst _, _, ⟨vs, e, h⟩ => ⟨vs, e, h.up s⟩
  | .dK _ _, _, ⟨kvs, e, e2, h⟩ => ⟨kvs, e, e2, h.up s⟩
  | .dT _ _, _, ⟨kvs, e, e2, h⟩ => ⟨kvs, e, e2, h.up s⟩
  | .dX _ _ _ _, _, ⟨xs, kvs, e, e0, e2, h⟩ => ⟨xs, kvs, e, e0.up s, e2, h.up s⟩
  | .ins _ _ _, _, ⟨dx, fs, e, e2, h⟩ => ⟨dx, fs, e, e2, h.up s⟩
  | .xd _ _, _, ⟨fs, e, e2, h⟩ => ⟨fs, e, e2, h.up s⟩

/-- the defs of the text that make lambdas -/
def lamDefs : List Str := ["Book.__init__", "split_place", "least_clashes", "greatest_tables", "greatest_values"]
/-- a def of the text that makes lambdas: its code object's table, the name that a lambda's code object bears -/
def lamOf (K : PySem.W.Frag) : Obj → Option (Addr × Str)
  | ⟨_, _, .func fd, _⟩ => if lamDefs.any (fun x => decide (x = fd.qualname)) = true then (match fd.code with
    | .ref c => (match K.lookup c with
      | some ⟨_, _, .fields vs, _⟩ => (match vs.getD 11 .none with
        | .ref P => some (P, (fd.qualname ++ ".<locals>.") ++ "<lambda>")
        | _ => none)
      | _ => none)
    | _ => none) else none
  | _ => none
def lamTabs (K : PySem.W.Frag) : List (Addr × Str) := K.filterMap fun p => lamOf K p.2
/-- the tables of the defs that make lambdas: each code object that they tell is known, and bears the name -/
def TabR (K : PySem.W.Frag) (Z : Addr → Prop) (H F : Hp) : Prop := ∀ p ∈ lamTabs K, (∃ ps : Array Value, H p.1 = some (.tbl ps) ∧ TriplesOk ps.toList ∧ ∀ (pos : Pos) (cv : Value), codeAmong pos ps.toList = some cv → ∃ c, cv = .ref c ∧ F c = some (LamX.CodeO c p.2)) ∧ F p.1 = none ∧ ¬ Z p.1
theorem TabR.move {K : PySem.W.Frag} {Z Z' : Addr → Prop} {H H' F F' : Hp} (T : TabR K Z H F) (sm : Same F F') (h : ∀ P ps, H P = some (.tbl ps) → F P = none → ¬ Z P → H' P = some (.tbl ps) ∧ F' P = none ∧ ¬ Z' P) : TabR K Z' H' F' := fun p hp => by
  obtain ⟨⟨ps, e, t, k⟩, f, z⟩ := T p hp
  obtain ⟨a, b, c⟩ := h _ _ e f z
  exact ⟨⟨ps, a, t, fun pos cv q => let ⟨c, e1, e2⟩ := k pos cv q; ⟨c, e1, sm _ _ e2⟩⟩, b, c⟩
theorem TabR.atNew {K : PySem.W.Frag} {Z : Addr → Prop} {H F : Hp} {p : Addr} {o : HO} (T : TabR K Z H F) (hp : H p = none) : TabR K (fun b => Z b ∨ b = p) (upd H p o) F := T.move (Same.refl _) fun P ps e f z => by
  have ne : P ≠ p := ne_of_none e hp
  exact ⟨by rw [upd_ne ne]; exact e, f, fun q => q.elim z ne⟩
theorem TabR.less {K : PySem.W.Frag} {Z : Addr → Prop} {H F : Hp} {p : Addr} (T : TabR K (fun b => Z b ∨ b = p) H F) : TabR K Z H F := T.move (Same.refl _) fun P ps e f z => ⟨e, f, fun q => z (.inl q)⟩
theorem TabR.wr {K : PySem.W.Frag} {Z : Addr → Prop} {H F : Hp} {p : Addr} {o : HO} (T : TabR K Z H F) (hp : Z p) : TabR K Z (upd H p o) F := T.move (Same.refl _) fun P ps e f z => by
  have ne : P ≠ p := fun q => z (q ▸ hp)
  exact ⟨by rw [upd_ne ne]; exact e, f, z⟩
theorem MRel.noTbl {K : PySem.W.Frag} {F : Hp} : ∀ {m : M} {o : HO}, MRel K F m o → ∀ ps, o ≠ .tbl ps
  | .lst _, _, ⟨_, e, _⟩, ps => by rw [e]; exact fun z => nomatch z
  | .dK _ _, _, ⟨_, e, _⟩, ps => by rw [e]; exact fun z => nomatch z
  | .dT _ _, _, ⟨_, e, _⟩, ps => by rw [e]; exact fun z => nomatch z
  | .dX _ _ _ _, _, ⟨_, _, e, _⟩, ps => by rw [e]; exact fun z => nomatch z
  | .ins _ _ _, _, ⟨_, _, e, _⟩, ps => by rw [e]; exact fun z => nomatch z
  | .xd _ _, _, ⟨_, e, _⟩, ps => by rw [e]; exact fun z => nomatch z
/-- F: what is frozen; Z: what is hidden from this code (an enclosing construct owns it) -/
structure Rel (K : PySem.W.Frag) (Z : Addr → Prop) (H : Hp) (S : Store) (F : Hp) : Prop where
  sub : ∀ a o, F a = some o → H a = some o ∧ S a = none ∧ ¬ Z a
  sto : ∀ a m, S a = some m → ¬ Z a ∧ ∃ o, H a = some o ∧ MRel K F m o
  hid : ∀ a, Z a → ∃ o, H a = some o
  tab : TabR K Z H F
def Keep (Z : Addr → Prop) (H H' : Hp) : Prop := ∀ a o, Z a → H a = some o → H' a = some o
theorem Keep.refl {Z : Addr → Prop} {H : Hp} : Keep Z H H := fun _ _ _ h => h
theorem Keep.trans {Z : Addr → Prop} {H H1 H2 : Hp} (a : Keep Z H H1) (b : Keep Z H1 H2) : Keep Z H H2 := fun c o z h => b c o z (a c o z h)

abbrev Sl := List (Option D)
/-- the slots -/
def EnvR (K : PySem.W.Frag) (F : Hp) (ρ : Sl) (σ : L2.St) : Prop := ρ.length = σ.length ∧ ∀ (i : Nat) (d : D), ρ[i]? = some (some d) → ∃ v, σ[i]? = some (some v) ∧ IsV K F d v
section
variable {K : PySem.W.Frag} {Z : Addr → Prop} {F F' H H' : Hp} {S : Store} {ρ : Sl} {σ : L2.St}
theorem EnvR.up (s : Same F F') (h : EnvR K F ρ σ) : EnvR K F' ρ σ := ⟨h.1, fun i d e => let ⟨v, e1, e2⟩ := h.2 i d e; ⟨v, e1, e2.up s⟩⟩
theorem EnvR.set (h : EnvR K F ρ σ) {d : D} {v : V} (r : IsV K F d v) (i : Nat) : EnvR K F (ρ.set i (some d)) (σ.set i (some v)) := by
  refine ⟨by rw [List.length_set, List.length_set]; exact h.1, fun j e hj => ?_⟩
  by_cases q : i = j
  · subst q
    by_cases hl : i < ρ.length
    · rw [List.getElem?_set_self hl] at hj
      cases hj
      exact ⟨v, List.getElem?_set_self (by rw [← h.1]; exact hl), r⟩
    · rw [List.getElem?_eq_none (by rw [List.length_set]; omega)] at hj
      cases hj
  · rw [List.getElem?_set_ne q] at hj
    obtain ⟨w, e1, e2⟩ := h.2 j e hj
    exact ⟨w, by rw [List.getElem?_set_ne q]; exact e1, e2⟩
theorem EnvR.forget (h : EnvR K F ρ σ) (i : Nat) : EnvR K F (ρ.set i none) (σ.set i none) := by
  refine ⟨by rw [List.length_set, List.length_set]; exact h.1, fun j e hj => ?_⟩
  by_cases q : i = j
  · subst q
    by_cases hl : i < ρ.length
    · rw [List.getElem?_set_self hl] at hj
      cases hj
    · rw [List.getElem?_eq_none (by rw [List.length_set]; omega)] at hj
      cases hj
  · rw [List.getElem?_set_ne q] at hj
    obtain ⟨w, e1, e2⟩ := h.2 j e hj
    exact ⟨w, by rw [List.getElem?_set_ne q]; exact e1, e2⟩
/-- a new object that is frozen at once -/
theorem Rel.laid {p : Addr} {o : HO} (R : Rel K Z H S F) (hp : H p = none) : Rel K Z (upd H p o) S (upd F p o) ∧ Same F (upd F p o) ∧ Keep Z H (upd H p o) := by
  have ne : ∀ {b u}, H b = some u → b ≠ p := fun e z => by rw [z, hp] at e; cases e
  have sp : S p = none := by
    cases e : S p with
    | none => rfl
    | some m =>
      obtain ⟨_, o, e1, _⟩ := R.sto p m e
      rw [hp] at e1; cases e1
  have zp : ¬ Z p := fun z => by
    obtain ⟨o, e⟩ := R.hid p z
    rw [hp] at e; cases e
  have sm : Same F (upd F p o) := fun b u e => by rw [upd_ne (ne (R.sub b u e).1)]; exact e
  refine ⟨⟨fun b u e => ?_, fun b m e => ?_, fun b z => ?_, R.tab.move sm fun P ps e f z => ⟨by rw [upd_ne (ne e)]; exact e, by rw [upd_ne (ne e)]; exact f, z⟩⟩, sm, fun b u _ e => by rw [upd_ne (ne e)]; exact e⟩
  · by_cases hb : b = p
    · subst hb
      rw [upd_same] at e
      cases e
      exact ⟨upd_same, sp, zp⟩
    · rw [upd_ne hb] at e
      rw [upd_ne hb]
      exact R.sub b u e
  · obtain ⟨h1, u, h2, h3⟩ := R.sto b m e
    exact ⟨h1, u, by rw [upd_ne (ne h2)]; exact h2, h3.up sm⟩
  · obtain ⟨u, e⟩ := R.hid b z
    exact ⟨u, by rw [upd_ne (ne e)]; exact e⟩
/-- a new object of the store -/
theorem Rel.made {p : Addr} {o : HO} {m : M} (R : Rel K Z H S F) (hp : H p = none) (r : MRel K F m o) : Rel K Z (upd H p o) (put S p m) F ∧ Keep Z H (upd H p o) ∧ S p = none := by
  have ne : ∀ {b u}, H b = some u → b ≠ p := fun e z => by rw [z, hp] at e; cases e
  have sp : S p = none := by
    cases e : S p with
    | none => rfl
    | some m =>
      obtain ⟨_, o, e1, _⟩ := R.sto p m e
      rw [hp] at e1; cases e1
  have zp : ¬ Z p := fun z => by
    obtain ⟨o, e⟩ := R.hid p z
    rw [hp] at e; cases e
  refine ⟨⟨fun b u e => ?_, fun b m' e => ?_, fun b z => ?_, R.tab.move (Same.refl _) fun P ps e f z => ⟨by rw [upd_ne (ne e)]; exact e, f, z⟩⟩, fun b u _ e => by rw [upd_ne (ne e)]; exact e, sp⟩
  · obtain ⟨h1, h2, h3⟩ := R.sub b u e
    exact ⟨by rw [upd_ne (ne h1)]; exact h1, by rw [put_ne (ne h1)]; exact h2, h3⟩
  · by_cases hb : b = p
    · subst hb
      rw [put_same] at e
      cases e
      exact ⟨zp, o, upd_same, r⟩
    · rw [put_ne hb] at e
      rw [upd_ne hb]
      exact R.sto b m' e
  · obtain ⟨u, e⟩ := R.hid b z
    exact ⟨u, by rw [upd_ne (ne e)]; exact e⟩
/-- an object of the store is written -/
theorem Rel.wrote {p : Addr} {o : HO} {m0 m : M} (R : Rel K Z H S F) (hp : S p = some m0) (r : MRel K F m o) : Rel K Z (upd H p o) (put S p m) F ∧ Keep Z H (upd H p o) := by
  obtain ⟨zp, u0, hu0, mr0⟩ := R.sto p m0 hp
  refine ⟨⟨fun b u e => ?_, fun b m' e => ?_, fun b z => ?_, R.tab.move (Same.refl _) fun P ps e f z => ?_⟩, fun b u z e => ?_⟩
  · obtain ⟨h1, h2, h3⟩ := R.sub b u e
    have hb : b ≠ p := fun q => by rw [q, hp] at h2; cases h2
    exact ⟨by rw [upd_ne hb]; exact h1, by rw [put_ne hb]; exact h2, h3⟩
  · by_cases hb : b = p
    · subst hb
      rw [put_same] at e
      cases e
      exact ⟨zp, o, upd_same, r⟩
    · rw [put_ne hb] at e
      rw [upd_ne hb]
      exact R.sto b m' e
  · obtain ⟨u, e⟩ := R.hid b z
    have hb : b ≠ p := fun q => zp (q ▸ z)
    exact ⟨u, by rw [upd_ne hb]; exact e⟩
  · have hb : P ≠ p := fun q => by
      rw [q, hu0] at e
      exact mr0.noTbl ps (Option.some.inj e)
    exact ⟨by rw [upd_ne hb]; exact e, f, z⟩
  · have hb : b ≠ p := fun q => zp (q ▸ z)
    rw [upd_ne hb]; exact e
/-- an object of the store is frozen from now on -/
theorem Rel.freeze {p : Addr} {m : M} (R : Rel K Z H S F) (hp : S p = some m) : ∃ o, H p = some o ∧ MRel K F m o ∧ Rel K Z H (del S p) (upd F p o) ∧ Same F (upd F p o) := by
  obtain ⟨zp, o, h1, h2⟩ := R.sto p m hp
  have sm : Same F (upd F p o) := fun b u e => by
    have hb : b ≠ p := fun q => by
      have := (R.sub b u e).2.1
      rw [q, hp] at this; cases this
    rw [upd_ne hb]; exact e
  refine ⟨o, h1, h2, ⟨fun b u e => ?_, fun b m' e => ?_, R.hid, R.tab.move sm fun P ps e f z => ?_⟩, sm⟩
  · by_cases hb : b = p
    · subst hb
      rw [upd_same] at e
      cases e
      exact ⟨h1, del_same, zp⟩
    · rw [upd_ne hb] at e
      rw [del_ne hb]
      exact R.sub b u e
  · by_cases hb : b = p
    · subst hb
      rw [del_same] at e
      cases e
    · rw [del_ne hb] at e
      obtain ⟨q1, u, q2, q3⟩ := R.sto b m' e
      exact ⟨q1, u, q2, q3.up sm⟩
  · have hb : P ≠ p := fun q => by
      rw [q, h1] at e
      exact h2.noTbl ps (Option.some.inj e)
    exact ⟨e, by rw [upd_ne hb]; exact f, z⟩
end

/-! ### readings of transformers -/
abbrev DQ := D → Store → Prop
/-- an exception: its class, its fields -/
abbrev DX := Addr → List Str → List D → Store → Prop
abbrev DTE := Sl → Store → DQ → DX → Prop
abbrev DTA := Sl → Store → (List D → Store → Prop) → DX → Prop
abbrev DTT := Sl → Store → (Bool → Store → Prop) → DX → Prop
structure DEnds where
  nx : Sl → Store → Prop
  rt : DQ
  bk : Sl → Store → Prop := fun _ _ => False
  ct : Sl → Store → Prop := fun _ _ => False
  ex : Sl → DX
abbrev DTS := DEnds → Sl → Store → Prop
/-- behind: more is frozen, the rest as said -/
structure Aft (K : PySem.W.Frag) (Z : Addr → Prop) (H F : Hp) (H' : Hp) (S' : Store) (F' : Hp) : Prop where
  sm : Same F F'
  rel : Rel K Z H' S' F'
  kp : Keep Z H H'
theorem Aft.refl {K : PySem.W.Frag} {Z : Addr → Prop} {H F : Hp} {S : Store} (R : Rel K Z H S F) : Aft K Z H F H S F := ⟨Same.refl _, R, Keep.refl⟩
theorem Aft.trans {K : PySem.W.Frag} {Z : Addr → Prop} {H F H1 F1 H2 F2 : Hp} {S1 S2 : Store} (a : Aft K Z H F H1 S1 F1) (b : Aft K Z H1 F1 H2 S2 F2) : Aft K Z H F H2 S2 F2 := ⟨a.sm.trans b.sm, b.rel, a.kp.trans b.kp⟩
/-- the own dict of an exception -/
def XdR (K : PySem.W.Frag) (Z : Addr → Prop) (H : Hp) (S : Store) (F : Hp) (d : Option Addr) (ns : List Str) (ds : List D) : Prop := (d = none ∧ ns = [] ∧ ds = []) ∨ ∃ dd fs, d = some dd ∧ H dd = some (.xd fs) ∧ S dd = none ∧ F dd = none ∧ ¬ Z dd ∧ fs.map (·.1) = ns ∧ IsVs K F ds (fs.map (·.2))
def LftE (K : PySem.W.Frag) (Z : Addr → Prop) (H F : Hp) (Q : DQ) : VK := fun v H' => ∃ d S' F', Aft K Z H F H' S' F' ∧ IsV K F' d v ∧ Q d S'
def LftA (K : PySem.W.Frag) (Z : Addr → Prop) (H F : Hp) (Q : List D → Store → Prop) : List V → Hp → Prop := fun v H' => ∃ d S' F', Aft K Z H F H' S' F' ∧ IsVs K F' d v ∧ Q d S'
def LftT (K : PySem.W.Frag) (Z : Addr → Prop) (H F : Hp) (Q : Bool → Store → Prop) : Bool → Hp → Prop := fun b H' => ∃ S' F', Aft K Z H F H' S' F' ∧ Q b S'
def LftN (K : PySem.W.Frag) (Z : Addr → Prop) (H F : Hp) (Q : Sl → Store → Prop) : L2.St → Hp → Prop := fun σ' H' => ∃ ρ' S' F', Aft K Z H F H' S' F' ∧ EnvR K F' ρ' σ' ∧ Q ρ' S'
def LftX (K : PySem.W.Frag) (Z : Addr → Prop) (H F : Hp) (E : DX) : XK := fun cls d H' => ∃ C ns ds S' F', cls = .ref C ∧ Aft K Z H F H' S' F' ∧ XdR K Z H' S' F' d ns ds ∧ E C ns ds S'
def LftW (K : PySem.W.Frag) (Z : Addr → Prop) (H F : Hp) (E : Sl → DX) : WX := fun cls d σ' H' => ∃ C ns ds ρ' S' F', cls = .ref C ∧ Aft K Z H F H' S' F' ∧ EnvR K F' ρ' σ' ∧ XdR K Z H' S' F' d ns ds ∧ E ρ' C ns ds S'
def upE (K : PySem.W.Frag) (W : WX) (T : DTE) : TE := fun σ H P => ∃ ρ S F Z Q E, Rel K Z H S F ∧ EnvR K F ρ σ ∧ T ρ S Q E ∧ (∀ v H', LftE K Z H F Q v H' → P v H') ∧ ∀ cls d H', LftX K Z H F E cls d H' → W cls d σ H'
def upA (K : PySem.W.Frag) (W : WX) (T : DTA) : TA := fun σ H P => ∃ ρ S F Z Q E, Rel K Z H S F ∧ EnvR K F ρ σ ∧ T ρ S Q E ∧ (∀ v H', LftA K Z H F Q v H' → P v H') ∧ ∀ cls d H', LftX K Z H F E cls d H' → W cls d σ H'
def upT (K : PySem.W.Frag) (W : WX) (T : DTT) : TT := fun σ H P => ∃ ρ S F Z Q E, Rel K Z H S F ∧ EnvR K F ρ σ ∧ T ρ S Q E ∧ (∀ v H', LftT K Z H F Q v H' → P v H') ∧ ∀ cls d H', LftX K Z H F E cls d H' → W cls d σ H'
structure LftS (K : PySem.W.Frag) (W : WX) (Z : Addr → Prop) (H F : Hp) (Q : DEnds) (N : Ends) : Prop where
  nx : ∀ σ' H', LftN K Z H F Q.nx σ' H' → N.nx σ' H'
  rt : ∀ v H', LftE K Z H F Q.rt v H' → N.rt v H'
  bk : ∀ σ' H', LftN K Z H F Q.bk σ' H' → N.bk σ' H'
  ct : ∀ σ' H', LftN K Z H F Q.ct σ' H' → N.ct σ' H'
  ex : ∀ cls d σ' H', LftW K Z H F Q.ex cls d σ' H' → W cls d σ' H'
def upS (K : PySem.W.Frag) (W : WX) (T : DTS) : TS := fun N σ H => ∃ ρ S F Z Q, Rel K Z H S F ∧ EnvR K F ρ σ ∧ T Q ρ S ∧ LftS K W Z H F Q N
section
variable {K : PySem.W.Frag} {W : WX} {Z : Addr → Prop} {H F H1 F1 H2 : Hp} {S1 : Store} {σ : L2.St}
theorem lftN_tr (A : Aft K Z H F H1 S1 F1) {Q : Sl → Store → Prop} (h : LftN K Z H1 F1 Q σ H2) : LftN K Z H F Q σ H2 := let ⟨ρ, S, F2, A2, E, q⟩ := h; ⟨ρ, S, F2, A.trans A2, E, q⟩
theorem lftE_tr (A : Aft K Z H F H1 S1 F1) {Q : DQ} {v : V} (h : LftE K Z H1 F1 Q v H2) : LftE K Z H F Q v H2 := let ⟨d, S, F2, A2, i, q⟩ := h; ⟨d, S, F2, A.trans A2, i, q⟩
theorem lftX_tr (A : Aft K Z H F H1 S1 F1) {E : DX} {c : Value} {d : Option Addr} (h : LftX K Z H1 F1 E c d H2) : LftX K Z H F E c d H2 := let ⟨C, ns, ds, S, F2, e, A2, x, q⟩ := h; ⟨C, ns, ds, S, F2, e, A.trans A2, x, q⟩
theorem lftW_tr (A : Aft K Z H F H1 S1 F1) {E : Sl → DX} {c : Value} {d : Option Addr} (h : LftW K Z H1 F1 E c d σ H2) : LftW K Z H F E c d σ H2 := let ⟨C, ns, ds, ρ, S, F2, e, A2, r, x, q⟩ := h; ⟨C, ns, ds, ρ, S, F2, e, A.trans A2, r, x, q⟩
theorem LftS.tr {Q : DEnds} {N : Ends} (l : LftS K W Z H F Q N) (A : Aft K Z H F H1 S1 F1) : LftS K W Z H1 F1 Q N :=
  ⟨fun _ _ h => l.nx _ _ (lftN_tr A h), fun _ _ h => l.rt _ _ (lftE_tr A h), fun _ _ h => l.bk _ _ (lftN_tr A h), fun _ _ h => l.ct _ _ (lftN_tr A h), fun _ _ _ _ h => l.ex _ _ _ _ (lftW_tr A h)⟩
/-- an expression's exceptions, for a statement -/
theorem LftS.xe {Q : DEnds} {N : Ends} (l : LftS K W Z H F Q N) {ρ : Sl} (E : EnvR K F ρ σ) : ∀ cls d H', LftX K Z H F (Q.ex ρ) cls d H' → W cls d σ H' :=
  fun cls d H' ⟨C, ns, ds, S, F2, e, A, x, q⟩ => l.ex cls d σ H' ⟨C, ns, ds, ρ, S, F2, e, A, E.up A.sm, x, q⟩
theorem xe_tr {E : DX} (x : ∀ cls d H', LftX K Z H F E cls d H' → W cls d σ H') (A : Aft K Z H F H1 S1 F1) : ∀ cls d H', LftX K Z H1 F1 E cls d H' → W cls d σ H' := fun cls d H' h => x cls d H' (lftX_tr A h)
end
structure DE (X : Cx) (W : WX) (e : Expr) (T : DTE) : Prop where
  pe : PE X e (upE X.K W T)
structure DA (X : Cx) (W : WX) (es : List Expr) (T : DTA) : Prop where
  pa : PA X es (upA X.K W T)
structure DT (X : Cx) (W : WX) (e : Expr) (T : DTT) : Prop where
  pt : PT X e (upT X.K W T)
structure DW (X : Cx) (W : WX) (e : Expr) (T : DTT) : Prop where
  pw : PW X e (upT X.K W T)
structure DS (X : Cx) (W : WX) (st : Stmt) (T : DTS) : Prop where
  ps : PS X st (upS X.K W T)
structure DSs (X : Cx) (W : WX) (st : List Stmt) (T : DTS) : Prop where
  pss : PSs X st (upS X.K W T)
theorem pe_imp {X : Cx} {e : Expr} {t t' : TE} (h : PE X e t) (i : ∀ σ H P, t' σ H P → t σ H P) : PE X e t' := ⟨fun pins s σ H Q I q => h.run pins s σ H Q I (i σ H Q q)⟩
theorem pa_imp {X : Cx} {e : List Expr} {t t' : TA} (h : PA X e t) (i : ∀ σ H P, t' σ H P → t σ H P) : PA X e t' := ⟨fun pos pins s σ H Q I q => h.run pos pins s σ H Q I (i σ H Q q)⟩
theorem pt_imp {X : Cx} {e : Expr} {t t' : TT} (h : PT X e t) (i : ∀ σ H P, t' σ H P → t σ H P) : PT X e t' := ⟨fun pins s σ H Q I q => h.run pins s σ H Q I (i σ H Q q)⟩
theorem pw_imp {X : Cx} {e : Expr} {t t' : TT} (h : PW X e t) (i : ∀ σ H P, t' σ H P → t σ H P) : PW X e t' := ⟨fun w pins s σ H Q I q => h.run w pins s σ H Q I (i σ H Q q)⟩
theorem ps_imp {X : Cx} {e : Stmt} {t t' : TS} (h : PS X e t) (i : ∀ N σ H, t' N σ H → t N σ H) : PS X e t' := ⟨fun pins s σ H D I q => h.run pins s σ H D I (i D σ H q)⟩
theorem pss_imp {X : Cx} {e : List Stmt} {t t' : TS} (h : PSs X e t) (i : ∀ N σ H, t' N σ H → t N σ H) : PSs X e t' := ⟨fun pins s σ H D I q => h.run pins s σ H D I (i D σ H q)⟩
end DL

set_option maxRecDepth 100000
/-! DL, expressions: each rule of the hand layer, read over trees. -/
namespace DL
open PySem PySem.Spec L2
section
variable {X : Cx} {W : WX}

/-! ### names, constants, arguments, displays -/
def dVar (i : Nat) : DTE := fun ρ S Q _ => ∃ d, ρ[i]? = some (some d) ∧ Q d S
def dC (c : D) : DTE := fun _ S Q _ => Q c S
theorem de_pe {e : Expr} {t : TE} {T : DTE} (h : PE X e t) (i : ∀ σ H P, upE X.K W T σ H P → t σ H P) : DE X W e T := ⟨pe_imp h i⟩
theorem de_var {e : Expr} {i : Nat} (h : PE X e (tVar i)) : DE X W e (dVar i) := de_pe h fun σ H P ⟨ρ, S, F, Z, Q, E, R, V, ⟨d, e1, q⟩, k, _⟩ => by
  obtain ⟨v, e2, iv⟩ := V.2 i d e1
  exact ⟨v, e2, k v H ⟨d, S, F, .refl R, iv, q⟩⟩
/-- the name in slot i -/
theorem dv (i : Nat) {x : Str} {pos : Pos} (hN : X.N[i]? = some x := by rfl) (hv : Vis X.env.scope x := by first | exact Or.inl rfl | exact Or.inr (Or.inl rfl) | exact Or.inr (Or.inr rfl)) (hd : (x == ("__debug__" : Str)) = false := by decide)
    (hcd : (x == ("__classdict__" : Str)) = false := by decide) : DE X W (.Name x pos) (dVar i) := de_var (pe_var hN hv hd hcd)
theorem de_c {e : Expr} {v : V} {d : D} (h : PE X e (tC v)) (iv : ∀ F, IsV X.K F d v) : DE X W e (dC d) := de_pe h fun σ H P ⟨ρ, S, F, Z, Q, E, R, V, q, k, _⟩ => k v H ⟨d, S, F, .refl R, iv F, q⟩
theorem de_int {i : Int} {j pos} : DE X W (.Constant (.int i) j pos) (dC (.int i)) := de_c pe_int fun _ => .int i
theorem de_bl {i : Bool} {j pos} : DE X W (.Constant (.bool i) j pos) (dC (.bl i)) := de_c pe_bl fun _ => .bl i
theorem de_non {j pos} : DE X W (.Constant .none j pos) (dC .non) := de_c pe_non fun _ => .non
theorem de_str {i : Str} {j pos} : DE X W (.Constant (.str i) j pos) (dC (.str i)) := de_c pe_str fun _ => .str i
theorem de_glob {x : Str} {v : V} {d : D} {u : Value} {pos : Pos} (hm : X.mg x = some u) (r : RelV v u) (iv : ∀ F, IsV X.K F d v) (hg : Gl X x := by rfl) (hd : (x == ("__debug__" : Str)) = false := by decide) : DE X W (.Name x pos) (dC d) :=
  de_c (pe_glob hg hm r hd) iv

def dNil : DTA := fun _ S Q _ => Q [] S
def dCons (t : DTE) (u : DTA) : DTA := fun ρ S Q E => t ρ S (fun d S1 => u ρ S1 (fun ds S2 => Q (d :: ds) S2) E) E
theorem da_nil : DA X W [] dNil := ⟨pa_imp pa_nil fun σ H P ⟨ρ, S, F, Z, Q, E, R, V, q, k, _⟩ => k [] H ⟨[], S, F, .refl R, .nil, q⟩⟩
theorem da_cons {e : Expr} {es : List Expr} {t : DTE} {u : DTA} (ha : DE X W e t) (hr : DA X W es u) (hs : starEach (e :: es) X.env = (false, eval e X.env) :: starEach es X.env := by rfl) : DA X W (e :: es) (dCons t u) := by
  refine ⟨pa_imp (pa_cons ha.pe hr.pa hs) fun σ H P ⟨ρ, S, F, Z, Q, E, R, V, q, k, x⟩ => ?_⟩
  refine ⟨ρ, S, F, Z, _, E, R, V, q, fun v H1 ⟨d, S1, F1, A1, i1, q1⟩ => ?_, x⟩
  refine ⟨ρ, S1, F1, Z, _, E, A1.rel, V.up A1.sm, q1, fun vs H2 ⟨ds, S2, F2, A2, i2, q2⟩ => ?_, xe_tr x A1⟩
  exact k _ H2 ⟨d :: ds, S2, F2, A1.trans A2, .cons (i1.up A2.sm) i2, q2⟩

/-- a new tuple; a new list that is never written -/
def dTup (t : DTA) : DTE := fun ρ S Q E => t ρ S (fun ds S1 => ds.length ≤ sizeLine ∧ Q (.tup ds) S1) E
def dLst (t : DTA) : DTE := fun ρ S Q E => t ρ S (fun ds S1 => ds.length ≤ sizeLine ∧ Q (.lst ds) S1) E
/-- a new list of the store -/
def dLstM (t : DTA) : DTE := fun ρ S Q E => t ρ S (fun ds S1 => ds.length ≤ sizeLine ∧ ∀ a, S1 a = none → Q (.ref a) (put S1 a (.lst ds))) E
variable {es : List Expr} {t : DTA} {pos : Pos}
theorem de_tup {x1} (h : DA X W es t) : DE X W (.Tuple es x1 pos) (dTup t) := by
  refine de_pe (pe_tup h.pa) fun σ H P ⟨ρ, S, F, Z, Q, E, R, V, q, k, x⟩ => ?_
  refine ⟨ρ, S, F, Z, _, E, R, V, q, fun vs H1 ⟨ds, S1, F1, A1, i1, z, q1⟩ => ⟨by rw [← i1.length]; exact z, fun p hp => ?_⟩, x⟩
  obtain ⟨R2, s2, k2⟩ := A1.rel.laid (o := .tup vs) hp
  exact k _ _ ⟨.tup ds, S1, _, A1.trans ⟨s2, R2, k2⟩, .tup upd_same (i1.up s2), q1⟩
theorem de_lst (h : DA X W es t) : DE X W (.List es pos) (dLst t) := by
  refine de_pe (pe_lst h.pa) fun σ H P ⟨ρ, S, F, Z, Q, E, R, V, q, k, x⟩ => ?_
  refine ⟨ρ, S, F, Z, _, E, R, V, q, fun vs H1 ⟨ds, S1, F1, A1, i1, z, q1⟩ => ⟨by rw [← i1.length]; exact z, fun p hp => ?_⟩, x⟩
  obtain ⟨R2, s2, k2⟩ := A1.rel.laid (o := .lst vs) hp
  exact k _ _ ⟨.lst ds, S1, _, A1.trans ⟨s2, R2, k2⟩, .lst upd_same (i1.up s2), q1⟩
theorem de_lstM (h : DA X W es t) : DE X W (.List es pos) (dLstM t) := by
  refine de_pe (pe_lst h.pa) fun σ H P ⟨ρ, S, F, Z, Q, E, R, V, q, k, x⟩ => ?_
  refine ⟨ρ, S, F, Z, _, E, R, V, q, fun vs H1 ⟨ds, S1, F1, A1, i1, z, q1⟩ => ⟨by rw [← i1.length]; exact z, fun p hp => ?_⟩, x⟩
  obtain ⟨R2, k2, hS⟩ := A1.rel.made (o := .lst vs) (m := .lst ds) hp ⟨vs, rfl, i1⟩
  exact k _ _ ⟨.ref p, _, F1, A1.trans ⟨Same.refl _, R2, k2⟩, .ref p, q1 p hS⟩

/-! ### by values -/
abbrev DR2 := D → D → Store → DQ → Prop
abbrev DRL := List D → Store → DQ → Prop
def Lift2 (K : PySem.W.Frag) (r : R2) (rd : DR2) : Prop := ∀ Z H S F x y v w Q P, Rel K Z H S F → IsV K F x v → IsV K F y w → rd x y S Q → (∀ v' H', LftE K Z H F Q v' H' → P v' H') → r v w H P
def LiftL (K : PySem.W.Frag) (r : List V → Hp → VK → Prop) (rd : DRL) : Prop := ∀ Z H S F x v Q P, Rel K Z H S F → IsVs K F x v → rd x S Q → (∀ v' H', LftE K Z H F Q v' H' → P v' H') → r v H P
def dOp (rd : DR2) (ta tb : DTE) : DTE := fun ρ S Q E => ta ρ S (fun x S1 => tb ρ S1 (fun y S2 => rd x y S2 Q) E) E
def dCB (rd : DRL) (ta : DTA) : DTE := fun ρ S Q E => ta ρ S (fun xs S1 => rd xs S1 Q) E
variable {a b c : Expr} {ta tb tc : DTE} {r r' : R2} {rd rd' : DR2}
theorem lift_op (l : Lift2 X.K r rd) : ∀ σ H P, upE X.K W (dOp rd ta tb) σ H P → tOp r (upE X.K W ta) (upE X.K W tb) σ H P := fun σ H P ⟨ρ, S, F, Z, Q, E, R, V, q, k, x⟩ =>
  ⟨ρ, S, F, Z, _, E, R, V, q, fun v H1 ⟨d, S1, F1, A1, i1, q1⟩ => ⟨ρ, S1, F1, Z, _, E, A1.rel, V.up A1.sm, q1, fun w H2 ⟨e, S2, F2, A2, i2, q2⟩ =>
    l Z H2 S2 F2 d e v w Q P A2.rel (i1.up A2.sm) i2 q2 fun v' H' ⟨d', S', F', A3, i3, q3⟩ => k v' H' ⟨d', S', F', A1.trans (A2.trans A3), i3, q3⟩, xe_tr x A1⟩, x⟩
theorem de_op {op : Operator} (ho : OpR X (binaryOp op) r) (l : Lift2 X.K r rd) (ha : DE X W a ta) (hb : DE X W b tb) : DE X W (.BinOp a op b pos) (dOp rd ta tb) := de_pe (pe_op ho ha.pe hb.pe) (lift_op l)
theorem de_cmp {op : CmpOp} (ho : OpR X (compareOp op) r) (l : Lift2 X.K r rd) (ha : DE X W a ta) (hb : DE X W b tb) (hm : behindInMarks op b = false) : DE X W (.Compare a [op] [b] pos) (dOp rd ta tb) := de_pe (pe_cmpR ho ha.pe hb.pe hm) (lift_op l)
theorem lift_cb {r : List V → Hp → VK → Prop} {rd : DRL} (l : LiftL X.K r rd) : ∀ σ H P, upE X.K W (dCB rd t) σ H P → tCB r (upA X.K W t) σ H P := fun σ H P ⟨ρ, S, F, Z, Q, E, R, V, q, k, x⟩ =>
  ⟨ρ, S, F, Z, _, E, R, V, q, fun v H1 ⟨d, S1, F1, A1, i1, q1⟩ => l Z H1 S1 F1 d v Q P A1.rel i1 q1 fun v' H' ⟨d', S', F', A3, i3, q3⟩ => k v' H' ⟨d', S', F', A1.trans A3, i3, q3⟩, x⟩
variable {e : Expr} {x : Str} {p : Pos} {id T : String}
/-- f(e, ..), f a built-in function, a built-in class -/
theorem de_callB {r : List V → Hp → VK → Prop} {rd : DRL} (hc : CallR X (.builtin id) r) (l : LiftL X.K r rd) (hm : X.mg x = none) (hv : bootBuiltins x = some (.builtin id)) (ha : DA X W (e :: es) t) (hg : Gl X x := by rfl) (hn : x ≠ "__name__" := by decide) (hdb : (x == ("__debug__" : Str)) = false := by decide)
    (he : starEach (e :: es) X.env = (false, eval e X.env) :: starEach es X.env := by rfl) (hpl : (backTo pos (starEach es X.env)).any (·.1) = false := by rfl) : DE X W (.Call (.Name x p) (e :: es) [] pos) (dCB rd t) :=
  de_pe (pe_callB hc hg hm hv ha.pa hn hdb he hpl) (lift_cb l)
theorem de_callTy {r : List V → Hp → VK → Prop} {rd : DRL} (hc : CallR X (.type T) r) (l : LiftL X.K r rd) (hm : X.mg x = none) (hv : bootBuiltins x = some (.type T)) (ha : DA X W (e :: es) t) (hg : Gl X x := by rfl) (hn : x ≠ "__name__" := by decide) (hdb : (x == ("__debug__" : Str)) = false := by decide)
    (he : starEach (e :: es) X.env = (false, eval e X.env) :: starEach es X.env := by rfl) (hpl : (backTo pos (starEach es X.env)).any (·.1) = false := by rfl) : DE X W (.Call (.Name x p) (e :: es) [] pos) (dCB rd t) :=
  de_pe (pe_callTy hc hg hm hv ha.pa hn hdb he hpl) (lift_cb l)
/-! ### tests, and, or, not -/
def dTest (t : DTE) : DTT := fun ρ S Q E => t ρ S (fun x S1 => ∃ k, x = .bl k ∧ Q k S1) E
theorem dt_pt {e : Expr} {t : TT} {T : DTT} (h : PT X e t) (i : ∀ σ H P, upT X.K W T σ H P → t σ H P) : DT X W e T := ⟨pt_imp h i⟩
/-- an expression that gives a bool, as a test -/
theorem dt_val (h : DE X W a ta) (he : ∀ whole, isTrue a X.env whole = (do let v ← whole; standAt a.pos; holding [v] (truthy v)) := by intro _; rfl) : DT X W a (dTest ta) :=
  dt_pt (pt_val h.pe he) fun σ H P ⟨ρ, S, F, Z, Q, E, R, V, q, k, x⟩ => ⟨ρ, S, F, Z, _, E, R, V, q, fun v H1 ⟨d, S1, F1, A1, i1, b, hb, q1⟩ => by
    subst hb
    cases i1
    exact ⟨b, rfl, k b H1 ⟨S1, F1, A1, q1⟩⟩, x⟩
theorem dt_cmp {op : CmpOp} (ho : OpR X (compareOp op) r) (l : Lift2 X.K r rd) (ha : DE X W a ta) (hb : DE X W b tb) (hm : behindInMarks op b = false) : DT X W (.Compare a [op] [b] pos) (dTest (dOp rd ta tb)) :=
  dt_pt (pt_cmpR ho ha.pe hb.pe hm) fun σ H P ⟨ρ, S, F, Z, Q, E, R, V, q, k, x⟩ => lift_op (rd := rd) l σ H _ ⟨ρ, S, F, Z, _, E, R, V, q, fun v H1 ⟨d, S1, F1, A1, i1, c, hc, q1⟩ => by
    subst hc
    cases i1
    exact ⟨c, rfl, k c H1 ⟨S1, F1, A1, q1⟩⟩, x⟩
def dAnd (t u : DTT) : DTT := fun ρ S Q E => t ρ S (fun c S1 => if c = true then u ρ S1 Q E else Q false S1) E
def dOr (t u : DTT) : DTT := fun ρ S Q E => t ρ S (fun c S1 => if c = true then Q true S1 else u ρ S1 Q E) E
def dNot (t : DTT) : DTT := fun ρ S Q E => t ρ S (fun c S1 => Q (!c) S1) E
variable {tt tu : DTT} {rest : List Expr}
theorem DW.dt (h : DW X W e tt) : DT X W e tt := ⟨h.pw.pt⟩
theorem dw_and1 (ha : DT X W a tt) : DW X W (.BoolOp .And [a] pos) tt := ⟨pw_and1 ha.pt⟩
theorem dw_or1 (ha : DT X W a tt) : DW X W (.BoolOp .Or [a] pos) tt := ⟨pw_or1 ha.pt⟩
theorem iteT' {A B : Prop} (h : if true = true then A else B) : A := by rwa [if_pos rfl] at h
theorem iteF' {A B : Prop} (h : if false = true then A else B) : B := by rwa [if_neg Bool.false_ne_true] at h
theorem dw_and (ha : DT X W a tt) (hb : DW X W (.BoolOp .And (b :: rest) pos) tu) : DW X W (.BoolOp .And (a :: b :: rest) pos) (dAnd tt tu) :=
  ⟨pw_imp (pw_and ha.pt hb.pw) fun σ H P ⟨ρ, S, F, Z, Q, E, R, V, q, k, x⟩ => ⟨ρ, S, F, Z, _, E, R, V, q, fun c H1 ⟨S1, F1, A1, q1⟩ => by
    cases c with
    | true => exact iteT ⟨ρ, S1, F1, Z, Q, E, A1.rel, V.up A1.sm, iteT' q1, fun c H2 ⟨S2, F2, A2, q2⟩ => k c H2 ⟨S2, F2, A1.trans A2, q2⟩, xe_tr x A1⟩
    | false => exact iteF (k false H1 ⟨S1, F1, A1, iteF' q1⟩), x⟩⟩
theorem dw_or (ha : DT X W a tt) (hb : DW X W (.BoolOp .Or (b :: rest) pos) tu) : DW X W (.BoolOp .Or (a :: b :: rest) pos) (dOr tt tu) :=
  ⟨pw_imp (pw_or ha.pt hb.pw) fun σ H P ⟨ρ, S, F, Z, Q, E, R, V, q, k, x⟩ => ⟨ρ, S, F, Z, _, E, R, V, q, fun c H1 ⟨S1, F1, A1, q1⟩ => by
    cases c with
    | false => exact iteF ⟨ρ, S1, F1, Z, Q, E, A1.rel, V.up A1.sm, iteF' q1, fun c H2 ⟨S2, F2, A2, q2⟩ => k c H2 ⟨S2, F2, A1.trans A2, q2⟩, xe_tr x A1⟩
    | true => exact iteT (k true H1 ⟨S1, F1, A1, iteT' q1⟩), x⟩⟩
theorem dt_not (ha : DT X W a tt) : DT X W (.UnaryOp .Not a pos) (dNot tt) :=
  dt_pt (pt_not ha.pt) fun σ H P ⟨ρ, S, F, Z, Q, E, R, V, q, k, x⟩ => ⟨ρ, S, F, Z, _, E, R, V, q, fun c H1 ⟨S1, F1, A1, q1⟩ => k (!c) H1 ⟨S1, F1, A1, q1⟩, x⟩
/-- .. as values, all but the last bools -/
def dAndV (t u : DTE) : DTE := fun ρ S Q E => t ρ S (fun x S1 => ∃ c, x = .bl c ∧ if c = true then u ρ S1 Q E else Q (.bl false) S1) E
def dNotV (t : DTE) : DTE := fun ρ S Q E => t ρ S (fun x S1 => ∃ c, x = .bl c ∧ Q (.bl (!c)) S1) E
theorem de_one {op} (h : DE X W a ta) : DE X W (.BoolOp op [a] pos) ta := ⟨pe_one h.pe⟩
theorem de_and (ha : DE X W a ta) (hb : DE X W (.BoolOp .And (b :: rest) pos) tb) : DE X W (.BoolOp .And (a :: b :: rest) pos) (dAndV ta tb) :=
  de_pe (pe_and ha.pe hb.pe) fun σ H P ⟨ρ, S, F, Z, Q, E, R, V, q, k, x⟩ => ⟨ρ, S, F, Z, _, E, R, V, q, fun v H1 ⟨d, S1, F1, A1, i1, c, hc, q1⟩ => by
    subst hc
    cases i1
    refine ⟨c, rfl, ?_⟩
    cases c with
    | true => exact iteT ⟨ρ, S1, F1, Z, Q, E, A1.rel, V.up A1.sm, iteT' q1, fun c H2 ⟨d2, S2, F2, A2, i2, q2⟩ => k c H2 ⟨d2, S2, F2, A1.trans A2, i2, q2⟩, xe_tr x A1⟩
    | false => exact iteF (k _ H1 ⟨_, S1, F1, A1, .bl false, iteF' q1⟩), x⟩
theorem de_not (ha : DE X W a ta) : DE X W (.UnaryOp .Not a pos) (dNotV ta) :=
  de_pe (pe_not ha.pe) fun σ H P ⟨ρ, S, F, Z, Q, E, R, V, q, k, x⟩ => ⟨ρ, S, F, Z, _, E, R, V, q, fun v H1 ⟨d, S1, F1, A1, i1, c, hc, q1⟩ => by
    subst hc
    cases i1
    exact ⟨c, rfl, k _ H1 ⟨_, S1, F1, A1, .bl _, q1⟩⟩, x⟩
def dIf (t : DTT) (u w : DTE) : DTE := fun ρ S Q E => t ρ S (fun c S1 => if c = true then u ρ S1 Q E else w ρ S1 Q E) E
theorem de_ifExp (hc : DT X W c tt) (ha : DE X W a ta) (hb : DE X W b tb) : DE X W (.IfExp c a b pos) (dIf tt ta tb) :=
  de_pe (pe_ifExp hc.pt ha.pe hb.pe) fun σ H P ⟨ρ, S, F, Z, Q, E, R, V, q, k, x⟩ => ⟨ρ, S, F, Z, _, E, R, V, q, fun c H1 ⟨S1, F1, A1, q1⟩ => by
    cases c with
    | true => exact iteT ⟨ρ, S1, F1, Z, Q, E, A1.rel, V.up A1.sm, iteT' q1, fun c H2 ⟨d2, S2, F2, A2, i2, q2⟩ => k c H2 ⟨d2, S2, F2, A1.trans A2, i2, q2⟩, xe_tr x A1⟩
    | false => exact iteF ⟨ρ, S1, F1, Z, Q, E, A1.rel, V.up A1.sm, iteF' q1, fun c H2 ⟨d2, S2, F2, A2, i2, q2⟩ => k c H2 ⟨d2, S2, F2, A1.trans A2, i2, q2⟩, xe_tr x A1⟩, x⟩
/-- a op1 b op2 c -/
def dChain (rd rd' : DR2) (ta tb tc : DTE) : DTE := fun ρ S Q E => ta ρ S (fun x S1 => tb ρ S1 (fun y S2 => rd x y S2 fun z S3 => ∃ k, z = .bl k ∧
  if k = true then tc ρ S3 (fun w S4 => rd' y w S4 Q) E else Q (.bl false) S3) E) E
theorem lift_chain (l : Lift2 X.K r rd) (l' : Lift2 X.K r' rd') : ∀ σ H P, upE X.K W (dChain rd rd' ta tb tc) σ H P → tChain r r' (upE X.K W ta) (upE X.K W tb) (upE X.K W tc) σ H P := fun σ H P ⟨ρ, S, F, Z, Q, E, R, V, q, k, x⟩ =>
  ⟨ρ, S, F, Z, _, E, R, V, q, fun v H1 ⟨d, S1, F1, A1, i1, q1⟩ => ⟨ρ, S1, F1, Z, _, E, A1.rel, V.up A1.sm, q1, fun w H2 ⟨e, S2, F2, A2, i2, q2⟩ =>
    l Z H2 S2 F2 d e v w _ _ A2.rel (i1.up A2.sm) i2 q2 fun v' H3 ⟨d', S3, F3, A3, i3, c, hc, q3⟩ => by
      subst hc
      cases i3
      refine ⟨c, rfl, ?_⟩
      have A := A1.trans (A2.trans A3)
      cases c with
      | false => exact iteF (k _ _ ⟨_, S3, F3, A, .bl false, iteF' q3⟩)
      | true => exact iteT ⟨ρ, S3, F3, Z, _, E, A3.rel, V.up A.sm, iteT' q3, fun w4 H4 ⟨d4, S4, F4, A4, i4, q4⟩ =>
          l' Z H4 S4 F4 e d4 w w4 Q P A4.rel ((i2.up A3.sm).up A4.sm) i4 q4 fun v' H' ⟨d', S', F', A5, i5, q5⟩ => k v' H' ⟨d', S', F', A.trans (A4.trans A5), i5, q5⟩, xe_tr x A⟩, xe_tr x A1⟩, x⟩
theorem dt_chain {op op' : CmpOp} (ho : OpR X (compareOp op) r) (ho' : OpR X (compareOp op') r') (l : Lift2 X.K r rd) (l' : Lift2 X.K r' rd') (ha : DE X W a ta) (hb : DE X W b tb) (hc : DE X W c tc)
    (hm : lastMarks [op, op'] [b, c] = false := by with_unfolding_all rfl) : DT X W (.Compare a [op, op'] [b, c] pos) (dTest (dChain rd rd' ta tb tc)) :=
  dt_pt (pt_chain ho ho' ha.pe hb.pe hc.pe hm) fun σ H P ⟨ρ, S, F, Z, Q, E, R, V, q, k, x⟩ => lift_chain (rd := rd) (rd' := rd') l l' σ H _ ⟨ρ, S, F, Z, _, E, R, V, q, fun v H1 ⟨d, S1, F1, A1, i1, c, hc, q1⟩ => by
    subst hc
    cases i1
    exact ⟨c, rfl, k c H1 ⟨S1, F1, A1, q1⟩⟩, x⟩
end
end DL

set_option maxRecDepth 100000
/-! DL, what operators give, by values. -/
namespace DL
open PySem PySem.Spec L2
mutual
/-- the data of a tree without dicts and instances -/
def toPy : D → Option PyData
  | .non => some .none
  | .bl b => some (.bool b)
  | .int i => some (.int i)
  | .str x => some (.str x)
  | .tup ds => (toPys ds).map .tuple
  | .kup ds => (toPys ds).map .tuple
  | .ctp ds => (toPys ds).map .tuple
  | .lst ds => (toPys ds).map .list
  | .scr ds => (toPys ds).map .list
  | _ => none
def toPys : List D → Option (List PyData)
  | [] => some []
  | d :: ds => match toPy d, toPys ds with
    | some p, some ps => some (p :: ps)
    | _, _ => none
end
section
variable {K : PySem.W.Frag} {F : Hp}
theorem toPys_cons {d : D} {ds : List D} {ps : List PyData} (h : toPys (d :: ds) = some ps) : ∃ p r, ps = p :: r ∧ toPy d = some p ∧ toPys ds = some r := by
  unfold toPys at h
  cases e1 : toPy d with
  | none => rw [e1] at h; cases h
  | some p =>
    cases e2 : toPys ds with
    | none => rw [e1, e2] at h; cases h
    | some r =>
      rw [e1, e2] at h
      cases h
      exact ⟨p, r, rfl, rfl, rfl⟩
mutual
theorem dp_of (H : Hp) (s : ∀ b u, F b = some u → H b = some u) : ∀ (d : D) (v : V) (p : PyData), IsV K F d v → toPy d = some p → Dp K H v p
  | .non, _, _, h, e => by cases h; unfold toPy at e; cases e; exact .non
  | .bl b, _, _, h, e => by cases h; unfold toPy at e; cases e; exact .bl b
  | .int b, _, _, h, e => by cases h; unfold toPy at e; cases e; exact .int b
  | .str b, _, _, h, e => by cases h; unfold toPy at e; cases e; exact .str b
  | .ty b, _, _, h, e => by unfold toPy at e; cases e
  | .ref b, _, _, h, e => by unfold toPy at e; cases e
  | .dK _ _, _, _, h, e => by unfold toPy at e; cases e
  | .dT _ _, _, _, h, e => by unfold toPy at e; cases e
  | .kdK _ _, _, _, h, e => by unfold toPy at e; cases e
  | .dX _ _ _, _, _, h, e => by unfold toPy at e; cases e
  | .obj _ _ _, _, _, h, e => by unfold toPy at e; cases e
  | .exc _ _ _, _, _, h, e => by unfold toPy at e; cases e
  | .kup ds, _, _, h, e => by
    cases h with
    | kup h1 h0 h2 =>
      unfold toPy at e
      cases e2 : toPys ds with
      | none => rw [e2] at e; cases e
      | some r =>
        rw [e2] at e
        cases e
        exact .tup (.inl (.inr ⟨_, s _ _ h1⟩)) (dps_of H s ds _ r h2 e2)
  | .ctp ds, _, _, h, e => by
    cases h with
    | ctp h1 h2 =>
      unfold toPy at e
      cases e2 : toPys ds with
      | none => rw [e2] at e; cases e
      | some r =>
        rw [e2] at e
        cases e
        exact .tup (Same.sqt s h1) (dps_of H s ds _ r h2 e2)
  | .tup ds, _, _, h, e => by
    cases h with
    | tup h1 h2 =>
      unfold toPy at e
      cases e2 : toPys ds with
      | none => rw [e2] at e; cases e
      | some r =>
        rw [e2] at e
        cases e
        exact .tup (SqT.of (s _ _ h1)) (dps_of H s ds _ r h2 e2)
  | .lst ds, _, _, h, e => by
    cases h with
    | lst h1 h2 =>
      unfold toPy at e
      cases e2 : toPys ds with
      | none => rw [e2] at e; cases e
      | some r =>
        rw [e2] at e
        cases e
        exact .lst (SqL.of (s _ _ h1)) (dps_of H s ds _ r h2 e2)
  | .scr ds, _, _, h, e => by
    cases h with
    | scr h1 h2 =>
      unfold toPy at e
      cases e2 : toPys ds with
      | none => rw [e2] at e; cases e
      | some r =>
        rw [e2] at e
        cases e
        exact .lst (L2.Same.seq s h1) (dps_of H s ds _ r h2 e2)
theorem dps_of (H : Hp) (s : ∀ b u, F b = some u → H b = some u) : ∀ (ds : List D) (vs : List V) (ps : List PyData), IsVs K F ds vs → toPys ds = some ps → DpAll K H vs ps
  | [], _, _, h, e => by
    cases h
    unfold toPys at e
    cases e
    exact .nil
  | d :: ds, _, _, h, e => by
    cases h with
    | cons h1 h2 =>
      obtain ⟨p, r, rfl, e1, e2⟩ := toPys_cons e
      exact .cons (dp_of H s d _ p h1 e1) (dps_of H s ds _ r h2 e2)
end
theorem Rel.dp {Z : Addr → Prop} {H : Hp} {S : Store} (R : Rel K Z H S F) {d : D} {v : V} {p : PyData} (h : IsV K F d v) (e : toPy d = some p) : Dp K H v p := dp_of H (fun b u q => (R.sub b u q).1) d v p h e
theorem Rel.sqt {Z : Addr → Prop} {H : Hp} {S : Store} (R : Rel K Z H S F) {a : Addr} {vs : List V} (h : SqT K F a vs) : SqT K H a vs := Same.sqt (fun b u q => (R.sub b u q).1) h
theorem Rel.sql {Z : Addr → Prop} {H : Hp} {S : Store} (R : Rel K Z H S F) {a : Addr} {vs : List V} (h : SqL K F a vs) : SqL K H a vs := L2.Same.seq (fun b u q => (R.sub b u q).1) h

/-! ### ints, texts -/
def rdInt (f : Int → Int → D) : DR2 := fun x y S Q => ∃ i j, x = .int i ∧ y = .int j ∧ Q (f i j) S
def rdIntC (C : Int → Int → Prop) (f : Int → Int → D) : DR2 := fun x y S Q => ∃ i j, x = .int i ∧ y = .int j ∧ C i j ∧ Q (f i j) S
theorem lift_int (f : Int → Int → Int) : Lift2 K (rI0 fun i j => .int (f i j)) (rdInt fun i j => .int (f i j)) := by
  intro Z H S F x y v w Q P R iv iw q k
  obtain ⟨i, j, rfl, rfl, q⟩ := q
  cases iv; cases iw
  exact ⟨i, j, rfl, rfl, k _ _ ⟨_, S, F, .refl R, .int _, q⟩⟩
theorem lift_intC (C : Int → Int → Prop) (f : Int → Int → Int) : Lift2 K (rI C fun i j => .int (f i j)) (rdIntC C fun i j => .int (f i j)) := by
  intro Z H S F x y v w Q P R iv iw q k
  obtain ⟨i, j, rfl, rfl, c, q⟩ := q
  cases iv; cases iw
  exact ⟨i, j, rfl, rfl, c, k _ _ ⟨_, S, F, .refl R, .int _, q⟩⟩
theorem lift_cmpI (f : Int → Int → Bool) : Lift2 K (rI0 fun i j => .bl (f i j)) (rdInt fun i j => .bl (f i j)) := by
  intro Z H S F x y v w Q P R iv iw q k
  obtain ⟨i, j, rfl, rfl, q⟩ := q
  cases iv; cases iw
  exact ⟨i, j, rfl, rfl, k _ _ ⟨_, S, F, .refl R, .bl _, q⟩⟩

/-- x + y -/
def rdAdd : DR2 := fun x y S Q => match x, y with
  | .int i, .int j => Q (.int (i + j)) S
  | .str i, .str j => i.length + j.length ≤ sizeLine ∧ Q (.str (i ++ j)) S
  | .tup i, .tup j => i.length + j.length ≤ sizeLine ∧ Q (.tup (i ++ j)) S
  | .lst i, .lst j => i.length + j.length ≤ sizeLine ∧ Q (.lst (i ++ j)) S
  | _, _ => False
def rAddV (K : PySem.W.Frag) : R2 := fun x y H Q => (∃ i j, x = .int i ∧ y = .int j ∧ Q (.int (i + j)) H) ∨ ((∃ i j, x = .str i ∧ y = .str j ∧ i.length + j.length ≤ sizeLine ∧ Q (.str (i ++ j)) H) ∨ (rCatA K x y H Q ∨ rCat x y H Q))
theorem or_add {X : Cx} : OpR X (binaryOp .Add) (rAddV X.K) := (op_add.or (op_add_str.or (op_catA.or op_cat)))
theorem lift_add : Lift2 K (rAddV K) rdAdd := by
  intro Z H S F x y v w Q P R iv iw q k
  cases iv with
  | int i =>
    cases iw with
    | int j => exact .inl ⟨i, j, rfl, rfl, k _ _ ⟨_, S, F, .refl R, .int _, q⟩⟩
    | _ => exact False.elim q
  | str i =>
    cases iw with
    | str j => exact .inr (.inl ⟨i, j, rfl, rfl, q.1, k _ _ ⟨_, S, F, .refl R, .str _, q.2⟩⟩)
    | _ => exact False.elim q
  | tup h1 h2 =>
    cases iw with
    | tup g1 g2 =>
      rename_i a1 vs1 ds1 a2 vs2 ds2
      obtain ⟨z, q⟩ := q
      rw [h2.length, g2.length] at z
      refine .inr (.inr (.inl ⟨_, _, _, _, rfl, rfl, R.sqt (SqT.of h1), R.sqt (SqT.of g1), z, fun e => ?_, fun e e2 => ?_, fun _ _ p hp => ?_⟩))
      · subst e
        have : ds1 = [] := List.eq_nil_of_length_eq_zero h2.length
        subst this
        exact k _ _ ⟨_, S, F, .refl R, .tup g1 g2, q⟩
      · subst e2
        have : ds2 = [] := List.eq_nil_of_length_eq_zero g2.length
        subst this
        rw [List.append_nil] at q
        exact k _ _ ⟨_, S, F, .refl R, .tup h1 h2, q⟩
      · obtain ⟨R2, s2, k2⟩ := R.laid (o := .tup (vs1 ++ vs2)) hp
        exact k _ _ ⟨_, S, _, ⟨s2, R2, k2⟩, .tup upd_same ((h2.append g2).up s2), q⟩
    | _ => exact False.elim q
  | lst h1 h2 =>
    cases iw with
    | lst g1 g2 =>
      rename_i a1 vs1 ds1 a2 vs2 ds2
      obtain ⟨z, q⟩ := q
      rw [h2.length, g2.length] at z
      refine .inr (.inr (.inr ⟨_, _, _, _, rfl, rfl, (R.sub _ _ h1).1, (R.sub _ _ g1).1, z, fun p hp => ?_⟩))
      obtain ⟨R2, s2, k2⟩ := R.laid (o := .lst (vs1 ++ vs2)) hp
      exact k _ _ ⟨_, S, _, ⟨s2, R2, k2⟩, .lst upd_same ((h2.append g2).up s2), q⟩
    | _ => exact False.elim q
  | _ => exact False.elim q

/-- x == y, x != y of data -/
def rdEq (neg : Bool) : DR2 := fun x y S Q => ∃ p q, toPy x = some p ∧ toPy y = some q ∧ SeqAt.shaped p = true ∧ SeqAt.shaped q = true ∧ Q (.bl (if neg then !PyData.eqv p q else PyData.eqv p q)) S
theorem lift_eq : Lift2 K (rEqD K) (rdEq false) := by
  intro Z H S F x y v w Q P R iv iw q k
  obtain ⟨p, q, e1, e2, s1, s2, q⟩ := q
  exact ⟨p, _, R.dp iv e1, R.dp iw e2, s1, s2, k _ _ ⟨_, S, F, .refl R, .bl _, q⟩⟩
theorem lift_ne : Lift2 K (rNeD K) (rdEq true) := by
  intro Z H S F x y v w Q P R iv iw q k
  obtain ⟨p, q, e1, e2, s1, s2, q⟩ := q
  exact ⟨p, _, R.dp iv e1, R.dp iw e2, s1, s2, k _ _ ⟨_, S, F, .refl R, .bl _, q⟩⟩

/-! ### in, not in -/
def flatD : D → Bool
  | .non => true
  | .bl _ => true
  | .int _ => true
  | .str _ => true
  | _ => false
def eqF : D → D → Bool
  | .non, .non => true
  | .bl a, .bl b => a == b
  | .bl a, .int b => (if a then 1 else 0) == b
  | .int a, .bl b => a == (if b then 1 else 0)
  | .int a, .int b => a == b
  | .str a, .str b => a == b
  | _, _ => false
theorem flat_of {d : D} {v : V} (h : IsV K F d v) (f : flatD d = true) : flatV v = true := by
  cases h <;> first | rfl | exact absurd f Bool.false_ne_true
theorem eqF_of {d e : D} {v w : V} (h : IsV K F d v) (g : IsV K F e w) (f : flatD d = true) (f2 : flatD e = true) : eqV v w = eqF d e := by
  cases h <;> first | exact absurd f Bool.false_ne_true | (cases g <;> first | rfl | exact absurd f2 Bool.false_ne_true)
theorem flats_of : ∀ {ds : List D} {vs : List V}, IsVs K F ds vs → ds.all flatD = true → vs.all flatV = true
  | _, _, .nil, _ => rfl
  | _, _, .cons h t, f => by
    rw [List.all_cons, Bool.and_eq_true] at f ⊢
    exact ⟨flat_of h f.1, flats_of t f.2⟩
theorem any_of {d : D} {v : V} (h : IsV K F d v) (f : flatD d = true) : ∀ {ds : List D} {vs : List V}, IsVs K F ds vs → ds.all flatD = true → inV v vs = ds.any fun y => eqF y d
  | _, _, .nil, _ => rfl
  | _, _, .cons h2 t, g => by
    rw [List.all_cons, Bool.and_eq_true] at g
    show (eqV _ v || inV v _) = _
    rw [List.any_cons, eqF_of h2 h g.1 f, any_of h f t g.2]
/-- x in ds, all flat -/
def rdIn (neg : Bool) : DR2 := fun x y S Q => ∃ ds, (y = .tup ds ∨ y = .lst ds) ∧ flatD x = true ∧ ds.all flatD = true ∧ Q (.bl (if neg then !(ds.any fun z => eqF z x) else ds.any fun z => eqF z x)) S
theorem lift_in (neg : Bool) : Lift2 K (rIn K neg) (rdIn neg) := by
  intro Z H S F x y v w Q P R iv iw q k
  obtain ⟨ds, hy, fx, fs, q⟩ := q
  rcases hy with rfl | rfl
  · cases iw with
    | tup h1 h2 =>
      refine ⟨_, _, rfl, .inr (R.sqt (SqT.of h1)), flat_of iv fx, flats_of h2 fs, ?_⟩
      rw [any_of iv fx h2 fs]
      exact k _ _ ⟨_, S, F, .refl R, .bl _, q⟩
  · cases iw with
    | lst h1 h2 =>
      refine ⟨_, _, rfl, .inl (SqL.of (R.sub _ _ h1).1), flat_of iv fx, flats_of h2 fs, ?_⟩
      rw [any_of iv fx h2 fs]
      exact k _ _ ⟨_, S, F, .refl R, .bl _, q⟩
/-- one sign in a text -/
def rdInS (neg : Bool) : DR2 := fun x y S Q => ∃ (c : Nat) (z : Str), x = .str ⟨#[c]⟩ ∧ y = .str z ∧ Q (.bl (if neg then !decide (c ∈ z.cps.toList) else decide (c ∈ z.cps.toList))) S
theorem lift_inS : Lift2 K (fun x y H Q => ∃ (c : Nat) (z : Str), x = .str ⟨#[c]⟩ ∧ y = .str z ∧ Q (.bl (decide (c ∈ z.cps.toList))) H) (rdInS false) := by
  intro Z H S F x y v w Q P R iv iw q k
  obtain ⟨i, j, rfl, rfl, q⟩ := q
  cases iv; cases iw
  exact ⟨i, j, rfl, rfl, k _ _ ⟨_, S, F, .refl R, .bl _, q⟩⟩
/-! ### len, items, slices -/
def rdLen : DRL := fun xs S Q => match xs with
  | [.str z] => z.length ≤ sizeLine ∧ Q (.int z.length) S
  | [.tup ds] => Q (.int ds.length) S
  | [.kup ds] => Q (.int ds.length) S
  | [.ctp ds] => Q (.int ds.length) S
  | [.lst ds] => Q (.int ds.length) S
  | [.scr ds] => Q (.int ds.length) S
  | [.ref a] => ∃ ds, S a = some (.lst ds) ∧ Q (.int ds.length) S
  | _ => False
theorem lift_len : LiftL K (fun xs H Q => ∃ x n, xs = [x] ∧ LenV K x H n ∧ Q (.int n) H) rdLen := by
  intro Z H S F x v Q P R iv q k
  cases iv with
  | nil => exact False.elim q
  | cons h t =>
    cases t with
    | cons _ _ => cases h <;> exact False.elim q
    | nil =>
      cases h with
      | str z => exact ⟨_, _, rfl, ⟨q.1, rfl⟩, k _ _ ⟨_, S, F, .refl R, .int _, q.2⟩⟩
      | kup h1 h0 h2 => exact ⟨_, _, rfl, .inr ⟨_, R.sqt (.inl (.inr ⟨_, h1⟩)), rfl⟩, k _ _ ⟨_, S, F, .refl R, .int _, by rw [← h2.length]; exact q⟩⟩
      | ctp h1 h2 => exact ⟨_, _, rfl, .inr ⟨_, R.sqt h1, rfl⟩, k _ _ ⟨_, S, F, .refl R, .int _, by rw [← h2.length]; exact q⟩⟩
      | tup h1 h2 => exact ⟨_, _, rfl, .inr ⟨_, R.sqt (SqT.of h1), rfl⟩, k _ _ ⟨_, S, F, .refl R, .int _, by rw [← h2.length]; exact q⟩⟩
      | lst h1 h2 => exact ⟨_, _, rfl, .inl ⟨_, SqL.of (R.sub _ _ h1).1, rfl⟩, k _ _ ⟨_, S, F, .refl R, .int _, by rw [← h2.length]; exact q⟩⟩
      | scr h1 h2 => exact ⟨_, _, rfl, .inl ⟨_, R.sql h1, rfl⟩, k _ _ ⟨_, S, F, .refl R, .int _, by rw [← h2.length]; exact q⟩⟩
      | ref a =>
        obtain ⟨ds, hs, q⟩ := q
        obtain ⟨_, o, ho, vs, e, h2⟩ := R.sto a _ hs
        subst e
        exact ⟨_, _, rfl, .inl ⟨_, SqL.of ho, rfl⟩, k _ _ ⟨_, S, F, .refl R, .int _, by rw [← h2.length]; exact q⟩⟩
      | _ => exact False.elim q
theorem atI_D {ds : List D} {vs : List V} {i : Int} {d : D} (h : IsVs K F ds vs) (e : atI ds i = some d) : ∃ v, atI vs i = some v ∧ IsV K F d v := by
  unfold atI at e ⊢
  rw [← h.length]
  cases q : ixN ds.length i with
  | none => rw [q] at e; cases e
  | some j =>
    rw [q] at e
    exact h.get e
/-- xs[i] -/
def rdIx : DR2 := fun x y S Q => ∃ i, y = .int i ∧ match x with
  | .tup ds => ∃ d, atI ds i = some d ∧ Q d S
  | .ctp ds => ∃ d, atI ds i = some d ∧ Q d S
  | .kup ds => ∃ d, atI ds i = some d ∧ Q d S
  | .lst ds => ∃ d, atI ds i = some d ∧ Q d S
  | .str z => ∃ c, z.length ≤ sizeLine ∧ atI z.cps.toList i = some c ∧ Q (.str ⟨#[c]⟩) S
  | .ref a => ∃ ds d, S a = some (.lst ds) ∧ atI ds i = some d ∧ Q d S
  | _ => False
theorem lift_ix : Lift2 K (rIx K) rdIx := by
  intro Z H S F x y v w Q P R iv iw q k
  obtain ⟨i, rfl, q⟩ := q
  cases iw
  cases iv with
  | tup h1 h2 =>
    obtain ⟨d, e, q⟩ := q
    obtain ⟨v, e2, iv2⟩ := atI_D h2 e
    exact .inr (.inl ⟨_, _, _, v, rfl, rfl, R.sqt (SqT.of h1), e2, k _ _ ⟨_, S, F, .refl R, iv2, q⟩⟩)
  | ctp h1 h2 =>
    obtain ⟨d, e, q⟩ := q
    obtain ⟨v, e2, iv2⟩ := atI_D h2 e
    exact .inr (.inl ⟨_, _, _, v, rfl, rfl, R.sqt h1, e2, k _ _ ⟨_, S, F, .refl R, iv2, q⟩⟩)
  | kup h1 h0 h2 =>
    obtain ⟨d, e, q⟩ := q
    obtain ⟨v, e2, iv2⟩ := atI_D h2 e
    exact .inr (.inl ⟨_, _, _, v, rfl, rfl, R.sqt (.inl (.inr ⟨_, h1⟩)), e2, k _ _ ⟨_, S, F, .refl R, iv2, q⟩⟩)
  | lst h1 h2 =>
    obtain ⟨d, e, q⟩ := q
    obtain ⟨v, e2, iv2⟩ := atI_D h2 e
    exact .inl ⟨_, _, _, v, rfl, rfl, SqL.of (R.sub _ _ h1).1, e2, k _ _ ⟨_, S, F, .refl R, iv2, q⟩⟩
  | str z =>
    obtain ⟨c, z1, e, q⟩ := q
    exact .inr (.inr ⟨_, _, c, rfl, rfl, z1, e, k _ _ ⟨_, S, F, .refl R, .str _, q⟩⟩)
  | ref a =>
    obtain ⟨ds, d, hs, e, q⟩ := q
    obtain ⟨_, o, ho, vs, e3, h2⟩ := R.sto a _ hs
    subst e3
    obtain ⟨v, e2, iv2⟩ := atI_D h2 e
    exact .inl ⟨_, _, _, v, rfl, rfl, SqL.of ho, e2, k _ _ ⟨_, S, F, .refl R, iv2, q⟩⟩
  | _ => exact False.elim q
theorem de_ix {X : Cx} {W : WX} {a b : Expr} {ta tb : DTE} {pos : Pos} (ha : DE X W a ta) (hb : DE X W b tb) (hs : PlainIx b := by exact fun _ _ => rfl) : DE X W (.Subscript a b pos) (dOp rdIx ta tb) := de_pe (pe_ix ix_seq ha.pe hb.pe hs) (lift_op lift_ix)

def cutD {α : Type} (xs : List α) (lo hi : Option Int) : List α := (xs.drop (HT.sIx xs.length 0 lo)).take (HT.sIx xs.length xs.length hi - HT.sIx xs.length 0 lo)
theorem isVs_cut {ds : List D} {vs : List V} (h : IsVs K F ds vs) (lo hi : Option Int) : IsVs K F (cutD ds lo hi) (cutV vs lo hi) := by
  unfold cutD cutV
  rw [h.length]
  exact (h.drop _).take _
/-- the parts of a slice -/
abbrev DTO := Sl → Store → (Option Int → Store → Prop) → DX → Prop
def LftO (K : PySem.W.Frag) (Z : Addr → Prop) (H F : Hp) (Q : Option Int → Store → Prop) : Option Int → Hp → Prop := fun b H' => ∃ S' F', Aft K Z H F H' S' F' ∧ Q b S'
def upO (K : PySem.W.Frag) (W : WX) (T : DTO) : TO := fun σ H P => ∃ ρ S F Z Q E, Rel K Z H S F ∧ EnvR K F ρ σ ∧ T ρ S Q E ∧ (∀ v H', LftO K Z H F Q v H' → P v H') ∧ ∀ cls d H', LftX K Z H F E cls d H' → W cls d σ H'
structure DO (X : Cx) (W : WX) (e : Option Expr) (T : DTO) : Prop where
  po : PO X e (upO X.K W T)
def dNoPart : DTO := fun _ S Q _ => Q none S
def dPart (t : DTE) : DTO := fun ρ S Q E => t ρ S (fun x S1 => ∃ i, x = .int i ∧ Q (some i) S1) E
theorem po_imp {X : Cx} {e : Option Expr} {t t' : TO} (h : PO X e t) (i : ∀ σ H P, t' σ H P → t σ H P) : PO X e t' := ⟨fun pins s σ H Q I q => h.run pins s σ H Q I (i σ H Q q)⟩
variable {X : Cx} {W : WX} {e : Expr} {te : DTE} {lo hi : Option Expr} {tl th : DTO} {pos p2 : Pos}
theorem do_none : DO X W none dNoPart := ⟨po_imp po_none fun σ H P ⟨ρ, S, F, Z, Q, E, R, V, q, k, _⟩ => k none H ⟨S, F, .refl R, q⟩⟩
theorem do_some (h : DE X W e te) : DO X W (some e) (dPart te) := ⟨po_imp (po_some h.pe) fun σ H P ⟨ρ, S, F, Z, Q, E, R, V, q, k, x⟩ => ⟨ρ, S, F, Z, _, E, R, V, q, fun v H1 ⟨d, S1, F1, A1, i1, i, hd, q1⟩ => by
  subst hd
  cases i1
  exact ⟨i, rfl, k _ H1 ⟨S1, F1, A1, q1⟩⟩, x⟩⟩
def rdSl : D → Option Int → Option Int → Store → DQ → Prop := fun x lo hi S Q => match x with
  | .tup ds => Q (.tup (cutD ds lo hi)) S
  | .kup ds => cutD ds lo hi ≠ ds ∧ Q (.tup (cutD ds lo hi)) S
  | .lst ds => Q (.lst (cutD ds lo hi)) S
  | .scr ds => Q (.lst (cutD ds lo hi)) S
  | .ref a => ∃ ds, S a = some (.lst ds) ∧ Q (.lst (cutD ds lo hi)) S
  | _ => False
def rSlV (K : PySem.W.Frag) : V → Option Int → Option Int → Hp → VK → Prop := fun x lo hi H Q => rSlA K x lo hi H Q ∨ rSlL K x lo hi H Q
theorem sl_any : SlR X (rSlV X.K) := sl_tupA.or sl_list
theorem lift_sl : ∀ Z H S F x v lo hi Q P, Rel K Z H S F → IsV K F x v → rdSl x lo hi S Q → (∀ v' H', LftE K Z H F Q v' H' → P v' H') → rSlV K v lo hi H P := by
  intro Z H S F x v lo hi Q P R iv q k
  have lst : ∀ {ds : List D} {vs : List V} {a : Addr}, SqL K H a vs → IsVs K F ds vs → Q (.lst (cutD ds lo hi)) S → rSlV K (.ref a) lo hi H P := fun {ds vs a} h1 h2 q => by
    refine .inr ⟨_, _, rfl, h1, fun p hp => ?_⟩
    obtain ⟨R2, s2, k2⟩ := R.laid (o := .lst (cutV vs lo hi)) hp
    exact k _ _ ⟨_, S, _, ⟨s2, R2, k2⟩, .lst upd_same ((isVs_cut h2 lo hi).up s2), q⟩
  cases iv with
  | tup h1 h2 =>
    rename_i a vs ds
    refine .inl ⟨_, _, rfl, R.sqt (SqT.of h1), fun w => ?_, fun _ p hp => ?_⟩
    · have e : cutD ds lo hi = ds := by
        unfold cutD
        rw [h2.length, w.1, w.2, List.drop_zero, Nat.sub_zero, ← h2.length, List.take_length]
      have q' : Q (.tup (cutD ds lo hi)) S := q
      rw [e] at q'
      exact k _ _ ⟨_, S, F, .refl R, .tup h1 h2, q'⟩
    · obtain ⟨R2, s2, k2⟩ := R.laid (o := .tup (cutV vs lo hi)) hp
      exact k _ _ ⟨_, S, _, ⟨s2, R2, k2⟩, .tup upd_same ((isVs_cut h2 lo hi).up s2), q⟩
  | kup h1 h0 h2 =>
    rename_i a o vs ds
    obtain ⟨qn, q⟩ := q
    refine .inl ⟨_, _, rfl, R.sqt (.inl (.inr ⟨_, h1⟩)), fun w => ?_, fun _ p hp => ?_⟩
    · refine absurd ?_ qn
      unfold cutD
      rw [h2.length, w.1, w.2, List.drop_zero, Nat.sub_zero, ← h2.length, List.take_length]
    · obtain ⟨R2, s2, k2⟩ := R.laid (o := .tup (cutV vs lo hi)) hp
      exact k _ _ ⟨_, S, _, ⟨s2, R2, k2⟩, .tup upd_same ((isVs_cut h2 lo hi).up s2), q⟩
  | lst h1 h2 => exact lst (SqL.of (R.sub _ _ h1).1) h2 q
  | scr h1 h2 => exact lst (R.sql h1) h2 q
  | ref a =>
    obtain ⟨ds, hs, q⟩ := q
    obtain ⟨_, o, ho, vs, e3, h2⟩ := R.sto a _ hs
    subst e3
    exact lst (SqL.of ho) h2 q
  | _ => exact False.elim q
def dSl (te : DTE) (tl th : DTO) : DTE := fun ρ S Q E => te ρ S (fun x S1 => tl ρ S1 (fun l S2 => th ρ S2 (fun u S3 => rdSl x l u S3 Q) E) E) E
theorem de_slice (he : DE X W e te) (hl : DO X W lo tl) (hu : DO X W hi th) : DE X W (.Subscript e (.Slice lo hi none p2) pos) (dSl te tl th) :=
  de_pe (pe_slice sl_any he.pe hl.po hu.po) fun σ H P ⟨ρ, S, F, Z, Q, E, R, V, q, k, x⟩ => ⟨ρ, S, F, Z, _, E, R, V, q, fun v H1 ⟨d, S1, F1, A1, i1, q1⟩ =>
    ⟨ρ, S1, F1, Z, _, E, A1.rel, V.up A1.sm, q1, fun l H2 ⟨S2, F2, A2, q2⟩ => ⟨ρ, S2, F2, Z, _, E, A2.rel, (V.up A1.sm).up A2.sm, q2, fun u H3 ⟨S3, F3, A3, q3⟩ =>
      lift_sl Z H3 S3 F3 d v l u Q P A3.rel ((i1.up A2.sm).up A3.sm) q3 fun v' H' ⟨d', S', F', A4, i4, q4⟩ => k v' H' ⟨d', S', F', A1.trans (A2.trans (A3.trans A4)), i4, q4⟩, xe_tr x (A1.trans A2)⟩, xe_tr x A1⟩, x⟩
end
end DL

set_option maxRecDepth 100000
/-! DL, statements, loops, comprehensions. -/
namespace DL
open PySem PySem.Spec L2

/-! ### targets -/
/-- a name in slot i; names in slots is, of a tuple -/
inductive Tgt where
  | name (i : Nat) | tup (is : List Nat)
def setAll {α : Type} (ρ : List (Option α)) : List Nat → List α → List (Option α)
  | i :: is, d :: ds => setAll (ρ.set i (some d)) is ds
  | _, _ => ρ
def bindT (tg : Tgt) (d : D) (ρ : Sl) : Option Sl := match tg, d with
  | .name i, d => some (ρ.set i (some d))
  | .tup is, .tup ds => if ds.length = is.length then some (setAll ρ is ds) else none
  | .tup is, .ctp ds => if ds.length = is.length then some (setAll ρ is ds) else none
  | .tup is, .kup ds => if ds.length = is.length then some (setAll ρ is ds) else none
  | _, _ => none
section
variable {K : PySem.W.Frag} {F : Hp}
theorem EnvR.setAll {ρ : Sl} {σ : L2.St} (h : EnvR K F ρ σ) : ∀ (is : List Nat) {ds : List D} {vs : List V}, IsVs K F ds vs → EnvR K F (DL.setAll ρ is ds) (DL.setAll σ is vs)
  | [], _, _, _ => h
  | i :: is, _, _, .nil => h
  | i :: is, _, _, .cons a b => EnvR.setAll (h.set a i) is b
/-- the hand layer's target of a Tgt -/
def tgV (K : PySem.W.Frag) : Tgt → TG
  | .name i => gName i
  | .tup is => gTup K is.length (is.foldr (fun i u => gCons (gName i) u) gNil)
theorem gnames {σ : L2.St} {H : Hp} {Q : L2.St → Hp → Prop} : ∀ (is : List Nat) (vs : List V) (σ : L2.St), vs.length = is.length → Q (setAll σ is vs) H → (is.foldr (fun i u => gCons (gName i) u) gNil) vs σ H Q
  | [], [], σ, _, q => ⟨rfl, q⟩
  | i :: is, v :: vs, σ, h, q => ⟨v, vs, rfl, gnames (σ := σ) is vs (σ.set i (some v)) (by simpa using h) q⟩
  | [], _ :: _, _, h, _ => by simp at h
  | _ :: _, [], _, h, _ => by simp at h
theorem tgV_ok {Z : Addr → Prop} {H : Hp} {S : Store} (R : Rel K Z H S F) {tg : Tgt} {d : D} {v : V} {ρ ρ1 : Sl} {σ : L2.St} {Q : L2.St → Hp → Prop} (E : EnvR K F ρ σ) (iv : IsV K F d v) (e : bindT tg d ρ = some ρ1)
    (q : ∀ σ1, EnvR K F ρ1 σ1 → (∃ is vs, σ1 = setAll σ is vs ∧ (tg = .tup is ∨ ∃ i w, tg = .name i ∧ is = [i] ∧ vs = [w])) → Q σ1 H) : tgV K tg v σ H Q := by
  cases tg with
  | name i =>
    cases e
    exact q _ (E.set iv i) ⟨[i], [v], rfl, .inr ⟨i, v, rfl, rfl, rfl⟩⟩
  | tup is =>
    cases iv with
    | tup h1 h2 =>
      rename_i a vs ds
      unfold bindT at e
      dsimp only at e
      by_cases c : ds.length = is.length
      · rw [if_pos c] at e
        cases e
        have hl : vs.length = is.length := by rw [← h2.length]; exact c
        exact ⟨a, vs, rfl, R.sqt (SqT.of h1), hl, gnames (σ := σ) is vs σ hl (q _ (E.setAll is h2) ⟨is, vs, rfl, .inl rfl⟩)⟩
      · rw [if_neg c] at e; cases e
    | ctp h1 h2 =>
      rename_i a vs ds
      unfold bindT at e
      dsimp only at e
      by_cases c : ds.length = is.length
      · rw [if_pos c] at e
        cases e
        have hl : vs.length = is.length := by rw [← h2.length]; exact c
        exact ⟨a, vs, rfl, R.sqt h1, hl, gnames (σ := σ) is vs σ hl (q _ (E.setAll is h2) ⟨is, vs, rfl, .inl rfl⟩)⟩
      · rw [if_neg c] at e; cases e
    | kup h1 h0 h2 =>
      rename_i a ob vs ds
      unfold bindT at e
      dsimp only at e
      by_cases c : ds.length = is.length
      · rw [if_pos c] at e
        cases e
        have hl : vs.length = is.length := by rw [← h2.length]; exact c
        exact ⟨a, vs, rfl, R.sqt (.inl (.inr ⟨_, h1⟩)), hl, gnames (σ := σ) is vs σ hl (q _ (E.setAll is h2) ⟨is, vs, rfl, .inl rfl⟩)⟩
      · rw [if_neg c] at e; cases e
    | _ => cases e
end

/-! ### blocks, small statements -/
section
variable {X : Cx} {W : WX} {st : Stmt} {rest : List Stmt} {t u : DTS} {e : Expr} {te : DTE} {pos : Pos}
theorem ds_ps {st : Stmt} {t : TS} {T : DTS} (h : PS X st t) (i : ∀ N σ H, upS X.K W T N σ H → t N σ H) : DS X W st T := ⟨ps_imp h i⟩
def dNext : DTS := fun N ρ S => N.nx ρ S
def dSeq (t u : DTS) : DTS := fun N ρ S => t { N with nx := u N } ρ S
theorem dss_nil : DSs X W [] dNext := ⟨pss_imp pss_nil fun N σ H ⟨ρ, S, F, Z, Q, R, V, q, l⟩ => l.nx σ H ⟨ρ, S, F, .refl R, V, q⟩⟩
theorem dss_cons (h1 : DS X W st t) (h2 : DSs X W rest u) : DSs X W (st :: rest) (dSeq t u) :=
  ⟨pss_imp (pss_cons h1.ps h2.pss) fun N σ H ⟨ρ, S, F, Z, Q, R, V, q, l⟩ => ⟨ρ, S, F, Z, { Q with nx := u Q }, R, V, q,
    ⟨fun σ1 H1 ⟨ρ1, S1, F1, A1, V1, q1⟩ => ⟨ρ1, S1, F1, Z, Q, A1.rel, V1, q1, l.tr A1⟩, l.rt, l.bk, l.ct, l.ex⟩⟩⟩
theorem dss_one (h1 : DS X W st t) : DSs X W [st] t := ⟨pss_one h1.ps⟩
def dRet (te : DTE) : DTS := fun N ρ S => te ρ S N.rt (N.ex ρ)
theorem ds_ret (he : DE X W e te) : DS X W (.Return (some e) pos) (dRet te) := ds_ps (ps_ret he.pe) fun N σ H ⟨ρ, S, F, Z, Q, R, V, q, l⟩ => ⟨ρ, S, F, Z, _, _, R, V, q, l.rt, l.xe V⟩
def dDrop (te : DTE) : DTS := fun N ρ S => te ρ S (fun _ S1 => N.nx ρ S1) (N.ex ρ)
theorem ds_expr (he : DE X W e te) (hs : swapsWith e none pos.line X.env = pure false := by rfl) : DS X W (.Expr e pos) (dDrop te) :=
  ds_ps (ps_expr he.pe hs) fun N σ H ⟨ρ, S, F, Z, Q, R, V, q, l⟩ => ⟨ρ, S, F, Z, _, _, R, V, q, fun v H1 ⟨d, S1, F1, A1, i1, q1⟩ => l.nx _ _ ⟨ρ, S1, F1, A1, V.up A1.sm, q1⟩, l.xe V⟩
def dIfS (c : DTT) (t u : DTS) : DTS := fun N ρ S => c ρ S (fun b S1 => if b = true then t N ρ S1 else u N ρ S1) (N.ex ρ)
theorem ds_if {c : Expr} {a b : List Stmt} {tc : DTT} (hc : DT X W c tc) (ha : DSs X W a t) (hb : DSs X W b u) : DS X W (.If c a b pos) (dIfS tc t u) :=
  ds_ps (ps_if hc.pt ha.pss hb.pss) fun N σ H ⟨ρ, S, F, Z, Q, R, V, q, l⟩ => ⟨ρ, S, F, Z, _, _, R, V, q, fun c H1 ⟨S1, F1, A1, q1⟩ => by
    cases c with
    | true => exact iteT ⟨ρ, S1, F1, Z, Q, A1.rel, V.up A1.sm, iteT' q1, l.tr A1⟩
    | false => exact iteF ⟨ρ, S1, F1, Z, Q, A1.rel, V.up A1.sm, iteF' q1, l.tr A1⟩, l.xe V⟩

/-- name = value -/
def dAsg (te : DTE) (tg : Tgt) : DTS := fun N ρ S => te ρ S (fun d S1 => ∃ ρ1, bindT tg d ρ = some ρ1 ∧ N.nx ρ1 S1) (N.ex ρ)
theorem asg_lift {te : DTE} {tg : Tgt} : ∀ N σ H, upS X.K W (dAsg te tg) N σ H → tAsg (upE X.K W te) (tgV X.K tg) N σ H := fun N σ H ⟨ρ, S, F, Z, Q, R, V, q, l⟩ =>
  ⟨ρ, S, F, Z, _, _, R, V, q, fun v H1 ⟨d, S1, F1, A1, i1, ρ1, hb, q1⟩ => tgV_ok A1.rel (V.up A1.sm) i1 hb fun σ1 V1 _ => l.nx _ _ ⟨ρ1, S1, F1, A1, V1, q1⟩, l.xe V⟩
theorem ds_set {i : Nat} {x : Str} {pos' : Pos} (hN : X.N.Nodup) (he : DE X W e te) (hi : X.N[i]? = some x := by rfl) (hx : Loc X.env.scope x := by first | exact Or.inl rfl | exact Or.inr rfl) (hs : swapsWith e (some (.Name x pos')) pos.line X.env = pure false := by rfl)
    (hf : X.fn x = true ∨ X.env.scope.names.lookup x = some .local := by first | exact .inl rfl | exact .inr rfl | assumption) : DS X W (.Assign [.Name x pos'] e pos) (dAsg te (.name i)) := ds_ps (ps_set hN hi hx he.pe hs hf) asg_lift
/-- names in slots, for a tuple target -/
structure GNames (X : Cx) (ts : List Expr) (is : List Nat) : Prop where
  pg : PGs X ts (is.foldr (fun i u => gCons (gName i) u) gNil)
theorem gn_nil : GNames X [] [] := ⟨pgs_nil⟩
theorem gn_cons {x : Str} {p : Pos} {ts : List Expr} {is : List Nat} (i : Nat) (hN : X.N.Nodup) (h : GNames X ts is) (hi : X.N[i]? = some x := by rfl) (hx : Loc X.env.scope x := by first | exact Or.inl rfl | exact Or.inr rfl)
    (hf : X.fn x = true ∨ X.env.scope.names.lookup x = some .local := by first | exact .inl rfl | exact .inr rfl | assumption)
    (hs : (assignEach (.Name x p :: ts) X.env).map (·.2) = assign (.Name x p) X.env :: (assignEach ts X.env).map (·.2) := by rfl) : GNames X (.Name x p :: ts) (i :: is) := ⟨pgs_cons (pg_name hN hi hx hf) h.pg hs⟩
/-- a target -/
structure DG (X : Cx) (tg : Expr) (g : Tgt) : Prop where
  pg : PG X tg (tgV X.K g)
theorem dg_name {x : Str} {p : Pos} (i : Nat) (hN : X.N.Nodup) (hi : X.N[i]? = some x := by rfl) (hx : Loc X.env.scope x := by first | exact Or.inl rfl | exact Or.inr rfl)
    (hf : X.fn x = true ∨ X.env.scope.names.lookup x = some .local := by first | exact .inl rfl | exact .inr rfl | assumption) : DG X (.Name x p) (.name i) := ⟨pg_name hN hi hx hf⟩
theorem dg_tup {ts : List Expr} {k : Nat} {is : List Nat} (hc : X.calm = true) (h : GNames X ts is) (hn : (assignEach ts X.env).length = is.length := by rfl) (hst : (assignEach ts X.env).findIdx? (·.1) = none := by rfl) : DG X (.Tuple ts k pos) (.tup is) :=
  ⟨pg_tup hc h.pg hn hst⟩
theorem ds_asg {tg : Expr} {g : Tgt} (he : DE X W e te) (hg : DG X tg g) (hs : swapsWithSole [tg] e pos.line X.env = pure false := by rfl) (hw : swappedStores [tg] e X.env = pure none := by rfl)
    (h1 : (assignEach [tg] X.env).map (·.2) = [assign tg X.env] := by rfl) : DS X W (.Assign [tg] e pos) (dAsg te g) := ds_ps (ps_asg he.pe hg.pg hs hw h1) asg_lift
/-- a, b = x, y, both plain local names -/
def dPar (i j : Nat) (ta : DTA) : DTS := fun N ρ S => ta ρ S (fun ds S1 => ∃ d1 d2, ds = [d1, d2] ∧ N.nx ((ρ.set i (some d1)).set j (some d2)) S1) (N.ex ρ)
theorem ds_par {i j : Nat} {x y : Str} {a b : Expr} {ta : DTA} {px py pt : Pos} {kt k2 pt2} (hc : X.calm = true) (hN : X.N.Nodup) (ha : DA X W [a, b] ta)
    (hw : swappedStores [.Tuple [.Name x px, .Name y py] kt pt] (.Tuple [a, b] k2 pt2) X.env = pure (some [x, y])) (hi : X.N[i]? = some x := by rfl) (hj : X.N[j]? = some y := by rfl) (hij : i ≠ j := by decide)
    (hx : X.env.scope.names.lookup x = some .local := by rfl) (hy : X.env.scope.names.lookup y = some .local := by rfl)
    (hs : swapsWithSole [.Tuple [.Name x px, .Name y py] kt pt] (.Tuple [a, b] k2 pt2) pos.line X.env = pure false := by rfl) :
    DS X W (.Assign [.Tuple [.Name x px, .Name y py] kt pt] (.Tuple [a, b] k2 pt2) pos) (dPar i j ta) :=
  ds_ps (ps_par hc hN hi hj hij hx hy ha.pa hw hs) fun N σ H ⟨ρ, S, F, Z, Q, R, V, q, l⟩ => ⟨ρ, S, F, Z, _, _, R, V, q, fun vs H1 ⟨ds, S1, F1, A1, i1, d1, d2, hd, q1⟩ => by
    subst hd
    cases i1 with
    | cons r1 r =>
      cases r with
      | cons r2 r =>
        cases r
        exact ⟨_, _, rfl, l.nx _ _ ⟨_, S1, F1, A1, ((V.up A1.sm).set r1 i).set r2 j, q1⟩⟩, l.xe V⟩
end

/-! ### what is walked -/
structure ItOk (K : PySem.W.Frag) (J : It) (items : List D) (F : Hp) : Prop where
  go : ∀ H S F' Z, Same F F' → Rel K Z H S F' → ∀ i, i < items.length → J.go i H
  stop : ∀ H S F' Z, Same F F' → Rel K Z H S F' → J.stop items.length H
  yld : ∀ H S F' Z, Same F F' → Rel K Z H S F' → ∀ i x H', i < items.length → J.yld i H x H' → ∃ F'' d, Aft K Z H F' H' S F'' ∧ items[i]? = some d ∧ IsV K F'' d x
abbrev DTI := Sl → Store → (List D → Store → Prop) → DX → Prop
def upI (K : PySem.W.Frag) (W : WX) (T : DTI) : TI := fun σ H P => ∃ ρ S F Z Q E, Rel K Z H S F ∧ EnvR K F ρ σ ∧ T ρ S Q E ∧ (∀ J H' items S' F', Aft K Z H F H' S' F' → ItOk K J items F' → Q items S' → P J H') ∧ ∀ cls d H', LftX K Z H F E cls d H' → W cls d σ H'
structure DI (X : Cx) (W : WX) (tg iter : Expr) (T : DTI) : Prop where
  pi : PI X tg iter (upI X.K W T)
theorem pi_imp {X : Cx} {tg e : Expr} {t t' : TI} (h : PI X tg e t) (i : ∀ σ H P, t' σ H P → t σ H P) : PI X tg e t' := ⟨fun pins s σ H R I q => h.run pins s σ H R I (i σ H R q)⟩
section
variable {X : Cx} {W : WX} {tg e : Expr} {te : DTE}
/-- the items of a list -/
def dItL (te : DTE) : DTI := fun ρ S Q E => te ρ S (fun d S1 => ∃ ds, (d = .lst ds ∨ d = .scr ds) ∧ Q ds S1) E
def dItT (te : DTE) : DTI := fun ρ S Q E => te ρ S (fun d S1 => ∃ ds, d = .tup ds ∧ Q ds S1) E
theorem itOk_list {K : PySem.W.Frag} {F : Hp} {a : Addr} {vs : List V} {ds : List D} (h1 : SqL K F a vs) (h2 : IsVs K F ds vs) : ItOk K (Itl K a) ds F where
  go := fun H S F' Z s R i hi => ⟨vs, vs[i]'(by rw [← h2.length]; exact hi), R.sql (L2.Same.seq s h1), List.getElem?_eq_getElem _⟩
  stop := fun H S F' Z s R => ⟨vs, R.sql (L2.Same.seq s h1), by rw [h2.length]; exact Nat.le_refl _⟩
  yld := fun H S F' Z s R i x H' hi hy => by
    obtain ⟨rfl, hy⟩ := hy
    have e := hy vs (R.sql (L2.Same.seq s h1))
    obtain ⟨d, hd, iv⟩ := h2.getV e
    exact ⟨F', d, .refl R, hd, iv.up s⟩
theorem di_list (h : DE X W e te) : DI X W tg e (dItL te) := ⟨pi_imp (pi_list h.pe) fun σ H P ⟨ρ, S, F, Z, Q, E, R, V, q, k, x⟩ => ⟨ρ, S, F, Z, _, E, R, V, q, fun v H1 ⟨d, S1, F1, A1, i1, ds, hd, q1⟩ => by
  rcases hd with rfl | rfl
  · cases i1 with
    | lst h1 h2 =>
      exact ⟨_, rfl, ⟨_, SqL.of (A1.rel.sub _ _ h1).1⟩, k _ _ ds S1 F1 A1 (itOk_list (SqL.of h1) h2) q1⟩
  · cases i1 with
    | scr h1 h2 => exact ⟨_, rfl, ⟨_, A1.rel.sql h1⟩, k _ _ ds S1 F1 A1 (itOk_list h1 h2) q1⟩, x⟩⟩
theorem di_tup (h : DE X W e te) : DI X W tg e (dItT te) := ⟨pi_imp (pi_tup h.pe) fun σ H P ⟨ρ, S, F, Z, Q, E, R, V, q, k, x⟩ => ⟨ρ, S, F, Z, _, E, R, V, q, fun v H1 ⟨d, S1, F1, A1, i1, ds, hd, q1⟩ => by
  subst hd
  cases i1 with
  | tup h1 h2 =>
    refine ⟨_, rfl, ⟨_, A1.rel.sqt (SqT.of h1)⟩, k _ _ ds S1 F1 A1 ⟨fun H S F' Z s R i hi => ?_, fun H S F' Z s R => ?_, fun H S F' Z s R i x H' hi hy => ?_⟩ q1⟩
    · exact ⟨_, _, R.sqt (SqT.of (s _ _ h1)), List.getElem?_eq_getElem (by rw [← h2.length]; exact hi)⟩
    · exact ⟨_, R.sqt (SqT.of (s _ _ h1)), by rw [h2.length]; exact Nat.le_refl _⟩
    · obtain ⟨rfl, hy⟩ := hy
      have e := hy _ (R.sqt (SqT.of (s _ _ h1)))
      obtain ⟨d, hd, iv⟩ := h2.getV e
      exact ⟨F', d, .refl R, hd, iv.up s⟩, x⟩⟩
/-- range -/
def dItR (lo : Int) (n : Nat) : List D := (List.range n).map fun (i : Nat) => D.int (lo + i)
theorem itOk_range {K : PySem.W.Frag} {F : Hp} (lo : Int) (n : Nat) : ItOk K (Itr lo n) (dItR lo n) F where
  go := fun H S F' Z s R i hi => by
    have h : i < (dItR lo n).length := hi
    unfold dItR at h
    rw [List.length_map, List.length_range] at h
    exact h
  stop := fun H S F' Z s R => by
    show n ≤ (dItR lo n).length
    unfold dItR
    rw [List.length_map, List.length_range]
    exact Nat.le_refl _
  yld := fun H S F' Z s R i x H' hi hy => by
    obtain ⟨rfl, rfl⟩ := hy
    have h : i < (dItR lo n).length := hi
    unfold dItR at h
    rw [List.length_map, List.length_range] at h
    refine ⟨F', .int (lo + i), .refl R, ?_, .int _⟩
    unfold dItR
    rw [List.getElem?_map, List.getElem?_range h]
    rfl
def dIt1 (ta : DTA) : DTI := fun ρ S Q E => ta ρ S (fun ds S1 => ∃ j : Int, ds = [.int j] ∧ -(2 ^ 62) ≤ j ∧ j < 2 ^ 62 ∧ Q (dItR 0 j.toNat) S1) E
theorem di_range1 {a : Expr} {ta : DTA} {p pos : Pos} (hm : X.mg "range" = none) (ha : DA X W [a] ta) (hg : Gl X "range" := by rfl) (hs : starEach [a] X.env = [(false, eval a X.env)] := by rfl) : DI X W tg (.Call (.Name "range" p) [a] [] pos) (dIt1 ta) :=
  ⟨pi_imp (pi_range1 hg hm ha.pa hs) fun σ H P ⟨ρ, S, F, Z, Q, E, R, V, q, k, x⟩ => ⟨ρ, S, F, Z, _, E, R, V, q, fun v H1 ⟨d, S1, F1, A1, i1, j, hd, z1, z2, q1⟩ => by
    subst hd
    cases i1 with
    | cons r1 r =>
      cases r1; cases r
      exact ⟨j, rfl, z1, z2, k _ _ _ S1 F1 A1 (itOk_range 0 _) q1⟩, x⟩⟩
end

/-! ### for -/
def dForGo (tg : Tgt) (tb : DTS) : List D → DTS
  | [] => fun N ρ S => N.nx ρ S
  | d :: r => fun N ρ S => ∃ ρ1, bindT tg d ρ = some ρ1 ∧ tb { nx := fun ρ2 S2 => dForGo tg tb r N ρ2 S2, ct := fun ρ2 S2 => dForGo tg tb r N ρ2 S2, bk := N.nx, rt := N.rt, ex := N.ex } ρ1 S
def dFor (ti : DTI) (tg : Tgt) (tb : DTS) : DTS := fun N ρ S => ti ρ S (fun items S1 => dForGo tg tb items N ρ S1) (N.ex ρ)
theorem drop_at {α : Type} {l : List α} {i : Nat} {d : α} (h : l[i]? = some d) : l.drop i = d :: l.drop (i + 1) := by
  obtain ⟨h1, h2⟩ := List.getElem?_eq_some_iff.mp h
  rw [List.drop_eq_getElem_cons h1, h2]
section
variable {X : Cx} {W : WX} {tg iter : Expr} {body : List Stmt} {ti : DTI} {g : Tgt} {tb : DTS} {pos : Pos}
theorem ds_for (hc : X.calm = true) (hi : DI X W tg iter ti) (hg : DG X tg g) (hb : DSs X W body tb) (hp : PassesOwn (model X.prog X.w) X.A X.env X.xe) (hs : ∀ x, foldedSetIterable iter X.env x = pure x := by intro _; rfl) : DS X W (.For tg iter body [] pos) (dFor ti g tb) := by
  refine ds_ps (ps_for hp hc hi.pi hg.pg hb.pss hs) fun N σ H ⟨ρ, S, F, Z, Q, R, V, q, l⟩ => ?_
  refine ⟨ρ, S, F, Z, _, _, R, V, q, fun J H1 items S1 F1 A1 ok q1 => ?_, l.xe V⟩
  refine ⟨fun i m σ' H' => m = items.length - i ∧ i ≤ items.length ∧ ∃ ρ' S' F', Aft X.K Z H1 F1 H' S' F' ∧ EnvR X.K F' ρ' σ' ∧ dForGo g tb (items.drop i) Q ρ' S', ⟨items.length, rfl, Nat.zero_le _, ρ, S1, F1, .refl A1.rel, V.up A1.sm, q1⟩, ?_⟩
  rintro i m σ2 H2 ⟨rfl, hi, ρ2, S2, F2, A2, V2, q2⟩
  by_cases hlt : i < items.length
  · refine .inr ⟨ok.go H2 S2 F2 Z A2.sm A2.rel i hlt, fun σ' H' => i + 1 ≤ items.length ∧ ∃ ρ' S' F', Aft X.K Z H1 F1 H' S' F' ∧ EnvR X.K F' ρ' σ' ∧ dForGo g tb (items.drop (i + 1)) Q ρ' S', fun σ' H' p' => ⟨items.length - (i + 1), by omega, rfl, p'⟩, fun x H3 hy => ?_⟩
    obtain ⟨F3, d, A3, hd, iv⟩ := ok.yld H2 S2 F2 Z A2.sm A2.rel i x H3 hlt hy
    rw [drop_at hd] at q2
    obtain ⟨ρ3, hb3, q3⟩ := q2
    have A := A2.trans A3
    refine tgV_ok A3.rel (V2.up A3.sm) iv hb3 fun σ3 V3 _ => ?_
    have l3 := l.tr (A1.trans A)
    exact ⟨ρ3, S2, F3, Z, _, A3.rel, V3, q3, ⟨fun σ' H' ⟨ρ', S', F', A', V', q'⟩ => ⟨hlt, ρ', S', F', A.trans A', V', q'⟩, l3.rt, l3.nx, fun σ' H' ⟨ρ', S', F', A', V', q'⟩ => ⟨hlt, ρ', S', F', A.trans A', V', q'⟩, l3.ex⟩⟩
  · have e : i = items.length := by omega
    subst e
    rw [List.drop_length] at q2
    exact .inl ⟨ok.stop H2 S2 F2 Z A2.sm A2.rel, l.nx _ _ ⟨ρ2, S2, F2, A1.trans A2, V2, q2⟩⟩
end

/-! ### comprehensions -/
def wipeD (ρ : Sl) : List Nat → Sl
  | [] => ρ
  | v :: vs => (wipeD ρ vs).set v none
theorem EnvR.wipe {K : PySem.W.Frag} {F : Hp} {ρ : Sl} {σ : L2.St} (h : EnvR K F ρ σ) : ∀ vs, EnvR K F (wipeD ρ vs) (L2.wipe σ vs)
  | [] => h
  | v :: vs => (EnvR.wipe h vs).forget v
theorem wipe_set {σ : L2.St} {i : Nat} {x : Option V} : ∀ {vs : List Nat}, i ∈ vs → L2.wipe (σ.set i x) vs = L2.wipe σ vs
  | [], h => by cases h
  | v :: vs, h => by
    show (L2.wipe (σ.set i x) vs).set v none = (L2.wipe σ vs).set v none
    by_cases hm : i ∈ vs
    · rw [wipe_set hm]
    · have e : v = i := by
        rcases List.mem_cons.mp h with q | q
        · exact q.symm
        · exact absurd q hm
      subst e
      have key : ∀ (us : List Nat), v ∉ us → L2.wipe (σ.set v x) us = (L2.wipe σ us).set v x := by
        intro us
        induction us with
        | nil => intro _; rfl
        | cons u us ih =>
          intro hn
          show (L2.wipe (σ.set v x) us).set u none = ((L2.wipe σ us).set u none).set v x
          have h1 : v ≠ u := fun q => hn (by rw [q]; exact List.mem_cons_self)
          rw [ih fun q => hn (List.mem_cons_of_mem _ q), List.set_comm _ _ h1]
      rw [key vs hm, List.set_set]
theorem wipe_wipe {σ : L2.St} : ∀ vs us : List Nat, (∀ v ∈ us, v ∈ vs) → L2.wipe (L2.wipe σ us) vs = L2.wipe σ vs
  | vs, [], _ => rfl
  | vs, u :: us, h => by
    show L2.wipe ((L2.wipe σ us).set u none) vs = _
    rw [wipe_set (h u List.mem_cons_self), wipe_wipe vs us fun v hv => h v (List.mem_cons_of_mem _ hv)]
theorem wipe_setAll {vs : List Nat} : ∀ (is : List Nat) (ws : List V) (σ : L2.St), (∀ i ∈ is, i ∈ vs) → L2.wipe (setAll σ is ws) vs = L2.wipe σ vs
  | [], _, _, _ => rfl
  | _ :: _, [], _, _ => rfl
  | i :: is, w :: ws, σ, h => by
    show L2.wipe (setAll (σ.set i (some w)) is ws) vs = _
    rw [wipe_setAll is ws _ fun j hj => h j (List.mem_cons_of_mem _ hj), wipe_set (h i List.mem_cons_self)]
def Tgt.slots : Tgt → List Nat
  | .name i => [i]
  | .tup is => is
/-- the items' turns: acc is the list so far -/
def dLcGo (tg : Tgt) (tt : DTT) (te : DTE) (ρ : Sl) : List D → List D → Store → (List D → Store → Prop) → Prop
  | [], acc, S, Q => Q acc S
  | d :: r, acc, S, Q => ∃ ρ1, bindT tg d ρ = some ρ1 ∧ tt ρ1 S (fun b S1 => if b = true then te ρ1 S1 (fun y S2 => dLcGo tg tt te ρ r (acc ++ [y]) S2 Q) (fun _ _ _ _ => False) else dLcGo tg tt te ρ r acc S1 Q) fun _ _ _ _ => False
def dLcI (ti : DTI) (tg : Tgt) (tt : DTT) (te : DTE) (vs : List Nat) : DTA := fun ρ S Q E => ti ρ S (fun items S1 => items.length ≤ sizeLine ∧ dLcGo tg tt te (wipeD ρ vs) items [] S1 Q) E
/-- a comprehension; its list is never written -/
def dLc (ti : DTI) (tg : Tgt) (tt : DTT) (te : DTE) (vs : List Nat) : DTE := fun ρ S Q E => dLcI ti tg tt te vs ρ S (fun ds S1 => Q (.lst ds) S1) E
abbrev W0 : WX := fun _ _ _ _ => False
structure DTs (X : Cx) (ifs : List Expr) (T : DTT) : Prop where
  pt : PTs X ifs (upT X.K W0 T)
def dYes : DTT := fun _ S Q _ => Q true S
theorem pts_imp {X : Cx} {e : List Expr} {t t' : TT} (h : PTs X e t) (i : ∀ σ H P, t' σ H P → t σ H P) : PTs X e t' := ⟨fun pins s σ H Q I q => h.run pins s σ H Q I (i σ H Q q)⟩
theorem dts_nil {X : Cx} : DTs X [] dYes := ⟨pts_imp pts_nil fun σ H P ⟨ρ, S, F, Z, Q, E, R, V, q, k, _⟩ => k true H ⟨S, F, .refl R, q⟩⟩
theorem dts_one {X : Cx} {c : Expr} {t : DTT} (h : DT X W0 c t) : DTs X [c] t := ⟨pts_one h.pt⟩
section
variable {K : PySem.W.Frag} {W : WX} {ti : DTI} {g : Tgt} {tt : DTT} {te : DTE} {vs : List Nat}
theorem no_some {α : Type} {x : Option α} (h : ∀ y, x = some y → False) : x = none := by
  cases x with
  | none => rfl
  | some y => exact (h y rfl).elim
/-- the list under way is hidden from the element -/
theorem lc_lift (hv : ∀ i ∈ g.slots, i ∈ vs) {σ : L2.St} {H : Hp} {P : VK} {ρ : Sl} {S : Store} {F : Hp} {Z : Addr → Prop} {Qd : List D → Store → Prop} {Ex : DX} (R : Rel K Z H S F) (E : EnvR K F ρ σ) (q : dLcI ti g tt te vs ρ S Qd Ex)
    (k : ∀ (H1 F1 : Hp) (S1 : Store) (Dd : Addr) (ds : List D) (ws : List V), Aft K Z H F H1 S1 F1 → H1 Dd = some (.lst ws) → IsVs K F1 ds ws → S1 Dd = none → F1 Dd = none → ¬ Z Dd → Qd ds S1 → P (.ref Dd) H1) (xl : ∀ cls d H', LftX K Z H F Ex cls d H' → W cls d σ H') :
    tLc (upI K W ti) (tgV K g) (upT K W0 tt) (upE K W0 te) vs σ H P := by
  refine ⟨ρ, S, F, Z, _, _, R, E, q, fun J H1 items S1 F1 A1 ok ⟨hz, q1⟩ Dd hD => ?_, xl⟩
  have E1 : EnvR K F1 (wipeD ρ vs) (L2.wipe σ vs) := (E.up A1.sm).wipe vs
  -- the hidden list
  let Z' : Addr → Prop := fun b => Z b ∨ b = Dd
  have zD : ¬ Z Dd := fun z => by
    obtain ⟨o, e⟩ := A1.rel.hid Dd z
    rw [hD] at e; cases e
  have sD : S1 Dd = none := by
    cases e : S1 Dd with
    | none => rfl
    | some m =>
      obtain ⟨_, o, e2, _⟩ := A1.rel.sto Dd m e
      rw [hD] at e2; cases e2
  have fD : F1 Dd = none := by
    cases e : F1 Dd with
    | none => rfl
    | some o =>
      have := (A1.rel.sub Dd o e).1
      rw [hD] at this; cases this
  have down : ∀ {H' : Hp} {S' : Store} {F' : Hp}, Rel K Z' H' S' F' → Rel K Z H' S' F' ∧ S' Dd = none ∧ F' Dd = none := fun {H' S' F'} r =>
    ⟨⟨fun b u e => ⟨(r.sub b u e).1, (r.sub b u e).2.1, fun z => (r.sub b u e).2.2 (.inl z)⟩, fun b m e => ⟨fun z => (r.sto b m e).1 (.inl z), (r.sto b m e).2⟩, fun b z => r.hid b (.inl z), r.tab.less⟩,
     no_some fun m e => (r.sto Dd m e).1 (.inr rfl), no_some fun o e => (r.sub Dd o e).2.2 (.inr rfl)⟩
  -- writing the hidden list
  have wr : ∀ {H' : Hp} {S' : Store} {F' : Hp} (ws : List V), Rel K Z' H' S' F' → Rel K Z' (upd H' Dd (.lst ws)) S' F' := fun {H' S' F'} ws r => by
    obtain ⟨r1, hs, hf⟩ := down r
    have ne : ∀ {b u}, F' b = some u → b ≠ Dd := fun e z => by rw [z, hf] at e; cases e
    have nes : ∀ {b u}, S' b = some u → b ≠ Dd := fun e z => by rw [z, hs] at e; cases e
    exact ⟨fun b u e => ⟨by rw [upd_ne (ne e)]; exact (r.sub b u e).1, (r.sub b u e).2⟩,
      fun b m e => ⟨(r.sto b m e).1, let ⟨o, h1, h2⟩ := (r.sto b m e).2; ⟨o, by rw [upd_ne (nes e)]; exact h1, h2⟩⟩,
      fun b z => by
        by_cases hb : b = Dd
        · subst hb
          exact ⟨_, upd_same⟩
        · rw [upd_ne hb]
          exact r.hid b z, r.tab.wr (.inr rfl)⟩
  have Rb : Rel K Z' (upd H1 Dd (.lst [])) S1 F1 := by
    obtain ⟨r1, _, _⟩ := A1.rel.laid (o := .lst []) hD
    have ne : ∀ {b u}, H1 b = some u → b ≠ Dd := fun e z => by rw [z, hD] at e; cases e
    refine ⟨fun b u e => ?_, fun b m e => ?_, fun b z => ?_, A1.rel.tab.atNew hD⟩
    · have h := A1.rel.sub b u e
      exact ⟨by rw [upd_ne (ne h.1)]; exact h.1, h.2.1, fun z => z.elim h.2.2 (ne h.1)⟩
    · obtain ⟨h1, o, h2, h3⟩ := A1.rel.sto b m e
      exact ⟨fun z => z.elim h1 (ne h2), o, by rw [upd_ne (ne h2)]; exact h2, h3⟩
    · rcases z with z | z
      · obtain ⟨o, e⟩ := A1.rel.hid b z
        exact ⟨o, by rw [upd_ne (ne e)]; exact e⟩
      · subst z
        exact ⟨_, upd_same⟩
  refine ⟨fun i m H' => m = items.length - i ∧ i ≤ items.length ∧ ∃ (S' : Store) (F' : Hp) (acc : List D) (ws : List V), Same F1 F' ∧ Rel K Z' H' S' F' ∧ Keep Z H1 H' ∧ H' Dd = some (.lst ws) ∧ IsVs K F' acc ws ∧ ws.length ≤ i ∧ dLcGo g tt te (wipeD ρ vs) (items.drop i) acc S' Qd,
    ⟨items.length, rfl, Nat.zero_le _, S1, F1, [], [], Same.refl _, Rb, fun b o z e => ?_, upd_same, .nil, Nat.le_refl _, q1⟩, ?_⟩
  · have hb : b ≠ Dd := fun q => zD (q ▸ z)
    rw [upd_ne hb]; exact e
  rintro i m H2 ⟨rfl, hi, S2, F2, acc, ws, s2, R2, k2, hd2, iv2, hl2, q2⟩
  by_cases hlt : i < items.length
  · refine .inr ⟨ok.go H2 S2 F2 Z' s2 R2 i hlt, fun H' => i + 1 ≤ items.length ∧ ∃ (S' : Store) (F' : Hp) (acc : List D) (ws : List V), Same F1 F' ∧ Rel K Z' H' S' F' ∧ Keep Z H1 H' ∧ H' Dd = some (.lst ws) ∧ IsVs K F' acc ws ∧ ws.length ≤ i + 1 ∧ dLcGo g tt te (wipeD ρ vs) (items.drop (i + 1)) acc S' Qd,
      fun H' p' => ⟨items.length - (i + 1), by omega, rfl, p'⟩, fun x H3 hy => ?_⟩
    obtain ⟨F3, d, A3, hd3, iv3⟩ := ok.yld H2 S2 F2 Z' s2 R2 i x H3 hlt hy
    rw [drop_at hd3] at q2
    obtain ⟨ρ3, hb3, q3⟩ := q2
    have s3 := s2.trans A3.sm
    have hD3 : H3 Dd = some (.lst ws) := A3.kp Dd _ (.inr rfl) hd2
    refine tgV_ok A3.rel ((E1.up s2).up A3.sm) iv3 hb3 fun σ3 E3 ⟨is, us, hσ, hg⟩ => ⟨?_, ?_⟩
    · have hin : ∀ j ∈ is, j ∈ vs := by
        rcases hg with rfl | ⟨j, w, rfl, rfl, _⟩
        · exact hv
        · exact hv
      rw [hσ, wipe_setAll is us _ hin, wipe_wipe vs vs fun _ h => h]
    · refine ⟨ρ3, S2, F3, Z', _, _, A3.rel, E3, q3, fun b H4 ⟨S4, F4, A4, q4⟩ => ?_, fun _ _ _ ⟨_, _, _, _, _, _, _, _, z⟩ => z.elim⟩
      have s4 := s3.trans A4.sm
      have hD4 : H4 Dd = some (.lst ws) := A4.kp Dd _ (.inr rfl) hD3
      have kz : Keep Z H1 H4 := fun b o z e => A4.kp b o (.inl z) (A3.kp b o (.inl z) (k2 b o z e))
      cases b with
      | false => exact iteF ⟨hlt, S4, F4, acc, ws, s4, A4.rel, kz, hD4, (iv2.up A3.sm).up A4.sm, Nat.le_succ_of_le hl2, iteF' q4⟩
      | true =>
        refine iteT ⟨ρ3, S4, F4, Z', _, _, A4.rel, E3.up A4.sm, iteT' q4, fun y H5 ⟨dy, S5, F5, A5, iv5, q5⟩ => ?_, fun _ _ _ ⟨_, _, _, _, _, _, _, _, z⟩ => z.elim⟩
        have hD5 : H5 Dd = some (.lst ws) := A5.kp Dd _ (.inr rfl) hD4
        refine ⟨ws, hD5, Nat.lt_of_le_of_lt hl2 (Nat.lt_of_lt_of_le hlt hz), hlt, S5, F5, acc ++ [dy], ws ++ [y], s4.trans A5.sm, wr _ A5.rel, fun b o z e => ?_, upd_same, (((iv2.up A3.sm).up A4.sm).up A5.sm).append (.cons iv5 .nil), ?_, q5⟩
        · have hb : b ≠ Dd := fun q => zD (q ▸ z)
          rw [upd_ne hb]
          exact A5.kp b o (.inl z) (kz b o z e)
        · rw [List.length_append, List.length_singleton]; omega
  · have e : i = items.length := by omega
    subst e
    rw [List.drop_length] at q2
    obtain ⟨r2, hs2, hf2⟩ := down R2
    refine .inl ⟨ok.stop H2 S2 F2 Z' s2 R2, k H2 F2 S2 Dd acc ws (A1.trans ⟨s2, r2, k2⟩) hd2 iv2 hs2 hf2 zD q2⟩
/-- a list that nobody knows yet: frozen, or of the store -/
theorem Rel.own {Z : Addr → Prop} {H F : Hp} {S : Store} (R : Rel K Z H S F) {p : Addr} {o : HO} (hp : H p = some o) (hS : S p = none) (hF : F p = none) (zp : ¬ Z p) (nt : ∀ ps, o ≠ .tbl ps := by intro ps z; cases z) : Rel K Z H S (upd F p o) ∧ Same F (upd F p o) := by
  have sm : Same F (upd F p o) := fun b u e => by rw [upd_ne fun z => by rw [z, hF] at e; cases e]; exact e
  refine ⟨⟨fun b u e => ?_, fun b m e => ⟨(R.sto b m e).1, let ⟨o, h1, h2⟩ := (R.sto b m e).2; ⟨o, h1, h2.up sm⟩⟩, R.hid, R.tab.move sm fun P ps e f z => ⟨e, by
    have hb : P ≠ p := fun q => by
      rw [q, hp] at e
      exact nt ps (Option.some.inj e)
    rw [upd_ne hb]
    exact f, z⟩⟩, sm⟩
  by_cases hb : b = p
  · subst hb
    rw [upd_same] at e
    cases e
    exact ⟨hp, hS, zp⟩
  · rw [upd_ne hb] at e
    exact R.sub b u e
theorem Rel.ownS {Z : Addr → Prop} {H F : Hp} {S : Store} (R : Rel K Z H S F) {p : Addr} {o : HO} {m : M} (hp : H p = some o) (hS : S p = none) (hF : F p = none) (zp : ¬ Z p) (r : MRel K F m o) : Rel K Z H (put S p m) F := by
  refine ⟨fun b u e => ?_, fun b m' e => ?_, R.hid, R.tab⟩
  · have hb : b ≠ p := fun z => by rw [z, hF] at e; cases e
    obtain ⟨h1, h2, h3⟩ := R.sub b u e
    exact ⟨h1, by rw [put_ne hb]; exact h2, h3⟩
  · by_cases hb : b = p
    · subst hb
      rw [put_same] at e
      cases e
      exact ⟨zp, o, hp, r⟩
    · rw [put_ne hb] at e
      exact R.sto b m' e
end
section
variable {X : Cx} {W : WX} {elt tg iter : Expr} {ifs : List Expr} {scope : Scope} {own : List (Str × Nat)} {pos spos : Pos} {ti : DTI} {g : Tgt} {tt : DTT} {te : DTE}
theorem lift_lc (hv : ∀ i ∈ g.slots, i ∈ own.map (·.2)) : ∀ σ H P, upE X.K W (dLc ti g tt te (own.map (·.2))) σ H P → tLc (upI X.K W ti) (tgV X.K g) (upT X.K W0 tt) (upE X.K W0 te) (own.map (·.2)) σ H P := fun σ H P ⟨ρ, S, F, Z, Q, E, R, V, q, k, x⟩ =>
  lc_lift hv R V q (fun H1 F1 S1 Dd ds ws A1 hd iv hs hf zd q1 => by
    obtain ⟨R2, s2⟩ := A1.rel.own hd hs hf zd
    exact k _ _ ⟨.lst ds, S1, _, A1.trans ⟨s2, R2, Keep.refl⟩, .lst upd_same (iv.up s2), q1⟩) x
abbrev Blk (X : Cx) (scope : Scope) (P : Cx → Prop) : Prop := ∀ (s : Shared) (H : Hp) (C : Addr) (cl : List (Str × Addr)) (fp : List Addr), P (X.blk s H scope (compEnvC scope cl C X.env) fp)
theorem de_lc (hc : X.calm = true) (hN : X.N.Nodup) (hi : DI X W tg iter ti) (ok : BlkOk X.N X.env.scope scope own) (hg : Blk X scope fun Y => DG Y tg g) (ht : Blk X scope fun Y => DTs Y ifs tt) (he : Blk X scope fun Y => DE Y W0 elt te)
    (hv : ∀ i ∈ g.slots, i ∈ own.map (·.2) := by decide) (hs : ∀ x, foldedSetIterable iter X.env x = pure x := by intro _; rfl) : DE X W (.ListComp elt [⟨tg, iter, ifs, 0⟩] scope pos) (dLc ti g tt te (own.map (·.2))) :=
  de_pe (pe_lc hc hN hi.pi ok (fun s H C cl fp => (hg s H C cl fp).pg) (fun s H C cl fp => (ht s H C cl fp).pt) (fun s H C cl fp => (he s H C cl fp).pe) hs) (lift_lc hv)
/-- y = [..] -/
theorem ds_setLc {i : Nat} {y : Str} {py : Pos} (hc : X.calm = true) (hN : X.N.Nodup) (hsw : swapsWith (.ListComp elt [⟨tg, iter, ifs, 0⟩] scope pos) (some (.Name y py)) spos.line X.env = pure true) (hi : DI X W tg iter ti) (ok : BlkOk X.N X.env.scope scope own)
    (hg : Blk X scope fun Y => DG Y tg g) (ht : Blk X scope fun Y => DTs Y ifs tt) (he : Blk X scope fun Y => DE Y W0 elt te) (hy : X.N[i]? = some y := by rfl) (hyl : X.env.scope.names.lookup y = some .local := by rfl)
    (hv : ∀ i ∈ g.slots, i ∈ own.map (·.2) := by decide) (hs : ∀ x, foldedSetIterable iter X.env x = pure x := by intro _; rfl) :
    DS X W (.Assign [.Name y py] (.ListComp elt [⟨tg, iter, ifs, 0⟩] scope pos) spos) (dAsg (dLc ti g tt te (own.map (·.2))) (.name i)) :=
  ds_ps (ps_setLc hc hN hy hyl hsw hi.pi ok (fun s H C cl fp => (hg s H C cl fp).pg) (fun s H C cl fp => (ht s H C cl fp).pt) (fun s H C cl fp => (he s H C cl fp).pe) hs) fun N σ H h => by
    have h2 : tAsg (upE X.K W (dLc ti g tt te (own.map (·.2)))) (tgV X.K (.name i)) N σ H := asg_lift N σ H h
    exact lift_lc hv σ H _ h2
end
end DL

set_option maxRecDepth 100000
set_option maxHeartbeats 1000000
/-! DL, defs and calls. A def's promise speaks of trees; it is asked for where no repr runs (so that repr may be called within). -/
namespace DL
open PySem PySem.Spec L2
abbrev DSp := List D → Store → DQ → DX → Prop
theorem takes_n0 {X : Cx} : L2N.Takes X W0 := fun _ _ ⟨_, _, _, _, _, _, _, _, _, _, _, _, _, _, _, _, w⟩ => w.elim
structure FnG (P : Program) (w : World) (K : PySem.W.Frag) (mg : Str → Option Value) (base : Heap) (k : Nat) (f : Addr) (fd : FuncData) (ps : List Str) (sp : Sp) : Prop where
  len : ∀ vs H Q E, sp vs H Q E → vs.length = ps.length
  run : ∀ (A : Around) (outer : List Env) (s : Shared) (H : Hp) (args : Args) (us : List Value) (vs : List V) (Q : VK) (E : XK), Room k A → A.guards = some [] → Env0 P w K mg base A outer s H →
    BindsTo s fd args (ps.zip us) → Vals vs us → sp vs H Q E → codeAny (model P w) A (.call (.ref f) args) (CR (L2N.CX P w) outer P w H s Q E) s
theorem FnG.mono {P : Program} {w : World} {K : PySem.W.Frag} {mg : Str → Option Value} {base : Heap} {j k : Nat} {f : Addr} {fd : FuncData} {ps : List Str} {sp : Sp} (F : FnG P w K mg base j f fd ps sp) (h : j ≤ k) : FnG P w K mg base k f fd ps sp :=
  ⟨F.len, fun A outer s H args us vs Q E hr => F.run A outer s H args us vs Q E (hr.mono h)⟩
/-- a promise over trees, for the hand layer -/
def spD (K : PySem.W.Frag) (dsp : DSp) : Sp := fun vs H P G => ∃ ds S F Z Q E, Rel K Z H S F ∧ IsVs K F ds vs ∧ dsp ds S Q E ∧ (∀ v H', LftE K Z H F Q v H' → P v H') ∧ ∀ cls d H', LftX K Z H F E cls d H' → G cls d H'
theorem guards_make {A : Around} {C : Addr} {us : List Value} {kw : List (Str × Value)} (h : A.guards = some []) : (A.under (.builtin "type.__call__" ⟨.ref C :: us, kw⟩)).guards = some [] := by
  first
    | exact h
    | (simp only [Around.under]
       rw [show (Code.builtin "type.__call__" ⟨.ref C :: us, kw⟩).guards = [] from by simp [Code.guards, Code.isGuard, guardIds]]
       simp [pushGuards, h])
theorem guards_deeper {A : Around} {env : Env} (h : A.guards = some []) : (A.deeper env).guards = some [] := h
section
variable {X : Cx} {W : WX} {k : Nat} {f C : Addr} {fd : FuncData} {ps : List Str} {sp : Sp} {dvs : List V} {ds : List Value} {x m : Str} {p pos apos : Pos} {e o : Expr} {es : List Expr} {ta : TE} {t : TA}
/-- what is wanted behind a call that ended so -/
theorem call_end {pins : List (Addr × Obj)} {σ : L2.St} {H : Hp} {s : Shared} {Q : VK} (tk : L2N.Takes X W) (I : Inv X pins σ H s) {r : Result} {s' : Shared} (h : CR (L2N.CX X.prog X.w) X.stack X.prog X.w H s Q (WE W σ) r s') :
    match r with
    | .ok (.ret u) => EP X pins σ Q u s'
    | .ok _ => False
    | .error e => X.xe e s' := by
  cases r with
  | error e => exact L2N.passAt tk σ pins H s e s' I h
  | ok fl =>
    cases fl with
    | ret u => exact I.after h
    | next => exact h
    | brk => exact h
    | cont => exact h
theorem run_fnG {pins : List (Addr × Obj)} {σ : L2.St} {H : Hp} {s : Shared} {Q : VK} {us : List Value} {vs : List V} (F : FnG X.prog X.w X.K X.mg X.base k f fd ps sp) (hr : Room k X.A) (hgd : X.A.guards = some []) (hb : Binds X.K fd ps ds) (hd : Vals dvs ds) (tk : L2N.Takes X W)
    (I : Inv X pins σ H s) (r : Vals vs us) (h : sp (vs ++ dvs) H Q (WE W σ)) : wpAny (model X.prog X.w) X.A (call (.ref f) us) (EP X pins σ Q) X.xe s := by
  have r2 := r.append hd
  have hl : (us ++ ds).length = ps.length := r2.length.symm.trans (F.len _ _ _ _ h)
  refine wpAny_call (codeAny_mono (F.run X.A X.stack s H ⟨us, []⟩ _ _ Q _ hr hgd I.env0 (hb s us I.kIn hl) r2 h) fun r s' hq => ?_)
  have := call_end tk I hq
  cases r with
  | error e => exact this
  | ok fl =>
    cases fl with
    | ret u => exact this
    | next => exact False.elim this
    | brk => exact False.elim this
    | cont => exact False.elim this
theorem pe_callG (F : FnG X.prog X.w X.K X.mg X.base k f fd ps sp) (hr : Room k X.A) (hgd : X.A.guards = some []) (hm : X.mg x = some (.ref f)) (hk : PySem.W.keepIn X.K (.ref f) = true) (hb : Binds X.K fd ps ds) (hd : Vals dvs ds) (tk : L2N.Takes X W) (ha : PA X (e :: es) t)
    (hg : Gl X x := by rfl) (hdb : (x == ("__debug__" : Str)) = false := by decide) (he : starEach (e :: es) X.env = (false, eval e X.env) :: starEach es X.env := by rfl) (hpl : (backTo pos (starEach es X.env)).any (·.1) = false := by rfl) :
    PE X (.Call (.Name x p) (e :: es) [] pos) (tCallSD sp dvs (WE W) t) :=
  ⟨fun pins s σ H Q I h => wpAny_Call_Name_kw (ld_glob I hg hm (PySem.W.callWith_K (h₀ := X.base) I.ok.mod.kin hk (thn (ha.run pos pins s σ H _ I h) fun us s1 ⟨vs, H1, I1, r, q⟩ => ⟨I1.kIn, run_fnG F hr hgd hb hd tk I1 r q⟩) he hpl) hdb)⟩
/-- o.m(e, ..) of an instance -/
def tMethG (C : Addr) (m : Str) (sp : Sp) (dvs : List V) (E : L2.St → XK) (ta : TE) (t : TA) : TE := fun σ H Q => ta σ H fun x H1 => ∃ a dx fs, x = .ref a ∧ H1 a = some (.ins C dx fs) ∧ fs.lookup m = none ∧ t σ H1 fun vs H2 => sp (x :: (vs ++ dvs)) H2 Q (E σ)
/-- C(e, ..) -/
def tMakeG (C : Addr) (sp : Sp) (dvs : List V) (E : L2.St → XK) (t : TA) : TE := fun σ H Q => t σ H fun vs H1 => ∀ x dx, H1 x = none → H1 dx = none → dx ≠ x →
  sp (.ref x :: (vs ++ dvs)) (upd (upd H1 dx (.own x)) x (.ins C dx [])) (fun v H2 => v = .non ∧ Q (.ref x) H2) (E σ)
theorem run_makeG {pins : List (Addr × Obj)} {σ : L2.St} {H : Hp} {s : Shared} {Q : VK} {us : List Value} {vs : List V} (M : Mk X.K C f) (F : FnG X.prog X.w X.K X.mg X.base k f fd ps sp) (hr : Room (k + 1) X.A) (hgd : X.A.guards = some []) (hb : Binds X.K fd ps ds) (hd : Vals dvs ds)
    (tk : L2N.Takes X W) (I : Inv X pins σ H s) (r : Vals vs us) (h : ∀ x dx, H x = none → H dx = none → dx ≠ x → sp (.ref x :: (vs ++ dvs)) (upd (upd H dx (.own x)) x (.ins C dx [])) (fun v H2 => v = .non ∧ Q (.ref x) H2) (WE W σ)) :
    wpAny (model X.prog X.w) X.A (call (.ref C) us) (EP X pins σ Q) X.xe s := by
  have hq := h (s.heap.objs.size + 1) s.heap.objs.size (I.hok.fresh (Nat.le_succ _)) (I.hok.fresh (Nat.le_refl _)) (Nat.ne_of_lt (Nat.lt_succ_self _))
  have J := Inv.made (C := C) I
  have r2 : Vals (V.ref (s.heap.objs.size + 1) :: (vs ++ dvs)) (Value.ref (s.heap.objs.size + 1) :: (us ++ ds)) := .cons rfl (r.append hd)
  have hl : (Value.ref (s.heap.objs.size + 1) :: us ++ ds).length = ps.length := r2.length.symm.trans (F.len _ _ _ _ hq)
  refine wpAny_call (make_map (f := f) I.kIn M.makes M.init (beq_iff_eq.mp M.fn) (codeAny_mono (F.run _ X.stack _ _ ⟨Value.ref (s.heap.objs.size + 1) :: us, []⟩ _ _ _ _ (hr.make C us []) (guards_make hgd) (J.env0.make C us []) (hb _ (Value.ref (s.heap.objs.size + 1) :: us) J.kIn hl) r2 hq) fun r s' hq' => ?_))
  have := call_end tk J hq'
  cases r with
  | error e => exact this
  | ok fl =>
    cases fl with
    | ret u =>
      obtain ⟨v, H', I3, rv, ev, q3⟩ := this
      subst ev
      exact ⟨rv, ⟨V.ref (s.heap.objs.size + 1), H', I3, rfl, q3⟩⟩
    | next => exact False.elim this
    | brk => exact False.elim this
    | cont => exact False.elim this
theorem pe_makeG (M : Mk X.K C f) (F : FnG X.prog X.w X.K X.mg X.base k f fd ps sp) (hr : Room (k + 1) X.A) (hgd : X.A.guards = some []) (hm : X.mg x = some (.ref C)) (hb : Binds X.K fd ps ds) (hd : Vals dvs ds) (tk : L2N.Takes X W) (ha : PA X (e :: es) t)
    (hg : Gl X x := by rfl) (hdb : (x == ("__debug__" : Str)) = false := by decide) (he : starEach (e :: es) X.env = (false, eval e X.env) :: starEach es X.env := by rfl) (hpl : (backTo pos (starEach es X.env)).any (·.1) = false := by rfl) :
    PE X (.Call (.Name x p) (e :: es) [] pos) (tMakeG C sp dvs (WE W) t) :=
  ⟨fun pins s σ H Q I h => wpAny_Call_Name_kw (ld_glob I hg hm (PySem.W.callWith_K (h₀ := X.base) I.ok.mod.kin M.kp (thn (ha.run pos pins s σ H _ I h) fun us s1 ⟨vs, H1, I1, r, q⟩ => ⟨I1.kIn, run_makeG M F hr hgd hb hd tk I1 r q⟩) he hpl) hdb)⟩
/-- x(e, ..), x a local name that holds the class C -/
theorem pe_makeLG {i : Nat} (M : Mk X.K C f) (F : FnG X.prog X.w X.K X.mg X.base k f fd ps sp) (hr : Room (k + 1) X.A) (hgd : X.A.guards = some []) (hx : PE X (.Name x p) (tVar i)) (hb : Binds X.K fd ps ds) (hd : Vals dvs ds) (tk : L2N.Takes X W) (ha : PA X (e :: es) t)
    (he : starEach (e :: es) X.env = (false, eval e X.env) :: starEach es X.env := by rfl) (hpl : (backTo pos (starEach es X.env)).any (·.1) = false := by rfl) :
    PE X (.Call (.Name x p) (e :: es) [] pos) (fun σ H Q => tVar i σ H fun v H1 => v = .ref C ∧ tMakeG C sp dvs (WE W) t σ H1 Q) := by
  refine ⟨fun pins s σ H Q I h => wpAny_Call_Name_kw (thn (hx.run pins s σ H _ I h) fun u s1 ⟨v, H1, I1, rv, ev, q1⟩ => ?_)⟩
  subst ev
  cases rv
  exact PySem.W.callWith_K (h₀ := X.base) I.ok.mod.kin M.kp (thn (ha.run pos pins s1 σ H1 _ I1 q1) fun us s2 ⟨vs, H2, I2, r, q⟩ => ⟨I2.kIn, run_makeG M F hr hgd hb hd tk I2 r q⟩) he hpl
end

/-! ### over trees -/
section
variable {X : Cx} {W : WX} {k : Nat} {f C : Addr} {fd : FuncData} {ps : List Str} {dsp : DSp} {dvs : List V} {dds : List D} {ds : List Value} {x m : Str} {p pos apos : Pos} {e o : Expr} {es : List Expr} {ta : DTE} {t : DTA}
def dCall (dsp : DSp) (dds : List D) (t : DTA) : DTE := fun ρ S Q E => t ρ S (fun xs S1 => dsp (xs ++ dds) S1 Q E) E
theorem lift_call (hdd : ∀ F, IsVs X.K F dds dvs) : ∀ σ H P, upE X.K W (dCall dsp dds t) σ H P → tCallSD (spD X.K dsp) dvs (WE W) (upA X.K W t) σ H P := fun σ H P ⟨ρ, S, F, Z, Q, E, R, V, q, k, x⟩ =>
  ⟨ρ, S, F, Z, _, E, R, V, q, fun vs H1 ⟨xs, S1, F1, A1, iv, q1⟩ => ⟨xs ++ dds, S1, F1, Z, Q, E, A1.rel, iv.append (hdd F1), q1, fun v H' h => k v H' (lftE_tr A1 h), fun cls d H' h => x cls d H' (lftX_tr A1 h)⟩, x⟩
abbrev FnD (P : Program) (w : World) (K : PySem.W.Frag) (mg : Str → Option Value) (base : Heap) (k : Nat) (f : Addr) (fd : FuncData) (ps : List Str) (dsp : DSp) : Prop := FnG P w K mg base k f fd ps (spD K dsp)
theorem de_call (F : FnD X.prog X.w X.K X.mg X.base k f fd ps dsp) (hr : Room k X.A) (hgd : X.A.guards = some []) (hm : X.mg x = some (.ref f)) (hk : PySem.W.keepIn X.K (.ref f) = true) (hb : Binds X.K fd ps ds) (hd : Vals dvs ds) (hdd : ∀ F, IsVs X.K F dds dvs) (tk : L2N.Takes X W) (ha : DA X W (e :: es) t)
    (hg : Gl X x := by rfl) (hdb : (x == ("__debug__" : Str)) = false := by decide) (he : starEach (e :: es) X.env = (false, eval e X.env) :: starEach es X.env := by rfl) (hpl : (backTo pos (starEach es X.env)).any (·.1) = false := by rfl) :
    DE X W (.Call (.Name x p) (e :: es) [] pos) (dCall dsp dds t) := de_pe (pe_callG F hr hgd hm hk hb hd tk ha.pa hg hdb he hpl) (lift_call hdd)
/-- a def without defaults -/
theorem de_callN (F : FnD X.prog X.w X.K X.mg X.base k f fd ps dsp) (hr : Room k X.A) (hgd : X.A.guards = some []) (hm : X.mg x = some (.ref f)) (hk : PySem.W.keepIn X.K (.ref f) = true) (hb : Binds X.K fd ps []) (tk : L2N.Takes X W) (ha : DA X W (e :: es) t)
    (hg : Gl X x := by rfl) (hdb : (x == ("__debug__" : Str)) = false := by decide) (he : starEach (e :: es) X.env = (false, eval e X.env) :: starEach es X.env := by rfl) (hpl : (backTo pos (starEach es X.env)).any (·.1) = false := by rfl) :
    DE X W (.Call (.Name x p) (e :: es) [] pos) (dCall dsp [] t) := de_call F hr hgd hm hk hb .nil (fun _ => .nil) tk ha hg hdb he hpl
/-- keywords -/
structure DK (X : Cx) (W : WX) (kws : List Keyword) (T : DTA) : Prop where
  pk : PK X kws (upA X.K W T)
theorem pk_imp {X : Cx} {e : List Keyword} {t t' : TA} (h : PK X e t) (i : ∀ σ H P, t' σ H P → t σ H P) : PK X e t' := ⟨fun pos pins s σ H Q I q => h.run pos pins s σ H Q I (i σ H Q q)⟩
theorem dk_nil : DK X W [] dNil := ⟨pk_imp pk_nil fun σ H P ⟨ρ, S, F, Z, Q, E, R, V, q, k, _⟩ => k [] H ⟨[], S, F, .refl R, .nil, q⟩⟩
theorem dk_cons {nm : Option Str} {kpos : Pos} {kws : List Keyword} {te : DTE} (ha : DE X W e te) (hr : DK X W kws t) : DK X W (⟨nm, e, kpos⟩ :: kws) (dCons te t) :=
  ⟨pk_imp (pk_cons ha.pe hr.pk) fun σ H P ⟨ρ, S, F, Z, Q, E, R, V, q, k, x⟩ => ⟨ρ, S, F, Z, _, E, R, V, q, fun v H1 ⟨d, S1, F1, A1, i1, q1⟩ =>
    ⟨ρ, S1, F1, Z, _, E, A1.rel, V.up A1.sm, q1, fun vs H2 ⟨ds, S2, F2, A2, i2, q2⟩ => k _ H2 ⟨d :: ds, S2, F2, A1.trans A2, .cons (i1.up A2.sm) i2, q2⟩, xe_tr x A1⟩, x⟩⟩
/-- o.m(..), o an instance that is not written any more, or one of the store -/
def IsObj (C : Addr) (m : Str) (d : D) (S : Store) : Prop := (∃ ns ds, d = .obj C ns ds ∧ m ∉ ns) ∨ ∃ a ns ds, d = .ref a ∧ S a = some (.ins C ns ds) ∧ m ∉ ns
theorem lookup_notin {α : Type} {m : Str} : ∀ {fs : List (Str × α)}, m ∉ fs.map (·.1) → fs.lookup m = none
  | [], _ => rfl
  | (n, v) :: fs, h => by
    rw [List.lookup_cons]
    have h1 : (m == n) = false := by
      cases q : m == n with
      | false => rfl
      | true => exact absurd (by rw [eq_of_beq q]; exact List.mem_cons_self) h
    rw [h1]
    exact lookup_notin fun z => h (List.mem_cons_of_mem _ z)
theorem isObj_at {K : PySem.W.Frag} {Z : Addr → Prop} {H F : Hp} {S : Store} (R : Rel K Z H S F) {d : D} {v : V} (h : IsObj C m d S) (iv : IsV K F d v) : ∃ a dx fs, v = .ref a ∧ H a = some (.ins C dx fs) ∧ fs.lookup m = none := by
  rcases h with ⟨ns, ds, rfl, hn⟩ | ⟨a, ns, ds, rfl, hs, hn⟩
  · cases iv with
    | obj h0 h1 h2 h3 =>
      subst h2
      exact ⟨_, _, _, rfl, (R.sub _ _ h1).1, lookup_notin hn⟩
  · cases iv
    obtain ⟨_, o, ho, dx, fs, e, e2, _⟩ := R.sto a _ hs
    subst e e2
    exact ⟨_, _, _, rfl, ho, lookup_notin hn⟩
def dMeth (C : Addr) (m : Str) (dsp : DSp) (dds : List D) (ta : DTE) (t : DTA) : DTE := fun ρ S Q E => ta ρ S (fun d S1 => IsObj C m d S1 ∧ t ρ S1 (fun xs S2 => dsp (d :: (xs ++ dds)) S2 Q E) E) E
theorem lift_meth (hdd : ∀ F, IsVs X.K F dds dvs) : ∀ σ H P, upE X.K W (dMeth C m dsp dds ta t) σ H P → tMethG C m (spD X.K dsp) dvs (WE W) (upE X.K W ta) (upA X.K W t) σ H P := fun σ H P ⟨ρ, S, F, Z, Q, E, R, V, q, k, x⟩ =>
  ⟨ρ, S, F, Z, _, E, R, V, q, fun v H1 ⟨d, S1, F1, A1, i1, ob, q1⟩ => by
    obtain ⟨a, dx, fs, rfl, e1, e2⟩ := isObj_at A1.rel ob i1
    exact ⟨a, dx, fs, rfl, e1, e2, ρ, S1, F1, Z, _, E, A1.rel, V.up A1.sm, q1, fun vs H2 ⟨xs, S2, F2, A2, iv, q2⟩ =>
      ⟨d :: (xs ++ dds), S2, F2, Z, Q, E, A2.rel, .cons (i1.up A2.sm) (iv.append (hdd F2)), q2, fun v H' h => k v H' (lftE_tr (A1.trans A2) h), fun cls d H' h => x cls d H' (lftX_tr (A1.trans A2) h)⟩, xe_tr x A1⟩, x⟩
/-- C(..): the instance is not written any more behind __init__ -/
def dMake (C : Addr) (dsp : DSp) (dds : List D) (t : DTA) : DTE := fun ρ S Q E => t ρ S (fun xs S1 => ∀ a, S1 a = none → dsp (.ref a :: (xs ++ dds)) (put S1 a (.ins C [] [])) (fun d S2 => d = .non ∧ ∃ ns ds, S2 a = some (.ins C ns ds) ∧ Q (.obj C ns ds) (del S2 a)) E) E
theorem Rel.own_dict {K : PySem.W.Frag} {Z : Addr → Prop} {H F : Hp} {S : Store} (R : Rel K Z H S F) {p : Addr} {o : HO} (hp : H p = none) : Rel K Z (upd H p o) S F ∧ Keep Z H (upd H p o) := by
  have ne : ∀ {b u}, H b = some u → b ≠ p := fun e z => by rw [z, hp] at e; cases e
  exact ⟨⟨fun b u e => ⟨by rw [upd_ne (ne (R.sub b u e).1)]; exact (R.sub b u e).1, (R.sub b u e).2⟩, fun b m e => ⟨(R.sto b m e).1, let ⟨o, h1, h2⟩ := (R.sto b m e).2; ⟨o, by rw [upd_ne (ne h1)]; exact h1, h2⟩⟩,
    fun b z => let ⟨o, h⟩ := R.hid b z; ⟨o, by rw [upd_ne (ne h)]; exact h⟩, R.tab.move (Same.refl _) fun P ps e f z => ⟨by rw [upd_ne (ne e)]; exact e, f, z⟩⟩, fun b u _ e => by rw [upd_ne (ne e)]; exact e⟩
theorem lift_make (ov : ClsV X.K C) (hdd : ∀ F, IsVs X.K F dds dvs) : ∀ σ H P, upE X.K W (dMake C dsp dds t) σ H P → tMakeG C (spD X.K dsp) dvs (WE W) (upA X.K W t) σ H P := fun σ H P ⟨ρ, S, F, Z, Q, E, R, V, q, k, x⟩ =>
  ⟨ρ, S, F, Z, _, E, R, V, q, fun vs H1 ⟨xs, S1, F1, A1, iv, q1⟩ a dx ha hdx ne => by
    obtain ⟨R2, k2⟩ := A1.rel.own_dict (o := .own a) hdx
    have ha2 : upd H1 dx (.own a) a = none := by rw [upd_ne (Ne.symm ne)]; exact ha
    obtain ⟨R3, k3, hS⟩ := R2.made (o := .ins C dx []) (m := .ins C [] []) ha2 ⟨dx, [], rfl, rfl, .nil⟩
    have A3 : Aft X.K Z H1 F1 _ _ F1 := ⟨Same.refl _, R3, k2.trans k3⟩
    refine ⟨.ref a :: (xs ++ dds), _, F1, Z, _, E, R3, .cons (.ref a) (iv.append (hdd F1)), q1 a hS, fun v H' ⟨d, S4, F4, A4, i4, hd4, ns, es, hs4, q4⟩ => ?_, fun cls d H' h => x cls d H' (lftX_tr (A1.trans A3) h)⟩
    subst hd4
    cases i4
    obtain ⟨o, ho, ⟨dx4, fs, e1, e2, iv4⟩, R5, s5⟩ := A4.rel.freeze hs4
    subst e1
    exact ⟨rfl, k _ _ ⟨.obj C ns es, _, _, A1.trans (A3.trans (A4.trans ⟨s5, R5, Keep.refl⟩)), .obj ov upd_same e2 (iv4.up s5), q4⟩⟩, x⟩
theorem de_make (ov : ClsV X.K C) (M : Mk X.K C f) (F : FnD X.prog X.w X.K X.mg X.base k f fd ps dsp) (hr : Room (k + 1) X.A) (hgd : X.A.guards = some []) (hm : X.mg x = some (.ref C)) (hb : Binds X.K fd ps ds) (hd : Vals dvs ds) (hdd : ∀ F, IsVs X.K F dds dvs) (tk : L2N.Takes X W) (ha : DA X W (e :: es) t)
    (hg : Gl X x := by rfl) (hdb : (x == ("__debug__" : Str)) = false := by decide) (he : starEach (e :: es) X.env = (false, eval e X.env) :: starEach es X.env := by rfl) (hpl : (backTo pos (starEach es X.env)).any (·.1) = false := by rfl) :
    DE X W (.Call (.Name x p) (e :: es) [] pos) (dMake C dsp dds t) := de_pe (pe_makeG M F hr hgd hm hb hd tk ha.pa hg hdb he hpl) (lift_make ov hdd)
/-- cls(..), cls a local name that holds the class -/
theorem de_makeL {i : Nat} (ov : ClsV X.K C) (M : Mk X.K C f) (F : FnD X.prog X.w X.K X.mg X.base k f fd ps dsp) (hr : Room (k + 1) X.A) (hgd : X.A.guards = some []) (hx : PE X (.Name x p) (tVar i)) (hb : Binds X.K fd ps ds) (hd : Vals dvs ds) (hdd : ∀ F, IsVs X.K F dds dvs) (tk : L2N.Takes X W) (ha : DA X W (e :: es) t)
    (he : starEach (e :: es) X.env = (false, eval e X.env) :: starEach es X.env := by rfl) (hpl : (backTo pos (starEach es X.env)).any (·.1) = false := by rfl) :
    DE X W (.Call (.Name x p) (e :: es) [] pos) (fun ρ S Q E => ρ[i]? = some (some (.ref C)) ∧ dMake C dsp dds t ρ S Q E) :=
  de_pe (pe_makeLG M F hr hgd hx hb hd tk ha.pa he hpl) fun σ H P ⟨ρ, S, F, Z, Q, E, R, V, ⟨hi, q⟩, k, x⟩ => by
    obtain ⟨v, e1, iv⟩ := V.2 i _ hi
    cases iv
    exact ⟨_, e1, rfl, lift_make ov hdd σ H P ⟨ρ, S, F, Z, Q, E, R, V, q, k, x⟩⟩
end

/-! ### a def of the text -/
section
variable {P : Program} {w : World} {K : PySem.W.Frag} {mg : Str → Option Value} {base : Heap}
/-- the wish of a def's body about exceptions -/
abbrev Wd (E : XK) : WX := fun cls d _ H => E cls d H
abbrev cxD (P : Program) (w : World) (K : PySem.W.Frag) (mg : Str → Option Value) (base : Heap) (N : List Str) (qual : Str) (scope : Scope) (f : Addr) (cd : Value) (A : Around) (outer : List Env) (s : Shared) (H : Hp) (E : XK) : Cx := cxOf (L2N.CX P w) P w K mg base N qual scope f cd A outer s H E
theorem fn_ofG {k : Nat} {f : Addr} {x qual : Str} {st : Stmt} {fd : FuncData} {N ps : List Str} {sp : Sp} (F : Fun K x qual st f fd) (S : FnScope N ps (defScope st)) (len : ∀ vs H Q E, sp vs H Q E → vs.length = ps.length)
    (hbody : ∀ (cdv : Value) (A : Around) (outer : List Env) (s : Shared) (H : Hp) (vs : List V) (Q : VK) (E : XK), Room k (A.deeper (PyProof.Rows.envOfC qual (defScope st) s.heap.objs.size f cdv)) → A.guards = some [] → sp vs H Q E →
      ∃ t, PSs (cxD P w K mg base N qual (defScope st) f cdv A outer s H E) (defBody st) t ∧ t { nx := fun _ H' => Q .non H', rt := Q } (L2.start N vs) H) : FnG P w K mg base (k + 1) f fd ps sp := by
  obtain ⟨oc, od, kV, doc, pm, an, cdv, ct, osl, rfl, lk, hcd⟩ := F.ex
  refine ⟨len, fun A outer s H args us vs Q E hr hgd e0 hb r hsp => ?_⟩
  have KX : K.In s.heap := e0.mod.kin.keeps fun b o e => (e0.bs b o e).1
  have lim : s.heap.NoLimit := e0.mod.nolimit.keeps fun b o e => (e0.bs b o e).1
  refine codeAny_call_function hr.depth (KX _ _ lk) rfl S.co S.gen rfl (PySem.W.codeRec_of KX hcd) (hb _ _ _ _ ?_)
  refine wpAny_newFunctionEnv_cells S.kind (fun ⟨n, v⟩ hy => ?_) fun env he s1 x1 => ?_
  · rcases S.par n (List.of_mem_zip hy).1 with q | q
    · exact .inl q
    · exact .inr ⟨q, PySem.W.cellsFrom_some _ _ _ (.inl q)⟩
  subst he
  refine ⟨lim.keeps x1.toInCall.keep, codeAny_func ?_⟩
  obtain ⟨t, ht, hq⟩ := hbody cdv A outer s H vs Q E (hr.deeper _) hgd hsp
  have I := inv_start (CX := L2N.CX P w) (P := P) (w := w) (E := E) S hr.hd e0 (len _ _ _ _ hsp) r x1
  refine wpAny_mono (ht.run [] s1 (L2.start N vs) H _ I hq) (fun fl s' hs => ?_) fun e s' hs => hs
  cases fl with
  | ret u =>
    obtain ⟨v, σ', H', J, rv, q⟩ := hs
    exact ⟨v, H', J.os, J.bare, J.base, J.hok, rv, q⟩
  | next =>
    obtain ⟨σ', H', J, q⟩ := hs
    exact ⟨V.non, H', J.os, J.bare, J.base, J.hok, rfl, q⟩
  | brk =>
    obtain ⟨_, _, _, q⟩ := hs
    exact False.elim q
  | cont =>
    obtain ⟨_, _, _, q⟩ := hs
    exact False.elim q
def startD (N : List Str) (ds : List D) : Sl := ds.map some ++ List.replicate (N.length - ds.length) none
theorem envR_start {F : Hp} {N : List Str} {ds : List D} {vs : List V} (h : IsVs K F ds vs) : EnvR K F (startD N ds) (L2.start N vs) := by
  unfold startD L2.start
  refine ⟨by simp [h.length], fun i d e => ?_⟩
  by_cases hi : i < ds.length
  · rw [List.getElem?_append_left (by simpa using hi), List.getElem?_map] at e
    cases q : ds[i]? with
    | none => rw [q] at e; cases e
    | some d' =>
      rw [q] at e
      cases e
      obtain ⟨v, e1, iv⟩ := h.get q
      refine ⟨v, ?_, iv⟩
      rw [List.getElem?_append_left (by rw [List.length_map, ← h.length]; exact hi), List.getElem?_map, e1]
      rfl
  · rw [List.getElem?_append_right (by simpa using hi), List.getElem?_replicate] at e
    split at e <;> cases e
end
end DL

set_option maxRecDepth 100000
set_option maxHeartbeats 1000000
/-! DL, built-in calls, methods of lists, dicts, fields. -/
namespace DL
open PySem PySem.Spec L2
section
variable {K : PySem.W.Frag} {Z : Addr → Prop} {H F : Hp} {S : Store}

/-! ### isinstance -/
def tyM : Option M → Option String
  | some (.lst _) => some "list"
  | some (.dK _ _) => some "dict"
  | some (.dT _ _) => some "dict"
  | _ => none
def tyB (S : Store) : D → Option String
  | .non => some "NoneType"
  | .bl _ => some "bool"
  | .int _ => some "int"
  | .str _ => some "str"
  | .tup _ => some "tuple"
  | .lst _ => some "list"
  | .scr _ => some "list"
  | .dK _ _ => some "dict"
  | .dT _ _ => some "dict"
  | .ref a => tyM (S a)
  | _ => none
/-- .. a frozen instance of an own class: none of them -/
def tyD (S : Store) : D → Option String
  | .obj _ _ _ => some "object"
  | d => tyB S d
def isB (t n : String) : Bool := t == n || (t == "bool" && n == "int")
def tyOut : List String := ["NoneType", "bool", "int", "str", "tuple", "list", "dict", "object"]
def tyIn : List String := ["bool", "int", "str", "tuple", "list", "dict"]
theorem kit_all : (tyOut.all fun t => tyIn.all fun n => kitB t n == some (isB t n)) = true := by decide +kernel
theorem tyD_out {S : Store} {d : D} {t : String} (e : tyD S d = some t) : t ∈ tyOut := by
  cases d with
  | ref a =>
    have e : tyM (S a) = some t := e
    cases q : S a with
    | none => rw [q] at e; cases e
    | some m => cases m <;> rw [q] at e <;> cases e <;> decide
  | ty _ => cases e
  | obj _ _ _ => cases e; decide
  | exc _ _ _ => cases e
  | kup _ => cases e
  | ctp _ => cases e
  | kdK _ _ => cases e
  | dX _ _ _ => cases e
  | _ => cases e; decide
theorem tyB_D {S : Store} {d : D} {t : String} (e : tyB S d = some t) : tyD S d = some t := by
  cases d with
  | obj _ _ _ => cases e
  | _ => exact e
theorem kit_is {t n : String} (ht : t ∈ tyOut) (hn : n ∈ tyIn) : kitB t n = some (isB t n) := by
  have h := List.all_eq_true.mp (List.all_eq_true.mp kit_all t ht) n hn
  exact eq_of_beq h
theorem tyX_of (R : Rel K Z H S F) {d : D} {v : V} {t : String} (iv : IsV K F d v) (e : tyB S d = some t) : TyX K H v (.type t) := by
  cases iv with
  | non => cases e; exact .base .non
  | bl b => cases e; exact .base (.bl b)
  | int b => cases e; exact .base (.int b)
  | str b => cases e; exact .base (.str b)
  | ty n => cases e
  | tup h1 h2 => cases e; exact .base (.tup (R.sub _ _ h1).1)
  | kup h1 h0 h2 => cases e
  | ctp h1 h2 => cases e
  | lst h1 h2 => cases e; exact .base (.lst (R.sub _ _ h1).1)
  | scr h1 h2 =>
    cases e
    rcases R.sql h1 with (h | ⟨o, h⟩) | ⟨o, _, _, h, c, _⟩
    · exact .base (.lst h)
    · exact .base (.frz h)
    · exact .kList h c
  | dK h1 h2 h3 => cases e; exact .base (.dK (R.sub _ _ h1).1)
  | dT h1 h2 h3 => cases e; exact .base (.dT (R.sub _ _ h1).1)
  | kdK _ _ _ => cases e
  | dX _ _ _ _ => cases e
  | obj h0 h1 h2 h3 => cases e
  | exc _ _ _ _ => cases e
  | exc0 _ => cases e
  | ref a =>
    have e : tyM (S a) = some t := e
    cases q : S a with
    | none => rw [q] at e; cases e
    | some m =>
      obtain ⟨_, o, ho, r⟩ := R.sto a m q
      cases m with
      | lst ds =>
        rw [q] at e
        cases e
        obtain ⟨vs, rfl, _⟩ := r
        exact .base (.lst ho)
      | dK ks ds =>
        rw [q] at e
        cases e
        obtain ⟨vs, rfl, _⟩ := r
        exact .base (.dK ho)
      | dT ks ds =>
        rw [q] at e
        cases e
        obtain ⟨vs, rfl, _⟩ := r
        exact .base (.dT ho)
      | dX _ _ _ _ => rw [q] at e; cases e
      | ins C ns ds => rw [q] at e; cases e
      | xd ns ds => rw [q] at e; cases e
theorem tyK_of (R : Rel K Z H S F) {d : D} {v : V} {t : String} (iv : IsV K F d v) (e : tyD S d = some t) : ∃ tv, TyX K H v tv ∧ ∀ n ∈ tyIn, PySem.W.kitOne K tv (.type n) = some (isB t n) := by
  have gen : tyB S d = some t → ∃ tv, TyX K H v tv ∧ ∀ n ∈ tyIn, PySem.W.kitOne K tv (.type n) = some (isB t n) := fun e => ⟨_, tyX_of R iv e, fun n hn => kit_ty (kit_is (tyD_out (tyB_D e)) hn)⟩
  cases iv with
  | obj h0 h1 h2 h3 =>
    cases e
    refine ⟨_, .base (.ins (R.sub _ _ h1).1 h0.ty.cl h0.ty.at_ h0.ty.get h0.ty.tk h0.ty.mro), fun n hn => ?_⟩
    have z := of_decide_eq_true (List.all_eq_true.mp h0.no n hn)
    rw [z]
    have : isB "object" n = false := by
      have al : (tyIn.all fun n => isB "object" n == false) = true := by decide +kernel
      exact eq_of_beq (List.all_eq_true.mp al n hn)
    rw [this]
  | _ => exact gen e
def rdIsi : DRL := fun xs S Q => ∃ x n t, xs = [x, .ty n] ∧ tyD S x = some t ∧ n ∈ tyIn ∧ Q (.bl (isB t n)) S
theorem lift_isi : LiftL K (rIsi K) rdIsi := by
  intro Z H S F x v Q P R iv ⟨x, n, t, hx, ht, hn, q⟩ k
  subst hx
  cases iv with
  | cons h1 h2 =>
    cases h2 with
    | cons h2 h3 =>
      cases h3
      cases h2
      obtain ⟨tv, T, kt⟩ := tyK_of R h1 ht
      exact ⟨_, _, _, _, _, rfl, .ty n, T, kt n hn, k _ _ ⟨_, S, F, .refl R, .bl _, q⟩⟩

/-! ### all, any, tuple, list, int, sorted -/
theorem isVs_bls_inv : ∀ {ns : List Bool} {vs : List V}, IsVs K F (ns.map D.bl) vs → vs = ns.map V.bl
  | [], _, h => by cases h; rfl
  | n :: r, _, h => by
    cases h with
    | cons h1 h2 =>
      cases h1
      rw [isVs_bls_inv h2]
      rfl
theorem isVs_one {d : D} {vs : List V} (h : IsVs K F [d] vs) : ∃ v, vs = [v] ∧ IsV K F d v := by
  cases h with
  | cons h1 h2 => cases h2; exact ⟨_, rfl, h1⟩
theorem isVs_two {d e : D} {vs : List V} (h : IsVs K F [d, e] vs) : ∃ v w, vs = [v, w] ∧ IsV K F d v ∧ IsV K F e w := by
  cases h with
  | cons h1 h2 =>
    obtain ⟨w, rfl, h3⟩ := isVs_one h2
    exact ⟨_, _, rfl, h1, h3⟩
def rdAll : DRL := fun xs S Q => ∃ bs : List Bool, xs = [.lst (bs.map .bl)] ∧ Q (.bl (bs.all id)) S
theorem lift_all : LiftL K (rAll K) rdAll := by
  intro Z H S F x v Q P R iv ⟨bs, hx, q⟩ k
  subst hx
  obtain ⟨v, rfl, iw⟩ := isVs_one iv
  cases iw with
  | lst h1 h2 =>
    rw [isVs_bls_inv h2] at h1
    exact ⟨_, bs, rfl, SqL.of (R.sub _ _ h1).1, k _ _ ⟨_, S, F, .refl R, .bl _, q⟩⟩
/-- the items of a list, of a list or a tuple -/
def lstM : Option M → Option (List D)
  | some (.lst ds) => some ds
  | _ => none
def lstD (S : Store) : D → Option (List D)
  | .lst ds => some ds
  | .scr ds => some ds
  | .ref a => lstM (S a)
  | _ => none
def itemsD (S : Store) : D → Option (List D)
  | .tup ds => some ds
  | .lst ds => some ds
  | .scr ds => some ds
  | .ref a => lstM (S a)
  | _ => none
theorem lst_of (R : Rel K Z H S F) {d : D} {v : V} {ds : List D} (iv : IsV K F d v) (e : lstD S d = some ds) : ∃ p vs, v = .ref p ∧ SqL K H p vs ∧ IsVs K F ds vs := by
  cases iv with
  | lst h1 h2 => cases e; exact ⟨_, _, rfl, SqL.of (R.sub _ _ h1).1, h2⟩
  | scr h1 h2 => cases e; exact ⟨_, _, rfl, R.sql h1, h2⟩
  | ref a =>
    have e : lstM (S a) = some ds := e
    cases q : S a with
    | none => rw [q] at e; cases e
    | some m =>
      obtain ⟨_, o, ho, r⟩ := R.sto a m q
      cases m with
      | lst ds =>
        rw [q] at e
        cases e
        obtain ⟨vs, rfl, h⟩ := r
        exact ⟨_, _, rfl, SqL.of ho, h⟩
      | _ => rw [q] at e; cases e
  | _ => cases e
theorem items_cases {S : Store} {d : D} {ds : List D} (e : itemsD S d = some ds) : d = .tup ds ∨ lstD S d = some ds := by
  cases d with
  | tup es => cases e; exact .inl rfl
  | lst es => exact .inr e
  | scr es => exact .inr e
  | ref a => exact .inr e
  | _ => cases e
theorem items_of (R : Rel K Z H S F) {d : D} {v : V} {ds : List D} (iv : IsV K F d v) (e : itemsD S d = some ds) : ∃ p vs, v = .ref p ∧ (SqL K H p vs ∨ SqT K H p vs) ∧ IsVs K F ds vs := by
  rcases items_cases e with rfl | e
  · cases iv with
    | tup h1 h2 => exact ⟨_, _, rfl, .inr (SqT.of (R.sub _ _ h1).1), h2⟩
  · obtain ⟨p, vs, e1, h, iv2⟩ := lst_of R iv e
    exact ⟨p, vs, e1, .inl h, iv2⟩
def rdTuple : DRL := fun xs S Q => ∃ d ds, xs = [d] ∧ itemsD S d = some ds ∧ Q (.tup ds) S
theorem lift_tuple : LiftL K (fun xs H Q => ∃ p ys, xs = [.ref p] ∧ ((SqL K H p ys ∧ ∀ l, H l = none → Q (.ref l) (upd H l (.tup ys))) ∨ (SqT K H p ys ∧ Q (.ref p) H))) rdTuple := by
  intro Z H S F x v Q P R iv ⟨d, ds, hx, hd, q⟩ k
  subst hx
  obtain ⟨v, rfl, iw⟩ := isVs_one iv
  rcases items_cases hd with rfl | hd
  · cases iw with
    | tup h1 h2 => exact ⟨_, _, rfl, .inr ⟨SqT.of (R.sub _ _ h1).1, k _ _ ⟨_, S, F, .refl R, .tup h1 h2, q⟩⟩⟩
  · obtain ⟨p, vs, rfl, hs, iv2⟩ := lst_of R iw hd
    exact ⟨_, _, rfl, .inl ⟨hs, fun l hl => by
      obtain ⟨R2, s2, k2⟩ := R.laid (o := .tup vs) hl
      exact k _ _ ⟨_, S, _, ⟨s2, R2, k2⟩, .tup upd_same (iv2.up s2), q⟩⟩⟩
/-- list(x), not written any more; list(x) of the store -/
def rdList : DRL := fun xs S Q => ∃ d ds, xs = [d] ∧ itemsD S d = some ds ∧ Q (.lst ds) S
def rListOf (K : PySem.W.Frag) : List V → Hp → VK → Prop := fun xs H Q => ∃ p ys, xs = [.ref p] ∧ (SqL K H p ys ∨ SqT K H p ys) ∧ ∀ l, H l = none → Q (.ref l) (upd H l (.lst ys))
theorem lift_list : LiftL K (rListOf K) rdList := by
  intro Z H S F x v Q P R iv ⟨d, ds, hx, hd, q⟩ k
  subst hx
  obtain ⟨v, rfl, iw⟩ := isVs_one iv
  obtain ⟨p, vs, rfl, hs, iv2⟩ := items_of R iw hd
  exact ⟨_, _, rfl, hs, fun l hl => by
    obtain ⟨R2, s2, k2⟩ := R.laid (o := .lst vs) hl
    exact k _ _ ⟨_, S, _, ⟨s2, R2, k2⟩, .lst upd_same (iv2.up s2), q⟩⟩
/-- int(i) -/
def rdInt1 : DRL := fun xs S Q => ∃ i, xs = [.int i] ∧ Q (.int i) S
theorem lift_int1 : LiftL K (fun xs H Q => (∃ i, xs = [.int i] ∧ Q (.int i) H) ∨ ∃ k, xs = [.bl k] ∧ Q (.int (if k then 1 else 0)) H) rdInt1 := by
  intro Z H S F x v Q P R iv ⟨i, hx, q⟩ k
  subst hx
  obtain ⟨v, rfl, iw⟩ := isVs_one iv
  cases iw
  exact .inl ⟨i, rfl, k _ _ ⟨_, S, F, .refl R, .int i, q⟩⟩
def rdSortedS : DRL := fun xs S Q => ∃ (d : D) (ns : List Str), xs = [d] ∧ lstD S d = some (ns.map .str) ∧ ns.length < 64 ∧ ∀ ns' : List Str, ns'.Perm ns → PyProof.Rows.sortedS ns' = true → Q (.lst (ns'.map .str)) S
theorem lift_sortedS : LiftL K (rSortedS K) rdSortedS := by
  intro Z H S F x v Q P R iv ⟨d, ns, hx, hd, z, q⟩ k
  subst hx
  obtain ⟨v, rfl, iw⟩ := isVs_one iv
  obtain ⟨p, vs, rfl, hs, iv2⟩ := lst_of R iw hd
  rw [isVs_strs_inv iv2] at hs
  exact ⟨_, ns, rfl, hs, z, fun ns' l p1 p2 hl => by
    obtain ⟨R2, s2, k2⟩ := R.laid (o := .lst (ns'.map V.str)) hl
    exact k _ _ ⟨_, S, _, ⟨s2, R2, k2⟩, .lst upd_same (isVs_strs ns'), q ns' p1 p2⟩⟩
end

/-! ### methods of a list of the store -/
section
variable {X : Cx} {W : WX} {o e : Expr} {es : List Expr} {to te : DTE} {t : DTA} {name : Str} {apos cpos pos : Pos} {id : String}
theorem IsVs.dropLast {K : PySem.W.Frag} {F : Hp} : ∀ {ds : List D} {vs : List V}, IsVs K F ds vs → IsVs K F ds.dropLast vs.dropLast
  | _, _, .nil => .nil
  | _, _, .cons h .nil => .nil
  | _, _, .cons h (.cons g t) => .cons h (IsVs.dropLast (.cons g t))
abbrev DRA := Addr → List D → List D → Store → DQ → Prop
def LiftA (K : PySem.W.Frag) (r : V → List V → Hp → VK → Prop) (rd : DRA) : Prop := ∀ Z H S F a ds xs vs Q P, Rel K Z H S F → S a = some (.lst ds) → IsVs K F xs vs → rd a ds xs S Q → (∀ v' H', LftE K Z H F Q v' H' → P v' H') → r (.ref a) vs H P
def dMt (rd : DRA) (to : DTE) (t : DTA) : DTE := fun ρ S Q E => to ρ S (fun x S1 => ∃ a, x = .ref a ∧ (∃ ds, S1 a = some (.lst ds)) ∧ t ρ S1 (fun xs S2 => ∃ ds, S2 a = some (.lst ds) ∧ rd a ds xs S2 Q) E) E
theorem lift_mt {r : V → List V → Hp → VK → Prop} {rd : DRA} (l : LiftA X.K r rd) : ∀ σ H P, upE X.K W (dMt rd to t) σ H P → tBM X.K "list" r (upE X.K W to) (upA X.K W t) σ H P := fun σ H P ⟨ρ, S, F, Z, Q, E, R, V, q, k, x⟩ =>
  ⟨ρ, S, F, Z, _, E, R, V, q, fun v H1 ⟨d, S1, F1, A1, i1, a, hd, ⟨ds, hs⟩, q1⟩ => by
    subst hd
    cases i1
    obtain ⟨_, o, ho, vs, e, _⟩ := A1.rel.sto a _ hs
    subst e
    exact ⟨.inl ⟨rfl, vs, SqL.of ho⟩, ρ, S1, F1, Z, _, E, A1.rel, V.up A1.sm, q1, fun ws H2 ⟨es, S2, F2, A2, i2, ds2, hs2, q2⟩ => l Z H2 S2 F2 a ds2 es ws Q P A2.rel hs2 i2 q2 fun v' H' ⟨d', S', F', A3, i3, q3⟩ => k v' H' ⟨d', S', F', A1.trans (A2.trans A3), i3, q3⟩, xe_tr x A1⟩, x⟩
theorem lift_mt0 {r : V → List V → Hp → VK → Prop} {rd : DRA} (l : LiftA X.K r rd) : ∀ σ H P, upE X.K W (dMt rd to dNil) σ H P → tBM0 X.K "list" r (upE X.K W to) σ H P := fun σ H P ⟨ρ, S, F, Z, Q, E, R, V, q, k, x⟩ =>
  ⟨ρ, S, F, Z, _, E, R, V, q, fun v H1 ⟨d, S1, F1, A1, i1, a, hd, ⟨ds, hs⟩, ds2, hs2, q2⟩ => by
    subst hd
    cases i1
    obtain ⟨_, o, ho, vs, e, _⟩ := A1.rel.sto a _ hs
    subst e
    exact ⟨.inl ⟨rfl, vs, SqL.of ho⟩, l Z H1 S1 F1 a ds2 [] [] Q P A1.rel hs2 .nil q2 fun v' H' ⟨d', S', F', A3, i3, q3⟩ => k v' H' ⟨d', S', F', A1.trans A3, i3, q3⟩⟩, x⟩
theorem de_mt {r : V → List V → Hp → VK → Prop} {rd : DRA} (l : LiftA X.K r rd) (slot : Slot "list" name id) (hty : typeOf (.builtin id) = pure (.type "method_descriptor")) (hm : MtR X id r) (ho : DE X W o to) (ha : DA X W (e :: es) t)
    (hbase : attributeBase o name X.env (eval o X.env) = eval o X.env := by rfl)
    (hfew : ((backTo cpos (starEach (e :: es) X.env)).all (fun x => !x.1) && (backToKw cpos (keywordEach [] X.env)).all (fun x => x.1.isSome)
      && decide ((e :: es).length + ([] : List Keyword).length + (if ([] : List Keyword).isEmpty then 0 else 1) < 30)) = true := by rfl)
    (hline : (apos.endLine == cpos.line) = true := by rfl) (hs : starEach (e :: es) X.env = (false, eval e X.env) :: starEach es X.env := by rfl) (hplain : (backTo cpos (starEach es X.env)).any (·.1) = false := by rfl) :
    DE X W (.Call (.Attribute o name apos) (e :: es) [] cpos) (dMt rd to t) := de_pe (pe_bm F.plainAttrs_list slot hty hm ho.pe ha.pa hbase hfew hline hs hplain) (lift_mt l)
theorem de_mt0 {r : V → List V → Hp → VK → Prop} {rd : DRA} (l : LiftA X.K r rd) (slot : Slot "list" name id) (hty : typeOf (.builtin id) = pure (.type "method_descriptor")) (hm : MtR X id r) (ho : DE X W o to)
    (hbase : attributeBase o name X.env (eval o X.env) = eval o X.env := by rfl) (hline : (apos.endLine == cpos.line) = true := by rfl) : DE X W (.Call (.Attribute o name apos) [] [] cpos) (dMt rd to dNil) := de_pe (pe_bm0 F.plainAttrs_list slot hty hm ho.pe hbase hline) (lift_mt0 l)
def rdAppend : DRA := fun a ds xs S Q => ∃ d, xs = [d] ∧ ds.length < sizeLine ∧ Q .non (put S a (.lst (ds ++ [d])))
theorem lift_append {K : PySem.W.Frag} : LiftA K rAppend rdAppend := by
  intro Z H S F a ds xs vs Q P R hs iv ⟨d, hx, z, q⟩ k
  subst hx
  obtain ⟨v, rfl, iw⟩ := isVs_one iv
  obtain ⟨_, o, ho, us, e, h2⟩ := R.sto a _ hs
  subst e
  obtain ⟨R2, k2⟩ := R.wrote (o := .lst (us ++ [v])) (m := .lst (ds ++ [d])) hs ⟨_, rfl, h2.append (.cons iw .nil)⟩
  exact ⟨a, us, v, rfl, rfl, ho, by rw [← h2.length]; exact z, k _ _ ⟨.non, _, F, ⟨Same.refl _, R2, k2⟩, .non, q⟩⟩
def rdPop : DRA := fun a ds xs S Q => ∃ d, xs = [] ∧ ds[ds.length - 1]? = some d ∧ Q d (put S a (.lst ds.dropLast))
theorem lift_pop {K : PySem.W.Frag} : LiftA K rPop rdPop := by
  intro Z H S F a ds xs vs Q P R hs iv ⟨d, hx, z, q⟩ k
  subst hx
  cases iv
  obtain ⟨_, o, ho, us, e, h2⟩ := R.sto a _ hs
  subst e
  obtain ⟨v, e1, iv⟩ := h2.get z
  obtain ⟨R2, k2⟩ := R.wrote (o := .lst us.dropLast) (m := .lst ds.dropLast) hs ⟨_, rfl, h2.dropLast⟩
  exact ⟨a, us, v, rfl, rfl, ho, by rw [← h2.length]; exact e1, k _ _ ⟨d, _, F, ⟨Same.refl _, R2, k2⟩, iv, q⟩⟩
def rdPopAt : DRA := fun a ds xs S Q => ∃ i k d, xs = [.int i] ∧ -(2 ^ 63) ≤ i ∧ i < 2 ^ 63 ∧ seqIndex? i ds.length = some k ∧ ds[k]? = some d ∧ Q d (put S a (.lst (ds.eraseIdx k)))
theorem lift_popAt {K : PySem.W.Frag} : LiftA K rPopAt rdPopAt := by
  intro Z H S F a ds xs vs Q P R hs iv ⟨i, j, d, hx, z1, z2, hj, hd, q⟩ k
  subst hx
  obtain ⟨v, rfl, iw⟩ := isVs_one iv
  cases iw
  obtain ⟨_, o, ho, us, e, h2⟩ := R.sto a _ hs
  subst e
  obtain ⟨v, e1, iw⟩ := h2.get hd
  obtain ⟨R2, k2⟩ := R.wrote (o := .lst (us.eraseIdx j)) (m := .lst (ds.eraseIdx j)) hs ⟨_, rfl, h2.eraseIdx j⟩
  exact ⟨a, us, i, j, v, rfl, rfl, ho, z1, z2, by rw [← h2.length]; exact hj, e1, k _ _ ⟨d, _, F, ⟨Same.refl _, R2, k2⟩, iw, q⟩⟩
theorem de_append (ho : DE X W o to) (ha : DE X W e te) (hbase : attributeBase o "append" X.env (eval o X.env) = eval o X.env := by rfl)
    (hfew : ((backTo cpos (starEach [e] X.env)).all (fun x => !x.1) && (backToKw cpos (keywordEach [] X.env)).all (fun x => x.1.isSome)
      && decide ([e].length + ([] : List Keyword).length + (if ([] : List Keyword).isEmpty then 0 else 1) < 30)) = true := by rfl)
    (hline : (apos.endLine == cpos.line) = true := by rfl) (hs : starEach [e] X.env = (false, eval e X.env) :: starEach [] X.env := by rfl) (hplain : (backTo cpos (starEach [] X.env)).any (·.1) = false := by rfl) :
    DE X W (.Call (.Attribute o "append" apos) [e] [] cpos) (dMt rdAppend to (dCons te dNil)) := de_mt lift_append F.slot_list_append F.type_list_append mt_append ho (da_cons ha da_nil hs) hbase hfew hline hs hplain
theorem de_pop (ho : DE X W o to) (hbase : attributeBase o "pop" X.env (eval o X.env) = eval o X.env := by rfl) (hline : (apos.endLine == cpos.line) = true := by rfl) :
    DE X W (.Call (.Attribute o "pop" apos) [] [] cpos) (dMt rdPop to dNil) := de_mt0 lift_pop F.slot_list_pop F.type_list_pop mt_pop ho hbase hline
theorem de_popAt (ho : DE X W o to) (ha : DE X W e te) (hbase : attributeBase o "pop" X.env (eval o X.env) = eval o X.env := by rfl)
    (hfew : ((backTo cpos (starEach [e] X.env)).all (fun x => !x.1) && (backToKw cpos (keywordEach [] X.env)).all (fun x => x.1.isSome)
      && decide ([e].length + ([] : List Keyword).length + (if ([] : List Keyword).isEmpty then 0 else 1) < 30)) = true := by rfl)
    (hline : (apos.endLine == cpos.line) = true := by rfl) (hs : starEach [e] X.env = (false, eval e X.env) :: starEach [] X.env := by rfl) (hplain : (backTo cpos (starEach [] X.env)).any (·.1) = false := by rfl) :
    DE X W (.Call (.Attribute o "pop" apos) [e] [] cpos) (dMt rdPopAt to (dCons te dNil)) := de_mt lift_popAt F.slot_list_pop F.type_list_pop mt_popAt ho (da_cons ha da_nil hs) hbase hfew hline hs hplain
end
end DL

set_option maxRecDepth 100000
set_option maxHeartbeats 1000000
/-! DL, dicts and fields. -/
namespace DL
open PySem PySem.Spec L2
/-! ### keys -/
def keyD : Key → D
  | .inl i => .int i
  | .inr x => .str x
/-- keys with what they lead to, tree by value -/
inductive PR (K : PySem.W.Frag) (F : Hp) {κ : Type} : List (κ × D) → List (κ × V) → Prop where
  | nil : PR K F [] []
  | cons {k : κ} {d : D} {v : V} {ds : List (κ × D)} {vs : List (κ × V)} : IsV K F d v → PR K F ds vs → PR K F ((k, d) :: ds) ((k, v) :: vs)
section
variable {K : PySem.W.Frag} {F : Hp} {κ : Type}
theorem keyD_inv {k : Key} {v : V} (h : IsV K F (keyD k) v) : v = kV k := by
  cases k with
  | inl i => cases h; rfl
  | inr x => cases h; rfl
theorem keyDs_inv : ∀ {k : List Key} {vs : List V}, IsVs K F (k.map keyD) vs → vs = k.map kV
  | [], _, h => by cases h; rfl
  | a :: k, _, h => by
    cases h with
    | cons h1 h2 => rw [keyD_inv h1, keyDs_inv h2]; rfl
theorem keyD_is (k : Key) : IsV K F (keyD k) (kV k) := by
  cases k with
  | inl i => exact .int i
  | inr x => exact .str x
theorem pr_of : ∀ {ks : List κ} {ds : List D} {kvs : List (κ × V)}, kvs.map (·.1) = ks → IsVs K F ds (kvs.map (·.2)) → PR K F (ks.zip ds) kvs
  | _, [], [], h, _ => by subst h; exact .nil
  | _, d :: ds, [], _, h2 => by cases h2
  | _, [], kv :: kvs, _, h2 => by cases h2
  | _, d :: ds, (k, v) :: kvs, h, h2 => by
    subst h
    cases h2 with
    | cons h3 h4 => exact .cons h3 (pr_of rfl h4)
theorem PR.fst {ds : List (κ × D)} {vs : List (κ × V)} (h : PR K F ds vs) : ds.map (·.1) = vs.map (·.1) := by
  induction h with
  | nil => rfl
  | cons _ _ ih => rw [List.map_cons, List.map_cons, ih]
theorem PR.snd {ds : List (κ × D)} {vs : List (κ × V)} (h : PR K F ds vs) : IsVs K F (ds.map (·.2)) (vs.map (·.2)) := by
  induction h with
  | nil => exact .nil
  | cons h1 _ ih => exact .cons h1 ih
theorem PR.append {ds es : List (κ × D)} {vs ws : List (κ × V)} (h : PR K F ds vs) (g : PR K F es ws) : PR K F (ds ++ es) (vs ++ ws) := by
  induction h with
  | nil => exact g
  | cons h1 _ ih => exact .cons h1 ih
variable [DecidableEq κ]
/-- what stands at a key -/
def valD (kds : List (κ × D)) (k : κ) : Option D := (kds.find? fun kd => decide (kd.1 = k)).map (·.2)
def putD (kds : List (κ × D)) (k : κ) (d : D) : List (κ × D) :=
  if (kds.any fun kd => decide (kd.1 = k)) = true then kds.map (fun kd => if kd.1 = k then (kd.1, d) else kd) else kds ++ [(k, d)]
theorem PR.val {ds : List (κ × D)} {vs : List (κ × V)} (h : PR K F ds vs) (k : κ) : (valD ds k = none ∧ valV vs k = none) ∨ ∃ d v, valD ds k = some d ∧ valV vs k = some v ∧ IsV K F d v := by
  induction h with
  | nil => exact .inl ⟨rfl, rfl⟩
  | @cons k0 d v ds vs h1 _ ih =>
    unfold valD valV at ih ⊢
    rw [List.find?_cons, List.find?_cons]
    dsimp only
    by_cases e : k0 = k
    · rw [decide_eq_true e]
      exact .inr ⟨d, v, rfl, rfl, h1⟩
    · rw [decide_eq_false e]
      exact ih
theorem PR.any {ds : List (κ × D)} {vs : List (κ × V)} (h : PR K F ds vs) (k : κ) : (ds.any fun kd => decide (kd.1 = k)) = (vs.any fun kd => decide (kd.1 = k)) := by
  induction h with
  | nil => rfl
  | cons _ _ ih => rw [List.any_cons, List.any_cons, ih]
theorem PR.repl {ds : List (κ × D)} {vs : List (κ × V)} (h : PR K F ds vs) (k : κ) {d : D} {v : V} (r : IsV K F d v) : PR K F (ds.map fun kd => if kd.1 = k then (kd.1, d) else kd) (vs.map fun kd => if kd.1 = k then (kd.1, v) else kd) := by
  induction h with
  | nil => exact .nil
  | @cons k0 d0 v0 ds vs h1 _ ih =>
    rw [List.map_cons, List.map_cons]
    dsimp only
    by_cases e : k0 = k
    · rw [if_pos e, if_pos e]
      exact .cons r ih
    · rw [if_neg e, if_neg e]
      exact .cons h1 ih
theorem PR.put {ds : List (κ × D)} {vs : List (κ × V)} (h : PR K F ds vs) (k : κ) {d : D} {v : V} (r : IsV K F d v) : PR K F (putD ds k d) (putK vs k v) := by
  unfold putD putK
  rw [h.any k]
  split
  · exact h.repl k r
  · exact h.append (.cons r .nil)
end

/-! ### x[y] of a dict -/
/-- the dict's pairs: keys ints and texts; keys tuples of them -/
def dkM : Option M → Option (List (Key × D))
  | some (.dK ks ds) => some (ks.zip ds)
  | _ => none
def dtM : Option M → Option (List (List Key × D))
  | some (.dT ks ds) => some (ks.zip ds)
  | _ => none
def dkD (S : Store) : D → Option (List (Key × D))
  | .dK ks ds => some (ks.zip ds)
  | .ref a => dkM (S a)
  | _ => none
def dtD (S : Store) : D → Option (List (List Key × D))
  | .dT ks ds => some (ks.zip ds)
  | .ref a => dtM (S a)
  | _ => none
section
variable {K : PySem.W.Frag} {Z : Addr → Prop} {H F : Hp} {S : Store}
theorem dk_is (R : Rel K Z H S F) {d : D} {v : V} {kds : List (Key × D)} (iv : IsV K F d v) (e : dkD S d = some kds) : ∃ a kvs, v = .ref a ∧ H a = some (.dK kvs) ∧ PR K F kds kvs := by
  cases iv with
  | dK h1 h2 h3 => cases e; exact ⟨_, _, rfl, (R.sub _ _ h1).1, pr_of h2 h3⟩
  | ref a =>
    have e : dkM (S a) = some kds := e
    cases q : S a with
    | none => rw [q] at e; cases e
    | some m =>
      obtain ⟨_, o, ho, r⟩ := R.sto a m q
      cases m with
      | dK ks ds =>
        rw [q] at e
        cases e
        obtain ⟨kvs, rfl, h2, h3⟩ := r
        exact ⟨a, kvs, rfl, ho, pr_of h2 h3⟩
      | _ => rw [q] at e; cases e
  | _ => cases e
theorem dt_is (R : Rel K Z H S F) {d : D} {v : V} {kds : List (List Key × D)} (iv : IsV K F d v) (e : dtD S d = some kds) : ∃ a kvs, v = .ref a ∧ H a = some (.dT kvs) ∧ PR K F kds kvs := by
  cases iv with
  | dT h1 h2 h3 => cases e; exact ⟨_, _, rfl, (R.sub _ _ h1).1, pr_of h2 h3⟩
  | ref a =>
    have e : dtM (S a) = some kds := e
    cases q : S a with
    | none => rw [q] at e; cases e
    | some m =>
      obtain ⟨_, o, ho, r⟩ := R.sto a m q
      cases m with
      | dT ks ds =>
        rw [q] at e
        cases e
        obtain ⟨kvs, rfl, h2, h3⟩ := r
        exact ⟨a, kvs, rfl, ho, pr_of h2 h3⟩
      | _ => rw [q] at e; cases e
  | _ => cases e
theorem tkey_is (R : Rel K Z H S F) {k : List Key} {v : V} (iv : IsV K F (.tup (k.map keyD)) v) : ∃ b, v = .ref b ∧ H b = some (.tup (k.map kV)) := by
  cases iv with
  | tup h1 h2 => rw [keyDs_inv h2] at h1; exact ⟨_, rfl, (R.sub _ _ h1).1⟩
/-- what x holds at y -/
def DGetD (S : Store) (x y : D) (r : Option D) : Prop := (∃ kds k, dkD S x = some kds ∧ y = keyD k ∧ r = valD kds k) ∨ ∃ kds k, dtD S x = some kds ∧ y = .tup (k.map keyD) ∧ r = valD kds k
theorem dget_is (R : Rel K Z H S F) {x y : D} {v u : V} {r : Option D} (iv : IsV K F x v) (iu : IsV K F y u) (g : DGetD S x y r) : ∃ a o, v = .ref a ∧ DGet H a u o ∧ ((r = none ∧ o = none) ∨ ∃ d w, r = some d ∧ o = some w ∧ IsV K F d w) := by
  rcases g with ⟨kds, k, e, rfl, rfl⟩ | ⟨kds, k, e, rfl, rfl⟩
  · obtain ⟨a, kvs, rfl, h, p⟩ := dk_is R iv e
    rw [keyD_inv iu]
    refine ⟨a, valV kvs k, rfl, .k h, ?_⟩
    rcases p.val k with ⟨h1, h2⟩ | ⟨d, w, h1, h2, h3⟩
    · exact .inl ⟨h1, h2⟩
    · exact .inr ⟨d, w, h1, h2, h3⟩
  · obtain ⟨a, kvs, rfl, h, p⟩ := dt_is R iv e
    obtain ⟨b, rfl, hb⟩ := tkey_is R iu
    refine ⟨a, valV kvs k, rfl, .t h hb, ?_⟩
    rcases p.val k with ⟨h1, h2⟩ | ⟨d, w, h1, h2, h3⟩
    · exact .inl ⟨h1, h2⟩
    · exact .inr ⟨d, w, h1, h2, h3⟩
end
section
variable {X : Cx} {W : WX} {o i e : Expr} {td ty te : DTE} {pos pos' : Pos}
/-- {}: frozen; of the store -/
def dNewK : DTE := fun _ S Q _ => Q (.dK [] []) S
theorem de_newK : DE X W (.Dict [] [] pos) dNewK := de_pe pe_dnewK fun σ H P ⟨ρ, S, F, Z, Q, E, R, V, q, k, x⟩ => fun p hp => by
  obtain ⟨R2, s2, k2⟩ := R.laid (o := .dK []) hp
  exact k _ _ ⟨.dK [] [], S, _, ⟨s2, R2, k2⟩, .dK upd_same rfl .nil, q⟩
/-! ### {k: v, ..} -/
abbrev DTP := Sl → Store → (List (D × D) → Store → Prop) → DX → Prop
def dPairs : List (DTE × DTE) → DTP
  | [] => fun _ S Q _ => Q [] S
  | (tk, tv) :: r => fun ρ S Q E => tk ρ S (fun x S1 => tv ρ S1 (fun y S2 => dPairs r ρ S2 (fun ps S3 => Q ((x, y) :: ps) S3) E) E) E
inductive IsPs (K : PySem.W.Frag) (F : Hp) : List (D × D) → List (V × V) → Prop where
  | nil : IsPs K F [] []
  | cons {x y : D} {v w : V} {ds : List (D × D)} {vs : List (V × V)} : IsV K F x v → IsV K F y w → IsPs K F ds vs → IsPs K F ((x, y) :: ds) ((v, w) :: vs)
theorem lift_pairs {K : PySem.W.Frag} : ∀ (trs : List (DTE × DTE)) (ρ : Sl) (S : Store) (Q : List (D × D) → Store → Prop) (E : DX) (Z : Addr → Prop) (H F : Hp) (σ : L2.St) (P : List (V × V) → Hp → Prop), Rel K Z H S F → EnvR K F ρ σ → dPairs trs ρ S Q E →
    (∀ ps H', (∃ ds S' F', Aft K Z H F H' S' F' ∧ IsPs K F' ds ps ∧ Q ds S') → P ps H') → (∀ cls d H', LftX K Z H F E cls d H' → W cls d σ H') → tPairs (trs.map fun t => (upE K W t.1, upE K W t.2)) σ H P
  | [], ρ, S, Q, E, Z, H, F, σ, P, R, V, q, k, x => k [] H ⟨[], S, F, .refl R, .nil, q⟩
  | (tk, tv) :: r, ρ, S, Q, E, Z, H, F, σ, P, R, V, q, k, x =>
    ⟨ρ, S, F, Z, _, E, R, V, q, fun v H1 ⟨d, S1, F1, A1, i1, q1⟩ => ⟨ρ, S1, F1, Z, _, E, A1.rel, V.up A1.sm, q1, fun w H2 ⟨e, S2, F2, A2, i2, q2⟩ =>
      lift_pairs r ρ S2 _ E Z H2 F2 σ _ A2.rel ((V.up A1.sm).up A2.sm) q2 (fun ps H3 ⟨ds, S3, F3, A3, i3, q3⟩ => k _ H3 ⟨(d, e) :: ds, S3, F3, A1.trans (A2.trans A3), .cons ((i1.up A2.sm).up A3.sm) (i2.up A3.sm) i3, q3⟩) (xe_tr x (A1.trans A2)), xe_tr x A1⟩, x⟩
structure DPs (X : Cx) (W : WX) (pos : Pos) (keys : List (Option Expr)) (values : List Expr) (trs : List (DTE × DTE)) : Prop where
  pp : PPs X pos keys values (trs.map fun t => (upE X.K W t.1, upE X.K W t.2))
theorem dps_nil : DPs X W pos [] [] [] := ⟨pps_nil⟩
theorem dps_cons {k v : Expr} {ks : List (Option Expr)} {vs : List Expr} {tk tv : DTE} {trs : List (DTE × DTE)} (hk : DE X W k tk) (hv : DE X W v tv) (hr : DPs X W pos ks vs trs) : DPs X W pos (some k :: ks) (v :: vs) ((tk, tv) :: trs) := ⟨pps_cons hk.pe hv.pe hr.pp⟩
def mergeD (kds more : List (Key × D)) : List (Key × D) := more.foldl (fun acc kd => putD acc kd.1 kd.2) kds
theorem PR.merge {K : PySem.W.Frag} {F : Hp} {ms : List (Key × D)} {mv : List (Key × V)} (h : PR K F ms mv) : ∀ {ds : List (Key × D)} {vs : List (Key × V)}, PR K F ds vs → PR K F (mergeD ds ms) (mergeK vs mv) := by
  induction h with
  | nil => intro ds vs h; exact h
  | cons h1 _ ih => intro ds vs h; exact ih (h.put _ h1)
theorem isPs_keys {K : PySem.W.Frag} {F : Hp} : ∀ {kds : List (Key × D)} {ps : List (V × V)}, IsPs K F (kds.map fun kd => (keyD kd.1, kd.2)) ps → ∃ kvs : List (Key × V), ps = kvs.map (fun kv => (kV kv.1, kv.2)) ∧ PR K F kds kvs
  | [], _, h => by cases h; exact ⟨[], rfl, .nil⟩
  | (k, d) :: r, _, h => by
    cases h with
    | cons h1 h2 h3 =>
      obtain ⟨kvs, rfl, p⟩ := isPs_keys h3
      rw [keyD_inv h1]
      exact ⟨(k, _) :: kvs, rfl, .cons h2 p⟩
def dDisp (trs : List (DTE × DTE)) (fin : List (Key × D) → Store → DQ → Prop) : DTE := fun ρ S Q E => dPairs trs ρ S (fun ps S1 => ∃ kds : List (Key × D), ps = kds.map (fun kd => (keyD kd.1, kd.2)) ∧ kds.length ≤ 15 ∧ fin (mergeD [] kds) S1 Q) E
def finM : List (Key × D) → Store → DQ → Prop := fun kds S Q => ∀ a, S a = none → Q (.ref a) (put S a (.dK (kds.map (·.1)) (kds.map (·.2))))
theorem PR.length {K : PySem.W.Frag} {F : Hp} {κ : Type} {ds : List (κ × D)} {vs : List (κ × V)} (h : PR K F ds vs) : ds.length = vs.length := by
  induction h with
  | nil => rfl
  | cons _ _ ih => rw [List.length_cons, List.length_cons, ih]
theorem disp_lift {K : PySem.W.Frag} {trs : List (DTE × DTE)} {fin : List (Key × D) → Store → DQ → Prop} {σ : L2.St} {H : Hp} {P : VK} {ρ : Sl} {S : Store} {F : Hp} {Z : Addr → Prop} {Q : DQ} {E : DX} (R : Rel K Z H S F) (Er : EnvR K F ρ σ) (q : dDisp trs fin ρ S Q E)
    (k : ∀ (H1 F1 : Hp) (S1 : Store) (p : Addr) (kds : List (Key × D)) (kvs : List (Key × V)), Aft K Z H F H1 S1 F1 → H1 p = some (.dK kvs) → PR K F1 kds kvs → S1 p = none → F1 p = none → ¬ Z p → fin kds S1 Q → P (.ref p) H1) (xl : ∀ cls d H', LftX K Z H F E cls d H' → W cls d σ H') :
    tDisp (trs.map fun t => (upE K W t.1, upE K W t.2)) σ H P := by
  intro p hp
  let Z' : Addr → Prop := fun b => Z b ∨ b = p
  have zD : ¬ Z p := fun z => by
    obtain ⟨o, e⟩ := R.hid p z
    rw [hp] at e; cases e
  have ne : ∀ {b u}, H b = some u → b ≠ p := fun e z => by rw [z, hp] at e; cases e
  have Rb : Rel K Z' (upd H p (.dK [])) S F := by
    refine ⟨fun b u e => ?_, fun b m e => ?_, fun b z => ?_, R.tab.atNew hp⟩
    · have h := R.sub b u e
      exact ⟨by rw [upd_ne (ne h.1)]; exact h.1, h.2.1, fun z => z.elim h.2.2 (ne h.1)⟩
    · obtain ⟨h1, o, h2, h3⟩ := R.sto b m e
      exact ⟨fun z => z.elim h1 (ne h2), o, by rw [upd_ne (ne h2)]; exact h2, h3⟩
    · rcases z with z | z
      · obtain ⟨o, e⟩ := R.hid b z
        exact ⟨o, by rw [upd_ne (ne e)]; exact e⟩
      · subst z
        exact ⟨_, upd_same⟩
  have down : ∀ {H' : Hp} {S' : Store} {F' : Hp}, Rel K Z' H' S' F' → S' p = none ∧ F' p = none ∧ ∀ o, Rel K Z (upd H' p o) S' F' := fun {H' S' F'} r => by
    have hs : S' p = none := no_some fun m e => (r.sto p m e).1 (.inr rfl)
    have hf : F' p = none := no_some fun o e => (r.sub p o e).2.2 (.inr rfl)
    have nf : ∀ {b u}, F' b = some u → b ≠ p := fun e z => by rw [z, hf] at e; cases e
    have nes : ∀ {b u}, S' b = some u → b ≠ p := fun e z => by rw [z, hs] at e; cases e
    refine ⟨hs, hf, fun o => ⟨fun b u e => ⟨by rw [upd_ne (nf e)]; exact (r.sub b u e).1, (r.sub b u e).2.1, fun z => (r.sub b u e).2.2 (.inl z)⟩,
      fun b m e => ⟨fun z => (r.sto b m e).1 (.inl z), let ⟨o, h1, h2⟩ := (r.sto b m e).2; ⟨o, by rw [upd_ne (nes e)]; exact h1, h2⟩⟩, fun b z => ?_, (r.tab.wr (.inr rfl)).less⟩⟩
    have hb : b ≠ p := fun q => zD (q ▸ z)
    obtain ⟨o, e⟩ := r.hid b (.inl z)
    exact ⟨o, by rw [upd_ne hb]; exact e⟩
  have kz : ∀ {H'}, Keep Z' (upd H p (.dK [])) H' → ∀ o, Keep Z H (upd H' p o) := fun {H'} kk o b u z e => by
    have hb : b ≠ p := fun q => zD (q ▸ z)
    rw [upd_ne hb]
    exact kk b u (.inl z) (by rw [upd_ne hb]; exact e)
  refine lift_pairs trs ρ S _ E Z' _ F σ _ Rb Er q (fun ps H2 ⟨ds, S2, F2, A2, i2, kds, e, z, q2⟩ => ?_) fun cls d H' ⟨C, ns, ds, S', F', e, A, xr, q⟩ => ?_
  · subst e
    obtain ⟨kvs, rfl, pr⟩ := isPs_keys i2
    obtain ⟨hs, hf, rl⟩ := down A2.rel
    refine ⟨A2.kp p _ (.inr rfl) upd_same, kvs, rfl, by rw [← pr.length]; exact z, ?_⟩
    exact k _ F2 S2 p _ _ ⟨A2.sm, rl _, kz A2.kp _⟩ upd_same (pr.merge .nil) hs hf zD q2
  · obtain ⟨hs, hf, rl⟩ := down A.rel
    have hd := A.kp p _ (.inr rfl) upd_same
    have e1 : upd H' p (.dK []) = H' := by
      funext b
      by_cases hb : b = p
      · rw [hb, upd_same, hd]
      · rw [upd_ne hb]
    have r1 := rl (.dK [])
    have k1 := kz A.kp (.dK [])
    rw [e1] at r1 k1
    refine xl cls d H' ⟨C, ns, ds, S', F', e, ⟨A.sm, r1, k1⟩, ?_, q⟩
    rcases xr with xr | ⟨dd, fs, x1, x2, x3, x4, x5, x6⟩
    · exact .inl xr
    · exact .inr ⟨dd, fs, x1, x2, x3, x4, fun z => x5 (.inl z), x6⟩
theorem de_dispM {keys : List (Option Expr)} {values : List Expr} {trs : List (DTE × DTE)} (h : DPs X W pos keys values trs) (hall : keys.all (·.isSome) = true := by rfl) (hl : keys.length = values.length := by rfl) (h0 : keys ≠ [] := by exact List.cons_ne_nil _ _) (h15 : keys.length ≤ 15 := by decide) :
    DE X W (.Dict keys values pos) (dDisp trs finM) := de_pe (pe_disp h.pp hall hl h0 h15) fun σ H P ⟨ρ, S, F, Z, Q, E, R, V, q, k, x⟩ =>
  disp_lift R V q (fun H1 F1 S1 p kds kvs A1 hd pr hs hf zd q1 =>
    k _ _ ⟨.ref p, _, F1, A1.trans ⟨Same.refl _, A1.rel.ownS (m := .dK (kds.map (·.1)) (kds.map (·.2))) hd hs hf zd ⟨kvs, rfl, pr.fst.symm, pr.snd⟩, Keep.refl⟩, .ref p, q1 p hs⟩) x

/-! ### fields -/
/-- the fields of an instance of C -/
def objM (C : Addr) : Option M → Option (List (Str × D))
  | some (.ins C' ns ds) => if C' = C then some (ns.zip ds) else none
  | _ => none
def objD (C : Addr) (S : Store) : D → Option (List (Str × D))
  | .obj C' ns ds => if C' = C then some (ns.zip ds) else none
  | .ref a => objM C (S a)
  | _ => none
theorem obj_is {K : PySem.W.Frag} {Z : Addr → Prop} {H F : Hp} {S : Store} (R : Rel K Z H S F) {C : Addr} {d : D} {v : V} {kds : List (Str × D)} (iv : IsV K F d v) (e : objD C S d = some kds) : ∃ a dx fs, v = .ref a ∧ H a = some (.ins C dx fs) ∧ PR K F kds fs := by
  cases iv with
  | obj h0 h1 h2 h3 =>
    have e' : (if _ = C then _ else _) = some kds := e
    split at e'
    · rename_i z
      subst z
      cases e'
      exact ⟨_, _, _, rfl, (R.sub _ _ h1).1, pr_of h2 h3⟩
    · cases e'
  | ref a =>
    have e : objM C (S a) = some kds := e
    cases q : S a with
    | none => rw [q] at e; cases e
    | some m =>
      obtain ⟨_, o, ho, r⟩ := R.sto a m q
      cases m with
      | ins C' ns ds =>
        rw [q] at e
        have e' : (if C' = C then _ else _) = some kds := e
        split at e'
        · rename_i z
          subst z
          cases e'
          obtain ⟨dx, fs, rfl, h2, h3⟩ := r
          exact ⟨a, dx, fs, rfl, ho, pr_of h2 h3⟩
        · cases e'
      | _ => rw [q] at e; cases e
  | _ => cases e
theorem PR.lookup {K : PySem.W.Frag} {F : Hp} {ds : List (Str × D)} {vs : List (Str × V)} (h : PR K F ds vs) {f : Str} {d : D} (e : ds.lookup f = some d) : ∃ v, vs.lookup f = some v ∧ IsV K F d v := by
  induction h with
  | nil => cases e
  | @cons k0 d0 v0 ds vs h1 _ ih =>
    rw [List.lookup_cons] at e ⊢
    cases q : f == k0 with
    | true =>
      rw [q] at e
      cases e
      exact ⟨v0, rfl, h1⟩
    | false =>
      rw [q] at e
      exact ih e
/-- e.f -/
def dFld (C : Addr) (f : Str) (t : DTE) : DTE := fun ρ S Q E => t ρ S (fun x S1 => ∃ kds d, objD C S1 x = some kds ∧ kds.lookup f = some d ∧ Q d S1) E
theorem de_fld {C : Addr} {f : Str} (c : Cls X.K C) (n : NoAttr X.K C f) (he : DE X W e te) (hb : attributeBase e f X.env (eval e X.env) = eval e X.env := by rfl) : DE X W (.Attribute e f pos) (dFld C f te) :=
  de_pe (pe_fld he.pe hb) fun σ H P ⟨ρ, S, F, Z, Q, E, R, V, q, k, x⟩ => ⟨ρ, S, F, Z, _, E, R, V, q, fun v H1 ⟨d, S1, F1, A1, i1, kds, d2, ho, hl, q1⟩ => by
    obtain ⟨a, dx, fs, rfl, h, p⟩ := obj_is A1.rel i1 ho
    obtain ⟨v2, hl2, iv⟩ := p.lookup hl
    exact ⟨a, C, dx, fs, v2, rfl, h, c, n, hl2, k _ _ ⟨d2, S1, F1, A1, iv, q1⟩⟩, x⟩
def putFD (f : Str) (d : D) : List (Str × D) → List (Str × D)
  | [] => [(f, d)]
  | (g, x) :: r => if g = f then (g, d) :: r else (g, x) :: putFD f d r
theorem PR.putF {K : PySem.W.Frag} {F : Hp} {ds : List (Str × D)} {vs : List (Str × V)} (h : PR K F ds vs) (f : Str) {d : D} {v : V} (r : IsV K F d v) : PR K F (putFD f d ds) (L2.putF f v vs) := by
  induction h with
  | nil => exact .cons r .nil
  | @cons k0 d0 v0 ds vs h1 h2 ih =>
    unfold putFD L2.putF
    split
    · exact .cons r h2
    · exact .cons h1 ih
/-- e.f = value, an instance of the store -/
def dFldPut (C : Addr) (f : Str) (t tv : DTE) : DTS := fun N ρ S => tv ρ S (fun d S1 => t ρ S1 (fun x S2 => ∃ a ns ds, x = .ref a ∧ S2 a = some (.ins C ns ds) ∧ ns.length < 1000 ∧
  N.nx ρ (put S2 a (.ins C ((putFD f d (ns.zip ds)).map (·.1)) ((putFD f d (ns.zip ds)).map (·.2))))) (N.ex ρ)) (N.ex ρ)
theorem ds_fld {C : Addr} {f : Str} {value : Expr} {tv : DTE} (c : Cls X.K C) (n : NoAttr X.K C f) (he : DE X W e te) (hv : DE X W value tv) (hs : swapsWith value (some (.Attribute e f pos')) pos.line X.env = pure false := by rfl) :
    DS X W (.Assign [.Attribute e f pos'] value pos) (dFldPut C f te tv) :=
  ds_ps (ps_fld he.pe hv.pe hs) fun N σ H ⟨ρ, S, F, Z, Q, R, V, q, l⟩ => by
    have x := l.xe V
    refine ⟨ρ, S, F, Z, _, _, R, V, q, fun v H1 ⟨d, S1, F1, A1, i1, q1⟩ => ⟨ρ, S1, F1, Z, _, _, A1.rel, V.up A1.sm, q1, fun w H2 ⟨xd, S2, F2, A2, i2, a, ns, ds, hx, hs, z, q2⟩ => ?_, xe_tr x A1⟩, x⟩
    subst hx
    cases i2
    obtain ⟨_, o, ho, dx, fs, rfl, h2, h3⟩ := A2.rel.sto a _ hs
    have p := (pr_of h2 h3).putF f (i1.up A2.sm)
    obtain ⟨R4, k4⟩ := A2.rel.wrote (o := .ins C dx (L2.putF f v fs)) (m := .ins C ((putFD f d (ns.zip ds)).map (·.1)) ((putFD f d (ns.zip ds)).map (·.2))) hs ⟨dx, _, rfl, p.fst.symm, p.snd⟩
    exact ⟨a, C, dx, fs, rfl, ho, c, n, by rw [← List.length_map (f := (·.1)) (as := fs), h2]; exact z, l.nx _ _ ⟨ρ, _, F2, (A1.trans A2).trans ⟨Same.refl _, R4, k4⟩, (V.up A1.sm).up A2.sm, q2⟩⟩
end
end DL

set_option maxRecDepth 100000
set_option maxHeartbeats 2000000
/-! DL, exceptions of own classes over an own class over Exception, with an __init__ of two lines. -/
namespace DL
open PySem PySem.Spec L2
/-- super().__init__(text); self.wd = wd -/
abbrev xiScope (wd : Str) : Scope := { kind := .function, names := [("self", .local), (wd, .local), ("__class__", .free), ("super", .globalImplicit)], isGenerator := false, isCoroutine := false, more := [] }
abbrev xiArgs (wd : Str) (q0 q1 : Pos) : Arguments := { posonlyargs := [], args := [{ arg := "self", annotation := none, pos := q0 }, { arg := wd, annotation := none, pos := q1 }], vararg := none, kwonlyargs := [], kw_defaults := [], kwarg := none, defaults := [] }
abbrev xiBody (wd t : Str) (p0 p1 p2 p3 p4 p5 p6 p7 p8 p9 : Pos) : List Stmt :=
  [.Expr (.Call (.Attribute (.Call (.Name "super" p0) [] [] p1) "__init__" p2) [.Constant (.str t) 0 p3] [] p4) p5, .Assign [.Attribute (.Name "self" p6) wd p7] (.Name wd p8) p9]
/-- how super().__init__(text) is evaluated -/
def XiEv (env : PySem.Env) (pl : Sem Bool) (t : Str) (p0 p1 p2 p3 p4 : Pos) : Prop := eval (.Call (.Attribute (.Call (.Name "super" p0) [] [] p1) "__init__" p2) [.Constant (.str t) 0 p3] [] p4) env = (do
  let ov ← attributeBase (.Call (.Name "super" p0) [] [] p1) "__init__" env (eval (.Call (.Name "super" p0) [] [] p1) env)
  standAt p2.atName
  let (f, first) ← holding [ov] (getMethod ov "__init__" pl)
  callWith p4 f first (backTo p4 (starEach [.Constant (.str t) 0 p3] env)) [])
abbrev exBm : List Value := [.type "Exception", .type "BaseException", .type "object"]
/-- what the written part says of the class at C, its __init__ at fI -/
structure XiC (P : Program) (K : PySem.W.Frag) (C fI : Addr) (wd : Str) : Prop where
  cls : ∃ nm q N bs bm sn sub ab col dd k0 k1 k2 k3 k5, K.lookup C = some (excClassObj nm q C N bs bm true sn sub ab col dd k0 k1 k2 k3 k5 "Exception.__new__") ∧ PySem.W.excTail exBm bm = true
  sa : PySem.W.findIn K (.ref C) "__setattr__" = some (some (.builtin "object.__setattr__"))
  exC : PySem.W.subIn K (.ref C) (.type "BaseException") = some true
  exE : PySem.W.subIn K (.ref C) (.type "Exception") = some true
  tyC : PySem.W.typeIn K (.ref C) = some (.type "type")
  kC : PySem.W.keepIn K (.ref C) = true
  init : PySem.W.findIn K (.ref C) "__init__" = some (some (.ref fI))
  tI : PySem.W.typeIn K (.ref fI) = some (.type "function")
  no : PySem.W.findIn K (.ref C) wd = some none
  fn : ∃ (oc : Value) (od : Option Addr) (osl : Array (Option Value)) (qual t : Str) (q0 q1 p0 p1 p2 p3 p4 p5 p6 p7 p8 p9 : Pos) (dV kV doc pm ct : Value) (an : Option Addr) (cda cc : Addr),
    K.lookup fI = some ⟨oc, od, .func (PySem.W.ksFn "__init__" qual (xiArgs wd q0 q1) (xiBody wd t p0 p1 p2 p3 p4 p5 p6 p7 p8 p9) (xiScope wd) dV kV doc pm an (.ref cda) ct cc), osl⟩ ∧ PySem.W.codeIn K (.ref cda) qual = true ∧
    (∀ a u : Value, bindArgs (PySem.W.ksFn "__init__" qual (xiArgs wd q0 q1) (xiBody wd t p0 p1 p2 p3 p4 p5 p6 p7 p8 p9) (xiScope wd) dV kV doc pm an (.ref cda) ct cc) ⟨[a, u], []⟩ = pure ([("self", a), (wd, u)] : List (Str × Value))) ∧
    (∀ L : Addr, ∃ pl : Sem Bool, XiEv (callEnv (PySem.W.ksFn "__init__" qual (xiArgs wd q0 q1) (xiBody wd t p0 p1 p2 p3 p4 p5 p6 p7 p8 p9) (xiScope wd) dV kV doc pm an (.ref cda) ct cc) L fI) pl t p0 p1 p2 p3 p4) ∧
    (∃ (cl : Value) (cld : Option Addr) (csl : Array (Option Value)), K.lookup cc = some ⟨cl, cld, .cell (some (.ref C)), csl⟩) ∧
    (∃ (ccl : Value) (cdd : Option Addr) (vs : Array Value) (ccs : Array (Option Value)) (file : Str) (tf : Tok), K.lookup cda = some ⟨ccl, cdd, .fields vs, ccs⟩ ∧ vs[2]? = some (.str file tf) ∧ ((P.main.file : Str) == file) = true)
  up : PySem.W.ks_superIn K C C "__init__" = some (some (.builtin "Exception.__init__"))
  opq : PySem.W.nsIn K cStatics "thirdparty.any" = some none
  wdl : (xiScope wd).names.lookup wd = some .local
  slf : (xiScope wd).names.lookup ("self" : Str) = some .local
  sup : (xiScope wd).names.lookup ("super" : Str) = some .globalImplicit
  cll : (xiScope wd).names.lookup ("__class__" : Str) = some .free
  dbg : (wd == ("__debug__" : Str)) = false
  wds : (wd == ("self" : Str)) = false
  top : (P.main.scope.names.lookup ("super" : Str)).isSome = false
/-- the first field of an exception -/
theorem xi_osa {prog : Program} {w : World} {A : Around} {R : Result → Shared → Prop} {hp : Heap} {g : Array GenState} {d : Drawn} {t : Nat} {os : OsState} {K : PySem.W.Frag} {name : Str} {tk : Tok} {v : Value} {x C : Addr} {fv : Array Value} {cd : ClassData} {bm : List Value}
    (X : K.In hp) (hx : hp.get? x = some { cls := .ref C, data := .fields fv }) (hcd : PySem.W.clsIn K C = some cd) (hm : cd.mro = .ref C :: bm) (hT : PySem.W.excTail exBm bm = true) (hh : cd.hasDict = true) (ha : PySem.W.findIn K (.ref C) name = some none)
    (hq : ∀ h' tk' dx, (∀ b o, b ≠ x → hp.get? b = some o → h'.get? b = some o) → hp.objs.size ≤ dx → dx ≠ x → h'.get? x = some { cls := .ref C, dict := some dx, data := .fields fv } →
      h'.Ns1 dx (fun y => if y = name then some v else none) → R (.ok (.ret .none)) ⟨h', g, d, tk', os⟩) :
    codeAny (model prog w) A (.call (.builtin "object.__setattr__") ⟨[.ref x, .str name tk, v], []⟩) R ⟨hp, g, d, t, os⟩ := by
  have ic : PySem.W.InstAt hp x { cls := .ref C, data := .fields fv } C none := ⟨hx, rfl, rfl, trivial⟩
  have fresh : x ≠ hp.objs.size := Nat.ne_of_lt (Heap.lt_size hx)
  have tl : PySem.W.excTail exBm (.ref C :: bm) = true := hT
  have isObj : PySem.W.mroIn K C (.type "object") = some true := by
    unfold PySem.W.mroIn
    rw [hcd, Option.bind_some, hm, if_neg (by simp), PySem.W.excTail_contains "object" _ tl]
    decide
  have lookO : PySem.W.Looks (model prog w) hp (isInstance (.ref x) (.type "object")) true := ic.type.andThen (PySem.W.looks_mroIn X isObj)
  have lookM : PySem.W.Looks (model prog w) hp (mroOf (.ref C)) cd.mro := (PySem.W.looks_clsIn X hcd).andThen .now
  have lookC : PySem.W.Looks (model prog w) hp (classData C) cd := PySem.W.looks_clsIn X hcd
  have noTaker : PySem.W.Looks (model prog w) hp (Builtin.ObjectAttr.storeTaker? none) none := .now
  have SO := F.store_object
  refine codeAny_call_builtin SO.slot.plain SO.entry (@PySem.W.check_slot (model prog w) _ _ ⟨hp, g, d, t, os⟩ "object.__setattr__" "object" "__setattr__" (.ref x) [.str name tk, v] [] _ SO.kind SO.split lookO (SO.args (.ref x) (.str name tk) v) ?_)
  rw [PySem.W.osa_eq, PySem.refuse_eq]
  refine wpAny_bind (wpAny_bind (ic.type.at (wpAny_bind (lookM.at ?_))))
  rw [hm, PySem.W.excTail_pass (.ref x) (F.store_Exception.passes _) _ tl]
  refine wpAny_pure (wpAny_bind (ic.type.at (wpAny_bind ((PySem.W.looks_findIn X ha).at (wpAny_bind (noTaker.at ?_))))))
  show wpAny _ _ (Builtin.ObjectAttr.storeInOwnDict (.ref x) (.ref C) (.str name tk) name v false) _ _ _
  obtain ⟨nm, bs, mro, ns, qn, hd, sn, sb, ab, col, dl⟩ := cd
  dsimp only at hh
  subst hh
  unfold Builtin.ObjectAttr.storeInOwnDict Builtin.ObjectAttr.ownDictForStores
  repeat (first | with_reducible refine PySem.HandSPX.store_in_new ?_ ?_ | with_reducible refine wpAny_loadPart_at hx ?_ | with_reducible refine lookC.at ?_ | wp_step)
  · exact ⟨_, #[], _, (Heap.get?_update_ne _ _ _ _ fresh.symm).trans (Heap.get?_push_at rfl rfl), rfl, fun e he => absurd he (by simp), fun _ => rfl⟩
  · intro h1 tk1 ns1 but
    have same : ∀ b o, b ≠ x → hp.get? b = some o → h1.get? b = some o := fun b o hb ho => (but.2 b (Nat.ne_of_lt (Heap.lt_size ho))).trans ((Heap.get?_update_ne _ _ _ _ hb).trans (Heap.get?_push_of_some _ ho))
    exact hq h1 tk1 hp.objs.size same (Nat.le_refl _) fresh.symm ((but.2 x fresh).trans (Heap.get?_update_self _ (Heap.get?_push_of_some _ hx) rfl)) ns1
theorem boot_sup : bootBuiltins "super" = some (.type "super") := by first | rfl | decide +kernel | kernel_rfl
/-- __init__(e, u) run -/
theorem xi_run {P : Program} {w : World} {A : Around} {R : Result → Shared → Prop} {s : Shared} {K : PySem.W.Frag} {mg : Str → Option Value} {C fI e t0 : Addr} {wd : Str} {u : Value} (T : XiC P K C fI wd) (X : K.In s.heap) (hg : s.heap.Ns mainGlobals mg) (hb : ∃ mb, s.heap.Ns builtinsNs mb ∧ ∀ x : Str, x ≠ "__name__" → mb x = bootBuiltins x)
    (hlim : s.heap.NoLimit) (hsup : mg "super" = none) (hroom : A.depth < recursionLimit) (he : s.heap.get? e = some (PySem.HandSPX.excO C t0)) (hke : K.lookup e = none)
    (hR : ∀ h' tk t1 dx, (∀ b o, b ≠ e → s.heap.get? b = some o → h'.get? b = some o) → s.heap.objs.size ≤ dx → dx ≠ e → h'.get? e = some { cls := .ref C, dict := some dx, data := .fields #[.ref t1, .none, .none, .none, .bool false, .none] } →
      h'.Ns1 dx (fun y => if y = wd then some u else none) → R (.ok (.ret .none)) { s with heap := h', toks := tk }) :
    codeAny (model P w) A (.call (.ref fI) ⟨[.ref e, u], []⟩) R s := by
  obtain ⟨nm, qq, N, bs, bm, sn, sub, ab, col, dd, k0, k1, k2, k3, k5, hC, hT⟩ := T.cls
  obtain ⟨oc, od, osl, qual, t, q0, q1, p0, p1, p2, p3, p4, p5, p6, p7, p8, p9, dV, kV, doc, pm, ct, an, cda, cc, hfn, hcd, hbi, hev, ⟨cl, cld, csl, hcc⟩, ⟨ccl, cdd, vs, ccs, file, tf, hcda, hvs, hfile⟩⟩ := T.fn
  have hcl : PySem.W.clsIn K C = some { name := nm, bases := bs, mro := .ref C :: bm, ns := N, qualname := qq, hasDict := true, slotNames := sn, subclasses := sub, abstract := ab, collection := col, hasDel := false } := by unfold PySem.W.clsIn; rw [hC]
  obtain ⟨mb, hb1, hb2⟩ := hb
  refine ks_codeAny_call_defAt (fd := PySem.W.ksFn "__init__" qual (xiArgs wd q0 q1) (xiBody wd t p0 p1 p2 p3 p4 p5 p6 p7 p8 p9) (xiScope wd) dV kV doc pm an (.ref cda) ct cc) (body := xiBody wd t p0 p1 p2 p3 p4 p5 p6 p7 p8 p9) (binds := [("self", .ref e), (wd, u)]) hroom (X _ _ hfn) rfl hlim (PySem.W.codeRec_of X hcd) rfl (.of_eq (hbi _ _)) ?cells ?locs (fun h1 ns1 kp1 => ?_)
  case cells =>
    intro x hx
    simp only [List.mem_cons, List.not_mem_nil, or_false] at hx
    rcases hx with rfl | rfl | rfl | rfl <;> exact fun z => nomatch z
  case locs =>
    intro x hx
    rcases List.mem_cons.mp hx with rfl | hx
    · exact T.slf
    · rw [List.mem_singleton.mp hx]; exact T.wdl
  obtain ⟨hp, g, d, tk, os⟩ := s
  have X1 : K.In h1 := fun b o z => kp1 b o (X b o z)
  have g1 := hg.keeps kp1
  have b1 := hb1.keeps kp1
  have e1 := kp1 _ _ he
  have hns : ∀ x, ([("self", Value.ref e), (wd, u)] : List (Str × Value)).reverse.lookup x = if x = wd then some u else if x = ("self" : Str) then some (.ref e) else none := fun x => by
    simp only [List.reverse_cons, List.reverse_nil, List.nil_append, List.cons_append, List.lookup_cons, List.lookup_nil]
    by_cases c : x = wd
    · rw [beq_iff_eq.mpr c, if_pos c]
    · rw [beq_eq_false_iff_ne.mpr c, if_neg c]
      by_cases c2 : x = ("self" : Str)
      · rw [beq_iff_eq.mpr c2, if_pos c2]
      · rw [beq_eq_false_iff_ne.mpr c2, if_neg c2]
  refine ks_wpAt_mono (E := fun _ _ => False) (ks_wpAt_execs_cons (ks_wpAt_Expr_any ?first rfl rfl)) (fun _ _ h => h) fun _ _ z => z.elim
  obtain ⟨pl, hev⟩ := hev hp.objs.size
  have sw : ("self" : Str) ≠ wd := fun z => by
    have z2 := T.wds
    rw [← z] at z2
    exact absurd z2 (by decide)
  refine ks_wpAt_MethodCall ?m1 hev
  refine ks_wpAt_super_base (T.sup) (T.cll) (by decide) rfl (X1 _ _ hfn) rfl rfl rfl (X1 _ _ hcda) rfl hvs hfile T.top ?_
  refine PySem.W.ks_loadName_global rfl T.sup (Calls.loadGlobal_builtin g1 hsup b1 ((hb2 _ (by decide)).trans boot_sup) ⟨rfl, ?_⟩)
  refine wpAny_loadName_free rfl T.cll rfl ⟨_, X1 _ _ hcc, rfl⟩ ?_
  refine wpAny_loadName_local (v := .ref e) rfl T.slf ns1 (by show List.lookup _ _ = _; rw [hns]; show (if ("self" : Str) = wd then _ else _) = _; rw [if_neg sw, if_pos rfl]) ?_
  refine ks_wpAny_isType_cls (X1 _ _ hC) rfl ⟨rfl, ?_⟩
  have I1 : PySem.W.InstAt h1 e (PySem.HandSPX.excO C t0) C none := ⟨e1, rfl, rfl, trivial⟩
  have isC : PySem.W.mroIn K C (.ref C) = some true := by
    unfold PySem.W.mroIn
    rw [hcl]
    simp
  refine ks_wpAny_call_super (X1 _ _ hC) rfl e1 rfl (fun c z => nomatch z) (PySem.W.looks_mroIn X1 isC) (fun h2 so2 kp2 => ?_)
  have X2 : K.In h2 := fun b o z => kp2 b o (X1 b o z)
  have e2 := kp2 _ _ e1
  have I2 : PySem.W.InstAt h2 e (PySem.HandSPX.excO C t0) C none := ⟨e2, rfl, rfl, trivial⟩
  have up := T.up
  unfold PySem.W.ks_superIn at up
  rw [hcl] at up
  refine PySem.ESX.getMethod_super so2 (PySem.W.looks_opaque X2 T.opq) (l₀ := .ref C :: bm) ((PySem.W.looks_clsIn X2 hcl).andThen .now) rfl X2 up (PySem.W.ks_ne X2 I2 hcl) (by decide) (I2.type.andThen (PySem.W.looks_subIn X2 T.exE)) ?_
  have kp3 : ∀ b o, h2.get? b = some o → (h2.push (PySem.ESX.bw e)).get? b = some o := fun b o z => Heap.get?_push_of_some _ z
  have bw3 : (h2.push (PySem.ESX.bw e)).get? h2.objs.size = some (PySem.ESX.bw e) := Heap.get?_push_at rfl rfl
  refine PySem.ESX.callWith_bound (x := e) (PyProof.Rows.args_cons (Calls.Constant_str ?_) rfl) rfl rfl
  refine PyProof.Rows.args_nil ⟨bw3, ?_⟩
  have hlt : e < hp.objs.size := Heap.lt_size he
  have X3 : K.In (h2.push (PySem.ESX.bw e)) := fun b o z => kp3 b o (X2 b o z)
  refine PySem.ESX.call_bw (X3 _ _ hC) (kp3 _ _ e2) bw3 (by show 1 ≤ sizeLine; decide) fun h4 t4 kp4 e4 => ?_
  have kp : ∀ b o, b ≠ e → hp.get? b = some o → h4.get? b = some o := fun b o hb z => kp4 b o hb (kp3 _ _ (kp2 _ _ (kp1 _ _ z)))
  have X4 : K.In h4 := fun b o z => by
    by_cases hb : b = e
    · rw [hb, hke] at z
      cases z
    · exact kp4 b o hb (X3 b o z)
  have ns4 : h4.Ns hp.objs.size (fun x => ([("self", Value.ref e), (wd, u)] : List (Str × Value)).reverse.lookup x) := by
    obtain ⟨oL, es, ep, hL, r⟩ := ns1
    exact ⟨oL, es, ep, kp4 _ _ (Nat.ne_of_gt hlt) (kp3 _ _ (kp2 _ _ hL)), r⟩
  refine ks_wpAt_execs_cons (wpAt_of_wpAny (plainObj_wpAny_Assign_Attribute (PySem.ESX.ldL ns4 (v := u) ?_ (PySem.ESX.ldL ns4 (v := .ref e) ?_ ?_ rfl T.slf) rfl T.wdl T.dbg) rfl))
  · show List.lookup _ _ = _
    rw [hns, if_pos rfl]
  · show List.lookup _ _ = _
    rw [hns, if_neg sw, if_pos rfl]
  have I4 : PySem.W.InstAt h4 e (PySem.HandSPX.excO C t4) C none := ⟨e4, rfl, rfl, trivial⟩
  refine PySem.W.set_plain X4 I4 T.sa ?_
  refine xi_osa X4 e4 hcl rfl hT rfl T.no fun h5 tk5 dx kp5 hdx hne e5 ns5 => ?_
  have big : hp.objs.size ≤ dx := by
    obtain ⟨oL, _, _, hL, _⟩ := ns4
    exact Nat.le_trans (Nat.le_of_lt (Heap.lt_size hL)) hdx
  show wpAt _ _ _ (execs [] _) _ _ _
  rw [execs_nil]
  exact wpAt_of_wpAny (wpAny_pure (hR h5 _ t4 dx (fun b o hb z => kp5 b o hb (kp b o hb z)) big hne e5 ns5))
/-- C(e): the exception, with its one field -/
def tXi (C : Addr) (wd : Str) (ta : TA) : L2.St → Hp → XK → Prop := fun σ H Q => ta σ H fun vs H1 => ∃ y, vs = [y] ∧ ∀ d, H1 d = none → Q (.ref C) (some d) (upd H1 d (.xd [(wd, y)]))
theorem pmk_xi {X : Cx} {x wd : Str} {C fI : Addr} {e : Expr} {ta : TA} {p pos : Pos} (T : XiC X.prog X.K C fI wd) (hsup : X.mg "super" = none) (hr : Room 1 X.A) (hg : Gl X x) (hm : X.mg x = some (.ref C)) (ha : PA X [e] ta)
    (hdb : (x == ("__debug__" : Str)) = false := by decide) (he : starEach [e] X.env = (false, eval e X.env) :: starEach [] X.env := by rfl) (hpl : (backTo pos (starEach [] X.env)).any (·.1) = false := by rfl) : L2N.PMk X (.Call (.Name x p) [e] [] pos) (tXi C wd ta) := by
  intro pins s σ H Q I h
  obtain ⟨nm, q, N, bs, bm, sn, sub, ab, col, dd, k0, k1, k2, k3, k5, hC, hT⟩ := T.cls
  refine wpAny_Call_Name_kw (ld_glob I hg hm ?_ hdb)
  refine PySem.W.callWith_K (h₀ := X.base) I.ok.mod.kin T.kC (thn (ha.run pos pins s σ H _ I h) fun us s1 ⟨vs, H1, I1, r1, y, hv, q1⟩ => ⟨I1.kIn, ?_⟩) he hpl
  subst hv
  obtain ⟨u, hu, ry⟩ := r1.one
  subst hu
  show wpAny _ _ (call (.ref C) [u]) _ _ _
  obtain ⟨hp, g, dr, tk, os⟩ := s1
  have kk : ∀ b o, hp.get? b = some o → ((hp.push (PySem.W.kdv_tup [u])).push (PySem.HandSPX.excO C hp.objs.size)).get? b = some o := fun b o z => Heap.get?_push_of_some _ (Heap.get?_push_of_some _ z)
  have hge : ((hp.push (PySem.W.kdv_tup [u])).push (PySem.HandSPX.excO C hp.objs.size)).get? (hp.objs.size + 1) = some (PySem.HandSPX.excO C hp.objs.size) := by heap_get
  have Xk : X.K.In hp := I1.kIn
  have nol : hp.NoLimit := I1.ok.mod.nolimit.keeps I1.bk
  refine wpAny_call (PySem.HandSPX.call_own F.excBase_Exception (fun Y => PySem.W.excTail_contains Y bm hT) (Xk _ _ hC) (PySem.W.looks_findIn Xk T.init) (fun self => PySem.W.bind_fn Xk self T.tI) (by show 1 ≤ sizeLine; decide) ?_)
  have fresh : X.K.lookup (hp.objs.size + 1) = none := by
    cases z : X.K.lookup (hp.objs.size + 1) with
    | none => rfl
    | some o =>
      have z2 : hp.objs.size + 1 < hp.objs.size := Heap.lt_size (Xk _ _ z)
      exact absurd z2 (Nat.not_lt_of_le (Nat.le_succ _))
  refine xi_run (mg := X.mg) T (fun b o z => kk b o (Xk b o z)) ?_ ?_ ?_ hsup ?_ hge fresh fun h2 tk2 t1 dx kp hdx hne e2 ns2 => ?_
  · exact (I1.ok.mod.glob.keeps I1.bk).keeps kk
  · obtain ⟨mb, h1, h2⟩ := I1.ok.mod.blt
    exact ⟨mb, (h1.keeps I1.bk).keeps kk, h2⟩
  · exact nol.keeps kk
  · exact (hr.make C [u] []).depth
  have keep : ∀ b o, hp.get? b = some o → h2.get? b = some o := fun b o z => kp b o (fun c => by
    have z2 : b < hp.objs.size := Heap.lt_size z
    exact Nat.ne_of_lt (Nat.lt_succ_of_lt z2) c) (kk b o z)
  have hdx2 : hp.objs.size ≤ dx := by
    have z : ((hp.push (PySem.W.kdv_tup [u])).push (PySem.HandSPX.excO C hp.objs.size)).objs.size = hp.objs.size + 2 := by rw [Heap.size_push, Heap.size_push]
    have hdx' : ((hp.push (PySem.W.kdv_tup [u])).push (PySem.HandSPX.excO C hp.objs.size)).objs.size ≤ dx := hdx
    rw [z] at hdx'
    exact Nat.le_trans (Nat.le_add_right _ 2) hdx'
  -- the heap without the exception
  obtain ⟨G, gin, gout⟩ := restrict h2 fun b => decide (b ≠ hp.objs.size + 1)
  have gk : ∀ b, b ≠ hp.objs.size + 1 → G.get? b = h2.get? b := fun b hb => gin b (decide_eq_true hb)
  have ge : G.get? (hp.objs.size + 1) = none := gout _ (by simp)
  have kG : ∀ b o, hp.get? b = some o → G.get? b = some o := fun b o z => by
    have z2 : b < hp.objs.size := Heap.lt_size z
    have ne : b ≠ hp.objs.size + 1 := Nat.ne_of_lt (Nat.lt_succ_of_lt z2)
    rw [gk b ne]
    exact keep b o z
  have back : ∀ b o, G.get? b = some o → h2.get? b = some o := fun b o z => by
    by_cases hb : b = hp.objs.size + 1
    · rw [hb, ge] at z; cases z
    · rw [← gk b hb]; exact z
  have nsG : G.Ns1 dx (fun y => if y = wd then some u else none) := ns2.at fun o z => by rw [gk dx hne]; exact z
  have okd : ObjOk X.prog X.w H1 G dx (.xd [(wd, y)]) := ⟨_, nsG, fun f => by
    have z := relO_put (f := wd) (fs := []) (mA := fun _ => none) ry (fun _ => True.intro) f
    exact z⟩
  have hn : H1 dx = none := I1.hok.fresh hdx2
  have hno : H1 (hp.objs.size + 1) = none := I1.hok.fresh (Nat.le_succ _)
  have J : Inv X pins σ (upd H1 dx (.xd [(wd, y)])) { (⟨hp, g, dr, tk, os⟩ : Shared) with heap := G, toks := tk2 } := I1.laid (t' := tk2) kG hdx2 okd
  refine ⟨rfl, ?_⟩
  exact ⟨hp.objs.size + 1, _, _, _, _, .ref C, some dx, rfl, J, back, ge, e2, ⟨rfl, rfl, fun vs e => by cases e; rfl⟩, rfl, rfl, by rw [upd_ne (Ne.symm hne)]; exact hno, rfl, I1.bare, raises_own T.exC T.tyC, q1 dx hn⟩
end DL

set_option maxRecDepth 100000
set_option maxHeartbeats 2000000
/-! DL, raise and try. -/
namespace L2
open PySem PySem.Spec
/-! ### clauses of both kinds: except X: .. and except X as n: .. -/
def intoSuite (σ : L2.St) (a : Addr) : Option Nat → L2.St
  | none => σ
  | some i => σ.set i (some (.ref a))
def afterSuite (D : Ends) : Option Nat → Ends
  | none => D
  | some i => { nx := fun σ' H' => D.nx (σ'.set i none) H', rt := D.rt, bk := fun σ' H' => D.bk (σ'.set i none) H', ct := fun σ' H' => D.ct (σ'.set i none) H' }
abbrev Clause := Value × Option Nat × (Addr → Value → Option Addr → TS)
def wMix (K : PySem.W.Frag) (Wo : WX) (D : Ends) : List Clause → WX
  | [] => Wo
  | (c, o, ts) :: r => fun cls d σ H => ∃ b, PySem.W.exmOne K cls c = some b ∧ (b = true → ∀ a, H a = none → ts a cls d (afterSuite D o) (intoSuite σ a o) H) ∧ (b = false → wMix K Wo D r cls d σ H)
inductive ClausesOk (X : Cx) : List ExceptHandler → List Clause → Prop
  | nil : ClausesOk X [] []
  | anon {x : Str} {c : Value} {ts : Addr → Value → Option Addr → TS} {st : Stmt} {sts : List Stmt} {p q : Pos} {hs : List ExceptHandler} {l : List Clause} (hc : Names X x c)
      (su : ∀ (a : Addr) (oe : Obj) (cls : Value) (d : Option Addr) (pn : List (Addr × Obj)), Zc cls d oe → (∃ vs, oe.data = .fields vs) → PSs (X.suite a ((a, oe) :: pn)) (st :: sts) (ts a cls d)) (r : ClausesOk X hs l) :
      ClausesOk X (.ExceptHandler (some (.Name x p)) none (st :: sts) q :: hs) ((c, none, ts) :: l)
  | named {x n : Str} {i : Nat} {c : Value} {ts : Addr → Value → Option Addr → TS} {st : Stmt} {sts : List Stmt} {p q : Pos} {hs : List ExceptHandler} {l : List Clause} (hN : X.N.Nodup) (hi : X.N[i]? = some n) (hn : X.env.kindOf n = some .local) (hc : Names X x c)
      (su : ∀ (a : Addr) (oe : Obj) (cls : Value) (d : Option Addr) (pn : List (Addr × Obj)), Zc cls d oe → (∃ vs, oe.data = .fields vs) → PSs (X.suite a ((a, oe) :: pn)) (st :: sts) (ts a cls d)) (r : ClausesOk X hs l) :
      ClausesOk X (.ExceptHandler (some (.Name x p)) (some n) (st :: sts) q :: hs) ((c, some i, ts) :: l)
section
variable {X : Cx} {body : List Stmt} {h1 : ExceptHandler} {hs : List ExceptHandler} {l : List Clause} {pos : Pos} {tb : WX → TS} {Wo : WX}
theorem ps_try_mix (stk : X.stack = X.env :: X.outer) (fr : X.env.frame = some X.env.locals) (tk : L2N.Takes X Wo)
    (hb : ∀ (W : WX) (pn : List (Addr × Obj)) (xe : Value → Shared → Prop), L2N.Takes (X.tr pn xe) W → PassesOwn (model X.prog X.w) X.A X.env xe → PSs (X.tr pn xe) body (tb W)) (cl : ClausesOk X (h1 :: hs) l) :
    PS X (.Try body (h1 :: hs) [] [] pos) (fun D σ H => tb (wMix X.K Wo D l) D σ H) := by
  refine ⟨fun pins s σ H D I h => ?_⟩
  have ok := I.ok
  have frames : X.A.frames = some (X.env :: X.outer) := by rw [ok.frames, stk]
  refine wpAny_Try_except ?_
  refine wpAny_mono ((hb (wMix X.K Wo D l) (X.pn ++ pins) (fun e sa => wpAny (model X.prog X.w) X.A (noteFrame e X.env) (fun _ sb => wpAny (model X.prog X.w) X.A (setFlight e none) (fun _ sc =>
    wpAny (model X.prog X.w) X.A (handleBy e X.env (h1 :: hs)) (SP X pins D) X.xe sc) X.xe sb) X.xe sa) (fun u s' caught => ?_) PassesOwn.looking).run [] s σ H D (I.toTry _) h) (fun f s1 hsp => ?_) (fun e s1 he => he)
  · obtain ⟨a, B, sI, pins', σ1, H1, cls, d, rfl, JT, below, up, sky, na, os, ag, wish⟩ := caught
    have J : Inv X pins σ1 H1 sI := JT.ofTry ok
    rw [stk] at sky
    show wpAny (model X.prog X.w) X.A (noteFrame (.ref a) X.env) _ _ _
    refine L2N.Sky.land L2N.Zn.steady frames fr sky fun h3 fl up3 => ?_
    have J3 : Inv X pins σ1 H1 { s' with heap := h3 } := J.landed below fl.1 (up.trans up3) os ag
    obtain ⟨oe, vs, he, hz, hd⟩ := fl.there
    have out : a ∉ frs (X.env :: X.outer) := fun hm => by
      obtain ⟨_, o2, e2, no⟩ := fl.2.2.1.mem hm
      have e3 := he.symm.trans e2
      cases e3
      exact no _ hd
    have nL : a ≠ X.env.locals := fun z => out (List.mem_filterMap.mpr ⟨X.env, List.mem_cons_self, by rw [fr, z]⟩)
    have nF : a ∉ X.fs := fun hm => by
      obtain ⟨e, h5, h6⟩ := List.mem_filterMap.mp hm
      exact out (List.mem_filterMap.mpr ⟨e, List.mem_cons_of_mem _ h5, h6⟩)
    have ST := J3.suite he hd na nL nF
    have isCls : PySem.W.Looks (model X.prog X.w) h3 (typeOf (.ref a)) cls := fun A Q E s k q => wpAny_typeOf_ref (k _ _ he) (by rw [hz.1]; exact q)
    have ask : ∀ {x : Str} {c : Value} {p : Pos} {Q : Value → Shared → Prop} {E : Value → Shared → Prop}, Names X x c → Q c { s' with heap := h3 } → wpAny (model X.prog X.w) (X.A.mark (some (.ref a))) (eval (.Name x p) X.env) Q E { s' with heap := h3 } := fun {x c p Q E} hc q => by
      obtain ⟨hg, hdb, hm | ⟨hm, hv, hnn⟩⟩ := hc
      · exact ld_glob (X := X.suite a ((a, oe) :: (X.pn ++ pins))) ST hg hm q hdb
      · exact ld_blt (X := X.suite a ((a, oe) :: (X.pn ++ pins))) ST hg hm hv q hnn hdb
    -- a suite's start
    have begin_ : ∀ {A : Around} {E : Value → Shared → Prop} {Q : Unit → Shared → Prop}, (∀ s4 oe4, Zc cls d oe4 → (∃ vs, oe4.data = .fields vs) → Inv (X.suite a ((a, oe4) :: (X.pn ++ pins))) [] σ1 H1 s4 → Q () s4) → wpAny (model X.prog X.w) A (setFlight (.ref a) none) Q E { s' with heap := h3 } := fun {A E Q} k => by
      refine HandSPX.lands_againZ fl fun h4 fl4 up4 => ?_
      have J4 : Inv X pins σ1 H1 { s' with heap := h4 } := J.landed below fl4.1 ((up.trans up3).trans up4) os ag
      obtain ⟨oe4, vs4, he4, hz4, hd4⟩ := fl4.there
      exact k _ oe4 hz4.zc ⟨_, hd4⟩ (J4.suite he4 hd4 na nL nF)
    have go : ∀ {hs2 : List ExceptHandler} {l2 : List Clause}, ClausesOk X hs2 l2 → wMix X.K Wo D l2 cls d σ1 H1 → wpAny (model X.prog X.w) X.A (handleBy (.ref a) X.env hs2) (SP X pins D) X.xe { s' with heap := h3 } := by
      intro hs2 l2 ck
      induction ck with
      | nil =>
        intro wish
        refine wpAny_handleBy_nil ?_
        obtain ⟨_, _, _, oe5, vs5, T, _, _, he5, _, hd5, hT, _⟩ := id fl
        unfold PySem.passOn
        refine wpAny_bind (wpAny_field he5 hd5 hT ?_)
        rw [if_neg (show ¬ ((Value.ref T == Value.none) = true) from by simp)]
        have last : wpAny (model X.prog X.w) X.A (setFlight (.ref a) X.env.frame) (fun _ s4 => wpAny (model X.prog X.w) X.A (throw (.ref a) : Sem Flow) (SP X pins D) X.xe s4) X.xe { s' with heap := h3 } := by
          rw [fr]
          refine HandSPX.setFlight_upZ fl fun h4 held up4 => wpAny_throw (tk _ _ ?_)
          exact ⟨a, B, sI, pins, σ1, H1, cls, d, rfl, J, below, (up.trans up3).trans up4, .inr (.inr (by rw [stk]; exact held)), na, os, ag, wish⟩
        first
          | exact wpAny_bind (wpAny_pure (wpAny_bind last))
          | exact wpAny_bind last
      | @anon x c ts st sts p q hs3 l3 hc su r ih =>
        rintro ⟨b, hb1, yes, no⟩
        refine wpAny_handleBy_cons (codeAny_handlers_test (ask hc ((PySem.W.exm_one (M := model X.prog X.w) J3.kIn isCls hb1).here ?_))) (by intro z; cases z)
        cases b with
        | false => exact ih (no rfl)
        | true =>
          refine codeAny_handlers_suite (begin_ fun s4 oe4 hz4 hf4 S4 => ?_)
          refine wpAny_mono ((su a oe4 cls d (X.pn ++ pins) hz4 hf4).run [] _ _ H1 _ S4 (yes rfl a na)) (fun f s6 hsp => ?_) (fun _ _ z => z.elim)
          cases f with
          | next => exact let ⟨σ6, H6, S6, q6⟩ := hsp; ⟨σ6, H6, S6.unsuite ok, q6⟩
          | brk => exact let ⟨σ6, H6, S6, q6⟩ := hsp; ⟨σ6, H6, S6.unsuite ok, q6⟩
          | cont => exact let ⟨σ6, H6, S6, q6⟩ := hsp; ⟨σ6, H6, S6.unsuite ok, q6⟩
          | ret u => exact let ⟨v6, σ6, H6, S6, r6, q6⟩ := hsp; ⟨v6, σ6, H6, S6.unsuite ok, r6, q6⟩
      | @named x n i c ts st sts p q hs3 l3 hN hi hn hc su r ih =>
        rintro ⟨b, hb1, yes, no⟩
        refine wpAny_handleBy_cons (codeAny_handlers_test (ask hc ((PySem.W.exm_one (M := model X.prog X.w) J3.kIn isCls hb1).here ?_))) (by intro z; cases z)
        cases b with
        | false => exact ih (no rfl)
        | true =>
          refine codeAny_handlers_suite_as (begin_ fun s4 oe4 hz4 hf4 S4 => ?_)
          refine store_ok (X := X.suite a ((a, oe4) :: (X.pn ++ pins))) (v := .ref a) S4 hN hi (.inl hn) rfl (fun s5 S5 => ?_) (.inr hn)
          refine wpAny_mono ((su a oe4 cls d (X.pn ++ pins) hz4 hf4).run [] s5 _ H1 _ S5 (yes rfl a na)) (fun f s6 hsp => ?_) (fun _ _ z => z.elim)
          have gone : ∀ {σ6 : L2.St} {H6 : Hp} {Q : Shared → Prop}, Inv (X.suite a ((a, oe4) :: (X.pn ++ pins))) [] σ6 H6 s6 → (∀ s7, Inv X pins (σ6.set i none) H6 s7 → Q s7) →
              wpAny (model X.prog X.w) X.A (do bindName X.env n .none; unbindBehindTheSuite X.env n q) (fun _ s7 => Q s7) X.xe s6 := fun {σ6 H6 Q} S6 k => gone_ok (S6.unsuite ok) hN hi hn k
          cases f with
          | next => exact let ⟨σ6, H6, S6, q6⟩ := hsp; gone S6 fun s7 J7 => ⟨_, _, J7, q6⟩
          | brk => exact let ⟨σ6, H6, S6, q6⟩ := hsp; gone S6 fun s7 J7 => ⟨_, _, J7, q6⟩
          | cont => exact let ⟨σ6, H6, S6, q6⟩ := hsp; gone S6 fun s7 J7 => ⟨_, _, J7, q6⟩
          | ret u => exact let ⟨v6, σ6, H6, S6, r6, q6⟩ := hsp; gone S6 fun s7 J7 => ⟨_, _, _, J7, r6, q6⟩
    exact go cl wish
  · cases f with
    | next => exact let ⟨σ2, H2, J2, q⟩ := hsp; wpAny_execs_nil ⟨σ2, H2, J2.ofTry ok, q⟩
    | brk => exact let ⟨σ2, H2, J2, q⟩ := hsp; ⟨σ2, H2, J2.ofTry ok, q⟩
    | cont => exact let ⟨σ2, H2, J2, q⟩ := hsp; ⟨σ2, H2, J2.ofTry ok, q⟩
    | ret u => exact let ⟨v, σ2, H2, J2, r, q⟩ := hsp; ⟨v, σ2, H2, J2.ofTry ok, r, q⟩
end
end L2
namespace DL
open PySem PySem.Spec L2
/-! ### raise C(e) -/
def dRaise (C : Addr) (wd : Str) (te : DTE) : DTS := fun N ρ S => te ρ S (fun d S1 => N.ex ρ C [wd] [d] S1) (N.ex ρ)
section
variable {X : Cx} {W : WX} {x wd : Str} {C fI : Addr} {e : Expr} {te : DTE} {p pos pos' : Pos}
theorem ds_raise (T : XiC X.prog X.K C fI wd) (hsup : X.mg "super" = none) (hr : Room 1 X.A) (hc : X.calm = true) (tk : L2N.Takes X W) (hm : X.mg x = some (.ref C)) (he : DE X W e te) (hg : Gl X x := by rfl)
    (hdb : (x == ("__debug__" : Str)) = false := by decide) (hst : starEach [e] X.env = (false, eval e X.env) :: starEach [] X.env := by rfl) (hpl : (backTo pos (starEach [] X.env)).any (·.1) = false := by rfl) :
    DS X W (.Raise (some (.Call (.Name x p) [e] [] pos)) none pos') (dRaise C wd te) :=
  ds_ps (L2N.ps_raise hc tk (pmk_xi T hsup hr hg hm (da_cons he da_nil hst).pa hdb hst hpl)) fun N σ H ⟨ρ, S, F, Z, Q, R, V, q, l⟩ => by
    refine ⟨ρ, S, F, Z, _, _, R, V, (show dCons te dNil ρ S (fun ds S1 => ∃ d, ds = [d] ∧ Q.ex ρ C [wd] [d] S1) (Q.ex ρ) from ?_), fun vs H1 ⟨ds, S1, F1, A1, i1, d, hd, q1⟩ => ?_, l.xe V⟩
    · have key : ∀ (t : DTE) (ρ : Sl) (S : Store) (Q Q' : DQ) (E : DX), Q = Q' → t ρ S Q E → t ρ S Q' E := fun t ρ S Q Q' E e h => e ▸ h
      refine key te ρ S _ _ _ ?_ q
      funext d S1
      exact propext ⟨fun h => ⟨d, rfl, h⟩, fun ⟨d', e', h⟩ => by
        cases e'
        exact h⟩
    · subst hd
      obtain ⟨v, rfl, iv⟩ := isVs_one i1
      refine ⟨v, rfl, fun dd hdd => ?_⟩
      obtain ⟨R2, k2⟩ := A1.rel.own_dict (o := .xd [(wd, v)]) hdd
      have zd : ¬ Z dd := fun z => by
        obtain ⟨o, z2⟩ := A1.rel.hid dd z
        rw [hdd] at z2; cases z2
      have sd : S1 dd = none := no_some fun m z => by
        obtain ⟨_, o, z2, _⟩ := A1.rel.sto dd m z
        rw [hdd] at z2; cases z2
      have fd : F1 dd = none := no_some fun o z => by
        have z2 := (A1.rel.sub dd o z).1
        rw [hdd] at z2; cases z2
      exact l.ex _ _ _ _ ⟨C, [wd], [d], ρ, S1, F1, rfl, A1.trans ⟨Same.refl _, R2, k2⟩, V.up A1.sm, .inr ⟨dd, [(wd, v)], rfl, upd_same, sd, fd, zd, rfl, .cons iv .nil⟩, q1⟩
end
/-! ### try -/
abbrev DClause := Value × Option Nat × (Addr → Value → Option Addr → DTS)
def dInto (ρ : Sl) (a : Addr) : Option Nat → Sl
  | none => ρ
  | some i => ρ.set i (some (.ref a))
def dAfter (N : DEnds) : Option Nat → DEnds
  | none => { N with ex := fun _ _ _ _ _ => False }
  | some i => { nx := fun ρ S => N.nx (ρ.set i none) S, rt := N.rt, bk := fun ρ S => N.bk (ρ.set i none) S, ct := fun ρ S => N.ct (ρ.set i none) S, ex := fun _ _ _ _ _ => False }
def dHand (K : PySem.W.Frag) (N : DEnds) : List DClause → Sl → DX
  | [] => N.ex
  | (c, o, T) :: r => fun ρ C ns ds S => ∃ b, PySem.W.exmOne K (.ref C) c = some b ∧
    (b = true → ∀ a, S a = none → (ns = [] → ds = [] → T a (.ref C) none (dAfter N o) (dInto ρ a o) S) ∧ ∀ dd, S dd = none → dd ≠ a → T a (.ref C) (some dd) (dAfter N o) (dInto ρ a o) (put S dd (.xd ns ds))) ∧ (b = false → dHand K N r ρ C ns ds S)
def dTry (K : PySem.W.Frag) (tb : DTS) (l : List DClause) : DTS := fun N ρ S => tb { N with ex := dHand K N l } ρ S
def upC (K : PySem.W.Frag) (c : DClause) : Clause := (c.1, c.2.1, fun a cls d => upS K W0 (c.2.2 a cls d))
structure DCs (X : Cx) (hs : List ExceptHandler) (l : List DClause) : Prop where
  ok : ClausesOk X hs (l.map (upC X.K))
section
variable {X : Cx} {W : WX}
theorem dcs_nil : DCs X [] [] := ⟨.nil⟩
theorem dcs_anon {x : Str} {c : Value} {T : Addr → Value → Option Addr → DTS} {st : Stmt} {sts : List Stmt} {p q : Pos} {hs : List ExceptHandler} {l : List DClause} (hc : Names X x c)
    (su : ∀ (a : Addr) (oe : Obj) (cls : Value) (d : Option Addr) (pn : List (Addr × Obj)), Zc cls d oe → (∃ vs, oe.data = .fields vs) → DSs (X.suite a ((a, oe) :: pn)) W0 (st :: sts) (T a cls d)) (r : DCs X hs l) :
    DCs X (.ExceptHandler (some (.Name x p)) none (st :: sts) q :: hs) ((c, none, T) :: l) := ⟨.anon hc (fun a oe cls d pn h1 h2 => (su a oe cls d pn h1 h2).pss) r.ok⟩
theorem dcs_named {x n : Str} {i : Nat} {c : Value} {T : Addr → Value → Option Addr → DTS} {st : Stmt} {sts : List Stmt} {p q : Pos} {hs : List ExceptHandler} {l : List DClause} (hN : X.N.Nodup) (hc : Names X x c)
    (su : ∀ (a : Addr) (oe : Obj) (cls : Value) (d : Option Addr) (pn : List (Addr × Obj)), Zc cls d oe → (∃ vs, oe.data = .fields vs) → DSs (X.suite a ((a, oe) :: pn)) W0 (st :: sts) (T a cls d)) (r : DCs X hs l)
    (hi : X.N[i]? = some n := by rfl) (hn : X.env.kindOf n = some .local := by rfl) :
    DCs X (.ExceptHandler (some (.Name x p)) (some n) (st :: sts) q :: hs) ((c, some i, T) :: l) := ⟨.named hN hi hn hc (fun a oe cls d pn h1 h2 => (su a oe cls d pn h1 h2).pss) r.ok⟩
theorem after_lift {K : PySem.W.Frag} {Z : Addr → Prop} {H F : Hp} {N : DEnds} {D : Ends} (l : LftS K W Z H F N D) : ∀ o : Option Nat, LftS K W0 Z H F (dAfter N o) (afterSuite D o)
  | none => ⟨l.nx, l.rt, l.bk, l.ct, fun _ _ _ _ ⟨_, _, _, _, _, _, _, _, _, _, z⟩ => z⟩
  | some i => ⟨fun σ' H' ⟨ρ', S', F', A', V', q'⟩ => l.nx _ _ ⟨_, S', F', A', V'.forget i, q'⟩, l.rt, fun σ' H' ⟨ρ', S', F', A', V', q'⟩ => l.bk _ _ ⟨_, S', F', A', V'.forget i, q'⟩,
      fun σ' H' ⟨ρ', S', F', A', V', q'⟩ => l.ct _ _ ⟨_, S', F', A', V'.forget i, q'⟩, fun _ _ _ _ ⟨_, _, _, _, _, _, _, _, _, _, z⟩ => z⟩
theorem into_lift {K : PySem.W.Frag} {F : Hp} {ρ : Sl} {σ : L2.St} (V : EnvR K F ρ σ) (a : Addr) : ∀ o : Option Nat, EnvR K F (dInto ρ a o) (intoSuite σ a o)
  | none => V
  | some i => V.set (.ref a) i
theorem hand_lift {K : PySem.W.Frag} {Z : Addr → Prop} {H F : Hp} {N : DEnds} {D : Ends} (lf : LftS K W Z H F N D) : ∀ (l : List DClause) (cls : Value) (d : Option Addr) (σ : L2.St) (H1 : Hp), LftW K Z H F (dHand K N l) cls d σ H1 → wMix K W D (l.map (upC K)) cls d σ H1
  | [], cls, d, σ, H1, h => lf.ex cls d σ H1 h
  | (c, o, T) :: r, cls, d, σ, H1, ⟨C, ns, ds, ρ, S1, F1, e, A1, V1, xr, b, hb, yes, no⟩ => by
    subst e
    refine ⟨b, hb, fun hb1 a ha => ?_, fun hb0 => hand_lift lf r _ d σ H1 ⟨C, ns, ds, ρ, S1, F1, rfl, A1, V1, xr, no hb0⟩⟩
    have sa : S1 a = none := no_some fun m z => by
      obtain ⟨_, o, z2, _⟩ := A1.rel.sto a m z
      rw [ha] at z2; cases z2
    obtain ⟨y1, y2⟩ := yes hb1 a sa
    rcases xr with ⟨rfl, rfl, rfl⟩ | ⟨dd, fs, rfl, hdd, sd, fd, zd, x1, x2⟩
    · exact ⟨_, S1, F1, Z, _, A1.rel, into_lift V1 a o, y1 rfl rfl, after_lift (lf.tr A1) o⟩
    · have ne : dd ≠ a := fun z => by rw [z, ha] at hdd; cases hdd
      have R2 := A1.rel.ownS (m := .xd ns ds) hdd sd fd zd ⟨fs, rfl, x1, x2⟩
      exact ⟨_, _, F1, Z, _, R2, into_lift V1 a o, y2 dd sd ne, after_lift (lf.tr A1) o⟩
theorem ds_try {body : List Stmt} {h1 : ExceptHandler} {hs : List ExceptHandler} {l : List DClause} {tb : DTS} {pos : Pos} (stk : X.stack = X.env :: X.outer) (fr : X.env.frame = some X.env.locals) (tk : L2N.Takes X W)
    (hb : ∀ (W' : WX) (pn : List (Addr × Obj)) (xe : Value → Shared → Prop), L2N.Takes (X.tr pn xe) W' → PassesOwn (model X.prog X.w) X.A X.env xe → DSs (X.tr pn xe) W' body tb) (cl : DCs X (h1 :: hs) l) : DS X W (.Try body (h1 :: hs) [] [] pos) (dTry X.K tb l) :=
  ds_ps (ps_try_mix (tb := fun W2 => upS X.K W2 tb) stk fr tk (fun W' pn xe t p => (hb W' pn xe t p).pss) cl.ok) fun N σ H ⟨ρ, S, F, Z, Q, R, V, q, lf⟩ =>
    ⟨ρ, S, F, Z, _, R, V, q, ⟨lf.nx, lf.rt, lf.bk, lf.ct, fun cls d σ' H' h => hand_lift lf l cls d σ' H' h⟩⟩
/-- e.f of the caught exception -/
def dXf (a : Addr) (cls : Value) (d : Option Addr) (C : Addr) (f : Str) (te : DTE) : DTE := fun ρ S Q E => te ρ S (fun x S1 => x = .ref a ∧ cls = .ref C ∧ ∃ dd ns ds v, d = some dd ∧ S1 dd = some (.xd ns ds) ∧ (ns.zip ds).lookup f = some v ∧ Q v S1) E
theorem de_xf {a C : Addr} {oe : Obj} {cls : Value} {d : Option Addr} {pn : List (Addr × Obj)} {e : Expr} {te : DTE} {pos : Pos} {n : Str} (T : XfC X.K C) (hno : PySem.W.findIn X.K (.ref C) n = some none) (hz : Zc cls d oe) (hf : ∃ vs, oe.data = .fields vs)
    (he : DE (X.suite a ((a, oe) :: pn)) W e te) (hb : attributeBase e n X.env (eval e X.env) = eval e X.env := by rfl) : DE (X.suite a ((a, oe) :: pn)) W (.Attribute e n pos) (dXf a cls d C n te) :=
  de_pe (pe_xf T hno hz hf he.pe hb) fun σ H P ⟨ρ, S, F, Z, Q, E, R, V, q, k, x⟩ => ⟨ρ, S, F, Z, _, E, R, V, q, fun v H1 ⟨dv, S1, F1, A1, i1, e1, e2, dd, ns, ds, w, e3, hs, hl, q1⟩ => by
    subst e1
    cases i1
    obtain ⟨_, o, ho, fs, rfl, h2, h3⟩ := A1.rel.sto dd _ hs
    obtain ⟨u, hu, iu⟩ := (pr_of h2 h3).lookup hl
    exact ⟨rfl, e2, dd, fs, u, e3, ho, hu, k _ _ ⟨w, S1, F1, A1, iu, q1⟩⟩, x⟩
end
end DL

set_option maxRecDepth 100000
set_option maxHeartbeats 2000000
/-! DL, repr of trees. -/
namespace DL
open PySem PySem.Spec L2
def keyP : Key → PyData
  | .inl i => .int i
  | .inr x => .str x
mutual
/-- what repr shows of a tree -/
def showD : D → Option PyData
  | .non => some .none
  | .bl b => some (.bool b)
  | .int i => some (.int i)
  | .str x => some (.str x)
  | .tup ds => (showDs ds).map .tuple
  | .kup ds => (showDs ds).map .tuple
  | .ctp ds => (showDs ds).map .tuple
  | .lst ds => (showDs ds).map .list
  | .dK ks ds => (showDs ds).map fun ps => .dict ((ks.map keyP).zip ps)
  | _ => none
def showDs : List D → Option (List PyData)
  | [] => some []
  | d :: ds => match showD d, showDs ds with
    | some p, some ps => some (p :: ps)
    | _, _ => none
end
mutual
/-- no list in it -/
def noL : D → Bool
  | .lst _ => false
  | .tup ds => noLs ds
  | .kup ds => noLs ds
  | .ctp ds => noLs ds
  | .dK _ ds => noLs ds
  | _ => true
def noLs : List D → Bool
  | [] => true
  | d :: ds => noL d && noLs ds
end
theorem showDs_cons {d : D} {ds : List D} {ps : List PyData} (h : showDs (d :: ds) = some ps) : ∃ p r, ps = p :: r ∧ showD d = some p ∧ showDs ds = some r := by
  unfold showDs at h
  cases e1 : showD d with
  | none => rw [e1] at h; cases h
  | some p =>
    cases e2 : showDs ds with
    | none => rw [e1, e2] at h; cases h
    | some r =>
      rw [e1, e2] at h
      cases h
      exact ⟨p, r, rfl, rfl, rfl⟩
theorem map_some {α β : Type} {f : α → β} {o : Option α} {y : β} (h : o.map f = some y) : ∃ x, o = some x ∧ y = f x := by
  cases o with
  | none => cases h
  | some x => exact ⟨x, rfl, (Option.some.inj h).symm⟩
section
variable {X : Cx} {pins : List (Addr × Obj)} {σ : L2.St} {H : Hp} {s : Shared} {F : Hp}
/-- addresses that are no module table -/
def Off (as : List Addr) : Prop := sysModules ∉ as
theorem off_app {as bs : List Addr} (h1 : Off as) (h2 : Off bs) : Off (as ++ bs) := fun h => (List.mem_append.mp h).elim h1 h2
theorem off_cons {a : Addr} {as : List Addr} (h1 : a ≠ sysModules) (h2 : Off as) : Off (a :: as) := fun h => (List.mem_cons.mp h).elim (fun z => h1 z.symm) h2
theorem reads_key {P : Program} {w : World} {h : Heap} {k : Key} {u : Value} (e : (mixKind P w).is k u = true) : Reads h u (keyP k) [] := by
  cases k with
  | inl i =>
    have e' : Value.isInt i u = true := e
    obtain ⟨t, rfl⟩ := Value.isInt_shape e'
    exact .int i t
  | inr x =>
    have e' : Value.isStrOf x u = true := e
    cases u with
    | str y t =>
      have e2 : y = x := by simpa [Value.isStrOf] using e'
      subst e2
      exact .str y t
    | _ => cases e'
theorem readsAll_len {h : Heap} : ∀ {vs : List Value} {ps : List PyData} {as : List Addr}, ReadsAll h vs ps as → vs.length = ps.length
  | _, _, _, .nil => rfl
  | _, _, _, .cons _ r => congrArg (· + 1) (readsAll_len r)
/-- the pairs of a dict, read -/
theorem reads_pairs {κ : Type} [DecidableEq κ] {P : Program} {w : World} {knd : KeyKind P w κ} {h : Heap} {enc : κ → PyData} (hk : ∀ k u, knd.is k u = true → Reads h u (enc k) []) : ∀ {es : List DictEntry} {kvs : List (κ × Value)} {ps : List PyData} {as : List Addr},
    Pairs knd es kvs → ReadsAll h (kvs.map (·.2)) ps as → ReadsAll h (es.map (·.key)) (((kvs.map (·.1)).map enc).zip ps |>.map (·.1)) [] ∧ ReadsAll h (es.map (·.val)) (((kvs.map (·.1)).map enc).zip ps |>.map (·.2)) as
  | _, _, _, _, .nil, r => by
    cases r
    exact ⟨.nil, .nil⟩
  | _, _, _, _, .cons h1 h2 h3, r => by
    cases r with
    | cons r1 r2 =>
      obtain ⟨a, b⟩ := reads_pairs hk h3 r2
      exact ⟨.cons (hk _ _ h1) a, .cons (by show Reads h _ _ _; rw [show (fun x : DictEntry => x.val) _ = _ from h2]; exact r1) b⟩
theorem kv_split : ∀ {kvs : List (Key × V)} {vs : List (Key × Value)}, KV kvs vs → kvs.map (·.1) = vs.map (·.1) ∧ Vals (kvs.map (·.2)) (vs.map (·.2))
  | _, _, .nil => ⟨rfl, .nil⟩
  | _, _, .cons h t => by
    obtain ⟨a, b⟩ := kv_split t
    exact ⟨by rw [List.map_cons, List.map_cons, a, h.1], .cons h.2 b⟩
mutual
theorem reads_of (I : Inv X pins σ H s) (sub : ∀ b u, F b = some u → H b = some u) : ∀ (d : D) (v : V) (u : Value) (p : PyData), IsV X.K F d v → RelV v u → showD d = some p → ∃ as, Reads s.heap u p as ∧ (noL d = true → Off as)
  | .non, _, _, _, iv, rv, e => by
    cases iv; cases rv; unfold showD at e; cases e
    exact ⟨[], .none, fun _ => by simp [Off]⟩
  | .bl b, _, _, _, iv, rv, e => by
    cases iv; cases rv; unfold showD at e; cases e
    exact ⟨[], .bool b, fun _ => by simp [Off]⟩
  | .int i, _, _, _, iv, rv, e => by
    cases iv; obtain ⟨t, rfl⟩ := rv; unfold showD at e; cases e
    exact ⟨[], .int i t, fun _ => by simp [Off]⟩
  | .str i, _, _, _, iv, rv, e => by
    cases iv; obtain ⟨t, rfl⟩ := rv; unfold showD at e; cases e
    exact ⟨[], .str i t, fun _ => by simp [Off]⟩
  | .ty _, _, _, _, _, _, e => by unfold showD at e; cases e
  | .ref _, _, _, _, _, _, e => by unfold showD at e; cases e
  | .scr _, _, _, _, _, _, e => by unfold showD at e; cases e
  | .obj _ _ _, _, _, _, _, _, e => by unfold showD at e; cases e
  | .exc _ _ _, _, _, _, _, _, e => by unfold showD at e; cases e
  | .kup ds, _, _, _, iv, rv, e => by
    unfold showD at e
    obtain ⟨ps, e1, rfl⟩ := map_some e
    cases iv with
    | kup h1 h0 h2 =>
      cases rv
      obtain ⟨its, r, ⟨o, ho, hc, n, hd⟩, _⟩ := I.tuple (show SqT X.K H _ _ from .inl (.inr ⟨_, sub _ _ h1⟩))
      obtain ⟨as, ra, of⟩ := reads_ofs I sub ds _ its ps h2 r e1
      exact ⟨as, .tuple ho hc hd ra, of⟩
  | .ctp ds, _, _, _, iv, rv, e => by
    unfold showD at e
    obtain ⟨ps, e1, rfl⟩ := map_some e
    cases iv with
    | ctp h1 h2 =>
      cases rv
      obtain ⟨its, r, ⟨o, ho, hc, n, hd⟩, _⟩ := I.tuple (Same.sqt sub h1)
      obtain ⟨as, ra, of⟩ := reads_ofs I sub ds _ its ps h2 r e1
      exact ⟨as, .tuple ho hc hd ra, of⟩
  | .tup ds, _, _, _, iv, rv, e => by
    unfold showD at e
    obtain ⟨ps, e1, rfl⟩ := map_some e
    cases iv with
    | tup h1 h2 =>
      cases rv
      obtain ⟨its, r, ⟨o, ho, hc, n, hd⟩, _⟩ := I.tuple (SqT.of (K := X.K) (sub _ _ h1))
      obtain ⟨as, ra, of⟩ := reads_ofs I sub ds _ its ps h2 r e1
      exact ⟨as, .tuple ho hc hd ra, of⟩
  | .lst ds, _, _, _, iv, rv, e => by
    unfold showD at e
    obtain ⟨ps, e1, rfl⟩ := map_some e
    cases iv with
    | lst h1 h2 =>
      cases rv
      obtain ⟨its, r, ⟨o, n, ho, hc, _, hd⟩, _⟩ := I.list (SqL.of (K := X.K) (sub _ _ h1))
      obtain ⟨as, ra, of⟩ := reads_ofs I sub ds _ its ps h2 r e1
      exact ⟨_ :: as, .list ho hc hd ra, fun z => nomatch (show false = true from z)⟩
  | .dK ks ds, _, _, _, iv, rv, e => by
    unfold showD at e
    obtain ⟨ps, e1, rfl⟩ := map_some e
    cases iv with
    | dK h1 h2 h3 =>
      cases rv
      obtain ⟨_, hsy, vs, kv, o, es, ep, ho, hx, hdat, _, hp, _⟩ := dk_of I.hok (sub _ _ h1)
      obtain ⟨k1, k2⟩ := kv_split kv
      obtain ⟨as, ra, of⟩ := reads_ofs I sub ds _ _ ps h3 k2 e1
      obtain ⟨r1, r2⟩ := reads_pairs (enc := keyP) (fun k u => reads_key) hp ra
      rw [← k1, h2] at r1 r2
      exact ⟨_, .dict ho hx.1 hdat r1 r2, fun z => off_app (off_cons (beq_eq_false_iff_ne.mp hsy) (by simp [Off])) (of z)⟩
  | .dT _ _, _, _, _, _, _, e => by unfold showD at e; cases e
  | .kdK _ _, _, _, _, _, _, e => by unfold showD at e; cases e
  | .dX _ _ _, _, _, _, _, _, e => by unfold showD at e; cases e
theorem reads_ofs (I : Inv X pins σ H s) (sub : ∀ b u, F b = some u → H b = some u) : ∀ (ds : List D) (vs : List V) (us : List Value) (ps : List PyData), IsVs X.K F ds vs → Vals vs us → showDs ds = some ps → ∃ as, ReadsAll s.heap us ps as ∧ (noLs ds = true → Off as)
  | [], _, _, _, iv, rv, e => by
    cases iv; cases rv; unfold showDs at e; cases e
    exact ⟨[], .nil, fun _ => by simp [Off]⟩
  | d :: ds, _, _, _, iv, rv, e => by
    obtain ⟨p, r, rfl, e1, e2⟩ := showDs_cons e
    cases iv with
    | cons i1 i2 =>
      cases rv with
      | cons r1 r2 =>
        obtain ⟨as, a1, a2⟩ := reads_of I sub d _ _ p i1 r1 e1
        obtain ⟨bs, b1, b2⟩ := reads_ofs I sub ds _ _ r i2 r2 e2
        refine ⟨as ++ bs, .cons a1 b1, fun z => ?_⟩
        have z2 : (noL d && noLs ds) = true := z
        rw [Bool.and_eq_true] at z2
        exact off_app (a2 z2.1) (b2 z2.2)
end
end
end DL

set_option maxRecDepth 100000
set_option maxHeartbeats 2000000
/-! DL, sorted of data of any kind; sorted by key=len. -/
namespace DL
open PySem PySem.Spec L2
def showP (d : D) : PyData := (showD d).getD .none
theorem showP_of {d : D} {p : PyData} (h : showD d = some p) : showP d = p := by unfold showP; rw [h]; rfl
/-- the order that sorted goes by -/
def leD : D → D → Bool := PySem.W.dataLe false showP
section
variable {K : PySem.W.Frag} {F : Hp}
end
section
variable {X : Cx}
end
/-! ### sorted(xs, key=len), xs a list of tuples -/
end DL

set_option maxRecDepth 100000
set_option maxHeartbeats 2000000
/-! zip of two sequences of any kind, at the library's level: its turns, its end, its making; list(zip(..)). -/
namespace DLZ
open PySem
open PySem.Sem (wp)
/-- an iterator it over what stands at l -/
structure SeqIt (prog : Program) (w : World) (it l : Addr) (xs : Array Value) (St : Nat → Heap → Prop) : Prop where
  frame : ∀ {k : Nat} {h h' : Heap}, St k h → (∀ o, h.get? it = some o → h'.get? it = some o) → (∀ o, h.get? l = some o → h'.get? l = some o) → St k h'
  there : ∀ {k : Nat} {h : Heap}, St k h → (∃ o, h.get? it = some o) ∧ ∃ o, h.get? l = some o
  item : ∀ {A : Around} {E : Value → Shared → Prop} {s : Shared} {k : Nat} {x : Value} {Q : Value → Shared → Prop}, St k s.heap → xs[k]? = some x → (∀ h', St (k + 1) h' → Heap.SameBut it s.heap h' → Q x { s with heap := h' }) → wpAny (model prog w) A (Builtin.SmallTypes.nextOf (.ref it)) Q E s
  stop : ∀ {A : Around} {E : Value → Shared → Prop} {s : Shared} {k : Nat} {Q : Value → Shared → Prop}, A.handled = none → St k s.heap → xs[k]? = none →
    (∀ h' e, Heap.ExtBut it s.heap h' → (∃ o, h'.get? e = some o ∧ o.cls = .type "StopIteration") → E (.ref e) { s with heap := h' }) → wpAny (model prog w) A (Builtin.SmallTypes.nextOf (.ref it)) Q E s
theorem SeqIt.list {prog : Program} {w : World} (it l : Addr) (xs : Array Value) : SeqIt prog w it l xs (fun k h => h.IsListIter it l k ∧ h.IsList l xs) where
  frame := fun st k1 k2 => ⟨st.1.at k1, st.2.at k2⟩
  there := fun st => ⟨let ⟨o, h, _⟩ := st.1; ⟨o, h⟩, let ⟨o, h, _⟩ := st.2; ⟨o, h⟩⟩
  item := fun {A E s k x Q} st hx h => wpAny_nextOf_list_item st.1 st.2 hx fun h' a b => by
    by_cases e : l = it
    · subst e
      obtain ⟨o, h1, h2, h3⟩ := st.1
      obtain ⟨o', g1, g2, g3⟩ := st.2
      rw [h1] at g1
      cases g1
      rw [h2] at g2
      injection g2 with g
      exact absurd g (by decide)
    · exact h h' ⟨a, st.2.at fun o z => (b.2 _ e).trans z⟩ b
  stop := fun hh st hx h => wpAny_nextOf_list_end hh st.1 st.2 hx h
theorem SeqIt.tuple {prog : Program} {w : World} (it l : Addr) (xs : Array Value) : SeqIt prog w it l xs (fun k h => h.IsTupleIter it l k ∧ h.IsTuple l xs) where
  frame := fun st k1 k2 => ⟨st.1.at k1, st.2.at k2⟩
  there := fun st => ⟨let ⟨o, h, _⟩ := st.1; ⟨o, h⟩, let ⟨o, h, _⟩ := st.2; ⟨o, h⟩⟩
  item := fun {A E s k x Q} st hx h => RZ.nextOf_tuple_item st.1 st.2 hx fun h' a b => by
    by_cases e : l = it
    · subst e
      obtain ⟨o, h1, h2, h3⟩ := st.1
      obtain ⟨o', g1, g2, g3⟩ := st.2
      rw [h1] at g1
      cases g1
      rw [h2] at g2
      injection g2 with g
      exact absurd g (by decide)
    · exact h h' ⟨a, st.2.at fun o z => (b.2 _ e).trans z⟩ b
  stop := fun hh st hx h => RZ.nextOf_tuple_end hh st.1 st.2 hx h
/-- the zip object z over the iterators i1, i2: its tuple has not been given out, or T was, and stands -/
def ZipSt (h : Heap) (z TI TO i1 i2 : Addr) (got : Option Addr) : Prop := IsPair h TI (.ref i1) (.ref i2) ∧ match got with
  | none => IsZip h z TI TO .none ∧ ∃ a b, IsPair h TO a b
  | some T => ∃ f, IsZipHeld h z TI TO T f ∧ ∃ o, h.get? T = some o
section
variable {prog : Program} {w : World} {A : Around} {E : Value → Shared → Prop} {s : Shared} {z TI TO i1 i2 l1 l2 : Addr} {xs ys : Array Value} {S1 S2 : Nat → Heap → Prop} {k : Nat} {x y : Value}
theorem zip_turn_new (D : ZipApart z TI TO i1 i2 l1 l2) (I1 : SeqIt prog w i1 l1 xs S1) (I2 : SeqIt prog w i2 l2 ys S2) {Q : Value → Shared → Prop} (hz : IsZip s.heap z TI TO .none) (hTI : IsPair s.heap TI (.ref i1) (.ref i2)) (hTO : IsPair s.heap TO a b) (st1 : S1 k s.heap) (st2 : S2 k s.heap) (hx : xs[k]? = some x) (hy : ys[k]? = some y)
    (hQ : ∀ h', IsZip h' z TI TO (rawInt s.heap.objs.size) → IsPair h' TO x y → S1 (k + 1) h' → S2 (k + 1) h' → IsPair h' s.heap.objs.size x y → h'.objs.size = s.heap.objs.size + 1 → (∀ c o, c ≠ z → c ≠ TO → c ≠ i1 → c ≠ i2 → s.heap.get? c = some o → h'.get? c = some o) → Q (.ref s.heap.objs.size) { s with heap := h' }) :
    wpAny (model prog w) A (Builtin.«zip.__next__» ⟨[.ref z], []⟩) (fun fin s' => ∃ v, fin = .done (.ret v) ∧ Q v s') E s := by
  have eb : ∀ {b : Addr} {h h' : Heap}, Heap.SameBut b h h' → ∀ c o, c ≠ b → h.get? c = some o → h'.get? c = some o := fun sb c o hc e => (sb.2 c hc).trans e
  show wpAny _ _ (field (.ref z) 2 >>= _) _ _ _
  refine wpAny_bind (wpAny_field hz rfl (x := .bool false) rfl ?_)
  show wpAny _ _ (field (.ref z) 3 >>= _) _ _ _
  refine wpAny_bind (wpAny_field hz rfl (x := .ref TI) rfl (wpAny_bind (wpAny_seqItems hTI rfl ?_)))
  show wpAny _ _ (Builtin.SmallTypes.ownedTupleIsFree (.ref z) >>= _) _ _ _
  unfold Builtin.SmallTypes.ownedTupleIsFree
  refine wpAny_bind (wpAny_bind (wpAny_field hz rfl (x := .none) rfl (wpAny_pure ?_)))
  simp only [if_true]
  refine wpAny_bind (wpAny_rule (wpAny_bind (wpAny_field hz rfl (x := .ref TO) rfl (wpAny_bind (wpAny_setField_rec hz (by simp) fun g1 z1 b1 => ?_)))))
  have z1 : IsZip g1 z TI TO .ellipsis := z1
  refine wpAny_bind ?_
  simp only [List.zipIdx_cons, List.zipIdx_nil, List.forIn_cons, List.forIn_nil]
  refine wpAny_bind (wpAny_bind (wpAny_onRaise ?_))
  show wpAny _ _ (Builtin.SmallTypes.nextOf (.ref i1) >>= _) _ _ _
  refine wpAny_bind (I1.item (I1.frame st1 (fun o => eb b1 _ o D.i1z) fun o => eb b1 _ o D.l1z) hx fun g2 p1 b2 => wpAny_pure ?_)
  have t2 : IsPair g2 TO a b := eb b2 _ _ D.TOi1 (eb b1 _ _ D.TOz hTO)
  refine wpAny_bind (wpAny_seqItems t2 rfl (wpAny_bind (wpAny_updateSeq_pair t2 fun g3 t3 b3 => ?_)))
  have t3 : IsPair g3 TO x b := t3
  refine wpAny_bind (wpAny_letGo (wpAny_pure (wpAny_bind (wpAny_bind (wpAny_onRaise ?_)))))
  show wpAny _ _ (Builtin.SmallTypes.nextOf (.ref i2) >>= _) _ _ _
  have q2 : S2 k g3 := I2.frame (I2.frame (I2.frame st2 (fun o => eb b1 _ o D.i2z) fun o => eb b1 _ o D.l2z) (fun o => eb b2 _ o D.i12.symm) fun o => eb b2 _ o D.l2i1) (fun o => eb b3 _ o D.TOi2.symm) fun o => eb b3 _ o D.l2TO
  refine wpAny_bind (I2.item q2 hy fun g4 p2 b4 => wpAny_pure ?_)
  have t4 : IsPair g4 TO x b := eb b4 _ _ D.TOi2 t3
  refine wpAny_bind (wpAny_seqItems t4 rfl (wpAny_bind (wpAny_updateSeq_pair t4 fun g5 t5 b5 => ?_)))
  have t5 : IsPair g5 TO x y := t5
  refine wpAny_bind (wpAny_letGo (wpAny_pure (wpAny_pure ?_)))
  refine wpAny_bind (wpAny_seqItems t5 rfl (wpAny_bind (wpAny_newTuple ?_)))
  have sz : g5.objs.size = s.heap.objs.size := by rw [b5.1, b4.1, b3.1, b2.1, b1.1]
  have z5 : IsZip g5 z TI TO .ellipsis := eb b5 _ _ D.TOz.symm (eb b4 _ _ D.i2z.symm (eb b3 _ _ D.TOz.symm (eb b2 _ _ D.i1z.symm z1)))
  have keep : ∀ c o, c ≠ z → c ≠ TO → c ≠ i1 → c ≠ i2 → s.heap.get? c = some o → g5.get? c = some o := fun c o c1 c2 c3 c4 e => eb b5 _ _ c2 (eb b4 _ _ c4 (eb b3 _ _ c2 (eb b2 _ _ c3 (eb b1 _ _ c1 e))))
  have p5 : S1 (k + 1) g5 := I1.frame (I1.frame (I1.frame p1 (fun o => eb b3 _ o D.TOi1.symm) fun o => eb b3 _ o D.l1TO) (fun o => eb b4 _ o D.i12) fun o => eb b4 _ o D.l1i2) (fun o => eb b5 _ o D.TOi1.symm) fun o => eb b5 _ o D.l1TO
  have q5 : S2 (k + 1) g5 := I2.frame p2 (fun o => eb b5 _ o D.TOi2.symm) fun o => eb b5 _ o D.l2TO
  have zlt : z < g5.objs.size := Heap.lt_size z5
  show wpAny _ _ (Builtin.SmallTypes.ownedTupleHandOut (.ref z) (.ref g5.objs.size) >>= _) _ _ _
  unfold Builtin.SmallTypes.ownedTupleHandOut
  have z6 : IsZip (g5.push { cls := .type "tuple", data := .seq #[x, y] }) z TI TO .ellipsis := Heap.get?_push_of_some _ z5
  refine wpAny_bind (wpAny_bind (wpAny_setField_rec z6 (by simp) fun g7 z7 b7 => ?_))
  have z7 : IsZip g7 z TI TO (rawInt g5.objs.size) := z7
  refine wpAny_setField_rec z7 (by simp) fun g8 z8 b8 => ?_
  have z8 : IsZip g8 z TI TO (rawInt g5.objs.size) := z8
  have up : ∀ c o, c ≠ z → g5.get? c = some o → g8.get? c = some o := fun c o hc e => eb b8 _ _ hc (eb b7 _ _ hc (Heap.get?_push_of_some _ e))
  have T8 : IsPair g8 g5.objs.size x y := eb b8 _ _ (Nat.ne_of_gt zlt) (eb b7 _ _ (Nat.ne_of_gt zlt) (Heap.get?_push_size _ rfl))
  have sz8 : g8.objs.size = g5.objs.size + 1 := by rw [b8.1, b7.1, Heap.size_push]
  rw [sz] at z8 T8 sz8
  refine wpAny_pure ⟨_, rfl, ?_⟩
  show Q (.ref g5.objs.size) _
  rw [sz]
  exact hQ g8 z8 (up _ _ D.TOz t5) (I1.frame p5 (fun o => up _ o D.i1z) fun o => up _ o D.l1z) (I2.frame q5 (fun o => up _ o D.i2z) fun o => up _ o D.l2z) T8 sz8 fun c o c1 c2 c3 c4 e => up c o c1 (keep c o c1 c2 c3 c4 e)
theorem zip_turn_held {T : Addr} {f : Bool} {oT : Obj} (D : ZipApart z TI TO i1 i2 l1 l2) (I1 : SeqIt prog w i1 l1 xs S1) (I2 : SeqIt prog w i2 l2 ys S2) {Q : Value → Shared → Prop} (hz : IsZipHeld s.heap z TI TO T f) (hT : s.heap.get? T = some oT) (hTI : IsPair s.heap TI (.ref i1) (.ref i2)) (st1 : S1 k s.heap) (st2 : S2 k s.heap) (hx : xs[k]? = some x) (hy : ys[k]? = some y)
    (hQ : ∀ h', IsZipHeld h' z TI TO T true → S1 (k + 1) h' → S2 (k + 1) h' → IsPair h' s.heap.objs.size x y → h'.objs.size = s.heap.objs.size + 1 → (∀ c o, c ≠ z → c ≠ i1 → c ≠ i2 → s.heap.get? c = some o → h'.get? c = some o) → Q (.ref s.heap.objs.size) { s with heap := h' }) :
    wpAny (model prog w) A (Builtin.«zip.__next__» ⟨[.ref z], []⟩) (fun fin s' => ∃ v, fin = .done (.ret v) ∧ Q v s') E s := by
  have eb : ∀ {b : Addr} {h h' : Heap}, Heap.SameBut b h h' → ∀ c o, c ≠ b → h.get? c = some o → h'.get? c = some o := fun sb c o hc e => (sb.2 c hc).trans e
  show wpAny _ _ (field (.ref z) 2 >>= _) _ _ _
  refine wpAny_bind (wpAny_field hz rfl (x := .bool false) rfl ?_)
  show wpAny _ _ (field (.ref z) 3 >>= _) _ _ _
  refine wpAny_bind (wpAny_field hz rfl (x := .ref TI) rfl (wpAny_bind (wpAny_seqItems hTI rfl ?_)))
  show wpAny _ _ (Builtin.SmallTypes.ownedTupleIsFree (.ref z) >>= _) _ _ _
  refine wpAny_bind (wpAny_tupleHeld_zip hz hT fun g1 z1 b1 => ?_)
  simp only [Bool.false_eq_true, if_false]
  rw [← Array.forIn_toList]
  simp only [List.forIn_cons, List.forIn_nil]
  refine wpAny_bind (wpAny_bind (wpAny_bind (wpAny_holding ?_)))
  show wpAny _ _ (Builtin.SmallTypes.nextOf (.ref i1) >>= _) _ _ _
  refine wpAny_bind (I1.item (s := { s with heap := g1 }) (I1.frame st1 (fun o => eb b1 _ o D.i1z) fun o => eb b1 _ o D.l1z) hx fun g2 p1 b2 => wpAny_pure (wpAny_pure ?_))
  refine wpAny_bind (wpAny_bind (wpAny_holding ?_))
  show wpAny _ _ (Builtin.SmallTypes.nextOf (.ref i2) >>= _) _ _ _
  refine wpAny_bind (I2.item (s := { s with heap := g2 }) (I2.frame (I2.frame st2 (fun o => eb b1 _ o D.i2z) fun o => eb b1 _ o D.l2z) (fun o => eb b2 _ o D.i12.symm) fun o => eb b2 _ o D.l2i1) hy fun g3 p2 b3 => wpAny_pure (wpAny_pure (wpAny_pure ?_)))
  show wpAny _ _ (newTuple [x, y] >>= _) _ _ _
  refine wpAny_bind (wpAny_newTuple ?_)
  have sz : g3.objs.size = s.heap.objs.size := by rw [b3.1, b2.1, b1.1]
  have z3 : IsZipHeld g3 z TI TO T true := eb b3 _ _ D.i2z.symm (eb b2 _ _ D.i1z.symm z1)
  have keep : ∀ c o, c ≠ z → c ≠ i1 → c ≠ i2 → s.heap.get? c = some o → g3.get? c = some o := fun c o c1 c2 c3 e => eb b3 _ _ c3 (eb b2 _ _ c2 (eb b1 _ _ c1 e))
  have p3 : S1 (k + 1) g3 := I1.frame p1 (fun o => eb b3 _ o D.i12) fun o => eb b3 _ o D.l1i2
  refine wpAny_pure ⟨_, rfl, ?_⟩
  show Q (.ref g3.objs.size) _
  have T4 : IsPair (g3.push { cls := .type "tuple", data := .seq #[x, y] }) g3.objs.size x y := Heap.get?_push_size _ rfl
  have sz4 : (g3.push { cls := .type "tuple", data := .seq #[x, y] }).objs.size = g3.objs.size + 1 := Heap.size_push ..
  have up : ∀ c o, g3.get? c = some o → (g3.push { cls := .type "tuple", data := .seq #[x, y] }).get? c = some o := fun c o e => Heap.get?_push_of_some _ e
  rw [sz] at T4 sz4 ⊢
  exact hQ _ (up _ _ z3) (I1.frame p3 (up _) (up _)) (I2.frame p2 (up _) (up _)) T4 sz4 fun c o c1 c2 c3 e => up c o (keep c o c1 c2 c3 e)
theorem zip_stop_new {a b : Value} (hh : A.handled = none) (D : ZipApart z TI TO i1 i2 l1 l2) (I1 : SeqIt prog w i1 l1 xs S1) (I2 : SeqIt prog w i2 l2 ys S2) {Q : PySem.Fin → Shared → Prop} (hz : IsZip s.heap z TI TO .none) (hTI : IsPair s.heap TI (.ref i1) (.ref i2)) (hTO : IsPair s.heap TO a b) (st1 : S1 k s.heap) (st2 : S2 k s.heap) (hend : xs[k]? = none ∨ ys[k]? = none)
    (hE : ∀ h' e, (∀ c o, c ≠ z → c ≠ TO → c ≠ i1 → c ≠ i2 → s.heap.get? c = some o → h'.get? c = some o) → (∃ o, h'.get? e = some o ∧ o.cls = .type "StopIteration") → E (.ref e) { s with heap := h' }) : wpAny (model prog w) A (Builtin.«zip.__next__» ⟨[.ref z], []⟩) Q E s := by
  have eb : ∀ {b : Addr} {h h' : Heap}, Heap.SameBut b h h' → ∀ c o, c ≠ b → h.get? c = some o → h'.get? c = some o := fun sb c o hc e => (sb.2 c hc).trans e
  show wpAny _ _ (field (.ref z) 2 >>= _) _ _ _
  refine wpAny_bind (wpAny_field hz rfl (x := .bool false) rfl ?_)
  show wpAny _ _ (field (.ref z) 3 >>= _) _ _ _
  refine wpAny_bind (wpAny_field hz rfl (x := .ref TI) rfl (wpAny_bind (wpAny_seqItems hTI rfl ?_)))
  show wpAny _ _ (Builtin.SmallTypes.ownedTupleIsFree (.ref z) >>= _) _ _ _
  unfold Builtin.SmallTypes.ownedTupleIsFree
  refine wpAny_bind (wpAny_bind (wpAny_field hz rfl (x := .none) rfl (wpAny_pure ?_)))
  simp only [if_true]
  refine wpAny_bind (wpAny_rule (wpAny_bind (wpAny_field hz rfl (x := .ref TO) rfl (wpAny_bind (wpAny_setField_rec hz (by simp) fun g1 z1 b1 => ?_)))))
  have z1 : IsZip g1 z TI TO .ellipsis := z1
  refine wpAny_bind ?_
  simp only [List.zipIdx_cons, List.zipIdx_nil, List.forIn_cons, List.forIn_nil]
  refine wpAny_bind (wpAny_bind (wpAny_onRaise ?_))
  show wpAny _ _ (Builtin.SmallTypes.nextOf (.ref i1) >>= _) _ _ _
  have p1 : S1 k g1 := I1.frame st1 (fun o => eb b1 _ o D.i1z) fun o => eb b1 _ o D.l1z
  cases hx : xs[k]? with
  | none =>
    refine wpAny_bind (I1.stop hh p1 hx fun g2 e b2 ⟨oe, he, hc⟩ => ?_)
    have z2 : IsZip g2 z TI TO .ellipsis := b2 _ _ D.i1z.symm z1
    have ne : e ≠ z := fun q => by subst q; rw [z2] at he; cases he; simp at hc
    exact wpAny_setField_rec z2 (by simp) fun g3 _ b3 => hE g3 e (fun c o c1 _ c3 _ q => eb b3 _ _ c1 (b2 _ _ c3 (eb b1 _ _ c1 q))) ⟨oe, eb b3 _ _ ne he, hc⟩
  | some x =>
    have hy : ys[k]? = none := hend.resolve_left (by rw [hx]; exact fun q => nomatch q)
    refine wpAny_bind (I1.item p1 hx fun g2 p2 b2 => wpAny_pure ?_)
    have t2 : IsPair g2 TO a b := eb b2 _ _ D.TOi1 (eb b1 _ _ D.TOz hTO)
    refine wpAny_bind (wpAny_seqItems t2 rfl (wpAny_bind (wpAny_updateSeq_pair t2 fun g3 t3 b3 => wpAny_bind (wpAny_letGo (wpAny_pure (wpAny_bind (wpAny_bind (wpAny_onRaise ?_))))))))
    show wpAny _ _ (Builtin.SmallTypes.nextOf (.ref i2) >>= _) _ _ _
    have q3 : S2 k g3 := I2.frame (I2.frame (I2.frame st2 (fun o => eb b1 _ o D.i2z) fun o => eb b1 _ o D.l2z) (fun o => eb b2 _ o D.i12.symm) fun o => eb b2 _ o D.l2i1) (fun o => eb b3 _ o D.TOi2.symm) fun o => eb b3 _ o D.l2TO
    refine wpAny_bind (I2.stop hh q3 hy fun g4 e b4 ⟨oe, he, hc⟩ => ?_)
    have z4 : IsZip g4 z TI TO .ellipsis := b4 _ _ D.i2z.symm (eb b3 _ _ D.TOz.symm (eb b2 _ _ D.i1z.symm z1))
    have ne : e ≠ z := fun q => by subst q; rw [z4] at he; cases he; simp at hc
    exact wpAny_setField_rec z4 (by simp) fun g5 _ b5 => hE g5 e (fun c o c1 c2 c3 c4 q => eb b5 _ _ c1 (b4 _ _ c4 (eb b3 _ _ c2 (eb b2 _ _ c3 (eb b1 _ _ c1 q))))) ⟨oe, eb b5 _ _ ne he, hc⟩
theorem zip_stop_held {T : Addr} {f : Bool} {oT : Obj} (hh : A.handled = none) (D : ZipApart z TI TO i1 i2 l1 l2) (I1 : SeqIt prog w i1 l1 xs S1) (I2 : SeqIt prog w i2 l2 ys S2) {Q : PySem.Fin → Shared → Prop} (hz : IsZipHeld s.heap z TI TO T f) (hT : s.heap.get? T = some oT) (hTI : IsPair s.heap TI (.ref i1) (.ref i2)) (st1 : S1 k s.heap) (st2 : S2 k s.heap) (hend : xs[k]? = none ∨ ys[k]? = none)
    (hE : ∀ h' e, (∀ c o, c ≠ z → c ≠ TO → c ≠ i1 → c ≠ i2 → s.heap.get? c = some o → h'.get? c = some o) → (∃ o, h'.get? e = some o ∧ o.cls = .type "StopIteration") → E (.ref e) { s with heap := h' }) : wpAny (model prog w) A (Builtin.«zip.__next__» ⟨[.ref z], []⟩) Q E s := by
  have eb : ∀ {b : Addr} {h h' : Heap}, Heap.SameBut b h h' → ∀ c o, c ≠ b → h.get? c = some o → h'.get? c = some o := fun sb c o hc e => (sb.2 c hc).trans e
  show wpAny _ _ (field (.ref z) 2 >>= _) _ _ _
  refine wpAny_bind (wpAny_field hz rfl (x := .bool false) rfl ?_)
  show wpAny _ _ (field (.ref z) 3 >>= _) _ _ _
  refine wpAny_bind (wpAny_field hz rfl (x := .ref TI) rfl (wpAny_bind (wpAny_seqItems hTI rfl ?_)))
  show wpAny _ _ (Builtin.SmallTypes.ownedTupleIsFree (.ref z) >>= _) _ _ _
  refine wpAny_bind (wpAny_tupleHeld_zip hz hT fun g1 z1 b1 => ?_)
  simp only [Bool.false_eq_true, if_false]
  rw [← Array.forIn_toList]
  simp only [List.forIn_cons, List.forIn_nil]
  refine wpAny_bind (wpAny_bind (wpAny_bind (wpAny_holding ?_)))
  show wpAny _ _ (Builtin.SmallTypes.nextOf (.ref i1) >>= _) _ _ _
  have p1 : S1 k g1 := I1.frame st1 (fun o => eb b1 _ o D.i1z) fun o => eb b1 _ o D.l1z
  cases hx : xs[k]? with
  | none =>
    refine wpAny_bind (I1.stop (s := { s with heap := g1 }) hh p1 hx fun g2 e b2 he => ?_)
    exact hE g2 e (fun c o c1 _ c3 _ q => b2 _ _ c3 (eb b1 _ _ c1 q)) he
  | some x =>
    have hy : ys[k]? = none := hend.resolve_left (by rw [hx]; exact fun q => nomatch q)
    refine wpAny_bind (I1.item (s := { s with heap := g1 }) p1 hx fun g2 p2 b2 => wpAny_pure (wpAny_pure (wpAny_bind (wpAny_bind (wpAny_holding ?_)))))
    show wpAny _ _ (Builtin.SmallTypes.nextOf (.ref i2) >>= _) _ _ _
    refine wpAny_bind (I2.stop (s := { s with heap := g2 }) hh (I2.frame (I2.frame st2 (fun o => eb b1 _ o D.i2z) fun o => eb b1 _ o D.l2z) (fun o => eb b2 _ o D.i12.symm) fun o => eb b2 _ o D.l2i1) hy fun g3 e b3 he => ?_)
    exact hE g3 e (fun c o c1 _ c3 c4 q => b3 _ _ c4 (eb b2 _ _ c3 (eb b1 _ _ c1 q))) he
/-- next(z) -/
theorem zip_next (D : ZipApart z TI TO i1 i2 l1 l2) (I1 : SeqIt prog w i1 l1 xs S1) (I2 : SeqIt prog w i2 l2 ys S2) {got : Option Addr} {Q : Option Value → Shared → Prop} (hz : ZipSt s.heap z TI TO i1 i2 got) (st1 : S1 k s.heap) (st2 : S2 k s.heap) (hx : xs[k]? = some x) (hy : ys[k]? = some y)
    (hT : ∀ T, got = some T → T ≠ z ∧ T ≠ i1 ∧ T ≠ i2)
    (hQ : ∀ h' T', (got = none → T' = s.heap.objs.size) → (∀ T, got = some T → T' = T) → ZipSt h' z TI TO i1 i2 (some T') → S1 (k + 1) h' → S2 (k + 1) h' → IsPair h' s.heap.objs.size x y → h'.objs.size = s.heap.objs.size + 1 → (∀ c o, c ≠ z → c ≠ TO → c ≠ i1 → c ≠ i2 → s.heap.get? c = some o → h'.get? c = some o) → Q (some (.ref s.heap.objs.size)) { s with heap := h' }) :
    wpAny (model prog w) A (pyNext (.ref z)) Q E s := by
  obtain ⟨hTI, hz⟩ := hz
  cases got with
  | none =>
    obtain ⟨hz, a, b, hTO⟩ := hz
    have hTy : s.TypeIs (.ref z) "zip" := ⟨_, hz, rfl⟩
    unfold pyNext
    exact wpAny_bind (wpAny_attempt (wpAny_callSpecial?_slot (name := Str.ofString "__next__") hTy F.slot_zip_next
      (wpAny_call_entry F.slot_zip_next hTy F.entry_zip_next
        (zip_turn_new D I1 I2 hz hTI hTO st1 st2 hx hy fun h' a1 a2 a3 a4 a5 a6 a7 => wpAny_pure (hQ h' _ (fun _ => rfl) (fun _ q => nomatch q) ⟨a7 _ _ D.TIz D.TITO D.TIi1 D.TIi2 hTI, false, a1, _, a5⟩ a3 a4 a5 a6 a7)) (F.args_zip_next_1 _))))
  | some T =>
    obtain ⟨f, hz, oT, h0⟩ := hz
    obtain ⟨n1, n2, n3⟩ := hT T rfl
    have hTy : s.TypeIs (.ref z) "zip" := ⟨_, hz, rfl⟩
    unfold pyNext
    exact wpAny_bind (wpAny_attempt (wpAny_callSpecial?_slot (name := Str.ofString "__next__") hTy F.slot_zip_next
      (wpAny_call_entry F.slot_zip_next hTy F.entry_zip_next
        (zip_turn_held D I1 I2 hz h0 hTI st1 st2 hx hy fun h' a1 a3 a4 a5 a6 a7 => wpAny_pure (hQ h' T (fun q => nomatch q) (fun _ q => Option.some.inj q) ⟨a7 _ _ D.TIz D.TIi1 D.TIi2 hTI, true, a1, oT, a7 _ _ n1 n2 n3 h0⟩ a3 a4 a5 a6 fun c o c1 _ c3 c4 q => a7 c o c1 c3 c4 q)) (F.args_zip_next_1 _))))
theorem zip_done (hh : A.handled = none) (D : ZipApart z TI TO i1 i2 l1 l2) (I1 : SeqIt prog w i1 l1 xs S1) (I2 : SeqIt prog w i2 l2 ys S2) {got : Option Addr} {Q : Option Value → Shared → Prop} (hz : ZipSt s.heap z TI TO i1 i2 got) (st1 : S1 k s.heap) (st2 : S2 k s.heap) (hend : xs[k]? = none ∨ ys[k]? = none)
    (hQ : ∀ h', (∀ c o, c ≠ z → c ≠ TO → c ≠ i1 → c ≠ i2 → s.heap.get? c = some o → h'.get? c = some o) → Q none { s with heap := h' }) : wpAny (model prog w) A (pyNext (.ref z)) Q E s := by
  obtain ⟨hTI, hz⟩ := hz
  have stop : ∀ h' e, (∀ c o, c ≠ z → c ≠ TO → c ≠ i1 → c ≠ i2 → s.heap.get? c = some o → h'.get? c = some o) → (∃ o, h'.get? e = some o ∧ o.cls = .type "StopIteration") →
      wpAny (model prog w) A (do if (← isInstance (.ref e) (.type "StopIteration")) then pure none else throw (.ref e)) Q E { s with heap := h' } := fun h' e kp ⟨o, ho, hc⟩ =>
    wpAny_bind (wpAny_isInstance (T := "StopIteration") (b := true) ⟨o, ho, hc⟩ isSubtype_stop (wpAny_pure (hQ h' kp)))
  cases got with
  | none =>
    obtain ⟨hz, a, b, hTO⟩ := hz
    have hTy : s.TypeIs (.ref z) "zip" := ⟨_, hz, rfl⟩
    unfold pyNext
    refine wpAny_bind (wpAny_attempt (wpAny_callSpecial?_slot (name := Str.ofString "__next__") hTy F.slot_zip_next
      (wpAny_call_entry F.slot_zip_next hTy F.entry_zip_next (zip_stop_new (A := A.in1) hh D I1 I2 hz hTI hTO st1 st2 hend fun h' e kp he => stop h' e kp he) (F.args_zip_next_1 _))))
  | some T =>
    obtain ⟨f, hz, oT, h0⟩ := hz
    have hTy : s.TypeIs (.ref z) "zip" := ⟨_, hz, rfl⟩
    unfold pyNext
    refine wpAny_bind (wpAny_attempt (wpAny_callSpecial?_slot (name := Str.ofString "__next__") hTy F.slot_zip_next
      (wpAny_call_entry F.slot_zip_next hTy F.entry_zip_next (zip_stop_held (A := A.in1) hh D I1 I2 hz h0 hTI st1 st2 hend fun h' e kp he => stop h' e kp he) (F.args_zip_next_1 _))))
end
/-! ### zip(l, t), l a list, t a tuple -/
abbrev mk1 (h : Heap) (l : Addr) : Heap := h.push { cls := .type "list_iterator", data := .fields #[.ref l, .int 0 0] }
abbrev mk2 (h : Heap) (l t : Addr) : Heap := (mk1 h l).push { cls := .type "tuple_iterator", data := .fields #[.ref t, .int 0 0] }
abbrev mk3 (h : Heap) (l t : Addr) : Heap := (mk2 h l t).push { cls := .type "tuple", data := .seq #[.ref h.objs.size, .ref (mk1 h l).objs.size] }
abbrev mk4 (h : Heap) (l t : Addr) : Heap := (mk3 h l t).push { cls := .type "tuple", data := .seq #[.none, .none] }
abbrev mk5 (h : Heap) (l t : Addr) : Heap := (mk4 h l t).push { cls := .type "zip", data := .fields #[.none, .bool false, .bool false, .ref (mk2 h l t).objs.size, .ref (mk3 h l t).objs.size] }
theorem meets_zipLT (l t : Addr) (xs ys : Array Value) :
    Meets (Builtin.«zip.__new__» ⟨[.type "zip", .ref l, .ref t], []⟩) (fun _ R s => s.heap.IsList l xs ∧ s.heap.IsTuple t ys ∧ R (.ok (.ret (.ref (mk4 s.heap l t).objs.size))) { s with heap := mk5 s.heap l t }) :=
  .of_wp fun prog w A R s h => by
    obtain ⟨hp, g, d, tk, os⟩ := s
    obtain ⟨h1, h2, h⟩ := h
    have zs := sub_zip
    have L1 : Heap.IsList (Shared.heap ⟨hp, g, d, tk, os⟩) l xs := h1
    have L2 : Heap.IsTuple (Shared.heap ⟨hp.push { cls := .type "list_iterator", data := .fields #[.ref l, .int 0 0] }, g, d, tk, os⟩) t ys := Heap.IsTuple.push h2 _
    wp_walk using wpAny_pyIter_list L1, wpAny_pyIter_tuple L2
    exact ⟨_, rfl, h⟩
section
variable {prog : Program} {w : World} {A : Around} {E : Value → Shared → Prop} {s : Shared}
theorem call_zipLT {l t : Addr} {xs ys : Array Value} {Q : Value → Shared → Prop} (h1 : s.heap.IsList l xs) (h2 : s.heap.IsTuple t ys)
    (h : ∀ h' n, n = s.heap.objs.size → IsZip h' (n + 4) (n + 2) (n + 3) .none → IsPair h' (n + 2) (.ref n) (.ref (n + 1)) → IsPair h' (n + 3) .none .none → h'.IsListIter n l 0 → h'.IsTupleIter (n + 1) t 0 → h'.objs.size = n + 5 → (∀ c o, s.heap.get? c = some o → h'.get? c = some o) → Q (.ref (n + 4)) { s with heap := h' }) :
    wpAny (model prog w) A (call (.type "zip") [.ref l, .ref t]) Q E s := by
  refine callType_new F.called_zip (by decide) (F.typeCall_zip_2 _ _) (F.newCall_zip_2 _ _) (fun obj => F.args_object_init_3 obj _ _) F.entry_zip_new (meets_zipLT l t xs ys) ⟨h1, h2, ?_⟩
  have n1 : (mk1 s.heap l).objs.size = s.heap.objs.size + 1 := Heap.size_push ..
  have n2 : (mk2 s.heap l t).objs.size = s.heap.objs.size + 2 := by rw [Heap.size_push, n1]
  have n3 : (mk3 s.heap l t).objs.size = s.heap.objs.size + 3 := by rw [Heap.size_push, n2]
  have n4 : (mk4 s.heap l t).objs.size = s.heap.objs.size + 4 := by rw [Heap.size_push, n3]
  have n5 : (mk5 s.heap l t).objs.size = s.heap.objs.size + 5 := by rw [Heap.size_push, n4]
  have k2 : ∀ c o, (mk1 s.heap l).get? c = some o → (mk5 s.heap l t).get? c = some o := fun c o e => Heap.get?_push_of_some _ (Heap.get?_push_of_some _ (Heap.get?_push_of_some _ (Heap.get?_push_of_some _ e)))
  have k3 : ∀ c o, (mk2 s.heap l t).get? c = some o → (mk5 s.heap l t).get? c = some o := fun c o e => Heap.get?_push_of_some _ (Heap.get?_push_of_some _ (Heap.get?_push_of_some _ e))
  have k4 : ∀ c o, (mk3 s.heap l t).get? c = some o → (mk5 s.heap l t).get? c = some o := fun c o e => Heap.get?_push_of_some _ (Heap.get?_push_of_some _ e)
  have g0 := k2 _ _ (Heap.get?_push_size s.heap (o := { cls := .type "list_iterator", data := .fields #[.ref l, .int 0 0] }) rfl)
  have g1 := k3 _ _ (Heap.get?_push_size (mk1 s.heap l) (o := { cls := .type "tuple_iterator", data := .fields #[.ref t, .int 0 0] }) rfl)
  have g2 := k4 _ _ (Heap.get?_push_size (mk2 s.heap l t) (o := { cls := .type "tuple", data := .seq #[.ref s.heap.objs.size, .ref (mk1 s.heap l).objs.size] }) rfl)
  have g3 : (mk5 s.heap l t).get? (mk3 s.heap l t).objs.size = some { cls := .type "tuple", data := .seq #[.none, .none] } := Heap.get?_push_of_some _ (Heap.get?_push_size _ rfl)
  have g4 : (mk5 s.heap l t).get? (mk4 s.heap l t).objs.size = some { cls := .type "zip", data := .fields #[.none, .bool false, .bool false, .ref (mk2 s.heap l t).objs.size, .ref (mk3 s.heap l t).objs.size] } := Heap.get?_push_size _ rfl
  show _ ∧ _
  rw [n2, n3, n4] at g4
  rw [n1, n2] at g2
  rw [n3] at g3
  rw [n1] at g1
  rw [n4]
  exact ⟨⟨_, g4, rfl⟩, h _ _ rfl g4 g2 g3 ⟨_, g0, rfl, rfl⟩ ⟨_, g1, rfl, rfl⟩ n5 fun c o e => k2 c o (Heap.get?_push_of_some _ e)⟩
theorem apart {n l t : Nat} (hl : l < n) (ht : t < n) : ZipApart (n + 4) (n + 2) (n + 3) n (n + 1) l t := ⟨(by omega : (n + 2 : Nat) ≠ n + 4), (by omega : (n + 3 : Nat) ≠ n + 4), (by omega : (n : Nat) ≠ n + 4), (by omega : (n + 1 : Nat) ≠ n + 4), (by omega : (n + 2 : Nat) ≠ n + 3), (by omega : (n + 2 : Nat) ≠ n), (by omega : (n + 2 : Nat) ≠ n + 1), (by omega : (n + 3 : Nat) ≠ n), (by omega : (n + 3 : Nat) ≠ n + 1), (by omega : (n : Nat) ≠ n + 1), (by omega : (l : Nat) ≠ n + 4), (by omega : (l : Nat) ≠ n + 3), (by omega : (l : Nat) ≠ n), (by omega : (l : Nat) ≠ n + 1), (by omega : (t : Nat) ≠ n + 4), (by omega : (t : Nat) ≠ n + 3), (by omega : (t : Nat) ≠ n), (by omega : (t : Nat) ≠ n + 1)⟩

/-! ### list(z) -/
theorem zipSt_frame {h h' : Heap} {z TI TO i1 i2 : Addr} {got : Option Addr} (st : ZipSt h z TI TO i1 i2 got) {S : Addr} (n1 : TI ≠ S) (n2 : z ≠ S) (n3 : TO ≠ S) (n4 : ∀ T, got = some T → T ≠ S) (k : ∀ b o, b ≠ S → h.get? b = some o → h'.get? b = some o) : ZipSt h' z TI TO i1 i2 got := by
  obtain ⟨a, b⟩ := st
  refine ⟨k _ _ n1 a, ?_⟩
  cases got with
  | none => exact ⟨k _ _ n2 b.1, let ⟨x, y, q⟩ := b.2; ⟨x, y, k _ _ n3 q⟩⟩
  | some T => exact let ⟨f, q, o, q2⟩ := b; ⟨f, k _ _ n2 q, o, k _ _ (n4 T rfl) q2⟩
/-- the pairs that were given out -/
def Pairs (h : Heap) (xs ys : Array Value) (as : List Addr) : Prop := ∀ (j : Nat) (a : Addr), as[j]? = some a → ∃ x y, xs[j]? = some x ∧ ys[j]? = some y ∧ IsPair h a x y
variable {z TI TO i1 i2 l1 l2 : Addr} {xs ys : Array Value} {S1 S2 : Nat → Heap → Prop}
end
/-! ### zip as the argument of dict -/
theorem zip_pairs {prog : Program} {w : World} {z TI TO i1 i2 l1 l2 : Addr} {xs ys : Array Value} {S1 S2 : Nat → Heap → Prop} (D : ZipApart z TI TO i1 i2 l1 l2) (I1 : SeqIt prog w i1 l1 xs S1) (I2 : SeqIt prog w i2 l2 ys S2) (n : Nat) (hx : n ≤ xs.size) (hy : n ≤ ys.size) (hend : xs[n]? = none ∨ ys[n]? = none) :
    PairArg prog w "zip" z [z, TI, TO, i1, i2, l1, l2] [z, TO, i1, i2] n (fun i k v => xs[i]? = some k ∧ ys[i]? = some v) (fun h => ZipSt h z TI TO i1 i2 none ∧ S1 0 h ∧ S2 0 h) where
  type := fun s ok => ⟨_, ok.1.2.1, rfl⟩
  notDict := by decide
  keep := fun h h' ok k => ⟨⟨k _ _ ok.1.1, k _ _ ok.1.2.1, let ⟨a, b, q⟩ := ok.1.2.2; ⟨a, b, k _ _ q⟩⟩, I1.frame ok.2.1 (k _) (k _), I2.frame ok.2.2 (k _) (k _)⟩
  there := fun h ok b hb => by
    obtain ⟨⟨t1, t2, x, y, t3⟩, s1, s2⟩ := ok
    obtain ⟨a1, a2⟩ := I1.there s1
    obtain ⟨b1, b2⟩ := I2.there s2
    simp only [List.mem_cons, List.not_mem_nil, or_false] at hb
    rcases hb with rfl | rfl | rfl | rfl | rfl | rfl | rfl
    · exact ⟨_, t2⟩
    · exact ⟨_, t1⟩
    · exact ⟨_, t3⟩
    · exact a1
    · exact b1
    · exact a2
    · exact b2
  sub := fun b hb => by
    simp only [List.mem_cons, List.not_mem_nil, or_false] at hb ⊢
    rcases hb with rfl | rfl | rfl | rfl <;> simp
  noKeys := fun A s Q E hA ok h => getAttrOr_miss_zip ok.1.2.1 rfl rfl rfl zip_no_keys (by decide +kernel) hA h
  iter := fun A s d Q E hA ok hd hdf h => by
    simp only [List.mem_cons, List.not_mem_nil, or_false, not_or] at hdf
    obtain ⟨dz, dTI, dTO, di1, di2, dl1, dl2⟩ := hdf
    refine wpAny_pyIter_zip ok.1.2.1 (h z [z, TO, i1, i2] (fun i h => ∃ got, ZipSt h z TI TO i1 i2 got ∧ (∀ T, got = some T → T ≠ z ∧ T ≠ i1 ∧ T ≠ i2 ∧ T ≠ d) ∧ S1 i h ∧ S2 i h) s.heap s.toks ?_ ⟨none, ok.1, (fun T q => nomatch q), ok.2.1, ok.2.2⟩ (fun _ _ e => e) fun b hb => .inl hb)
    exact {
      off := fun hm => by
        simp only [List.mem_cons, List.not_mem_nil, or_false] at hm
        rcases hm with q | q | q | q
        · exact dz q
        · exact dTO q
        · exact di1 q
        · exact di2 q
      frame := fun i h1 h2 ⟨got, st, ap, s1, s2⟩ k => ⟨got, zipSt_frame st (Ne.symm dTI) (Ne.symm dz) (Ne.symm dTO) (fun T q => (ap T q).2.2.2) k, ap, I1.frame s1 (fun o => k _ o (Ne.symm di1)) fun o => k _ o (Ne.symm dl1), I2.frame s2 (fun o => k _ o (Ne.symm di2)) fun o => k _ o (Ne.symm dl2)⟩
      item := fun i s₁ Q₁ E₁ hi ⟨got, st, ap, s1, s2⟩ hds hQ => by
        have ex := Array.getElem?_eq_getElem (Nat.lt_of_lt_of_le hi hx)
        have ey := Array.getElem?_eq_getElem (Nat.lt_of_lt_of_le hi hy)
        have fr : ∀ {c : Addr} {o : Obj}, s₁.heap.get? c = some o → s₁.heap.objs.size ≠ c := fun e => Nat.ne_of_gt (Heap.lt_size e)
        have nz : s₁.heap.objs.size ≠ z := by
          cases got with
          | none => exact fr st.2.1
          | some T => exact let ⟨f, q, _⟩ := st.2; fr q
        have n1 : s₁.heap.objs.size ≠ i1 := let ⟨⟨o, q⟩, _⟩ := I1.there s1; fr q
        have n2 : s₁.heap.objs.size ≠ i2 := let ⟨⟨o, q⟩, _⟩ := I2.there s2; fr q
        refine zip_next D I1 I2 st s1 s2 ex ey (fun T q => ⟨(ap T q).1, (ap T q).2.1, (ap T q).2.2.1⟩) fun h' T' w1 w2 st' p1 p2 hp _ kp => ?_
        refine hQ s₁.heap.objs.size _ _ h' s₁.toks ⟨ex, ey⟩ (.inl ⟨_, hp, rfl, _, rfl⟩) ⟨some T', st', fun T q => ?_, p1, p2⟩ fun c o hc e => kp c o (fun q => hc (by simp [q])) (fun q => hc (by simp [q])) (fun q => hc (by simp [q])) (fun q => hc (by simp [q])) e
        cases q
        cases got with
        | none => rw [w1 rfl]; exact ⟨nz, n1, n2, Nat.ne_of_gt hds⟩
        | some T => rw [w2 T rfl]; exact ap T rfl
      done := fun s₁ Q₁ E₁ ⟨got, st, ap, s1, s2⟩ hQ => zip_done hA D I1 I2 st s1 s2 hend fun h' kp => hQ h' s₁.toks fun c o hc e => kp c o (fun q => hc (by simp [q])) (fun q => hc (by simp [q])) (fun q => hc (by simp [q])) (fun q => hc (by simp [q])) e }
end DLZ

set_option maxRecDepth 100000
set_option maxHeartbeats 2000000
/-! DL, dicts with tuple keys made of pairs, of a zip; list(zip(..)). -/
namespace DL
open PySem PySem.Spec L2
/-! ### several new objects at once -/
/-! ### dict(pairs) with tuple keys -/
def mergeT (kvs more : List (List Key × V)) : List (List Key × V) := more.foldl (fun acc kv => putK acc kv.1 kv.2) kvs
/-- pairs of keys and values, with where the keys stand -/
inductive Keyed (H : Hp) : List (List Key × V) → List (List Key × Addr × Value) → Prop where
  | nil : Keyed H [] []
  | cons {k : List Key} {v : V} {b : Addr} {u : Value} {kvs : List (List Key × V)} {ps : List (List Key × Addr × Value)} : H b = some (.tup (k.map kV)) → RelV v u → Keyed H kvs ps → Keyed H ((k, v) :: kvs) ((k, b, u) :: ps)
theorem Keyed.merge {H : Hp} {kvs : List (List Key × V)} {ps : List (List Key × Addr × Value)} (h : Keyed H kvs ps) : ∀ {acc : List (List Key × V)} {xs : List (List Key × Addr × Value)}, KT H acc xs → KT H (mergeT acc kvs) (storedAllH xs ps) := by
  induction h with
  | nil => intro acc xs r; exact r
  | cons h1 h2 _ ih => intro acc xs r; exact ih (r.put _ h1 h2)
theorem Keyed.length {H : Hp} {kvs : List (List Key × V)} {ps : List (List Key × Addr × Value)} (h : Keyed H kvs ps) : kvs.length = ps.length := by
  induction h with
  | nil => rfl
  | cons _ _ _ ih => rw [List.length_cons, List.length_cons, ih]
theorem Keyed.mem {H : Hp} {kvs : List (List Key × V)} {ps : List (List Key × Addr × Value)} (h : Keyed H kvs ps) : ∀ x ∈ ps, H x.2.1 = some (.tup (x.1.map kV)) := by
  induction h with
  | nil => intro x hx; cases hx
  | cons h1 _ _ ih =>
    intro x hx
    rcases List.mem_cons.mp hx with rfl | hx
    · exact h1
    · exact ih x hx
theorem length_mergeT : ∀ (more kvs : List (List Key × V)), (mergeT kvs more).length ≤ kvs.length + more.length
  | [], kvs => Nat.le_add_right _ _
  | p :: r, kvs => by
    have h1 := length_mergeT r (putK kvs p.1 p.2)
    have h2 := length_putK kvs p.1 p.2
    show (mergeT (putK kvs p.1 p.2) r).length ≤ _
    rw [List.length_cons]; omega
section
variable {X : Cx} {pins : List (Addr × Obj)} {σ : L2.St} {H : Hp} {s : Shared}
/-- the pairs of a list -/
inductive PairL (K : PySem.W.Frag) (H : Hp) : List Addr → List (List Key × V) → Prop where
  | nil : PairL K H [] []
  | cons {p b : Addr} {k : List Key} {v : V} {ps : List Addr} {kvs : List (List Key × V)} : SqT K H p [.ref b, v] → H b = some (.tup (k.map kV)) → PairL K H ps kvs → PairL K H (p :: ps) ((k, v) :: kvs)
end
/-! over trees -/
def mergeDT (kds more : List (List Key × D)) : List (List Key × D) := more.foldl (fun acc kd => putD acc kd.1 kd.2) kds
theorem PR.mergeT {K : PySem.W.Frag} {F : Hp} {ms : List (List Key × D)} {mv : List (List Key × V)} (h : PR K F ms mv) : ∀ {ds : List (List Key × D)} {vs : List (List Key × V)}, PR K F ds vs → PR K F (mergeDT ds ms) (DL.mergeT vs mv) := by
  induction h with
  | nil => intro ds vs h; exact h
  | cons h1 _ ih => intro ds vs h; exact ih (h.put _ h1)
/-! ### list(zip(l, t)), dict(zip(l, t)) -/
section
variable {X : Cx} {e1 e2 : Expr} {t : TA} {p p2 q pos : Pos}
/-- the two things that are zipped -/
def Zs (K : PySem.W.Frag) (H : Hp) (vs : List V) (a b : Addr) (xs ys : List V) : Prop := vs = [.ref a, .ref b] ∧ SqL K H a xs ∧ SqT K H b ys ∧ xs.length = ys.length
theorem run_zip {pins : List (Addr × Obj)} {σ : L2.St} {H : Hp} {s : Shared} {vs : List V} {us : List Value} {a b : Addr} {xs ys : List V} {Q : Value → Shared → Prop} (I : Inv X pins σ H s) (r : Vals vs us) (z : Zs X.K H vs a b xs ys)
    (h : ∀ (h' : Heap) (its its2 : List Value) (n : Nat), n = s.heap.objs.size → Vals xs its → Vals ys its2 → xs.length ≤ sizeLine → DLZ.ZipSt h' (n + 4) (n + 2) (n + 3) n (n + 1) none → (h'.IsListIter n a 0 ∧ h'.IsList a its.toArray) → (h'.IsTupleIter (n + 1) b 0 ∧ h'.IsTuple b its2.toArray) → a < n → b < n → h'.objs.size = n + 5 → (∀ c o, s.heap.get? c = some o → h'.get? c = some o) → Q (.ref (n + 4)) { s with heap := h' }) :
    wpAny (model X.prog X.w) X.A (call (.type "zip") us) Q X.xe s := by
  obtain ⟨rfl, hx, hy, hl⟩ := z
  obtain ⟨u1, u2, rfl, r1, r2⟩ := vals2 r
  cases r1
  cases r2
  obtain ⟨its, rv, p1, z1⟩ := I.list hx
  obtain ⟨its2, rv2, p2, _⟩ := I.tuple hy
  obtain ⟨o2, ho2, _⟩ := id p2
  refine DLZ.call_zipLT p1.isList (show s.heap.IsTuple b its2.toArray from p2) fun h' n hn hz hTI hTO h1 h2 sz kp => ?_
  refine h h' its its2 n hn rv rv2 z1 ⟨hTI, hz, _, _, hTO⟩ ⟨h1, p1.isList.at fun o e => kp _ _ e⟩ ⟨h2, (show s.heap.IsTuple b its2.toArray from p2).at fun o e => kp _ _ e⟩ ?_ ?_ sz kp
  · rw [hn]; exact p1.lt
  · rw [hn]; exact Heap.lt_size ho2
end
/-! over trees -/
section
variable {X : Cx} {W : WX} {e1 e2 : Expr} {t : DTA} {p p2 q pos : Pos}
theorem tup_inv {K : PySem.W.Frag} {F : Hp} {ds : List D} {w : V} (h : IsV K F (.tup ds) w) : ∃ b ws, w = .ref b ∧ F b = some (.tup ws) ∧ IsVs K F ds ws := by
  cases h with
  | tup h1 h2 => exact ⟨_, _, rfl, h1, h2⟩
theorem pr_zip {K : PySem.W.Frag} {F : Hp} {κ : Type} : ∀ {ks : List κ} {ds : List D} {vs : List V}, IsVs K F ds vs → PR K F (ks.zip ds) (ks.zip vs)
  | [], _, _, _ => .nil
  | _ :: _, _, _, .nil => .nil
  | k :: ks, _, _, .cons h t => .cons h (pr_zip t)
end
end DL

set_option maxRecDepth 100000
set_option maxHeartbeats 2000000
/-! DLS: sets of keys of any kind that the scan may look at (texts above all): made of a tuple or a list, gathered, sorted. -/
namespace DLS
open PySem PySem.Spec PyProof.Rows L2
/-- keys can be read off the values -/
structure Dec {P : Program} {w : World} {κ : Type} [DecidableEq κ] (knd : PySem.KeyKind P w κ) (dec : Value → κ) : Prop where
  eq : ∀ k v, knd.is k v = true → dec v = k
  scan : ∀ k v, knd.is k v = true → v.scannable = true
def insK {κ : Type} [DecidableEq κ] (ks : List κ) (k : κ) : List κ := if k ∈ ks then ks else k :: ks
section
variable {P : Program} {w : World} {κ : Type} [DecidableEq κ] {knd : PySem.KeyKind P w κ} {dec : Value → κ}
def OkE (knd : PySem.KeyKind P w κ) (dec : Value → κ) (q : Int × Value) : Prop := knd.is (dec q.2) q.2 = true ∧ q.1 = knd.hash (dec q.2)
/-- the set at a holds the keys ks, each once -/
def SetV (knd : PySem.KeyKind P w κ) (dec : Value → κ) (h : Heap) (a : Addr) (ks : List κ) : Prop :=
  ∃ ob es ep tb, h.get? a = some ob ∧ ob.ExactSet ∧ ob.data = .set es ep tb ∧ (∀ q ∈ es.toList, OkE knd dec q) ∧ (es.toList.map fun q => dec q.2).Perm ks ∧ ks.Nodup ∧
    es.size < scanBound ∧ tb.fits es.size = true ∧ Ris tb.place.toList ∧ (w.params.followText "set-order" = true ∨ tb.led = true)
theorem SetV.at {h h' : Heap} {a : Addr} {ks : List κ} (R : SetV knd dec h a ks) (k : ∀ o, h.get? a = some o → h'.get? a = some o) : SetV knd dec h' a ks := by
  obtain ⟨ob, es, ep, tb, e, r⟩ := R
  exact ⟨ob, es, ep, tb, k ob e, r⟩
theorem okE_elems (D : Dec knd dec) {l : List (Int × Value)} (g : ∀ q ∈ l, OkE knd dec q) : ElemsOf knd l := fun q hq => ⟨⟨_, g q hq⟩, D.scan _ _ (g q hq).1⟩
theorem okE_is (D : Dec knd dec) {q : Int × Value} (g : OkE knd dec q) (k : κ) : knd.is k q.2 = true ↔ dec q.2 = k := ⟨fun h => D.eq k _ h, fun h => h ▸ g.1⟩
theorem ins_perm {ks ls : List κ} {k : κ} (p : ks.Perm ls) (hn : k ∉ ks) : (k :: ks).Perm (insK ls k) := by
  unfold insK
  rw [if_neg fun z => hn (p.mem_iff.mpr z)]
  exact p.cons k
theorem ins_nodup {ks : List κ} {k : κ} (h : ks.Nodup) : (insK ks k).Nodup := by
  unfold insK
  split
  · exact h
  · rename_i z
    exact List.nodup_cons.mpr ⟨z, h⟩
theorem ins_length {ks : List κ} {k : κ} : (insK ks k).length ≤ ks.length + 1 := by
  unfold insK
  split
  · exact Nat.le_succ _
  · exact Nat.le_refl _
theorem ins_mem {ks : List κ} {k j : κ} : j ∈ insK ks k ↔ j = k ∨ j ∈ ks := by
  unfold insK
  split
  · rename_i z
    exact ⟨.inr, fun h => h.elim (fun e => e ▸ z) id⟩
  · exact List.mem_cons
variable {A : Around} {E : Value → Shared → Prop} {s : Shared} {a : Addr}
/-- what is stored behind a new key -/
theorem put_tail {g : Bool → Sem Unit} (gok : ∀ (b : Bool) (z : Shared) (Q' : Unit → Shared → Prop), Q' () z → wpAny (model P w) A (g b) Q' E z)
    {ob : Obj} {es : Array (Int × Value)} {ep : Nat} {tb : SetTable} (at_ : s.heap.get? a = some ob) (ex : ob.ExactSet) (dt : ob.data = .set es ep tb)
    {es1 : Array (Int × Value)} {t2 : SetTable} {ks : List κ} (g1 : ∀ q ∈ es1.toList, OkE knd dec q) (pm1 : (es1.toList.map fun q => dec q.2).Perm ks) (nd1 : ks.Nodup)
    (b1 : es1.size < scanBound) (f1 : t2.fits es1.size = true) (r1 : Ris t2.place.toList) (l1 : w.params.followText "set-order" = true ∨ t2.led = true) {wasDummy : Bool} {R : Option Bool → Shared → Prop}
    (fin : ∀ h', Heap.SameBut a s.heap h' → SetV knd dec h' a ks → R (some true) { s with heap := h' }) :
    wpAny (model P w) A (do
        storeSet a es1 t2
        if (!wasDummy && t2.tooFull) = true then do
            g (relayAll t2 es1 (SetTable.grown es1.size)).2.2
            storeSet a (relayAll t2 es1 (SetTable.grown es1.size)).1 (relayAll t2 es1 (SetTable.grown es1.size)).2.1
            pure (some true)
          else pure (some true)) R E s := by
  refine wpAny_bind (wpAny_storeSet_of at_ dt ?_ (fits_of_scanBound b1))
  have now1 := store_at (es' := es1) (t' := t2) at_ dt
  have only := Heap.SameBut.update s.heap a (Obj.putSet es1 t2)
  split
  · have pmA := relayAll_perm t2 es1 (SetTable.grown es1.size)
    have fA := relayAll_fits t2 es1 (SetTable.grown es1.size)
    have rA := relayAll_ris t2 es1 (SetTable.grown es1.size)
    have lA := relayAll_led t2 es1 (SetTable.grown es1.size)
    generalize relayAll t2 es1 (SetTable.grown es1.size) = Y at pmA fA rA lA ⊢
    obtain ⟨es2, t3, way⟩ := Y
    dsimp only at pmA fA rA lA ⊢
    have sz : es2.size = es1.size := by rw [← Array.length_toList, pmA.length_eq, Array.length_toList]
    have b2 : es2.size < scanBound := sz ▸ b1
    refine wpAny_bind (gok _ _ _ ?_)
    refine wpAny_bind (wpAny_storeSet_of now1 rfl ?_ (fits_of_scanBound b2))
    have now2 := store_at (es' := es2) (t' := t3) now1 rfl
    exact wpAny_pure (fin _ (only.trans (Heap.SameBut.update _ a _)) ⟨_, es2, _, t3, now2, ex, rfl, fun q hq => g1 q (pmA.mem_iff.mp hq), (pmA.map _).trans pm1, nd1, b2, fA, rA,
      l1.imp id fun z => lA.trans z⟩)
  · exact wpAny_pure (fin _ only ⟨_, es1, _, t2, now1, ex, rfl, g1, pm1, nd1, b1, f1, r1, l1⟩)
theorem add_key (D : Dec knd dec) {k : κ} {x : Value} {ks : List κ} {Q : Bool → Shared → Prop} (hx : knd.is k x = true) (R : SetV knd dec s.heap a ks) (room : ks.length + 1 < scanBound)
    (fin : ∀ h' b, Heap.SameBut a s.heap h' → SetV knd dec h' a (insK ks k) → Q b { s with heap := h' }) :
    wpAny (model P w) A (setAddHashed a x (knd.hash k)) Q E s := by
  obtain ⟨ob, es, ep, tb, at_, ex, dt, g, pm, nd, hb, hf, hr, hl⟩ := R
  have sc := D.scan _ _ hx
  have el : ElemsOf knd es.toList := okE_elems D g
  unfold setAddHashed setAddHashedIn
  refine wpAny_holding (wpAny_bind (wpAny_setState_of at_ dt hf ?_))
  dsimp only
  rw [byScan_of sc hb el]
  simp only [↓reduceIte]
  unfold setAddByScan
  refine wpAny_bind (wpAny_bind (wpAny_rule (wpAny_bind (wpAny_setScan_of hx at_ dt hf el ?_))))
  cases fi : List.findIdx? (fun q => knd.is k q.2) es.toList with
  | some j =>
    dsimp only
    obtain ⟨j1, j2, _⟩ := List.findIdx?_eq_some_iff_getElem.mp fi
    have mk : k ∈ ks := pm.mem_iff.mp (List.mem_map.mpr ⟨es.toList[j], List.getElem_mem j1, D.eq _ _ j2⟩)
    refine wpAny_pure (wpAny_pure ?_)
    have z := fin s.heap false (Heap.SameBut.refl a s.heap) ⟨ob, es, ep, tb, at_, ex, dt, g, by unfold insK; rw [if_pos mk]; exact pm, ins_nodup nd, hb, hf, hr, hl⟩
    exact z
  | none =>
    dsimp only
    have fresh : k ∉ es.toList.map fun q => dec q.2 := fun z => by
      obtain ⟨q, hq, e⟩ := List.mem_map.mp z
      have c := List.findIdx?_eq_none_iff.mp fi q hq
      rw [(okE_is D (g q hq) k).2 e] at c
      cases c
    have told : ∀ (b : Bool) {z : Shared} {Q' : Unit → Shared → Prop}, Q' () z → wpAny (model P w) A (match b with | true => rule "set.scan.the-table-gave-way" | false => pure ()) Q' E z :=
      fun b z Q' q => by cases b <;> first | exact wpAny_pure q | exact wpAny_rule q
    have pmL := layNew_perm tb es (knd.hash k) x
    have fL := layNew_fits tb es (knd.hash k) x
    have rL := layNew_ris tb es (knd.hash k) x hr
    have lL := layNew_led tb es (knd.hash k) x
    generalize layNew tb es (knd.hash k) x = Y at pmL fL rL lL ⊢
    obtain ⟨es1, t1, wasDummy, way⟩ := Y
    dsimp only at pmL fL rL lL ⊢
    rw [Array.toList_push] at pmL
    have pc : es1.toList.Perm ((knd.hash k, x) :: es.toList) := pmL.trans (List.perm_append_singleton _ _)
    have dx : dec x = k := D.eq _ _ hx
    have pk : (es1.toList.map fun q => dec q.2).Perm (insK ks k) := by
      have z := pc.map fun q => dec q.2
      rw [List.map_cons] at z
      dsimp only at z
      rw [dx] at z
      exact z.trans (ins_perm pm fresh)
    have g1 : ∀ q ∈ es1.toList, OkE knd dec q := fun q hq => by
      rcases List.mem_cons.mp (pc.mem_iff.mp hq) with z | z
      · rw [z]
        exact ⟨by rw [dx]; exact hx, by rw [dx]⟩
      · exact g q z
    have b1 : es1.size < scanBound := by
      have z : es1.size = ks.length + 1 := by rw [← Array.length_toList, pc.length_eq, List.length_cons, ← pm.length_eq, List.length_map]
      rw [z]; exact room
    have led : w.params.followText "set-order" = true ∨ t1.led = true := hl.imp id fun z => lL.trans z
    refine wpAny_bind (told _ ?_)
    split
    · refine wpAny_bind ?_
      rw [hashByValue_scannable 8 sc]
      refine wpAny_pure ?_
      refine put_tail (knd := knd) (dec := dec) ?_ at_ ex dt g1 pk (ins_nodup nd) b1 ?_ ?_ ?_ ?_
      · intro b z Q' q; cases b <;> first | exact wpAny_pure q | exact wpAny_rule q
      · first | (split <;> first | exact fL | exact SetTable.fits_plain_off fL) | exact fL
      · first | (split <;> exact rL) | exact rL
      · first | (split <;> exact led) | exact led
      · intro h' sb r; dsimp only; exact wpAny_pure (fin h' true sb r)
    · refine wpAny_bind (wpAny_pure ?_)
      simp only [↓reduceIte]
      refine put_tail (knd := knd) (dec := dec) ?_ at_ ex dt g1 pk (ins_nodup nd) b1 fL rL led ?_
      · intro b z Q' q; cases b <;> first | exact wpAny_pure q | exact wpAny_rule q
      · intro h' sb r; dsimp only; exact wpAny_pure (fin h' true sb r)
end

section
variable {P : Program} {w : World} {κ : Type} [DecidableEq κ] {knd : PySem.KeyKind P w κ} {dec : Value → κ} {A : Around} {E : Value → Shared → Prop} {s : Shared}
/-- the keys that are there behind the first i -/
def insAll (ks : List κ) : List κ → List κ
  | [] => ks
  | k :: r => insAll (insK ks k) r
theorem insAll_snoc (k : κ) : ∀ (r ks : List κ), insAll ks (r ++ [k]) = insK (insAll ks r) k
  | [], _ => rfl
  | _ :: r, ks => insAll_snoc k r _
theorem insAll_mem {j : κ} : ∀ {r ks : List κ}, j ∈ insAll ks r ↔ j ∈ ks ∨ j ∈ r
  | [], _ => ⟨.inl, fun h => h.elim id fun z => by cases z⟩
  | k :: r, ks => by
    show j ∈ insAll (insK ks k) r ↔ _
    rw [insAll_mem, ins_mem, List.mem_cons]
    constructor
    · rintro ((h | h) | h)
      · exact .inr (.inl h)
      · exact .inl h
      · exact .inr (.inr h)
    · rintro (h | h | h)
      · exact .inl (.inr h)
      · exact .inl (.inl h)
      · exact .inr h
theorem insAll_nodup : ∀ {r ks : List κ}, ks.Nodup → (insAll ks r).Nodup
  | [], _, h => h
  | _ :: r, _, h => insAll_nodup (r := r) (ins_nodup h)
theorem insAll_length : ∀ {r ks : List κ}, (insAll ks r).length ≤ ks.length + r.length
  | [], _ => Nat.le_refl _
  | k :: r, ks => by
    have a := insAll_length (r := r) (ks := insK ks k)
    have b := ins_length (ks := ks) (k := k)
    show (insAll (insK ks k) r).length ≤ _
    rw [List.length_cons]
    omega
theorem take_succ_at {α : Type} {l : List α} {i : Nat} {x : α} (h : l[i]? = some x) : l.take (i + 1) = l.take i ++ [x] := by
  rw [List.take_add_one, h]
  rfl
/-- the loop that fills a set -/
theorem fill_loop (D : Dec knd dec) {I : Addr} {fp wr : List Addr} {G : Array GenState → Array GenState → Prop} {n : Nat} {Pv : Nat → Value → Prop} {St : Nat → Shared → Prop} {R : Result → Shared → Prop}
    (W : WalksS P w A.in1 I fp wr G n Pv St) (T : Addr) (off : T ∉ fp) (ks : List κ) (hn : n = ks.length) (few : ks.length + 1 < scanBound) (val : ∀ i v, Pv i v → ∃ k, ks[i]? = some k ∧ knd.is k v = true) :
    ∀ (m i : Nat) (s : Shared), n - i = m → i ≤ n → St i s → SetV knd dec s.heap T (insAll [] (ks.take i)) →
      (∀ s', Moved (T :: wr) G s s' → SetV knd dec s'.heap T (insAll [] ks) → R (.ok (.ret .none)) s') →
      codeAny (model P w) A (.builtin "set.update.loop" ⟨[.ref T, .ref I], []⟩) R s := by
  have offw : T ∉ wr := fun h => off (W.sub _ h)
  have wider : ∀ b ∈ wr, b ∈ T :: wr := fun b hb => List.mem_cons_of_mem _ hb
  intro m
  induction m with
  | zero =>
    intro i s em hi st now fin
    have z : i = n := by omega
    subst z
    refine codeAny_builtin F.entry_set_update_loop ?_
    rw [Around.under_plainId F.plain_set_update_loop _]
    show wpAny _ A.in1 (pyNext (.ref I) >>= _) _ _ s
    refine wpAny_bind (W.done s _ _ st fun s' mv => ?_)
    show wpAny _ A.in1 (ret Value.none) _ _ s'
    rw [List.take_of_length_le (by omega)] at now
    exact wpAny_pure (fin s' (mv.mono wider) (now.at fun o e => mv.heap T o offw e))
  | succ m ih =>
    intro i s em hi st now fin
    have lt : i < n := by omega
    refine codeAny_builtin F.entry_set_update_loop ?_
    rw [Around.under_plainId F.plain_set_update_loop _]
    show wpAny _ A.in1 (pyNext (.ref I) >>= _) _ _ s
    refine wpAny_bind (W.item i s _ _ lt st fun v s' hv st' mv => ?_)
    obtain ⟨k, hk, hx⟩ := val i v hv
    have now' : SetV knd dec s'.heap T (insAll [] (ks.take i)) := now.at fun o e => mv.heap T o offw e
    show wpAny _ A.in1 (holding [v] (setAdd T v) >>= _) _ _ s'
    refine wpAny_bind (wpAny_holding ?_)
    unfold setAdd
    refine wpAny_holding (wpAny_bind (knd.pyHash (k := k) hx ?_))
    have cnt := insAll_length (r := ks.take i) (ks := ([] : List κ))
    rw [List.length_take, List.length_nil] at cnt
    refine add_key D (s := { s' with toks := s'.toks + 1 }) hx now' (by omega) fun h' b only made => ?_
    rw [← insAll_snoc, ← take_succ_at hk] at made
    refine wpAny_pure ⟨plainId_quiet F.plain_set_update_loop _, ih (i + 1) _ (by omega) lt (W.frame _ s' _ _ st' (Nat.le_succ _) fun b hb o e => ?_) made fun s'' mv2 made2 => ?_⟩
    · rw [only.2 b fun z : b = T => off (z ▸ hb)]; exact e
    · refine fin s'' (Moved.trans W.gtrans ((mv.mono wider).then_heap (Nat.le_succ _) fun b o hb e => ?_) mv2) made2
      rw [only.2 b fun z : b = T => hb (z ▸ List.mem_cons_self)]; exact e
theorem setV_new {h : Heap} {a : Addr} (e : h.get? a = some { cls := .type "set", dict := none, data := .set #[] 0 (.fresh 0 0 (!w.params.followText "set-order")) }) : SetV knd dec h a [] :=
  ⟨_, #[], 0, _, e, ⟨rfl, rfl, rfl⟩, rfl, (fun q hq => by simp at hq), (by simp), List.nodup_nil, (by decide), (by rfl), List.Pairwise.nil, by
    show _ ∨ (!w.params.followText "set-order") = true
    cases w.params.followText "set-order"
    · exact .inr rfl
    · exact .inl rfl⟩
end
section
variable {P : Program} {w : World} {κ : Type} [DecidableEq κ] {knd : PySem.KeyKind P w κ} {dec : Value → κ} {A : Around} {E : Value → Shared → Prop} {s : Shared}
abbrev newSet (w : World) : Obj := { cls := .type "set", dict := none, data := .set #[] 0 (.fresh 0 0 (!w.params.followText "set-order")) }

set_option maxHeartbeats 4000000 in
theorem set_of_tuple (D : Dec knd dec) {l : Addr} {its : Array Value} {ks : List κ} {Q : Value → Shared → Prop} (calm : A.handled = none) (src : s.heap.IsTuple l its) (sz : its.size = ks.length) (val : ∀ (i : Nat) (v : Value), its[i]? = some v → ∃ k, ks[i]? = some k ∧ knd.is k v = true)
    (few : ks.length + 1 < scanBound) (fin : ∀ (h' : Heap) (tk : Nat), SetV knd dec h' s.heap.objs.size (insAll [] ks) → (∀ b o, s.heap.get? b = some o → h'.get? b = some o) → Q (.ref s.heap.objs.size) { s with heap := h', toks := tk }) :
    wpAny (model P w) A (call (.type "set") [.ref l]) Q E s := by
  obtain ⟨c0, tl0, mro0⟩ := F.called_set.mro
  have made0 := F.called_set.made
  have sub0 := F.called_set.sub
  refine wpAny_call (codeAny_of_tree ?_)
  show wpAny _ _ (callAny (.type "set") _) _ _ _
  refine wpAny_pure ⟨Code.quiet_builtin _ (by decide +kernel), codeAny_builtin F.entry_type_call ?_⟩
  rw [Around.under_plain (weight_type_call_type "set" [.ref l] []) rfl]
  have nt0 := F.called_set.notType
  have cc0 := F.called_set.canCreate
  have ct0 := F.typeCall_set_1 (.ref l)
  repeat (any_goals (first | assumption | wp_step))
  refine codeAny_mono (code_set_led1 (.ref l) (E := E) (Q₁ := fun ob z => ob = .ref s.heap.objs.size ∧ z = { s with heap := s.heap.push (newSet w) }) ⟨rfl, rfl⟩) fun r z hr => ?_
  cases r with
  | error e => exact hr
  | ok fl =>
    cases fl with
    | ret ob =>
      obtain ⟨rfl, rfl⟩ := hr
      have atS : (s.heap.push (newSet w)).get? s.heap.objs.size = some (newSet w) := Heap.get?_push_size _ rfl
      have tyS : Shared.TypeIs { s with heap := s.heap.push (newSet w) } (.ref s.heap.objs.size) "set" := ⟨_, atS, rfl⟩
      have li0 := F.called_set.init.lookup
      have bi0 := F.called_set.init.bind (.ref s.heap.objs.size)
      repeat (any_goals (first | assumption | wp_step))
      refine codeAny_mono (codeAny_call_builtin (R := wants (fun r z => r = .none ∧ ∃ h' tk, z = { s with heap := h', toks := tk } ∧ SetV knd dec h' s.heap.objs.size (insAll [] ks) ∧
          ∀ b o, s.heap.get? b = some o → h'.get? b = some o) E) F.called_set.init.plain F.entry_set_init (check_set_init_1 tyS ?_)) fun r2 z2 hr2 => ?_
      · obtain ⟨ol, atl, cl, nl, dl⟩ := src
        obtain ⟨oc, od, ob, os⟩ := ol
        simp only at cl dl
        subst cl; subst dl
        have atl2 : (s.heap.push (newSet w)).get? l = some { cls := .type "tuple", dict := od, data := .seq its nl, slots := os } := Heap.get?_push_of_some _ atl
        have no1 := F.sub_tuple_set
        have no2 := F.sub_tuple_frozenset
        have no3 : (Value.type "tuple" == Value.type "dict") = false := by decide
        have isl : (s.heap.push (newSet w)).IsTuple l its := ⟨_, atl2, rfl, nl, rfl⟩
        unfold Builtin.«set.__init__» noKeywords Builtin.Frozenset.updateFrom
        generalize hPI : pyIter = PI
        wp_walk
        subst hPI
        refine wpAny_pyIter_tuple isl ?_
        refine wpAny_bind (wpAny_runValue ?_)
        have ltl : l < s.heap.objs.size := Heap.lt_size atl
        have calm3 : A.in1.in1.in1.handled = none := by simp [calm]
        have size1 : (s.heap.push (newSet w)).objs.size = s.heap.objs.size + 1 := Heap.size_push ..
        have lneI : l ≠ (s.heap.push (newSet w)).objs.size := by
          rw [size1]; exact Nat.ne_of_lt (Nat.lt_succ_of_lt ltl)
        have offS : s.heap.objs.size ∉ [(s.heap.push (newSet w)).objs.size, l] := fun z => by
          rw [size1] at z
          rcases List.mem_cons.mp z with z | z
          · exact absurd z (Nat.ne_of_lt (Nat.lt_succ_self _))
          · exact absurd (List.mem_singleton.mp z) (Nat.ne_of_gt ltl)
        refine fill_loop D ((Walks.tuple calm3 _ l lneI its).toS) s.heap.objs.size offS ks sz few val (its.size - 0) 0 _ (by omega) (Nat.zero_le _)
          ⟨⟨_, Heap.get?_push_size _ rfl, rfl, rfl⟩, isl.push _⟩ (setV_new (Heap.get?_push_of_some _ atS)) fun z mv made => ?_
        obtain ⟨h', g2, d2, tk2, os2⟩ := z
        have eg : g2 = s.gens := mv.gens
        have ed : d2 = s.drawn := mv.drawn
        have eo : os2 = s.os := mv.os
        subst eg; subst ed; subst eo
        show wpAny _ _ _ _ _ _
        refine wpAny_pure ?_
        show wpAny _ _ (ret Value.none) _ _ _
        refine wpAny_pure ⟨rfl, h', tk2, rfl, made, fun b o e => ?_⟩
        have lb : b < s.heap.objs.size := Heap.lt_size e
        refine mv.heap b o (fun z => ?_) (Heap.get?_push_of_some _ (Heap.get?_push_of_some _ e))
        rcases List.mem_cons.mp z with z | z
        · exact absurd z (Nat.ne_of_lt lb)
        · have z2 := List.mem_singleton.mp z
          rw [size1] at z2
          exact absurd z2 (Nat.ne_of_lt (Nat.lt_succ_of_lt lb))
      · cases r2 with
        | error e => exact hr2
        | ok fl2 =>
          cases fl2 with
          | ret v2 =>
            obtain ⟨rfl, h', tk, rfl, made, old⟩ := hr2
            repeat (any_goals (first | assumption | wp_step))
            exact fin _ _ made old
          | _ => exact hr2.elim
    | _ => exact hr.elim

set_option maxHeartbeats 4000000 in
theorem set_of_list (D : Dec knd dec) {l : Addr} {its : Array Value} {ks : List κ} {Q : Value → Shared → Prop} (calm : A.handled = none) (src : s.heap.IsList l its) (sz : its.size = ks.length) (val : ∀ (i : Nat) (v : Value), its[i]? = some v → ∃ k, ks[i]? = some k ∧ knd.is k v = true)
    (few : ks.length + 1 < scanBound) (fin : ∀ (h' : Heap) (tk : Nat), SetV knd dec h' s.heap.objs.size (insAll [] ks) → (∀ b o, s.heap.get? b = some o → h'.get? b = some o) → Q (.ref s.heap.objs.size) { s with heap := h', toks := tk }) :
    wpAny (model P w) A (call (.type "set") [.ref l]) Q E s := by
  obtain ⟨c0, tl0, mro0⟩ := F.called_set.mro
  have made0 := F.called_set.made
  have sub0 := F.called_set.sub
  refine wpAny_call (codeAny_of_tree ?_)
  show wpAny _ _ (callAny (.type "set") _) _ _ _
  refine wpAny_pure ⟨Code.quiet_builtin _ (by decide +kernel), codeAny_builtin F.entry_type_call ?_⟩
  rw [Around.under_plain (weight_type_call_type "set" [.ref l] []) rfl]
  have nt0 := F.called_set.notType
  have cc0 := F.called_set.canCreate
  have ct0 := F.typeCall_set_1 (.ref l)
  repeat (any_goals (first | assumption | wp_step))
  refine codeAny_mono (code_set_led1 (.ref l) (E := E) (Q₁ := fun ob z => ob = .ref s.heap.objs.size ∧ z = { s with heap := s.heap.push (newSet w) }) ⟨rfl, rfl⟩) fun r z hr => ?_
  cases r with
  | error e => exact hr
  | ok fl =>
    cases fl with
    | ret ob =>
      obtain ⟨rfl, rfl⟩ := hr
      have atS : (s.heap.push (newSet w)).get? s.heap.objs.size = some (newSet w) := Heap.get?_push_size _ rfl
      have tyS : Shared.TypeIs { s with heap := s.heap.push (newSet w) } (.ref s.heap.objs.size) "set" := ⟨_, atS, rfl⟩
      have li0 := F.called_set.init.lookup
      have bi0 := F.called_set.init.bind (.ref s.heap.objs.size)
      repeat (any_goals (first | assumption | wp_step))
      refine codeAny_mono (codeAny_call_builtin (R := wants (fun r z => r = .none ∧ ∃ h' tk, z = { s with heap := h', toks := tk } ∧ SetV knd dec h' s.heap.objs.size (insAll [] ks) ∧
          ∀ b o, s.heap.get? b = some o → h'.get? b = some o) E) F.called_set.init.plain F.entry_set_init (check_set_init_1 tyS ?_)) fun r2 z2 hr2 => ?_
      · obtain ⟨ol, atl, cl, nl, dl⟩ := src
        obtain ⟨oc, od, ob, os⟩ := ol
        simp only at cl dl
        subst cl; subst dl
        have atl2 : (s.heap.push (newSet w)).get? l = some { cls := .type "list", dict := od, data := .seq its nl, slots := os } := Heap.get?_push_of_some _ atl
        have no1 := F.sub_list_set
        have no2 := F.sub_list_frozenset
        have no3 : (Value.type "list" == Value.type "dict") = false := by decide
        have isl : (s.heap.push (newSet w)).IsList l its := ⟨_, atl2, rfl, nl, rfl⟩
        unfold Builtin.«set.__init__» noKeywords Builtin.Frozenset.updateFrom
        generalize hPI : pyIter = PI
        wp_walk
        subst hPI
        refine wpAny_pyIter_list isl ?_
        refine wpAny_bind (wpAny_runValue ?_)
        have ltl : l < s.heap.objs.size := Heap.lt_size atl
        have calm3 : A.in1.in1.in1.handled = none := by simp [calm]
        have size1 : (s.heap.push (newSet w)).objs.size = s.heap.objs.size + 1 := Heap.size_push ..
        have lneI : l ≠ (s.heap.push (newSet w)).objs.size := by
          rw [size1]; exact Nat.ne_of_lt (Nat.lt_succ_of_lt ltl)
        have offS : s.heap.objs.size ∉ [(s.heap.push (newSet w)).objs.size, l] := fun z => by
          rw [size1] at z
          rcases List.mem_cons.mp z with z | z
          · exact absurd z (Nat.ne_of_lt (Nat.lt_succ_self _))
          · exact absurd (List.mem_singleton.mp z) (Nat.ne_of_gt ltl)
        refine fill_loop D ((Walks.list calm3 _ l lneI its).toS) s.heap.objs.size offS ks sz few val (its.size - 0) 0 _ (by omega) (Nat.zero_le _)
          ⟨⟨_, Heap.get?_push_size _ rfl, rfl, rfl⟩, isl.push _⟩ (setV_new (Heap.get?_push_of_some _ atS)) fun z mv made => ?_
        obtain ⟨h', g2, d2, tk2, os2⟩ := z
        have eg : g2 = s.gens := mv.gens
        have ed : d2 = s.drawn := mv.drawn
        have eo : os2 = s.os := mv.os
        subst eg; subst ed; subst eo
        show wpAny _ _ _ _ _ _
        refine wpAny_pure ?_
        show wpAny _ _ (ret Value.none) _ _ _
        refine wpAny_pure ⟨rfl, h', tk2, rfl, made, fun b o e => ?_⟩
        have lb : b < s.heap.objs.size := Heap.lt_size e
        refine mv.heap b o (fun z => ?_) (Heap.get?_push_of_some _ (Heap.get?_push_of_some _ e))
        rcases List.mem_cons.mp z with z | z
        · exact absurd z (Nat.ne_of_lt lb)
        · have z2 := List.mem_singleton.mp z
          rw [size1] at z2
          exact absurd z2 (Nat.ne_of_lt (Nat.lt_succ_of_lt lb))
      · cases r2 with
        | error e => exact hr2
        | ok fl2 =>
          cases fl2 with
          | ret v2 =>
            obtain ⟨rfl, h', tk, rfl, made, old⟩ := hr2
            repeat (any_goals (first | assumption | wp_step))
            exact fin _ _ made old
          | _ => exact hr2.elim
    | _ => exact hr.elim
end
end DLS

set_option maxRecDepth 100000
set_option maxHeartbeats 2000000
/-! DLT: the order of texts; sorted(set(x)) of texts. -/
namespace DLS
open PySem PySem.Spec PyProof.Rows L2
/-! ### the order of texts -/
abbrev ltC := PySem.Spec.ltCps
theorem ltC_irrefl : ∀ l, ltC l l = false
  | [] => rfl
  | a :: l => by
    show (decide (a < a) || (a == a && ltC l l)) = false
    rw [ltC_irrefl l]
    simp
theorem ltC_cons {a b : Nat} {l m : List Nat} : ltC (a :: l) (b :: m) = true ↔ a < b ∨ (a = b ∧ ltC l m = true) := by
  show (decide (a < b) || (a == b && ltC l m)) = true ↔ _
  simp
theorem ltC_trans : ∀ {l m n : List Nat}, ltC l m = true → ltC m n = true → ltC l n = true
  | _, _ :: _, [], _, h => by cases h
  | _, [], [], _, h => by cases h
  | l, [], _ :: _, h, _ => by cases l <;> cases h
  | [], _ :: _, _ :: _, _, _ => rfl
  | a :: l, b :: m, c :: n, h, g => by
    rw [ltC_cons] at h g ⊢
    rcases h with h | ⟨h, h2⟩
    · rcases g with g | ⟨g, g2⟩
      · exact .inl (Nat.lt_trans h g)
      · exact .inl (g ▸ h)
    · rcases g with g | ⟨g, g2⟩
      · exact .inl (h ▸ g)
      · exact .inr ⟨h.trans g, ltC_trans h2 g2⟩
theorem ltC_total : ∀ {l m : List Nat}, ltC l m = false → ltC m l = false → l = m
  | [], [], _, _ => rfl
  | [], _ :: _, h, _ => by cases h
  | _ :: _, [], _, h => by cases h
  | a :: l, b :: m, h, g => by
    have h1 : ¬ (a < b ∨ (a = b ∧ ltC l m = true)) := fun z => by rw [ltC_cons.mpr z] at h; cases h
    have g1 : ¬ (b < a ∨ (b = a ∧ ltC m l = true)) := fun z => by rw [ltC_cons.mpr z] at g; cases g
    have e : a = b := by omega
    subst e
    have h2 : ltC l m = false := by
      cases q : ltC l m with
      | false => rfl
      | true => exact absurd (.inr ⟨rfl, q⟩) h1
    have g2 : ltC m l = false := by
      cases q : ltC m l with
      | false => rfl
      | true => exact absurd (.inr ⟨rfl, q⟩) g1
    rw [ltC_total h2 g2]
/-- a before b, or the same -/
def leS (a b : Str) : Bool := !ltC b.cps.toList a.cps.toList
theorem leS_total (a b : Str) : leS a b = true ∨ leS b a = true := by
  unfold leS
  cases h : ltC b.cps.toList a.cps.toList with
  | false => exact .inl rfl
  | true =>
    refine .inr ?_
    cases g : ltC a.cps.toList b.cps.toList with
    | false => rfl
    | true =>
      have z := ltC_trans h g
      rw [ltC_irrefl] at z
      cases z
theorem leS_trans {a b c : Str} (h : leS a b = true) (g : leS b c = true) : leS a c = true := by
  unfold leS at *
  cases q : ltC c.cps.toList a.cps.toList with
  | false => rfl
  | true =>
    cases r : ltC a.cps.toList b.cps.toList with
    | true =>
      rw [ltC_trans q r] at g
      cases g
    | false =>
      cases t : ltC b.cps.toList a.cps.toList with
      | true => rw [t] at h; cases h
      | false =>
        rw [ltC_total r t] at q
        rw [q] at g
        cases g
theorem str_ext {a b : Str} (h : a.cps.toList = b.cps.toList) : a = b := by
  cases a
  cases b
  simp only [Str.mk.injEq]
  exact Array.toList_inj.mp h
theorem leS_antisymm {a b : Str} (h : leS a b = true) (g : leS b a = true) : a = b := by
  unfold leS at *
  refine str_ext (ltC_total ?_ ?_)
  · cases q : ltC a.cps.toList b.cps.toList with
    | false => rfl
    | true => rw [q] at g; cases g
  · cases q : ltC b.cps.toList a.cps.toList with
    | false => rfl
    | true => rw [q] at h; cases h
theorem rising_le : ∀ {r : List Str} {x : Str}, risingS x r = true → (∀ y ∈ r, leS x y = true) ∧ r.Pairwise (fun a b => leS a b = true)
  | [], _, _ => ⟨fun y hy => (List.not_mem_nil hy).elim, .nil⟩
  | z :: r, x, h => by
    have h1 : (leS x z && risingS z r) = true := h
    rw [Bool.and_eq_true] at h1
    obtain ⟨a, b⟩ := rising_le h1.2
    refine ⟨fun y hy => ?_, List.pairwise_cons.mpr ⟨a, b⟩⟩
    rcases List.mem_cons.mp hy with rfl | hy
    · exact h1.1
    · exact leS_trans h1.1 (a y hy)
theorem sortedS_pw : ∀ {r : List Str}, sortedS r = true → r.Pairwise (fun a b => leS a b = true)
  | [], _ => .nil
  | _ :: _, h => List.pairwise_cons.mpr (rising_le h)
/-- sorted -/
def sortS (xs : List Str) : List Str := xs.mergeSort leS
theorem sortS_perm (xs : List Str) : (sortS xs).Perm xs := List.mergeSort_perm xs leS
theorem sortS_pw (xs : List Str) : (sortS xs).Pairwise (fun a b => leS a b = true) :=
  List.pairwise_mergeSort (le := leS) (fun a b c h g => leS_trans h g) (fun a b => by rw [Bool.or_eq_true]; exact leS_total a b) xs
theorem pw_unique {α : Type} {le : α → α → Prop} (anti : ∀ a b, le a b → le b a → a = b) {xs ys : List α} (p : xs.Perm ys) (h : xs.Pairwise le) (g : ys.Pairwise le) : xs = ys :=
  List.Perm.eq_of_pairwise (fun a b _ _ h1 h2 => anti a b h1 h2) h g p
theorem sortS_eq {xs ys : List Str} (p : ys.Perm xs) (h : ys.Pairwise (fun a b => leS a b = true)) : ys = sortS xs :=
  pw_unique (fun _ _ h g => leS_antisymm h g) (p.trans (sortS_perm xs).symm) h (sortS_pw xs)
/-- sorted(set(xs)) -/
def uniqS (xs : List Str) : List Str := sortS (insAll [] xs)
theorem uniqS_mem {xs : List Str} {k : Str} : k ∈ uniqS xs ↔ k ∈ xs := by
  unfold uniqS
  rw [(sortS_perm _).mem_iff, insAll_mem]
  exact ⟨fun h => h.elim (fun z => (List.not_mem_nil z).elim) id, .inr⟩
theorem uniqS_nodup (xs : List Str) : (uniqS xs).Nodup := (sortS_perm _).nodup_iff.mpr (insAll_nodup List.nodup_nil)
theorem perm_of_mem {α : Type} [DecidableEq α] {xs ys : List α} (h : xs.Nodup) (g : ys.Nodup) (m : ∀ k, k ∈ xs ↔ k ∈ ys) : xs.Perm ys := (List.perm_ext_iff_of_nodup h g).mpr m
/-- what is ascending and has each once is its own set -/
theorem uniqS_self {xs ys : List Str} (h : ys.Pairwise (fun a b => leS a b = true)) (g : ys.Nodup) (m : ∀ k, k ∈ ys ↔ k ∈ xs) : uniqS xs = ys :=
  (sortS_eq (perm_of_mem g (insAll_nodup List.nodup_nil) fun k => (m k).trans (by
    rw [insAll_mem]
    exact ⟨.inr, fun z => z.elim (fun z => (List.not_mem_nil z).elim) id⟩)) h).symm

/-! ### sorted(set) -/
theorem dec_str {P : Program} {w : World} : Dec (PySem.strKind P w) strOf where
  eq := fun k v h => by
    obtain ⟨t, rfl⟩ := Value.isStrOf_shape h
    rfl
  scan := fun k v h => by
    obtain ⟨t, rfl⟩ := Value.isStrOf_shape h
    rfl
section
variable {P : Program} {w : World} {A : Around} {E : Value → Shared → Prop} {s : Shared} {a : Addr}
theorem sorted_setS {ks : List Str} {Q : Value → Shared → Prop} (R : SetV (PySem.strKind P w) strOf s.heap a ks) (calm : A.handled = none) (few : ks.length < 64)
    (fin : ∀ s' p (out : Array Value) (c : Nat), (∀ b o, s.heap.get? b = some o → s'.heap.get? b = some o) → s'.gens = s.gens → s'.os = s.os → s.heap.objs.size ≤ p →
      s'.heap.get? p = some (seqObj "list" out c) → StrsAre out.toList (sortS ks) → Q (.ref p) s') : wpAny (model P w) A (call (.builtin "sorted") [.ref a]) Q E s := by
  obtain ⟨ob, es, ep, tb, at_, ex, dt, g, pm, nd, hb, hf, hr, hl⟩ := R
  refine Calls.call_function_entry kind_sorted plain_sorted entry_sorted (args_sorted1 _) ?_
  unfold Builtin.«sorted»
  refine wpAny_bind (m := checkCount "sorted" 1 1 _) (wpAny_pure ?_)
  refine wpAny_bind (collect_set (A := A.in1) calm ⟨ob, at_, ex.1, dt⟩ hf hb hr hl fun z vs old size1 g1 o1 pv => ?_)
  have len : vs.length = ks.length := by rw [pv.length_eq, List.length_map, ← pm.length_eq, List.length_map]
  have txt : StrsAre vs (vs.map strOf) := strsAre_map vs fun v hv => by
    obtain ⟨q, hq, e⟩ := List.mem_map.mp (pv.mem_iff.mp hv)
    obtain ⟨t, e2⟩ := Value.isStrOf_shape (show Value.isStrOf (strOf q.2) q.2 = true from (g q hq).1)
    exact ⟨_, t, by rw [← e]; exact e2⟩
  have pk : (vs.map strOf).Perm ks := by
    have z2 := pv.map strOf
    rw [List.map_map] at z2
    exact z2.trans pm
  refine wpAny_bind (wpAny_newList ?_ (by rw [len, sizeLine_eq]; omega))
  have atL : (z.heap.push (seqObj "list" vs.toArray 0)).get? z.heap.objs.size = some (seqObj "list" vs.toArray 0) := Heap.get?_push_size _ rfl
  refine wpAny_bind (wpAny_holding (wpAny_call_entry slot_list_sort ⟨_, atL, rfl⟩ entry_list_sort (list_sort_treeK strKind_oneLt atL txt.keysOf (fun v1 v2 rest e => keyKind_strs (by rw [← e]; exact txt)) (by rw [len]; exact few) fun st' p1 p2 => ⟨_, rfl, ?_⟩) (args_list_sort _)))
  obtain ⟨ss', q1, q2, q3⟩ := sorted_out_str txt p1 p2
  have e : ss' = sortS ks := sortS_eq (q2.trans pk) (sortedS_pw q3)
  subst e
  obtain ⟨c, hc⟩ := sortedHeap_at (vs := vs) (out := (arrOf st').map (·.2)) atL
  refine wpAny_pure ⟨_, rfl, fin _ z.heap.objs.size _ c (fun b u e => ?_) g1 o1 size1 hc q1⟩
  have q := old b u e
  have lt := Heap.lt_size q
  show (sortedHeap (z.heap.push (seqObj "list" vs.toArray 0)) z.heap.objs.size vs ((arrOf st').map (·.2))).get? b = some u
  rw [sortedHeap_old (Nat.ne_of_lt lt) (by rw [size_push']; exact Nat.lt_succ_of_lt lt)]
  exact Heap.get?_push_of_some _ q
end
end DLS

set_option maxRecDepth 100000
set_option maxHeartbeats 2000000
/-! DL12: sorted(set(x)) of texts, over trees. -/
namespace DL
open PySem PySem.Spec L2
section
variable {X : Cx} {W : WX} {e : Expr} {ta : TE} {te : DTE} {p p2 q pos : Pos}
def tSortSet (K : PySem.W.Frag) (ta : TE) : TE := fun σ H Q => ta σ H fun x H1 => ∃ (l : Addr) (ns : List Str), x = V.ref l ∧ (SqT K H1 l (ns.map V.str) ∨ SqL K H1 l (ns.map V.str)) ∧ ns.length < 64 ∧
  ∀ c, H1 c = none → Q (.ref c) (upd H1 c (.lst ((DLS.uniqS ns).map V.str)))
theorem strs_at {us : List Value} {ns : List Str} (h : PyProof.Rows.StrsAre us ns) : us.toArray.size = ns.length ∧ ∀ (i : Nat) (v : Value), us.toArray[i]? = some v → ∃ k, ns[i]? = some k ∧ Value.isStrOf k v = true := by
  refine ⟨by rw [List.size_toArray]; exact h.length, ?_⟩
  induction h with
  | nil => intro i v e; simp at e
  | cons x t h ih =>
    intro i v e
    cases i with
    | zero =>
      have e2 : Value.str x t = v := by simpa using e
      subst e2
      exact ⟨x, rfl, by first | rfl | exact beq_self_eq_true _ | simp [Value.isStrOf]⟩
    | succ i => exact ih i v (by simpa using e)
/-- sorted of a set of texts that nobody else knows -/
theorem run_sortSet {pins : List (Addr × Obj)} {σ : L2.St} {H : Hp} {s s0 : Shared} {a : Addr} {ks : List Str} {Q : VK} (hc : X.calm = true) (I : Inv X pins σ H s) (R : DLS.SetV (PySem.strKind X.prog X.w) PyProof.Rows.strOf s.heap a ks) (few : ks.length < 64)
    (k : ∀ c, H c = none → Q (.ref c) (upd H c (.lst ((DLS.sortS ks).map V.str)))) : wpAny (model X.prog X.w) X.A (call (.builtin "sorted") [.ref a]) (EP X pins σ Q) X.xe s := by
  refine DLS.sorted_setS R (I.ok.hd hc) few fun s' c out n old g o hn at_ txt => ?_
  have len : ((DLS.sortS ks).map V.str).length ≤ sizeLine := by
    rw [List.length_map, (DLS.sortS_perm ks).length_eq, sizeLine_eq]
    omega
  have free : H c = none := I.hok.fresh hn
  have J : Inv X pins σ (upd H c (.lst ((DLS.sortS ks).map V.str))) { s with heap := s'.heap, gens := s'.gens, drawn := s'.drawn, toks := s'.toks } :=
    I.call (ch := []) (Un.laid old hn free) (I.hok.laid old hn ⟨len, out.toList, n, vals_of_strs txt, at_⟩) (by rw [g]; exact I.bare) (fun _ z => nomatch z)
  have e : s' = { s with heap := s'.heap, gens := s'.gens, drawn := s'.drawn, toks := s'.toks } := by
    cases s'
    cases s
    cases o
    rfl
  rw [e]
  exact ⟨.ref c, _, J, rfl, k c free⟩
theorem pe_sortSet (hc : X.calm = true) (hm : X.mg "sorted" = none) (hm2 : X.mg "set" = none) (ha : PE X e ta) (hg : Gl X "sorted" := by rfl) (hg2 : Gl X "set" := by rfl)
    (na : starEach [e] X.env = (false, eval e X.env) :: starEach [] X.env := by rfl) (nb : starEach [.Call (.Name "set" p2) [e] [] q] X.env = (false, eval (.Call (.Name "set" p2) [e] [] q) X.env) :: starEach [] X.env := by rfl) :
    PE X (.Call (.Name "sorted" p) [.Call (.Name "set" p2) [e] [] q] [] pos) (tSortSet X.K ta) := by
  refine ⟨fun pins s σ H Q I h => ?_⟩
  refine PyProof.Rows.Call_ (ld_blt I hg hm PyProof.Rows.boot_sorted ?_)
  refine PyProof.Rows.callWith_builtin1 (PyProof.Rows.args_cons ?_ nb) nb rfl
  refine PyProof.Rows.Call_ (ld_blt I hg2 hm2 PyProof.Rows.boot_set ?_)
  refine PyProof.Rows.callWith_type1 (PyProof.Rows.args_cons (thn (ha.run pins s σ H _ I h) fun v s1 ⟨x, H1, I1, r1, l, ns, ex, sq, few, k⟩ => PyProof.Rows.args_nil ?_) na) na rfl
  subst ex
  cases r1
  have calm := I1.ok.hd hc
  have fits : ns.length + 1 < scanBound := by unfold scanBound; omega
  have few2 : (DLS.insAll [] ns).length < 64 := Nat.lt_of_le_of_lt (by simpa using DLS.insAll_length (r := ns) (ks := ([] : List Str))) few
  have go : ∀ (h' : Heap) (tk : Nat), DLS.SetV (PySem.strKind X.prog X.w) PyProof.Rows.strOf h' s1.heap.objs.size (DLS.insAll [] ns) → (∀ b o, s1.heap.get? b = some o → h'.get? b = some o) →
      wpAny (model X.prog X.w) X.A (call (.builtin "sorted") [.ref s1.heap.objs.size]) (EP X pins σ Q) X.xe { s1 with heap := h', toks := tk } := fun h' tk R old =>
    run_sortSet (s0 := s1) hc (I1.kept old) R few2 k
  rcases sq with sq | sq
  · obtain ⟨its, r, pt, hz⟩ := I1.tuple sq
    obtain ⟨sz, val⟩ := strs_at r.strs
    exact DLS.set_of_tuple DLS.dec_str calm (show s1.heap.IsTuple l its.toArray from pt) sz val fits fun h' tk R old => PyProof.Rows.args_nil (go h' tk R old)
  · obtain ⟨its, r, pl, hz⟩ := I1.list sq
    obtain ⟨sz, val⟩ := strs_at r.strs
    exact DLS.set_of_list DLS.dec_str calm pl.isList sz val fits fun h' tk R old => PyProof.Rows.args_nil (go h' tk R old)
def dSortSet (te : DTE) : DTE := fun ρ S Q E => te ρ S (fun d S1 => ∃ ns : List Str, itemsD S1 d = some (ns.map .str) ∧ ns.length < 64 ∧ Q (.lst ((DLS.uniqS ns).map .str)) S1) E
theorem de_sortSet (hc : X.calm = true) (hm : X.mg "sorted" = none) (hm2 : X.mg "set" = none) (he : DE X W e te) (hg : Gl X "sorted" := by rfl) (hg2 : Gl X "set" := by rfl)
    (na : starEach [e] X.env = (false, eval e X.env) :: starEach [] X.env := by rfl) (nb : starEach [.Call (.Name "set" p2) [e] [] q] X.env = (false, eval (.Call (.Name "set" p2) [e] [] q) X.env) :: starEach [] X.env := by rfl) :
    DE X W (.Call (.Name "sorted" p) [.Call (.Name "set" p2) [e] [] q] [] pos) (dSortSet te) :=
  de_pe (pe_sortSet hc hm hm2 he.pe hg hg2 na nb) fun σ H P ⟨ρ, S, F, Z, Q, E, R, V, q, k, x⟩ => ⟨ρ, S, F, Z, _, E, R, V, q, fun v H1 ⟨d, S1, F1, A1, i1, ns, hd, few, q1⟩ => by
    obtain ⟨l, vs, rfl, sq, iv⟩ := items_of A1.rel i1 hd
    rw [isVs_strs_inv iv] at sq
    refine ⟨l, ns, rfl, sq.symm, few, fun c hcn => ?_⟩
    obtain ⟨R2, s2, k2⟩ := A1.rel.laid (o := .lst ((DLS.uniqS ns).map L2.V.str)) hcn
    exact k _ _ ⟨_, S1, _, A1.trans ⟨s2, R2, k2⟩, .lst upd_same (isVs_strs _), q1⟩, x⟩
end
end DL

set_option maxRecDepth 100000
set_option maxHeartbeats 2000000
/-! DLC, library level: != by the own ==; the call's node where the callee is an instance. -/
namespace DLC
open PySem PySem.Spec PyProof.Rows L2
section
variable {P : Program} {w : World} {A : Around} {E : Value → Shared → Prop} {s : Shared} {K : PySem.W.Frag} {x y C f : Addr} {ox oy : Obj} {od oe : Option Obj}
theorem objNe_own {v2 : Value} {Q : Fin → Shared → Prop} (X : K.In s.heap) (J : PySem.W.InstAt s.heap x ox C od) (at_ : PySem.W.findIn K (.ref C) "__eq__" = some (some (.ref f))) (fn : PySem.W.isFn K (.ref f) = true) (hu : A.units < cLine)
    (go : wpAny (model P w) A (call (.ref f) [.ref x, v2]) (fun v s' => ∃ k, v = .bool k ∧ Q (.done (.ret (.bool (!k)))) s') E s) : wpAny (model P w) A (Builtin.«object.__ne__» ⟨[.ref x, v2], []⟩) Q E s := by
  unfold Builtin.«object.__ne__»
  repeat (first
    | with_reducible refine wpAny_cRoomFor hu ?_
    | (refine wpAny_bind (m := callSpecialIfBound? (.ref x) (Str.ofString "__eq__") [v2])
        (PySem.W.ifBound_K (name := "__eq__") X J at_ fn (wpAny_mono go (fun r s' hr => by
          obtain ⟨k, rfl, hq⟩ := hr
          repeat (first | exact hq | exact wpAny_pure hq | exact wpAny_truthy_bool hq | (refine wpAny_bind (m := truthy (.bool _)) (wpAny_truthy_bool ?_)) | wp_step)) fun _ _ e => e)))
    | wp_step)
theorem try_ne {v2 : Value} {Q : Option Value → Shared → Prop} (X : K.In s.heap) (J : PySem.W.InstAt s.heap x ox C od) (at_ : PySem.W.findIn K (.ref C) "__eq__" = some (some (.ref f))) (fn : PySem.W.isFn K (.ref f) = true)
    (ne_ : PySem.W.findIn K (.ref C) "__ne__" = some (some (.builtin "object.__ne__"))) (mro : PySem.W.mroIn K C (.type "object") = some true) (hu : A.units + 1 < cLine)
    (go : wpAny (model P w) A.in1 (call (.ref f) [.ref x, v2]) (fun v s' => ∃ k, v = .bool k ∧ Q (some (.bool (!k))) s') E s) : wpAny (model P w) A (tryCompare (.ref x) "__ne__" v2) Q E s := by
  unfold tryCompare
  refine wpAny_bind ?_
  simp only [callSpecialIfBound?, bindSpecialIfBound?]
  refine wpAny_holding (wpAny_bind (wpAny_bind (wpAny_bind (J.type.here ((PySem.W.looks_findIn X ne_).here ?_)))))
  refine wpAny_bind (wpAny_askSetting (wpAny_ite ?_))
  have one : wpAny (model P w) A (call (.builtin "object.__ne__") [.ref x, v2]) (fun v s' => ∃ k, v = .bool k ∧ Q (some (.bool k)) s') E s := by
    refine wpAny_call (codeAny_call_builtin F.cmp_object.ne.plain F.cmpEntry_ne (PySem.W.check_slot F.cmpKind_ne F.cmpSplit_ne (J.type.andThen (PySem.W.looks_mroIn X mro)) (F.cmpArgs_ne _ _) (objNe_own (A := A.in1) X J at_ fn hu (wpAny_mono go (fun v s' h => ?_) fun _ _ e => e))))
    obtain ⟨k, rfl, hq⟩ := h
    first
      | exact ⟨k, rfl, _, rfl, hq⟩
      | exact ⟨k, rfl, _, rfl, _, rfl, hq⟩
  have fin : ∀ (Q2 : Value → Shared → Prop), (∀ k s', Q (some (.bool k)) s' → Q2 (.bool k) s') → wpAny (model P w) A (call (.builtin "object.__ne__") ([.ref x] ++ [v2])) Q2 E s := fun Q2 h => wpAny_mono one (fun v s' ⟨k, e, q⟩ => e ▸ h k s' q) fun _ _ e => e
  split
  · exact wpAny_bind (wpAny_of_eq (F.cmp_object.ne.bind _) (wpAny_pure (wpAny_bind (fin _ fun k s' q => wpAny_pure (wpAny_pure q)))))
  · exact wpAny_tryCatch (wpAny_bind (wpAny_of_eq (F.cmp_object.ne.bind _) (wpAny_pure (wpAny_bind (fin _ fun k s' q => wpAny_pure (wpAny_pure q))))))
theorem ne_own {Q : Value → Shared → Prop} (X : K.In s.heap) (J : PySem.W.InstAt s.heap x ox C od) (J2 : PySem.W.InstAt s.heap y oy C oe) (at_ : PySem.W.findIn K (.ref C) "__eq__" = some (some (.ref f))) (fn : PySem.W.isFn K (.ref f) = true)
    (ne_ : PySem.W.findIn K (.ref C) "__ne__" = some (some (.builtin "object.__ne__"))) (mro : PySem.W.mroIn K C (.type "object") = some true) (hu : A.units + 1 < cLine)
    (go : wpAny (model P w) A.in1 (call (.ref f) [.ref x, .ref y]) (fun v s' => ∃ k, v = .bool k ∧ Q (.bool (!k)) s') E s) : wpAny (model P w) A (richCompare .NotEq (.ref x) (.ref y)) Q E s := by
  unfold richCompare
  simp only [oneThing_ref]
  refine wpAny_holding (wpAny_bind (wpAny_cRoomFor (Nat.lt_of_succ_lt hu) ?_))
  rw [cmpInfo_NotEq]
  dsimp only
  refine wpAny_bind (J.type.here (wpAny_bind (J2.type.here ?_)))
  split
  · rename_i q
    simp at q
  · refine wpAny_bind (m := tryCompare (.ref x) _ (.ref y)) (try_ne X J at_ fn ne_ mro hu (wpAny_mono go (fun v s' ⟨k, e, q⟩ => ⟨k, e, ?_⟩) fun _ _ e => e))
    exact wpAny_pure q
end
/-- the call of an instance, by keywords too -/
theorem callO_gen {M : Model} {A : Around} {E : Value → Shared → Prop} {s : Shared} {a : Addr} {pos : Pos} {Q : Value → Shared → Prop} {ar : List (Bool × Sem Value)} {kw : List (Option Str × Sem Value)} (pl : (ar.any (·.1) || kw.any (·.1.isNone)) = false)
    (h : wpAny M A (evalArgs (.ref a) true ar kw) (fun z s1 => (∃ C ox od, PySem.W.InstAt s1.heap a ox C od ∧ ox.data = .plain) ∧ wpAny M A (call (.ref a) ([] ++ z.pos) z.kw) Q E s1) E s) : wpAny M A (callWith pos (.ref a) [] ar kw) Q E s := by
  unfold callWith
  refine wpAny_bind (wpAny_holding (wpAny_mono h (fun z s1 h1 => wpAny_bind (wpAny_standAt ?_)) fun _ _ y => y))
  obtain ⟨⟨C, ox, od, J, dp⟩, h1⟩ := h1
  have L := PySem.W.kco_keeper (M := M) J dp
  simp only [pl]
  refine wpAny_bind (L.here ?_)
  have tail : ∀ {t : Sem Value}, wpAny M A t Q E s1 → wpAny M A (t >>= fun r => holding [r] point >>= fun _ => pure r) Q E s1 :=
    fun ht => wpAny_bind (wpAny_mono ht (fun r s2 hr => wpAny_bind (wpAny_holding (wpAny_point (wpAny_pure hr)))) fun _ _ y => y)
  exact tail (wpAny_operateT h1)
end DLC

set_option maxRecDepth 100000
set_option maxHeartbeats 2000000
/-! DL13: calls of instances, of classmethods; == and != by the own ==. -/
namespace DL
open PySem PySem.Spec L2
section
variable {X : Cx} {W : WX} {k : Nat} {f g C : Addr} {fd : FuncData} {ps : List Str} {dsp : DSp} {dvs : List V} {dds : List D} {ds : List Value} {x m : Str} {p pos apos : Pos} {e o fe : Expr} {es : List Expr} {kws : List Keyword} {ta tf : DTE} {t tkw : DTA}
theorem run_fnC {sp : Sp} {pins : List (Addr × Obj)} {σ : L2.St} {H : Hp} {s : Shared} {Q : VK} {ar : Args} {us : List Value} {vs : List V} (F : FnG X.prog X.w X.K X.mg X.base k f fd ps sp) (hr : Room k X.A) (hgd : X.A.guards = some []) (tk : L2N.Takes X W)
    (I : Inv X pins σ H s) (bt : BindsTo s fd ar (ps.zip us)) (r : Vals vs us) (h : sp vs H Q (WE W σ)) : codeAny (model X.prog X.w) X.A (.call (.ref f) ar) (fun r s' => match r with
      | .ok (.ret v) => EP X pins σ Q v s'
      | .ok _ => False
      | .error e => X.xe e s') s := by
  refine codeAny_mono (F.run X.A X.stack s H ar us vs Q _ hr hgd I.env0 bt r h) fun r s' hq => ?_
  have z := call_end tk I hq
  cases r with
  | error e => exact z
  | ok fl =>
    cases fl with
    | ret u => exact z
    | next => exact False.elim z
    | brk => exact False.elim z
    | cont => exact False.elim z
theorem ins_at {K : PySem.W.Frag} {Z : Addr → Prop} {H F : Hp} {S : Store} (R : Rel K Z H S F) {d : D} {v : V} (iv : IsV K F d v) (h : (objD C S d).isSome = true) : ∃ a dx fs, v = .ref a ∧ H a = some (.ins C dx fs) := by
  obtain ⟨kds, e⟩ := Option.isSome_iff_exists.mp h
  obtain ⟨a, dx, fs, e1, e2, _⟩ := obj_is R iv e
  exact ⟨a, dx, fs, e1, e2⟩
def tCallOG (C : Addr) (sp : Sp) (dvs : List V) (E : L2.St → XK) (tf : TE) (t : TA) : TE := fun σ H Q => tf σ H fun y H1 => ∃ a, y = V.ref a ∧ t σ H1 fun vs H2 => (∃ dx fs, H2 a = some (.ins C dx fs)) ∧ sp (V.ref a :: (vs ++ dvs)) H2 Q (E σ)
theorem ob_at {pins : List (Addr × Obj)} {σ : L2.St} {H : Hp} {s : Shared} {a dx : Addr} {fs : List (Str × V)} (I : Inv X pins σ H s) (h : H a = some (.ins C dx fs)) : ∃ ox od, PySem.W.InstAt s.heap a ox C (some od) ∧ ox.data = .plain := by
  obtain ⟨mA, O, _⟩ := ins_get I.hok h
  obtain ⟨od, J, _⟩ := O.look
  exact ⟨_, _, J, rfl⟩
theorem pe_callOG {sp : Sp} {tf : TE} {t : TA} (hf : PE X fe tf) (c : StX.CallO X.K C g) (F : FnG X.prog X.w X.K X.mg X.base k g fd ps sp) (hr : Room k X.A) (hgd : X.A.guards = some []) (hb : Binds X.K fd ps ds) (hd : Vals dvs ds) (tk : L2N.Takes X W) (ha : PA X (e :: es) t)
    (ht : eval (.Call fe (e :: es) [] pos) X.env = (do callWith pos (← eval fe X.env) [] (backTo pos (starEach (e :: es) X.env)) (backToKw pos (keywordEach [] X.env))) := by rfl)
    (he : starEach (e :: es) X.env = (false, eval e X.env) :: starEach es X.env := by rfl) (hpl : (backTo pos (starEach es X.env)).any (·.1) = false := by rfl) : PE X (.Call fe (e :: es) [] pos) (tCallOG C sp dvs (WE W) tf t) := by
  refine ⟨fun pins s σ H Q I h => ?_⟩
  refine PyProof.Rows.Call_ (thn (hf.run pins s σ H _ I h) fun u s1 ⟨y, H1, I1, ry, a, ey, q⟩ => ?_) ht
  subst ey
  obtain rfl : u = Value.ref a := ry
  refine StX.callO_with (thn (ha.run pos pins s1 σ H1 _ I1 q) fun us s2 ⟨vs, H2, I2, r, ⟨dx, fs, hi⟩, q2⟩ => ?_) he hpl
  obtain ⟨ox, od, J, dp⟩ := ob_at I2 hi
  have r2 : Vals (V.ref a :: (vs ++ dvs)) (Value.ref a :: (us ++ ds)) := .cons rfl (r.append hd)
  have hl : (Value.ref a :: us ++ ds).length = ps.length := r2.length.symm.trans (F.len _ _ _ _ q2)
  exact ⟨⟨C, ox, some od, J, dp⟩, wpAny_call (PySem.W.kco_code I2.kIn J dp c.at_ c.fn c.fi (run_fnC F hr hgd tk I2 (hb s2 (Value.ref a :: us) I2.kIn hl) r2 q2))⟩
theorem de_callO (hf : DE X W fe tf) (c : StX.CallO X.K C g) (F : FnD X.prog X.w X.K X.mg X.base k g fd ps dsp) (hr : Room k X.A) (hgd : X.A.guards = some []) (hb : Binds X.K fd ps ds) (hd : Vals dvs ds) (hdd : ∀ F, IsVs X.K F dds dvs) (tk : L2N.Takes X W) (ha : DA X W (e :: es) t)
    (ht : eval (.Call fe (e :: es) [] pos) X.env = (do callWith pos (← eval fe X.env) [] (backTo pos (starEach (e :: es) X.env)) (backToKw pos (keywordEach [] X.env))) := by rfl)
    (he : starEach (e :: es) X.env = (false, eval e X.env) :: starEach es X.env := by rfl) (hpl : (backTo pos (starEach es X.env)).any (·.1) = false := by rfl) : DE X W (.Call fe (e :: es) [] pos) (fun ρ S Q E => tf ρ S (fun d S1 => (objD C S1 d).isSome = true ∧ t ρ S1 (fun xs S2 => (objD C S2 d).isSome = true ∧ dsp (d :: (xs ++ dds)) S2 Q E) E) E) :=
  de_pe (pe_callOG hf.pe c F hr hgd hb hd tk ha.pa ht he hpl) fun σ H P ⟨ρ, S, F, Z, Q, E, R, V, q, k, x⟩ => ⟨ρ, S, F, Z, _, E, R, V, q, fun v H1 ⟨d, S1, F1, A1, i1, ob, q1⟩ => by
    obtain ⟨a, _, _, rfl, _⟩ := ins_at A1.rel i1 ob
    refine ⟨a, rfl, ρ, S1, F1, Z, _, E, A1.rel, V.up A1.sm, q1, fun vs H2 ⟨xs, S2, F2, A2, iv, ob2, q2⟩ => ?_, xe_tr x A1⟩
    obtain ⟨b, dx, fs, eb, hi⟩ := ins_at A2.rel (i1.up A2.sm) ob2
    cases eb
    exact ⟨⟨dx, fs, hi⟩, d :: (xs ++ dds), S2, F2, Z, Q, E, A2.rel, .cons (i1.up A2.sm) (iv.append (hdd F2)), q2, fun v H' h => k v H' (lftE_tr (A1.trans A2) h), fun cls d H' h => x cls d H' (lftX_tr (A1.trans A2) h)⟩, x⟩
/-- f(k = e, ..), keywords alone -/
theorem de_callOK {ks : List Str} {gD : List D → List D → List D} {gx : List Value → List Value → List Value} {gV : List V → List V → List V} (hf : DE X W fe tf) (c : StX.CallO X.K C g) (F : FnD X.prog X.w X.K X.mg X.base k g fd ps dsp) (hr : Room k X.A) (hgd : X.A.guards = some [])
    (hb : KBinds X.K fd ps ks gx gV) (hgD : ∀ F xs vs zs ws, IsVs X.K F xs vs → IsVs X.K F zs ws → IsVs X.K F (gD xs zs) (gV vs ws)) (tk : L2N.Takes X W) (hkw : DK X W kws tkw)
    (ht : eval (.Call fe [] kws pos) X.env = (do callWith pos (← eval fe X.env) [] (backTo pos (starEach [] X.env)) (backToKw pos (keywordEach kws X.env))) := by rfl)
    (hall : (backToKw pos (keywordEach kws X.env)).all (·.1.isSome) = true := by rfl) (hks : (backToKw pos (keywordEach kws X.env)).filterMap (·.1) = ks := by rfl)
    (hpl : ((backTo pos (starEach [] X.env)).any (·.1) || (backToKw pos (keywordEach kws X.env)).any (·.1.isNone)) = false := by rfl) :
    DE X W (.Call fe [] kws pos) (fun ρ S Q E => tf ρ S (fun d S1 => (objD C S1 d).isSome = true ∧ tkw ρ S1 (fun zs S2 => (objD C S2 d).isSome = true ∧ dsp (gD [d] zs) S2 Q E) E) E) := by
  refine ⟨⟨fun pins s σ H Q I h => ?_⟩⟩
  obtain ⟨ρ, S, F0, Z, Qd, E, R, V0, q, k0, x0⟩ := h
  rw [ht]
  refine wpAny_bind (thn (hf.pe.run pins s σ H (fun v H1 => LftE X.K Z H F0 (fun d S1 => (objD C S1 d).isSome = true ∧ tkw ρ S1 (fun zs S2 => (objD C S2 d).isSome = true ∧ dsp (gD [d] zs) S2 Qd E) E) v H1) I ⟨ρ, S, F0, Z, _, E, R, V0, q, fun _ _ h => h, x0⟩) fun u s1 ⟨y, H1, I1, ry, d, S1, F1, A1, i1, ob, q1⟩ => ?_)
  obtain ⟨a, _, _, rfl, _⟩ := ins_at A1.rel i1 ob
  obtain rfl : u = Value.ref a := ry
  refine DLC.callO_gen hpl (PyProof.Rows.evalArgs_kw2_nil hall (thn (hkw.pk.run pos pins s1 σ H1 (fun vs H2 => LftA X.K Z H1 F1 (fun zs S2 => (objD C S2 d).isSome = true ∧ dsp (gD [d] zs) S2 Qd E) vs H2) I1 ⟨ρ, S1, F1, Z, _, E, A1.rel, V0.up A1.sm, q1, fun _ _ h => h, xe_tr x0 A1⟩) fun ws s2 ⟨zs, H2, I2, rz, xs, S2, F2, A2, iv, ob2, q2⟩ => ?_))
  obtain ⟨b, dx, fs, eb, hi⟩ := ins_at A2.rel (i1.up A2.sm) ob2
  cases eb
  obtain ⟨ox, od, J, dp⟩ := ob_at I2 hi
  rw [hks]
  have q3 : spD X.K dsp (gV [.ref a] zs) H2 Q (WE W σ) := ⟨gD [d] xs, S2, F2, Z, Qd, E, A2.rel, hgD F2 _ _ _ _ (.cons (i1.up A2.sm) .nil) iv, q2, fun v H' h => k0 v H' (lftE_tr (A1.trans A2) h), fun cls d H' h => x0 cls d H' (lftX_tr (A1.trans A2) h)⟩
  have r2 := hb.rel (vs := [V.ref a]) (us := [Value.ref a]) (.cons rfl .nil) rz
  have hl : (gx [Value.ref a] ws).length = ps.length := r2.length.symm.trans (F.len _ _ _ _ q3)
  exact ⟨⟨C, ox, some od, J, dp⟩, wpAny_call (PySem.W.kco_code I2.kIn J dp c.at_ c.fn c.fi (run_fnC F hr hgd tk I2 (hb.to s2 [Value.ref a] ws I2.kIn hl) r2 q3))⟩

/-! ### C.m(..), m a classmethod -/
/-- o.m(e, ..): o the class at C -/
theorem de_cmeth {mc : Value} {q : Addr} {pl : Sem Bool} (he : DE X W o ta) (r : ClX.CRead X.K C mc) (c : ClX.CMet X.K C mc m q g) (F : FnD X.prog X.w X.K X.mg X.base k g fd ps dsp) (hr : Room k X.A) (hgd : X.A.guards = some []) (hb : Binds X.K fd ps []) (tk : L2N.Takes X W) (ha : DA X W (e :: es) t)
    (hst : starEach (e :: es) X.env = (false, eval e X.env) :: starEach es X.env := by rfl) (hpl : (backTo pos (starEach es X.env)).any (·.1) = false := by rfl)
    (ht : eval (.Call (.Attribute o m apos) (e :: es) [] pos) X.env = (do
      let ov ← eval o X.env
      standAt apos.atName
      let (f, first) ← holding [ov] (getMethod ov m pl)
      callWith pos f first (backTo pos (starEach (e :: es) X.env)) (backToKw pos (keywordEach [] X.env))) := by rfl) :
    DE X W (.Call (.Attribute o m apos) (e :: es) [] pos) (fun ρ S Q E => ta ρ S (fun d S1 => d = .ref C ∧ t ρ S1 (fun xs S2 => dsp (.ref C :: xs) S2 Q E) E) E) := by
  refine ⟨⟨fun pins s σ H Q I ⟨ρ, S, F0, Z, Qd, E, R, V0, q0, k0, x0⟩ => ?_⟩⟩
  refine PySem.W.methodCall_KW (pl := pl) (thn (he.pe.run pins s σ H (fun v H1 => LftE X.K Z H F0 (fun d S1 => d = .ref C ∧ t ρ S1 (fun xs S2 => dsp (.ref C :: xs) S2 Qd E) E) v H1) I ⟨ρ, S, F0, Z, _, E, R, V0, q0, fun _ _ h => h, x0⟩) fun u s1 ⟨y, H1, I1, ry, d, S1, F1, A1, i1, ed, q1⟩ => ?_) ht
  subst ed
  cases i1
  obtain rfl : u = Value.ref C := ry
  refine ClX.getmethcm_ok I1 r c fun s2 I2 => ?_
  refine ClX.callwith_cm I2 (ClX.base_none I1 (Nat.le_refl _)) c.fi (thn (ha.pa.run pos _ s2 σ H1 (fun vs H2 => LftA X.K Z H1 F1 (fun xs S2 => dsp (.ref C :: xs) S2 Qd E) vs H2) I2 ⟨ρ, S1, F1, Z, _, E, A1.rel, V0.up A1.sm, q1, fun _ _ h => h, xe_tr x0 A1⟩) fun us s3 ⟨vs, H2, I3, rv, xs, S2, F2, A2, iv, q2⟩ => ⟨⟨ClX.pin_at I3, I3.kIn⟩, ?_⟩) hst hpl
  have q3 : spD X.K dsp (.ref C :: vs) H2 Q (WE W σ) := ⟨.ref C :: xs, S2, F2, Z, Qd, E, A2.rel, .cons (.ref C) iv, q2, fun v H' h => k0 v H' (lftE_tr (A1.trans A2) h), fun cls d H' h => x0 cls d H' (lftX_tr (A1.trans A2) h)⟩
  have r2 : Vals (V.ref C :: vs) (Value.ref C :: us) := .cons rfl rv
  have hl : (Value.ref C :: us).length = ps.length := r2.length.symm.trans (F.len _ _ _ _ q3)
  have bt := hb s3 (Value.ref C :: us) I3.kIn (by simpa using hl)
  have z := wpAny_call (PySem.W.method_call (ClX.pin_at I3) (run_fnC F hr hgd tk I3 (by simpa using bt) r2 q3))
  exact thn z fun _ _ y => ClX.unpinE y
/-- o.m(k = e, ..), keywords alone -/
theorem de_cmethK {mc : Value} {q : Addr} {pl : Sem Bool} {ks : List Str} {gD : List D → List D → List D} {gx : List Value → List Value → List Value} {gV : List V → List V → List V} (he : DE X W o ta) (r : ClX.CRead X.K C mc) (c : ClX.CMet X.K C mc m q g) (F : FnD X.prog X.w X.K X.mg X.base k g fd ps dsp)
    (hr : Room k X.A) (hgd : X.A.guards = some []) (hb : KBinds X.K fd ps ks gx gV) (hgD : ∀ F xs vs zs ws, IsVs X.K F xs vs → IsVs X.K F zs ws → IsVs X.K F (gD xs zs) (gV vs ws)) (tk : L2N.Takes X W) (hkw : DK X W kws tkw)
    (hall : (backToKw pos (keywordEach kws X.env)).all (·.1.isSome) = true := by rfl) (hks : (backToKw pos (keywordEach kws X.env)).filterMap (·.1) = ks := by rfl)
    (hpl : ((backTo pos (starEach [] X.env)).any (·.1) || (backToKw pos (keywordEach kws X.env)).any (·.1.isNone)) = false := by rfl)
    (ht : eval (.Call (.Attribute o m apos) [] kws pos) X.env = (do
      let ov ← eval o X.env
      standAt apos.atName
      let (f, first) ← holding [ov] (getMethod ov m pl)
      callWith pos f first (backTo pos (starEach [] X.env)) (backToKw pos (keywordEach kws X.env))) := by rfl) :
    DE X W (.Call (.Attribute o m apos) [] kws pos) (fun ρ S Q E => ta ρ S (fun d S1 => d = .ref C ∧ tkw ρ S1 (fun zs S2 => dsp (gD [.ref C] zs) S2 Q E) E) E) := by
  refine ⟨⟨fun pins s σ H Q I ⟨ρ, S, F0, Z, Qd, E, R, V0, q0, k0, x0⟩ => ?_⟩⟩
  refine PySem.W.methodCall_KW (pl := pl) (thn (he.pe.run pins s σ H (fun v H1 => LftE X.K Z H F0 (fun d S1 => d = .ref C ∧ tkw ρ S1 (fun xs S2 => dsp (gD [.ref C] xs) S2 Qd E) E) v H1) I ⟨ρ, S, F0, Z, _, E, R, V0, q0, fun _ _ h => h, x0⟩) fun u s1 ⟨y, H1, I1, ry, d, S1, F1, A1, i1, ed, q1⟩ => ?_) ht
  subst ed
  cases i1
  obtain rfl : u = Value.ref C := ry
  refine ClX.getmethcm_ok I1 r c fun s2 I2 => ?_
  refine PySem.W.callWith_of (P := fun h => PySem.W.MethP X.K s1.heap.objs.size g (.ref C) h) hpl (PySem.W.keeps_M c.fi) (PyProof.Rows.evalArgs_kw2_nil hall (thn (hkw.pk.run pos _ s2 σ H1 (fun vs H2 => LftA X.K Z H1 F1 (fun zs S2 => dsp (gD [.ref C] zs) S2 Qd E) vs H2) I2 ⟨ρ, S1, F1, Z, _, E, A1.rel, V0.up A1.sm, q1, fun _ _ h => h, xe_tr x0 A1⟩) fun ws s3 ⟨zs, H2, I3, rz, xs, S2, F2, A2, iv, q2⟩ => ⟨⟨ClX.pin_at I3, I3.kIn⟩, ?_⟩))
  rw [hks]
  have q3 : spD X.K dsp (gV [.ref C] zs) H2 Q (WE W σ) := ⟨gD [.ref C] xs, S2, F2, Z, Qd, E, A2.rel, hgD F2 _ _ _ _ (.cons (.ref C) .nil) iv, q2, fun v H' h => k0 v H' (lftE_tr (A1.trans A2) h), fun cls d H' h => x0 cls d H' (lftX_tr (A1.trans A2) h)⟩
  have r2 := hb.rel (vs := [V.ref C]) (us := [Value.ref C]) (.cons rfl .nil) rz
  have hl : (gx [Value.ref C] ws).length = ps.length := r2.length.symm.trans (F.len _ _ _ _ q3)
  have z := wpAny_call (PySem.W.method_call (pos := []) (ClX.pin_at I3) (run_fnC F hr hgd tk I3 (hb.to s3 [Value.ref C] ws I3.kIn hl) r2 q3))
  exact thn z fun _ _ y => ClX.unpinE y
end
end DL

set_option maxRecDepth 100000
set_option maxHeartbeats 2000000
/-! DL14: == and != by the own == of a class. -/
namespace DL
open PySem PySem.Spec L2
def rOwn (C : Addr) (sp : Sp) (neg : Bool) : R2 := fun x y H Q => ∃ a b dx dy fs gs, x = .ref a ∧ y = .ref b ∧ H a = some (.ins C dx fs) ∧ H b = some (.ins C dy gs) ∧ sp [.ref a, .ref b] H (fun v H' => ∃ k, v = .bl k ∧ Q (.bl (if neg then !k else k)) H') (fun _ _ _ => False)
structure OwnEq (K : PySem.W.Frag) (C f : Addr) : Prop where
  eq : PySem.W.findIn K (.ref C) "__eq__" = some (some (.ref f))
  fn : PySem.W.isFn K (.ref f) = true
  ne : PySem.W.findIn K (.ref C) "__ne__" = some (some (.builtin "object.__ne__"))
  mro : PySem.W.mroIn K C (.type "object") = some true
section
variable {X : Cx} {k : Nat} {C f : Addr} {fd : FuncData} {ps : List Str}
/-- the own == is asked, a frame deeper or not -/
theorem run_own {sp : Sp} {A : Around} {pins : List (Addr × Obj)} {σ : L2.St} {H : Hp} {s : Shared} {Q : VK} {a b : Addr} (F : FnG X.prog X.w X.K X.mg X.base k f fd ps sp) (hr : Room k A) (hgd : A.guards = some []) (fr : A.frames = X.A.frames) (hb : Binds X.K fd ps [])
    (I : Inv X pins σ H s) (h : sp [.ref a, .ref b] H Q (fun _ _ _ => False)) : wpAny (model X.prog X.w) A (call (.ref f) [.ref a, .ref b]) (EP X pins σ Q) X.xe s := by
  have e := I.env0
  have e0 : Env0 X.prog X.w X.K X.mg X.base A X.stack s H := ⟨by rw [fr]; exact e.frames, e.mod, e.bs, e.bsz, e.funs, e.frf, e.hok, e.bare⟩
  have r2 : Vals [V.ref a, V.ref b] [Value.ref a, Value.ref b] := .cons rfl (.cons rfl .nil)
  have hl : [Value.ref a, Value.ref b].length = ps.length := r2.length.symm.trans (F.len _ _ _ _ h)
  have bt := hb s [Value.ref a, Value.ref b] I.kIn (by simpa using hl)
  refine wpAny_call (codeAny_mono (F.run A X.stack s H ⟨[.ref a, .ref b], []⟩ _ _ Q _ hr hgd e0 (by simpa using bt) r2 h) fun r s' hq => ?_)
  have z := call_end (W := W0) takes_n0 I hq
  cases r with
  | error e => exact z
  | ok fl =>
    cases fl with
    | ret u => exact z
    | next => exact False.elim z
    | brk => exact False.elim z
    | cont => exact False.elim z
theorem or_neOwn {sp : Sp} (O : OwnEq X.K C f) (F : FnG X.prog X.w X.K X.mg X.base k f fd ps sp) (hr : Room k X.A.in1) (hu : X.A.units + 1 < cLine) (hgd : X.A.guards = some []) (hb : Binds X.K fd ps []) : OpR X (compareOp .NotEq) (rOwn C sp true) := by
  intro pins s σ H x y u v Q I rx ry h
  obtain ⟨a, b, dx, dy, fs, gs, rfl, rfl, ha, hb', q⟩ := h
  cases rx
  cases ry
  show wpAny (model X.prog X.w) X.A (richCompare .NotEq (.ref a) (.ref b)) (EP X pins σ Q) X.xe s
  obtain ⟨ox, od, J, _⟩ := ob_at I ha
  obtain ⟨oy, oe, J2, _⟩ := ob_at I hb'
  refine DLC.ne_own I.kIn J J2 O.eq O.fn O.ne O.mro hu (wpAny_mono (run_own (A := X.A.in1) F hr (by exact hgd) rfl hb I q) (fun w s' ⟨z, H', I', rz, kk, ez, q'⟩ => ?_) fun _ _ e => e)
  subst ez
  cases rz
  exact ⟨kk, rfl, .bl (!kk), H', I', rfl, q'⟩
end
def rdOwn (C : Addr) (dsp : DSp) (neg : Bool) : DR2 := fun x y S Q => (objD C S x).isSome = true ∧ (objD C S y).isSome = true ∧ dsp [x, y] S (fun d S' => ∃ k, d = .bl k ∧ Q (.bl (if neg then !k else k)) S') (fun _ _ _ _ => False)
theorem lift_own {K : PySem.W.Frag} {C : Addr} {dsp : DSp} {neg : Bool} : Lift2 K (rOwn C (spD K dsp) neg) (rdOwn C dsp neg) := by
  intro Z H S F x y v w Q P R iv iw ⟨o1, o2, q⟩ k
  obtain ⟨a, dx, fs, rfl, ha⟩ := ins_at R iv o1
  obtain ⟨b, dy, gs, rfl, hb⟩ := ins_at R iw o2
  refine ⟨a, b, dx, dy, fs, gs, rfl, rfl, ha, hb, [x, y], S, F, Z, _, _, R, .cons iv (.cons iw .nil), q, fun v' H' ⟨d, S', F', A', i', kk, ed, q'⟩ => ?_, fun cls d H' ⟨_, _, _, _, _, _, _, _, z⟩ => z.elim⟩
  subst ed
  cases i'
  exact ⟨kk, rfl, k _ _ ⟨_, S', F', A', .bl _, q'⟩⟩
end DL

set_option maxRecDepth 100000
set_option maxHeartbeats 2000000
/-! DL15: isinstance by own classes. -/
namespace DL
open PySem PySem.Spec L2
def tyO (K : PySem.W.Frag) (S : Store) (x : D) (t : Value) : Prop := (∃ C, ClsTy K C ∧ (objD C S x).isSome = true ∧ t = .ref C) ∨ ∃ n, tyB S x = some n ∧ t = .type n
def rdIsiO (K : PySem.W.Frag) : DRL := fun xs S Q => ∃ x C t b, xs = [x, .ref C] ∧ tyO K S x t ∧ PySem.W.kitOne K t (.ref C) = some b ∧ Q (.bl b) S
theorem lift_isiO {K : PySem.W.Frag} : LiftL K (rIsi K) (rdIsiO K) := by
  intro Z H S F x v Q P R iv ⟨x, C, t, b, hx, ht, hk, q⟩ k
  subst hx
  obtain ⟨u, w, rfl, i1, i2⟩ := isVs_two iv
  cases i2
  refine ⟨_, _, t, _, b, rfl, .own C, ?_, hk, k _ _ ⟨_, S, F, .refl R, .bl _, q⟩⟩
  rcases ht with ⟨C', T, ob, rfl⟩ | ⟨n, hn, rfl⟩
  · obtain ⟨a, dx, fs, rfl, ha⟩ := ins_at R i1 ob
    exact .base (.ins ha T.cl T.at_ T.get T.tk T.mro)
  · exact tyX_of R i1 hn
end DL

set_option maxRecDepth 100000
set_option maxHeartbeats 2000000
/-! DLE: the end of a law whose def is promised over trees, where no repr runs. -/
namespace DL
open PySem PySem.Spec PyProof.Rows L2
/-- what a law promises of its script -/
def dspLaw : DSp := fun ds S Q _ => ∃ ns : List Int, ds = [.scr (ns.map .int)] ∧ ns.length ≤ 63 ∧ (∀ n ∈ ns, Builtin.Int.intBits n ≤ 1048576) ∧ (∀ a, S a = none) ∧ ∀ S', Q (.bl true) S'
theorem cx_none {P : Program} {w : World} {H : Hp} {s s' : Shared} {e : Value} (h : L2N.CX P w [] H s (fun _ _ _ => False) e s') : False := by
  obtain ⟨_, _, _, _, _, _, _, _, _, _, _, _, z⟩ := h
  exact z
/-- the lambdas of the def fd: its table, in a heap that the program began with -/
structure LamD (K : PySem.W.Frag) (mg : Str → Option Value) (base : Heap) (fd : FuncData) : Prop where
  ex : ∃ c P, fd.code = .ref c ∧ (P, (fd.qualname ++ ".<locals>.") ++ "<lambda>") ∈ lamTabs K ∧ (∀ p ∈ lamTabs K, p.1 = P → p.2 = (fd.qualname ++ ".<locals>.") ++ "<lambda>") ∧ LamX.TabB base mg c P
abbrev noTab : Obj := { cls := .none, data := .fields #[] }
/-- at the start of a law's call: cs, the tables of the defs that make lambdas -/
structure Begin (K : PySem.W.Frag) (cs : List (Addr × Addr)) (a : Addr) (vs : List Value) (ns : List Int) (s1 : Shared) (H : Hp) : Prop where
  tabs : ∀ p ∈ cs, H p.2 = some (.tbl #[])
  only : ∀ b, H b = none ∨ b ∈ cs.map (·.2) ∨ ∃ o xs, H b = some (.frz o (.lst xs))
  sq : SqL K H a (ns.map V.int)
  some_ : ∀ b, H b ≠ none → b = a ∨ b ∈ cs.map (·.2)
  apart : H a ≠ none → K.lookup a = none
theorem law_callL {P : Program} {w : World} {K : PySem.W.Frag} {mg mb : Str → Option Value} {k : Nat} {fa a : Addr} {cs : List (Addr × Addr)} {fd : FuncData} {x : Str} {s1 : Shared} {vs : List Value} {ns : List Int}
    (KX : K.In s1.heap) (nsM : s1.heap.Ns mainGlobals mg) (nsB : s1.heap.Ns builtinsNs mb) (boot : ∀ x : Str, x ≠ "__name__" → mb x = bootBuiltins x) (lim : s1.heap.NoLimit) (gens : s1.gens = #[])
    (tabs : ∀ p ∈ cs, s1.heap.get? p.2 = some noTab) (out : ∀ p ∈ cs, K.lookup p.2 = none) (heads : ∀ p ∈ cs, PySem.W.CodeHd s1.heap p.1 p.2) (all : ∀ p ∈ lamTabs K, p.1 ∈ cs.map (·.2))
    (bmod : ∃ (bm : Addr) (ob : Obj), mg "__builtins__" = some (.ref bm) ∧ bm ≠ builtinsNs ∧ s1.heap.get? bm = some ob ∧ ob.cls = .type "module" ∧ ob.dict = some builtinsNs ∧ ob.data = .plain)
    (at_ : s1.heap.get? a = some { cls := .type "list", data := .seq vs.toArray }) (hi : IntsAre vs ns) (few : ns.length ≤ 63) (bits : ∀ n ∈ ns, Builtin.Int.intBits n ≤ 1048576) (hr : Room k callerA)
    (F : ∀ base : Heap, K.In base → base.Ns mainGlobals mg → (∀ p ∈ cs, LamX.TabB base mg p.1 p.2) → FnD P w K mg base k fa fd [x] dspLaw) (bind : ∀ (s : Shared) (u : Value), BindsTo s fd ⟨[u], []⟩ [(x, u)]) :
    codeAny (model P w) callerA (.call (.ref fa) ⟨[.ref a], []⟩) (fun r s' => r = .ok (.ret (.bool true)) ∧ OldK s1.heap s'.heap ∧ s'.os = s1.os ∧ AllBare s'.gens) s1 := by
  have rv := vals_ints hi
  have lenV := hi.length
  have short : ns.length ≤ sizeLine := by rw [sizeLine_eq]; omega
  have tabAt : ∀ b ∈ cs.map (·.2), s1.heap.get? b = some noTab := fun b hb => by
    obtain ⟨p, hp, rfl⟩ := List.mem_map.mp hb
    exact tabs p hp
  have aOut : a ∉ cs.map (·.2) := fun z => by
    have q := tabAt a z
    rw [at_] at q
    cases q
  have core : ∀ H : Hp, Begin K cs a vs ns s1 H → HOk P w H s1.heap →
      codeAny (model P w) callerA (.call (.ref fa) ⟨[.ref a], []⟩) (fun r s' => r = .ok (.ret (.bool true)) ∧ OldK s1.heap s'.heap ∧ s'.os = s1.os ∧ AllBare s'.gens) s1 := by
    intro H B hok
    have down : ∀ {b : Addr} {o : Obj}, s1.heap.get? b = some o → H b = none → (hidT s1.heap H).get? b = some o := fun e n => hidT_get e n
    have free : ∀ {b : Addr} {o : Obj}, s1.heap.get? b = some o → (∀ vs n, o.data ≠ .seq vs n) → o.data ≠ .fields #[] → H b = none := fun {b o} e n1 n2 => by
      cases q : H b with
      | none => rfl
      | some u =>
        rcases B.some_ b (by rw [q]; simp) with eb | eb
        · subst eb
          rw [at_] at e
          cases e
          exact absurd rfl (n1 _ _)
        · rw [tabAt b eb] at e
          cases e
          exact absurd rfl n2
    have freeD : ∀ {b : Addr} {o : Obj} {es : Array DictEntry} {ep : Nat}, s1.heap.get? b = some o → o.data = .dict es ep → H b = none := fun {b o es ep} e d => free e (fun _ _ z => by rw [d] at z; cases z) (fun z => by rw [d] at z; cases z)
    have spaces : ∀ {b : Addr} {m : Str → Option Value}, s1.heap.Ns b m → (hidT s1.heap H).Ns b m := fun {b m} ⟨o, es, ep, e, d, r⟩ => ⟨o, es, ep, down e (freeD e d), d, r⟩
    have Kb : K.In (hidT s1.heap H) := fun b o e => down (KX b o e) (by
      cases q : H b with
      | none => rfl
      | some u =>
        rcases B.some_ b (by rw [q]; simp) with eb | eb
        · subst eb
          rw [B.apart (by rw [q]; simp)] at e
          cases e
        · obtain ⟨p, hp, rfl⟩ := List.mem_map.mp eb
          rw [out p hp] at e
          cases e)
    have M : Mod K mg (hidT s1.heap H) := ⟨Kb, spaces nsM, ⟨mb, spaces nsB, boot⟩, let ⟨mc, h1, h2⟩ := lim; ⟨mc, spaces h1, h2⟩⟩
    have notG : ∀ p ∈ cs, mainGlobals ≠ p.2 := fun p hp z => by
      obtain ⟨o, es, ep, e, d, _⟩ := nsM
      rw [z, tabs p hp] at e
      cases e
      cases d
    have TB : ∀ p ∈ cs, LamX.TabB (hidT s1.heap H) mg p.1 p.2 := fun p hp => by
      refine ⟨?_, ?_, notG p hp⟩
      · obtain ⟨o, us, fi, tf, fl, tg, i1, tx, tt, e1, r1, r2, r3, rest⟩ := heads p hp
        exact ⟨o, us, fi, tf, fl, tg, i1, tx, tt, down e1 (free e1 (fun _ _ z => by rw [r2] at z; cases z) fun z => by
          rw [r2] at z
          cases z
          simp at r3), r1, r2, r3, rest⟩
      · obtain ⟨bm, ob, m1, m2, m3, m4, m5, m6⟩ := bmod
        refine ⟨bm, ob, m1, m2, fun q => ?_, fun q => ?_, down m3 (free m3 (fun _ _ z => by rw [m6] at z; cases z) fun z => by rw [m6] at z; cases z), m4, m5, m6⟩
        · obtain ⟨o, es, ep, e, d, _⟩ := nsM
          rw [q, e] at m3
          cases m3
          rw [d] at m6
          cases m6
        · rw [q, tabs p hp] at m3
          cases m3
          cases m6
    have e0 : Env0 P w K mg (hidT s1.heap H) callerA [] s1 H := ⟨rfl, M, fun b o e => of_hidT e, Nat.le_of_eq (hidT_size _ _), trivial, fun b hb => absurd (show b ∈ ([] : List Addr) from hb) (by simp), hok, .of_eq gens⟩
    -- frozen: all but the tables
    have nt : ∀ b u, H b = some u → b ∉ cs.map (·.2) → (if b ∈ cs.map (·.2) then none else H b) = some u := fun b u e n => by rw [if_neg n]; exact e
    have ft : ∀ b u, (if b ∈ cs.map (·.2) then none else H b) = some u → H b = some u := fun b u e => by
      split at e
      · cases e
      · exact e
    have R : Rel K (fun _ => False) H (fun _ => none) (fun b => if b ∈ cs.map (·.2) then none else H b) := ⟨fun b u e => ⟨ft b u e, rfl, fun z => z⟩, fun b m e => (by cases e), fun b z => z.elim, fun p hp => by
      have hm := all p hp
      refine ⟨⟨#[], ?_, True.intro, fun pos cv q => ?_⟩, if_pos hm, fun z => z⟩
      · obtain ⟨c, hc, ec⟩ := List.mem_map.mp hm
        rw [← ec]
        exact B.tabs c hc
      · have q : codeAmong pos [] = some cv := q
        simp [codeAmong] at q⟩
    have sq : SqL K (fun b => if b ∈ cs.map (·.2) then none else H b) a (ns.map V.int) := by
      rcases B.sq with (h | ⟨o, h⟩) | h
      · exact .inl (.inl (nt _ _ h aOut))
      · exact .inl (.inr ⟨o, nt _ _ h aOut⟩)
      · exact .inr h
    have want : spD K dspLaw [.ref a] H (fun v _ => v = .bl true) (fun _ _ _ => False) :=
      ⟨[.scr (ns.map .int)], fun _ => none, _, fun _ => False, fun d _ => d = .bl true, fun _ _ _ _ => False, R, .cons (.scr sq (isVs_ints ns)) .nil, ⟨ns, rfl, few, bits, fun _ => rfl, fun _ => rfl⟩,
        fun v H' ⟨d, S', F', _, iv, e⟩ => by
          subst e
          cases iv
          rfl, fun cls d H' ⟨_, _, _, _, _, _, _, _, z⟩ => z.elim⟩
    refine codeAny_mono ((F _ Kb (spaces nsM) TB).run callerA [] s1 H ⟨[.ref a], []⟩ [.ref a] [.ref a] _ _ hr rfl e0 (bind s1 (.ref a)) (.cons rfl .nil) want) fun r s' h => ?_
    cases r with
    | error e => exact (cx_none h).elim
    | ok fl =>
      cases fl with
      | next => exact False.elim h
      | brk => exact False.elim h
      | cont => exact False.elim h
      | ret u =>
        obtain ⟨v, H', os, bare, un, hok', r', q⟩ := h
        have q' : v = .bl true := q
        subst q'
        obtain rfl : u = Value.bool true := r'
        have stays : ∀ b o, b ∉ cs.map (·.2) → s1.heap.get? b = some o → s'.heap.get? b = some o := fun b o nb e => by
          cases q : H b with
          | none => exact un.keep b o e q (by intro z; exact absurd (show b ∈ ([] : List Addr) from z) (by simp)) (by simp)
          | some u =>
            rcases B.only b with z | z | ⟨ob, xs, z⟩
            · rw [q] at z; cases z
            · exact absurd z nb
            · obtain ⟨e1, _⟩ := hok b _ z
              obtain ⟨e2, _⟩ := hok' b _ (un.frzs b ob _ z)
              rw [e] at e1
              cases e1
              exact e2
        have grows : ∀ p ∈ cs, ∃ more : Array Value, s'.heap.get? p.2 = some { cls := .none, data := .fields more } := fun p hp => by
          obtain ⟨more, z⟩ := un.tbls p.2 #[] (B.tabs p hp)
          exact ⟨_, hok' p.2 _ z⟩
        refine ⟨rfl, ⟨fun b o e => ?_, fun b o e => ?_⟩, os, bare⟩
        · by_cases hb : b ∈ cs.map (·.2)
          · have eo := tabAt b hb
            obtain ⟨p, hp, rfl⟩ := List.mem_map.mp hb
            obtain ⟨more, hm⟩ := grows p hp
            rw [eo] at e
            cases e
            exact .inr (.inl ⟨((heads p hp).tab (tabs p hp)).isCodeTable, rfl, #[], more, rfl, by rw [Array.empty_append]; exact hm⟩)
          · exact .inl (stays b o hb e)
        · by_cases hb : b ∈ cs.map (·.2)
          · obtain ⟨p, hp, rfl⟩ := List.mem_map.mp hb
            obtain ⟨more, hm⟩ := grows p hp
            exact ⟨_, hm⟩
          · exact ⟨o, stays b o hb e⟩
  -- the heap at the start: the script (if it is no part of the program), the tables
  have begin : ∀ g : Hp, (∀ b, b ≠ a → g b = none) → (g a = none ∨ ∃ o xs, g a = some (.frz o (.lst xs))) → SqL K (fun b => if b ∈ cs.map (·.2) then some (.tbl #[]) else g b) a (ns.map V.int) → (g a ≠ none → K.lookup a = none) →
      (∀ u, g a = some u → ObjOk P w (fun b => if b ∈ cs.map (·.2) then some (.tbl #[]) else g b) s1.heap a u) →
      codeAny (model P w) callerA (.call (.ref fa) ⟨[.ref a], []⟩) (fun r s' => r = .ok (.ret (.bool true)) ∧ OldK s1.heap s'.heap ∧ s'.os = s1.os ∧ AllBare s'.gens) s1 := fun g far one sq ap ok => by
    refine core (fun b => if b ∈ cs.map (·.2) then some (.tbl #[]) else g b) ⟨fun p hp => if_pos (List.mem_map.mpr ⟨p, hp, rfl⟩), fun b => ?_, sq, fun b z => ?_, fun z => ap fun q => z ((if_neg aOut).trans q)⟩ fun b u z => ?_
    · by_cases hb : b ∈ cs.map (·.2)
      · exact .inr (.inl hb)
      · by_cases ha : b = a
        · subst ha
          rcases one with q | ⟨o, xs, q⟩
          · exact .inl ((if_neg hb).trans q)
          · exact .inr (.inr ⟨o, xs, (if_neg hb).trans q⟩)
        · exact .inl ((if_neg hb).trans (far b ha))
    · by_cases hb : b ∈ cs.map (·.2)
      · exact .inr hb
      · by_cases ha : b = a
        · exact .inl ha
        · exact absurd ((if_neg hb).trans (far b ha)) z
    · by_cases hb : b ∈ cs.map (·.2)
      · have z' := (if_pos hb).symm.trans z
        cases z'
        exact tabAt b hb
      · have z' := (if_neg hb).symm.trans z
        by_cases ha : b = a
        · subst ha
          exact ok u z'
        · rw [far b ha] at z'
          cases z'
  cases hk : K.lookup a with
  | some o =>
    have e := KX a o hk
    rw [at_] at e
    cases e
    exact begin (fun _ => none) (fun _ _ => rfl) (.inl rfl) (.inr ⟨_, vs.toArray, _, hk, rfl, rfl, rfl, by rw [List.size_toArray, lenV]; exact short, by simpa using rv⟩) (fun z => absurd rfl z) fun u z => (by cases z)
  | none =>
    refine begin (fun b => if b = a then some (.frz { cls := .type "list", data := .seq vs.toArray } (.lst (ns.map V.int))) else none) (fun b hb => if_neg hb) (.inr ⟨_, _, if_pos rfl⟩) (.inl (.inr ⟨{ cls := .type "list", data := .seq vs.toArray }, (if_neg aOut).trans (if_pos rfl)⟩)) (fun _ => hk) fun u z => ?_
    rw [if_pos rfl] at z
    cases z
    exact ⟨at_, by rw [List.length_map]; exact short, vs, _, rv, at_⟩
/-- the goal that the head leaves, from the law's promise; cs: the code objects of the defs that make lambdas, their tables -/
theorem walk_ofD {l : PySem.W.OpenLaw} {k : Nat} {q : Program} {loose : List Str} {XP : (Str → Option Value) → Heap → Prop} {YP : World → Heap → Prop} {d : DefRec} {K : Params → PySem.W.Frag} {x : Str} (cs : List (Addr × Addr))
    (hn : l.most = some 63) (hdf : d.params.defaults = []) (hr : Room k callerA) (hY : ∀ (w : World) (h : Heap), YP w h → (K w.params).In h) (hT : ∀ (w : World) (h : Heap), YP w h → ∀ p ∈ cs, h.get? p.2 = some noTab)
    (hO : ∀ w : World, cs.all (fun p => ((K w.params).lookup p.2).isNone && PySem.W.codeHdIn (K w.params) p.1 p.2) = true) (hL : ∀ w : World, ((lamTabs (K w.params)).all fun p => (cs.map (·.2)).contains p.1) = true)
    (F : ∀ (w : World) (mg : Str → Option Value) (fa : Addr) (h : Heap), (K w.params).In h → h.Ns mainGlobals mg → mg d.name = some (.ref fa) →
      ∃ fd : FuncData, (∀ (s : Shared) (u : Value), BindsTo s fd ⟨[u], []⟩ [(x, u)]) ∧ ∀ base : Heap, (K w.params).In base → base.Ns mainGlobals mg → (∀ p ∈ cs, LamX.TabB base mg p.1 p.2) → FnD l.prog w (K w.params) mg base k fa fd [x] dspLaw) :
    PySem.W.WalkO q loose XP YP l.row.toRowW d [] (fun f vs => PySem.call f vs) := by
  refine Att.attach_callB hn hdf fun w s0 s1 mg mb fa o pm cd doc a vs ns G Y ho hd hcd hmg at_ hi few bits gens => ?_
  have KX := hY w _ Y
  obtain ⟨fd, hb, hF⟩ := F w mg fa _ KX G.T.g hmg
  have both : ∀ p ∈ cs, (K w.params).lookup p.2 = none ∧ PySem.W.codeHdIn (K w.params) p.1 p.2 = true := fun p hp => by
    have z := List.all_eq_true.mp (hO w) p hp
    rw [Bool.and_eq_true] at z
    exact ⟨Option.isNone_iff_eq_none.mp z.1, z.2⟩
  exact law_callL KX G.T.g G.T.b G.T.builtins G.T.nolimit gens (hT w _ Y) (fun p hp => (both p hp).1) (fun p hp => PySem.W.codeHd_of_K KX (both p hp).2) (fun p hp => List.contains_iff_mem.mp (List.all_eq_true.mp (hL w) p hp)) G.T.bmain at_ hi few bits hr hF hb
end DL

set_option maxRecDepth 100000
set_option maxHeartbeats 2000000
/-! DK1: sorted(t, key=lambda x: x[0]), t a tuple of tuples that begin with a text. -/
namespace DKL
open PySem PySem.Spec PySem.W PyProof.Rows LamX L2
section
variable {P : Program} {w : World} {A : Around} {E : Value → Shared → Prop} {s : Shared}
end
end DKL
namespace DL
open PySem PySem.Spec PyProof.Rows LamX L2
section
variable {X : Cx} {W : WX} {pins : List (Addr × Obj)} {σ : L2.St} {H F : Hp} {s : Shared} {Z : Addr → Prop} {S : Store}
end
section
open PySem.Spec PySem.W
variable {P : Program} {w : World} {A : Around} {E : Value → Shared → Prop} {s : Shared} {β : Type}
end
end DL

set_option maxRecDepth 100000
set_option maxHeartbeats 2000000
/-! DTS1: sets whose keys lie on the heap (tuples of any keys): searched, added to, laid anew. -/
namespace DTS
open PySem PySem.Spec PyProof.Rows L2
/-- a kind of key on the heap that a set asks nothing odd of -/
structure HKey (P : Program) (w : World) (κ : Type) [DecidableEq κ] where
  kind : HeapKind P w κ
  cls : ∀ {A : Around} {E : Value → Shared → Prop} {s : Shared} {k : κ} {b : Addr} {Q : Bool → Shared → Prop}, kind.is s.heap k b → Q false s → wpAny (model P w) A (ofAClassStatement 8 (.ref b)) Q E s
  byv : ∀ {A : Around} {E : Value → Shared → Prop} {s : Shared} {k : κ} {b : Addr} {Q : Bool → Shared → Prop}, kind.is s.heap k b → (∀ q, Q q s) → wpAny (model P w) A (hashByValue 8 (.ref b)) Q E s
  move : ∀ {h g : Heap} {k : κ} {b : Addr}, kind.is h k b → (∀ c o, h.get? c = some o → (∀ es ep t, o.data ≠ .set es ep t) → g.get? c = some o) → kind.is g k b
  some_ : ∀ {h : Heap} {k : κ} {b : Addr}, kind.is h k b → ∃ o, h.get? b = some o ∧ ∀ es ep t, o.data ≠ .set es ep t
section
variable {P : Program} {w : World} {κ : Type} [DecidableEq κ] (K : HKey P w κ)
def lines (L : List (Addr × κ)) : List (Int × Value) := L.map fun p => (K.kind.hash p.2, .ref p.1)
abbrev sums (L : List (Addr × κ)) : List Int := L.map fun p => K.kind.hash p.2
/-- the set at a holds just the keys of L, each once, at these addresses -/
structure Bag (h : Heap) (a : Addr) (L : List (Addr × κ)) (es : Array (Int × Value)) (t : SetTable) : Prop where
  body : ∃ ob ep, h.get? a = some ob ∧ ob.ExactSet ∧ ob.data = .set es ep t
  text : es.toList = lines K L
  tab : TabOk t (sums K L)
  once : (L.map (·.2)).Nodup
  keys : ∀ p ∈ L, K.kind.is h p.2 p.1
  led : w.params.followText "set-order" = true ∨ t.led = true
  wide : L.length * 5 < t.mask * 3
  small : L.length < 64
abbrev home (t : SetTable) (H : Int) : SetTable.Probe := runAt t.mask (SetTable.bits H % (t.mask + 1)) (SetTable.bits H)
end
section
variable {P : Program} {w : World} {κ : Type} [DecidableEq κ] {K : HKey P w κ} {A : Around} {E : Value → Shared → Prop} {s : Shared} {a : Addr} {L : List (Addr × κ)} {es : Array (Int × Value)} {t : SetTable}
theorem lines_len {l : List (Int × Value)} (e : l = lines K L) : l.length = L.length := by
  rw [e]
  exact List.length_map ..
theorem Bag.size {h : Heap} (B : Bag K h a L es t) : es.size = L.length := lines_len (K := K) B.text
theorem fits_of {n : Nat} (sz : t.place.size = n) (dm : t.dummies = #[]) (le : n ≤ t.mask) : t.fits n = true := by
  have z : t.fill = n := by
    show t.place.size + t.dummies.size = n
    rw [dm, sz]
    rfl
  unfold SetTable.fits
  rw [z, sz]
  simp [le]
theorem Bag.fits {h : Heap} (B : Bag K h a L es t) : t.fits es.size = true := by
  have x := B.tab.sz
  have y := B.wide
  rw [List.length_map] at x
  exact fits_of (x.trans B.size.symm) B.tab.dm (by rw [B.size]; omega)
theorem lines_at {es : Array (Int × Value)} (e : es.toList = lines K L) {i : Nat} {p : Addr × κ} (hp : L[i]? = some p) : es[i]? = some (K.kind.hash p.2, .ref p.1) := by
  have z : (lines K L)[i]? = some (K.kind.hash p.2, .ref p.1) := by
    unfold lines
    rw [List.getElem?_map, hp]
    rfl
  rw [← e, Array.getElem?_toList] at z
  exact z
theorem Bag.stays {h g : Heap} (B : Bag K h a L es t) (ka : ∀ o, h.get? a = some o → g.get? a = some o) (kk : ∀ p ∈ L, K.kind.is g p.2 p.1) : Bag K g a L es t := by
  obtain ⟨ob, ep, at_, r⟩ := B.body
  exact { B with body := ⟨ob, ep, ka ob at_, r⟩, keys := kk }
/-- a key is not the set -/
theorem key_but {h g : Heap} {k : κ} {b : Addr} {ob : Obj} {ep : Nat} (kb : K.kind.is h k b) (at_ : h.get? a = some ob) (dt : ob.data = .set es ep t) (sb : Heap.SameBut a h g) : K.kind.is g k b := by
  refine K.move kb fun c o2 e2 hn => ?_
  have ne : c ≠ a := fun e => by
    rw [e, at_] at e2
    exact hn es ep t (Option.some.inj e2 ▸ dt)
  exact (sb.2 c ne).trans e2
/-- a search among such keys shows nothing -/
theorem unseen {k : κ} {b : Addr} {Q : Bool → Shared → Prop} (kb : K.kind.is s.heap k b) {ys : List Value} (all : ∀ y ∈ ys, ∃ j c, y = Value.ref c ∧ K.kind.is s.heap j c) (fin : Q false s) :
    wpAny (model P w) A (searchCouldBeSeen (.ref b) ys) Q E s := by
  unfold searchCouldBeSeen
  refine wpAny_bind (wpAny_forIn_list _ (fun rest r z => r.1 = none ∧ z = s ∧ ∀ y ∈ rest, ∃ j c, y = Value.ref c ∧ K.kind.is s.heap j c) _ ?_ ?_ _ _ ⟨rfl, rfl, all⟩)
  · rintro y rest r z ⟨e, rfl, hs⟩
    obtain ⟨j, c, rfl, kc⟩ := hs y List.mem_cons_self
    have tl : ∀ y ∈ rest, ∃ j c, y = Value.ref c ∧ K.kind.is z.heap j c := fun y hy => hs y (List.mem_cons_of_mem _ hy)
    dsimp only
    by_cases q : (b == c || (carriedByValue (.ref b) && carriedByValue (.ref c))) = true
    · exact wp_if_pos q (wpAny_pure ⟨rfl, rfl, tl⟩)
    · refine wp_if_neg q (wpAny_bind (K.kind.quiet kb ?_))
      simp only [Bool.not_true, Bool.false_eq_true, ↓reduceIte]
      refine wpAny_bind (K.kind.quiet kc ?_)
      simp only [Bool.not_true, Bool.false_eq_true, ↓reduceIte]
      refine wpAny_bind (K.cls kb ?_)
      simp only [Bool.false_eq_true, ↓reduceIte]
      refine wpAny_bind (K.cls kc ?_)
      simp only [Bool.false_eq_true, ↓reduceIte]
      exact wpAny_pure ⟨rfl, rfl, tl⟩
  · rintro ⟨r, u⟩ z ⟨e, rfl, _⟩
    dsimp only at e
    subst e
    exact wpAny_pure fin
theorem no_dummy {m : Nat} : ∀ (n : Nat) (p : SetTable.Probe), p.dummy = none → (nth m p n).dummy = none
  | 0, _, e => e
  | n + 1, p, e => no_dummy n (adv m p) (by
    unfold adv
    split <;> exact e)
theorem not_gave {h : Heap} (B : Bag K h a L es t) : ¬ t.gaveWay = true := by
  have z := mask_odd B.tab.mok
  unfold SetTable.gaveWay
  rw [z]
  decide
set_option maxHeartbeats 4000000 in
/-- the search, from the c-th step of its way on; n is the first empty slot of the way -/
theorem find_from (B : Bag K s.heap a L es t) {x : Addr} {k : κ} {H : Int} (eH : K.kind.hash k = H) (kx : K.kind.is s.heap k x) (rm : K.kind.room A) {n : Nat} (nb : n < 10 * SetTable.turns t.mask)
    (stop : way t.mask H n ∉ t.place.toList) (run : ∀ c, c < n → way t.mask H c ∈ t.place.toList) {Q : SetFound → Shared → Prop} (yes : k ∈ L.map (·.2) → Q (.there none) s) (no : k ∉ L.map (·.2) → Q (.free (way t.mask H n) false) s) :
    ∀ (fuel c : Nat) (st : Option SetTable.Probe), st.getD (t.probeStart H) = nth t.mask (home t H) c → c ≤ n → n - c < fuel →
      (∀ (i : Nat) (p : Addr × κ), L[i]? = some p → p.2 = k → ∃ d, c ≤ d ∧ d < n ∧ t.place.toList[i]? = some (way t.mask H d)) → wpAny (model P w) A (setSearchFrom a (.ref x) H true fuel st) Q E s
  | 0, _, _, _, _, lt, _ => (Nat.not_lt_zero _ lt).elim
  | fuel + 1, c, st, est, cn, lt, ahead => by
    obtain ⟨ob, ep, at_, ex, dt⟩ := B.body
    have len : t.place.toList.length = L.length := by
      rw [Array.length_toList, B.tab.sz, List.length_map]
    have hop : ∀ q, nth t.mask (nth t.mask (home t H) c) q = nth t.mask (home t H) (c + q) := fun q => (nth_add t.mask c (home t H) q).symm
    have hopj : ∀ q, (nth t.mask (nth t.mask (home t H) c) q).j = way t.mask H (c + q) := fun q => by rw [hop]
    have cnn : c + (n - c) = n := by omega
    have sum : ∀ (i : Nat) p, L[i]? = some p → ((es[i]?.map (·.1)).getD 0) = K.kind.hash p.2 := fun i p hp => by
      rw [lines_at B.text hp]
      rfl
    rw [setSearchFrom_succ]
    refine wpAny_bind (wpAny_setState_of at_ dt B.fits ?_)
    dsimp only
    refine wp_if_neg (not_gave B) ?_
    try refine wpAny_bind (wpAny_pure ?_)
    rcases go_spec t B.tab.ris B.tab.dm (fun i => (es[i]?.map (·.1)).getD 0) H (10 * SetTable.turns t.mask) (n - c) (nth t.mask (home t H) c) (no_dummy c _ rfl) (by omega)
        (fun q hq => by rw [hopj]; exact run _ (by omega)) (by rw [hopj, cnn]; exact stop) with ⟨q, i, qn, pi, hi, hn, go⟩ | ⟨hn, go⟩
    · rw [hopj] at pi
      have met : t.probe (fun i => (es[i]?.map (·.1)).getD 0) H (st.getD (t.probeStart H)) = some (.candidate (way t.mask H (c + q)) i (nth t.mask (home t H) (c + (q + 1)))) := by
        rw [est, ← hopj, ← hop]
        exact go
      rw [met]
      dsimp only
      have il : i < L.length := by
        rw [← len]
        exact (List.getElem?_eq_some_iff.mp pi).1
      obtain ⟨p, hp⟩ : ∃ p, L[i]? = some p := ⟨_, List.getElem?_eq_getElem il⟩
      have pL : p ∈ L := List.mem_of_getElem? hp
      have slot : t.slot (way t.mask H (c + q)) = .live i := slot_live B.tab.ris pi
      have cont : wpAny (model P w) A (searchRest a (.ref x) H true fuel es t (way t.mask H (c + q)) i (nth t.mask (home t H) (c + (q + 1)))) Q E s := by
        unfold searchRest
        rw [lines_at B.text hp]
        dsimp only
        refine wpAny_bind (wpAny_holding (K.kind.eqBool rm (B.keys p pL) kx ?_))
        refine wpAny_bind (wpAny_setState_of at_ dt B.fits ?_)
        dsimp only
        by_cases same : p.2 = k
        · exact wp_if_pos (by simp [same]) (wpAny_pure (yes (List.mem_map.mpr ⟨p, pL, same⟩)))
        · refine wp_if_neg (by simp [same]) ?_
          try refine wpAny_bind (wpAny_pure ?_)
          rw [sameMem]
          dsimp only
          simp only [slot, lines_at B.text hp, ↓reduceIte]
          refine wpAny_bind (wpAny_isSame_ref_self (wpAny_bind (wpAny_pure ?_)))
          simp only [↓reduceIte]
          refine wp_if_neg (by simp [same]) (find_from B eH kx rm nb stop run yes no fuel (c + (q + 1)) _ rfl (by omega) (by omega) fun i2 p2 h2 e2 => ?_)
          obtain ⟨d, cd, dn, pd⟩ := ahead i2 p2 h2 e2
          refine ⟨d, ?_, dn, pd⟩
          by_cases le : c + (q + 1) ≤ d
          · exact le
          · exfalso
            by_cases eq : d = c + q
            · subst eq
              have s2 := slot_live B.tab.ris pd
              rw [slot] at s2
              injection s2 with s2
              subst s2
              rw [hp] at h2
              cases h2
              exact same e2
            · refine hn (d - c) i2 (by omega) ?_ ((sum i2 p2 h2).trans ((congrArg K.kind.hash e2).trans eH))
              rw [hopj, show c + (d - c) = d by omega]
              exact pd
      by_cases ld : t.led = true
      · refine wp_if_neg (by simp [ld]) ?_
        try refine wpAny_bind (wpAny_pure ?_)
        exact cont
      · refine wp_if_pos (by simp [ld]) (wpAny_bind (unseen kx (fun y hy => ?_) ?_))
        · obtain ⟨e, he, rfl⟩ := List.mem_map.mp hy
          have he2 : e ∈ es.toList := by
            have z : e ∈ es ∧ e.1 = H := by simpa using he
            simpa using z.1
          rw [B.text] at he2
          obtain ⟨p2, m2, rfl⟩ := List.mem_map.mp he2
          exact ⟨p2.2, p2.1, rfl, B.keys p2 m2⟩
        · refine wp_if_neg Bool.false_ne_true ?_
          try refine wpAny_bind (wpAny_pure ?_)
          exact cont
    · have met : t.probe (fun i => (es[i]?.map (·.1)).getD 0) H (st.getD (t.probeStart H)) = some (.empty (way t.mask H n) none) := by
        rw [hopj, cnn] at go
        rw [est]
        exact go
      rw [met]
      dsimp only
      refine wpAny_pure (no fun hm => ?_)
      obtain ⟨p2, m2, e2⟩ := List.mem_map.mp hm
      obtain ⟨i2, l2, h2⟩ := List.getElem_of_mem m2
      have h3 : L[i2]? = some p2 := by rw [List.getElem?_eq_getElem l2, h2]
      obtain ⟨d, cd, dn, pd⟩ := ahead i2 p2 h3 e2
      refine hn (d - c) i2 (by omega) ?_ ((sum i2 p2 h3).trans ((congrArg K.kind.hash e2).trans eH))
      rw [hopj, show c + (d - c) = d by omega]
      exact pd
/-- the search that adding begins with -/
theorem find_at (B : Bag K s.heap a L es t) {x : Addr} {k : κ} {H : Int} (eH : K.kind.hash k = H) (kx : K.kind.is s.heap k x) (rm : K.kind.room A) {Q : SetFound → Shared → Prop} (yes : k ∈ L.map (·.2) → Q (.there none) s)
    (no : ∀ n, k ∉ L.map (·.2) → way t.mask H n ∉ t.place.toList → (∀ c, c < n → way t.mask H c ∈ t.place.toList) → Q (.free (way t.mask H n) false) s) : wpAny (model P w) A (setSearch a (.ref x) H true) Q E s := by
  have wd := B.wide
  obtain ⟨n, nb, stop, run⟩ := B.tab.first (by rw [List.length_map]; omega) H
  have most : 10 * SetTable.turns t.mask < 100000 := by
    unfold SetTable.turns
    rcases B.tab.mok with e | e | e <;> rw [e] <;> decide
  unfold setSearch
  refine find_from B eH kx rm nb stop run yes (fun z => no n z stop run) 100000 0 none rfl (Nat.zero_le _) (by omega) fun i p hp pk => ?_
  have hi : (sums K L)[i]? = some H := by
    rw [List.getElem?_map, hp, ← eH, ← pk]
    rfl
  have il : i < t.place.toList.length := by
    rw [Array.length_toList, B.tab.sz]
    exact (List.getElem?_eq_some_iff.mp hi).1
  obtain ⟨d, dn, e⟩ := B.tab.before stop hi (List.getElem?_eq_getElem il)
  exact ⟨d, Nat.zero_le _, dn, by rw [List.getElem?_eq_getElem il, e]⟩
end
end DTS

set_option maxRecDepth 100000
set_option maxHeartbeats 2000000
/-! DTS2: sets whose keys lie on the heap: adding, laying anew, filling. -/
namespace DTS
open PySem PySem.Spec PyProof.Rows L2
section
variable {P : Program} {w : World} {κ : Type} [DecidableEq κ] {K : HKey P w κ} {A : Around} {E : Value → Shared → Prop} {s : Shared} {a : Addr} {L : List (Addr × κ)} {es : Array (Int × Value)} {t : SetTable}
theorem lines_mid (i : Nat) (p : Addr × κ) : lines K (L.take i ++ p :: L.drop i) = (lines K L).take i ++ (K.kind.hash p.2, .ref p.1) :: (lines K L).drop i := by
  unfold lines
  simp
theorem sums_mid (i : Nat) (p : Addr × κ) : sums K (L.take i ++ p :: L.drop i) = (sums K L).take i ++ K.kind.hash p.2 :: (sums K L).drop i := by
  simp
/-- what a list of places picks -/
theorem picks (e : es.toList = lines K L) : ∀ is : List Nat, (∀ i ∈ is, i < L.length) →
    is.filterMap (fun i => es[i]?) = lines K (is.filterMap fun i => L[i]?) ∧ sums K (is.filterMap fun i => L[i]?) = is.map fun i => (es.map (·.1)).getD i 0
  | [], _ => ⟨rfl, rfl⟩
  | i :: is, h => by
    have il := h i List.mem_cons_self
    obtain ⟨u, v⟩ := picks e is fun j hj => h j (List.mem_cons_of_mem _ hj)
    have hp : L[i]? = some L[i] := List.getElem?_eq_getElem il
    have he := lines_at e hp
    have hg : (es.map (·.1)).getD i 0 = K.kind.hash L[i].2 := by
      rw [Array.getD_eq_getD_getElem?, Array.getElem?_map, he]
      rfl
    rw [List.filterMap_cons_some he, List.filterMap_cons_some hp, u]
    refine ⟨rfl, ?_⟩
    show K.kind.hash L[i].2 :: sums K (is.filterMap fun i => L[i]?) = (es.map (·.1)).getD i 0 :: is.map fun i => (es.map (·.1)).getD i 0
    rw [hg, v]
theorem range_picks : ∀ (M : List (Addr × κ)), (List.range M.length).filterMap (fun i => M[i]?) = M := by
  intro M
  have z : ∀ n, n ≤ M.length → (List.range n).filterMap (fun i => M[i]?) = M.take n := by
    intro n
    induction n with
    | zero => exact fun _ => rfl
    | succ n ih =>
      intro le
      have hp : M[n]? = some (M[n]'le) := List.getElem?_eq_getElem le
      rw [List.range_succ, List.filterMap_append, ih (Nat.le_of_succ_le le), List.take_succ, List.filterMap_cons_some hp, hp]
      rfl
  rw [z _ (Nat.le_refl _), List.take_length]
set_option maxHeartbeats 4000000 in
/-- the set laid anew on a wider table -/
theorem lay_anew {ob : Obj} {ep : Nat} (at_ : s.heap.get? a = some ob) (ex : ob.ExactSet) (dt : ob.data = .set es ep t) (tx : es.toList = lines K L) (sz : t.place.size = es.size) (dm : t.dummies = #[]) (le : es.size ≤ t.mask)
    (once : (L.map (·.2)).Nodup) (keys : ∀ p ∈ L, K.kind.is s.heap p.2 p.1) (led : w.params.followText "set-order" = true ∨ t.led = true) (small : L.length < 64) {n m : Nat}
    (em : SetTable.sizeAbove n - 1 = m) (hm : MaskOk m) (top : SetTable.sizeAbove n ≤ 128) (wide : L.length * 5 < m * 3) {Q : Unit → Shared → Prop}
    (fin : ∀ g M fs u, Heap.SameBut a s.heap g → Bag K g a M fs u → M.Perm L → Q () { s with heap := g }) : wpAny (model P w) A (setRelay a n) Q E s := by
  have len : es.size = L.length := lines_len (K := K) tx
  obtain ⟨u, order, eu, perm, tab, e1, e2, e3, _⟩ := relaid_ok t (hs := es.map (·.1)) (wanted := n) em hm (by rw [Array.size_map, len]; omega)
  rw [Array.size_map, len] at perm
  obtain ⟨g1, g2⟩ := picks (K := K) tx order.toList fun i hi => List.mem_range.mp (perm.mem_iff.mp hi)
  have pm : (order.toList.filterMap fun i => L[i]?).Perm L := by
    have z := perm.filterMap fun i => L[i]?
    rw [range_picks] at z
    exact z
  generalize (order.toList.filterMap fun i => L[i]?) = M at g1 g2 pm
  have tl : (order.filterMap fun i => es[i]?).toList = lines K M := by
    rw [Array.toList_filterMap]
    exact g1
  have sz2 : (order.filterMap fun i => es[i]?).size = es.size := (lines_len (K := K) tl).trans (pm.length_eq.trans len.symm)
  rw [← g2] at tab
  rw [setRelay_eq]
  refine wpAny_bind (wpAny_setState_of at_ dt (fits_of sz dm le) ?_)
  dsimp only
  refine wp_if_neg (by rw [sizeLine_eq]; omega) ?_
  try refine wpAny_bind (wpAny_pure ?_)
  rw [eu]
  dsimp only
  refine wpAny_bind (wp_if_neg (by rw [sz2]; simp) ?_)
  try refine wpAny_bind (wpAny_pure ?_)
  refine wpAny_pure ?_
  dsimp only
  refine wpAny_storeSet_of at_ dt ?_ (by rw [sz2, len, sizeLine_eq]; omega)
  have sb : Heap.SameBut a s.heap (s.heap.update a (Obj.putSet (order.filterMap fun i => es[i]?) u)) := Heap.SameBut.update ..
  refine fin _ M (order.filterMap fun i => es[i]?) u sb ?_ pm
  exact {
    body := ⟨_, _, store_at at_ dt, ⟨ex.1, ex.2.1, ex.2.2⟩, rfl⟩
    text := tl
    tab := tab
    once := (pm.map (·.2)).nodup_iff.mpr once
    keys := fun p hp => key_but (keys p (pm.mem_iff.mp hp)) at_ dt sb
    led := led.imp id fun z => e2.trans z
    wide := by rw [pm.length_eq, e1]; exact wide
    small := by rw [pm.length_eq]; exact small }
theorem by_kind {x : Addr} {k : κ} {β : Type} (kx : K.kind.is s.heap k x) {c : Bool} {J : Bool → Sem β} {Q : β → Shared → Prop} (fin : ∀ q, wpAny (model P w) A (J q) Q E s) :
    wpAny (model P w) A (if c = true then hashByValue 8 (.ref x) >>= J else pure true >>= J) Q E s := by
  by_cases z : c = true
  · exact wp_if_pos z (wpAny_bind (K.byv kx fin))
  · exact wp_if_neg z (wpAny_bind (wpAny_pure (fin true)))
set_option maxHeartbeats 4000000 in
/-- one key more -/
theorem put_key (B : Bag K s.heap a L es t) {x : Addr} {k : κ} {H : Int} (eH : K.kind.hash k = H) (kx : K.kind.is s.heap k x) (rm : K.kind.room A) (small : L.length + 1 < 64) {Q : Bool → Shared → Prop}
    (fin : ∀ b g M fs u, Heap.SameBut a s.heap g → Bag K g a M fs u → (k ∈ L.map (·.2) → M = L) → (k ∉ L.map (·.2) → M.Perm ((x, k) :: L)) → Q b { s with heap := g }) :
    wpAny (model P w) A (setAddHashed a (.ref x) H) Q E s := by
  obtain ⟨ob, ep, at_, ex, dt⟩ := B.body
  have len := B.size
  have wide := B.wide
  unfold setAddHashed
  refine wpAny_holding ?_
  show wpAny _ _ (setAddHashedIn a (.ref x) H (99999 + 1)) Q E s
  rw [setAddHashedIn_succ]
  refine wpAny_bind (wpAny_setState_of at_ dt B.fits ?_)
  dsimp only
  refine wp_if_neg (by simp [byScan, Value.scannable]) ?_
  try refine wpAny_bind (wpAny_pure ?_)
  refine wpAny_bind (find_at B eH kx rm (fun z => ?_) fun n out stop run => ?_)
  · exact wpAny_pure (fin false s.heap L es t (Heap.SameBut.refl a s.heap) B (fun _ => rfl) fun y => absurd z y)
  · dsimp only
    refine wpAny_bind (wpAny_setState_of at_ dt B.fits ?_)
    dsimp only
    obtain ⟨r1, r2, tab, emask, eled, eplain, _, _, efill⟩ := B.tab.put stop run
    rw [r1]
    generalize (t.put (way t.mask H n)).1 = v at tab emask eled eplain efill ⊢
    generalize SetTable.below t.place (way t.mask H n) = i at r2 tab ⊢
    refine by_kind kx fun q => ?_
    try dsimp only
    have eu : ∃ u, (if q = true then v else { v with plain := false }) = u ∧ TabOk u ((sums K L).take i ++ H :: (sums K L).drop i) ∧ u.mask = t.mask ∧ u.led = t.led ∧ u.fill = (sums K L).length + 1 := by
      cases q
      · exact ⟨_, rfl, ⟨tab.ris, tab.dm, tab.sz, tab.mok, tab.bd, tab.reach⟩, emask, eled, efill⟩
      · exact ⟨_, rfl, tab, emask, eled, efill⟩
    clear tab emask eled eplain efill
    obtain ⟨u, eu, tab, emask, eled, efill⟩ := eu
    rw [eu]
    have pm := put_perm L i (x, k)
    have tl : (SetTable.insertAt es i (H, Value.ref x)).toList = lines K (L.take i ++ (x, k) :: L.drop i) := by
      rw [SetTable.toList_insertAt, lines_mid, B.text, eH]
    have et : sums K (L.take i ++ (x, k) :: L.drop i) = (sums K L).take i ++ H :: (sums K L).drop i := by
      rw [sums_mid, eH]
    rw [← et] at tab
    generalize SetTable.insertAt es i (H, Value.ref x) = fs at tl ⊢
    generalize L.take i ++ (x, k) :: L.drop i = M at pm tl tab et
    have lenM : M.length = L.length + 1 := pm.length_eq
    have lenF : fs.size = L.length + 1 := (lines_len (K := K) tl).trans lenM
    have onceM : (M.map (·.2)).Nodup := (pm.map (·.2)).nodup_iff.mpr (List.nodup_cons.mpr ⟨out, B.once⟩)
    have full : u.tooFull = true ↔ u.mask * 3 ≤ (L.length + 1) * 5 := by
      unfold SetTable.tooFull
      rw [efill, List.length_map]
      simp
    refine wpAny_bind (wpAny_storeSet_of at_ dt ?_ (by rw [lenF, sizeLine_eq]; omega))
    have sb : Heap.SameBut a s.heap (s.heap.update a (Obj.putSet fs u)) := Heap.SameBut.update ..
    have at2 := store_at (es' := fs) (t' := u) at_ dt
    generalize s.heap.update a (Obj.putSet fs u) = g at sb at2 ⊢
    have keysM : ∀ p ∈ M, K.kind.is g p.2 p.1 := fun p hp => by
      rcases List.mem_cons.mp (pm.mem_iff.mp hp) with rfl | hp
      · exact key_but kx at_ dt sb
      · exact key_but (B.keys p hp) at_ dt sb
    have ledM : w.params.followText "set-order" = true ∨ u.led = true := B.led.imp id fun z => eled.trans z
    have szu : u.place.size = fs.size := by
      rw [tab.sz, List.length_map, lenM, lenF]
    by_cases q : u.tooFull = true
    · have lo := full.mp q
      rw [len]
      have two : (t.mask = 7 ∧ L.length = 4) ∨ (t.mask = 31 ∧ L.length = 18) := by
        rw [emask] at lo
        rcases B.tab.mok with e | e | e <;> rw [e] at lo wide ⊢ <;> omega
      have go : ∀ m, SetTable.sizeAbove (SetTable.grown (L.length + 1)) - 1 = m → MaskOk m → SetTable.sizeAbove (SetTable.grown (L.length + 1)) ≤ 128 → (L.length + 1) * 5 < m * 3 →
          wpAny (model P w) A (setRelay a (SetTable.grown (L.length + 1))) (fun _ z => wpAny (model P w) A (pure true) Q E z) E { s with heap := g } := fun m c1 c2 c3 c4 =>
        lay_anew (s := { s with heap := g }) at2 ⟨ex.1, ex.2.1, ex.2.2⟩ rfl tl szu tab.dm (by rw [lenF, emask]; rcases two with ⟨e, f⟩ | ⟨e, f⟩ <;> omega) onceM keysM ledM (by omega) c1 c2 c3 (by rw [lenM]; exact c4)
          fun g2 M2 fs2 u2 sb2 B2 pm2 => wpAny_pure (fin true g2 M2 fs2 u2 (sb.trans sb2) B2 (fun z => absurd z out) fun _ => pm2.trans pm)
      first
        | refine wpAny_bind (wp_if_pos (by simp [q]) ?_)
        | refine wp_if_pos (by simp [q]) (wpAny_bind ?_)
      rcases two with ⟨_, e⟩ | ⟨_, e⟩
      · exact go 31 (by rw [e, size_20]) (.inr (.inl rfl)) (by rw [e, size_20]; decide) (by omega)
      · exact go 127 (by rw [e, size_76]) (.inr (.inr rfl)) (by rw [e, size_76]; decide) (by omega)
    · have hi : ¬ u.mask * 3 ≤ (L.length + 1) * 5 := fun z => q (full.mpr z)
      first
        | refine wp_if_neg (by simp [q]) ?_
        | refine wpAny_bind (wp_if_neg (by simp [q]) (wpAny_pure ?_))
      refine wpAny_pure (fin true g M fs u sb ?_ (fun z => absurd z out) fun _ => pm)
      exact {
        body := ⟨_, _, at2, ⟨ex.1, ex.2.1, ex.2.2⟩, rfl⟩
        text := tl
        tab := tab
        once := onceM
        keys := keysM
        led := ledM
        wide := by rw [lenM]; omega
        small := by rw [lenM]; exact small }
end
end DTS

set_option maxRecDepth 100000
set_option maxHeartbeats 2000000
/-! DTS3: sets whose keys lie on the heap: made of a list or a tuple. -/
namespace DTS
open PySem PySem.Spec PyProof.Rows L2
abbrev Old (h g : Heap) : Prop := ∀ b o, h.get? b = some o → g.get? b = some o
section
variable {κ : Type} [DecidableEq κ]
/-- not too many different keys -/
def Few (ks : List (Addr × κ)) : Prop := ∀ M : List κ, M.Nodup → (∀ k ∈ M, k ∈ ks.map (·.2)) → M.length < 63
/-- what a set has of the first i items -/
structure Part (ks : List (Addr × κ)) (i : Nat) (L : List (Addr × κ)) : Prop where
  inn : ∀ p ∈ L, p ∈ ks.take i
  all : ∀ p ∈ ks.take i, p.2 ∈ L.map (·.2)
theorem Part.none (ks : List (Addr × κ)) : Part ks 0 [] := ⟨fun p h => (List.not_mem_nil h).elim, fun p h => by simp at h⟩
theorem Part.in_ {ks L : List (Addr × κ)} {i : Nat} (g : Part ks i L) : ∀ p ∈ L, p ∈ ks := fun p hp => List.mem_of_mem_take (g.inn p hp)
theorem Part.few {ks L : List (Addr × κ)} {i : Nat} (g : Part ks i L) (f : Few ks) (nd : (L.map (·.2)).Nodup) : L.length < 63 := by
  have z := f _ nd fun k hk => by
    obtain ⟨p, hp, e⟩ := List.mem_map.mp hk
    exact List.mem_map.mpr ⟨p, g.in_ p hp, e⟩
  rw [List.length_map] at z
  exact z
theorem Part.step {ks L M : List (Addr × κ)} {i : Nat} {p : Addr × κ} (g : Part ks i L) (h : ks[i]? = some p) (old : p.2 ∈ L.map (·.2) → M = L) (new : p.2 ∉ L.map (·.2) → M.Perm (p :: L)) : Part ks (i + 1) M := by
  have e := DLS.take_succ_at h
  have at_end : p ∈ ks.take (i + 1) := by rw [e]; simp
  have up : ∀ q ∈ ks.take i, q ∈ ks.take (i + 1) := fun q hq => by rw [e]; exact List.mem_append_left _ hq
  have split : ∀ q ∈ ks.take (i + 1), q ∈ ks.take i ∨ q = p := fun q hq => by
    rw [e] at hq
    simpa using hq
  by_cases c : p.2 ∈ L.map (·.2)
  · rw [old c]
    refine ⟨fun q hq => up q (g.inn q hq), fun q hq => ?_⟩
    rcases split q hq with z | rfl
    · exact g.all q z
    · exact c
  · have pm := new c
    refine ⟨fun q hq => ?_, fun q hq => ?_⟩
    · rcases List.mem_cons.mp (pm.mem_iff.mp hq) with rfl | z
      · exact at_end
      · exact up q (g.inn q z)
    · refine (pm.map (·.2)).mem_iff.mpr (List.mem_cons.mpr ?_)
      rcases split q hq with z | rfl
      · exact .inr (g.all q z)
      · exact .inl rfl
end
section
variable {P : Program} {w : World} {κ : Type} [DecidableEq κ] {K : HKey P w κ} {A : Around} {E : Value → Shared → Prop} {s : Shared}
abbrev newSet (w : World) : Obj := { cls := .type "set", dict := none, data := .set #[] 0 (.fresh 0 0 (!w.params.followText "set-order")) }
set_option maxHeartbeats 4000000 in
/-- the loop that fills a set -/
theorem fill {I : Addr} {fp wr : List Addr} {G : Array GenState → Array GenState → Prop} {n : Nat} {Pv : Nat → Value → Prop} {St : Nat → Shared → Prop} {R : Result → Shared → Prop}
    (W : WalksS P w A.in1 I fp wr G n Pv St) (T : Addr) (off : T ∉ fp) (ks : List (Addr × κ)) (hn : n = ks.length) (few : Few ks) (val : ∀ i v, Pv i v → ∃ p, ks[i]? = some p ∧ v = Value.ref p.1)
    {h0 : Heap} (kh : ∀ p ∈ ks, K.kind.is h0 p.2 p.1) (noT : h0.get? T = none) (noW : ∀ b ∈ wr, h0.get? b = none) (rm : K.kind.room A.in1) :
    ∀ (m i : Nat) (s : Shared), n - i = m → i ≤ n → St i s → Old h0 s.heap → (∃ L es t, Bag K s.heap T L es t ∧ Part ks i L) →
      (∀ s' L es t, Moved (T :: wr) G s s' → Bag K s'.heap T L es t → Part ks n L → Old h0 s'.heap → R (.ok (.ret .none)) s') →
      codeAny (model P w) A (.builtin "set.update.loop" ⟨[.ref T, .ref I], []⟩) R s := by
  have offw : T ∉ wr := fun h => off (W.sub _ h)
  have wider : ∀ b ∈ wr, b ∈ T :: wr := fun b hb => List.mem_cons_of_mem _ hb
  have oldM : ∀ {s s' : Shared}, Moved wr G s s' → Old h0 s.heap → Old h0 s'.heap := fun mv old b o e =>
    mv.heap b o (fun z => by rw [noW b z] at e; cases e) (old b o e)
  have bagM : ∀ {s s' : Shared} {i : Nat} {L es t}, Moved wr G s s' → Old h0 s.heap → Part ks i L → Bag K s.heap T L es t → Bag K s'.heap T L es t := fun mv old part bag =>
    bag.stays (fun o e => mv.heap T o offw e) fun p hp => K.move (kh p (part.in_ p hp)) fun c o e _ => oldM mv old c o e
  intro m
  induction m with
  | zero =>
    intro i s em hi st old ⟨L, es, t, bag, part⟩ fin
    have z : i = n := by omega
    subst z
    refine codeAny_builtin F.entry_set_update_loop ?_
    rw [Around.under_plainId F.plain_set_update_loop _]
    show wpAny _ A.in1 (pyNext (.ref I) >>= _) _ _ s
    refine wpAny_bind (W.done s _ _ st fun s' mv => ?_)
    show wpAny _ A.in1 (ret Value.none) _ _ s'
    exact wpAny_pure (fin s' L es t (mv.mono wider) (bagM mv old part bag) part (oldM mv old))
  | succ m ih =>
    intro i s em hi st old ⟨L, es, t, bag, part⟩ fin
    have lt : i < n := by omega
    refine codeAny_builtin F.entry_set_update_loop ?_
    rw [Around.under_plainId F.plain_set_update_loop _]
    show wpAny _ A.in1 (pyNext (.ref I) >>= _) _ _ s
    refine wpAny_bind (W.item i s _ _ lt st fun v s' hv st' mv => ?_)
    obtain ⟨p, hp, rfl⟩ := val i v hv
    have old' := oldM mv old
    have bag' := bagM mv old part bag
    have kx : K.kind.is s'.heap p.2 p.1 := K.move (kh p (List.mem_of_getElem? hp)) fun c o e _ => old' c o e
    show wpAny _ A.in1 (holding [Value.ref p.1] (setAdd T (.ref p.1)) >>= _) _ _ s'
    refine wpAny_bind (wpAny_holding ?_)
    unfold setAdd
    refine wpAny_holding (wpAny_bind (K.kind.pyHash rm kx ?_))
    have le : s'.toks ≤ s'.toks + K.kind.draws p.2 := Nat.le_add_right _ _
    refine put_key (s := { s' with toks := s'.toks + K.kind.draws p.2 }) bag' rfl kx rm (by have := part.few few bag.once; omega) fun b g M fs u sb bag2 c1 c2 => ?_
    have old2 : Old h0 g := fun b o e => (sb.2 b fun z => by rw [z, noT] at e; cases e).trans (old' b o e)
    refine wpAny_pure ⟨plainId_quiet F.plain_set_update_loop _, ih (i + 1) _ (by omega) lt (W.frame _ s' _ _ st' le fun b hb o e => ?_) old2 ⟨M, fs, u, bag2, part.step hp c1 c2⟩ fun s'' M2 fs2 u2 mv2 bag3 part3 old3 => ?_⟩
    · rw [sb.2 b fun z : b = T => off (z ▸ hb)]; exact e
    · refine fin s'' M2 fs2 u2 (Moved.trans W.gtrans ((mv.mono wider).then_heap le fun b o hb e => ?_) mv2) bag3 part3 old3
      rw [sb.2 b fun z : b = T => hb (z ▸ List.mem_cons_self)]; exact e

set_option maxHeartbeats 4000000 in
set_option maxHeartbeats 4000000 in
end
end DTS

set_option maxRecDepth 100000
set_option maxHeartbeats 2000000
/-! DL16: the signs of a text, walked. -/
namespace DL
open PySem PySem.Spec L2
def signs (z : Str) : List D := z.cps.toList.map fun c => D.str ⟨#[c]⟩
section
variable {X : Cx} {W : WX} {tg e : Expr} {te : DTE}
theorem itOk_str {K : PySem.W.Frag} {F : Hp} (z : Str) : ItOk K (Its z) (signs z) F where
  go := fun H S F' Z s R i hi => by
    have h : i < (signs z).length := hi
    unfold signs at h
    rw [List.length_map, Array.length_toList] at h
    exact h
  stop := fun H S F' Z s R => by
    show z.cps.size ≤ (signs z).length
    unfold signs
    rw [List.length_map, Array.length_toList]
    exact Nat.le_refl _
  yld := fun H S F' Z s R i x H' hi hy => by
    obtain ⟨rfl, c, hc, rfl⟩ := hy
    refine ⟨F', .str ⟨#[c]⟩, .refl R, ?_, .str _⟩
    unfold signs
    rw [List.getElem?_map, Array.getElem?_toList, hc]
    rfl
theorem di_str (h : DE X W e te) : DI X W tg e (fun ρ S Q E => te ρ S (fun d S1 => ∃ z : Str, d = .str z ∧ Q (signs z) S1) E) := ⟨pi_imp (pi_str h.pe) fun σ H P ⟨ρ, S, F, Z, Q, E, R, V, q, k, x⟩ => ⟨ρ, S, F, Z, _, E, R, V, q, fun v H1 ⟨d, S1, F1, A1, i1, z, hd, q1⟩ => by
  subst hd
  cases i1
  exact ⟨z, rfl, k _ _ _ S1 F1 A1 (itOk_str z) q1⟩, x⟩⟩
end
end DL

set_option maxRecDepth 100000
set_option maxHeartbeats 2000000
/-! DLK: short rules for the built-in names, with readings that compute. -/
namespace DL
open PySem PySem.Spec L2
/-- no built-in name is taken by the text -/
structure Bis (mg : Str → Option Value) : Prop where
  len : mg "len" = none
  isi : mg "isinstance" = none
  all : mg "all" = none
  tuple : mg "tuple" = none
  list : mg "list" = none
  dict : mg "dict" = none
  set : mg "set" = none
  sorted : mg "sorted" = none
  int : mg "int" = none
  str : mg "str" = none
  bool : mg "bool" = none
  repr : mg "repr" = none
  range : mg "range" = none
  zip : mg "zip" = none
  super : mg "super" = none
/-- the length of what has one -/
def lenM : Option M → Option Nat
  | some (.lst ds) => some ds.length
  | _ => none
def lenD (S : Store) : D → Option Nat
  | .str z => if z.length ≤ sizeLine then some z.length else none
  | .tup ds => some ds.length
  | .kup ds => some ds.length
  | .ctp ds => some ds.length
  | .lst ds => some ds.length
  | .scr ds => some ds.length
  | .ref a => lenM (S a)
  | _ => none
theorem rdLen_of {S : Store} {d : D} {n : Nat} {Q : DQ} (h : lenD S d = some n) (q : Q (.int n) S) : rdLen [d] S Q := by
  cases d with
  | str z =>
    have h' : (if z.length ≤ sizeLine then some z.length else none) = some n := h
    split at h'
    · cases h'
      exact ⟨by assumption, q⟩
    · cases h'
  | tup ds => cases h; exact q
  | kup ds => cases h; exact q
  | ctp ds => cases h; exact q
  | lst ds => cases h; exact q
  | scr ds => cases h; exact q
  | ref a =>
    have h' : lenM (S a) = some n := h
    cases e : S a with
    | none => rw [e] at h'; cases h'
    | some m =>
      cases m with
      | lst ds =>
        rw [e] at h'
        cases h'
        exact ⟨ds, e, q⟩
      | _ => rw [e] at h'; cases h'
  | _ => cases h
/-- one argument, computed -/
def rd1 {α : Type} (f : Store → D → Option α) (g : α → D) : DRL := fun xs S Q => match xs with
  | [d] => ∃ a, f S d = some a ∧ Q (g a) S
  | _ => False
theorem lift_rd1 {K : PySem.W.Frag} {α : Type} {f : Store → D → Option α} {g : α → D} {r : List V → Hp → VK → Prop} {rd : DRL} (l : LiftL K r rd) (h : ∀ S d a Q, f S d = some a → Q (g a) S → rd [d] S Q) : LiftL K r (rd1 f g) := by
  intro Z H S F x v Q P R iv q k
  match x, iv, q with
  | [d], iv, ⟨a, e, q⟩ => exact l Z H S F [d] v Q P R iv (h S d a Q e q) k
def rdIsi2 : DRL := fun xs S Q => match xs with
  | [d, .ty n] => ∃ t, tyD S d = some t ∧ n ∈ tyIn ∧ Q (.bl (isB t n)) S
  | _ => False
theorem lift_isi2 {K : PySem.W.Frag} : LiftL K (rIsi K) rdIsi2 := by
  intro Z H S F x v Q P R iv q k
  match x, iv, q with
  | [d, .ty n], iv, ⟨t, e, m, q⟩ => exact lift_isi Z H S F [d, .ty n] v Q P R iv ⟨d, n, t, rfl, e, m, q⟩ k
section
variable {X : Cx} {W : WX} {e : Expr} {te : DTE} {x : Str} {p p2 pos : Pos} {n : String}
theorem de_tyN (hm : X.mg x = none) (hv : bootBuiltins x = some (.type n)) (hg : Gl X x := by rfl) (hn : x ≠ "__name__" := by decide) (hd : (x == ("__debug__" : Str)) = false := by decide) : DE X W (.Name x pos) (dC (.ty n)) :=
  de_c (pe_bltn (v := .ty n) hg hm hv rfl hn hd) fun _ => .ty n
theorem de_len (B : Bis X.mg) (he : DE X W e te) (hg : Gl X "len" := by rfl) (hs : starEach [e] X.env = (false, eval e X.env) :: starEach [] X.env := by rfl) (hpl : (backTo pos (starEach [] X.env)).any (·.1) = false := by rfl) :
    DE X W (.Call (.Name "len" p) [e] [] pos) (dCB (rd1 lenD fun n : Nat => .int n) (dCons te dNil)) :=
  de_callB call_len (lift_rd1 lift_len fun S d a Q => rdLen_of) B.len PySem.boot_len (da_cons he da_nil hs) hg (by decide) (by decide) hs hpl
theorem de_isi (B : Bis X.mg) (hx : X.mg x = none) (hv : bootBuiltins x = some (.type n)) (he : DE X W e te) (hg : Gl X "isinstance" := by rfl) (hgx : Gl X x := by rfl) (hn : x ≠ "__name__" := by decide) (hd : (x == ("__debug__" : Str)) = false := by decide)
    (hs : starEach [e, .Name x p2] X.env = (false, eval e X.env) :: starEach [.Name x p2] X.env := by rfl) (hs2 : starEach [.Name x p2] X.env = (false, eval (.Name x p2) X.env) :: starEach [] X.env := by rfl) (hpl : (backTo pos (starEach [.Name x p2] X.env)).any (·.1) = false := by rfl) :
    DE X W (.Call (.Name "isinstance" p) [e, .Name x p2] [] pos) (dCB rdIsi2 (dCons te (dCons (dC (.ty n)) dNil))) :=
  de_callB call_isi lift_isi2 B.isi PyProof.Rows.boot_isinstance (da_cons he (da_cons (de_tyN hx hv hgx hn hd) da_nil hs2) hs) hg (by decide) (by decide) hs hpl
theorem de_tuple (B : Bis X.mg) (he : DE X W e te) (hg : Gl X "tuple" := by rfl) (hs : starEach [e] X.env = (false, eval e X.env) :: starEach [] X.env := by rfl) (hpl : (backTo pos (starEach [] X.env)).any (·.1) = false := by rfl) :
    DE X W (.Call (.Name "tuple" p) [e] [] pos) (dCB (rd1 itemsD D.tup) (dCons te dNil)) :=
  de_callTy call_tuple_of (lift_rd1 lift_tuple fun S d a Q h q => ⟨d, a, rfl, h, q⟩) B.tuple PyProof.Rows.boot_tuple (da_cons he da_nil hs) hg (by decide) (by decide) hs hpl
theorem de_list (B : Bis X.mg) (he : DE X W e te) (hg : Gl X "list" := by rfl) (hs : starEach [e] X.env = (false, eval e X.env) :: starEach [] X.env := by rfl) (hpl : (backTo pos (starEach [] X.env)).any (·.1) = false := by rfl) :
    DE X W (.Call (.Name "list" p) [e] [] pos) (dCB (rd1 itemsD D.lst) (dCons te dNil)) :=
  de_callTy call_list_of (lift_rd1 lift_list fun S d a Q h q => ⟨d, a, rfl, h, q⟩) B.list PyProof.Rows.boot_list (da_cons he da_nil hs) hg (by decide) (by decide) hs hpl
theorem de_all (hc : X.calm = true) (B : Bis X.mg) (he : DE X W e te) (hg : Gl X "all" := by rfl) (hs : starEach [e] X.env = (false, eval e X.env) :: starEach [] X.env := by rfl) (hpl : (backTo pos (starEach [] X.env)).any (·.1) = false := by rfl) :
    DE X W (.Call (.Name "all" p) [e] [] pos) (dCB rdAll (dCons te dNil)) :=
  de_callB (cr_all hc) lift_all B.all PyProof.Rows.boot_all (da_cons he da_nil hs) hg (by decide) (by decide) hs hpl
/-- globals that hold texts, ints -/
theorem de_globS {z : Str} {t : Tok} (hm : X.mg x = some (.str z t)) (hg : Gl X x := by rfl) (hd : (x == ("__debug__" : Str)) = false := by decide) : DE X W (.Name x pos) (dC (.str z)) :=
  de_glob (v := .str z) hm ⟨t, rfl⟩ (fun _ => .str z) hg hd
theorem de_globI {z : Int} {t : Tok} (hm : X.mg x = some (.int z t)) (hg : Gl X x := by rfl) (hd : (x == ("__debug__" : Str)) = false := by decide) : DE X W (.Name x pos) (dC (.int z)) :=
  de_glob (v := .int z) hm ⟨t, rfl⟩ (fun _ => .int z) hg hd
end
/-- both ways of a test -/
theorem iteB {c : Bool} {A B : Prop} (h : c = true → A) (g : c = false → B) : if c = true then A else B := by
  cases c with
  | true => exact iteT (h rfl)
  | false => exact iteF (g rfl)
/-- a comprehension that asks each item the same pure question, nothing left out -/
theorem lcgo_map {α : Type} {tg : Tgt} {te : DTE} {ρ : Sl} (enc g : α → D) {S : Store} {Q : List D → Store → Prop} : ∀ (xs : List α) (acc : List D), (∀ x ∈ xs, ∃ ρ1, bindT tg (enc x) ρ = some ρ1 ∧ ∀ R : DQ, R (g x) S → te ρ1 S R (fun _ _ _ _ => False)) → Q (acc ++ xs.map g) S → dLcGo tg dYes te ρ (xs.map enc) acc S Q
  | [], acc, _, q => by
    rw [List.map_nil, List.append_nil] at q
    exact q
  | x :: r, acc, h, q => by
    obtain ⟨ρ1, e, k⟩ := h x List.mem_cons_self
    refine ⟨ρ1, e, ?_⟩
    show if true = true then te ρ1 S (fun y S2 => dLcGo tg dYes te ρ (r.map enc) (acc ++ [y]) S2 Q) (fun _ _ _ _ => False) else dLcGo tg dYes te ρ (r.map enc) acc S Q
    refine iteT (k _ ?_)
    refine lcgo_map enc g r (acc ++ [g x]) (fun d hd => h d (List.mem_cons_of_mem _ hd)) ?_
    rw [List.append_assoc]
    exact q
def isStrD : D → Bool
  | .str _ => true
  | _ => false
def isTupD : D → Bool
  | .tup _ => true
  | _ => false
def isIntD : D → Bool
  | .int _ => true
  | .bl _ => true
  | _ => false
def isBlD : D → Bool
  | .bl _ => true
  | _ => false
theorem ty_is {S : Store} {d : D} {t : String} (h : tyD S d = some t) : isB t "str" = isStrD d ∧ isB t "tuple" = isTupD d ∧ isB t "int" = isIntD d ∧ isB t "bool" = isBlD d := by
  cases d with
  | ref a =>
    have h : tyM (S a) = some t := h
    cases q : S a with
    | none => rw [q] at h; cases h
    | some m => cases m <;> rw [q] at h <;> cases h <;> exact ⟨by rfl, by rfl, by rfl, by rfl⟩
  | ty _ => cases h
  | obj _ _ _ => cases h; exact ⟨by rfl, by rfl, by rfl, by rfl⟩
  | exc _ _ _ => cases h
  | kup _ => cases h
  | ctp _ => cases h
  | kdK _ _ => cases h
  | dX _ _ _ => cases h
  | _ => cases h; exact ⟨by rfl, by rfl, by rfl, by rfl⟩
theorem isStr_of {d : D} (h : isStrD d = true) : ∃ z, d = .str z := by
  cases d with
  | str z => exact ⟨z, rfl⟩
  | _ => cases h
theorem isTup_of {d : D} (h : isTupD d = true) : ∃ z, d = .tup z := by
  cases d with
  | tup z => exact ⟨z, rfl⟩
  | _ => cases h
section
variable {P : Program} {w : World} {K : PySem.W.Frag} {mg : Str → Option Value} {base : Heap}
/-- THE RULE for a def, derivation and reading in one -/
theorem fn_ofE {k : Nat} {f : Addr} {x qual : Str} {st : Stmt} {fd : FuncData} {N ps : List Str} {dsp : DSp} (F : Fun K x qual st f fd) (S : FnScope N ps (defScope st)) (len : ∀ ds S Q E, dsp ds S Q E → ds.length = ps.length)
    (hbody : ∀ (cdv : Value) (A : Around) (outer : List Env) (s : Shared) (H : Hp) (E : XK), Room k (A.deeper (PyProof.Rows.envOfC qual (defScope st) s.heap.objs.size f cdv)) → (A.deeper (PyProof.Rows.envOfC qual (defScope st) s.heap.objs.size f cdv)).guards = some [] →
      L2N.Takes (cxD P w K mg base N qual (defScope st) f cdv A outer s H E) (Wd E) → PassesOwn (model P w) (A.deeper (PyProof.Rows.envOfC qual (defScope st) s.heap.objs.size f cdv)) (PyProof.Rows.envOfC qual (defScope st) s.heap.objs.size f cdv) (cxD P w K mg base N qual (defScope st) f cdv A outer s H E).xe →
      ∃ T, DSs (cxD P w K mg base N qual (defScope st) f cdv A outer s H E) (Wd E) (defBody st) T ∧ ∀ ds S Q E', dsp ds S Q E' → T { nx := fun _ S' => Q .non S', rt := Q, ex := fun _ => E' } (startD N ds) S) : FnD P w K mg base (k + 1) f fd ps dsp := by
  refine fn_ofG F S (fun vs H Q E ⟨ds, S, Fz, Z, Qd, Ed, R, iv, q, _⟩ => by rw [← iv.length]; exact len _ _ _ _ q) fun cdv A outer s H vs Q E hr hgd ⟨ds, Sd, Fz, Z, Qd, Ed, R, iv, q, k1, k2⟩ => ?_
  obtain ⟨T, hT, read⟩ := hbody cdv A outer s H E hr (guards_deeper hgd) (L2N.takes_of rfl rfl rfl rfl) (passes_of rfl)
  refine ⟨_, hT.pss, ?_⟩
  exact ⟨startD N ds, Sd, Fz, Z, _, R, envR_start iv, read ds Sd Qd Ed q, ⟨fun σ' H' ⟨ρ', S', F', A', _, q'⟩ => k1 _ _ ⟨.non, S', F', A', .non, q'⟩, fun v H' h => k1 v H' h, fun _ _ ⟨_, _, _, _, _, z⟩ => z.elim, fun _ _ ⟨_, _, _, _, _, z⟩ => z.elim, fun cls d σ' H' ⟨C, ns, ds', ρ', S', F', e, A', _, xr, q'⟩ => k2 cls d H' ⟨C, ns, ds', S', F', e, A', xr, q'⟩⟩⟩
end
end DL

set_option maxRecDepth 100000
set_option maxHeartbeats 2000000
/-! DLP: plain facts about data. -/
namespace DL
open PySem PySem.Spec L2
theorem eqvAll_strs : ∀ a b : List Str, PyData.eqvAll (a.map .str) (b.map .str) = decide (a = b)
  | [], [] => rfl
  | [], _ :: _ => rfl
  | _ :: _, [] => rfl
  | x :: a, y :: b => by
    show (x == y && PyData.eqvAll (a.map .str) (b.map .str)) = _
    rw [eqvAll_strs a b]
    by_cases h : x = y
    · subst h
      by_cases g : a = b
      · subst g; simp
      · simp [g]
    · have : (x == y) = false := beq_eq_false_iff_ne.mpr h
      rw [this]
      simp [h]
theorem toPys_strs : ∀ a : List Str, toPys (a.map D.str) = some (a.map .str)
  | [] => rfl
  | x :: a => by
    show (match toPy (.str x), toPys (a.map D.str) with
      | some p, some ps => some (p :: ps)
      | _, _ => none) = _
    rw [toPys_strs a]
    rfl
theorem toPy_strs (a : List Str) : toPy (.tup (a.map D.str)) = some (.tuple (a.map .str)) := by
  show (toPys (a.map D.str)).map PyData.tuple = _
  rw [toPys_strs]
  rfl
theorem canLay_strs : ∀ a : List Str, (∀ x ∈ a, PyData.strOk x = true) → PyData.canLayAll0 (a.map .str) = true
  | [], _ => rfl
  | x :: a, h => by
    show (PyData.canLay0 (.str x) && PyData.canLayAll0 (a.map .str)) = true
    rw [canLay_strs a fun y hy => h y (List.mem_cons_of_mem _ hy)]
    have : PyData.canLay0 (.str x) = PyData.strOk x := by simp [PyData.canLay0]
    rw [this, h x List.mem_cons_self]
    rfl
theorem depth_strs : ∀ a : List Str, PyData.depthAll (a.map .str) = 0
  | [] => by simp [PyData.depthAll]
  | x :: a => by simp [PyData.depthAll, PyData.depth, depth_strs a]
theorem shaped_strs {a : List Str} (h : ∀ x ∈ a, PyData.strOk x = true) : SeqAt.shaped (.tuple (a.map .str)) = true ∧ SeqAt.shaped (.list (a.map .str)) = true := by
  have c := canLay_strs a h
  have e : (PyData.tuple (a.map .str)).depth ≤ 64 ∧ (PyData.list (a.map .str)).depth ≤ 64 := by
    simp [PyData.depth, depth_strs]
  unfold SeqAt.shaped
  have c1 : (PyData.tuple (a.map .str)).canLay0 = true := by simpa [PyData.canLay0] using c
  have c2 : (PyData.list (a.map .str)).canLay0 = true := by simpa [PyData.canLay0] using c
  rw [c1, c2, decide_eq_true e.1, decide_eq_true e.2]
  exact ⟨rfl, rfl⟩
theorem eqv_tstrs (a b : List Str) : PyData.eqv (.tuple (a.map .str)) (.tuple (b.map .str)) = decide (a = b) := by
  show PyData.eqvAll (a.map .str) (b.map .str) = _
  exact eqvAll_strs a b
/-- a def of the text that can be called by its name -/
structure DefD (P : Program) (w : World) (K : PySem.W.Frag) (mg : Str → Option Value) (base : Heap) (k : Nat) (x : Str) (ps : List Str) (dsp : DSp) (f : Addr) (fd : FuncData) : Prop where
  ok : FnD P w K mg base k f fd ps dsp
  at_ : mg x = some (.ref f)
  kp : PySem.W.keepIn K (.ref f) = true
  bd : Binds K fd ps []
theorem de_def {X : Cx} {W : WX} {k : Nat} {f : Addr} {fd : FuncData} {ps : List Str} {dsp : DSp} {x : Str} {p pos : Pos} {e : Expr} {es : List Expr} {t : DTA} (h : DefD X.prog X.w X.K X.mg X.base k x ps dsp f fd) (hr : Room k X.A) (hgd : X.A.guards = some []) (tk : L2N.Takes X W) (ha : DA X W (e :: es) t)
    (hg : Gl X x := by rfl) (hdb : (x == ("__debug__" : Str)) = false := by decide) (he : starEach (e :: es) X.env = (false, eval e X.env) :: starEach es X.env := by rfl) (hpl : (backTo pos (starEach es X.env)).any (·.1) = false := by rfl) :
    DE X W (.Call (.Name x p) (e :: es) [] pos) (dCall dsp [] t) := de_callN h.ok hr hgd h.at_ h.kp h.bd tk ha hg hdb he hpl
theorem lcgo_pure {tg : Tgt} {te : DTE} {ρ : Sl} (g : D → D) {S : Store} {Q : List D → Store → Prop} (xs acc : List D) (h : ∀ x ∈ xs, ∃ ρ1, bindT tg x ρ = some ρ1 ∧ ∀ R : DQ, R (g x) S → te ρ1 S R (fun _ _ _ _ => False)) (q : Q (acc ++ xs.map g) S) : dLcGo tg dYes te ρ xs acc S Q := by
  have z := lcgo_map (tg := tg) (te := te) (ρ := ρ) (S := S) (Q := Q) id g xs acc h q
  rwa [List.map_id] at z
theorem shaped_int (i : Int) : SeqAt.shaped (.int i) = true := by simp [SeqAt.shaped, PyData.canLay0, PyData.depth]
/-- == and != of ints, computed -/
theorem rdEq_int {neg : Bool} {i j : Int} {S : Store} {Q : DQ} (q : Q (.bl (if neg then !decide (i = j) else decide (i = j))) S) : rdEq neg (.int i) (.int j) S Q := by
  refine ⟨_, _, rfl, rfl, shaped_int i, shaped_int j, ?_⟩
  have e : PyData.eqv (.int i) (.int j) = decide (i = j) := by
    show (i == j) = _
    by_cases h : i = j
    · subst h; simp
    · simp [h]
  rw [e]
  exact q
theorem any_strs (z : Str) : ∀ ss : List Str, (ss.map D.str).any (fun y => eqF y (.str z)) = decide (z ∈ ss)
  | [] => rfl
  | x :: ss => by
    rw [List.map_cons, List.any_cons, any_strs z ss]
    show ((x == z) || decide (z ∈ ss)) = _
    by_cases h : x = z
    · subst h; simp
    · have : (x == z) = false := beq_eq_false_iff_ne.mpr h
      rw [this]
      have h2 : ¬ z = x := fun e => h e.symm
      simp [h2]
theorem flat_strs : ∀ ss : List Str, (ss.map D.str).all flatD = true
  | [] => rfl
  | x :: ss => by
    rw [List.map_cons, List.all_cons, flat_strs ss]
    rfl
/-- a text in a tuple, a list of texts, computed -/
theorem rdIn_strs {neg : Bool} {z : Str} {ss : List Str} {y : D} {S : Store} {Q : DQ} (hy : y = .tup (ss.map .str) ∨ y = .lst (ss.map .str)) (q : Q (.bl (if neg then !decide (z ∈ ss) else decide (z ∈ ss))) S) : rdIn neg (.str z) y S Q := by
  refine ⟨_, hy, rfl, flat_strs ss, ?_⟩
  rw [any_strs]
  exact q
end DL

set_option maxRecDepth 100000
set_option maxHeartbeats 2000000
/-! DLF: what the written part says of defs, classes, exceptions, in bundles. -/
namespace DL
open PySem PySem.Spec L2
/-- a def of the text -/
structure DF (K : PySem.W.Frag) (mg : Str → Option Value) (x : Str) (st : Stmt) (ps : List Str) : Type where
  f : Addr
  fd : FuncData
  F : Fun K x x st f fd
  at_ : mg x = some (.ref f)
  bd : Binds K fd ps []
  bu : ∀ (s : Shared) (us : List Value), us.length = ps.length → BindsTo s fd ⟨us, []⟩ (ps.zip us)
/-- a method -/
structure MF (K : PySem.W.Frag) (C : Addr) (m qual : Str) (st : Stmt) (ps : List Str) : Type where
  f : Addr
  fd : FuncData
  F : Fun K m qual st f fd
  at_ : Meth K C m f
  bd : Binds K fd ps []
abbrev BdOk (x qual : Str) (st : Stmt) (ps : List Str) : Prop := ∀ (kV doc pm : Value) (an : Option Addr) (cdv ct : Value) (us : List Value), us.length = ps.length → bindArgs (PySem.W.fnOf x qual (defArgs st) (defBody st) (defScope st) .none kV doc pm an cdv ct) ⟨us, []⟩ = pure (ps.zip us)
section
variable {K : PySem.W.Frag} {mg : Str → Option Value} {h : Heap}
def DF.of {x : Str} {st : Stmt} {ps : List Str} {f : Addr} {oc : Value} {od an : Option Addr} {osl : Array (Option Value)} {kV doc pm cdv ct : Value} (X : K.In h) (G : h.Ns mainGlobals mg) (a : PySem.W.nsIn K mainGlobals x = some (some (.ref f)))
    (l : K.lookup f = some ⟨oc, od, .func (PySem.W.fnOf x x (defArgs st) (defBody st) (defScope st) .none kV doc pm an cdv ct), osl⟩) (c : PySem.W.codeIn K cdv x = true) (k : PySem.W.keepIn K (.ref f) = true) (b : BdOk x x st ps) : DF K mg x st ps :=
  ⟨f, _, fun_mk l c k, PySem.W.mg_of X G a, (fun_mk l c k).binds b, fun s us hl => .of_eq (b _ _ _ _ _ _ us hl)⟩
def MF.of {x qual : Str} {st : Stmt} {ps : List Str} {f C : Addr} {oc : Value} {od an : Option Addr} {osl : Array (Option Value)} {kV doc pm cdv ct : Value} (a : PySem.W.findIn K (.ref C) x = some (some (.ref f))) (i : PySem.W.isFn K (.ref f) = true)
    (l : K.lookup f = some ⟨oc, od, .func (PySem.W.fnOf x qual (defArgs st) (defBody st) (defScope st) .none kV doc pm an cdv ct), osl⟩) (c : PySem.W.codeIn K cdv qual = true) (k : PySem.W.keepIn K (.ref f) = true) (b : BdOk x qual st ps) : MF K C x qual st ps :=
  ⟨f, _, fun_mk l c k, ⟨a, i, k⟩, (fun_mk l c k).binds b⟩
theorem DefD.of {P : Program} {w : World} {base : Heap} {x : Str} {st : Stmt} {ps : List Str} {k : Nat} {dsp : DSp} (D : DF K mg x st ps) (ok : FnD P w K mg base k D.f D.fd ps dsp) : DefD P w K mg base k x ps dsp D.f D.fd := ⟨ok, D.at_, D.F.kp, D.bd⟩
def Bis.of (X : K.In h) (G : h.Ns mainGlobals mg) (a1 : PySem.W.nsIn K mainGlobals "len" = some none) (a2 : PySem.W.nsIn K mainGlobals "isinstance" = some none) (a3 : PySem.W.nsIn K mainGlobals "all" = some none) (a4 : PySem.W.nsIn K mainGlobals "tuple" = some none)
    (a5 : PySem.W.nsIn K mainGlobals "list" = some none) (a6 : PySem.W.nsIn K mainGlobals "dict" = some none) (a7 : PySem.W.nsIn K mainGlobals "set" = some none) (a8 : PySem.W.nsIn K mainGlobals "sorted" = some none) (a9 : PySem.W.nsIn K mainGlobals "int" = some none)
    (a10 : PySem.W.nsIn K mainGlobals "str" = some none) (a11 : PySem.W.nsIn K mainGlobals "bool" = some none) (a12 : PySem.W.nsIn K mainGlobals "repr" = some none) (a13 : PySem.W.nsIn K mainGlobals "range" = some none) (a14 : PySem.W.nsIn K mainGlobals "zip" = some none) (a15 : PySem.W.nsIn K mainGlobals "super" = some none) : Bis mg :=
  ⟨PySem.W.mg_none_of X G a1, PySem.W.mg_none_of X G a2, PySem.W.mg_none_of X G a3, PySem.W.mg_none_of X G a4, PySem.W.mg_none_of X G a5, PySem.W.mg_none_of X G a6, PySem.W.mg_none_of X G a7, PySem.W.mg_none_of X G a8, PySem.W.mg_none_of X G a9, PySem.W.mg_none_of X G a10, PySem.W.mg_none_of X G a11, PySem.W.mg_none_of X G a12, PySem.W.mg_none_of X G a13, PySem.W.mg_none_of X G a14, PySem.W.mg_none_of X G a15⟩
/-- an exception class over the text's own base, with one field -/
structure EF (P : Program) (K : PySem.W.Frag) (mg : Str → Option Value) (x wd : Str) : Type where
  C : Addr
  fI : Addr
  at_ : mg x = some (.ref C)
  xi : XiC P K C fI wd
  xf : XfC K C
  no : PySem.W.findIn K (.ref C) wd = some none
  me : PySem.W.exmOne K (.ref C) (.ref C) = some true
/-- a class -/
structure CF (K : PySem.W.Frag) (mg : Str → Option Value) (x : Str) : Type where
  C : Addr
  at_ : mg x = some (.ref C)
  kp : PySem.W.keepIn K (.ref C) = true
  cl : Cls K C
/-- a classmethod -/
structure CMF (K : PySem.W.Frag) (C : Addr) (m qual : Str) (st : Stmt) (ps : List Str) : Type where
  mc : Value
  q : Addr
  rd : ClX.CRead K C mc
  f : Addr
  fd : FuncData
  F : Fun K m qual st f fd
  cm : ClX.CMet K C mc m q f
  bd : Binds K fd ps []
theorem exm_selfK {S : Addr} (h1 : PySem.W.subIn K (.ref S) (.type "BaseException") = some true) (h2 : PySem.W.isClsIn K S = true) (h3 : PySem.W.typeIn K (.ref S) = some (.type "type")) (h4 : PySem.W.subIn K (.ref S) (.ref S) = some true) :
    PySem.W.exmOne K (.ref S) (.ref S) = some true := by
  have e1 : (PySem.W.subIn K (.ref S) (.type "BaseException") == some true) = true := by rw [h1] <;> rfl
  have e2 : ((PySem.W.clsIn K S).isSome && PySem.W.typeIn K (.ref S) == some (.type "type")) = true := by
    have h2' : (PySem.W.clsIn K S).isSome = true := h2
    rw [h2', h3] <;> rfl
  show (if (PySem.W.subIn K (.ref S) (.type "BaseException") == some true) = true then (if ((PySem.W.clsIn K S).isSome && PySem.W.typeIn K (.ref S) == some (.type "type")) = true then PySem.W.subIn K (.ref S) (.ref S) else none) else none) = some true
  rw [if_pos e1, if_pos e2]
  exact h4
end
end DL

set_option maxRecDepth 100000
set_option maxHeartbeats 2000000
/-! DLV: how long a repr is; repr of trees with a computing reading. -/
namespace DL
open PySem PySem.Spec L2
mutual
/-- texts of real signs, ints that repr shows -/
def goodP : PyData → Bool
  | .none => true
  | .bool _ => true
  | .int i => decide (i.natAbs.log2 < 1920)
  | .str x => PyData.strOk x
  | .list xs => goodPs xs
  | .tuple xs => goodPs xs
  | .dict kvs => goodPk kvs
def goodPs : List PyData → Bool
  | [] => true
  | x :: xs => goodP x && goodPs xs
def goodPk : List (PyData × PyData) → Bool
  | [] => true
  | (k, v) :: r => goodP k && goodP v && goodPk r
end
mutual
def szP : PyData → Nat
  | .none => 4
  | .bool _ => 5
  | .int _ => 1921
  | .str x => 10 * x.length + 2
  | .list xs => szPs xs + 3
  | .tuple xs => szPs xs + 3
  | .dict kvs => szPk kvs + 3
def szPs : List PyData → Nat
  | [] => 0
  | x :: xs => szP x + 2 + szPs xs
def szPk : List (PyData × PyData) → Nat
  | [] => 0
  | (k, v) :: r => szP k + szP v + 4 + szPk r
end
mutual
theorem good_showable : ∀ p : PyData, goodP p = true → p.showable = true
  | .none, _ => by simp [PyData.showable]
  | .bool _, _ => by simp [PyData.showable]
  | .int i, h => by simpa [PyData.showable, goodP] using h
  | .str _, _ => by simp [PyData.showable]
  | .list xs, h => by simpa [PyData.showable] using good_showables xs (by simpa [goodP] using h)
  | .tuple xs, h => by simpa [PyData.showable] using good_showables xs (by simpa [goodP] using h)
  | .dict xs, h => by simpa [PyData.showable] using good_showablek xs (by simpa [goodP] using h)
theorem good_showables : ∀ p : List PyData, goodPs p = true → PyData.showableAll p = true
  | [], _ => by simp [PyData.showableAll]
  | x :: xs, h => by
    have h' : goodP x = true ∧ goodPs xs = true := by simpa [goodPs] using h
    simp [PyData.showableAll, good_showable x h'.1, good_showables xs h'.2]
theorem good_showablek : ∀ p : List (PyData × PyData), goodPk p = true → PyData.showableKv p = true
  | [], _ => by simp [PyData.showableKv]
  | (k, v) :: xs, h => by
    have h' : (goodP k = true ∧ goodP v = true) ∧ goodPk xs = true := by simpa [goodPk] using h
    simp [PyData.showableKv, good_showable k h'.1.1, good_showable v h'.1.2, good_showablek xs h'.2]
end
theorem textFrom_le : ∀ (ts : List Str) (k : Nat) (acc : Str), (textFrom k acc ts).length ≤ acc.length + (ts.map fun t => t.length + 2).sum
  | [], k, acc => by simp [textFrom]
  | t :: r, k, acc => by
    have h := textFrom_le r (k + 1) (acc ++ (if k > 0 then ", " else "" : String) ++ t)
    have e : (((if k > 0 then ", " else "" : String) : Str)).length ≤ 2 := by split <;> decide
    rw [strLen_append, strLen_append] at h
    show (textFrom (k + 1) (acc ++ (if k > 0 then ", " else "" : String) ++ t) r).length ≤ _
    rw [List.map_cons, List.sum_cons]
    omega
theorem join_le : ∀ ts : List Str, (Str.join ", " ts).length ≤ (ts.map fun t => t.length + 2).sum
  | [] => Nat.zero_le _
  | [x] => by show x.length ≤ _; simp
  | x :: y :: r => by
    have ih := join_le (y :: r)
    show (x ++ ", " ++ Str.join ", " (y :: r)).length ≤ _
    have e2 : ((", " : String) : Str).length = 2 := rfl
    rw [strLen_append, strLen_append, e2, List.map_cons, List.sum_cons]
    omega
mutual
theorem shown_le : ∀ p : PyData, goodP p = true → p.shown.length ≤ szP p
  | .none, _ => by simp only [PyData.shown, szP]; decide
  | .bool b, _ => by
    simp only [PyData.shown, szP]
    cases b <;> decide
  | .int i, h => by
    simp only [PyData.shown, szP]
    exact PyProof.Rows.int_text_len_1921 (by simpa [goodP] using h)
  | .str x, h => by
    simp only [PyData.shown, szP]
    refine PySem.StrLaws.reprText_len x fun c hc => ?_
    have h1 : PyData.strOk x = true := by simpa [goodP] using h
    unfold PyData.strOk at h1
    rw [Array.all_eq_true_iff_forall_mem] at h1
    have h2 := of_decide_eq_true (h1 c (by simpa using hc))
    exact Nat.lt_trans h2 (by decide)
  | .list xs, h => by
    have ih := showns_le xs (by simpa [goodP] using h)
    simp only [PyData.shown, szP]
    unfold listText
    have h2 := textFrom_le (PyData.shownAll xs) 0 "["
    have e1 : ((("[" : String) : Str)).length = 1 := rfl
    have e2 : ((("]" : String) : Str)).length = 1 := rfl
    rw [strLen_append, e2]
    omega
  | .tuple xs, h => by
    have ih := showns_le xs (by simpa [goodP] using h)
    simp only [PyData.shown, szP]
    unfold tupleText
    have h2 := join_le (PyData.shownAll xs)
    have e1 : ((("(" : String) : Str)).length = 1 := rfl
    have e3 : (((if (PyData.shownAll xs).length == 1 then ",)" else ")" : String) : Str)).length ≤ 2 := by split <;> decide
    rw [strLen_append, strLen_append, e1]
    omega
  | .dict xs, h => by
    have ih := shownk_le xs (by simpa [goodP] using h)
    simp only [PyData.shown, szP]
    unfold dictText
    have h2 := join_le (PyData.shownKv xs)
    have e1 : ((("{" : String) : Str)).length = 1 := rfl
    have e2 : ((("}" : String) : Str)).length = 1 := rfl
    rw [strLen_append, strLen_append, e1, e2]
    omega
theorem showns_le : ∀ p : List PyData, goodPs p = true → ((PyData.shownAll p).map fun t => t.length + 2).sum ≤ szPs p
  | [], _ => by simp [PyData.shownAll, szPs]
  | x :: xs, h => by
    have h' : goodP x = true ∧ goodPs xs = true := by simpa [goodPs] using h
    have a := shown_le x h'.1
    have b := showns_le xs h'.2
    simp only [PyData.shownAll, szPs, List.map_cons, List.sum_cons]
    omega
theorem shownk_le : ∀ p : List (PyData × PyData), goodPk p = true → ((PyData.shownKv p).map fun t => t.length + 2).sum ≤ szPk p
  | [], _ => by simp [PyData.shownKv, szPk]
  | (k, v) :: xs, h => by
    have h' : (goodP k = true ∧ goodP v = true) ∧ goodPk xs = true := by simpa [goodPk] using h
    have a := shown_le k h'.1.1
    have a2 := shown_le v h'.1.2
    have b := shownk_le xs h'.2
    have e2 : (((": " : String) : Str)).length = 2 := rfl
    simp only [PyData.shownKv, szPk, List.map_cons, List.sum_cons]
    rw [strLen_append, strLen_append, e2]
    omega
end
/-- what repr may be asked of -/
structure ReprOk (d : D) (p : PyData) : Prop where
  show_ : showD d = some p
  good : goodP p = true
  sz : szP p ≤ 16000000
  dp : p.depth ≤ 60
  nol : p.hasDict = true → noL d = true
section
variable {X : Cx} {W : WX} {e : Expr} {te : DTE} {p pos : Pos}
end
end DL

set_option maxRecDepth 100000
set_option maxHeartbeats 2000000
/-! DLN: == and != against the empty tuple, the empty list, whatever stands in the other one. -/
namespace DL
open PySem PySem.Spec L2
section
variable {X : Cx}
def rNil (K : PySem.W.Frag) (neg : Bool) : R2 := fun x y H Q => ∃ a b xs, x = .ref a ∧ y = .ref b ∧ ((SqT K H a xs ∧ SqT K H b []) ∨ (SqL K H a xs ∧ SqL K H b [])) ∧ Q (.bl (if neg then !xs.isEmpty else xs.isEmpty)) H
theorem plain_isList {h : Heap} {a : Addr} {its : Array Value} (p : PlainL h a its) : h.IsList a its := by
  obtain ⟨o, n, e, hc, _, hd⟩ := p
  exact ⟨o, e, hc, n, hd⟩
theorem vals_nil {us : List Value} (h : Vals [] us) : us = [] := by cases h; rfl
theorem vals_len : ∀ {vs : List V} {us : List Value}, Vals vs us → vs.length = us.length
  | _, _, .nil => rfl
  | _, _, .cons _ h => congrArg (· + 1) (vals_len h)
theorem emp_eq {vs : List V} {us : List Value} (h : Vals vs us) : ((List.range (min us.toArray.size (#[] : Array Value).size)).all (fun _ => true) && us.toArray.size == (#[] : Array Value).size) = vs.isEmpty := by
  have l := vals_len h
  cases h with
  | nil => rfl
  | cons _ _ => simp
theorem op_neNil (hu : X.A.units < cLine) : OpR X (compareOp .NotEq) (rNil X.K true) := by
  intro pins s σ H x y v u Q I rx ry h
  obtain ⟨a, b, xs, rfl, rfl, hk, q⟩ := h
  cases rx; cases ry
  rcases hk with ⟨h1, h2⟩ | ⟨h1, h2⟩
  · obtain ⟨us, r1, p1, _⟩ := I.tuple h1
    obtain ⟨ws, r2, p2, _⟩ := I.tuple h2
    have e2 := vals_nil r2
    subst e2
    refine SeqAt.RcNeAt.tuples (e := fun _ => true) p1 p2 hu (fun j _ h2 => absurd h2 (Nat.not_lt_zero j)) _ _ _ _ ⟨_, H, I, ?_, q⟩
    show _ = Value.bool _
    rw [emp_eq r1]
    rfl
  · obtain ⟨us, r1, p1, _⟩ := I.list h1
    obtain ⟨ws, r2, p2, _⟩ := I.list h2
    have e2 := vals_nil r2
    subst e2
    cases r1 with
    | nil => exact SeqAt.RcNeAt.lists (e := fun _ => true) (plain_isList p1) (plain_isList p2) rfl hu (fun j _ h2 => absurd h2 (Nat.not_lt_zero j)) _ _ _ _ ⟨.bl false, H, I, rfl, q⟩
    | cons _ _ => exact SeqAt.RcNeAt.lists_lengths (plain_isList p1) (plain_isList p2) (by simp) hu _ _ _ _ ⟨.bl true, H, I, rfl, q⟩
end
/-- what stands in x, compared with the empty one of its kind -/
def nilD (S : Store) : D → D → Option (List D)
  | .tup ds, .tup [] => some ds
  | x, .lst [] => lstD S x
  | _, _ => none
def rdNil (neg : Bool) : DR2 := fun x y S Q => ∃ ds, nilD S x y = some ds ∧ Q (.bl (if neg then !ds.isEmpty else ds.isEmpty)) S
theorem isVs_emp {K : PySem.W.Frag} {F : Hp} {ds : List D} {vs : List V} (h : IsVs K F ds vs) : ds.isEmpty = vs.isEmpty := by cases h <;> rfl
theorem lift_nil {K : PySem.W.Frag} {neg : Bool} : Lift2 K (rNil K neg) (rdNil neg) := by
  intro Z H S F x y v w Q P R iv iw q k
  obtain ⟨ds, e, q⟩ := q
  have core : ∀ vs : List V, IsVs K F ds vs → P (.bl (if neg then !vs.isEmpty else vs.isEmpty)) H := fun vs h => by
    rw [← isVs_emp h]
    exact k _ _ ⟨_, S, F, .refl R, .bl _, q⟩
  unfold nilD at e
  split at e
  · cases e
    cases iv with
    | tup h1 h2 =>
      cases iw with
      | tup g1 g2 =>
        cases g2
        exact ⟨_, _, _, rfl, rfl, .inl ⟨R.sqt (SqT.of h1), R.sqt (SqT.of g1)⟩, core _ h2⟩
  · obtain ⟨p, vs, rfl, h1, h2⟩ := lst_of R iv e
    cases iw with
    | lst g1 g2 =>
      cases g2
      exact ⟨_, _, _, rfl, rfl, .inr ⟨h1, R.sql (SqL.of g1)⟩, core _ h2⟩
  · cases e
end DL

set_option maxRecDepth 100000
set_option maxHeartbeats 2000000
/-! DLR: t[::-1] of a tuple; xs[::-1]. -/
namespace HT
open PySem PySem.Spec PyProof.Rows L2
section
variable {prog : Program} {w : World} {A : Around} {E : Value → Shared → Prop} {s : Shared}
theorem adjust_rev (n : Nat) : Builtin.Slice.sliceAdjust none none (-1) (n : Int) = ((n : Int) - 1, -1) := rfl
theorem places_rev (n : Nat) : Builtin.Slice.slicePlaces ((n : Int) - 1) (-1) (-1) = n := by
  unfold Builtin.Slice.slicePlaces
  have h1 : ¬ ((-1 : Int) > 0) := by decide
  simp only [h1, if_false]
  by_cases h : (n : Int) - 1 > -1
  · have e : ((n : Int) - 1 - -1 - 1) / (- -1) + 1 = (n : Int) := by
      rw [show (- -1 : Int) = 1 by decide, Int.ediv_one]
      omega
    simp only [h, if_true, e, Int.toNat_natCast]
  · have e : n = 0 := by omega
    subst e
    simp
theorem sliceApplied_rev {sl : Addr} {vs : Value} {n : Nat} {Q : Int × Int × Nat → Shared → Prop} (hs : s.heap.IsSliceOf sl .none .none vs) (ps : IsPart vs (some (-1)))
    (h : Q ((n : Int) - 1, -1, n) s) : wpAny (model prog w) A (Builtin.Slice.sliceApplied (.ref sl) (pure (n : Int))) Q E s := by
  obtain ⟨os, hos, hcs, hds⟩ := id hs
  unfold Builtin.Slice.sliceApplied Builtin.Slice.sliceFields
  refine wpAny_bind (wpAny_bind (wpAny_field hos hds (x := .none) rfl (wpAny_bind (wpAny_field hos hds (x := .none) rfl (wpAny_bind (wpAny_field hos hds (x := vs) rfl (wpAny_pure ?_)))))))
  refine wpAny_bind (slicePart_ ps ?_)
  show wpAny _ _ (if ((-1 : Int) == 0) = true then _ else _) _ _ s
  rw [if_neg (by decide)]
  refine wpAny_bind (slicePart_none (wpAny_bind (slicePart_none (wpAny_bind (wpAny_pure ?_)))))
  show wpAny _ _ (match Builtin.Slice.sliceAdjust none none (-1) (n : Int) with | (lo, hi) => pure (lo, (-1 : Int), Builtin.Slice.slicePlaces lo hi (-1))) _ _ s
  rw [adjust_rev]
  show wpAny _ _ (pure ((n : Int) - 1, (-1 : Int), Builtin.Slice.slicePlaces ((n : Int) - 1) (-1) (-1))) _ _ s
  rw [places_rev]
  exact wpAny_pure h
theorem fmap_congr {α β : Type} {f g : α → Option β} : ∀ l : List α, (∀ x ∈ l, f x = g x) → l.filterMap f = l.filterMap g
  | [], _ => rfl
  | x :: r, h => by
    rw [List.filterMap_cons, List.filterMap_cons, h x List.mem_cons_self, fmap_congr r fun y hy => h y (List.mem_cons_of_mem _ hy)]
theorem pick_rev (xs : Array Value) : ((List.range xs.size).filterMap fun (m : Nat) => xs[(((xs.size : Int) - 1) + (m : Int) * (-1)).toNat]?).toArray = xs.toList.reverse.toArray := by
  have e : (List.range xs.size).filterMap (fun (m : Nat) => xs[(((xs.size : Int) - 1) + (m : Int) * (-1)).toNat]?) = (List.range xs.size).filterMap ((xs[·]?) ∘ fun k => xs.size - 1 - k) := by
    refine fmap_congr _ fun m hm => ?_
    have hm := List.mem_range.mp hm
    have : (((xs.size : Int) - 1) + (m : Int) * (-1)).toNat = xs.size - 1 - m := by omega
    simp only [Function.comp_apply, this]
  rw [e, ← List.filterMap_map, PySem.W.krv_range, List.filterMap_reverse, PySem.W.krv_all]
theorem getItem_tuple_rev {t sl : Addr} {items : Array Value} {vs : Value} {Q : Value → Shared → Prop} (ht : IsTup s.heap t items) (hs : s.heap.IsSliceOf sl .none .none vs) (ps : IsPart vs (some (-1)))
    (h : Q (.ref s.heap.objs.size) { s with heap := s.heap.push { cls := .type "tuple", data := .seq items.toList.reverse.toArray } })
    (hsz : items.size ≤ sizeLine) : wpAny (model prog w) A (getItem (.ref t) (.ref sl)) Q E s := by
  have htake : sizeOk (.seq items.toList.reverse.toArray) := by
    show items.toList.reverse.toArray.size ≤ sizeLine
    rw [List.size_toArray, List.length_reverse, Array.length_toList]
    exact hsz
  obtain ⟨os, hos, hcs, hds⟩ := id hs
  have hTs : s.TypeIs (.ref sl) "slice" := ⟨os, hos, hcs⟩
  unfold getItem
  try with_reducible refine wpAny_holding ?_
  first | refine wpAny_bind (wpAny_pure ?_) | skip
  refine wpAny_bind (wpAny_sequenceKey ht.typeIs (by decide) ?_)
  refine wpAny_bind (wpAny_callSpecial?_slot (name := Str.ofString "__getitem__") ht.typeIs PyProof.Rows.slot_tuple_getitem
    (wpAny_call_entry PyProof.Rows.slot_tuple_getitem ht.typeIs entry_tuple_getitem ?_ (args_tuple_getitem _ _)))
  show wpAny _ _ (Builtin.Tuple.tupleItemsOf (.ref t) >>= _) _ _ s
  refine wpAny_bind (tupleItemsOf_ ht ?_)
  refine wpAny_bind (wpAny_typeOf hTs ?_)
  rw [if_pos (by decide)]
  refine wpAny_bind (sliceApplied_rev hs ps ?_)
  have hno : ¬ ((((items.size : Int) - 1) == 0 && (-1 : Int) == 1 && items.size == items.size) = true) := by
    have : ((-1 : Int) == 1) = false := by decide
    rw [this]
    simp
  show wpAny _ _ (if (((items.size : Int) - 1) == 0 && (-1 : Int) == 1 && items.size == items.size) = true then _ else _) _ _ s
  rw [if_neg hno]
  show wpAny _ _ (Builtin.Tuple.tupleExact ((List.range items.size).filterMap fun (k : Nat) => items[(((items.size : Int) - 1) + (k : Int) * (-1)).toNat]?).toArray >>= _) _ _ s
  rw [pick_rev]
  first
    | exact wpAny_bind (m := Builtin.Tuple.tupleExact _) (wpAny_newObj_type (wpAny_pure ⟨_, rfl, wpAny_pure h⟩) htake)
    | exact wpAny_bind (m := Builtin.Tuple.tupleExact _) (wpAny_newObj_type (wpAny_bind (wpAny_pure (wpAny_pure ⟨_, rfl, wpAny_pure h⟩))) htake)
    | exact wpAny_bind (wpAny_bind (m := Builtin.Tuple.tupleExact _) (wpAny_newObj_type (wpAny_pure (wpAny_pure ⟨_, rfl, wpAny_pure h⟩)) htake))
    | exact wpAny_bind (wpAny_bind (m := Builtin.Tuple.tupleExact _) (wpAny_newObj_type (wpAny_pure ⟨_, rfl, wpAny_pure h⟩) htake))
end
end HT
namespace DL
open PySem PySem.Spec PyProof.Rows L2
section
variable {X : Cx} {W : WX} {e : Expr} {te : TE} {td : DTE} {k : Nat} {p1 p2 p3 pos : Pos}
def tRevT (K : PySem.W.Frag) (te : TE) : TE := fun σ H Q => te σ H fun x H1 => ∃ a xs, x = .ref a ∧ ((SqL K H1 a xs ∧ ∀ p, H1 p = none → Q (.ref p) (upd H1 p (.lst xs.reverse))) ∨ (SqT K H1 a xs ∧ ∀ p, H1 p = none → Q (.ref p) (upd H1 p (.tup xs.reverse))))
theorem pe_rev (he : PE X e te) : PE X (.Subscript e (.Slice none none (some (.UnaryOp .USub (.Constant (.int 1) k p1) p2)) p3) pos) (tRevT X.K te) := by
  refine ⟨fun pins s σ H Q I h => ?_⟩
  refine Subscript_ (thn (he.run pins s σ H _ I h) fun v s1 ⟨x, H1, I1, r1, q1⟩ => ?_)
  obtain ⟨a, xs, ex, hx⟩ := q1
  subst ex
  cases r1
  have hst : PO X (some (.UnaryOp .USub (.Constant (.int 1) k p1) p2)) (tPart (tUn (rU fun i => .int (-i)) (tC (.int 1)))) := po_some (pe_un un_neg pe_int)
  refine wpAny_Slice (thn (po_none.run pins s1 σ H1 (fun o H2 => o = none ∧ H2 = H1) I1 ⟨rfl, rfl⟩) fun vl s2 ⟨l, H2, I2, pl, el, e2⟩ => ?_)
  subst el e2
  refine thn (po_none.run pins s2 σ H2 (fun o H3 => o = none ∧ H3 = H2) I2 ⟨rfl, rfl⟩) fun vu s3 ⟨u, H3, I3, pu, eu, e3⟩ => ?_
  subst eu e3
  refine thn (hst.run pins s3 σ H3 (fun o H4 => o = some (-1) ∧ H4 = H3) I3 ⟨1, rfl, -1, rfl, rfl, rfl⟩) fun vs s4 ⟨o, H4, I4, ps, eo, e4⟩ => ?_
  subst eo e4
  have I5 : Inv X pins σ H4 { s4 with heap := s4.heap.push { cls := .type "slice", data := .fields #[vl, vu, vs] } } := I4.kept (t' := s4.toks) fun b ob q => Heap.get?_push_of_some _ q
  show wpAny (model X.prog X.w) X.A (subscriptTail e (.Slice none none (some (.UnaryOp .USub (.Constant (.int 1) k p1) p2)) p3) (.ref a) (.ref s4.heap.objs.size)) (EP X pins σ Q) X.xe { s4 with heap := s4.heap.push { cls := .type "slice", data := .fields #[vl, vu, vs] } }
  rcases hx with ⟨hx, q⟩ | ⟨hx, q⟩
  · obtain ⟨its, r, ht, hz⟩ := I5.list hx
    have hlen := r.length
    refine tail_any (ops := [.ref a, .ref s4.heap.objs.size]) ht.isList.typeIs (PySem.slot_list_getitem.lookup) ?_ (by with_unfolding_all rfl)
    refine wpAny_getItem_list_slice ht.isList (Heap.IsSliceOf.new _ vl vu vs) pl pu ps (by decide) ?_ (by rw [List.size_toArray]; omega)
    rw [PySem.W.krv_pick]
    refine ⟨.ref _, _, I5.laid (t' := s4.toks) (o := .lst xs.reverse) (fun b ob q => Heap.get?_push_of_some _ q) (Nat.le_refl _) ?_, rfl, q _ (I5.hok.fresh (Nat.le_refl _))⟩
    exact ⟨by rw [List.length_reverse]; exact hz, _, 0, r.reverse, Heap.get?_push_size _ rfl⟩
  · obtain ⟨its, r, ht, hz⟩ := I5.tuple hx
    have hlen := r.length
    cases pl; cases pu
    refine tail_any (ops := [.ref a, .ref s4.heap.objs.size]) ht.typeIs (PyProof.Rows.slot_tuple_getitem.lookup) ?_ (by with_unfolding_all rfl)
    refine HT.getItem_tuple_rev ht (Heap.IsSliceOf.new _ .none .none vs) ps ?_ (by rw [List.size_toArray]; omega)
    refine ⟨.ref _, _, I5.laid (t' := s4.toks) (o := .tup xs.reverse) (fun b ob q => Heap.get?_push_of_some _ q) (Nat.le_refl _) ?_, rfl, q _ (I5.hok.fresh (Nat.le_refl _))⟩
    exact ⟨by rw [List.length_reverse]; exact hz, _, r.reverse, IsTup.new _ _⟩
/-- the new list is one of the store -/
def dRevM (t : DTE) : DTE := fun ρ S Q E => t ρ S (fun x S1 => ∃ ds, lstD S1 x = some ds ∧ ∀ a, S1 a = none → Q (.ref a) (put S1 a (.lst ds.reverse))) E
theorem de_revM (he : DE X W e td) : DE X W (.Subscript e (.Slice none none (some (.UnaryOp .USub (.Constant (.int 1) k p1) p2)) p3) pos) (dRevM td) := by
  refine de_pe (pe_rev he.pe) fun σ H P ⟨ρ, S, F, Z, Q, E, R, V, q, k, x⟩ => ⟨ρ, S, F, Z, _, E, R, V, q, fun v H1 ⟨d, S1, F1, A1, i1, ds, h, q1⟩ => ?_, x⟩
  obtain ⟨p, vs, rfl, h1, h2⟩ := lst_of A1.rel i1 h
  refine ⟨p, vs, rfl, .inl ⟨h1, fun p hp => ?_⟩⟩
  obtain ⟨R2, k2, hS⟩ := A1.rel.made (o := .lst vs.reverse) (m := .lst ds.reverse) hp ⟨_, rfl, h2.reverse⟩
  exact k _ _ ⟨.ref p, _, F1, A1.trans ⟨Same.refl _, R2, k2⟩, .ref p, q1 p hS⟩
end
end DL

set_option maxRecDepth 100000
set_option maxHeartbeats 2000000
/-! DLM: short rules, more of them. -/
namespace DL
open PySem PySem.Spec L2
theorem units1 {k : Nat} {A : Around} (r : Room k A) : A.units + 1 < cLine := hu_of r
section
variable {X : Cx} {W : WX} {e : Expr} {te : DTE} {x : Str} {p p2 pos : Pos} {n : String}
/-- int(i) of an int -/
def rdInt1C : DRL := fun xs S Q => match xs with
  | [.int i] => Q (.int i) S
  | _ => False
theorem lift_int1C {K : PySem.W.Frag} : LiftL K (fun xs H Q => (∃ i, xs = [.int i] ∧ Q (.int i) H) ∨ ∃ k, xs = [.bl k] ∧ Q (.int (if k then 1 else 0)) H) rdInt1C := fun Z H S F xs v Q P R iv q k => by
  match xs, q with
  | [.int i], q => exact lift_int1 Z H S F _ v Q P R iv ⟨i, rfl, q⟩ k
theorem de_int1 (B : Bis X.mg) (he : DE X W e te) (hg : Gl X "int" := by rfl) (hs : starEach [e] X.env = (false, eval e X.env) :: starEach [] X.env := by rfl) (hpl : (backTo pos (starEach [] X.env)).any (·.1) = false := by rfl) :
    DE X W (.Call (.Name "int" p) [e] [] pos) (dCB rdInt1C (dCons te dNil)) :=
  de_callTy call_int1 lift_int1C B.int (by first | exact PyProof.Rows.boot_int | decide +kernel | kernel_rfl) (da_cons he da_nil hs) hg (by decide) (by decide) hs hpl
end
theorem isVs_rep {K : PySem.W.Frag} {F : Hp} {ds : List D} {vs : List V} (h : IsVs K F ds vs) : ∀ n : Nat, IsVs K F (List.replicate n ds).flatten (List.replicate n vs).flatten
  | 0 => .nil
  | n + 1 => by
    rw [List.replicate_succ, List.replicate_succ, List.flatten_cons, List.flatten_cons]
    exact h.append (isVs_rep h n)
section
variable {X : Cx} {W : WX} {e : Expr} {te : DTE} {p p2 pos : Pos}
/-- sorted(xs) of any data -/
def rdSortDC : DRL := fun xs S Q => match xs with
  | [d] => ∃ ds ps, lstD S d = some ds ∧ showDs ds = some ps ∧ PySem.W.AllAlike ps ∧ PySem.W.Sortable ps ∧ (∀ p ∈ ps, p.depth ≤ 40) ∧ Q (.lst (ds.mergeSort leD)) S
  | _ => False
/-- sorted(xs) of texts -/
def rdSortSC : DRL := fun xs S Q => match xs with
  | [d] => ∃ ns : List Str, lstD S d = some (ns.map .str) ∧ ns.length < 64 ∧ Q (.lst ((DLS.sortS ns).map .str)) S
  | _ => False
theorem lift_sortSC {K : PySem.W.Frag} : LiftL K (rSortedS K) rdSortSC := fun Z H S F xs v Q P R iv q k => by
  match xs, q with
  | [d], ⟨ns, h, z, q⟩ =>
    refine lift_sortedS Z H S F _ v Q P R iv ⟨d, ns, rfl, h, z, fun ns' p1 p2 => ?_⟩ k
    rw [DLS.sortS_eq p1 (DLS.sortedS_pw p2)]
    exact q
theorem de_sortS (B : Bis X.mg) (he : DE X W e te) (hg : Gl X "sorted" := by rfl) (hs : starEach [e] X.env = (false, eval e X.env) :: starEach [] X.env := by rfl) (hpl : (backTo pos (starEach [] X.env)).any (·.1) = false := by rfl) :
    DE X W (.Call (.Name "sorted" p) [e] [] pos) (dCB rdSortSC (dCons te dNil)) :=
  de_callB cr_sortedS lift_sortSC B.sorted (by first | exact PyProof.Rows.boot_sorted | decide +kernel | kernel_rfl) (da_cons he da_nil hs) hg (by decide) (by decide) hs hpl
/-- isinstance(e, C) -/
theorem de_isiO {x : Str} {C : Addr} (B : Bis X.mg) (hm : X.mg x = some (.ref C)) (he : DE X W e te) (hg : Gl X "isinstance" := by rfl) (hgx : Gl X x := by rfl) (hd : (x == ("__debug__" : Str)) = false := by decide)
    (hs : starEach [e, .Name x p2] X.env = (false, eval e X.env) :: starEach [.Name x p2] X.env := by rfl) (hs2 : starEach [.Name x p2] X.env = (false, eval (.Name x p2) X.env) :: starEach [] X.env := by rfl) (hpl : (backTo pos (starEach [.Name x p2] X.env)).any (·.1) = false := by rfl) :
    DE X W (.Call (.Name "isinstance" p) [e, .Name x p2] [] pos) (dCB (rdIsiO X.K) (dCons te (dCons (dC (.ref C)) dNil))) :=
  de_callB call_isi lift_isiO B.isi PyProof.Rows.boot_isinstance (da_cons he (da_cons (de_glob (v := .ref C) hm rfl (fun _ => .ref C) hgx hd) da_nil hs2) hs) hg (by decide) (by decide) hs hpl
end
end DL

set_option maxRecDepth 100000
set_option maxHeartbeats 2000000
/-! DLD: dicts asked and written, with readings that compute. -/
namespace DL
open PySem PySem.Spec L2
def toKey : D → Option Key
  | .int i => some (.inl i)
  | .str z => some (.inr z)
  | _ => none
def toKeys : List D → Option (List Key)
  | [] => some []
  | d :: ds => match toKey d, toKeys ds with
    | some k, some ks => some (k :: ks)
    | _, _ => none
theorem toKey_of {d : D} {k : Key} (h : toKey d = some k) : d = keyD k := by
  cases d <;> first | (cases h; rfl) | cases h
theorem toKeys_of : ∀ {ds : List D} {ks : List Key}, toKeys ds = some ks → ds = ks.map keyD
  | [], ks, h => by cases h; rfl
  | d :: ds, ks, h => by
    unfold toKeys at h
    split at h
    · rename_i k r h1 h2
      cases h
      rw [toKey_of h1, toKeys_of h2]
      rfl
    · cases h
/-- what x holds at y -/
def dget (S : Store) (x y : D) : Option D := match y with
  | .int i => (dkD S x).bind fun kds => valD kds (.inl i)
  | .str z => (dkD S x).bind fun kds => valD kds (.inr z)
  | .tup ds => (toKeys ds).bind fun k => (dtD S x).bind fun kds => valD kds k
  | _ => none
theorem dget_of {S : Store} {x y d : D} (h : dget S x y = some d) : DGetD S x y (some d) := by
  unfold dget at h
  split at h
  · obtain ⟨kds, h1, h2⟩ := Option.bind_eq_some_iff.mp h
    exact .inl ⟨kds, _, h1, rfl, h2.symm⟩
  · obtain ⟨kds, h1, h2⟩ := Option.bind_eq_some_iff.mp h
    exact .inl ⟨kds, _, h1, rfl, h2.symm⟩
  · obtain ⟨k, h0, h⟩ := Option.bind_eq_some_iff.mp h
    obtain ⟨kds, h1, h2⟩ := Option.bind_eq_some_iff.mp h
    exact .inr ⟨kds, _, h1, by rw [toKeys_of h0], h2.symm⟩
  · cases h
def rdDG : DR2 := fun x y S Q => ∃ d, dget S x y = some d ∧ Q d S
/-- x[y] = d -/
def dput (S : Store) (x y d : D) : Option Store := match x with
  | .ref a => match S a with
    | some (.dK ks ds) => (toKey y).bind fun k => if ks.length < sizeLine then some (put S a (.dK ((putD (ks.zip ds) k d).map (·.1)) ((putD (ks.zip ds) k d).map (·.2)))) else none
    | some (.dT ks ds) => match y with
      | .tup ys => (toKeys ys).bind fun k => if ks.length < sizeLine then some (put S a (.dT ((putD (ks.zip ds) k d).map (·.1)) ((putD (ks.zip ds) k d).map (·.2)))) else none
      | _ => none
    | _ => none
  | _ => none
theorem dput_of {S S' : Store} {x y d : D} (h : dput S x y d = some S') : ∃ a, x = .ref a ∧ ((∃ ks ds k, S a = some (.dK ks ds) ∧ y = keyD k ∧ ks.length < sizeLine ∧ S' = put S a (.dK ((putD (ks.zip ds) k d).map (·.1)) ((putD (ks.zip ds) k d).map (·.2)))) ∨
   ∃ ks ds k, S a = some (.dT ks ds) ∧ y = .tup (k.map keyD) ∧ ks.length < sizeLine ∧ S' = put S a (.dT ((putD (ks.zip ds) k d).map (·.1)) ((putD (ks.zip ds) k d).map (·.2)))) := by
  unfold dput at h
  split at h
  · rename_i a
    refine ⟨a, rfl, ?_⟩
    split at h
    · rename_i ks ds hs
      obtain ⟨k, h1, h⟩ := Option.bind_eq_some_iff.mp h
      split at h
      · rename_i hz
        cases h
        exact .inl ⟨ks, ds, k, hs, toKey_of h1, hz, rfl⟩
      · cases h
    · rename_i ks ds hs
      split at h
      · obtain ⟨k, h1, h⟩ := Option.bind_eq_some_iff.mp h
        split at h
        · rename_i hz
          cases h
          exact .inr ⟨ks, ds, k, hs, by rw [toKeys_of h1], hz, rfl⟩
        · cases h
      · cases h
    · cases h
  · cases h
section
variable {X : Cx} {W : WX} {o i e value : Expr} {td ty tv : DTE} {pos pos' : Pos}
theorem de_dg (hu : X.A.units + 1 < cLine) (ho : DE X W o td) (hi : DE X W i ty) (hs : NoSl i := by exact fun _ _ => rfl) : DE X W (.Subscript o i pos) (dOp rdDG td ty) :=
  de_pe (pe_dget hu ho.pe hi.pe hs) fun σ H P ⟨ρ, S, F, Z, Q, E, R, V, q, k, x⟩ =>
  ⟨ρ, S, F, Z, _, E, R, V, q, fun v H1 ⟨d, S1, F1, A1, i1, q1⟩ => ⟨ρ, S1, F1, Z, _, E, A1.rel, V.up A1.sm, q1, fun w H2 ⟨e, S2, F2, A2, i2, r, g, q2⟩ => by
    obtain ⟨a, o, rfl, h, z⟩ := dget_is A2.rel (i1.up A2.sm) i2 (dget_of g)
    rcases z with ⟨z, _⟩ | ⟨d2, w2, z, rfl, iv⟩
    · cases z
    · cases z
      exact ⟨a, w2, rfl, h, k _ _ ⟨r, S2, F2, A1.trans A2, iv, q2⟩⟩, xe_tr x A1⟩, x⟩
/-- o[i] = value -/
def dDP (td ty tv : DTE) : DTS := fun N ρ S => tv ρ S (fun d S1 => td ρ S1 (fun x S2 => ty ρ S2 (fun y S3 => ∃ S4, dput S3 x y d = some S4 ∧ N.nx ρ S4) (N.ex ρ)) (N.ex ρ)) (N.ex ρ)
theorem ds_dp (hu : X.A.units + 1 < cLine) (ho : DE X W o td) (hi : DE X W i ty) (hv : DE X W value tv) (hs : swapsWith value (some (.Subscript o i pos')) pos.line X.env = pure false := by rfl) :
    DS X W (.Assign [.Subscript o i pos'] value pos) (dDP td ty tv) :=
  ds_ps (ps_dput hu ho.pe hi.pe hv.pe hs) fun N σ H ⟨ρ, S, F, Z, Q, R, V, q, l⟩ => by
    have x := l.xe V
    refine ⟨ρ, S, F, Z, _, _, R, V, q, fun v H1 ⟨d, S1, F1, A1, i1, q1⟩ => ⟨ρ, S1, F1, Z, _, _, A1.rel, V.up A1.sm, q1, fun w H2 ⟨xd, S2, F2, A2, i2, q2⟩ => ⟨ρ, S2, F2, Z, _, _, A2.rel, (V.up A1.sm).up A2.sm, q2, fun u H3 ⟨yd, S3, F3, A3, i3, S4, hdp, q3⟩ => ?_, xe_tr x (A1.trans A2)⟩, xe_tr x A1⟩, x⟩
    have hd := dput_of hdp
    clear hdp
    obtain ⟨a, hx, hd⟩ := hd
    subst hx
    cases i2
    have A := A1.trans (A2.trans A3)
    have iv := (i1.up A2.sm).up A3.sm
    have V3 := V.up A.sm
    rcases hd with ⟨ks, ds, k, hs, rfl, z, rfl⟩ | ⟨ks, ds, k, hs, rfl, z, rfl⟩
    · obtain ⟨_, o, ho, kvs, rfl, h2, h3⟩ := A3.rel.sto a _ hs
      have p := (pr_of h2 h3).put k iv
      obtain ⟨R4, k4⟩ := A3.rel.wrote (o := .dK (putK kvs k v)) (m := .dK ((putD (ks.zip ds) k d).map (·.1)) ((putD (ks.zip ds) k d).map (·.2))) hs ⟨_, rfl, p.fst.symm, p.snd⟩
      rw [keyD_inv i3]
      exact ⟨a, _, rfl, .k ho (by rw [← List.length_map (f := (·.1)) (as := kvs), h2]; exact z), l.nx _ _ ⟨ρ, _, F3, A.trans ⟨Same.refl _, R4, k4⟩, V3, q3⟩⟩
    · obtain ⟨_, o, ho, kvs, rfl, h2, h3⟩ := A3.rel.sto a _ hs
      have p := (pr_of h2 h3).put k iv
      obtain ⟨R4, k4⟩ := A3.rel.wrote (o := .dT (putK kvs k v)) (m := .dT ((putD (ks.zip ds) k d).map (·.1)) ((putD (ks.zip ds) k d).map (·.2))) hs ⟨_, rfl, p.fst.symm, p.snd⟩
      obtain ⟨b, rfl, hb⟩ := tkey_is A3.rel i3
      exact ⟨a, _, rfl, .t ho hb (by rw [← List.length_map (f := (·.1)) (as := kvs), h2]; exact z), l.nx _ _ ⟨ρ, _, F3, A.trans ⟨Same.refl _, R4, k4⟩, V3, q3⟩⟩
end
/-! ### the deck of a law: a dict with the keys items, total, draws -/
abbrev deckKs : List Key := [.inr "items", .inr "total", .inr "draws"]
section
variable {x y z d : D}
theorem deck_items : valD [((Sum.inr "items" : Key), x), (Sum.inr "total", y), (Sum.inr "draws", z)] (Sum.inr "items") = some x := by with_unfolding_all rfl
theorem deck_total : valD [((Sum.inr "items" : Key), x), (Sum.inr "total", y), (Sum.inr "draws", z)] (Sum.inr "total") = some y := by with_unfolding_all rfl
theorem deck_draws : valD [((Sum.inr "items" : Key), x), (Sum.inr "total", y), (Sum.inr "draws", z)] (Sum.inr "draws") = some z := by with_unfolding_all rfl
theorem deck_put : putD [((Sum.inr "items" : Key), x), (Sum.inr "total", y), (Sum.inr "draws", z)] (Sum.inr "draws") d = [((Sum.inr "items" : Key), x), (Sum.inr "total", y), (Sum.inr "draws", d)] := by with_unfolding_all rfl
theorem deck_merge : mergeD [] [((Sum.inr "items" : Key), x), (Sum.inr "total", y), (Sum.inr "draws", z)] = [((Sum.inr "items" : Key), x), (Sum.inr "total", y), (Sum.inr "draws", z)] := by with_unfolding_all rfl
/-- asked and written by the store -/
theorem dget_items {S : Store} {a : Addr} (h : S a = some (.dK deckKs [x, y, z])) : dget S (.ref a) (.str "items") = some x := by
  show (dkM (S a)).bind _ = _
  rw [h]
  exact deck_items
theorem dget_total {S : Store} {a : Addr} (h : S a = some (.dK deckKs [x, y, z])) : dget S (.ref a) (.str "total") = some y := by
  show (dkM (S a)).bind _ = _
  rw [h]
  exact deck_total
theorem dget_draws {S : Store} {a : Addr} (h : S a = some (.dK deckKs [x, y, z])) : dget S (.ref a) (.str "draws") = some z := by
  show (dkM (S a)).bind _ = _
  rw [h]
  exact deck_draws
theorem dput_draws {S : Store} {a : Addr} (h : S a = some (.dK deckKs [x, y, z])) : dput S (.ref a) (.str "draws") d = some (put S a (.dK deckKs [x, y, d])) := by
  unfold dput
  simp only [h, toKey, Option.bind_some]
  have e : deckKs.length < sizeLine := by rw [sizeLine_eq]; decide
  rw [if_pos e]
  have e2 : deckKs.zip [x, y, z] = [((Sum.inr "items" : Key), x), (Sum.inr "total", y), (Sum.inr "draws", z)] := rfl
  rw [e2, deck_put]
  rfl
end
end DL

set_option maxRecDepth 100000
set_option maxHeartbeats 2000000
/-! DLW: what a law's deck of draws is, and what its defs promise. -/
namespace DL
open PySem PySem.Spec L2
/-- the deck at a, its list at L: k draws may still come -/
structure Deck (S : Store) (a L : Addr) (k : Nat) : Prop where
  ex : ∃ (ns : List Int) (t d : Int), S a = some (.dK deckKs [.ref L, .int t, .int d]) ∧ S L = some (.lst (ns.map .int)) ∧ ns.length ≤ 63 ∧ 0 ≤ t ∧ t < 2147483648 ∧ 0 ≤ d ∧ d + k ≤ 2 ^ 40
  ne : L ≠ a
/-- the rest of the store stays -/
def Off2 (S S' : Store) (a L : Addr) : Prop := ∀ b, b ≠ a → b ≠ L → S' b = S b
theorem Off2.refl {S : Store} {a L : Addr} : Off2 S S a L := fun _ _ _ => rfl
theorem Off2.trans {S S1 S2 : Store} {a L : Addr} (h : Off2 S S1 a L) (g : Off2 S1 S2 a L) : Off2 S S2 a L := fun b h1 h2 => (g b h1 h2).trans (h b h1 h2)
theorem Deck.mono {S : Store} {a L : Addr} {j k : Nat} (D : Deck S a L k) (h : j ≤ k) : Deck S a L j := by
  obtain ⟨⟨ns, t, d, h1, h2, h3, h4, h5, h6, h7⟩, n⟩ := D
  exact ⟨⟨ns, t, d, h1, h2, h3, h4, h5, h6, by omega⟩, n⟩
/-- a place of the store that is no part of the deck -/
theorem Deck.put_off {S : Store} {a L b : Addr} {k : Nat} {m : M} (D : Deck S a L k) (h1 : b ≠ a) (h2 : b ≠ L) : Deck (put S b m) a L k := by
  obtain ⟨⟨ns, t, d, g1, g2, h⟩, n⟩ := D
  exact ⟨⟨ns, t, d, by rw [put_ne (Ne.symm h1)]; exact g1, by rw [put_ne (Ne.symm h2)]; exact g2, h⟩, n⟩
theorem Deck.a_some {S : Store} {a L : Addr} {k : Nat} (D : Deck S a L k) {b : Addr} (h : S b = none) : b ≠ a ∧ b ≠ L := by
  obtain ⟨⟨ns, t, d, g1, g2, _⟩, _⟩ := D
  exact ⟨fun e => (by rw [e, g1] at h; cases h), fun e => (by rw [e, g2] at h; cases h)⟩
/-- a draw -/
def dspDraw : DSp := fun ds S Q _ => ∃ a L k m, ds = [.ref a, .int m] ∧ Deck S a L (k + 1) ∧ 0 < m ∧ m < 1073741824 ∧ ∀ (i : Int) S', 0 ≤ i → i < m → Deck S' a L k → Off2 S S' a L → Q (.int i) S'
/-- one of what is laid out -/
def dspPick : DSp := fun ds S Q _ => ∃ a L k x es, ds = [.ref a, x] ∧ (x = .tup es ∨ x = .lst es) ∧ Deck S a L (k + 1) ∧ 0 < es.length ∧ es.length < 1000000 ∧ ∀ (e : D) S', e ∈ es → Deck S' a L k → Off2 S S' a L → Q e S'
theorem atI_in {α : Type} {l : List α} {i : Int} (h0 : 0 ≤ i) (h1 : i < l.length) : ∃ x, atI l i = some x ∧ x ∈ l := by
  have hl : i.toNat < l.length := by omega
  refine ⟨l[i.toNat], ?_, List.getElem_mem hl⟩
  have e : ((i.toNat : Nat) : Int) = i := by omega
  have h2 : l[i.toNat]? = some l[i.toNat] := List.getElem?_eq_getElem hl
  have h3 := L2.atI_nat h2
  rw [e] at h3
  exact h3
/-- the deck made -/
def dspDeck : DSp := fun ds S Q _ => ∃ ns : List Int, ds = [.scr (ns.map .int)] ∧ ns.length ≤ 63 ∧ (∀ b, S b = none) ∧ ∀ a L S', Deck S' a L 1000000000 → Off2 S S' a L → Q (.ref a) S'
/-! lists of ints in the store -/
theorem ints_last {ns : List Int} {n : Int} (h : ns ≠ []) : ∃ z, (ns.map D.int)[(ns.map D.int).length - 1]? = some (.int z) ∧ (ns.map D.int).dropLast = ns.dropLast.map .int := by
  refine ⟨ns.getLast h, ?_, ?_⟩
  · rw [List.length_map, List.getElem?_map, ← List.getLast?_eq_getElem?, List.getLast?_eq_some_getLast h]
    rfl
  · rw [← List.map_dropLast]
/-- a turn that stays within a range -/
theorem emod_in {x m : Int} (h : 0 < m) : 0 ≤ x % m ∧ x % m < m := ⟨Int.emod_nonneg x (by omega), Int.emod_lt_of_pos x h⟩
theorem erase_map {α β : Type} (f : α → β) : ∀ (l : List α) (i : Nat), (l.map f).eraseIdx i = (l.eraseIdx i).map f
  | [], _ => rfl
  | _ :: _, 0 => rfl
  | x :: l, i + 1 => by
    show f x :: (l.map f).eraseIdx i = f x :: (l.eraseIdx i).map f
    rw [erase_map f l i]
theorem erase_perm {α : Type} : ∀ (l : List α) (i : Nat) (h : i < l.length), (l[i] :: l.eraseIdx i).Perm l
  | [], _, h => absurd h (Nat.not_lt_zero _)
  | x :: l, 0, _ => List.Perm.refl _
  | x :: l, i + 1, h => by
    have ih := erase_perm l i (Nat.lt_of_succ_lt_succ h)
    show (l[i]'(Nat.lt_of_succ_lt_succ h) :: x :: l.eraseIdx i).Perm (x :: l)
    exact (List.Perm.swap _ _ _).trans (ih.cons x)
end DL

set_option maxRecDepth 100000
set_option maxHeartbeats 2000000
/-! DLY: the readings a step at a time: each lemma takes the goal's head off. -/
namespace DL
open PySem PySem.Spec L2
section
variable {N : DEnds} {ρ : Sl} {S : Store} {Q : DQ} {E : DX} {t u : DTS} {te tf tg : DTE} {ta tb : DTA} {c c' : DTT} {QA : List D → Store → Prop} {QT : Bool → Store → Prop} {i j : Nat} {d x y : D}
theorem s_bindN {P : Sl → Prop} (h : P (ρ.set i (some d))) : ∃ ρ1, bindT (.name i) d ρ = some ρ1 ∧ P ρ1 := ⟨_, rfl, h⟩
theorem s_two {P : D → D → Prop} (h : P x y) : ∃ d1 d2, [x, y] = [d1, d2] ∧ P d1 d2 := ⟨x, y, rfl, h⟩
theorem s_var (e : ρ[i]? = some (some d)) (q : Q d S) : dVar i ρ S Q E := ⟨d, e, q⟩
theorem s_c (q : Q d S) : dC d ρ S Q E := q
theorem s_nil (q : QA [] S) : dNil ρ S QA E := q
theorem s_cons (h : te ρ S (fun d S1 => tb ρ S1 (fun ds S2 => QA (d :: ds) S2) E) E) : dCons te tb ρ S QA E := h
theorem s_tup (h : ta ρ S (fun ds S1 => ds.length ≤ sizeLine ∧ Q (.tup ds) S1) E) : dTup ta ρ S Q E := h
theorem s_lst (h : ta ρ S (fun ds S1 => ds.length ≤ sizeLine ∧ Q (.lst ds) S1) E) : dLst ta ρ S Q E := h
theorem s_lstM (h : ta ρ S (fun ds S1 => ds.length ≤ sizeLine ∧ ∀ a, S1 a = none → Q (.ref a) (put S1 a (.lst ds))) E) : dLstM ta ρ S Q E := h
theorem s_op {rd : DR2} (h : te ρ S (fun x S1 => tf ρ S1 (fun y S2 => rd x y S2 Q) E) E) : dOp rd te tf ρ S Q E := h
theorem s_cb {rd : DRL} (h : ta ρ S (fun xs S1 => rd xs S1 Q) E) : dCB rd ta ρ S Q E := h
theorem s_call {dsp : DSp} {dds : List D} (h : ta ρ S (fun xs S1 => dsp (xs ++ dds) S1 Q E) E) : dCall dsp dds ta ρ S Q E := h
theorem s_test (h : te ρ S (fun x S1 => ∃ k, x = .bl k ∧ QT k S1) E) : dTest te ρ S QT E := h
theorem s_bl {P : Bool → Prop} {b : Bool} (h : P b) : ∃ k, D.bl b = .bl k ∧ P k := ⟨b, rfl, h⟩
theorem s_not (h : c ρ S (fun b S1 => QT (!b) S1) E) : dNot c ρ S QT E := h
theorem s_and (h : c ρ S (fun b S1 => if b = true then c' ρ S1 QT E else QT false S1) E) : dAnd c c' ρ S QT E := h
theorem s_or (h : c ρ S (fun b S1 => if b = true then QT true S1 else c' ρ S1 QT E) E) : dOr c c' ρ S QT E := h
theorem s_andV (h : te ρ S (fun x S1 => ∃ b, x = .bl b ∧ if b = true then tf ρ S1 Q E else Q (.bl false) S1) E) : dAndV te tf ρ S Q E := h
theorem s_notV (h : te ρ S (fun x S1 => ∃ b, x = .bl b ∧ Q (.bl (!b)) S1) E) : dNotV te ρ S Q E := h
theorem s_if (h : c ρ S (fun b S1 => if b = true then te ρ S1 Q E else tf ρ S1 Q E) E) : dIf c te tf ρ S Q E := h
theorem s_int {f : Int → Int → D} {a b : Int} (h : Q (f a b) S) : rdInt f (.int a) (.int b) S Q := ⟨a, b, rfl, rfl, h⟩
theorem s_mulR {f : Int → Int → D} {a b : Int} (g : -18446744073709551616 < b ∧ b < 18446744073709551616) (h : Q (f a b) S) : rdIntC CMul f (.int a) (.int b) S Q := ⟨a, b, rfl, rfl, .inr g, h⟩
theorem s_mod {f : Int → Int → D} {a b : Int} (g : 0 < b) (h : Q (f a b) S) : rdIntC (fun _ j => 0 < j) f (.int a) (.int b) S Q := ⟨a, b, rfl, rfl, g, h⟩
theorem s_div {f : Int → Int → D} {a b : Int} (g : 0 < b ∧ b < 1073741824) (h : Q (f a b) S) : rdIntC CDiv f (.int a) (.int b) S Q := ⟨a, b, rfl, rfl, g, h⟩
theorem s_pow {f : Int → Int → D} {a b : Int} (g : 0 ≤ b ∧ b ≤ 1000000 ∧ a.natAbs < 2 ^ 64) (h : Q (f a b) S) : rdIntC CPow f (.int a) (.int b) S Q := ⟨a, b, rfl, rfl, g, h⟩
theorem s_size {ds : List D} {P : Prop} (z : ds.length ≤ sizeLine) (h : P) : ds.length ≤ sizeLine ∧ P := ⟨z, h⟩
theorem nilR {a : Addr} {ds : List D} (h : S a = some (.lst ds)) : nilD S (.ref a) (.lst []) = some ds := by
  show lstM (S a) = _
  rw [h]
  rfl
theorem s_pop {a : Addr} {ds : List D} (e : ds[ds.length - 1]? = some d) (h : Q d (put S a (.lst ds.dropLast))) : rdPop a ds [] S Q := ⟨d, rfl, e, h⟩
theorem s_append {a : Addr} {ds : List D} (z : ds.length < sizeLine) (h : Q .non (put S a (.lst (ds ++ [d])))) : rdAppend a ds [d] S Q := ⟨d, rfl, z, h⟩
theorem s_popAt {a : Addr} {ds : List D} {i : Int} (h0 : 0 ≤ i) (h1 : i < ds.length) (hz : ds.length < 4611686018427387904) (h : ∀ d, ds[i.toNat]? = some d → Q d (put S a (.lst (ds.eraseIdx i.toNat)))) : rdPopAt a ds [.int i] S Q := by
  have hl : i.toNat < ds.length := by omega
  refine ⟨i, i.toNat, ds[i.toNat], rfl, by omega, by omega, ?_, List.getElem?_eq_getElem hl, h _ (List.getElem?_eq_getElem hl)⟩
  unfold seqIndex?
  have e : ¬ i < 0 := by omega
  simp [e, h0, h1]
theorem lenR {a : Addr} {ds : List D} (h : S a = some (.lst ds)) : lenD S (.ref a) = some ds.length := by
  show lenM (S a) = _
  rw [h]
  rfl
theorem s_addI {a b : Int} (h : Q (.int (a + b)) S) : rdAdd (.int a) (.int b) S Q := h
theorem s_addS {a b : Str} (z : a.length + b.length ≤ sizeLine) (h : Q (.str (a ++ b)) S) : rdAdd (.str a) (.str b) S Q := ⟨z, h⟩
theorem s_addT {a b : List D} (z : a.length + b.length ≤ sizeLine) (h : Q (.tup (a ++ b)) S) : rdAdd (.tup a) (.tup b) S Q := ⟨z, h⟩
theorem s_addL {a b : List D} (z : a.length + b.length ≤ sizeLine) (h : Q (.lst (a ++ b)) S) : rdAdd (.lst a) (.lst b) S Q := ⟨z, h⟩
theorem s_int1 {a : Int} (h : Q (.int a) S) : rdInt1C [.int a] S Q := h
theorem s_rd1 {α : Type} {f : Store → D → Option α} {g : α → D} {a : α} (e : f S x = some a) (h : Q (g a) S) : rd1 f g [x] S Q := ⟨a, e, h⟩
theorem s_isi {n t : String} (e : tyD S x = some t) (m : n ∈ tyIn) (h : Q (.bl (isB t n)) S) : rdIsi2 [x, .ty n] S Q := ⟨t, e, m, h⟩
theorem s_dg (e : dget S x y = some d) (h : Q d S) : rdDG x y S Q := ⟨d, e, h⟩
theorem s_some {α : Type} {o : Option α} {a : α} {P : α → Prop} (e : o = some a) (h : P a) : ∃ b, o = some b ∧ P b := ⟨a, e, h⟩
theorem s_nilC {neg : Bool} {ds : List D} (e : nilD S x y = some ds) (h : Q (.bl (if neg then !ds.isEmpty else ds.isEmpty)) S) : rdNil neg x y S Q := ⟨ds, e, h⟩
theorem s_mt {rd : DRA} {to : DTE} (h : to ρ S (fun x S1 => ∃ a, x = .ref a ∧ (∃ ds, S1 a = some (.lst ds)) ∧ ta ρ S1 (fun xs S2 => ∃ ds, S2 a = some (.lst ds) ∧ rd a ds xs S2 Q) E) E) : dMt rd to ta ρ S Q E := h
theorem s_mtA {a : Addr} {ds : List D} {R : Addr → Prop} (e : S a = some (.lst ds)) (h : R a) : ∃ b, D.ref a = .ref b ∧ (∃ ds, S b = some (.lst ds)) ∧ R b := ⟨a, rfl, ⟨ds, e⟩, h⟩
theorem s_someL {a : Addr} {ds : List D} {R : List D → Prop} (e : S a = some (.lst ds)) (h : R ds) : ∃ es, S a = some (.lst es) ∧ R es := ⟨ds, e, h⟩
theorem s_fld {C : Addr} {f : Str} (h : te ρ S (fun x S1 => ∃ kds d, objD C S1 x = some kds ∧ kds.lookup f = some d ∧ Q d S1) E) : dFld C f te ρ S Q E := h
theorem s_sl {tl th : DTO} (h : te ρ S (fun x S1 => tl ρ S1 (fun l S2 => th ρ S2 (fun u S3 => rdSl x l u S3 Q) E) E) E) : dSl te tl th ρ S Q E := h
theorem s_noPart {QO : Option Int → Store → Prop} (h : QO none S) : dNoPart ρ S QO E := h
theorem s_part {QO : Option Int → Store → Prop} (h : te ρ S (fun x S1 => ∃ i, x = .int i ∧ QO (some i) S1) E) : dPart te ρ S QO E := h
theorem s_ei {P : Int → Prop} {b : Int} (h : P b) : ∃ k, D.int b = .int k ∧ P k := ⟨b, rfl, h⟩
theorem s_slT {ds : List D} {l h : Option Int} (q : Q (.tup (cutD ds l h)) S) : rdSl (.tup ds) l h S Q := q
theorem s_slL {ds : List D} {l h : Option Int} (q : Q (.lst (cutD ds l h)) S) : rdSl (.lst ds) l h S Q := q
theorem s_slC {ds : List D} {l h : Option Int} (q : Q (.lst (cutD ds l h)) S) : rdSl (.scr ds) l h S Q := q
theorem s_ixT {ds : List D} {k : Int} (e : atI ds k = some d) (q : Q d S) : rdIx (.tup ds) (.int k) S Q := ⟨k, rfl, d, e, q⟩
theorem s_ixL {ds : List D} {k : Int} (e : atI ds k = some d) (q : Q d S) : rdIx (.lst ds) (.int k) S Q := ⟨k, rfl, d, e, q⟩
theorem s_revM (h : te ρ S (fun x S1 => ∃ ds, lstD S1 x = some ds ∧ ∀ a, S1 a = none → Q (.ref a) (put S1 a (.lst ds.reverse))) E) : dRevM te ρ S Q E := h
theorem s_itL {QI : List D → Store → Prop} (h : te ρ S (fun d S1 => ∃ ds, (d = .lst ds ∨ d = .scr ds) ∧ QI ds S1) E) : dItL te ρ S QI E := h
theorem s_itLl {QI : List D → Prop} {ds : List D} (h : QI ds) : ∃ es, (D.lst ds = .lst es ∨ D.lst ds = .scr es) ∧ QI es := ⟨ds, .inl rfl, h⟩
theorem s_itT {QI : List D → Store → Prop} (h : te ρ S (fun d S1 => ∃ ds, d = .tup ds ∧ QI ds S1) E) : dItT te ρ S QI E := h
theorem s_itTt {QI : List D → Prop} {ds : List D} (h : QI ds) : ∃ es, D.tup ds = .tup es ∧ QI es := ⟨ds, rfl, h⟩
theorem s_it1 {QI : List D → Store → Prop} (h : ta ρ S (fun ds S1 => ∃ j : Int, ds = [.int j] ∧ -(2 ^ 62) ≤ j ∧ j < 2 ^ 62 ∧ QI (dItR 0 j.toNat) S1) E) : dIt1 ta ρ S QI E := h
theorem s_it1i {P : Int → Prop} {b : Int} (h1 : -(2 ^ 62) ≤ b) (h2 : b < 2 ^ 62) (h : P b) : ∃ j : Int, [D.int b] = [.int j] ∧ -(2 ^ 62) ≤ j ∧ j < 2 ^ 62 ∧ P j := ⟨b, rfl, h1, h2, h⟩
theorem s_lc {ti : DTI} {g : Tgt} {tt : DTT} {vs : List Nat} (h : ti ρ S (fun items S1 => items.length ≤ sizeLine ∧ dLcGo g tt te (wipeD ρ vs) items [] S1 (fun ds S1 => Q (.lst ds) S1)) E) : dLc ti g tt te vs ρ S Q E := h
theorem s_disp {trs : List (DTE × DTE)} {fin : List (Key × D) → Store → DQ → Prop} (h : dPairs trs ρ S (fun ps S1 => ∃ kds : List (Key × D), ps = kds.map (fun kd => (keyD kd.1, kd.2)) ∧ kds.length ≤ 15 ∧ fin (mergeD [] kds) S1 Q) E) : dDisp trs fin ρ S Q E := h
theorem s_pairs0 {QP : List (D × D) → Store → Prop} (h : QP [] S) : dPairs [] ρ S QP E := h
theorem s_pairs1 {QP : List (D × D) → Store → Prop} {tk tv : DTE} {r : List (DTE × DTE)} (h : tk ρ S (fun x S1 => tv ρ S1 (fun y S2 => dPairs r ρ S2 (fun ps S3 => QP ((x, y) :: ps) S3) E) E) E) : dPairs ((tk, tv) :: r) ρ S QP E := h
theorem s_newK (h : Q (.dK [] []) S) : dNewK ρ S Q E := h
theorem s_iteT {A B : Prop} (h : A) : if true = true then A else B := by rw [if_pos rfl]; exact h
theorem s_iteF {A B : Prop} (h : B) : if false = true then A else B := by rw [if_neg Bool.false_ne_true]; exact h
/-- a loop by what holds between two turns -/
theorem for_inv {g : Tgt} {tb : DTS} (Inv : List D → Sl → Store → Prop) (h0 : ∀ ρ S, Inv [] ρ S → N.nx ρ S) (h1 : ∀ d r, (∀ ρ2 S2, Inv r ρ2 S2 → dForGo g tb r N ρ2 S2) → ∀ ρ S, Inv (d :: r) ρ S → dForGo g tb (d :: r) N ρ S) :
    ∀ items ρ S, Inv items ρ S → dForGo g tb items N ρ S
  | [], ρ, S, h => h0 ρ S h
  | d :: r, ρ, S, h => h1 d r (for_inv Inv h0 h1 r) ρ S h
theorem s_lcCons {g : Tgt} {tt : DTT} {r acc : List D} (h : ∃ ρ1, bindT g d ρ = some ρ1 ∧ tt ρ1 S (fun b S1 => if b = true then te ρ1 S1 (fun y S2 => dLcGo g tt te ρ r (acc ++ [y]) S2 QA) (fun _ _ _ _ => False) else dLcGo g tt te ρ r acc S1 QA) fun _ _ _ _ => False) : dLcGo g tt te ρ (d :: r) acc S QA := h
theorem s_yes (h : QT true S) : dYes ρ S QT E := h
theorem lc_inv {g : Tgt} {tt : DTT} (Inv : List D → List D → Store → Prop) (h0 : ∀ acc S, Inv [] acc S → QA acc S) (h1 : ∀ d r, (∀ acc S2, Inv r acc S2 → dLcGo g tt te ρ r acc S2 QA) → ∀ acc S, Inv (d :: r) acc S → dLcGo g tt te ρ (d :: r) acc S QA) :
    ∀ items acc S, Inv items acc S → dLcGo g tt te ρ items acc S QA
  | [], acc, S, h => h0 acc S h
  | d :: r, acc, S, h => h1 d r (lc_inv Inv h0 h1 r) acc S h
theorem s_iteT1 {b : Bool} {A B : Prop} (e : b = true) (h : A) : if b = true then A else B := by rw [if_pos e]; exact h
theorem s_iteF1 {b : Bool} {A B : Prop} (e : b = false) (h : B) : if b = true then A else B := by rw [if_neg (by rw [e]; exact Bool.false_ne_true)]; exact h
theorem s_bindT {P : Sl → Prop} {g : Tgt} {ρ1 : Sl} (e : bindT g d ρ = some ρ1) (h : P ρ1) : ∃ ρ2, bindT g d ρ = some ρ2 ∧ P ρ2 := ⟨ρ1, e, h⟩
end
end DL

set_option maxRecDepth 100000
set_option maxHeartbeats 4000000
/-! DLQ: the order of tuples of texts; sets of up to three values, as a choice lists them. -/
namespace DL
open PySem PySem.Spec PySem.W PyProof.Rows L2
/-- x before y -/
def ltS (x y : Str) : Bool := decide (x.cps.toList < y.cps.toList)
theorem ltC_dec : ∀ l m : List Nat, DLS.ltC l m = decide (l < m)
  | [], [] => by simp [DLS.ltC, PySem.Spec.ltCps]
  | [], _ :: _ => by simp [DLS.ltC, PySem.Spec.ltCps]
  | _ :: _, [] => by simp [DLS.ltC, PySem.Spec.ltCps]
  | a :: l, b :: m => by
    have ih := ltC_dec l m
    by_cases h : DLS.ltC (a :: l) (b :: m) = true
    · rw [h]
      have h2 := DLS.ltC_cons.mp h
      symm
      rw [decide_eq_true_eq, List.cons_lt_cons_iff]
      rcases h2 with h2 | ⟨h2, h3⟩
      · exact .inl h2
      · rw [ih, decide_eq_true_eq] at h3
        exact .inr ⟨h2, h3⟩
    · have h1 : DLS.ltC (a :: l) (b :: m) = false := by simpa using h
      rw [h1]
      symm
      rw [decide_eq_false_iff_not, List.cons_lt_cons_iff]
      rintro (h2 | ⟨h2, h3⟩)
      · exact h (DLS.ltC_cons.mpr (.inl h2))
      · exact h (DLS.ltC_cons.mpr (.inr ⟨h2, by rw [ih, decide_eq_true_eq]; exact h3⟩))
theorem leS_lt (x y : Str) : DLS.leS x y = !ltS y x := by
  unfold DLS.leS ltS
  rw [ltC_dec]
theorem ltS_irrefl (x : Str) : ltS x x = false := by
  have h := DLS.ltC_irrefl x.cps.toList
  rw [ltC_dec] at h
  exact h
theorem ltS_asymm {x y : Str} (h : ltS x y = true) : ltS y x = false := by
  cases e : ltS y x with
  | false => rfl
  | true =>
    have h1 : DLS.ltC x.cps.toList y.cps.toList = true := by rw [ltC_dec]; exact h
    have h2 : DLS.ltC y.cps.toList x.cps.toList = true := by rw [ltC_dec]; exact e
    have h3 := DLS.ltC_trans h1 h2
    rw [DLS.ltC_irrefl] at h3
    cases h3
theorem ltS_of {x y : Str} (h : DLS.leS x y = true) (n : x ≠ y) : ltS x y = true := by
  cases e : ltS x y with
  | true => rfl
  | false =>
    exact absurd (DLS.leS_antisymm h (by rw [leS_lt, e]; rfl)) n
theorem ltS_ne {x y : Str} (h : ltS x y = true) : x ≠ y := fun e => by
  rw [e, ltS_irrefl] at h
  cases h
/-- tuples of texts -/
def ltTS : List Str → List Str → Bool
  | [], [] => false
  | [], _ :: _ => true
  | _ :: _, [] => false
  | x :: xs, y :: ys => if x = y then ltTS xs ys else ltS x y
def leTS (x y : List Str) : Bool := !ltTS y x
def encT (z : List Str) : D := .tup (z.map .str)
theorem showDs_strs : ∀ z : List Str, showDs (z.map D.str) = some (z.map .str)
  | [] => rfl
  | x :: z => by
    show (match showD (.str x), showDs (z.map D.str) with
      | some p, some ps => some (p :: ps)
      | _, _ => none) = _
    rw [showDs_strs z]
    rfl
theorem showD_encT (z : List Str) : showD (encT z) = some (.tuple (z.map .str)) := by
  show (showDs (z.map D.str)).map PyData.tuple = _
  rw [showDs_strs]
  rfl
theorem rowLt_strs : ∀ xs ys : List Str, rowLt (xs.map .str) (ys.map .str) = ltTS xs ys
  | [], [] => lex_irrefl _
  | [], y :: ys => by
    unfold rowLt
    rw [List.map_nil, List.map_cons, toks_all_cons]
    simp only [keyToksAll]
    rw [lex_diff (O := itemOrd) (by simp)]
    rfl
  | x :: xs, [] => by
    unfold rowLt
    rw [List.map_nil, List.map_cons, toks_all_cons]
    simp only [keyToksAll]
    rw [lex_diff (O := itemOrd) (by simp)]
    rfl
  | x :: xs, y :: ys => by
    have ih := rowLt_strs xs ys
    unfold rowLt at ih ⊢
    rw [List.map_cons, List.map_cons, dataLt_cons (by simp [alike]), dataLt_str, ih]
    simp only [PyData.eqv, beq_iff_eq]
    rfl
theorem dataLt_encT (x y : List Str) : dataLt (.tuple (x.map .str)) (.tuple (y.map .str)) = ltTS x y := by
  rw [dataLt_tuple]
  exact rowLt_strs x y
theorem leD_encT (x y : List Str) : leD (encT x) (encT y) = leTS x y := by
  show (!dataLt (showP (encT y)) (showP (encT x))) = _
  rw [showP_of (showD_encT x), showP_of (showD_encT y), dataLt_encT]
  rfl
theorem leD_total : TotalLe leD := by
  unfold leD PySem.W.dataLe
  exact sortLe_total _ _ _
theorem leTS_total : TotalLe leTS := ⟨fun a b c h g => by
  rw [← leD_encT] at h g ⊢
  exact leD_total.trans _ _ _ h g, fun a b => by
  rw [← leD_encT, ← leD_encT]
  exact leD_total.total _ _⟩
end DL

set_option maxRecDepth 100000
set_option maxHeartbeats 2000000
/-! DTS4: tuples of texts as keys; sorted of a set of them. -/
namespace DTS
open PySem PySem.Spec PyProof.Rows L2
section
variable {P : Program} {w : World} {A : Around} {E : Value → Shared → Prop} {s : Shared}
abbrev TK (P : Program) (w : World) : HeapKind P w (List Str) := tupleKind (PySem.strKind P w)
theorem texts_items {k : List Str} {vs : List Value} (h : ItemsAre (PySem.strKind P w) k vs) : StrsAre vs k := by
  induction h with
  | nil => exact .nil
  | @cons x v ks vs h1 _ ih =>
    obtain ⟨t, rfl⟩ := Value.isStrOf_shape (show Value.isStrOf x v = true from h1)
    exact .cons x t ih
theorem only_texts {k : List Str} {vs : List Value} (h : StrsAre vs k) : ∀ v ∈ vs, ∃ x t, v = Value.str x t := by
  induction h with
  | nil => exact fun v hv => (List.not_mem_nil hv).elim
  | cons x t _ ih =>
    intro v hv
    rcases List.mem_cons.mp hv with rfl | hv
    · exact ⟨x, t, rfl⟩
    · exact ih v hv
theorem cls_text (n : Nat) (x : Str) (t : Tok) : ofAClassStatement n (.str x t) = pure false := by cases n <;> rfl
theorem byv_text (n : Nat) (x : Str) (t : Tok) : hashByValue n (.str x t) = pure false := by cases n <;> simp [hashByValue]
theorem cls_tup {k : List Str} {b : Addr} {Q : Bool → Shared → Prop} (kb : (TK P w).is s.heap k b) (fin : Q false s) : wpAny (model P w) A (ofAClassStatement 8 (.ref b)) Q E s := by
  have ty : s.TypeIs (.ref b) "tuple" := IsTupleKey.typeIs kb
  obtain ⟨ob, its, n, at_, _, dt, hi⟩ := kb
  unfold ofAClassStatement
  refine wpAny_bind (wpAny_typeOf ty ?_)
  dsimp only
  simp only [show (("tuple" : String) == "tuple") = true by decide, ↓reduceIte, Bool.not_true, Bool.false_eq_true]
  try refine wpAny_bind (wpAny_pure ?_)
  show wpAny _ _ (seqItems? (.ref b) >>= _) _ _ s
  refine wpAny_bind (wpAny_seqItems at_ dt ?_)
  dsimp only
  refine wpAny_bind ?_
  show wpAny _ _ (forIn its _ _) _ _ s
  rw [← Array.forIn_toList]
  refine wpAny_forIn_list _ (fun rest r z => r.1 = none ∧ z = s ∧ ∀ v ∈ rest, ∃ x t, v = Value.str x t) _ ?_ ?_ _ _ ⟨rfl, rfl, only_texts (texts_items hi)⟩
  · rintro v rest r z ⟨er, rfl, all⟩
    obtain ⟨x, t, rfl⟩ := all v List.mem_cons_self
    rw [cls_text]
    refine wpAny_bind (wpAny_pure ?_)
    simp only [Bool.false_eq_true, ↓reduceIte]
    exact wpAny_pure ⟨rfl, rfl, fun u hu => all u (List.mem_cons_of_mem _ hu)⟩
  · rintro ⟨r, u⟩ z ⟨er, rfl, _⟩
    dsimp only at er
    subst er
    exact wpAny_pure fin
theorem byv_tup {k : List Str} {b : Addr} {Q : Bool → Shared → Prop} (kb : (TK P w).is s.heap k b) (fin : ∀ q, Q q s) : wpAny (model P w) A (hashByValue 8 (.ref b)) Q E s := by
  have ty : s.TypeIs (.ref b) "tuple" := IsTupleKey.typeIs kb
  obtain ⟨ob, its, n, at_, _, dt, hi⟩ := kb
  unfold hashByValue
  refine wpAny_bind (wpAny_specialOf ty F.slot_tuple_hash.lookup ?_)
  show wpAny _ _ (seqItems? (.ref b) >>= _) _ _ s
  refine wpAny_bind (wpAny_seqItems at_ dt (wpAny_bind ?_))
  show wpAny _ _ (forIn its _ _) _ _ s
  rw [← Array.forIn_toList]
  refine wpAny_forIn_list _ (fun rest r z => r.1 = none ∧ z = s ∧ ∀ v ∈ rest, ∃ x t, v = Value.str x t) _ ?_ ?_ _ _ ⟨rfl, rfl, only_texts (texts_items hi)⟩
  · rintro v rest r z ⟨er, rfl, all⟩
    obtain ⟨x, t, rfl⟩ := all v List.mem_cons_self
    rw [byv_text]
    refine wpAny_bind (wpAny_pure ?_)
    simp only [Bool.not_false, ↓reduceIte]
    exact wpAny_pure (wpAny_pure (fin false))
  · rintro ⟨r, u⟩ z ⟨er, rfl, _⟩
    dsimp only at er
    subst er
    exact wpAny_pure (fin true)
/-- tuples of texts -/
def TT (P : Program) (w : World) : HKey P w (List Str) where
  kind := TK P w
  cls := fun kb fin => cls_tup kb fin
  byv := fun kb fin => byv_tup kb fin
  move := fun ⟨o, its, n, e, c, dt, r⟩ k => ⟨o, its, n, k _ o e (fun es ep t z => by rw [dt] at z; cases z), c, dt, r⟩
  some_ := fun ⟨o, its, n, e, _, dt, _⟩ => ⟨o, e, fun es ep t z => by
    rw [dt] at z
    cases z⟩
end
end DTS

set_option maxRecDepth 100000
set_option maxHeartbeats 4000000
/-! DLQ2: the nonempty sets of up to three values, in the order of a choice. -/
namespace DL
open PySem PySem.Spec PySem.W L2
/-- one to three values, ascending -/
def Dom3 (dom : List Str) : Prop := (∃ a, dom = [a]) ∨ (∃ a b, dom = [a, b] ∧ ltS a b = true) ∨ ∃ a b c, dom = [a, b, c] ∧ ltS a b = true ∧ ltS a c = true ∧ ltS b c = true
theorem dom3_of {dom : List Str} (h1 : 1 ≤ dom.length) (h3 : dom.length ≤ 3) (pw : dom.Pairwise (fun a b => DLS.leS a b = true)) (nd : dom.Nodup) : Dom3 dom := by
  match dom, h1, h3, pw, nd with
  | [a], _, _, _, _ => exact .inl ⟨a, rfl⟩
  | [a, b], _, _, pw, nd =>
    simp at pw nd
    exact .inr (.inl ⟨a, b, rfl, ltS_of pw nd⟩)
  | [a, b, c], _, _, pw, nd =>
    simp at pw nd
    exact .inr (.inr ⟨a, b, c, rfl, ltS_of pw.1.1 nd.1.1, ltS_of pw.1.2 nd.1.2, ltS_of pw.2 nd.2⟩)
  | [], h1, _, _, _ => exact absurd h1 (by simp)
  | _ :: _ :: _ :: _ :: _, _, h3, _, _ => exact absurd h3 (by simp)
end DL

set_option maxRecDepth 100000
set_option maxHeartbeats 4000000
/-! DLQ3: sorted of tuples of texts, read. -/
namespace DL
open PySem PySem.Spec PySem.W L2
section
variable {N : DEnds} {ρ : Sl} {S : Store} {Q : DQ} {E : DX} {d : D}
end
end DL

set_option maxRecDepth 100000
set_option maxHeartbeats 2000000
/-! DTS5: sorted(set(xs)) of tuples of texts. -/
namespace DTS
open PySem PySem.Spec PyProof.Rows L2
section
variable {P : Program} {w : World} {A : Around} {E : Value → Shared → Prop} {s : Shared} {a : Addr}
set_option maxHeartbeats 4000000 in
end
end DTS

set_option maxRecDepth 100000
set_option maxHeartbeats 2000000
/-! DTS6: sorted(set(x)) of tuples of texts, over trees. -/
namespace DL
open PySem PySem.Spec L2 DTS
section
variable {X : Cx} {W : WX} {e : Expr} {ta : TE} {te : DTE} {p p2 q pos : Pos}
end
end DL

set_option maxRecDepth 100000
set_option maxHeartbeats 4000000
/-! DLU: more steps: tuples of texts compared and cut, dicts of sets, choices as data. -/
namespace DL
open PySem PySem.Spec L2
section
variable {S : Store} {Q : DQ}
theorem s_eqTS {neg : Bool} {x y : List Str} (hx : ∀ z ∈ x, PyData.strOk z = true) (hy : ∀ z ∈ y, PyData.strOk z = true) (h : Q (.bl (if neg then !decide (x = y) else decide (x = y))) S) : rdEq neg (.tup (x.map .str)) (.tup (y.map .str)) S Q := by
  refine ⟨_, _, toPy_strs x, toPy_strs y, (shaped_strs hx).1, (shaped_strs hy).1, ?_⟩
  rw [eqv_tstrs]
  exact h
theorem cut_take {α : Type} (l : List α) (n : Nat) : cutD l none (some (n : Int)) = l.take n := by
  unfold cutD
  rw [HT.sIx_nat]
  have e : HT.sIx l.length 0 none = 0 := rfl
  rw [e, Nat.sub_zero, List.drop_zero]
  by_cases h : n ≤ l.length
  · rw [Nat.min_eq_left h]
  · rw [Nat.min_eq_right (by omega), List.take_of_length_le (Nat.le_refl _), List.take_of_length_le (by omega)]
theorem cut_drop {α : Type} (l : List α) (n : Nat) : cutD l (some (n : Int)) none = l.drop n := by
  unfold cutD
  rw [HT.sIx_nat]
  have e : HT.sIx l.length l.length none = l.length := rfl
  rw [e]
  by_cases h : n ≤ l.length
  · rw [Nat.min_eq_left h, List.take_of_length_le]
    rw [List.length_drop]
    omega
  · rw [Nat.min_eq_right (by omega), List.drop_length, List.drop_of_length_le (by omega)]
    simp
end
/-! dicts whose keys are tuples of texts -/
theorem mergeDT_nodup : ∀ (more kds : List (List Key × D)), ((kds ++ more).map (·.1)).Nodup → mergeDT kds more = kds ++ more
  | [], kds, _ => by simp [mergeDT]
  | (k, d) :: r, kds, h => by
    have hk : ∀ x ∈ kds, x.1 ≠ k := fun x hx e => by
      rw [List.map_append, List.nodup_append] at h
      exact h.2.2 x.1 (List.mem_map.mpr ⟨x, hx, rfl⟩) k (by simp) e
    have e : putD kds k d = kds ++ [(k, d)] := by
      unfold putD
      have : ¬ ((kds.any fun kd => decide (kd.1 = k)) = true) := by
        rw [List.any_eq_true]
        rintro ⟨x, hx, e⟩
        exact hk x hx (of_decide_eq_true e)
      rw [if_neg this]
    show mergeDT (putD kds k d) r = _
    rw [e, mergeDT_nodup r (kds ++ [(k, d)]) (by rw [List.append_assoc]; exact h), List.append_assoc]
    rfl
def keyT (z : List Str) : List Key := z.map Sum.inr
theorem keyT_inj {x y : List Str} (h : keyT x = keyT y) : x = y := by
  unfold keyT at h
  induction x generalizing y with
  | nil => cases y with
    | nil => rfl
    | cons _ _ => cases h
  | cons a x ih => cases y with
    | nil => cases h
    | cons b y =>
      rw [List.map_cons, List.map_cons] at h
      injection h with h1 h2
      injection h1 with h1
      rw [h1, ih h2]
theorem keyT_nodup {ls : List (List Str)} (h : ls.Nodup) : (ls.map keyT).Nodup := by
  induction h with
  | nil => exact List.nodup_nil
  | @cons a l h1 h2 ih =>
    rw [List.map_cons, List.nodup_cons]
    refine ⟨fun hm => ?_, ih⟩
    obtain ⟨b, hb, e⟩ := List.mem_map.mp hm
    exact h1 b hb (keyT_inj e).symm
theorem zip_fst {α β : Type} : ∀ {l : List α} {m : List β}, l.length = m.length → (l.zip m).map (·.1) = l
  | [], _, _ => rfl
  | x :: l, [], h => by cases h
  | x :: l, y :: m, h => by
    rw [List.zip_cons_cons, List.map_cons, zip_fst (by simpa using h)]
theorem zip_snd {α β : Type} : ∀ {l : List α} {m : List β}, l.length = m.length → (l.zip m).map (·.2) = m
  | [], [], _ => rfl
  | [], _ :: _, h => by cases h
  | x :: l, [], h => by cases h
  | x :: l, y :: m, h => by
    rw [List.zip_cons_cons, List.map_cons, zip_snd (by simpa using h)]
/-- what a set leads to -/
def lookS {β : Type} (ls : List (List Str)) (vs : List β) (z : List Str) : Option β := ((ls.zip vs).find? fun p => decide (p.1 = z)).map (·.2)
theorem look_tab {β : Type} (f : β → D) (z : List Str) : ∀ (ls : List (List Str)) (vs : List β), valD ((ls.map keyT).zip (vs.map f)) (keyT z) = (lookS ls vs z).map f
  | [], _ => rfl
  | x :: ls, [] => rfl
  | x :: ls, v :: vs => by
    have ih := look_tab f z ls vs
    unfold valD lookS at ih ⊢
    rw [List.map_cons, List.map_cons, List.zip_cons_cons, List.zip_cons_cons, List.find?_cons, List.find?_cons]
    by_cases h : x = z
    · have h2 : keyT x = keyT z := by rw [h]
      simp [h]
    · have h2 : ¬ keyT x = keyT z := fun e => h (keyT_inj e)
      simp only [h, h2, decide_false]
      exact ih
theorem look_some {β : Type} {z : List Str} : ∀ {ls : List (List Str)} {vs : List β}, z ∈ ls → ls.length = vs.length → ∃ v, lookS ls vs z = some v ∧ v ∈ vs
  | [], _, h, _ => by cases h
  | x :: ls, [], _, h => by cases h
  | x :: ls, v :: vs, hm, hl => by
    unfold lookS
    rw [List.zip_cons_cons, List.find?_cons]
    by_cases h : x = z
    · simp [h]
    · have hm2 : z ∈ ls := by
        rcases List.mem_cons.mp hm with e | e
        · exact absurd e.symm h
        · exact e
      obtain ⟨w, h1, h2⟩ := look_some (vs := vs) hm2 (by simpa using hl)
      unfold lookS at h1
      simp only [h, decide_false]
      exact ⟨w, h1, List.mem_cons_of_mem _ h2⟩
/-! sets of values of a domain -/
theorem dom3_pw {dom : List Str} (h : Dom3 dom) : dom.Pairwise (fun a b => DLS.leS a b = true) ∧ dom.Nodup ∧ 1 ≤ dom.length ∧ dom.length ≤ 3 := by
  rcases h with ⟨a, rfl⟩ | ⟨a, b, rfl, h1⟩ | ⟨a, b, c, rfl, h1, h2, h3⟩
  · simp
  · simp [leS_lt, ltS_asymm h1, ltS_ne h1]
  · simp [leS_lt, ltS_asymm h1, ltS_asymm h2, ltS_asymm h3, ltS_ne h1, ltS_ne h2, ltS_ne h3]
section
variable {N : DEnds} {ρ : Sl} {S : Store} {Q : DQ} {E : DX} {t tv : DTE} {ta : DTA}
theorem s_make {C : Addr} {dsp : DSp} {dds : List D} (h : ta ρ S (fun xs S1 => ∀ a, S1 a = none → dsp (.ref a :: (xs ++ dds)) (put S1 a (.ins C [] [])) (fun d S2 => d = .non ∧ ∃ ns ds, S2 a = some (.ins C ns ds) ∧ Q (.obj C ns ds) (del S2 a)) E) E) : dMake C dsp dds ta ρ S Q E := h
theorem del_back {S S' : Store} {a : Addr} (h : S a = none) (g : ∀ b, b ≠ a → S' b = S b) : del S' a = S := by
  funext b
  by_cases e : b = a
  · rw [e, del_same, h]
  · rw [del_ne e, g b e]
/-- a comprehension that keeps some of its items -/
theorem lc_filter {tg : Tgt} {tt : DTT} {te : DTE} {QA : List D → Store → Prop} (f : D → Bool) : ∀ (xs acc : List D), (∀ x ∈ xs, ∃ ρ1, bindT tg x ρ = some ρ1 ∧ (∀ QT : Bool → Store → Prop, (f x = true → QT true S) → (f x = false → QT false S) → tt ρ1 S QT (fun _ _ _ _ => False)) ∧ ∀ R : DQ, R x S → te ρ1 S R (fun _ _ _ _ => False)) →
    QA (acc ++ xs.filter f) S → dLcGo tg tt te ρ xs acc S QA
  | [], acc, _, q => by
    rw [List.filter_nil, List.append_nil] at q
    exact q
  | x :: r, acc, h, q => by
    obtain ⟨ρ1, e, k1, k2⟩ := h x List.mem_cons_self
    refine ⟨ρ1, e, k1 _ (fun hx => ?_) fun hx => ?_⟩
    · refine iteT (k2 _ ?_)
      refine lc_filter f r (acc ++ [x]) (fun d hd => h d (List.mem_cons_of_mem _ hd)) ?_
      rw [List.filter_cons, if_pos hx] at q
      rw [List.append_assoc]
      exact q
    · refine iteF ?_
      refine lc_filter f r acc (fun d hd => h d (List.mem_cons_of_mem _ hd)) ?_
      rw [List.filter_cons, if_neg (by rw [hx]; exact Bool.false_ne_true)] at q
      exact q
theorem s_xf {a C : Addr} {cls : Value} {o : Option Addr} {f : Str} (h : t ρ S (fun x S1 => x = .ref a ∧ cls = .ref C ∧ ∃ dd ns ds v, o = some dd ∧ S1 dd = some (.xd ns ds) ∧ (ns.zip ds).lookup f = some v ∧ Q v S1) E) : dXf a cls o C f t ρ S Q E := h
/-- the store grows -/
def Ext (S S' : Store) : Prop := ∀ b m, S b = some m → S' b = some m
theorem Ext.refl {S : Store} : Ext S S := fun _ _ h => h
theorem Ext.trans {S S1 S2 : Store} (h : Ext S S1) (g : Ext S1 S2) : Ext S S2 := fun b m e => g b m (h b m e)
theorem Ext.new {S : Store} {a : Addr} {m : M} (h : S a = none) : Ext S (put S a m) := fun b m' e => by
  rw [put_ne fun q => by rw [q, h] at e; cases e]
  exact e
theorem Deck.ext {S S' : Store} {a L : Addr} {k : Nat} (D : Deck S a L k) (h : Ext S S') : Deck S' a L k := by
  obtain ⟨⟨ns, t, d, h1, h2, h3⟩, n⟩ := D
  exact ⟨⟨ns, t, d, h _ _ h1, h _ _ h2, h3⟩, n⟩
theorem s_fldP {C : Addr} {f : Str} {x d : D} {R : D → Prop} {kds : List (Str × D)} (e1 : objD C S x = some kds) (e2 : kds.lookup f = some d) (h : R d) : ∃ kds d, objD C S x = some kds ∧ kds.lookup f = some d ∧ R d := ⟨kds, d, e1, e2, h⟩
theorem s_fldPutA {C a : Addr} {f : Str} {d : D} {ns ns' : List Str} {ds ds' : List D} {R : Store → Prop} (e : S a = some (.ins C ns ds)) (z : ns.length < 1000) (g1 : (putFD f d (ns.zip ds)).map (·.1) = ns') (g2 : (putFD f d (ns.zip ds)).map (·.2) = ds') (h : R (put S a (.ins C ns' ds'))) :
    ∃ b ns ds, D.ref a = .ref b ∧ S b = some (.ins C ns ds) ∧ ns.length < 1000 ∧ R (put S b (.ins C ((putFD f d (ns.zip ds)).map (·.1)) ((putFD f d (ns.zip ds)).map (·.2)))) := ⟨a, ns, ds, rfl, e, z, by rw [g1, g2]; exact h⟩
end
end DL

set_option maxRecDepth 100000
set_option maxHeartbeats 4000000
/-! DLG: what repr may be asked of, put together. -/
namespace DL
open PySem PySem.Spec L2
/-- repr may be asked of d: at most n signs, at most m deep -/
structure Rep (n m : Nat) (d : D) : Prop where
  ex : ∃ p, showD d = some p ∧ goodP p = true ∧ szP p ≤ n ∧ p.depth ≤ m ∧ (p.hasDict = true → noL d = true)
/-- .. and there is no dict in it -/
structure RepL (n m : Nat) (d : D) : Prop where
  ex : ∃ p, showD d = some p ∧ goodP p = true ∧ szP p ≤ n ∧ p.depth ≤ m ∧ p.hasDict = false
/-- .. and no list -/
structure RepD (n m : Nat) (d : D) : Prop where
  ex : ∃ p, showD d = some p ∧ goodP p = true ∧ szP p ≤ n ∧ p.depth ≤ m
  nol : noL d = true
theorem RepL.rep {n m : Nat} {d : D} (h : RepL n m d) : Rep n m d := let ⟨p, a, b, c, e, f⟩ := h.ex; ⟨p, a, b, c, e, fun z => by rw [f] at z; cases z⟩
theorem RepD.rep {n m : Nat} {d : D} (h : RepD n m d) : Rep n m d := let ⟨p, a, b, c, e⟩ := h.ex; ⟨p, a, b, c, e, fun _ => h.nol⟩
theorem Rep.ok {n m : Nat} {d : D} (h : Rep n m d) (hn : n ≤ 16000000) (hm : m ≤ 60) : ∃ p, ReprOk d p := let ⟨p, a, b, c, e, f⟩ := h.ex; ⟨p, ⟨a, b, Nat.le_trans c hn, Nat.le_trans e hm, f⟩⟩
theorem Rep.mono {n m n' m' : Nat} {d : D} (h : Rep n m d) (hn : n ≤ n') (hm : m ≤ m') : Rep n' m' d := let ⟨p, a, b, c, e, f⟩ := h.ex; ⟨p, a, b, Nat.le_trans c hn, Nat.le_trans e hm, f⟩
theorem RepL.mono {n m n' m' : Nat} {d : D} (h : RepL n m d) (hn : n ≤ n') (hm : m ≤ m') : RepL n' m' d := let ⟨p, a, b, c, e, f⟩ := h.ex; ⟨p, a, b, Nat.le_trans c hn, Nat.le_trans e hm, f⟩
theorem RepD.mono {n m n' m' : Nat} {d : D} (h : RepD n m d) (hn : n ≤ n') (hm : m ≤ m') : RepD n' m' d := let ⟨p, a, b, c, e⟩ := h.ex; ⟨⟨p, a, b, Nat.le_trans c hn, Nat.le_trans e hm⟩, h.nol⟩
theorem repL_str {z : Str} (h : PyData.strOk z = true) : RepL (10 * z.length + 2) 0 (.str z) := ⟨.str z, rfl, by simp [goodP, h], by simp [szP], by simp [PyData.depth], by simp [PyData.hasDict]⟩
/-! texts compared, whatever signs they have -/
def rdStrE (neg : Bool) : DR2 := fun x y S Q => match x, y with
  | .str a, .str b => Q (.bl (if neg then !decide (a = b) else decide (a = b))) S
  | _, _ => False
theorem decV {a b : Str} : decide (V.str a = V.str b) = decide (a = b) := by
  by_cases h : a = b
  · subst h; simp
  · simp [h]
theorem lift_neS {K : PySem.W.Frag} : Lift2 K rNe (rdStrE true) := by
  intro Z H S F x y v w Q P R iv iw q k
  unfold rdStrE at q
  split at q
  · cases iv; cases iw
    refine ⟨rfl, ?_⟩
    rw [decV]
    exact k _ _ ⟨_, S, F, .refl R, .bl _, q⟩
  · exact q.elim
theorem lift_eqSt {K : PySem.W.Frag} : Lift2 K rEq (rdStrE false) := by
  intro Z H S F x y v w Q P R iv iw q k
  unfold rdStrE at q
  split at q
  · cases iv; cases iw
    refine ⟨rfl, ?_⟩
    rw [decV]
    exact k _ _ ⟨_, S, F, .refl R, .bl _, q⟩
  · exact q.elim
theorem room_in1 {k : Nat} {A : Around} (r : Room (k + 1) A) : Room k A.in1 := ⟨r.hd, (by have := r.dp; have e : A.in1.depth = A.depth := rfl; omega), (by have := r.un; have e : A.in1.units = A.units + 1 := rfl; omega)⟩
/-- keywords alone, behind so many arguments -/
def kwD (n m : Nat) (xs zs : List D) : List D := if xs.length = n ∧ zs.length = m then xs ++ zs else []
def kwV (n m : Nat) (xs zs : List V) : List V := if xs.length = n ∧ zs.length = m then xs ++ zs else []
def kwU (n m : Nat) (xs zs : List Value) : List Value := if xs.length = n ∧ zs.length = m then xs ++ zs else []
theorem kwD_ok {K : PySem.W.Frag} {n m : Nat} : ∀ (F : Hp) (xs : List D) (vs : List V) (zs : List D) (ws : List V), IsVs K F xs vs → IsVs K F zs ws → IsVs K F (kwD n m xs zs) (kwV n m vs ws) := fun F xs vs zs ws h g => by
  unfold kwD kwV
  rw [h.length, g.length]
  split
  · exact h.append g
  · exact .nil
theorem kw_binds {K : PySem.W.Frag} {x qual : Str} {st : Stmt} {f : Addr} {fd : FuncData} {ps ks : List Str} {n m : Nat} (F : Fun K x qual st f fd) (hp : 0 < ps.length)
    (h : ∀ (kV doc pm : Value) (an : Option Addr) (cdv ct : Value) (us ws : List Value), us.length = n → ws.length = m → bindArgs (PySem.W.fnOf x qual (defArgs st) (defBody st) (defScope st) .none kV doc pm an cdv ct) ⟨us, ks.zip ws⟩ = pure (ps.zip (us ++ ws))) : KBinds K fd ps ks (kwU n m) (kwV n m) := by
  obtain ⟨oc, od, kV, doc, pm, an, cdv, ct, osl, rfl, lk, hcd⟩ := F.ex
  refine ⟨fun s us ws _ hl => ?_, fun {vs us zs ws} r1 r2 => ?_⟩
  · unfold kwU at hl ⊢
    split at hl
    · rename_i hc
      rw [if_pos hc]
      exact .of_eq (h kV doc pm an cdv ct us ws hc.1 hc.2)
    · rw [List.length_nil] at hl
      omega
  · unfold kwV kwU
    rw [r1.length, r2.length]
    split
    · exact r1.append r2
    · exact .nil
section
variable {N : DEnds} {ρ : Sl} {S : Store} {Q : DQ} {E : DX} {ta : DTA}
end
end DL

set_option maxRecDepth 100000
set_option maxHeartbeats 1000000
/-! DLH: comprehensions with two for. -/
namespace DL
open PySem PySem.Spec PyProof.Rows L2
/-- hidden: one address more -/
theorem Rel.unhide {K : PySem.W.Frag} {Z : Addr → Prop} {Dd : Addr} {H' : Hp} {S' : Store} {F' : Hp} (r : Rel K (fun b => Z b ∨ b = Dd) H' S' F') : Rel K Z H' S' F' ∧ S' Dd = none ∧ F' Dd = none :=
  ⟨⟨fun b u e => ⟨(r.sub b u e).1, (r.sub b u e).2.1, fun z => (r.sub b u e).2.2 (.inl z)⟩, fun b m e => ⟨fun z => (r.sto b m e).1 (.inl z), (r.sto b m e).2⟩, fun b z => r.hid b (.inl z), r.tab.less⟩,
   no_some fun m e => (r.sto Dd m e).1 (.inr rfl), no_some fun o e => (r.sub Dd o e).2.2 (.inr rfl)⟩
theorem Rel.wrHid {K : PySem.W.Frag} {Z : Addr → Prop} {Dd : Addr} {H' : Hp} {S' : Store} {F' : Hp} (ws : List V) (r : Rel K (fun b => Z b ∨ b = Dd) H' S' F') : Rel K (fun b => Z b ∨ b = Dd) (upd H' Dd (.lst ws)) S' F' := by
  obtain ⟨r1, hs, hf⟩ := r.unhide
  have ne : ∀ {b u}, F' b = some u → b ≠ Dd := fun e z => by rw [z, hf] at e; cases e
  have nes : ∀ {b u}, S' b = some u → b ≠ Dd := fun e z => by rw [z, hs] at e; cases e
  exact ⟨fun b u e => ⟨by rw [upd_ne (ne e)]; exact (r.sub b u e).1, (r.sub b u e).2⟩,
    fun b m e => ⟨(r.sto b m e).1, let ⟨o, h1, h2⟩ := (r.sto b m e).2; ⟨o, by rw [upd_ne (nes e)]; exact h1, h2⟩⟩,
    fun b z => by
      by_cases hb : b = Dd
      · subst hb
        exact ⟨_, upd_same⟩
      · rw [upd_ne hb]
        exact r.hid b z, r.tab.wr (.inr rfl)⟩
theorem Rel.newHid {K : PySem.W.Frag} {Z : Addr → Prop} {Dd : Addr} {H1 : Hp} {S1 : Store} {F1 : Hp} (A : Rel K Z H1 S1 F1) (hD : H1 Dd = none) : Rel K (fun b => Z b ∨ b = Dd) (upd H1 Dd (.lst [])) S1 F1 := by
  have ne : ∀ {b u}, H1 b = some u → b ≠ Dd := fun e z => by rw [z, hD] at e; cases e
  refine ⟨fun b u e => ?_, fun b m e => ?_, fun b z => ?_, A.tab.atNew hD⟩
  · have h := A.sub b u e
    exact ⟨by rw [upd_ne (ne h.1)]; exact h.1, h.2.1, fun z => z.elim h.2.2 (ne h.1)⟩
  · obtain ⟨h1, o, h2, h3⟩ := A.sto b m e
    exact ⟨fun z => z.elim h1 (ne h2), o, by rw [upd_ne (ne h2)]; exact h2, h3⟩
  · rcases z with z | z
    · obtain ⟨o, e⟩ := A.hid b z
      exact ⟨o, by rw [upd_ne (ne e)]; exact e⟩
    · subst z
      exact ⟨_, upd_same⟩
/-- the outer items' turns -/
def dLc2Go (tg : Tgt) (tt : DTT) (ti1 : DTI) (tg1 : Tgt) (tt1 : DTT) (te : DTE) (vs1 : List Nat) (ρ : Sl) : List D → List D → Store → (List D → Store → Prop) → Prop
  | [], acc, S, Q => Q acc S
  | d :: r, acc, S, Q => ∃ ρ1, bindT tg d ρ = some ρ1 ∧ tt ρ1 S (fun b S1 => if b = true then ti1 ρ1 S1 (fun its S2 => acc.length + its.length ≤ sizeLine ∧ dLcGo tg1 tt1 te (wipeD ρ1 vs1) its acc S2 fun acc' S3 => dLc2Go tg tt ti1 tg1 tt1 te vs1 ρ r acc' S3 Q) (fun _ _ _ _ => False)
      else dLc2Go tg tt ti1 tg1 tt1 te vs1 ρ r acc S1 Q) fun _ _ _ _ => False
def dLc2I (ti : DTI) (tg : Tgt) (tt : DTT) (ti1 : DTI) (tg1 : Tgt) (tt1 : DTT) (te : DTE) (vs vs1 : List Nat) : DTA := fun ρ S Q E => ti ρ S (fun items S1 => dLc2Go tg tt ti1 tg1 tt1 te vs1 (wipeD ρ vs) items [] S1 Q) E
def dLc2 (ti : DTI) (tg : Tgt) (tt : DTT) (ti1 : DTI) (tg1 : Tgt) (tt1 : DTT) (te : DTE) (vs vs1 : List Nat) : DTE := fun ρ S Q E => dLc2I ti tg tt ti1 tg1 tt1 te vs vs1 ρ S (fun ds S1 => Q (.lst ds) S1) E
section
variable {K : PySem.W.Frag} {W : WX} {ti ti1 : DTI} {g g1 : Tgt} {tt tt1 : DTT} {te : DTE} {vs vs1 : List Nat}
theorem lc2_lift (hv : ∀ i ∈ g.slots, i ∈ vs) (hv1 : ∀ i ∈ g1.slots, i ∈ vs1) {σ : L2.St} {H : Hp} {P : VK} {ρ : Sl} {S : Store} {F : Hp} {Z : Addr → Prop} {Qd : List D → Store → Prop} {Ex : DX} (R : Rel K Z H S F) (E : EnvR K F ρ σ) (q : dLc2I ti g tt ti1 g1 tt1 te vs vs1 ρ S Qd Ex)
    (k : ∀ (H1 F1 : Hp) (S1 : Store) (Dd : Addr) (ds : List D) (ws : List V), Aft K Z H F H1 S1 F1 → H1 Dd = some (.lst ws) → IsVs K F1 ds ws → S1 Dd = none → F1 Dd = none → ¬ Z Dd → Qd ds S1 → P (.ref Dd) H1) (xl : ∀ cls d H', LftX K Z H F Ex cls d H' → W cls d σ H') :
    tLc2 (upI K W ti) (tgV K g) (upT K W0 tt) (upI K W0 ti1) (tgV K g1) (upT K W0 tt1) (upE K W0 te) vs vs1 σ H P := by
  refine ⟨ρ, S, F, Z, _, _, R, E, q, fun J H1 items S1 F1 A1 ok q1 Dd hD => ?_, xl⟩
  have E1 : EnvR K F1 (wipeD ρ vs) (L2.wipe σ vs) := (E.up A1.sm).wipe vs
  have zD : ¬ Z Dd := fun z => by
    obtain ⟨o, e⟩ := A1.rel.hid Dd z
    rw [hD] at e; cases e
  have Rb := A1.rel.newHid hD
  let Z' : Addr → Prop := fun b => Z b ∨ b = Dd
  refine ⟨fun i m H' => m = items.length - i ∧ i ≤ items.length ∧ ∃ (S' : Store) (F' : Hp) (acc : List D) (ws : List V), Same F1 F' ∧ Rel K Z' H' S' F' ∧ Keep Z H1 H' ∧ H' Dd = some (.lst ws) ∧ IsVs K F' acc ws ∧ dLc2Go g tt ti1 g1 tt1 te vs1 (wipeD ρ vs) (items.drop i) acc S' Qd,
    ⟨items.length, rfl, Nat.zero_le _, S1, F1, [], [], Same.refl _, Rb, fun b o z e => ?_, upd_same, .nil, q1⟩, ?_⟩
  · have hb : b ≠ Dd := fun q => zD (q ▸ z)
    rw [upd_ne hb]; exact e
  rintro i m H2 ⟨rfl, hi, S2, F2, acc, ws, s2, R2, k2, hd2, iv2, q2⟩
  by_cases hlt : i < items.length
  · refine .inr ⟨ok.go H2 S2 F2 Z' s2 R2 i hlt, fun H' => i + 1 ≤ items.length ∧ ∃ (S' : Store) (F' : Hp) (acc : List D) (ws : List V), Same F1 F' ∧ Rel K Z' H' S' F' ∧ Keep Z H1 H' ∧ H' Dd = some (.lst ws) ∧ IsVs K F' acc ws ∧ dLc2Go g tt ti1 g1 tt1 te vs1 (wipeD ρ vs) (items.drop (i + 1)) acc S' Qd,
      fun H' p' => ⟨items.length - (i + 1), by omega, rfl, p'⟩, fun x H3 hy => ?_⟩
    obtain ⟨F3, d, A3, hd3, iv3⟩ := ok.yld H2 S2 F2 Z' s2 R2 i x H3 hlt hy
    rw [drop_at hd3] at q2
    obtain ⟨ρ3, hb3, q3⟩ := q2
    have s3 := s2.trans A3.sm
    have hD3 : H3 Dd = some (.lst ws) := A3.kp Dd _ (.inr rfl) hd2
    refine tgV_ok A3.rel ((E1.up s2).up A3.sm) iv3 hb3 fun σ3 E3 ⟨is, us, hσ, hg⟩ => ⟨?_, ?_⟩
    · have hin : ∀ j ∈ is, j ∈ vs := by
        rcases hg with rfl | ⟨j, w, rfl, rfl, _⟩
        · exact hv
        · exact hv
      rw [hσ, wipe_setAll is us _ hin, wipe_wipe vs vs fun _ h => h]
    · refine ⟨ρ3, S2, F3, Z', _, _, A3.rel, E3, q3, fun b H4 ⟨S4, F4, A4, q4⟩ => ?_, fun _ _ _ ⟨_, _, _, _, _, _, _, _, z⟩ => z.elim⟩
      have s4 := s3.trans A4.sm
      have hD4 : H4 Dd = some (.lst ws) := A4.kp Dd _ (.inr rfl) hD3
      have kz : Keep Z H1 H4 := fun b o z e => A4.kp b o (.inl z) (A3.kp b o (.inl z) (k2 b o z e))
      have iv4 := (iv2.up A3.sm).up A4.sm
      have E4 := E3.up A4.sm
      cases b with
      | false => exact iteF ⟨hlt, S4, F4, acc, ws, s4, A4.rel, kz, hD4, iv4, iteF' q4⟩
      | true =>
        refine iteT ⟨ρ3, S4, F4, Z', _, _, A4.rel, E4, iteT' q4, fun J1 H5 its S5 F5 A5 ok1 ⟨hz, q5⟩ => ?_, fun _ _ _ ⟨_, _, _, _, _, _, _, _, z⟩ => z.elim⟩
        have s5 := s4.trans A5.sm
        have hD5 : H5 Dd = some (.lst ws) := A5.kp Dd _ (.inr rfl) hD4
        have kz5 : Keep Z H1 H5 := fun b o z e => A5.kp b o (.inl z) (kz b o z e)
        have iv5 := iv4.up A5.sm
        have E5 : EnvR K F5 (wipeD ρ3 vs1) (L2.wipe σ3 vs1) := (E4.up A5.sm).wipe vs1
        refine ⟨fun j m H' => m = its.length - j ∧ j ≤ its.length ∧ ∃ (S' : Store) (F' : Hp) (acc2 : List D) (ws2 : List V), Same F5 F' ∧ Rel K Z' H' S' F' ∧ Keep Z H1 H' ∧ H' Dd = some (.lst ws2) ∧ IsVs K F' acc2 ws2 ∧ ws2.length ≤ acc.length + j ∧ dLcGo g1 tt1 te (wipeD ρ3 vs1) (its.drop j) acc2 S' fun acc' S3 => dLc2Go g tt ti1 g1 tt1 te vs1 (wipeD ρ vs) (items.drop (i + 1)) acc' S3 Qd,
          ⟨its.length, rfl, Nat.zero_le _, S5, F5, acc, ws, Same.refl _, A5.rel, kz5, hD5, iv5, by rw [iv5.length]; exact Nat.le_refl _, q5⟩, ?_⟩
        rintro j m H6 ⟨rfl, hj, S6, F6, acc6, ws6, s6, R6, k6, hd6, iv6, hl6, q6⟩
        by_cases hlt1 : j < its.length
        · refine .inr ⟨ok1.go H6 S6 F6 Z' s6 R6 j hlt1, fun H' => j + 1 ≤ its.length ∧ ∃ (S' : Store) (F' : Hp) (acc2 : List D) (ws2 : List V), Same F5 F' ∧ Rel K Z' H' S' F' ∧ Keep Z H1 H' ∧ H' Dd = some (.lst ws2) ∧ IsVs K F' acc2 ws2 ∧ ws2.length ≤ acc.length + (j + 1) ∧ dLcGo g1 tt1 te (wipeD ρ3 vs1) (its.drop (j + 1)) acc2 S' fun acc' S3 => dLc2Go g tt ti1 g1 tt1 te vs1 (wipeD ρ vs) (items.drop (i + 1)) acc' S3 Qd,
            fun H' p' => ⟨its.length - (j + 1), by omega, rfl, p'⟩, fun x1 H7 hy1 => ?_⟩
          obtain ⟨F7, d7, A7, hd7, iv7⟩ := ok1.yld H6 S6 F6 Z' s6 R6 j x1 H7 hlt1 hy1
          rw [drop_at hd7] at q6
          obtain ⟨ρ7, hb7, q7⟩ := q6
          have s7 := s6.trans A7.sm
          have hD7 : H7 Dd = some (.lst ws6) := A7.kp Dd _ (.inr rfl) hd6
          refine tgV_ok A7.rel ((E5.up s6).up A7.sm) iv7 hb7 fun σ7 E7 ⟨is, us, hσ, hg⟩ => ⟨?_, ?_⟩
          · have hin : ∀ j ∈ is, j ∈ vs1 := by
              rcases hg with rfl | ⟨j, w, rfl, rfl, _⟩
              · exact hv1
              · exact hv1
            rw [hσ, wipe_setAll is us _ hin, wipe_wipe vs1 vs1 fun _ h => h]
          · refine ⟨ρ7, S6, F7, Z', _, _, A7.rel, E7, q7, fun b H8 ⟨S8, F8, A8, q8⟩ => ?_, fun _ _ _ ⟨_, _, _, _, _, _, _, _, z⟩ => z.elim⟩
            have s8 := s7.trans A8.sm
            have hD8 : H8 Dd = some (.lst ws6) := A8.kp Dd _ (.inr rfl) hD7
            have k8 : Keep Z H1 H8 := fun b o z e => A8.kp b o (.inl z) (A7.kp b o (.inl z) (k6 b o z e))
            cases b with
            | false => exact iteF ⟨hlt1, S8, F8, acc6, ws6, s8, A8.rel, k8, hD8, (iv6.up A7.sm).up A8.sm, by omega, iteF' q8⟩
            | true =>
              refine iteT ⟨ρ7, S8, F8, Z', _, _, A8.rel, E7.up A8.sm, iteT' q8, fun y H9 ⟨dy, S9, F9, A9, iv9, q9⟩ => ?_, fun _ _ _ ⟨_, _, _, _, _, _, _, _, z⟩ => z.elim⟩
              have hD9 : H9 Dd = some (.lst ws6) := A9.kp Dd _ (.inr rfl) hD8
              refine ⟨ws6, hD9, by omega, hlt1, S9, F9, acc6 ++ [dy], ws6 ++ [y], s8.trans A9.sm, A9.rel.wrHid _, fun b o z e => ?_, upd_same, (((iv6.up A7.sm).up A8.sm).up A9.sm).append (.cons iv9 .nil), ?_, q9⟩
              · have hb : b ≠ Dd := fun q => zD (q ▸ z)
                rw [upd_ne hb]
                exact A9.kp b o (.inl z) (k8 b o z e)
              · rw [List.length_append, List.length_singleton]; omega
        · have e : j = its.length := by omega
          subst e
          rw [List.drop_length] at q6
          exact .inl ⟨ok1.stop H6 S6 F6 Z' s6 R6, hlt, S6, F6, acc6, ws6, s5.trans s6, R6, k6, hd6, iv6, q6⟩
  · have e : i = items.length := by omega
    subst e
    rw [List.drop_length] at q2
    obtain ⟨r2, hs2, hf2⟩ := R2.unhide
    refine .inl ⟨ok.stop H2 S2 F2 Z' s2 R2, k H2 F2 S2 Dd acc ws (A1.trans ⟨s2, r2, k2⟩) hd2 iv2 hs2 hf2 zD q2⟩
end
section
variable {X : Cx} {W : WX} {elt tg iter tg1 iter1 : Expr} {ifs ifs1 : List Expr} {scope : Scope} {own : List (Str × Nat)} {pos spos : Pos} {ti ti1 : DTI} {g g1 : Tgt} {tt tt1 : DTT} {te : DTE}
theorem lift_lc2 (hv : ∀ i ∈ g.slots, i ∈ own.map (·.2)) : ∀ σ H P, upE X.K W (dLc2 ti g tt ti1 g1 tt1 te (own.map (·.2)) g1.slots) σ H P → tLc2 (upI X.K W ti) (tgV X.K g) (upT X.K W0 tt) (upI X.K W0 ti1) (tgV X.K g1) (upT X.K W0 tt1) (upE X.K W0 te) (own.map (·.2)) g1.slots σ H P := fun σ H P ⟨ρ, S, F, Z, Q, E, R, V, q, k, x⟩ =>
  lc2_lift hv (fun _ h => h) R V q (fun H1 F1 S1 Dd ds ws A1 hd iv hs hf zd q1 => by
    obtain ⟨R2, s2⟩ := A1.rel.own hd hs hf zd
    exact k _ _ ⟨.lst ds, S1, _, A1.trans ⟨s2, R2, Keep.refl⟩, .lst upd_same (iv.up s2), q1⟩) x
end
end DL

set_option maxRecDepth 100000
set_option maxHeartbeats 1000000
/-! DLI: for a, b in zip(list, tuple). -/
namespace DL
open PySem PySem.Spec PyProof.Rows L2
/-- the turns of zip(list, tuple) -/
def ItLT (K : PySem.W.Frag) (l t : Addr) : It where
  go := fun i H => ∃ xs ys x y, SqL K H l xs ∧ SqT K H t ys ∧ xs[i]? = some x ∧ ys[i]? = some y
  yld := fun i H v H' => ∃ T x y, v = V.ref T ∧ H T = none ∧ H' = upd H T (.tup [x, y]) ∧ (∀ xs, SqL K H l xs → xs[i]? = some x) ∧ ∀ ys, SqT K H t ys → ys[i]? = some y
  stop := fun i H => ∃ xs ys, SqL K H l xs ∧ SqT K H t ys ∧ (xs.length ≤ i ∨ ys.length ≤ i)
def zst (z TI TO i1 i2 l t : Addr) (i : Nat) (h : Heap) : Prop := IsZip h z TI TO .none ∧ IsPair h TI (.ref i1) (.ref i2) ∧ (∃ x y, IsPair h TO x y) ∧ h.IsListIter i1 l i ∧ h.IsTupleIter i2 t i
theorem at_some {xs : List V} {its : List Value} (r : Vals xs its) {i : Nat} {x : V} (e : xs[i]? = some x) : ∃ u, its.toArray[i]? = some u ∧ RelV x u := by
  obtain ⟨u, a, b⟩ := r.get e
  exact ⟨u, by rw [← Array.getElem?_toList]; exact a, b⟩
theorem turn_zipLT {P : Program} {w : World} {K : PySem.W.Frag} {elts : List Expr} {kk : Nat} {tpos : Pos} {l t z TI TO i1 i2 : Addr} (D : ZipApart z TI TO i1 i2 l t) :
    Turn P w K (.Tuple elts kk tpos) (ItLT K l t) [z, TI, TO, i1, i2] z (zst z TI TO i1 i2 l t) where
  mem := List.mem_cons_self
  obj := fun i h ⟨a, b, ⟨x, y, c⟩, ⟨o1, d1, _, d2⟩, ⟨o2, e1, _, e2⟩⟩ q hq => by
    simp only [List.mem_cons, List.not_mem_nil, or_false] at hq
    rcases hq with rfl | rfl | rfl | rfl | rfl
    · exact ⟨_, a, fun v => by intro e; cases e⟩
    · exact ⟨_, b, fun v => by intro e; cases e⟩
    · exact ⟨_, c, fun v => by intro e; cases e⟩
    · exact ⟨_, d1, fun v => by rw [d2]; intro e; cases e⟩
    · exact ⟨_, e1, fun v => by rw [e2]; intro e; cases e⟩
  keep := fun i h h' ⟨a, b, ⟨x, y, c⟩, ⟨o1, d1, d2⟩, ⟨o2, e1, e2⟩⟩ k =>
    ⟨k z (by simp) _ a, k TI (by simp) _ b, ⟨x, y, k TO (by simp) _ c⟩, ⟨o1, k i1 (by simp) _ d1, d2⟩, ⟨o2, k i2 (by simp) _ e1, e2⟩⟩
  item := fun X e1 e2 e3 hc i pins s σ H E I fp ⟨hz, hTI, ⟨x0, y0, hTO⟩, h1, h2⟩ ⟨xs, ys, x, y, sx, sy, ax, ay⟩ => by
    subst e1; subst e2; subst e3
    obtain ⟨its, rv, p1, z1⟩ := I.list sx
    obtain ⟨its2, rv2, p2, z2⟩ := I.tuple sy
    obtain ⟨u, hu, ru⟩ := at_some rv ax
    obtain ⟨u2, hu2, ru2⟩ := at_some rv2 ay
    have p2 : s.heap.IsTuple t its2.toArray := p2
    have hTy : s.TypeIs (.ref z) "zip" := ⟨_, hz, rfl⟩
    unfold pyNext
    refine wpAny_bind (wpAny_attempt (wpAny_callSpecial?_slot (name := Str.ofString "__next__") hTy F.slot_zip_next
      (wpAny_call_entry F.slot_zip_next hTy F.entry_zip_next
        (DLZ.zip_turn_new D (.list i1 l its.toArray) (.tuple i2 t its2.toArray) hz hTI hTO ⟨h1, p1.isList⟩ ⟨h2, p2⟩ hu hu2 fun h' a1 a2 a3 a4 a5 a6 a7 => wpAny_pure ?_) (F.args_zip_next_1 _))))
    refine ⟨_, rfl, wpAny_letOwnedTupleGo_zip a1 fun g b1 b2 => ?_⟩
    have zlt : z < s.heap.objs.size := Heap.lt_size hz
    have zne : z ≠ s.heap.objs.size := Nat.ne_of_lt zlt
    have kg : ∀ c o, c ≠ z → h'.get? c = some o → g.get? c = some o := fun c o hc e => (b2.2 c hc).trans e
    have hT : IsPair g s.heap.objs.size u u2 := kg _ _ (Ne.symm zne) a5
    have kp : ∀ c o, c ∉ [z, TO, i1, i2] → s.heap.get? c = some o → g.get? c = some o := fun c o hm e => by
      simp only [List.mem_cons, List.not_mem_nil, or_false, not_or] at hm
      exact kg c o hm.1 (a7 c o hm.1 hm.2.1 hm.2.2.1 hm.2.2.2 e)
    have ob : ObjOk X.prog X.w (upd H s.heap.objs.size (.tup [x, y])) g s.heap.objs.size (.tup [x, y]) := ⟨by show 2 ≤ sizeLine; decide, [u, u2], .cons ru (.cons ru2 .nil), _, hT, rfl, _, rfl⟩
    have J := I.turnedNew (h' := g) (t' := s.toks) (ch := [z, TO, i1, i2]) kp (fun b hb => fp b (by
      simp only [List.mem_cons, List.not_mem_nil, or_false] at hb ⊢
      rcases hb with h | h | h | h
      · exact .inl h
      · exact .inr (.inr (.inl h))
      · exact .inr (.inr (.inr (.inl h)))
      · exact .inr (.inr (.inr (.inr h))))) (Nat.le_refl _) ob
    have nn : H s.heap.objs.size = none := I.fresh
    refine ⟨.ref s.heap.objs.size, _, J, rfl, ⟨_, x, y, rfl, nn, rfl, fun xs' sx' => ?_, fun ys' sy' => ?_⟩, ⟨b1, kg _ _ D.TIz (a7 _ _ D.TIz D.TITO D.TIi1 D.TIi2 hTI), ⟨u, u2, kg _ _ D.TOz a2⟩, ?_, ?_⟩, fun b hb => ?_⟩
    · rw [I.list_inj sx' sx]; exact ax
    · rw [I.tuple_inj sy' sy]; exact ay
    · obtain ⟨⟨o, c1, c2⟩, _⟩ := a3
      exact ⟨o, kg _ _ D.i1z c1, c2⟩
    · obtain ⟨⟨o, c1, c2⟩, _⟩ := a4
      exact ⟨o, kg _ _ D.i2z c1, c2⟩
    · have hl : b < s.heap.objs.size := by
        simp only [List.mem_cons, List.not_mem_nil, or_false] at hb
        rcases hb with rfl | rfl | rfl | rfl | rfl
        · exact zlt
        · exact Heap.lt_size hTI
        · exact Heap.lt_size hTO
        · obtain ⟨o, c1, _⟩ := h1
          exact Heap.lt_size c1
        · obtain ⟨o, c1, _⟩ := h2
          exact Heap.lt_size c1
      rw [upd_ne (Nat.ne_of_lt hl)]
      exact (fp b hb).1
  done := fun X e1 e2 e3 hc i pins s σ H E I fp ⟨hz, hTI, ⟨x0, y0, hTO⟩, h1, h2⟩ ⟨xs, ys, sx, sy, hl⟩ => by
    subst e1; subst e2; subst e3
    obtain ⟨its, rv, p1, z1⟩ := I.list sx
    obtain ⟨its2, rv2, p2, z2⟩ := I.tuple sy
    have p2 : s.heap.IsTuple t its2.toArray := p2
    refine DLZ.zip_done (I.ok.hd hc) D (.list i1 l its.toArray) (.tuple i2 t its2.toArray) (got := none) ⟨hTI, hz, _, _, hTO⟩ ⟨h1, p1.isList⟩ ⟨h2, p2⟩ ?_ fun h' kp => ⟨rfl, ?_⟩
    · rcases hl with h | h
      · exact .inl (Array.getElem?_eq_none (by rw [List.size_toArray, ← rv.length]; exact h))
      · exact .inr (Array.getElem?_eq_none (by rw [List.size_toArray, ← rv2.length]; exact h))
    · refine I.turnedL (t' := s.toks) (ch := [z, TO, i1, i2]) (fun b o hm e => ?_) (fun b hb => fp b (by
        simp only [List.mem_cons, List.not_mem_nil, or_false] at hb ⊢
        rcases hb with h | h | h | h
        · exact .inl h
        · exact .inr (.inr (.inl h))
        · exact .inr (.inr (.inr (.inl h)))
        · exact .inr (.inr (.inr (.inr h)))))
      simp only [List.mem_cons, List.not_mem_nil, or_false, not_or] at hm
      exact kp b o hm.1 hm.2.1 hm.2.2.1 hm.2.2.2 e
  self := fun A i s Q E ⟨hz, _⟩ q => wpAny_pyIter_zip hz q
section
variable {X : Cx} {e1 e2 : Expr} {ta : TA} {p pos tpos : Pos} {elts : List Expr} {kk : Nat}
def iZipLT (K : PySem.W.Frag) (ta : TA) : TI := fun σ H R => ta σ H fun vs H1 => ∃ a b xs ys, Zs K H1 vs a b xs ys ∧ R (ItLT K a b) H1
theorem pi_zipLT (hg : Gl X "zip") (hm : X.mg "zip" = none) (ha : PA X [e1, e2] ta) (hs : starEach [e1, e2] X.env = (false, eval e1 X.env) :: starEach [e2] X.env := by rfl) (hpl : (backTo pos (starEach [e2] X.env)).any (·.1) = false := by rfl) :
    PI X (.Tuple elts kk tpos) (.Call (.Name "zip" p) [e1, e2] [] pos) (iZipLT X.K ta) := by
  refine ⟨fun pins s σ H R I h => ?_⟩
  refine PyProof.Rows.Call_ (ld_blt I hg hm PyProof.Rows.boot_zip (PyProof.Rows.callWith_type1 (thn (ha.run pos pins s σ H _ I h) fun us s1 ⟨vs, H1, I1, r1, a, b, xs, ys, hz, q1⟩ => ?_) hs hpl))
  refine run_zip I1 r1 hz fun h' its its2 n hn rv rv2 sz st st1 st2 la lb szh kp => ?_
  obtain ⟨hTI, hzz, x0, y0, hTO⟩ := st
  have J : Inv X pins σ H1 { (⟨s1.heap, s1.gens, s1.drawn, s1.toks, s1.os⟩ : Shared) with heap := h' } := I1.kept (t' := s1.toks) kp
  refine wpAny_pyIter_zip hzz ⟨n + 4, [n + 4, n + 2, n + 3, n, n + 1], zst (n + 4) (n + 2) (n + 3) n (n + 1) a b, _, H1, rfl, J, turn_zipLT (DLZ.apart la lb), ⟨hzz, hTI, ⟨x0, y0, hTO⟩, st1.1, st2.1⟩, fun c hc => ?_, q1⟩
  have big : s1.heap.objs.size ≤ c := by
    rw [← hn]
    simp only [List.mem_cons, List.not_mem_nil, or_false] at hc
    rcases hc with rfl | rfl | rfl | rfl | rfl
    · exact Nat.le_add_right _ _
    · exact Nat.le_add_right _ _
    · exact Nat.le_add_right _ _
    · exact Nat.le_refl _
    · exact Nat.le_add_right _ _
  exact I1.fpOk big (I1.hok.fresh big)
end
section
variable {X : Cx} {W : WX} {e1 e2 : Expr} {t : DTA} {p pos tpos : Pos} {elts : List Expr} {kk : Nat}
def dItZ (t : DTA) : DTI := fun ρ S Q E => t ρ S (fun ds S1 => ∃ xs ys, ds = [.lst xs, .tup ys] ∧ xs.length = ys.length ∧ Q ((xs.zip ys).map fun p => D.tup [p.1, p.2]) S1) E
theorem itOk_zip {K : PySem.W.Frag} {F : Hp} {a b : Addr} {vs ws : List V} {xs ys : List D} (h1 : SqL K F a vs) (h2 : IsVs K F xs vs) (g1 : F b = some (.tup ws)) (g2 : IsVs K F ys ws) (hn : xs.length = ys.length) : ItOk K (ItLT K a b) ((xs.zip ys).map fun p => D.tup [p.1, p.2]) F where
  go := fun H S F' Z s R i hi => by
    rw [List.length_map, List.length_zip, hn, Nat.min_self] at hi
    exact ⟨vs, ws, _, _, R.sql (L2.Same.seq s h1), R.sqt (SqT.of (s _ _ g1)), List.getElem?_eq_getElem (by rw [← h2.length, hn]; exact hi), List.getElem?_eq_getElem (by rw [← g2.length]; exact hi)⟩
  stop := fun H S F' Z s R => by
    rw [List.length_map, List.length_zip, hn, Nat.min_self]
    exact ⟨vs, ws, R.sql (L2.Same.seq s h1), R.sqt (SqT.of (s _ _ g1)), .inr (by rw [g2.length]; exact Nat.le_refl _)⟩
  yld := fun H S F' Z s R i x H' hi hy => by
    obtain ⟨T, v, w, rfl, hT, rfl, hv, hw⟩ := hy
    have e1 := hv vs (R.sql (L2.Same.seq s h1))
    have e2 := hw ws (R.sqt (SqT.of (s _ _ g1)))
    obtain ⟨d1, hd1, iv1⟩ := h2.getV e1
    obtain ⟨d2, hd2, iv2⟩ := g2.getV e2
    obtain ⟨R2, s2, k2⟩ := R.laid (o := .tup [v, w]) hT
    refine ⟨_, .tup [d1, d2], ⟨s2, R2, k2⟩, ?_, .tup upd_same (.cons ((iv1.up s).up s2) (.cons ((iv2.up s).up s2) .nil))⟩
    rw [List.getElem?_map, List.getElem?_zip_eq_some (z := (d1, d2)) |>.mpr ⟨hd1, hd2⟩]
    rfl
theorem di_zip (hm : X.mg "zip" = none) (ha : DA X W [e1, e2] t) (hg : Gl X "zip" := by rfl) (hs : starEach [e1, e2] X.env = (false, eval e1 X.env) :: starEach [e2] X.env := by rfl) (hpl : (backTo pos (starEach [e2] X.env)).any (·.1) = false := by rfl) :
    DI X W (.Tuple elts kk tpos) (.Call (.Name "zip" p) [e1, e2] [] pos) (dItZ t) :=
  ⟨pi_imp (pi_zipLT hg hm ha.pa hs hpl) fun σ H P ⟨ρ, S, F, Z, Q, E, R, V, q, k, x⟩ => ⟨ρ, S, F, Z, _, E, R, V, q, fun vs H1 ⟨ds, S1, F1, A1, i1, xs, ys, hd, hn, q1⟩ => by
    subst hd
    obtain ⟨v, w, rfl, j1, j2⟩ := isVs_two i1
    obtain ⟨b, ws, rfl, g1, g2⟩ := tup_inv j2
    cases j1 with
    | lst h1 h2 =>
      exact ⟨_, b, _, ws, ⟨rfl, SqL.of (A1.rel.sub _ _ h1).1, SqT.of (A1.rel.sub _ _ g1).1, by rw [← h2.length, ← g2.length]; exact hn⟩, k _ _ _ S1 F1 A1 (itOk_zip (SqL.of h1) h2 g1 g2 hn) q1⟩, x⟩⟩
end
end DL

set_option maxRecDepth 100000
set_option maxHeartbeats 1000000
/-! DLJ: tuples whose object is known (kup): made by +, counted; join. -/
namespace DL
open PySem PySem.Spec PyProof.Rows L2
/-- t + u of tuples: what is made anew is known -/
def rCatK (K : PySem.W.Frag) : R2 := fun x y H Q => ∃ (l b : Addr) (xs zs : List V), x = .ref l ∧ y = .ref b ∧ SqT K H l xs ∧ SqT K H b zs ∧ xs.length + zs.length ≤ sizeLine ∧ (xs = [] → Q (.ref b) H) ∧ (xs ≠ [] → zs = [] → Q (.ref l) H) ∧
  (xs ≠ [] → zs ≠ [] → ∀ (p : Addr) (o : Obj), o.dict = none → H p = none → Q (.ref p) (upd H p (.frz o (.tup (xs ++ zs)))))
theorem vals_app : ∀ {xs ys : List V} {us ws : List Value}, Vals xs us → Vals ys ws → Vals (xs ++ ys) (us ++ ws)
  | _, _, _, _, .nil, h => h
  | _, _, _, _, .cons a b, h => .cons a (vals_app b h)
theorem valsNil {xs : List V} {us : List Value} (h : Vals xs us) : us.toArray.isEmpty = true ↔ xs = [] := by
  cases h with
  | nil => simp
  | cons _ _ => simp
theorem op_catK {X : Cx} : OpR X (binaryOp .Add) (rCatK X.K) := by
  intro pins s σ H x y v u Q I rx ry ⟨l, b, xs, zs, hx, hy, sx, sy, hl, q1, q2, q3⟩
  subst hx
  subst hy
  cases rx
  cases ry
  obtain ⟨us, rv, ⟨o1, g1, c1, n1, d1⟩, _⟩ := I.tuple sx
  obtain ⟨ws, rw_, ⟨o2, g2, c2, n2, d2⟩, _⟩ := I.tuple sy
  obtain ⟨_, dd1, _, sl1⟩ := o1
  obtain ⟨_, dd2, _, sl2⟩ := o2
  cases c1
  cases d1
  cases c2
  cases d2
  refine binaryOp_concat (T := "tuple") ⟨_, g1, rfl⟩ ⟨_, g2, rfl⟩ noFill_tuple_add seq_tuple_add ?_
  by_cases ex : xs = []
  · exact call_meets F.slot_tuple_add ⟨_, g1, rfl⟩ F.entry_tuple_add (F.args_tuple_add_2 _ _) (tuple_addW0 l b us.toArray ws.toArray n1 n2 dd1 dd2 sl1 sl2 ((valsNil rv).mpr ex)) ⟨g1, g2, .ref b, H, I, rfl, q1 ex⟩
  by_cases ez : zs = []
  · exact call_meets F.slot_tuple_add ⟨_, g1, rfl⟩ F.entry_tuple_add (F.args_tuple_add_2 _ _) (tuple_addW1 l b us.toArray ws.toArray n1 n2 dd1 dd2 sl1 sl2 (fun e => ex ((valsNil rv).mp e)) ((valsNil rw_).mpr ez)) ⟨g1, g2, .ref l, H, I, rfl, q2 ex ez⟩
  · have hs : us.toArray.size + ws.toArray.size ≤ sizeLine := by
      rw [List.size_toArray, List.size_toArray, ← rv.length, ← rw_.length]
      exact hl
    refine call_meets F.slot_tuple_add ⟨_, g1, rfl⟩ F.entry_tuple_add (F.args_tuple_add_2 _ _) (tuple_addW2 l b us.toArray ws.toArray n1 n2 dd1 dd2 sl1 sl2 (fun e => ex ((valsNil rv).mp e)) (fun e => ez ((valsNil rw_).mp e)) hs) ⟨g1, g2, ?_⟩
    have at_ := Heap.get?_push_size s.heap (o := { cls := .type "tuple", data := .seq (us.toArray ++ ws.toArray) }) rfl
    refine ⟨.ref s.heap.objs.size, _, I.laid (t' := s.toks) (a := s.heap.objs.size) (o := .frz { cls := .type "tuple", data := .seq (us.toArray ++ ws.toArray) } (.tup (xs ++ zs))) (fun b u e => Heap.get?_push_of_some _ e) (Nat.le_refl _) ⟨at_, by rw [List.length_append]; exact hl, us ++ ws, vals_app rv rw_, _, at_, rfl, 0, ?_⟩, rfl, q3 ex ez _ _ rfl I.fresh⟩
    rw [List.append_toArray]
def rdAddK : DR2 := fun x y S Q => match x, y with
  | .tup i, .tup j => i.length + j.length ≤ sizeLine ∧ (i = [] → Q (.tup j) S) ∧ (i ≠ [] → j = [] → Q (.tup i) S) ∧ (i ≠ [] → j ≠ [] → Q (.kup (i ++ j)) S)
  | .kup i, .tup j => i.length + j.length ≤ sizeLine ∧ i ≠ [] ∧ j ≠ [] ∧ Q (.kup (i ++ j)) S
  | _, _ => False
theorem nil_vs {K : PySem.W.Frag} {F : Hp} {ds : List D} {vs : List V} (h : IsVs K F ds vs) : vs = [] ↔ ds = [] := by
  cases h with
  | nil => simp
  | cons _ _ => simp
theorem lift_addK {K : PySem.W.Frag} : Lift2 K (rCatK K) rdAddK := by
  intro Z H S F x y v w Q P R iv iw q k
  have made : ∀ {ds1 ds2 : List D} {vs1 vs2 : List V}, IsVs K F ds1 vs1 → IsVs K F ds2 vs2 → Q (.kup (ds1 ++ ds2)) S → ∀ (p : Addr) (o : Obj), o.dict = none → H p = none → P (.ref p) (upd H p (.frz o (.tup (vs1 ++ vs2)))) := fun {ds1 ds2 vs1 vs2} h1 h2 q p o hd hp => by
    obtain ⟨R2, s2, k2⟩ := R.laid (o := .frz o (.tup (vs1 ++ vs2))) hp
    exact k _ _ ⟨_, S, _, ⟨s2, R2, k2⟩, .kup upd_same hd ((h1.append h2).up s2), q⟩
  cases iv with
  | tup h1 h2 =>
    cases iw with
    | tup g1 g2 =>
      obtain ⟨z, q1, q2, q3⟩ := q
      refine ⟨_, _, _, _, rfl, rfl, R.sqt (SqT.of h1), R.sqt (SqT.of g1), by rw [← h2.length, ← g2.length]; exact z, fun e => k _ _ ⟨_, S, F, .refl R, .tup g1 g2, q1 ((nil_vs h2).mp e)⟩, fun e e2 => k _ _ ⟨_, S, F, .refl R, .tup h1 h2, q2 (fun z => e ((nil_vs h2).mpr z)) ((nil_vs g2).mp e2)⟩, fun e e2 p o hd hp => made h2 g2 (q3 (fun z => e ((nil_vs h2).mpr z)) (fun z => e2 ((nil_vs g2).mpr z))) p o hd hp⟩
    | _ => exact False.elim q
  | kup h1 h0 h2 =>
    cases iw with
    | tup g1 g2 =>
      obtain ⟨z, e1, e2, q⟩ := q
      exact ⟨_, _, _, _, rfl, rfl, R.sqt (.inl (.inr ⟨_, h1⟩)), R.sqt (SqT.of g1), by rw [← h2.length, ← g2.length]; exact z, fun e => absurd ((nil_vs h2).mp e) e1, fun e e3 => absurd ((nil_vs g2).mp e3) e2, fun _ _ p o hd hp => made h2 g2 q p o hd hp⟩
    | _ => exact False.elim q
  | _ => exact False.elim q
/-! count -/
def cntR (K : PySem.W.Frag) : V → List V → Hp → VK → Prop := fun x xs H Q => ∃ (p : Addr) (ns : List Str) (k : Str), x = .ref p ∧ xs = [.str k] ∧ SqT K H p (ns.map V.str) ∧ Q (.int (ns.count k : Nat)) H
def isK (k : Str) : Value → Bool
  | .str a _ => a == k
  | _ => false
theorem count_vals {k : Str} : ∀ {ns : List Str} {its : List Value}, Vals (ns.map V.str) its → (∀ y ∈ its, ∃ a t, y = Value.str a t) ∧ its.countP (isK k) = ns.count k
  | [], _, h => by
    cases h
    exact ⟨fun y h => by (cases h), rfl⟩
  | n :: ns, _, h => by
    cases h with
    | cons h1 h2 =>
      obtain ⟨a, b⟩ := count_vals (k := k) h2
      obtain ⟨t, rfl⟩ : ∃ t, _ = Value.str n t := h1
      refine ⟨fun y hy => ?_, ?_⟩
      · rcases List.mem_cons.mp hy with rfl | hy
        · exact ⟨_, _, rfl⟩
        · exact a y hy
      · rw [List.countP_cons, List.count_cons, b]
        rfl
theorem mt_tcount {X : Cx} : MtR X "tuple.count" (cntR X.K) := by
  intro pins s σ H x xs v us Q I rx rs ⟨p, ns, k, hx, hxs, sq, q⟩
  subst hx
  subst hxs
  obtain ⟨its, rv, p1, _⟩ := I.tuple sq
  cases rx
  cases rs with
  | cons r1 r2 =>
    cases r2
    obtain ⟨tk, rfl⟩ : ∃ t, _ = Value.str k t := r1
    obtain ⟨o, ho, hc, n, hd⟩ := p1
    obtain ⟨cls, dict, data, slots⟩ := o
    cases hc
    cases hd
    obtain ⟨all, cnt⟩ := count_vals (k := k) rv
    refine call_meets F.slot_tuple_count ⟨_, ho, rfl⟩ F.entry_tuple_count (F.args_tuple_count_2 _ _) (SeqAt.tuple_countAt p its.toArray n dict slots (.str k tk) (isK k)) ⟨ho, fun y hy => ?_, ?_⟩
    · obtain ⟨a, t, rfl⟩ := all y (by simpa using hy)
      exact SeqAt.EqAt.str_str a t k tk
    · exact ⟨.int (ns.count k : Nat), H, I.tok _, ⟨s.toks, by rw [← cnt]⟩, q⟩
theorem tyOk_tup {X : Cx} : TyOk X "tuple" (fun x H => ∃ (p : Addr) (o : Obj) (xs : List V), x = V.ref p ∧ H p = some (.frz o (.tup xs)) ∧ o.dict = none) := by
  intro pins σ H s x v I rx ⟨p, o, xs, hx, hp, hd⟩
  subst hx
  cases rx
  obtain ⟨g, _, _, _, o2, g2, hc, _⟩ := I.hok p _ hp
  rw [g] at g2
  cases g2
  exact ⟨⟨o, g, hc⟩, fun a e => by cases e; exact ⟨o, g, hd⟩⟩
section
variable {X : Cx} {W : WX} {o e : Expr} {to te : DTE} {apos cpos : Pos}
def dTCnt (to te : DTE) : DTE := fun ρ S Q E => to ρ S (fun x S1 => ∃ ns : List Str, x = .kup (ns.map .str) ∧ dCons te dNil ρ S1 (fun es S2 => ∃ k, es = [.str k] ∧ Q (.int (ns.count k : Nat)) S2) E) E
theorem de_tcount (ho : DE X W o to) (ha : DE X W e te) (hbase : attributeBase o "count" X.env (eval o X.env) = eval o X.env := by rfl)
    (hfew : ((backTo cpos (starEach [e] X.env)).all (fun x => !x.1) && (backToKw cpos (keywordEach [] X.env)).all (fun x => x.1.isSome)
      && decide ([e].length + ([] : List Keyword).length + (if ([] : List Keyword).isEmpty then 0 else 1) < 30)) = true := by rfl)
    (hline : (apos.endLine == cpos.line) = true := by rfl) (hs : starEach [e] X.env = (false, eval e X.env) :: starEach [] X.env := by rfl) (hplain : (backTo cpos (starEach [] X.env)).any (·.1) = false := by rfl) :
    DE X W (.Call (.Attribute o "count" apos) [e] [] cpos) (dTCnt to te) :=
  de_pe (pe_mG tyOk_tup F.plainAttrs_tuple F.slot_tuple_count F.type_tuple_count mt_tcount ho.pe (da_cons ha da_nil hs).pa hbase hfew hline hs hplain) fun σ H P ⟨ρ, S, F, Z, Q, E, R, V, q, k, x⟩ =>
    ⟨ρ, S, F, Z, _, E, R, V, q, fun v H1 ⟨d, S1, F1, A1, i1, ns, hd, q1⟩ => by
      subst hd
      cases i1 with
      | kup hp h0 iv =>
        have ew := isVs_strs_inv iv
        subst ew
        exact ⟨⟨_, _, _, rfl, (A1.rel.sub _ _ hp).1, h0⟩, ρ, S1, F1, Z, _, E, A1.rel, V.up A1.sm, q1, fun ws H2 ⟨es, S2, F2, A2, i2, kk, he, q2⟩ => by
          subst he
          obtain ⟨w, rfl, i3⟩ := isVs_one i2
          cases i3
          exact ⟨_, ns, kk, rfl, rfl, A2.rel.sqt (.inl (.inr ⟨_, A2.sm _ _ hp⟩)), k _ _ ⟨_, S2, F2, A1.trans A2, .int _, q2⟩⟩, xe_tr x A1⟩, x⟩
def dJoin (to te : DTE) : DTE := fun ρ S Q E => to ρ S (fun x S1 => ∃ a, x = .str a ∧ te ρ S1 (fun y S2 => ∃ ys : List Str, (y = .tup (ys.map .str) ∨ y = .lst (ys.map .str)) ∧ (ys.map (·.length)).sum + ys.length * a.length ≤ 16777216 ∧ Q (.str (Txt.join a ys)) S2) E) E
theorem de_join (ho : DE X W o to) (he : DE X W e te) (hs : starEach [e] X.env = [(false, eval e X.env)] := by rfl) (hbase : attributeBase o "join" X.env (eval o X.env) = eval o X.env := by rfl) (hline : (apos.endLine == cpos.line) = true := by rfl) :
    DE X W (.Call (.Attribute o "join" apos) [e] [] cpos) (dJoin to te) :=
  de_pe (pe_join ho.pe he.pe hs hbase hline) fun σ H P ⟨ρ, S, F, Z, Q, E, R, V, q, k, x⟩ =>
    ⟨ρ, S, F, Z, _, E, R, V, q, fun v H1 ⟨d, S1, F1, A1, i1, a, hd, q1⟩ => by
      subst hd
      cases i1
      exact ⟨⟨a, rfl⟩, ρ, S1, F1, Z, _, E, A1.rel, V.up A1.sm, q1, fun w H2 ⟨e, S2, F2, A2, i2, ys, he, hl, q2⟩ => by
        rcases he with rfl | rfl
        · obtain ⟨p, ws, rfl, hp, iv⟩ := tup_inv i2
          have ew := isVs_strs_inv iv
          subst ew
          exact ⟨a, p, ys, rfl, rfl, .inr (SqT.of (A2.rel.sub _ _ hp).1), hl, k _ _ ⟨_, S2, F2, A1.trans A2, .str _, q2⟩⟩
        · cases i2 with
          | lst h1 h2 =>
            have ew := isVs_strs_inv h2
            subst ew
            exact ⟨a, _, ys, rfl, rfl, .inl (SqL.of (A2.rel.sub _ _ h1).1), hl, k _ _ ⟨_, S2, F2, A1.trans A2, .str _, q2⟩⟩, xe_tr x A1⟩, x⟩
end
end DL

set_option maxRecDepth 100000
set_option maxHeartbeats 1000000
/-! DLO: dict(zip(list of known tuples, tuple)), a dict that nobody looks into; sorted of a known tuple. -/
namespace DL
open PySem PySem.Spec PyProof.Rows L2
section
variable {X : Cx} {pins : List (Addr × Obj)} {σ : L2.St} {H : Hp} {s : Shared}
end
section
variable {X : Cx} {e1 e2 : Expr} {t : TA} {p p2 q pos : Pos}
end
section
variable {X : Cx} {W : WX} {e1 e2 : Expr} {t : DTA} {p p2 q pos : Pos}
abbrev encK (l : List Str) : D := .kup (l.map .str)
end
section
open PySem.Spec in
theorem sorted_tupS {P : Program} {w : World} {A : Around} {E : Value → Shared → Prop} {s : Shared} {a : Addr} {ks : List Str} {vs : List Value} {Q : Value → Shared → Prop} (src : PyProof.Rows.IsTup s.heap a vs.toArray) (txt : PyProof.Rows.StrsAre vs ks) (few : ks.length < 64)
    (fin : ∀ (h1 : Heap) s' p (out : Array Value) (c : Nat), (∀ b o, s.heap.get? b = some o → h1.get? b = some o) → (∀ b o, h1.get? b = some o → s'.heap.get? b = some o) → s'.gens = s.gens → s'.os = s.os → h1.objs.size ≤ p →
      s'.heap.get? p = some (seqObj "list" out c) → PyProof.Rows.StrsAre out.toList (DLS.sortS ks) → Q (.ref p) s') : wpAny (model P w) A (call (.builtin "sorted") [.ref a]) Q E s := by
  obtain ⟨ob, at_, ex, n, dt⟩ := src
  have len : vs.length = ks.length := txt.length
  refine Calls.call_function_entry kind_sorted plain_sorted entry_sorted (args_sorted1 _) ?_
  unfold Builtin.«sorted»
  refine wpAny_bind (m := checkCount "sorted" 1 1 _) (wpAny_pure ?_)
  refine wpAny_bind (wpAny_collect_seq (A := A.in1) a (.inr rfl) at_ ex dt (fun h1 old => ?_) (by rw [List.size_toArray, len, sizeLine_eq]; omega))
  rw [List.toList_toArray]
  refine wpAny_bind (wpAny_newList ?_ (by rw [len, sizeLine_eq]; omega))
  have atL : (h1.push (seqObj "list" vs.toArray 0)).get? h1.objs.size = some (seqObj "list" vs.toArray 0) := Heap.get?_push_size _ rfl
  refine wpAny_bind (wpAny_holding (wpAny_call_entry slot_list_sort ⟨_, atL, rfl⟩ entry_list_sort (list_sort_treeK strKind_oneLt atL txt.keysOf (fun v1 v2 rest e => keyKind_strs (by rw [← e]; exact txt)) (by rw [len]; exact few) fun st' p1 p2 => ⟨_, rfl, ?_⟩) (args_list_sort _)))
  obtain ⟨ss', q1, q2, q3⟩ := sorted_out_str txt p1 p2
  have e : ss' = DLS.sortS ks := DLS.sortS_eq q2 (DLS.sortedS_pw q3)
  subst e
  obtain ⟨c, hc⟩ := sortedHeap_at (vs := vs) (out := (arrOf st').map (·.2)) atL
  refine wpAny_pure ⟨_, rfl, fin h1 _ h1.objs.size _ c old (fun b u q => ?_) rfl rfl (Nat.le_refl _) hc q1⟩
  have lt := Heap.lt_size q
  show (sortedHeap (h1.push (seqObj "list" vs.toArray 0)) h1.objs.size vs ((arrOf st').map (·.2))).get? b = some u
  rw [sortedHeap_old (Nat.ne_of_lt lt) (by rw [size_push']; exact Nat.lt_succ_of_lt lt)]
  exact Heap.get?_push_of_some _ q
end
/-- sorted(t) of a tuple of texts -/
def rSortT (K : PySem.W.Frag) : List V → Hp → VK → Prop := fun xs H Q => ∃ (a : Addr) (ns : List Str), xs = [.ref a] ∧ SqT K H a (ns.map V.str) ∧ ns.length < 64 ∧ ∀ c, H c = none → Q (.ref c) (upd H c (.lst ((DLS.sortS ns).map V.str)))
theorem cr_sortTS {X : Cx} : CallR X (.builtin "sorted") (rSortT X.K) := by
  intro pins s σ H xs us Q I r ⟨a, ks, hx, sq, few, k⟩
  subst hx
  rw [Vals.ref1 r]
  obtain ⟨its, rv, pt, hz⟩ := I.tuple sq
  refine sorted_tupS pt rv.strs few fun h1 s' c out n old1 old g o hn at_ txt => ?_
  have I := I.kept (t' := s.toks) old1
  have len : ((DLS.sortS ks).map V.str).length ≤ sizeLine := by
    rw [List.length_map, (DLS.sortS_perm ks).length_eq, sizeLine_eq]
    omega
  have free : H c = none := I.hok.fresh hn
  have J : Inv X pins σ (upd H c (.lst ((DLS.sortS ks).map V.str))) { s with heap := s'.heap, gens := s'.gens, drawn := s'.drawn, toks := s'.toks } :=
    Inv.call (s := { s with heap := h1, toks := s.toks }) (ch := []) I (Un.laid old hn free) (I.hok.laid old hn ⟨len, out.toList, n, vals_of_strs txt, at_⟩) (by rw [g]; exact I.bare) (fun _ z => nomatch z)
  have e : s' = { s with heap := s'.heap, gens := s'.gens, drawn := s'.drawn, toks := s'.toks } := by
    cases s'
    cases s
    cases o
    rfl
  rw [e]
  exact ⟨.ref c, _, J, rfl, k c free⟩
def rdSortT : DRL := fun xs S Q => match xs with
  | [.tup ds] => ∃ ns : List Str, ds = ns.map .str ∧ ns.length < 64 ∧ Q (.lst ((DLS.sortS ns).map .str)) S
  | [.kup ds] => ∃ ns : List Str, ds = ns.map .str ∧ ns.length < 64 ∧ Q (.lst ((DLS.sortS ns).map .str)) S
  | _ => False
theorem lift_sortT {K : PySem.W.Frag} : LiftL K (rSortT K) rdSortT := by
  intro Z H S F x v Q P R iv q k
  have go : ∀ (a : Addr) (ns : List Str), SqT K H a (ns.map V.str) → ns.length < 64 → Q (.lst ((DLS.sortS ns).map .str)) S → rSortT K [.ref a] H P := fun a ns sq few q => ⟨a, ns, rfl, sq, few, fun c hc => by
    obtain ⟨R2, s2, k2⟩ := R.laid (o := .lst ((DLS.sortS ns).map L2.V.str)) hc
    exact k _ _ ⟨_, S, _, ⟨s2, R2, k2⟩, .lst upd_same (isVs_strs _), q⟩⟩
  match x, q with
  | [.tup ds], ⟨ns, hd, few, q⟩ =>
    subst hd
    obtain ⟨v, rfl, iw⟩ := isVs_one iv
    cases iw with
    | tup h1 h2 =>
      rw [isVs_strs_inv h2] at h1
      exact go _ ns (R.sqt (SqT.of h1)) few q
  | [.kup ds], ⟨ns, hd, few, q⟩ =>
    subst hd
    obtain ⟨v, rfl, iw⟩ := isVs_one iv
    cases iw with
    | kup h1 h0 h2 =>
      rw [isVs_strs_inv h2] at h1
      exact go _ ns (R.sqt (.inl (.inr ⟨_, h1⟩))) few q
section
variable {X : Cx} {W : WX} {e : Expr} {te : DTE} {p pos : Pos}
theorem de_sortT (B : Bis X.mg) (he : DE X W e te) (hg : Gl X "sorted" := by rfl) (hs : starEach [e] X.env = (false, eval e X.env) :: starEach [] X.env := by rfl) (hpl : (backTo pos (starEach [] X.env)).any (·.1) = false := by rfl) :
    DE X W (.Call (.Name "sorted" p) [e] [] pos) (dCB rdSortT (dCons te dNil)) :=
  de_callB cr_sortTS lift_sortT B.sorted (by first | exact PyProof.Rows.boot_sorted | decide +kernel | kernel_rfl) (da_cons he da_nil hs) hg (by decide) (by decide) hs hpl
end
end DL

set_option maxRecDepth 100000
set_option maxHeartbeats 1000000
/-! DLB: xs[i] = e of a list in the store; is of truths; C(k = e, ..). -/
namespace DL
open PySem PySem.Spec L2
section
variable {X : Cx} {W : WX} {o i value : Expr} {to ti tv : DTE} {pos pos' : Pos}
end
/-! C(k = e, ..) -/
section
variable {X : Cx} {W : WX} {k : Nat} {f C : Addr} {fd : FuncData} {ps ks : List Str} {sp : Sp} {x : Str} {p pos : Pos} {kws : List Keyword} {gx : List Value → List Value → List Value} {gV : List V → List V → List V} {gD : List D → List D → List D}
end
section
variable {X : Cx} {W : WX} {elt tg iter tg1 iter1 : Expr} {ifs ifs1 : List Expr} {scope : Scope} {own : List (Str × Nat)} {pos spos : Pos} {ti ti1 : DTI} {g g1 : Tgt} {tt tt1 : DTT} {te : DTE}
theorem ds_setLc2 {i : Nat} {y : Str} {py : Pos} (hc : X.calm = true) (hN : X.N.Nodup) (hsw : swapsWith (.ListComp elt [⟨tg, iter, ifs, 0⟩, ⟨tg1, iter1, ifs1, 0⟩] scope pos) (some (.Name y py)) spos.line X.env = pure true) (hi : DI X W tg iter ti) (ok : BlkOk X.N X.env.scope scope own)
    (hg : Blk X scope fun Y => DG Y tg g) (ht : Blk X scope fun Y => DTs Y ifs tt) (hi1 : Blk X scope fun Y => DI Y W0 tg1 iter1 ti1) (hg1 : Blk X scope fun Y => DG Y tg1 g1) (ht1 : Blk X scope fun Y => DTs Y ifs1 tt1) (he : Blk X scope fun Y => DE Y W0 elt te)
    (hy : X.N[i]? = some y := by rfl) (hyl : X.env.scope.names.lookup y = some .local := by rfl)
    (hv : ∀ i ∈ g.slots, i ∈ own.map (·.2) := by decide) (hv1 : ∀ i ∈ g1.slots, i ∈ own.map (·.2) := by decide) (hs : ∀ x, foldedSetIterable iter X.env x = pure x := by intro _; rfl) (hs1 : ∀ env x, foldedSetIterable iter1 env x = pure x := by intro _ _; rfl) :
    DS X W (.Assign [.Name y py] (.ListComp elt [⟨tg, iter, ifs, 0⟩, ⟨tg1, iter1, ifs1, 0⟩] scope pos) spos) (dAsg (dLc2 ti g tt ti1 g1 tt1 te (own.map (·.2)) g1.slots) (.name i)) :=
  ds_ps (ps_setLc2 hc hN hy hyl hsw hi.pi ok hv1 (fun s H C cl fp => (hg s H C cl fp).pg) (fun s H C cl fp => (ht s H C cl fp).pt) (fun s H C cl fp => (hi1 s H C cl fp).pi) (fun s H C cl fp => (hg1 s H C cl fp).pg) (fun s H C cl fp => (ht1 s H C cl fp).pt) (fun s H C cl fp => (he s H C cl fp).pe) hs hs1) fun N σ H h => by
    have h2 : tAsg (upE X.K W (dLc2 ti g tt ti1 g1 tt1 te (own.map (·.2)) g1.slots)) (tgV X.K (.name i)) N σ H := asg_lift N σ H h
    exact lift_lc2 hv σ H _ h2
end
/-! steps -/
section
variable {ρ : Sl} {S : Store} {Q : DQ} {E : DX} {N : DEnds} {te to tv ti0 : DTE} {ta : DTA}
theorem s_lc2 {ti ti1 : DTI} {g g1 : Tgt} {tt tt1 : DTT} {vs vs1 : List Nat} (h : ti ρ S (fun items S1 => dLc2Go g tt ti1 g1 tt1 te vs1 (wipeD ρ vs) items [] S1 (fun ds S1 => Q (.lst ds) S1)) E) : dLc2 ti g tt ti1 g1 tt1 te vs vs1 ρ S Q E := h
theorem s_tcnt (h : to ρ S (fun x S1 => ∃ ns : List Str, x = .kup (ns.map .str) ∧ dCons te dNil ρ S1 (fun es S2 => ∃ k, es = [.str k] ∧ Q (.int (ns.count k : Nat)) S2) E) E) : dTCnt to te ρ S Q E := h
theorem s_itZ {QI : List D → Store → Prop} (h : ta ρ S (fun ds S1 => ∃ xs ys, ds = [.lst xs, .tup ys] ∧ xs.length = ys.length ∧ QI ((xs.zip ys).map fun p => D.tup [p.1, p.2]) S1) E) : dItZ ta ρ S QI E := h
theorem s_join (h : to ρ S (fun x S1 => ∃ a, x = .str a ∧ te ρ S1 (fun y S2 => ∃ ys : List Str, (y = .tup (ys.map .str) ∨ y = .lst (ys.map .str)) ∧ (ys.map (·.length)).sum + ys.length * a.length ≤ 16777216 ∧ Q (.str (Txt.join a ys)) S2) E) E) : dJoin to te ρ S Q E := h
/-- the outer turns, by what each adds -/
theorem lc2_map {α : Type} {g g1 : Tgt} {ti1 : DTI} {tt1 : DTT} {vs1 : List Nat} (e1 : α → D) (o : α → List D) {QA : List D → Store → Prop} : ∀ (ls : List α) (acc : List D), acc.length + (ls.flatMap o).length ≤ sizeLine →
    (∀ x ∈ ls, ∃ ρ1, bindT g (e1 x) ρ = some ρ1 ∧ ∀ (acc' : List D) (R : List D → Store → Prop), acc'.length + (o x).length ≤ sizeLine → R (acc' ++ o x) S → ti1 ρ1 S (fun its S2 => acc'.length + its.length ≤ sizeLine ∧ dLcGo g1 tt1 te (wipeD ρ1 vs1) its acc' S2 R) (fun _ _ _ _ => False)) →
    QA (acc ++ ls.flatMap o) S → dLc2Go g dYes ti1 g1 tt1 te vs1 ρ (ls.map e1) acc S QA
  | [], acc, _, _, q => by
    rw [List.flatMap_nil, List.append_nil] at q
    exact q
  | x :: ls, acc, hl, h, q => by
    obtain ⟨ρ1, hb, k⟩ := h x List.mem_cons_self
    rw [List.flatMap_cons, List.length_append] at hl
    refine ⟨ρ1, hb, ?_⟩
    refine s_yes (iteT (k acc _ (by omega) ?_))
    refine lc2_map e1 o ls (acc ++ o x) (by rw [List.length_append]; omega) (fun y hy => h y (List.mem_cons_of_mem _ hy)) ?_
    rw [List.append_assoc]
    rw [List.flatMap_cons] at q
    exact q
end
end DL

set_option maxRecDepth 100000
set_option maxHeartbeats 1000000
/-! DLB2: a tuple of ints that is a constant of the module; x in it. -/
namespace DL
open PySem PySem.Spec L2
/-- the name n of the module is a tuple of the ints is -/
structure CTup (K : PySem.W.Frag) (mg : Str → Option Value) (n : Str) (a : Addr) (is : List Int) : Prop where
  at_ : mg n = some (.ref a)
  sq : ∀ H, SqT K H a (is.map V.int)
def rdInC (K : PySem.W.Frag) (neg : Bool) : DR2 := fun x y S Q => ∃ (i : Int) (a : Addr) (is : List Int), x = .int i ∧ y = .ref a ∧ (∀ H, SqT K H a (is.map V.int)) ∧ Q (.bl (if neg then !decide (i ∈ is) else decide (i ∈ is))) S
theorem inV_ints (i : Int) : ∀ is : List Int, inV (.int i) (is.map V.int) = decide (i ∈ is)
  | [] => rfl
  | j :: is => by
    have ih := inV_ints i is
    unfold inV at ih ⊢
    rw [List.map_cons, List.any_cons, ih]
    by_cases h : i = j
    · subst h
      simp [eqV]
    · simp [eqV, h, Ne.symm h]
theorem flat_ints : ∀ is : List Int, (is.map V.int).all flatV = true
  | [] => rfl
  | _ :: is => by
    rw [List.map_cons, List.all_cons, flat_ints is]
    rfl
theorem lift_inC {K : PySem.W.Frag} (neg : Bool) : Lift2 K (rIn K neg) (rdInC K neg) := by
  intro Z H S F x y v w Q P R iv iw q k
  obtain ⟨i, a, is, rfl, rfl, sq, q⟩ := q
  cases iv
  cases iw
  refine ⟨a, is.map V.int, rfl, .inr (sq H), rfl, flat_ints is, ?_⟩
  rw [inV_ints]
  exact k _ _ ⟨_, S, F, .refl R, .bl _, q⟩
end DL

set_option maxRecDepth 100000
set_option maxHeartbeats 1000000
/-! DLB3: == and != by the own == of a class, against a value of another kind. -/
namespace DL
open PySem PySem.Spec L2
section
variable {X : Cx} {k : Nat} {C f : Addr} {fd : FuncData} {ps : List Str}
end
end DL
namespace DLC
open PySem PySem.Spec L2
section
variable {P : Program} {w : World} {A : Around} {E : Value → Shared → Prop} {s : Shared} {K : PySem.W.Frag} {x y C f : Addr} {ox oy : Obj} {od oe : Option Obj}
end
end DLC
namespace DL
open PySem PySem.Spec L2
end DL

set_option maxRecDepth 100000
set_option maxHeartbeats 2000000
/-! DLB4: repr of trees with lists and dicts at once, of a list of the store too. The module table is written out, so no list stands there. -/
namespace DL
open PySem PySem.Spec L2
section
variable {X : Cx} {pins : List (Addr × Obj)} {σ : L2.St} {H : Hp} {s : Shared} {F : Hp}
theorem pairs_vals {κ : Type} [DecidableEq κ] {P : Program} {w : World} {knd : KeyKind P w κ} : ∀ {es : List DictEntry} {kvs : List (κ × Value)}, Pairs knd es kvs → es.map (·.val) = kvs.map (·.2)
  | _, _, .nil => rfl
  | _, _, .cons _ h t => by rw [List.map_cons, List.map_cons, h, pairs_vals t]
/-- how a value is shown, by the library's own relation -/
abbrev Shw (X : Cx) (s : Shared) (u : Value) (p : PyData) : Prop := ∃ bs, ReadAtMost s.heap p.depth bs ∧ ReprK X.prog X.w bs s.heap p.depth u p.shown
abbrev Shws (X : Cx) (s : Shared) (us : List Value) (ps : List PyData) : Prop := ∃ bs, ReadAtMost s.heap (PyData.depthAll ps) bs ∧ ReprAllK X.prog X.w bs s.heap (PyData.depthAll ps) us (PyData.shownAll ps)
theorem shw_list {a : Addr} {o : Obj} {its : List Value} {n : Nat} {ps : List PyData} {as : List Addr} (ho : s.heap.get? a = some o) (hc : o.cls = .type "list") (hd : o.data = .seq its.toArray n) (ra : ReadsAll s.heap its ps as) (h : Shws X s its ps) : Shw X s (.ref a) (.list ps) := by
  obtain ⟨bs, hb, hk⟩ := h
  have rr : Reads s.heap (.ref a) (.list ps) _ := .list ho hc hd ra
  have out : a ∉ bs := not_mem_of_deeper rr (by simp only [PyData.depth]; omega) hb
  refine ⟨a :: bs, ReadAtMost.cons rr (by simp only [PyData.depth]; omega) hb, ?_⟩
  simp only [PyData.shown, PyData.depth]
  cases its with
  | nil =>
    cases ra
    simp only [listText_nil, PyData.shownAll]
    exact ReprK.listEmpty ho hc hd
  | cons x l => exact ReprK.list ho hc hd out (by simpa using hk.length_eq) fun i y e => hk.item i y (by simpa using e)
theorem shw_tuple {a : Addr} {o : Obj} {its : List Value} {n : Nat} {ps : List PyData} {as : List Addr} (ho : s.heap.get? a = some o) (hc : o.cls = .type "tuple") (hd : o.data = .seq its.toArray n) (ra : ReadsAll s.heap its ps as) (h : Shws X s its ps) : Shw X s (.ref a) (.tuple ps) := by
  obtain ⟨bs, hb, hk⟩ := h
  have rr : Reads s.heap (.ref a) (.tuple ps) _ := .tuple ho hc hd ra
  have out : a ∉ bs := not_mem_of_deeper rr (by simp only [PyData.depth]; omega) hb
  refine ⟨a :: bs, ReadAtMost.cons rr (by simp only [PyData.depth]; omega) hb, ?_⟩
  simp only [PyData.shown, PyData.depth]
  exact ReprK.tuple ho hc hd out hk
theorem shown_in : ∀ {ps : List PyData} {m : Nat}, goodPs ps = true → szPs ps ≤ m → ∀ t ∈ PyData.shownAll ps, t.length ≤ m
  | [], _, _, _, _, ht => by simp [PyData.shownAll] at ht
  | p :: ps, m, g, z, t, ht => by
    have g' : goodP p = true ∧ goodPs ps = true := by simpa [goodPs] using g
    have z' : szP p + 2 + szPs ps ≤ m := by simpa [szPs] using z
    rcases List.mem_cons.mp (by simpa [PyData.shownAll] using ht) with e | ht
    · rw [e]
      have := shown_le p g'.1
      omega
    · exact shown_in g'.2 (Nat.le_trans (Nat.le_add_left _ _) z') t ht
mutual
theorem rk_of (I : Inv X pins σ H s) (sub : ∀ b u, F b = some u → H b = some u) : ∀ (d : D) (v : V) (u : Value) (p : PyData), IsV X.K F d v → RelV v u → showD d = some p → goodP p = true → szP p ≤ sizeLine → Shw X s u p
  | .non, _, _, _, iv, rv, e, _, _ => by
    cases iv; cases rv; unfold showD at e; cases e
    exact ⟨[], fun _ z => (nomatch z), by simp only [PyData.shown]; exact .of_is ReprIs.none _ _ _⟩
  | .bl b, _, _, _, iv, rv, e, _, _ => by
    cases iv; cases rv; unfold showD at e; cases e
    exact ⟨[], fun _ z => (nomatch z), by simp only [PyData.shown]; exact .of_is (ReprIs.bool b) _ _ _⟩
  | .int i, _, _, _, iv, rv, e, g, _ => by
    cases iv; obtain ⟨t, rfl⟩ := rv; unfold showD at e; cases e
    exact ⟨[], fun _ z => (nomatch z), by simp only [PyData.shown]; exact .of_is (ReprIs.int t (by simpa [goodP] using g)) _ _ _⟩
  | .str i, _, _, _, iv, rv, e, g, z => by
    cases iv; obtain ⟨t, rfl⟩ := rv; unfold showD at e; cases e
    have l := Nat.le_trans (shown_le (.str i) g) z
    exact ⟨[], fun _ z => (nomatch z), by simp only [PyData.shown]; exact .of_is (ReprIs.str i t (by simpa only [PyData.shown] using l)) _ _ _⟩
  | .ty _, _, _, _, _, _, e, _, _ => by unfold showD at e; cases e
  | .ref _, _, _, _, _, _, e, _, _ => by unfold showD at e; cases e
  | .scr _, _, _, _, _, _, e, _, _ => by unfold showD at e; cases e
  | .obj _ _ _, _, _, _, _, _, e, _, _ => by unfold showD at e; cases e
  | .exc _ _ _, _, _, _, _, _, e, _, _ => by unfold showD at e; cases e
  | .kup ds, _, _, _, iv, rv, e, g, z => by
    unfold showD at e
    obtain ⟨ps, e1, rfl⟩ := map_some e
    cases iv with
    | kup h1 h0 h2 =>
      cases rv
      obtain ⟨its, r, ⟨o, ho, hc, n, hd⟩, _⟩ := I.tuple (show SqT X.K H _ _ from .inl (.inr ⟨_, sub _ _ h1⟩))
      obtain ⟨as, ra, _⟩ := reads_ofs I sub ds _ its ps h2 r e1
      exact shw_tuple ho hc hd ra (rk_ofs I sub ds _ its ps h2 r e1 (by simpa [goodP] using g) (by simp only [szP] at z; omega))
  | .ctp ds, _, _, _, iv, rv, e, g, z => by
    unfold showD at e
    obtain ⟨ps, e1, rfl⟩ := map_some e
    cases iv with
    | ctp h1 h2 =>
      cases rv
      obtain ⟨its, r, ⟨o, ho, hc, n, hd⟩, _⟩ := I.tuple (Same.sqt sub h1)
      obtain ⟨as, ra, _⟩ := reads_ofs I sub ds _ its ps h2 r e1
      exact shw_tuple ho hc hd ra (rk_ofs I sub ds _ its ps h2 r e1 (by simpa [goodP] using g) (by simp only [szP] at z; omega))
  | .tup ds, _, _, _, iv, rv, e, g, z => by
    unfold showD at e
    obtain ⟨ps, e1, rfl⟩ := map_some e
    cases iv with
    | tup h1 h2 =>
      cases rv
      obtain ⟨its, r, ⟨o, ho, hc, n, hd⟩, _⟩ := I.tuple (SqT.of (K := X.K) (sub _ _ h1))
      obtain ⟨as, ra, _⟩ := reads_ofs I sub ds _ its ps h2 r e1
      exact shw_tuple ho hc hd ra (rk_ofs I sub ds _ its ps h2 r e1 (by simpa [goodP] using g) (by simp only [szP] at z; omega))
  | .lst ds, _, _, _, iv, rv, e, g, z => by
    unfold showD at e
    obtain ⟨ps, e1, rfl⟩ := map_some e
    cases iv with
    | lst h1 h2 =>
      cases rv
      obtain ⟨its, r, ⟨o, n, ho, hc, _, hd⟩, _⟩ := I.list (SqL.of (K := X.K) (sub _ _ h1))
      obtain ⟨as, ra, _⟩ := reads_ofs I sub ds _ its ps h2 r e1
      exact shw_list ho hc hd ra (rk_ofs I sub ds _ its ps h2 r e1 (by simpa [goodP] using g) (by simp only [szP] at z; omega))
  | .dK ks ds, _, _, _, iv, rv, e, g, z => by
    unfold showD at e
    obtain ⟨ps, e1, rfl⟩ := map_some e
    cases iv with
    | dK h1 h2 h3 =>
      cases rv
      obtain ⟨_, hsy, vs, kv, o, es, ep, ho, hx, hdat, _, hp, _⟩ := dk_of I.hok (sub _ _ h1)
      obtain ⟨k1, k2⟩ := kv_split kv
      obtain ⟨as, ra, _⟩ := reads_ofs I sub ds _ _ ps h3 k2 e1
      obtain ⟨r1, r2⟩ := reads_pairs (enc := keyP) (fun k u => reads_key) hp ra
      have lps : vs.length = ps.length := by have := readsAll_len ra; rwa [List.length_map] at this
      have e2 : ((((vs.map (·.1)).map keyP).zip ps).map (·.2)) = ps := List.map_snd_zip (by rw [List.length_map, List.length_map]; omega)
      have gk : goodPk ((ks.map keyP).zip ps) = true := by simpa [goodP] using g
      have zk : szPk ((ks.map keyP).zip ps) + 3 ≤ sizeLine := by simpa only [szP] using z
      have ek : vs.map (·.1) = ks := k1.symm.trans h2
      have spl : ∀ {l : List (PyData × PyData)}, goodPk l = true → (goodPs (l.map (·.1)) = true ∧ goodPs (l.map (·.2)) = true) ∧ szPs (l.map (·.1)) ≤ szPk l ∧ szPs (l.map (·.2)) ≤ szPk l := fun {l} => by
        induction l with
        | nil => intro _; exact ⟨⟨rfl, rfl⟩, Nat.le_refl _, Nat.le_refl _⟩
        | cons x r ih =>
          intro q
          obtain ⟨k, v⟩ := x
          have q' : (goodP k = true ∧ goodP v = true) ∧ goodPk r = true := by simpa [goodPk] using q
          obtain ⟨⟨a1, a2⟩, a3, a4⟩ := ih q'.2
          refine ⟨⟨by simp [goodPs, q'.1.1, a1], by simp [goodPs, q'.1.2, a2]⟩, ?_, ?_⟩
          · simp only [List.map_cons, szPs, szPk]; omega
          · simp only [List.map_cons, szPs, szPk]; omega
      rw [← ek] at gk zk ⊢
      obtain ⟨⟨g1, g2⟩, z1, z2⟩ := spl gk
      have nd : ∀ (l : List Key) (m : List PyData), PyData.hasDictAll (((l.map keyP).zip m).map (·.1)) = false := fun l => by
        induction l with
        | nil => intro m; simp [PyData.hasDictAll]
        | cons k l ih =>
          intro m
          cases m with
          | nil => simp [PyData.hasDictAll]
          | cons y m =>
            simp only [List.map_cons, List.zip_cons_cons, PyData.hasDictAll, ih m, Bool.or_false]
            cases k <;> simp [keyP, PyData.hasDict]
      obtain ⟨b1, hb1, w1⟩ := ReprAllK.of_readsAll (prog := X.prog) (w := X.w) r1 (good_showables _ g1) (fun q => by rw [nd] at q; cases q) (shown_in g1 (by omega))
      have ev : es.toList.map (·.val) = vs.map (·.2) := pairs_vals hp
      have w2' := rk_ofs I sub ds _ _ ps h3 k2 e1 (by rw [e2] at g2; exact g2) (by rw [e2] at z2; omega)
      rw [← ev, ← e2] at w2'
      obtain ⟨b2, hb2, w2⟩ := w2'
      have rr : Reads s.heap (.ref _) (.dict (((vs.map (·.1)).map keyP).zip ps)) _ := .dict ho hx.1 hdat r1 r2
      have hb := (hb1.mono (PyData.depthAll_keys_le (((vs.map (·.1)).map keyP).zip ps))).append (hb2.mono (PyData.depthAll_vals_le (((vs.map (·.1)).map keyP).zip ps)))
      have out := not_mem_of_deeper rr (by simp only [PyData.depth]; omega) hb
      refine ⟨_ :: (b1 ++ b2), ReadAtMost.cons rr (by simp only [PyData.depth]; omega) hb, ?_⟩
      simp only [PyData.shown, PyData.depth, PyData.shownKv_eq]
      exact ReprK.dict ho hx.1 hdat hsy out (ReprEntriesK.of_two es.toList _ _ (w1.more_le (fun _ q => List.mem_append_left _ q) (PyData.depthAll_keys_le _)) (w2.more_le (fun _ q => List.mem_append_right _ q) (PyData.depthAll_vals_le _)))
  | .dT _ _, _, _, _, _, _, e, _, _ => by unfold showD at e; cases e
  | .kdK _ _, _, _, _, _, _, e, _, _ => by unfold showD at e; cases e
  | .dX _ _ _, _, _, _, _, _, e, _, _ => by unfold showD at e; cases e
theorem rk_ofs (I : Inv X pins σ H s) (sub : ∀ b u, F b = some u → H b = some u) : ∀ (ds : List D) (vs : List V) (us : List Value) (ps : List PyData), IsVs X.K F ds vs → Vals vs us → showDs ds = some ps → goodPs ps = true → szPs ps ≤ sizeLine → Shws X s us ps
  | [], _, _, _, iv, rv, e, _, _ => by
    cases iv; cases rv; unfold showDs at e; cases e
    exact ⟨[], fun _ z => (nomatch z), by simp only [PyData.shownAll]; exact .nil⟩
  | d :: ds, _, _, _, iv, rv, e, g, z => by
    obtain ⟨p, r, rfl, e1, e2⟩ := showDs_cons e
    have g' : goodP p = true ∧ goodPs r = true := by simpa [goodPs] using g
    have z' : szP p + 2 + szPs r ≤ sizeLine := by simpa [szPs] using z
    cases iv with
    | cons i1 i2 =>
      cases rv with
      | cons r1 r2 =>
        obtain ⟨b1, hb1, k1⟩ := rk_of I sub d _ _ p i1 r1 e1 g'.1 (by omega)
        obtain ⟨b2, hb2, k2⟩ := rk_ofs I sub ds _ _ r i2 r2 e2 g'.2 (by omega)
        refine ⟨b1 ++ b2, fun b hm => ?_, ?_⟩
        · simp only [PyData.depthAll]
          rcases List.mem_append.mp hm with hm | hm
          · obtain ⟨d1, as1, q1, q2⟩ := hb1 b hm
            exact ⟨d1, as1, q1, Nat.le_trans q2 (Nat.le_max_left _ _)⟩
          · obtain ⟨d1, as1, q1, q2⟩ := hb2 b hm
            exact ⟨d1, as1, q1, Nat.le_trans q2 (Nat.le_max_right _ _)⟩
        · simp only [PyData.shownAll, PyData.depthAll]
          exact .cons ((k1.more fun _ q => List.mem_append_left _ q).level_le (Nat.le_max_left _ _)) (k2.more_le (fun _ q => List.mem_append_right _ q) (Nat.le_max_right _ _))
end
/-- x is the tuple or list d, or a list of the heap of such trees -/
def rReprM (K : PySem.W.Frag) : List V → Hp → VK → Prop := fun xs H Q => ∃ (x : V) (F : Hp) (ds : List D) (d : D) (p : PyData), xs = [x] ∧ (∀ b u, F b = some u → H b = some u) ∧ ((showD d = (showDs ds).map .tuple ∧ ∃ a vs, x = .ref a ∧ SqT K H a vs ∧ IsVs K F ds vs) ∨ ∃ a vs, x = .ref a ∧ H a = some (.lst vs) ∧ d = .lst ds ∧ IsVs K F ds vs) ∧ showD d = some p ∧ goodP p = true ∧ szP p ≤ 16000000 ∧ p.depth ≤ 60 ∧ Q (.str p.shown) H
theorem cr_reprM (hg : X.A.guards = some []) (hu : X.A.units + 64 < cLine) : CallR X (.builtin "repr") (rReprM X.K) := by
  intro pins s σ H xs us Q I r h
  obtain ⟨x, F, ds, d, p, rfl, sub, iv, e, g, z, hd, q⟩ := h
  obtain ⟨u, rfl, ru⟩ := r.one
  have big : (16000000 : Nat) ≤ sizeLine := by rw [sizeLine_eq]; omega
  have back : ∀ h' t tk, (∀ b o, s.heap.get? b = some o → h'.get? b = some o) → EP X pins σ Q (.str p.shown t) { s with heap := h', toks := tk } := fun h' t tk kp => ⟨.str p.shown, H, I.kept kp, ⟨_, rfl⟩, q⟩
  have len := Nat.le_trans (shown_le p g) (Nat.le_trans z big)
  rcases iv with ⟨es, a, vs, rfl, h1, h2⟩ | ⟨a, vs, rfl, h1, rfl, h2⟩
  · rw [es] at e
    obtain ⟨ps, e1, rfl⟩ := map_some e
    cases ru
    obtain ⟨its, r, ⟨o, ho, hc, n, hd2⟩, _⟩ := I.tuple h1
    obtain ⟨as, ra, _⟩ := reads_ofs I sub ds _ its ps h2 r e1
    obtain ⟨bs, hb, hk⟩ := rk_ofs I sub ds _ its ps h2 r e1 (by simpa [goodP] using g) (by simp only [szP] at z; omega)
    have rr : Reads s.heap (.ref _) (.tuple ps) _ := .tuple ho hc hd2 ra
    have out := not_mem_of_deeper rr (by simp only [PyData.depth]; omega) hb
    simp only [PyData.depth] at hd
    refine call_repr_slot (T := "tuple") (by omega) ⟨o, ho, hc⟩ PySem.F.slot_tuple_repr ?_
    exact call_tuple_reprK ho hc hd2 out hk (g := []) hg (fun b _ => Clear.nil b) (by show X.A.units + 1 + _ < cLine; omega) (fun _ _ y => y) (fun h' t tk kp => ⟨_, _, rfl, by simpa only [PyData.shown] using back h' t tk kp⟩) (by simpa only [PyData.shown] using len)
  · unfold showD at e
    obtain ⟨ps, e1, rfl⟩ := map_some e
    cases ru
    obtain ⟨its, r, ⟨o, n, ho, hc, _, hd2⟩, _⟩ := I.list (SqL.of (K := X.K) h1)
    obtain ⟨as, ra, _⟩ := reads_ofs I sub ds _ its ps h2 r e1
    obtain ⟨bs, hb, hk⟩ := rk_ofs I sub ds _ its ps h2 r e1 (by simpa [goodP] using g) (by simp only [szP] at z; omega)
    have rr : Reads s.heap (.ref _) (.list ps) _ := .list ho hc hd2 ra
    have out := not_mem_of_deeper rr (by simp only [PyData.depth]; omega) hb
    simp only [PyData.depth] at hd
    refine call_repr_slot (T := "list") (by omega) ⟨o, ho, hc⟩ PySem.F.slot_list_repr.toG ?_
    cases its with
    | nil =>
      cases ra
      have b0 := back s.heap s.toks (s.toks + 1) fun _ _ y => y
      simp only [PyData.shown, PyData.shownAll, listText_nil] at b0
      exact call_list_repr_empty ⟨o, ho, hc⟩ ho hd2 ⟨_, _, rfl, b0⟩
    | cons x l =>
      exact call_list_reprK ho hc hd2 out (by simpa using hk.length_eq) (fun i y e => hk.item i y (by simpa using e)) (g := []) hg (fun b _ => Clear.nil b) (by show X.A.units + 1 + _ < cLine; omega) (fun _ _ y => y) (fun h' t tk kp => ⟨_, _, rfl, by simpa only [PyData.shown] using back h' t tk kp⟩) (by simpa only [PyData.shown] using len)
end
/-- what is shown: the tree, or the list of the store -/
def frzM : Option M → D → D
  | some (.lst ds), _ => .lst ds
  | _, d => d
def frz (S : Store) : D → D
  | .ref a => frzM (S a) (.ref a)
  | d => d
/-- a tree that repr shows, at most n signs, m deep -/
structure RepW (n m : Nat) (d : D) : Prop where
  ex : ∃ p, showD d = some p ∧ goodP p = true ∧ szP p ≤ n ∧ p.depth ≤ m
def shownW (d : D) : Str := match showD d with
  | some p => p.shown
  | none => ""
section
variable {X : Cx} {W : WX} {e : Expr} {te : DTE} {p pos : Pos}
end
theorem RepW.mono {n m n' m' : Nat} {d : D} (h : RepW n m d) (hn : n ≤ n') (hm : m ≤ m') : RepW n' m' d := let ⟨p, a, b, c, e⟩ := h.ex; ⟨p, a, b, Nat.le_trans c hn, Nat.le_trans e hm⟩
theorem RepL.repW {n m : Nat} {d : D} (h : RepL n m d) : RepW n m d := let ⟨p, a, b, c, e, _⟩ := h.ex; ⟨p, a, b, c, e⟩
theorem Rep.repW {n m : Nat} {d : D} (h : Rep n m d) : RepW n m d := let ⟨p, a, b, c, e, _⟩ := h.ex; ⟨p, a, b, c, e⟩
theorem repsW {n m : Nat} : ∀ {ds : List D}, (∀ d ∈ ds, RepW n m d) → ∃ ps, showDs ds = some ps ∧ goodPs ps = true ∧ szPs ps ≤ ds.length * (n + 2) ∧ PyData.depthAll ps ≤ m
  | [], _ => ⟨[], rfl, rfl, by simp [szPs], by simp [PyData.depthAll]⟩
  | d :: ds, h => by
    obtain ⟨ps, a1, a2, a3, a4⟩ := repsW (ds := ds) fun x hx => h x (List.mem_cons_of_mem _ hx)
    obtain ⟨p, b1, b2, b3, b4⟩ := (h d List.mem_cons_self).ex
    refine ⟨p :: ps, ?_, ?_, ?_, ?_⟩
    · unfold showDs; rw [b1, a1]
    · simp [goodPs, a2, b2]
    · simp only [szPs, List.length_cons, Nat.add_mul, Nat.one_mul]; omega
    · simp [PyData.depthAll]; omega
theorem repW_tup {n m : Nat} {ds : List D} (h : ∀ d ∈ ds, RepW n m d) : RepW (ds.length * (n + 2) + 3) (m + 1) (.tup ds) := by
  obtain ⟨ps, a1, a2, a3, a4⟩ := repsW h
  exact ⟨.tuple ps, by unfold showD; rw [a1]; rfl, by simp [goodP, a2], by simp only [szP]; omega, by simp only [PyData.depth]; omega⟩
theorem repW_lst {n m : Nat} {ds : List D} (h : ∀ d ∈ ds, RepW n m d) : RepW (ds.length * (n + 2) + 3) (m + 1) (.lst ds) := by
  obtain ⟨ps, a1, a2, a3, a4⟩ := repsW h
  exact ⟨.list ps, by unfold showD; rw [a1]; rfl, by simp [goodP, a2], by simp only [szP]; omega, by simp only [PyData.depth]; omega⟩
/-- a written tree, checked -/
def repB (n m : Nat) (d : D) : Bool := match showD d with
  | some p => goodP p && decide (szP p ≤ n) && decide (p.depth ≤ m)
  | none => false
theorem repW_of {n m : Nat} {d : D} (h : repB n m d = true) : RepW n m d := by
  unfold repB at h
  cases e : showD d with
  | none => rw [e] at h; cases h
  | some p =>
    rw [e] at h
    simp only [Bool.and_eq_true, decide_eq_true_eq] at h
    exact ⟨p, e, h.1.1, h.1.2, h.2⟩
end DL

set_option maxRecDepth 100000
set_option maxHeartbeats 2000000
/-! DLB5: tuple * n; facts about slices. -/
namespace DL
open PySem PySem.Spec L2
def rdRepT : DR2 := fun x y S Q => match x, y with
  | .tup ds, .int k => (2 ≤ k ∧ k ≤ 1000) ∧ ds.length ≤ 1000 ∧ ds ≠ [] ∧ Q (.tup (List.replicate k.toNat ds).flatten) S
  | _, _ => False
theorem lift_repT {K : PySem.W.Frag} : Lift2 K (rRepT K) rdRepT := by
  intro Z H S F x y v w Q P R iv iw q k
  unfold rdRepT at q
  split at q
  · rename_i ds j
    obtain ⟨⟨z0, z1⟩, z2, ne, q⟩ := q
    cases iw
    cases iv with
    | tup h1 h2 =>
      refine ⟨_, j, _, rfl, rfl, R.sqt (SqT.of h1), fun e => ne ?_, by omega, by omega, by rw [← h2.length]; exact z2, fun p hp => ?_⟩
      · exact (nil_vs h2).mp e
      · obtain ⟨R2, s2, k2⟩ := R.laid (o := .tup _) hp
        exact k _ _ ⟨.tup _, S, _, ⟨s2, R2, k2⟩, .tup upd_same ((isVs_rep h2 _).up s2), q⟩
  · exact q.elim
theorem s_repT {S : Store} {Q : DQ} {ds : List D} {k : Int} (h0 : 2 ≤ k ∧ k ≤ 1000) (h1 : ds.length ≤ 1000) (ne : ds ≠ []) (q : Q (.tup (List.replicate k.toNat ds).flatten) S) : rdRepT (.tup ds) (.int k) S Q := ⟨h0, h1, ne, q⟩
theorem cut_map {α β : Type} (f : α → β) (l : List α) (lo hi : Option Int) : cutD (l.map f) lo hi = (cutD l lo hi).map f := by
  unfold cutD
  rw [List.length_map, List.map_take, List.map_drop]
theorem cut_mem {α : Type} {l : List α} {lo hi : Option Int} {x : α} (h : x ∈ cutD l lo hi) : x ∈ l := List.mem_of_mem_drop (List.mem_of_mem_take h)
theorem cut_len {α : Type} (l : List α) (lo hi : Option Int) : (cutD l lo hi).length ≤ l.length := by
  unfold cutD
  rw [List.length_take, List.length_drop]
  omega
theorem rep_mem {α : Type} {l : List α} {n : Nat} {x : α} (h : x ∈ (List.replicate n l).flatten) : x ∈ l := by
  obtain ⟨m, h1, h2⟩ := List.mem_flatten.mp h
  rw [List.eq_of_mem_replicate h1] at h2
  exact h2
theorem rep_len {α : Type} (l : List α) (n : Nat) : (List.replicate n l).flatten.length = n * l.length := by
  induction n with
  | zero => simp
  | succ n ih => rw [List.replicate_succ, List.flatten_cons, List.length_append, ih, Nat.succ_mul]; omega
end DL

set_option maxRecDepth 100000
set_option maxHeartbeats 2000000
/-! DLB6: isinstance of a caught exception of an own class. -/
namespace DL
open PySem PySem.Spec L2
/-- an own exception class, for isinstance -/
structure IsX (K : PySem.W.Frag) (C : Addr) : Prop where
  cl : PySem.W.isClsIn K C = true
  xf : XfC K C
  ha : PySem.W.findIn K (.ref C) "__class__" = some (some (.builtin "object.__class__"))
  hn : PySem.W.specialIn K (.builtin "object.__class__") "__get__" = some (some (.builtin "getset_descriptor.__get__"))
  htk : PySem.W.takesIn K (.builtin "object.__class__") = some true
  hm : PySem.W.mroIn K C (.type "object") = some true
section
variable {X : Cx} {a C C2 : Addr} {oe : Obj} {cls : Value} {d : Option Addr} {pn : List (Addr × Obj)} {b : Bool}
end
end DL
namespace DL
open PySem PySem.Spec L2
theorem s_ixR {S : Store} {Q : DQ} {a : Addr} {ds : List D} {k : Int} {d : D} (e : S a = some (.lst ds)) (h : L2.atI ds k = some d) (q : Q d S) : rdIx (.ref a) (.int k) S Q := ⟨k, rfl, ds, d, e, h, q⟩
theorem Ext.deck {S S' : Store} {a L : Addr} {k : Nat} (e : Ext S S') (D : Deck S a L k) : Deck S' a L k := by
  obtain ⟨⟨ns, t, d, h1, h2, h3⟩, n⟩ := D
  exact ⟨⟨ns, t, d, e _ _ h1, e _ _ h2, h3⟩, n⟩
end DL

set_option maxRecDepth 100000
set_option maxHeartbeats 2000000
/-! DLB7: walking known tuples; x in a tuple of data. -/
namespace DL
open PySem PySem.Spec L2
section
variable {X : Cx} {W : WX} {tg e : Expr} {te : DTE}
def dItTK (te : DTE) : DTI := fun ρ S Q E => te ρ S (fun d S1 => ∃ ds, (d = .tup ds ∨ d = .kup ds ∨ d = .ctp ds) ∧ Q ds S1) E
theorem di_tupK (h : DE X W e te) : DI X W tg e (dItTK te) := ⟨pi_imp (pi_tup h.pe) fun σ H P ⟨ρ, S, F, Z, Q, E, R, V, q, k, x⟩ => ⟨ρ, S, F, Z, _, E, R, V, q, fun v H1 ⟨d, S1, F1, A1, i1, ds, hd, q1⟩ => by
  have go : ∀ a vs, v = .ref a → SqT X.K F1 a vs → IsVs X.K F1 ds vs → ∃ a, v = .ref a ∧ (∃ xs, SqT X.K H1 a xs) ∧ P (Itt X.K a) H1 := fun a vs ev h1 h2 => by
    refine ⟨a, ev, ⟨_, A1.rel.sqt h1⟩, k _ _ ds S1 F1 A1 ⟨fun H S F' Z s R i hi => ?_, fun H S F' Z s R => ?_, fun H S F' Z s R i x H' hi hy => ?_⟩ q1⟩
    · exact ⟨_, _, R.sqt (Same.sqt s h1), List.getElem?_eq_getElem (by rw [← h2.length]; exact hi)⟩
    · exact ⟨_, R.sqt (Same.sqt s h1), by rw [h2.length]; exact Nat.le_refl _⟩
    · obtain ⟨rfl, hy⟩ := hy
      have e := hy _ (R.sqt (Same.sqt s h1))
      obtain ⟨d, hd, iv⟩ := h2.getV e
      exact ⟨F', d, .refl R, hd, iv.up s⟩
  rcases hd with rfl | rfl | rfl
  · cases i1 with
    | tup h1 h2 => exact go _ _ rfl (SqT.of h1) h2
  · cases i1 with
    | kup h1 h0 h2 => exact go _ _ rfl (.inl (.inr ⟨_, h1⟩)) h2
  · cases i1 with
    | ctp h1 h2 => exact go _ _ rfl h1 h2, x⟩⟩
theorem s_itTK {ρ : Sl} {S : Store} {E : DX} {QI : List D → Store → Prop} (h : te ρ S (fun d S1 => ∃ ds, (d = .tup ds ∨ d = .kup ds ∨ d = .ctp ds) ∧ QI ds S1) E) : dItTK te ρ S QI E := h
end
/-! x in a tuple, by data -/
section
variable {X : Cx}
end
end DL
namespace DL
open PySem L2
end DL
namespace DL
open PySem PySem.Spec L2
end DL

set_option maxRecDepth 100000
set_option maxHeartbeats 2000000
/-! DLB8: the steps of statements with the ends laid open (terms stay small), joins. -/
namespace DL
open PySem PySem.Spec L2
section
variable {nx bk ct : Sl → Store → Prop} {rt : DQ} {ex : Sl → DX} {ρ : Sl} {S : Store} {Q : DQ} {E : DX} {t u : DTS} {te tv ty ti0 : DTE} {ta : DTA} {c : DTT} {i j : Nat} {d : D} {g : Tgt} {tb : DTS}
theorem e_seq (h : t ⟨u ⟨nx, rt, bk, ct, ex⟩, rt, bk, ct, ex⟩ ρ S) : dSeq t u ⟨nx, rt, bk, ct, ex⟩ ρ S := h
theorem e_ifs (h : c ρ S (fun b S1 => if b = true then t ⟨nx, rt, bk, ct, ex⟩ ρ S1 else u ⟨nx, rt, bk, ct, ex⟩ ρ S1) (ex ρ)) : dIfS c t u ⟨nx, rt, bk, ct, ex⟩ ρ S := h
theorem e_ret (h : te ρ S rt (ex ρ)) : dRet te ⟨nx, rt, bk, ct, ex⟩ ρ S := h
theorem e_next (h : nx ρ S) : dNext ⟨nx, rt, bk, ct, ex⟩ ρ S := h
theorem e_drop (h : te ρ S (fun _ S1 => nx ρ S1) (ex ρ)) : dDrop te ⟨nx, rt, bk, ct, ex⟩ ρ S := h
theorem e_asg (h : te ρ S (fun d S1 => ∃ ρ1, bindT g d ρ = some ρ1 ∧ nx ρ1 S1) (ex ρ)) : dAsg te g ⟨nx, rt, bk, ct, ex⟩ ρ S := h
theorem e_par (h : ta ρ S (fun ds S1 => ∃ d1 d2, ds = [d1, d2] ∧ nx ((ρ.set i (some d1)).set j (some d2)) S1) (ex ρ)) : dPar i j ta ⟨nx, rt, bk, ct, ex⟩ ρ S := h
theorem e_for {ti : DTI} (h : ti ρ S (fun items S1 => dForGo g tb items ⟨nx, rt, bk, ct, ex⟩ ρ S1) (ex ρ)) : dFor ti g tb ⟨nx, rt, bk, ct, ex⟩ ρ S := h
theorem e_forCons {r : List D} (h : ∃ ρ1, bindT g d ρ = some ρ1 ∧ tb ⟨fun ρ2 S2 => dForGo g tb r ⟨nx, rt, bk, ct, ex⟩ ρ2 S2, rt, nx, fun ρ2 S2 => dForGo g tb r ⟨nx, rt, bk, ct, ex⟩ ρ2 S2, ex⟩ ρ1 S) : dForGo g tb (d :: r) ⟨nx, rt, bk, ct, ex⟩ ρ S := h
theorem e_forNil (h : nx ρ S) : dForGo g tb [] ⟨nx, rt, bk, ct, ex⟩ ρ S := h
theorem e_dp {td : DTE} (h : tv ρ S (fun d S1 => td ρ S1 (fun x S2 => ty ρ S2 (fun y S3 => ∃ S4, dput S3 x y d = some S4 ∧ nx ρ S4) (ex ρ)) (ex ρ)) (ex ρ)) : dDP td ty tv ⟨nx, rt, bk, ct, ex⟩ ρ S := h
theorem e_raise {C : Addr} {wd : Str} (h : te ρ S (fun d S1 => ex ρ C [wd] [d] S1) (ex ρ)) : dRaise C wd te ⟨nx, rt, bk, ct, ex⟩ ρ S := h
theorem e_try {K : PySem.W.Frag} {l : List DClause} (h : tb ⟨nx, rt, bk, ct, dHand K ⟨nx, rt, bk, ct, ex⟩ l⟩ ρ S) : dTry K tb l ⟨nx, rt, bk, ct, ex⟩ ρ S := h
theorem e_fldPut {C : Addr} {f : Str} (h : tv ρ S (fun d S1 => te ρ S1 (fun x S2 => ∃ a ns ds, x = .ref a ∧ S2 a = some (.ins C ns ds) ∧ ns.length < 1000 ∧ nx ρ (put S2 a (.ins C ((putFD f d (ns.zip ds)).map (·.1)) ((putFD f d (ns.zip ds)).map (·.2))))) (ex ρ)) (ex ρ)) : dFldPut C f te tv ⟨nx, rt, bk, ct, ex⟩ ρ S := h
theorem e_aft (h : t ⟨fun ρ S => nx (ρ.set i none) S, rt, fun ρ S => bk (ρ.set i none) S, fun ρ S => ct (ρ.set i none) S, fun _ _ _ _ _ => False⟩ ρ S) : t (dAfter ⟨nx, rt, bk, ct, ex⟩ (some i)) ρ S := h
/-- both ways of an if meet again -/
theorem e_ifK (I : Sl → Store → Prop) (h2 : ∀ ρ' S', I ρ' S' → nx ρ' S')
    (h1 : ∀ J : Sl → Store → Prop, (∀ ρ' S', I ρ' S' → J ρ' S') → c ρ S (fun b S1 => if b = true then t ⟨J, rt, bk, ct, ex⟩ ρ S1 else u ⟨J, rt, bk, ct, ex⟩ ρ S1) (ex ρ)) : dIfS c t u ⟨nx, rt, bk, ct, ex⟩ ρ S := h1 nx h2
/-- a loop by what holds between two turns; the rest of the loop is a letter -/
theorem e_forK (Inv : List D → Sl → Store → Prop) (h0 : ∀ ρ S, Inv [] ρ S → nx ρ S)
    (h1 : ∀ (J : Sl → Store → Prop) d r, (∀ ρ2 S2, Inv r ρ2 S2 → J ρ2 S2) → ∀ ρ S, Inv (d :: r) ρ S → ∃ ρ1, bindT g d ρ = some ρ1 ∧ tb ⟨J, rt, nx, J, ex⟩ ρ1 S) :
    ∀ items ρ S, Inv items ρ S → dForGo g tb items ⟨nx, rt, bk, ct, ex⟩ ρ S
  | [], ρ, S, h => h0 ρ S h
  | d :: r, ρ, S, h => h1 (fun ρ2 S2 => dForGo g tb r ⟨nx, rt, bk, ct, ex⟩ ρ2 S2) d r (fun ρ2 S2 q => e_forK Inv h0 h1 r ρ2 S2 q) ρ S h
/-- a comprehension, the rest a letter -/
theorem e_lcK {tt : DTT} {QA : List D → Store → Prop} (Inv : List D → List D → Store → Prop) (h0 : ∀ acc S, Inv [] acc S → QA acc S)
    (h1 : ∀ (J : List D → Store → Prop) d r, (∀ acc S2, Inv r acc S2 → J acc S2) → ∀ acc S, Inv (d :: r) acc S → ∃ ρ1, bindT g d ρ = some ρ1 ∧ tt ρ1 S (fun b S1 => if b = true then te ρ1 S1 (fun y S2 => J (acc ++ [y]) S2) (fun _ _ _ _ => False) else J acc S1) fun _ _ _ _ => False) :
    ∀ items acc S, Inv items acc S → dLcGo g tt te ρ items acc S QA
  | [], acc, S, h => h0 acc S h
  | d :: r, acc, S, h => h1 (fun acc S2 => dLcGo g tt te ρ r acc S2 QA) d r (fun acc S2 q => e_lcK Inv h0 h1 r acc S2 q) acc S h
end
end DL
namespace DL
open PySem PySem.Spec L2
section
variable {ρ : Sl} {S : Store} {Q : DQ} {E : DX} {i : Nat} {d x y : D} {g : Tgt}
/-! looks at a goal's head -/
theorem g_nil {neg : Bool} (h : rdNil neg x y S Q) : rdNil neg x y S Q := h
theorem g_rd1 {α : Type} {f : Store → D → Option α} {g : α → D} (h : rd1 f g [x] S Q) : rd1 f g [x] S Q := h
theorem g_ite {b : Bool} {A B : Prop} (h : if b = true then A else B) : if b = true then A else B := h
theorem g_bind {P : Sl → Prop} (h : ∃ ρ2, bindT g d ρ = some ρ2 ∧ P ρ2) : ∃ ρ2, bindT g d ρ = some ρ2 ∧ P ρ2 := h
end
end DL
namespace DL
open PySem PySem.Spec L2
end DL

set_option maxRecDepth 100000
set_option maxHeartbeats 2000000
/-! DTS7: sorted(set(x)) of tuples of texts, over trees. -/
namespace DL
open PySem PySem.Spec L2 DTS
/-- a row: a tuple of texts, of either kind -/
inductive RowIs : D → List Str → Prop
  | tup (k : List Str) : RowIs (.tup (k.map .str)) k
  | kup (k : List Str) : RowIs (.kup (k.map .str)) k
section
variable {K : PySem.W.Frag} {Z : Addr → Prop} {H F : Hp} {S : Store}
end
section
variable {X : Cx} {W : WX} {e : Expr} {te : DTE} {p p2 q pos : Pos}
end
end DL

set_option maxRecDepth 100000
set_option maxHeartbeats 2000000
/-! DTS8: a set comprehension of texts. -/
namespace DL
open PySem PySem.Spec L2
section
variable {P : Program} {w : World} {A : Around} {E : Value → Shared → Prop} {s : Shared}
end
section
variable {X : Cx}
end
end DL

set_option maxRecDepth 100000
set_option maxHeartbeats 2000000
/-! DTS9: a set comprehension of texts, its loop. -/
namespace DL
open PySem PySem.Spec L2
section
variable {X : Cx}
set_option maxHeartbeats 8000000 in
end
end DL

set_option maxRecDepth 100000
set_option maxHeartbeats 2000000
/-! DTS10: sorted({text for x in xs}). -/
namespace DL
open PySem PySem.Spec L2
section
variable {X : Cx}
end
end DL

set_option maxRecDepth 100000
set_option maxHeartbeats 2000000
/-! DTS11: sorted({text for x in xs}), over trees. -/
namespace DL
open PySem PySem.Spec L2
section
variable {K : PySem.W.Frag} {W : WX} {ti : DTI} {g : Tgt} {tt : DTT} {te : DTE} {vs : List Nat}
end
section
variable {X : Cx} {W : WX} {elt tg iter : Expr} {ifs : List Expr} {scope : Scope} {own : List (Str × Nat)} {p pos spos : Pos} {ti : DTI} {g : Tgt} {tt : DTT} {te : DTE}
end
end DL

set_option maxRecDepth 100000
set_option maxHeartbeats 2000000
/-! DTS12: name *= e, ints. -/
namespace DL
open PySem PySem.Spec L2
section
variable {X : Cx} {W : WX} {e : Expr} {te : DTE} {pos : Pos}
end
end DL

set_option maxRecDepth 100000
set_option maxHeartbeats 2000000
/-! DTS13: a op b and ~a by own methods of a class (they may raise); len(set(texts)); text.split(text); a slice of a text. -/
namespace DL
open PySem PySem.Spec L2
/-- the own method of an operator, by its name -/
structure OwnOp (K : PySem.W.Frag) (C f : Addr) (name : Str) : Prop where
  at_ : PySem.W.findIn K (.ref C) name = some (some (.ref f))
  fn : PySem.W.isFn K (.ref f) = true
section
variable {X : Cx} {W : WX} {k : Nat} {C f : Addr} {fd : FuncData} {ps : List Str} {dsp : DSp} {a b : Expr} {pos : Pos} {ta tb : TE} {da db : DTE}
/-! ~a -/
end
/-! ### len(set(x)) of texts -/
section
variable {X : Cx} {W : WX} {e : Expr} {ta : TE} {te : DTE} {p p2 q pos : Pos}
/-! ### a.split(b) -/
/-! ### a slice of a text -/
end
/-! ### steps -/
section
variable {ρ : Sl} {S : Store} {Q : DQ} {E : DX} {da db te to : DTE} {dsp : DSp} {C : Addr}
theorem s_meth {m : Str} {dds : List D} {t : DTA} (h : da ρ S (fun d S1 => IsObj C m d S1 ∧ t ρ S1 (fun xs S2 => dsp (d :: (xs ++ dds)) S2 Q E) E) E) : dMeth C m dsp dds da t ρ S Q E := h
end
end DL

set_option maxRecDepth 100000
set_option maxHeartbeats 2000000
/-! DLM: the deck of a law whose keys are cells, mixed, draws (written by wip/lib/mkdlm.py from DLD, DLW, DLU). -/
namespace DLM
open PySem PySem.Spec L2 DL
/-! ### the deck of a law: a dict with the keys cells, mixed, draws -/
abbrev deckKs : List Key := [.inr "cells", .inr "mixed", .inr "draws"]
section
variable {x y z d : D}
theorem deck_draws : valD [((Sum.inr "cells" : Key), x), (Sum.inr "mixed", y), (Sum.inr "draws", z)] (Sum.inr "draws") = some z := by with_unfolding_all rfl
theorem deck_put : putD [((Sum.inr "cells" : Key), x), (Sum.inr "mixed", y), (Sum.inr "draws", z)] (Sum.inr "draws") d = [((Sum.inr "cells" : Key), x), (Sum.inr "mixed", y), (Sum.inr "draws", d)] := by with_unfolding_all rfl
theorem deck_merge : mergeD [] [((Sum.inr "cells" : Key), x), (Sum.inr "mixed", y), (Sum.inr "draws", z)] = [((Sum.inr "cells" : Key), x), (Sum.inr "mixed", y), (Sum.inr "draws", z)] := by with_unfolding_all rfl
theorem dget_draws {S : Store} {a : Addr} (h : S a = some (.dK deckKs [x, y, z])) : dget S (.ref a) (.str "draws") = some z := by
  show (dkM (S a)).bind _ = _
  rw [h]
  exact deck_draws
theorem dput_draws {S : Store} {a : Addr} (h : S a = some (.dK deckKs [x, y, z])) : dput S (.ref a) (.str "draws") d = some (put S a (.dK deckKs [x, y, d])) := by
  unfold dput
  simp only [h, toKey, Option.bind_some]
  have e : deckKs.length < sizeLine := by rw [sizeLine_eq]; decide
  rw [if_pos e]
  have e2 : deckKs.zip [x, y, z] = [((Sum.inr "cells" : Key), x), (Sum.inr "mixed", y), (Sum.inr "draws", z)] := rfl
  rw [e2, deck_put]
  rfl
end
/-- the deck at a, its list at L: k draws may still come -/
structure Deck (S : Store) (a L : Addr) (k : Nat) : Prop where
  ex : ∃ (ns : List Int) (t d : Int), S a = some (.dK deckKs [.ref L, .int t, .int d]) ∧ S L = some (.lst (ns.map .int)) ∧ ns.length ≤ 63 ∧ 0 ≤ t ∧ t < 2147483648 ∧ 0 ≤ d ∧ d + k ≤ 2 ^ 40
  ne : L ≠ a
theorem Deck.mono {S : Store} {a L : Addr} {j k : Nat} (D : Deck S a L k) (h : j ≤ k) : Deck S a L j := by
  obtain ⟨⟨ns, t, d, h1, h2, h3, h4, h5, h6, h7⟩, n⟩ := D
  exact ⟨⟨ns, t, d, h1, h2, h3, h4, h5, h6, by omega⟩, n⟩
/-- a place of the store that is no part of the deck -/
theorem Deck.put_off {S : Store} {a L b : Addr} {k : Nat} {m : M} (D : Deck S a L k) (h1 : b ≠ a) (h2 : b ≠ L) : Deck (put S b m) a L k := by
  obtain ⟨⟨ns, t, d, g1, g2, h⟩, n⟩ := D
  exact ⟨⟨ns, t, d, by rw [put_ne (Ne.symm h1)]; exact g1, by rw [put_ne (Ne.symm h2)]; exact g2, h⟩, n⟩
theorem Deck.a_some {S : Store} {a L : Addr} {k : Nat} (D : Deck S a L k) {b : Addr} (h : S b = none) : b ≠ a ∧ b ≠ L := by
  obtain ⟨⟨ns, t, d, g1, g2, _⟩, _⟩ := D
  exact ⟨fun e => (by rw [e, g1] at h; cases h), fun e => (by rw [e, g2] at h; cases h)⟩
/-- a draw -/
def dspDraw : DSp := fun ds S Q _ => ∃ a L k m, ds = [.ref a, .int m] ∧ Deck S a L (k + 1) ∧ 0 < m ∧ m < 1073741824 ∧ ∀ (i : Int) S', 0 ≤ i → i < m → Deck S' a L k → Off2 S S' a L → Q (.int i) S'
/-- one of what is laid out -/
def dspPick : DSp := fun ds S Q _ => ∃ a L k x es, ds = [.ref a, x] ∧ (x = .tup es ∨ x = .lst es) ∧ Deck S a L (k + 1) ∧ 0 < es.length ∧ es.length < 1000000 ∧ ∀ (e : D) S', e ∈ es → Deck S' a L k → Off2 S S' a L → Q e S'
/-- the deck made -/
def dspDeck : DSp := fun ds S Q _ => ∃ ns : List Int, ds = [.scr (ns.map .int)] ∧ ns.length ≤ 63 ∧ (∀ b, S b = none) ∧ ∀ a L S', Deck S' a L 1000000000 → Off2 S S' a L → Q (.ref a) S'
theorem Deck.ext {S S' : Store} {a L : Addr} {k : Nat} (D : Deck S a L k) (h : Ext S S') : Deck S' a L k := by
  obtain ⟨⟨ns, t, d, h1, h2, h3⟩, n⟩ := D
  exact ⟨⟨ns, t, d, h _ _ h1, h _ _ h2, h3⟩, n⟩
end DLM

set_option maxRecDepth 100000
set_option maxHeartbeats 2000000
/-! DTP: plain facts of rows: order, all rows of a width, columns. -/
namespace DL
open PySem PySem.Spec L2 DTS
theorem ltTS_irrefl : ∀ x : List Str, ltTS x x = false
  | [] => rfl
  | x :: xs => by
    unfold ltTS
    rw [if_pos rfl]
    exact ltTS_irrefl xs
theorem ltTS_ne {x y : List Str} (h : ltTS x y = true) : x ≠ y := fun e => by
  rw [e, ltTS_irrefl] at h
  cases h
theorem ltTS_le {x y : List Str} (h : ltTS x y = true) : leTS x y = true := by
  rcases leTS_total.total x y with g | g
  · exact g
  · unfold leTS at g
    rw [h] at g
    cases g
theorem ltTS_app : ∀ {x y a b : List Str}, x.length = y.length → ltTS (x ++ a) (y ++ b) = if x = y then ltTS a b else ltTS x y
  | [], [], a, b, _ => by simp
  | [], _ :: _, _, _, h => by cases h
  | _ :: _, [], _, _, h => by cases h
  | x :: xs, y :: ys, a, b, h => by
    have ih := ltTS_app (x := xs) (y := ys) (a := a) (b := b) (by simpa using h)
    show (if x = y then ltTS (xs ++ a) (ys ++ b) else ltS x y) = _
    by_cases e : x = y
    · subst e
      rw [if_pos rfl, ih]
      by_cases g : xs = ys
      · subst g; simp
      · have : ¬ (x :: xs = x :: ys) := fun z => g (by injection z)
        rw [if_neg g, if_neg this]
        show _ = (if x = x then ltTS xs ys else ltS x x)
        rw [if_pos rfl]
    · have : ¬ (x :: xs = y :: ys) := fun z => e (by injection z)
      rw [if_neg e, if_neg this]
      show _ = (if x = y then ltTS xs ys else ltS x y)
      rw [if_neg e]
/-- ascending, each once -/
def Asc (l : List (List Str)) : Prop := l.Pairwise fun a b => ltTS a b = true
theorem Asc.pw {l : List (List Str)} (h : Asc l) : l.Pairwise fun a b => leTS a b = true := h.imp ltTS_le
theorem Asc.nodup {l : List (List Str)} (h : Asc l) : l.Nodup := h.imp ltTS_ne
theorem Asc.filter {l : List (List Str)} (h : Asc l) (p : List Str → Bool) : Asc (l.filter p) := List.Pairwise.filter p h
/-- all rows of a width -/
def rowsS (dom : List Str) : Nat → List (List Str)
  | 0 => [[]]
  | n + 1 => (rowsS dom n).flatMap fun r => dom.map fun v => r ++ [v]
theorem rowsS_len (dom : List Str) : ∀ n, (rowsS dom n).length = dom.length ^ n
  | 0 => rfl
  | n + 1 => by
    show ((rowsS dom n).flatMap _).length = _
    have h : ∀ l : List (List Str), (l.flatMap fun r => dom.map fun v => r ++ [v]).length = l.length * dom.length := fun l => by
      induction l with
      | nil => simp
      | cons x l ih => rw [List.flatMap_cons, List.length_append, ih, List.length_map, List.length_cons, Nat.add_mul, Nat.one_mul, Nat.add_comm]
    rw [h, rowsS_len dom n, Nat.pow_succ]
theorem rowsS_small {dom : List Str} (h : dom.length ≤ 3) {n : Nat} (hn : n ≤ 4) : (rowsS dom n).length ≤ 81 := by
  rw [rowsS_len]
  exact Nat.le_trans (Nat.pow_le_pow_left h n) (Nat.le_trans (Nat.pow_le_pow_right (by omega) hn) (by decide))
theorem rowsS_each {dom : List Str} : ∀ {n : Nat} {r : List Str}, r ∈ rowsS dom n → r.length = n ∧ ∀ x ∈ r, x ∈ dom
  | 0, r, h => by
    have e : r = [] := by simpa [rowsS] using h
    subst e
    exact ⟨rfl, fun x hx => (by cases hx)⟩
  | n + 1, r, h => by
    obtain ⟨r0, h0, h⟩ := List.mem_flatMap.mp h
    obtain ⟨v, hv, rfl⟩ := List.mem_map.mp h
    obtain ⟨a, b⟩ := rowsS_each h0
    refine ⟨by rw [List.length_append, a]; rfl, fun x hx => ?_⟩
    rcases List.mem_append.mp hx with hx | hx
    · exact b x hx
    · rw [List.mem_singleton.mp hx]; exact hv
theorem rowsS_has {dom : List Str} : ∀ {n : Nat} {r : List Str}, r.length = n → (∀ x ∈ r, x ∈ dom) → r ∈ rowsS dom n
  | 0, r, h, _ => by
    have e : r = [] := List.eq_nil_of_length_eq_zero h
    subst e
    exact List.mem_singleton.mpr rfl
  | n + 1, r, h, g => by
    have ne : r ≠ [] := fun e => by rw [e] at h; cases h
    have e := List.dropLast_concat_getLast ne
    refine List.mem_flatMap.mpr ⟨r.dropLast, rowsS_has (by rw [List.length_dropLast]; omega) fun x hx => g x (List.dropLast_subset _ hx), List.mem_map.mpr ⟨r.getLast ne, g _ (List.getLast_mem ne), e⟩⟩
theorem rowsS_mem {dom : List Str} {n : Nat} {r : List Str} : r ∈ rowsS dom n ↔ r.length = n ∧ ∀ x ∈ r, x ∈ dom := ⟨rowsS_each, fun h => rowsS_has h.1 h.2⟩
/-- rows followed by rows -/
def timesS (a b : List (List Str)) : List (List Str) := a.flatMap fun r => b.map fun o => r ++ o
theorem timesS_asc {a b : List (List Str)} {n : Nat} (ha : Asc a) (hb : Asc b) (ln : ∀ r ∈ a, r.length = n) : Asc (timesS a b) := by
  unfold Asc timesS
  rw [List.pairwise_flatMap]
  constructor
  · intro r hr
    rw [List.pairwise_map]
    refine hb.imp fun {x y} h => ?_
    rw [ltTS_app rfl, if_pos rfl]
    exact h
  · refine List.Pairwise.imp_of_mem (fun {r r'} hr hr' h x hx y hy => ?_) ha
    obtain ⟨o, _, rfl⟩ := List.mem_map.mp hx
    obtain ⟨o', _, rfl⟩ := List.mem_map.mp hy
    rw [ltTS_app ((ln r hr).trans (ln r' hr').symm), if_neg (ltTS_ne h)]
    exact h
theorem rowsS_times (dom : List Str) (n : Nat) : rowsS dom (n + 1) = timesS (rowsS dom n) (dom.map fun v => [v]) := by
  show (rowsS dom n).flatMap _ = (rowsS dom n).flatMap _
  refine congrArg (fun f => (rowsS dom n).flatMap f) (funext fun r => ?_)
  rw [List.map_map]
  rfl
theorem single_asc {dom : List Str} (pw : dom.Pairwise (fun a b => DLS.leS a b = true)) (nd : dom.Nodup) : Asc (dom.map fun v => [v]) := by
  unfold Asc
  rw [List.pairwise_map]
  refine (pw.and nd).imp fun {a b} ⟨h, g⟩ => ?_
  show (if a = b then ltTS [] [] else ltS a b) = true
  rw [if_neg g]
  exact ltS_of h g
theorem rowsS_asc {dom : List Str} (pw : dom.Pairwise (fun a b => DLS.leS a b = true)) (nd : dom.Nodup) : ∀ n, Asc (rowsS dom n)
  | 0 => List.pairwise_singleton _ _
  | n + 1 => by
    rw [rowsS_times]
    exact timesS_asc (rowsS_asc pw nd n) (single_asc pw nd) fun r hr => (rowsS_each hr).1
section
variable {S : Store} {Q : DQ}
end
section
variable {X : Cx}
end
end DL

set_option maxRecDepth 100000
set_option maxHeartbeats 2000000
/-! DTS14: defs with defaults (all arguments given by place); own operators out of methods. -/
namespace DL
open PySem PySem.Spec L2
/-- a def that may have defaults -/
structure FunV (K : PySem.W.Frag) (x qual : Str) (st : Stmt) (f : Addr) (fd : FuncData) : Prop where
  ex : ∃ (oc : Value) (od : Option Addr) (dV kV doc pm : Value) (an : Option Addr) (cdv ct : Value) (osl : Array (Option Value)),
    fd = PySem.W.fnOf x qual (defArgs st) (defBody st) (defScope st) dV kV doc pm an cdv ct ∧ K.lookup f = some ⟨oc, od, .func fd, osl⟩ ∧ PySem.W.codeIn K cdv qual = true
  kp : PySem.W.keepIn K (.ref f) = true
section
variable {P : Program} {w : World} {K : PySem.W.Frag} {mg : Str → Option Value} {base : Heap}
end
/-- the one default is the empty tuple -/
structure DefV (K : PySem.W.Frag) (x qual : Str) (st : Stmt) (fd : FuncData) : Prop where
  ex : ∃ (T E : Addr) (cl : Value) (dd : Option Addr) (n : Nat) (sl : Array (Option Value)) (kV doc pm : Value) (an : Option Addr) (cdv ct : Value),
    fd = PySem.W.fnOf x qual (defArgs st) (defBody st) (defScope st) (.ref T) kV doc pm an cdv ct ∧ K.lookup T = some ⟨cl, dd, .seq #[.ref E] n, sl⟩
/-- an empty tuple of the text -/
def StT (K : PySem.W.Frag) (a : Addr) : Prop := ∃ (o : Obj) (n : Nat), K.lookup a = some o ∧ o.cls = .type "tuple" ∧ o.dict = none ∧ o.data = .seq #[] n
/-- a method that may have defaults -/
structure MFV (K : PySem.W.Frag) (C : Addr) (m qual : Str) (st : Stmt) (ps : List Str) : Type where
  f : Addr
  fd : FuncData
  F : FunV K m qual st f fd
  at_ : Meth K C m f
  bd : Binds K fd ps []
  d0 : ∃ E, Binds K fd ps [.ref E] ∧ ∀ F, SqT K F E []
  dl : DefV K m qual st fd
  d1 : ∃ E, Binds K fd ps [.ref E] ∧ StT K E
abbrev BdOkV (x qual : Str) (st : Stmt) (ps : List Str) : Prop := ∀ (T : Addr) (v kV doc pm : Value) (an : Option Addr) (cdv ct : Value) (us : List Value), us.length = ps.length →
  ∃ k, bindArgs (PySem.W.fnOf x qual (defArgs st) (defBody st) (defScope st) (.ref T) kV doc pm an cdv ct) ⟨us, []⟩ = seqItems? (.ref T) >>= k ∧ k (some #[v]) = pure (ps.zip us)
/-- .. the last argument left out -/
abbrev BdOkW (x qual : Str) (st : Stmt) (ps : List Str) : Prop := ∀ (T : Addr) (v kV doc pm : Value) (an : Option Addr) (cdv ct : Value) (us : List Value), us.length + 1 = ps.length →
  ∃ k, bindArgs (PySem.W.fnOf x qual (defArgs st) (defBody st) (defScope st) (.ref T) kV doc pm an cdv ct) ⟨us, []⟩ = seqItems? (.ref T) >>= k ∧ k (some #[v]) = pure (ps.zip (us ++ [v]))
/-- one default, the empty tuple -/
def MFV.of {K : PySem.W.Frag} {x qual : Str} {st : Stmt} {ps : List Str} {f C T E : Addr} {oc cl : Value} {od an dd : Option Addr} {osl sl sle : Array (Option Value)} {kV doc pm cdv ct : Value} {n ne : Nat} (a : PySem.W.findIn K (.ref C) x = some (some (.ref f))) (i : PySem.W.isFn K (.ref f) = true)
    (l : K.lookup f = some ⟨oc, od, .func (PySem.W.fnOf x qual (defArgs st) (defBody st) (defScope st) (.ref T) kV doc pm an cdv ct), osl⟩) (c : PySem.W.codeIn K cdv qual = true) (k : PySem.W.keepIn K (.ref f) = true) (lT : K.lookup T = some ⟨cl, dd, .seq #[.ref E] n, sl⟩)
    (lE : K.lookup E = some ⟨.type "tuple", none, .seq #[] ne, sle⟩) (b : BdOkV x qual st ps) (b2 : BdOkW x qual st ps) : MFV K C x qual st ps :=
  ⟨f, _, ⟨⟨oc, od, .ref T, kV, doc, pm, an, cdv, ct, osl, rfl, l, c⟩, k⟩, ⟨a, i, k⟩, fun s us X hl => by
    rw [List.append_nil] at hl ⊢
    obtain ⟨k, e1, e2⟩ := b T (.ref E) kV doc pm an cdv ct us hl
    refine BindsTo.of_looks fun M => ?_
    rw [e1]
    exact looks_items X lT rfl (.of_pure e2), ⟨E, fun s us X hl => by
    rw [List.length_append] at hl
    obtain ⟨k, e1, e2⟩ := b2 T (.ref E) kV doc pm an cdv ct us hl
    refine BindsTo.of_looks fun M => ?_
    rw [e1]
    exact looks_items X lT rfl (.of_pure e2), fun F => .inr ⟨_, #[], ne, lE, rfl, rfl, by rw [sizeLine_eq]; simp, .nil⟩⟩, ⟨T, E, cl, dd, n, sl, kV, doc, pm, an, cdv, ct, rfl, lT⟩, ⟨E, fun s us X hl => by
    rw [List.length_append] at hl
    obtain ⟨k, e1, e2⟩ := b2 T (.ref E) kV doc pm an cdv ct us hl
    refine BindsTo.of_looks fun M => ?_
    rw [e1]
    exact looks_items X lT rfl (.of_pure e2), ⟨_, ne, lE, rfl, rfl, rfl⟩⟩⟩
end DL

set_option maxRecDepth 100000
set_option maxHeartbeats 2000000
/-! DTS15: a loop over range(n), by the number of the turn; readings that come often. -/
namespace DL
open PySem PySem.Spec L2
theorem dItR_range (n : Nat) : dItR 0 ((n : Int).toNat) = (List.range' 0 n).map fun (i : Nat) => D.int (i : Int) := by
  unfold dItR
  rw [Int.toNat_natCast, List.range_eq_range']
  exact List.map_congr_left fun i _ => by rw [Int.zero_add]
section
variable {nx bk ct : Sl → Store → Prop} {rt : DQ} {ex : Sl → DX} {g : Tgt} {tb : DTS}
theorem e_forR {n : Nat} (Inv : Nat → Sl → Store → Prop) (h0 : ∀ ρ S, Inv n ρ S → nx ρ S)
    (h1 : ∀ (J : Sl → Store → Prop) (j : Nat), j < n → (∀ ρ2 S2, Inv (j + 1) ρ2 S2 → J ρ2 S2) → ∀ ρ S, Inv j ρ S → ∃ ρ1, bindT g (.int j) ρ = some ρ1 ∧ tb ⟨J, rt, nx, J, ex⟩ ρ1 S) {ρ : Sl} {S : Store} (h : Inv 0 ρ S) :
    dForGo g tb (dItR 0 ((n : Int).toNat)) ⟨nx, rt, bk, ct, ex⟩ ρ S := by
  rw [dItR_range]
  refine e_forK (fun items ρ S => ∃ j, j ≤ n ∧ items = (List.range' j (n - j)).map (fun i : Nat => D.int (i : Int)) ∧ Inv j ρ S) ?_ ?_ _ _ _ ⟨0, Nat.zero_le _, rfl, h⟩
  · rintro ρ S ⟨j, hj, e, i⟩
    have : j = n := by
      have z := congrArg List.length e
      rw [List.length_map, List.length_range'] at z
      simp at z
      omega
    subst this
    exact h0 _ _ i
  · rintro J d r ih ρ S ⟨j, hj, e, i⟩
    have lt : j < n := by
      have z := congrArg List.length e
      rw [List.length_map, List.length_range', List.length_cons] at z
      omega
    rw [show n - j = (n - (j + 1)) + 1 by omega, List.range'_succ, List.map_cons] at e
    injection e with e1 e2
    subst e1 e2
    exact h1 J j lt (fun ρ2 S2 q => ih ρ2 S2 ⟨j + 1, lt, rfl, q⟩) ρ S i
end
theorem s_isObjO {C : Addr} {m : Str} {S : Store} {ns : List Str} {ds : List D} {R : Prop} (hm : m ∉ ns) (r : R) : IsObj C m (.obj C ns ds) S ∧ R := ⟨.inl ⟨ns, ds, rfl, hm⟩, r⟩
end DL

set_option maxRecDepth 100000
set_option maxHeartbeats 2000000
/-! DTS16: comprehensions that keep some of what was laid out by a function. -/
namespace DL
open PySem PySem.Spec L2
end DL

set_option maxRecDepth 100000
set_option maxHeartbeats 2000000
/-! DTS17: defs with *args (few of them), as methods and classmethods; methods called by keywords; comprehensions within comprehensions. -/
namespace DL
open PySem PySem.Spec L2
theorem cxUpN {P : Program} {w : World} : StX.CXUp (L2N.CX P w) := by
  rintro outer s H s2 H2 E e s' un kp ho ⟨a, B, H', cls, d, ea, fl, hok, ub, na, os, ag, he⟩
  refine ⟨a, B, H', cls, d, ea, fl, hok, ?_, na, os.trans ho, ag, he⟩
  have low : ∀ b o, s.heap.get? b = some o → H b = none → H2 b = none := fun b o q n => un.free b o q n (by simp)
  have tb : ∀ b ps, H b = some (.tbl ps) → ∃ more, H' b = some (.tbl (ps ++ more)) := fun b ps q => by
    obtain ⟨m1, e1⟩ := un.tbls b ps q
    obtain ⟨m2, e2⟩ := ub.tbls b _ e1
    exact ⟨m1 ++ m2, by rw [e2, Array.append_assoc]⟩
  exact { keep := fun b o q n hb => ub.keep b o (kp b o q) (low b o q n) hb, slot := fun b o q hb => ub.slot b o (kp b o q) hb, free := fun b o q n => ub.free b o (kp b o q) (low b o q n), there := fun b o q hb => ub.there b o (kp b o q) hb, tups := fun b xs q => ub.tups b xs (un.tups b xs q), frzs := fun b o xs q => ub.frzs b o xs (un.frzs b o xs q), tbls := tb }
/-- a def that is called by place -/
structure FnP (P : Program) (w : World) (K : PySem.W.Frag) (mg : Str → Option Value) (base : Heap) (k : Nat) (f : Addr) (sp : Sp) : Prop where
  run : ∀ (A : Around) (outer : List Env) (s : Shared) (H : Hp) (us : List Value) (vs : List V) (Q : VK) (E : XK), Room k A → A.guards = some [] → Env0 P w K mg base A outer s H → Vals vs us → sp vs H Q E → codeAny (model P w) A (.call (.ref f) ⟨us, []⟩) (CR (L2N.CX P w) outer P w H s Q E) s
section
variable {X : Cx} {W : WX} {k : Nat} {f g C : Addr} {sp : Sp} {dsp : DSp} {m : Str} {p pos apos : Pos} {e o : Expr} {es : List Expr} {kws : List Keyword} {ta : TE} {t : TA} {da : DTE} {dt tkw : DTA}
theorem run_fnPC {pins : List (Addr × Obj)} {σ : L2.St} {H : Hp} {s : Shared} {Q : VK} {us : List Value} {vs : List V} (F : FnP X.prog X.w X.K X.mg X.base k f sp) (hr : Room k X.A) (hgd : X.A.guards = some []) (tk : L2N.Takes X W) (I : Inv X pins σ H s) (r : Vals vs us) (h : sp vs H Q (WE W σ)) :
    codeAny (model X.prog X.w) X.A (.call (.ref f) ⟨us, []⟩) (fun r s' => match r with
      | .ok (.ret v) => EP X pins σ Q v s'
      | .ok _ => False
      | .error e => X.xe e s') s := by
  refine codeAny_mono (F.run X.A X.stack s H us vs Q _ hr hgd I.env0 r h) fun r s' hq => ?_
  have z := call_end tk I hq
  cases r with
  | error e => exact z
  | ok fl =>
    cases fl with
    | ret u => exact z
    | next => exact False.elim z
    | brk => exact False.elim z
    | cont => exact False.elim z
theorem run_fnP {pins : List (Addr × Obj)} {σ : L2.St} {H : Hp} {s : Shared} {Q : VK} {us : List Value} {vs : List V} (F : FnP X.prog X.w X.K X.mg X.base k f sp) (hr : Room k X.A) (hgd : X.A.guards = some []) (tk : L2N.Takes X W) (I : Inv X pins σ H s) (r : Vals vs us) (h : sp vs H Q (WE W σ)) :
    wpAny (model X.prog X.w) X.A (call (.ref f) us) (EP X pins σ Q) X.xe s := wpAny_call (run_fnPC F hr hgd tk I r h)
theorem pe_methP {pl : Sem Bool} (he : PE X o ta) (c : Cls X.K C) (hm : Meth X.K C m f) (F : FnP X.prog X.w X.K X.mg X.base k f sp) (hr : Room k X.A) (hgd : X.A.guards = some []) (tk : L2N.Takes X W) (ha : PA X (e :: es) t)
    (hst : starEach (e :: es) X.env = (false, eval e X.env) :: starEach es X.env := by rfl) (hpl : (backTo pos (starEach es X.env)).any (·.1) = false := by rfl)
    (ht : eval (.Call (.Attribute o m apos) (e :: es) [] pos) X.env = (do
      let ov ← eval o X.env
      standAt apos.atName
      let (f, first) ← holding [ov] (getMethod ov m pl)
      callWith pos f first (backTo pos (starEach (e :: es) X.env)) (backToKw pos (keywordEach [] X.env))) := by rfl) : PE X (.Call (.Attribute o m apos) (e :: es) [] pos) (tMethG C m sp [] (WE W) ta t) := by
  refine ⟨fun pins s σ H Q I h => PySem.W.methodCall_KW (pl := pl) (thn (he.run pins s σ H _ I h) fun u s1 ⟨x, H1, I1, rx, a, dx, fs, ex, ea, l, q⟩ => ?_) ht⟩
  subst ex
  cases rx
  refine getmeth_ok I1 ea c hm l (PySem.W.callWith_K (first := [.ref a]) (h₀ := X.base) I.ok.mod.kin hm.kp (thn (ha.run pos pins s1 σ H1 _ I1 q) fun us s2 ⟨vs, H2, I2, r, q2⟩ => ⟨I2.kIn, ?_⟩) hst hpl)
  have q3 : sp (V.ref a :: vs) H2 Q (WE W σ) := by
    have z : sp (V.ref a :: (vs ++ [])) H2 Q (WE W σ) := q2
    rwa [List.append_nil] at z
  exact run_fnP (us := .ref a :: us) (vs := .ref a :: vs) F hr hgd tk I2 (.cons rfl r) q3
/-- o.m(e, ..), m with *args -/
theorem de_methP {pl : Sem Bool} (he : DE X W o da) (c : Cls X.K C) (hm : Meth X.K C m f) (F : FnP X.prog X.w X.K X.mg X.base k f (spD X.K dsp)) (hr : Room k X.A) (hgd : X.A.guards = some []) (tk : L2N.Takes X W) (ha : DA X W (e :: es) dt)
    (hst : starEach (e :: es) X.env = (false, eval e X.env) :: starEach es X.env := by rfl) (hpl : (backTo pos (starEach es X.env)).any (·.1) = false := by rfl)
    (ht : eval (.Call (.Attribute o m apos) (e :: es) [] pos) X.env = (do
      let ov ← eval o X.env
      standAt apos.atName
      let (f, first) ← holding [ov] (getMethod ov m pl)
      callWith pos f first (backTo pos (starEach (e :: es) X.env)) (backToKw pos (keywordEach [] X.env))) := by rfl) : DE X W (.Call (.Attribute o m apos) (e :: es) [] pos) (dMeth C m dsp [] da dt) :=
  de_pe (pe_methP he.pe c hm F hr hgd tk ha.pa hst hpl ht) (lift_meth fun _ => .nil)
end
/-! ### a def with *args -/
theorem isVs_split {K : PySem.W.Frag} {F : Hp} : ∀ {ds es : List D} {vs : List V}, IsVs K F (ds ++ es) vs → ∃ v1 v2, vs = v1 ++ v2 ∧ IsVs K F ds v1 ∧ IsVs K F es v2
  | [], es, vs, h => ⟨[], vs, rfl, .nil, h⟩
  | _ :: ds, es, _, .cons a b => by
    obtain ⟨v1, v2, e, h1, h2⟩ := isVs_split (ds := ds) b
    exact ⟨_ :: v1, v2, by rw [e]; rfl, .cons a h1, h2⟩
/-- n values by place, the rest in a tuple -/
def starD (n : Nat) (dsp : DSp) : DSp := fun ds S Q E => ∃ ws rest, ds = ws ++ rest ∧ ws.length = n ∧ rest.length ≤ 5 ∧ dsp (ws ++ [.tup rest]) S Q E
section
variable {P : Program} {w : World} {K : PySem.W.Frag} {mg : Str → Option Value} {base : Heap}
theorem fn_starE {k : Nat} {f : Addr} {x qual pv : Str} {st : Stmt} {fd : FuncData} {N ps : List Str} {dsp : DSp} (F : FunV K x qual st f fd) (S : FnScope N (ps ++ [pv]) (defScope st))
    (hb : ∀ (dV kV doc pm : Value) (an : Option Addr) (cdv ct : Value) (us rest : List Value), dV = .none → us.length = ps.length → rest.length ≤ 5 → bindArgs (PySem.W.fnOf x qual (defArgs st) (defBody st) (defScope st) dV kV doc pm an cdv ct) ⟨us ++ rest, []⟩ = (newTuple rest >>= fun t => pure (ps.zip us ++ [(pv, t)])))
    (hd : fd.defaults = .none)
    (hbody : ∀ (cdv : Value) (A : Around) (outer : List Env) (s : Shared) (H : Hp) (E : XK), Room k (A.deeper (PyProof.Rows.envOfC qual (defScope st) s.heap.objs.size f cdv)) → (A.deeper (PyProof.Rows.envOfC qual (defScope st) s.heap.objs.size f cdv)).guards = some [] →
      L2N.Takes (cxD P w K mg base N qual (defScope st) f cdv A outer s H E) (Wd E) → PassesOwn (model P w) (A.deeper (PyProof.Rows.envOfC qual (defScope st) s.heap.objs.size f cdv)) (PyProof.Rows.envOfC qual (defScope st) s.heap.objs.size f cdv) (cxD P w K mg base N qual (defScope st) f cdv A outer s H E).xe →
      ∃ T, DSs (cxD P w K mg base N qual (defScope st) f cdv A outer s H E) (Wd E) (defBody st) T ∧ ∀ ds S Q E', dsp ds S Q E' → T { nx := fun _ S' => Q .non S', rt := Q, ex := fun _ => E' } (startD N ds) S) : FnP P w K mg base (k + 1) f (spD K (starD ps.length dsp)) := by
  obtain ⟨oc, od, dV, kV, doc, pm, an, cdv, ct, osl, rfl, lk, hcd⟩ := F.ex
  have ed : dV = .none := hd
  subst ed
  refine ⟨fun A outer s H us vs Q E hr hgd e0 r ⟨ds, Sd, Fz, Z, Qd, Ed, R, iv, ⟨ws, rest, eds, hl, hz, q⟩, k1, k2⟩ => ?_⟩
  subst eds
  obtain ⟨v1, v2, ev, i1, i2⟩ := isVs_split iv
  subst ev
  obtain ⟨u1, u2, eu, r1, r2⟩ := StX.vals_split r
  subst eu
  have hn : H s.heap.objs.size = Option.none := e0.hok.fresh (Nat.le_refl _)
  have hl1 : u1.length = ps.length := by rw [← r1.length, ← i1.length]; exact hl
  have hl2 : u2.length ≤ 5 := by rw [← r2.length, ← i2.length]; exact hz
  have hl3 : v2.length ≤ sizeLine := by rw [← i2.length, sizeLine_eq]; omega
  refine StX.run_bnd (CX := L2N.CX P w) lk hcd S hr e0 (G := fun xs H2 => ∃ p, H p = Option.none ∧ xs = v1 ++ [V.ref p] ∧ H2 = upd H p (.tup v2)) (fun A' Ex Q' h => ?_) fun s2 H2 xs ⟨p, hp, ex, eH⟩ hr' => ?_
  · rw [hb _ _ _ _ _ _ _ u1 u2 rfl hl1 hl2]
    refine wpAny_bind (wpAny_newTuple (wpAny_pure ?_) (by rw [← r2.length]; exact hl3))
    have new : ObjOk P w (upd H s.heap.objs.size (.tup v2)) (s.heap.push ({ cls := .type "tuple", data := .seq u2.toArray } : Obj)) s.heap.objs.size (.tup v2) := ⟨hl3, u2, r2, ⟨_, Heap.get?_push_size _ rfl, rfl, _, rfl⟩⟩
    have un := StX.un_laid (fs := frs outer) (s := s) (o := ({ cls := .type "tuple", data := .seq u2.toArray } : Obj)) (u := .tup v2) hn
    have z := h _ _ (v1 ++ [V.ref s.heap.objs.size]) (u1 ++ [Value.ref s.heap.objs.size]) (StX.env0_laid e0 new) un rfl (fun e s' => cxUpN outer s H _ _ E e s' un (fun b o q => Heap.get?_push_of_some _ q) rfl) (r1.append (.cons rfl .nil))
      (by rw [List.length_append, List.length_append, ← i1.length, hl] <;> rfl) ⟨_, hn, rfl, rfl⟩
    rw [List.zip_append hl1.symm] at z
    exact z
  · subst ex eH
    obtain ⟨T, hT, read⟩ := hbody cdv A outer s2 (upd H p (.tup v2)) E hr' (guards_deeper hgd) (L2N.takes_of rfl rfl rfl rfl) (passes_of rfl)
    obtain ⟨R2, s2', k2'⟩ := R.laid (o := .tup v2) hp
    have A1 : Aft K Z H Fz (upd H p (.tup v2)) Sd (upd Fz p (.tup v2)) := ⟨s2', R2, k2'⟩
    refine ⟨_, hT.pss, ?_⟩
    exact ⟨startD N (ws ++ [.tup rest]), Sd, _, Z, _, R2, envR_start ((i1.up s2').append (.cons (.tup upd_same (i2.up s2')) .nil)), read _ Sd Qd Ed q,
      ⟨fun σ' H' ⟨ρ', S', F', A', _, q'⟩ => k1 _ _ (lftE_tr A1 ⟨.non, S', F', A', .non, q'⟩), fun v H' h => k1 v H' (lftE_tr A1 h), fun _ _ ⟨_, _, _, _, _, z⟩ => z.elim, fun _ _ ⟨_, _, _, _, _, z⟩ => z.elim,
        fun cls d σ' H' ⟨C, ns, ds', ρ', S', F', e, A', _, xr, q'⟩ => k2 cls d H' (lftX_tr A1 ⟨C, ns, ds', S', F', e, A', xr, q'⟩)⟩⟩
end
/-- a method with *args; a classmethod with *args -/
structure MFS (K : PySem.W.Frag) (C : Addr) (m qual : Str) (st : Stmt) : Type where
  f : Addr
  fd : FuncData
  F : FunV K m qual st f fd
  at_ : Meth K C m f
  df : fd.defaults = .none
def MFS.of {K : PySem.W.Frag} {x qual : Str} {st : Stmt} {f C : Addr} {oc : Value} {od an : Option Addr} {osl : Array (Option Value)} {kV doc pm cdv ct : Value} (a : PySem.W.findIn K (.ref C) x = some (some (.ref f))) (i : PySem.W.isFn K (.ref f) = true)
    (l : K.lookup f = some ⟨oc, od, .func (PySem.W.fnOf x qual (defArgs st) (defBody st) (defScope st) .none kV doc pm an cdv ct), osl⟩) (c : PySem.W.codeIn K cdv qual = true) (k : PySem.W.keepIn K (.ref f) = true) : MFS K C x qual st :=
  ⟨f, _, ⟨⟨oc, od, .none, kV, doc, pm, an, cdv, ct, osl, rfl, l, c⟩, k⟩, ⟨a, i, k⟩, rfl⟩
structure CMFS (K : PySem.W.Frag) (C : Addr) (m qual : Str) (st : Stmt) : Type where
  mc : Value
  q : Addr
  rd : ClX.CRead K C mc
  f : Addr
  fd : FuncData
  F : FunV K m qual st f fd
  cm : ClX.CMet K C mc m q f
  df : fd.defaults = .none
end DL

set_option maxRecDepth 100000
set_option maxHeartbeats 2000000
/-! DTS18: a walk over a name's list or tuple; a list of the store that is not written any more; keywords turned about; lists of rows compared. -/
namespace DL
open PySem PySem.Spec L2
section
variable {X : Cx} {W : WX} {tg : Expr}
end
end DL

set_option maxRecDepth 100000
set_option maxHeartbeats 2000000
/-! DTS19: list(x) as a list of the store; rows by columns. -/
namespace DL
open PySem PySem.Spec L2
section
variable {X : Cx} {W : WX} {e : Expr} {te : DTE} {p pos : Pos}
end
end DL

set_option maxRecDepth 100000
set_option maxHeartbeats 2000000
/-! DTS20: a comprehension over range(n), by the number of the turn. -/
namespace DL
open PySem PySem.Spec L2
section
variable {g : Tgt} {tt : DTT} {te : DTE} {ρ : Sl} {QA : List D → Store → Prop}
theorem e_lcR {n : Nat} (Inv : Nat → List D → Store → Prop) (h0 : ∀ acc S, Inv n acc S → QA acc S)
    (h1 : ∀ (J : List D → Store → Prop) (j : Nat), j < n → (∀ acc S2, Inv (j + 1) acc S2 → J acc S2) → ∀ acc S, Inv j acc S → ∃ ρ1, bindT g (.int j) ρ = some ρ1 ∧ tt ρ1 S (fun b S1 => if b = true then te ρ1 S1 (fun y S2 => J (acc ++ [y]) S2) (fun _ _ _ _ => False) else J acc S1) fun _ _ _ _ => False)
    {acc : List D} {S : Store} (h : Inv 0 acc S) : dLcGo g tt te ρ (dItR 0 ((n : Int).toNat)) acc S QA := by
  rw [dItR_range]
  refine e_lcK (fun items acc S => ∃ j, j ≤ n ∧ items = (List.range' j (n - j)).map (fun i : Nat => D.int (i : Int)) ∧ Inv j acc S) ?_ ?_ _ _ _ ⟨0, Nat.zero_le _, rfl, h⟩
  · rintro acc S ⟨j, hj, e, i⟩
    have : j = n := by
      have z := congrArg List.length e
      rw [List.length_map, List.length_range'] at z
      simp at z
      omega
    subst this
    exact h0 _ _ i
  · rintro J d r ih acc S ⟨j, hj, e, i⟩
    have lt : j < n := by
      have z := congrArg List.length e
      rw [List.length_map, List.length_range', List.length_cons] at z
      omega
    rw [show n - j = (n - (j + 1)) + 1 by omega, List.range'_succ, List.map_cons] at e
    injection e with e1 e2
    subst e1 e2
    exact h1 J j lt (fun acc S2 q => ih acc S2 ⟨j + 1, lt, rfl, q⟩) acc S i
end
end DL

set_option maxRecDepth 100000
set_option maxHeartbeats 2000000
/-! DTS21: y = [..], a list of the store. -/
namespace DL
open PySem PySem.Spec L2
section
variable {X : Cx} {W : WX} {elt tg iter : Expr} {ifs : List Expr} {scope : Scope} {own : List (Str × Nat)} {pos spos : Pos} {ti : DTI} {g : Tgt} {tt : DTT} {te : DTE}
end
end DL

set_option maxRecDepth 100000
set_option maxHeartbeats 2000000
/-! DLX1: an own exception made by keyword, at the library's level. -/
namespace PySem.HandSPX
open PySem PySem.Spec
section
variable {M : Model} {A : Around} {E : Value → Shared → Prop} {h : Heap} {g : Array GenState} {d : Drawn} {t : Nat} {os : OsState}
variable {nm q : Str} {C N : Addr} {bs bm bmB : List Value} {hdct : Bool} {sn : List Str} {sub : List Value} {ab : Bool} {col : Option Bool} {dd : Option Addr} {k0 k1 k2 k3 k5 : Option Value} {B newId initId : String}
end
section
variable {prog : Program} {w : World} {A : Around} {E : Value → Shared → Prop} {R : Result → Shared → Prop} {h : Heap} {g : Array GenState} {d : Drawn} {t : Nat} {os : OsState}
variable {nm q : Str} {C N : Addr} {bs bm bmB : List Value} {hdct : Bool} {sn : List Str} {sub : List Value} {ab : Bool} {col : Option Bool} {dd : Option Addr} {k0 k1 k2 k3 k5 : Option Value} {B newId initId : String}
end
end PySem.HandSPX

set_option maxRecDepth 100000
set_option maxHeartbeats 2000000
/-! DLX2: own exceptions as values. -/
namespace DL
open PySem PySem.Spec L2
/-- the __init__ of an exception, called in another way -/
def XiB (P : Program) (K : PySem.W.Frag) (fI C : Addr) (wd : Str) (args : Value → Value → Args) : Prop :=
  ∃ (oc : Value) (od : Option Addr) (osl : Array (Option Value)) (qual t : Str) (q0 q1 p0 p1 p2 p3 p4 p5 p6 p7 p8 p9 : Pos) (dV kV doc pm ct : Value) (an : Option Addr) (cda cc : Addr),
    K.lookup fI = some ⟨oc, od, .func (PySem.W.ksFn "__init__" qual (xiArgs wd q0 q1) (xiBody wd t p0 p1 p2 p3 p4 p5 p6 p7 p8 p9) (xiScope wd) dV kV doc pm an (.ref cda) ct cc), osl⟩ ∧ PySem.W.codeIn K (.ref cda) qual = true ∧
    (∀ a u : Value, bindArgs (PySem.W.ksFn "__init__" qual (xiArgs wd q0 q1) (xiBody wd t p0 p1 p2 p3 p4 p5 p6 p7 p8 p9) (xiScope wd) dV kV doc pm an (.ref cda) ct cc) (args a u) = pure ([("self", a), (wd, u)] : List (Str × Value))) ∧
    (∀ L : Addr, ∃ pl : Sem Bool, XiEv (callEnv (PySem.W.ksFn "__init__" qual (xiArgs wd q0 q1) (xiBody wd t p0 p1 p2 p3 p4 p5 p6 p7 p8 p9) (xiScope wd) dV kV doc pm an (.ref cda) ct cc) L fI) pl t p0 p1 p2 p3 p4) ∧
    (∃ (cl : Value) (cld : Option Addr) (csl : Array (Option Value)), K.lookup cc = some ⟨cl, cld, .cell (some (.ref C)), csl⟩) ∧
    (∃ (ccl : Value) (cdd : Option Addr) (vs : Array Value) (ccs : Array (Option Value)) (file : Str) (tf : Tok), K.lookup cda = some ⟨ccl, cdd, .fields vs, ccs⟩ ∧ vs[2]? = some (.str file tf) ∧ ((P.main.file : Str) == file) = true)
theorem XiC.pos {P : Program} {K : PySem.W.Frag} {C fI : Addr} {wd : Str} (T : XiC P K C fI wd) : XiB P K fI C wd fun a u => ⟨[a, u], []⟩ := T.fn
theorem XiC.key {P : Program} {K : PySem.W.Frag} {C fI : Addr} {wd : Str} (T : XiC P K C fI wd) (h : ∀ (qual t : Str) (q0 q1 p0 p1 p2 p3 p4 p5 p6 p7 p8 p9 : Pos) (dV kV doc pm ct : Value) (an : Option Addr) (cda cc : Addr) (a u : Value), bindArgs (PySem.W.ksFn "__init__" qual (xiArgs wd q0 q1) (xiBody wd t p0 p1 p2 p3 p4 p5 p6 p7 p8 p9) (xiScope wd) dV kV doc pm an (.ref cda) ct cc) ⟨[a], [(wd, u)]⟩ = pure ([("self", a), (wd, u)] : List (Str × Value))) :
    XiB P K fI C wd fun a u => ⟨[a], [(wd, u)]⟩ := by
  obtain ⟨oc, od, osl, qual, t, q0, q1, p0, p1, p2, p3, p4, p5, p6, p7, p8, p9, dV, kV, doc, pm, ct, an, cda, cc, h1, h2, _, h4⟩ := T.fn
  exact ⟨oc, od, osl, qual, t, q0, q1, p0, p1, p2, p3, p4, p5, p6, p7, p8, p9, dV, kV, doc, pm, ct, an, cda, cc, h1, h2, h _ _ _ _ _ _ _ _ _ _ _ _ _ _ _ _ _ _ _ _ _ _, h4⟩
section
variable {X : Cx} {pins : List (Addr × Obj)} {σ : L2.St}
end
end DL
namespace DL
open PySem PySem.Spec L2
section
variable {X : Cx} {x wd : Str} {C fI : Addr} {e : Expr} {ta : TA} {p pos : Pos} {kws : List Keyword}
end
end DL

set_option maxRecDepth 100000
set_option maxHeartbeats 2000000
/-! DLX3: own exceptions as values, over trees: made by position, by keyword; a field read; isinstance. -/
namespace DL
open PySem PySem.Spec L2
section
variable {X : Cx} {W : WX} {x wd : Str} {C fI : Addr} {e : Expr} {te : DTE} {p pos : Pos} {kws : List Keyword} {ta : DTA}
end
/-! ### e.f -/
/-! ### isinstance -/
section
variable {X : Cx} {Cs : List Addr} {C2 : Addr} {b : Addr → Bool}
/-! ### C(), no field -/
end
end DL

set_option maxRecDepth 100000
set_option maxHeartbeats 2000000
/-! DLX4: repr of any frozen tree. -/
namespace DL
open PySem PySem.Spec L2
section
variable {X : Cx}
def rReprV (K : PySem.W.Frag) : List V → Hp → VK → Prop := fun xs H Q => ∃ (x : V) (F : Hp) (d : D) (p : PyData), xs = [x] ∧ (∀ b u, F b = some u → H b = some u) ∧ IsV K F d x ∧ showD d = some p ∧ goodP p = true ∧ szP p ≤ 16000000 ∧ p.depth ≤ 60 ∧ Q (.str p.shown) H
theorem cr_reprV (hg : X.A.guards = some []) (hu : X.A.units + 64 < cLine) : CallR X (.builtin "repr") (rReprV X.K) := by
  intro pins s σ H xs us Q I r h
  obtain ⟨x, F, d, p, rfl, sub, iv, e, g, z, hd, q⟩ := h
  have big : (16000000 : Nat) ≤ sizeLine := by rw [sizeLine_eq]; omega
  have len := Nat.le_trans (shown_le p g) (Nat.le_trans z big)
  cases d with
  | non =>
    obtain ⟨u, rfl, ru⟩ := r.one
    cases iv; cases ru; unfold showD at e; cases e
    exact PySem.P.repr_of_none ⟨.str _, H, I.tok _, ⟨_, rfl⟩, q⟩
  | bl b =>
    obtain ⟨u, rfl, ru⟩ := r.one
    cases iv; cases ru; unfold showD at e; cases e
    exact PySem.P.repr_of_bool ⟨.str _, H, I.tok _, ⟨_, rfl⟩, q⟩
  | int i =>
    obtain ⟨u, rfl, ru⟩ := r.one
    cases iv; obtain ⟨t, rfl⟩ := ru; unfold showD at e; cases e
    exact PySem.P.repr_of_int (by simpa [goodP] using g) ⟨.str _, H, I.tok _, ⟨_, rfl⟩, q⟩
  | str y =>
    obtain ⟨u, rfl, ru⟩ := r.one
    cases iv; obtain ⟨t, rfl⟩ := ru; unfold showD at e; cases e
    exact PySem.P.repr_of_str ⟨.str _, H, I.tok _, ⟨_, rfl⟩, q⟩ (by simpa only [PyData.shown] using len)
  | tup ds =>
    cases iv with
    | tup h1 h2 => exact cr_reprM hg hu pins s σ H _ us Q I r ⟨_, F, ds, .tup ds, p, rfl, sub, .inl ⟨by unfold showD; rfl, _, _, rfl, SqT.of (sub _ _ h1), h2⟩, e, g, z, hd, q⟩
  | kup ds =>
    cases iv with
    | kup h1 h0 h2 => exact cr_reprM hg hu pins s σ H _ us Q I r ⟨_, F, ds, .kup ds, p, rfl, sub, .inl ⟨by unfold showD; rfl, _, _, rfl, .inl (.inr ⟨_, sub _ _ h1⟩), h2⟩, e, g, z, hd, q⟩
  | ctp ds =>
    cases iv with
    | ctp h1 h2 => exact cr_reprM hg hu pins s σ H _ us Q I r ⟨_, F, ds, .ctp ds, p, rfl, sub, .inl ⟨by unfold showD; rfl, _, _, rfl, Same.sqt sub h1, h2⟩, e, g, z, hd, q⟩
  | lst ds =>
    cases iv with
    | lst h1 h2 => exact cr_reprM hg hu pins s σ H _ us Q I r ⟨_, F, ds, .lst ds, p, rfl, sub, .inr ⟨_, _, rfl, sub _ _ h1, rfl, h2⟩, e, g, z, hd, q⟩
  | dK ks ds =>
    obtain ⟨u, rfl, rv⟩ := r.one
    unfold showD at e
    obtain ⟨ps, e1, rfl⟩ := map_some e
    have back : ∀ h' t tk, (∀ b o, s.heap.get? b = some o → h'.get? b = some o) → EP X pins σ Q (.str (PyData.dict ((ks.map keyP).zip ps)).shown t) { s with heap := h', toks := tk } := fun h' t tk kp => ⟨.str _, H, I.kept kp, ⟨_, rfl⟩, q⟩
    have z : szP (PyData.dict ((ks.map keyP).zip ps)) ≤ sizeLine := Nat.le_trans z big
    cases iv with
    | dK h1 h2 h3 =>
      cases rv
      obtain ⟨_, hsy, vs, kv, o, es, ep, ho, hx, hdat, _, hp, _⟩ := dk_of I.hok (sub _ _ h1)
      obtain ⟨k1, k2⟩ := kv_split kv
      obtain ⟨as, ra, _⟩ := reads_ofs I sub ds _ _ ps h3 k2 e1
      obtain ⟨r1, r2⟩ := reads_pairs (enc := keyP) (fun k u => reads_key) hp ra
      have lps : vs.length = ps.length := by have := readsAll_len ra; rwa [List.length_map] at this
      have e2 : ((((vs.map (·.1)).map keyP).zip ps).map (·.2)) = ps := List.map_snd_zip (by rw [List.length_map, List.length_map]; omega)
      have gk : goodPk ((ks.map keyP).zip ps) = true := by simpa [goodP] using g
      have zk : szPk ((ks.map keyP).zip ps) + 3 ≤ sizeLine := by simpa only [szP] using z
      have ek : vs.map (·.1) = ks := k1.symm.trans h2
      have spl : ∀ {l : List (PyData × PyData)}, goodPk l = true → (goodPs (l.map (·.1)) = true ∧ goodPs (l.map (·.2)) = true) ∧ szPs (l.map (·.1)) ≤ szPk l ∧ szPs (l.map (·.2)) ≤ szPk l := fun {l} => by
        induction l with
        | nil => intro _; exact ⟨⟨rfl, rfl⟩, Nat.le_refl _, Nat.le_refl _⟩
        | cons x r ih =>
          intro q
          obtain ⟨k, v⟩ := x
          have q' : (goodP k = true ∧ goodP v = true) ∧ goodPk r = true := by simpa [goodPk] using q
          obtain ⟨⟨a1, a2⟩, a3, a4⟩ := ih q'.2
          refine ⟨⟨by simp [goodPs, q'.1.1, a1], by simp [goodPs, q'.1.2, a2]⟩, ?_, ?_⟩
          · simp only [List.map_cons, szPs, szPk]; omega
          · simp only [List.map_cons, szPs, szPk]; omega
      rw [← ek] at gk zk back len hd
      obtain ⟨⟨g1, g2⟩, z1, z2⟩ := spl gk
      have nd : ∀ (l : List Key) (m : List PyData), PyData.hasDictAll (((l.map keyP).zip m).map (·.1)) = false := fun l => by
        induction l with
        | nil => intro m; simp [PyData.hasDictAll]
        | cons k l ih =>
          intro m
          cases m with
          | nil => simp [PyData.hasDictAll]
          | cons y m =>
            simp only [List.map_cons, List.zip_cons_cons, PyData.hasDictAll, ih m, Bool.or_false]
            cases k <;> simp [keyP, PyData.hasDict]
      obtain ⟨b1, hb1, w1⟩ := ReprAllK.of_readsAll (prog := X.prog) (w := X.w) r1 (good_showables _ g1) (fun q => by rw [nd] at q; cases q) (shown_in g1 (by omega))
      have ev : es.toList.map (·.val) = vs.map (·.2) := pairs_vals hp
      have w2' := rk_ofs I sub ds _ _ ps h3 k2 e1 (by rw [e2] at g2; exact g2) (by rw [e2] at z2; omega)
      rw [← ev, ← e2] at w2'
      obtain ⟨b2, hb2, w2⟩ := w2'
      have rr : Reads s.heap (.ref _) (.dict (((vs.map (·.1)).map keyP).zip ps)) _ := .dict ho hx.1 hdat r1 r2
      have hb := (hb1.mono (PyData.depthAll_keys_le (((vs.map (·.1)).map keyP).zip ps))).append (hb2.mono (PyData.depthAll_vals_le (((vs.map (·.1)).map keyP).zip ps)))
      have out := not_mem_of_deeper rr (by simp only [PyData.depth]; omega) hb
      simp only [PyData.depth] at hd
      refine call_repr_slot (T := "dict") (by omega) ⟨o, ho, hx.1⟩ PySem.F.slot_dict_repr ?_
      exact call_dict_reprK ho hx.1 hdat hsy out (ReprEntriesK.of_two es.toList _ _ (w1.more_le (fun _ q => List.mem_append_left _ q) (PyData.depthAll_keys_le _)) (w2.more_le (fun _ q => List.mem_append_right _ q) (PyData.depthAll_vals_le _))) (g := []) hg (fun b _ => Clear.nil b) (by show X.A.units + 1 + _ < cLine; omega) (fun _ _ y => y)
        (fun h' t tk kp => ⟨_, _, rfl, by simpa only [PyData.shown, PyData.shownKv_eq] using back h' t tk kp⟩) (by simpa only [PyData.shown, PyData.shownKv_eq] using len)
  | _ => unfold showD at e; cases e
def rdReprV : DRL := fun xs S Q => ∃ d, xs = [d] ∧ RepW 16000000 60 d ∧ Q (.str (shownW d)) S
theorem lift_reprV {K : PySem.W.Frag} : LiftL K (rReprV K) rdReprV := by
  intro Z H S F x v Q P R iv ⟨d, hx, ⟨p, e, g, z, dp⟩, q⟩ k
  subst hx
  obtain ⟨v, rfl, iw⟩ := isVs_one iv
  have es : shownW d = p.shown := by unfold shownW; rw [e]
  rw [es] at q
  exact ⟨v, F, d, p, rfl, fun b u z => (R.sub b u z).1, iw, e, g, z, dp, k _ _ ⟨_, S, F, .refl R, .str _, q⟩⟩
theorem de_reprV {W : WX} {e : Expr} {te : DTE} {p pos : Pos} (B : Bis X.mg) (hgd : X.A.guards = some []) (hu : X.A.units + 64 < cLine) (he : DE X W e te) (hg : Gl X "repr" := by rfl) (hs : starEach [e] X.env = (false, eval e X.env) :: starEach [] X.env := by rfl) (hpl : (backTo pos (starEach [] X.env)).any (·.1) = false := by rfl) :
    DE X W (.Call (.Name "repr" p) [e] [] pos) (dCB rdReprV (dCons te dNil)) :=
  de_callB (cr_reprV hgd hu) lift_reprV B.repr (by first | exact PyProof.Rows.boot_repr | decide +kernel | kernel_rfl) (da_cons he da_nil hs) hg (by decide) (by decide) hs hpl
end
theorem s_reprV {S : Store} {Q : DQ} {d : D} (h : RepW 16000000 60 d) (q : Q (.str (shownW d)) S) : rdReprV [d] S Q := ⟨d, rfl, h, q⟩
end DL

set_option maxRecDepth 100000
set_option maxHeartbeats 2000000
/-! DLX5: bundles for the errors of law k01. -/
namespace DL
open PySem PySem.Spec L2
/-- an exception class without an own __init__ -/
structure EF0 (K : PySem.W.Frag) (mg : Str → Option Value) (x : Str) : Type where
  C : Addr
  at_ : mg x = some (.ref C)
  ex : PySem.W.excIn K C exBm "Exception.__new__" = true
  kp : PySem.W.keepIn K (.ref C) = true
section
variable {ρ : Sl} {S : Store} {Q : DQ} {E : DX} {te : DTE} {ta : DTA}
end
end DL

set_option maxRecDepth 100000
set_option maxHeartbeats 2000000
/-! DLX6: two lists of the same one object are not unlike; an instance made and left in the store. -/
namespace GQ
open PySem PySem.SeqAt
open AutoSeq1 (wpAny_loadPart')
open MeetsSeq MeetsSeq2 MeetsSeq3 SeqRoads2
section
variable {prog : Program} {w : World} {A : Around} {E : Value → Shared → Prop} {R : Result → Shared → Prop} {s : Shared}
end
end GQ
namespace DL
open PySem PySem.Spec L2
/-! ### C(..), left in the store -/
section
variable {X : Cx} {W : WX} {C f : Addr} {fd : FuncData} {k : Nat} {ps : List Str} {dsp : DSp} {dds : List D} {dvs : List V} {ds : List Value} {t : DTA} {x : Str} {p pos : Pos} {e : Expr} {es : List Expr}
end
end DL

set_option maxRecDepth 100000
set_option maxHeartbeats 2000000
/-! DK2: own [], in, not in, len of a class; == and != by an own == against a value of any kind. -/
namespace DL
open PySem PySem.Spec L2
section
variable {X : Cx} {W : WX} {k : Nat} {C f : Addr} {fd : FuncData} {ps : List Str} {dsp : DSp} {a b : Expr} {pos : Pos} {ta tb : TE} {da db : DTE}
/-! x[i] -/
/-! v in x -/
/-! len(x) -/
/-! x == v, x != v, v of any kind that has a type -/
/-- no instance of the class is of a built-in type of data -/
def NoSub (K : PySem.W.Frag) (C : Addr) : Prop := (tyOut.all fun t => decide (PySem.W.subIn K (.type t) (.ref C) = some false)) = true
theorem NoSub.at_ {K : PySem.W.Frag} {C : Addr} (h : NoSub K C) {t : String} (m : t ∈ tyOut) : PySem.W.subIn K (.type t) (.ref C) = some false := of_decide_eq_true (List.all_eq_true.mp h t m)
end
end DL

set_option maxRecDepth 100000
set_option maxHeartbeats 2000000
/-! DK3: == of tuples in which own instances stand. -/
namespace GQ
open PySem PySem.SeqAt
open AutoSeq1 (wpAny_loadPart')
open MeetsSeq MeetsSeq2 MeetsSeq3 SeqRoads2
section
variable {prog : Program} {w : World} {A : Around} {E : Value → Shared → Prop} {R : Result → Shared → Prop}
end
end GQ
namespace DL
open PySem PySem.Spec L2
mutual
/-- texts, numbers, truths, None, tuples and frozen instances of such -/
def simpleB : D → Bool
  | .non => true
  | .bl _ => true
  | .int _ => true
  | .str _ => true
  | .tup ds => simplesB ds
  | .obj _ _ ds => simplesB ds
  | _ => false
def simplesB : List D → Bool
  | [] => true
  | d :: ds => simpleB d && simplesB ds
end
section
variable {K : PySem.W.Frag} {F : Hp}
mutual
/-- one value stands for one such tree -/
theorem IsV.inj : ∀ (d e : D) (v : V), simpleB d = true → simpleB e = true → IsV K F d v → IsV K F e v → d = e
  | .non, e, v, _, g, h1, h2 => by
    cases h1
    cases h2
    rfl
  | .bl b, e, v, _, g, h1, h2 => by
    cases h1
    cases h2
    rfl
  | .int b, e, v, _, g, h1, h2 => by
    cases h1
    cases h2
    rfl
  | .str b, e, v, _, g, h1, h2 => by
    cases h1
    cases h2
    rfl
  | .tup ds, e, v, f, g, h1, h2 => by
    cases h1 with
    | tup a1 a2 =>
      cases h2 with
      | tup b1 b2 =>
        rw [a1] at b1
        cases b1
        rw [IsVs.inj ds _ _ f g a2 b2]
      | obj b0 b1 b2 b3 =>
        rw [a1] at b1
        cases b1
      | _ => cases g
  | .obj C ns ds, e, v, f, g, h1, h2 => by
    cases h1 with
    | obj a0 a1 a2 a3 =>
      cases h2 with
      | obj b0 b1 b2 b3 =>
        rw [a1] at b1
        cases b1
        rw [IsVs.inj ds _ _ f g a3 b3, ← a2, ← b2]
      | tup b1 b2 =>
        rw [a1] at b1
        cases b1
      | _ => cases g
  | .ty _, _, _, f, _, _, _ => by cases f
  | .ref _, _, _, f, _, _, _ => by cases f
  | .kup _, _, _, f, _, _, _ => by cases f
  | .ctp _, _, _, f, _, _, _ => by cases f
  | .lst _, _, _, f, _, _, _ => by cases f
  | .scr _, _, _, f, _, _, _ => by cases f
  | .dK _ _, _, _, f, _, _, _ => by cases f
  | .dT _ _, _, _, f, _, _, _ => by cases f
  | .kdK _ _, _, _, f, _, _, _ => by cases f
  | .dX _ _ _, _, _, f, _, _, _ => by cases f
  | .exc _ _ _, _, _, f, _, _, _ => by cases f
theorem IsVs.inj : ∀ (ds es : List D) (vs : List V), simplesB ds = true → simplesB es = true → IsVs K F ds vs → IsVs K F es vs → ds = es
  | [], es, vs, _, _, h1, h2 => by
    cases h1
    cases h2
    rfl
  | d :: ds, es, vs, f, g, h1, h2 => by
    cases h1 with
    | cons a1 a2 =>
      cases h2 with
      | cons b1 b2 =>
        have f' : (simpleB d && simplesB ds) = true := f
        rw [Bool.and_eq_true] at f'
        have g' := (Bool.and_eq_true _ _).mp g
        rw [IsV.inj d _ _ f'.1 g'.1 a1 b1, IsVs.inj ds _ _ f'.2 g'.2 a2 b2]
end
end
section
variable {X : Cx}
/-- what == answers of two trees -/
abbrev EqR := D → D → Bool → Prop
/-- .. alike trees are equal -/
def SelfEq (E : EqR) : Prop := ∀ d e r, E d e r → simpleB d = true ∧ simpleB e = true ∧ (d = e → r = true)
/-- == asked within a built-in -/
def EqT (X : Cx) (n : Nat) (E : EqR) : Prop :=
  ∀ (A : Around) (pins : List (Addr × Obj)) (s : Shared) (σ : L2.St) (H F : Hp) (Z : Addr → Prop) (S : Store) (d e : D) (x y : V) (u v : Value) (r : Bool), Room n A → A.guards = some [] → A.frames = X.A.frames → Inv X pins σ H s → Rel X.K Z H S F → IsV X.K F d x → IsV X.K F e y → RelV x u → RelV y v → E d e r →
    wpAny (model X.prog X.w) A (eqBool u v) (fun k s' => k = r ∧ ∃ H' F', Inv X pins σ H' s' ∧ Aft X.K Z H F H' S F') X.xe s
theorem EqT.mono {E : EqR} {n m : Nat} (h : EqT X n E) (hn : n ≤ m) : EqT X m E := fun A pins s σ H F Z S d e x y u v r hr => h A pins s σ H F Z S d e x y u v r (hr.mono hn)
theorem EqT.or {E E' : EqR} {n : Nat} (h : EqT X n E) (h' : EqT X n E') : EqT X n (fun d e r => E d e r ∨ E' d e r) := fun A pins s σ H F Z S d e x y u v r hr hgd fr I R id ie rx ry t =>
  t.elim (fun t => h A pins s σ H F Z S d e x y u v r hr hgd fr I R id ie rx ry t) fun t => h' A pins s σ H F Z S d e x y u v r hr hgd fr I R id ie rx ry t
theorem SelfEq.or {E E' : EqR} (h : SelfEq E) (h' : SelfEq E') : SelfEq (fun d e r => E d e r ∨ E' d e r) := fun d e r t => t.elim (h d e r) (h' d e r)
variable {W : WX} {a b : Expr} {ta tb : DTE} {pos : Pos}
end
end DL

set_option maxRecDepth 100000
set_option maxHeartbeats 2000000
/-! DK4: tuple(list) whose object is known; t.index(x) of such; len({text for ..}); any; list.extend; str(int); a.join; isinstance and None-tests of any value. -/
namespace DL
open PySem PySem.Spec L2
/-- no value of a built-in type of data is of the class -/
def NoKit (K : PySem.W.Frag) (C : Addr) : Prop := (tyOut.all fun t => decide (PySem.W.kitOne K (.type t) (.ref C) = some false)) = true
theorem NoKit.at_ {K : PySem.W.Frag} {C : Addr} (h : NoKit K C) {t : String} (m : t ∈ tyOut) : PySem.W.kitOne K (.type t) (.ref C) = some false := of_decide_eq_true (List.all_eq_true.mp h t m)
/-! isinstance(x, T), x a constant tuple -/
section
variable {X : Cx} {W : WX} {e o : Expr} {te to : DTE} {p pos apos : Pos}
/-! tuple(a list) -/
/-! any(list of truths) -/
/-! t.index(text) of a known tuple of texts -/
/-! xs.extend(list) -/
/-! a.join(texts), of a tuple, a list, a list of the store -/
/-! str(int) -/
/-! x is None, x is not None -/
end
/-! len({text for ..}) -/
section
variable {X : Cx}
variable {W : WX} {elt tg iter : Expr} {ifs : List Expr} {scope : Scope} {own : List (Str × Nat)} {p pos spos : Pos} {ti : DTI} {g : Tgt} {tt : DTT} {te : DTE}
end
end DL

set_option maxRecDepth 100000
set_option maxHeartbeats 2000000
/-! DK5: a value in a tuple of data, of any kind. -/
namespace DL
open PySem PySem.Spec L2
end DL

set_option maxRecDepth 100000
set_option maxHeartbeats 2000000
/-! DK6: sorted(t) of a tuple of texts. -/
namespace DL
open PySem PySem.Spec PyProof.Rows L2
section
open PySem.Spec PySem.W
variable {P : Program} {w : World} {A : Around} {E : Value → Shared → Prop} {s : Shared}
end
section
variable {X : Cx} {W : WX} {e : Expr} {te : DTE} {p pos : Pos}
end
/-- a comprehension that keeps some and lays them out anew -/
theorem lc_fm {tg : Tgt} {tt : DTT} {te : DTE} {ρ : Sl} {S : Store} {QA : List D → Store → Prop} {α : Type} (f g : α → D) (p : α → Bool) : ∀ (xs : List α) (acc : List D), (∀ x ∈ xs, ∃ ρ1, bindT tg (f x) ρ = some ρ1 ∧ (∀ QT : Bool → Store → Prop, QT (p x) S → tt ρ1 S QT (fun _ _ _ _ => False)) ∧ ∀ R : DQ, R (g x) S → te ρ1 S R (fun _ _ _ _ => False)) →
    QA (acc ++ (xs.filter p).map g) S → dLcGo tg tt te ρ (xs.map f) acc S QA
  | [], acc, _, q => by
    rw [List.filter_nil, List.map_nil, List.append_nil] at q
    exact q
  | x :: r, acc, h, q => by
    obtain ⟨ρ1, e, k1, k2⟩ := h x List.mem_cons_self
    refine ⟨ρ1, e, k1 _ ?_⟩
    cases hx : p x with
    | true =>
      refine iteT (k2 _ ?_)
      refine lc_fm f g p r (acc ++ [g x]) (fun d hd => h d (List.mem_cons_of_mem _ hd)) ?_
      rw [List.filter_cons, if_pos hx, List.map_cons] at q
      rw [List.append_assoc]
      exact q
    | false =>
      refine iteF ?_
      refine lc_fm f g p r acc (fun d hd => h d (List.mem_cons_of_mem _ hd)) ?_
      rw [List.filter_cons, if_neg (by rw [hx]; exact Bool.false_ne_true)] at q
      exact q
end DL

set_option maxRecDepth 100000
set_option maxHeartbeats 2000000
/-! DK7: xs + ys of lists, the result a list of the store. -/
namespace DL
open PySem PySem.Spec L2
/-! what a def that makes lambdas is told at the end -/
end DL

set_option maxRecDepth 100000
set_option maxHeartbeats 2000000
/-! DK8: dicts: list(d), list(d.items()), len(d), key in d, d == {} and d != {}. -/
namespace DL
open PySem PySem.Spec L2
theorem PR.keys {K : PySem.W.Frag} {F F' : Hp} {kds : List (Key × D)} {kvs : List (Key × V)} (h : PR K F kds kvs) : IsVs K F' (kds.map fun kd => keyD kd.1) (kvs.map fun kv => kV kv.1) := by
  induction h with
  | nil => exact .nil
  | cons _ _ ih => exact .cons (keyD_is _) ih
section
variable {X : Cx} {W : WX} {e o i : Expr} {te td ty : DTE} {p pos apos cpos : Pos}
/-! list(d) -/
/-! len(d) -/
/-! key in d -/
/-! d == {}, d != {} -/
end
end DL

set_option maxRecDepth 100000
set_option maxHeartbeats 2000000
/-! DK9: many new objects at once, all frozen; list(d.items()). -/
namespace DL
open PySem PySem.Spec L2
section
variable {K : PySem.W.Frag} {Z : Addr → Prop} {F F' H H' : Hp} {S : Store}
end
section
variable {X : Cx} {W : WX} {e o i : Expr} {te td ty : DTE} {p pos apos cpos : Pos}
open Classical in
end
end DL

set_option maxRecDepth 100000
set_option maxHeartbeats 2000000
/-! DK10: x, *ys = a list. -/
namespace DL
open PySem PySem.Spec PyProof.Rows L2
section
open PySem.W
variable {prog : Program} {w : World} {A : Around} {E : Value → Shared → Prop} {s : Shared}
end
section
variable {X : Cx} {W : WX} {pos : Pos} {x y : Str} {px py sp : Pos} {k : Nat} {i j : Nat}
end
end DL

set_option maxRecDepth 100000
set_option maxHeartbeats 2000000
/-! DK11: a try whose body raises nothing; the program's dict WIDTHS. -/
namespace DL
open PySem PySem.Spec L2
/-! the program's dict of widths -/
def widthOf (z : Str) : Option Nat := if z = "1" then some 1 else if z = "2" then some 2 else if z = "3" then some 3 else none
structure WidK (K : PySem.W.Frag) (w : World) (mg : Str → Option Value) : Prop where
  ex : ∃ (a : Addr) (es : Array DictEntry) (n : Nat), mg "WIDTHS" = some (.ref a) ∧ KDict K w a es n ∧ (∀ z, widthOf z = none → PySem.W.nsIn K a z = some none) ∧ ∀ z i, widthOf z = some i → ∃ t, PySem.W.nsIn K a z = some (some (.int (i : Nat) t))
section
variable {X : Cx} {W : WX} {e o : Expr} {te to : DTE} {pos : Pos} {a : Addr} {es : Array DictEntry} {n : Nat}
end
end DL

set_option maxRecDepth 100000
set_option maxHeartbeats 2000000
/-! DK12: s.split(t), a list that is not written; statements that are not reached. -/
namespace DL
open PySem PySem.Spec L2
section
variable {X : Cx} {W : WX} {te : DTE} {pos : Pos}
end
end DL

set_option maxRecDepth 100000
set_option maxHeartbeats 2000000
/-! DK13: o.m() of a method with *args. -/
namespace DL
open PySem PySem.Spec L2
section
variable {X : Cx} {W : WX} {k : Nat} {f g C : Addr} {sp : Sp} {dsp : DSp} {m : Str} {p pos apos : Pos} {e o : Expr} {ta : TE} {da : DTE}
theorem pe_methP0 {pl : Sem Bool} (he : PE X o ta) (c : Cls X.K C) (hm : Meth X.K C m f) (F : FnP X.prog X.w X.K X.mg X.base k f sp) (hr : Room k X.A) (hgd : X.A.guards = some []) (tk : L2N.Takes X W)
    (ht : eval (.Call (.Attribute o m apos) [] [] pos) X.env = (do
      let ov ← eval o X.env
      standAt apos.atName
      let (f, first) ← holding [ov] (getMethod ov m pl)
      callWith pos f first (backTo pos (starEach [] X.env)) (backToKw pos (keywordEach [] X.env))) := by rfl) : PE X (.Call (.Attribute o m apos) [] [] pos) (tMethG C m sp [] (WE W) ta tNil) := by
  refine ⟨fun pins s σ H Q I h => PySem.W.methodCall_KW (pl := pl) (thn (he.run pins s σ H _ I h) fun u s1 ⟨x, H1, I1, rx, a, dx, fs, ex, ea, l, q⟩ => ?_) ht⟩
  subst ex
  cases rx
  exact getmeth_ok I1 ea c hm l (PySem.W.callWith_K0 (first := [.ref a]) I1.kIn hm.kp (run_fnP (us := [.ref a]) (vs := [.ref a]) F hr hgd tk I1 (.cons rfl .nil) q))
theorem de_methP0 {pl : Sem Bool} (he : DE X W o da) (c : Cls X.K C) (hm : Meth X.K C m f) (F : FnP X.prog X.w X.K X.mg X.base k f (spD X.K dsp)) (hr : Room k X.A) (hgd : X.A.guards = some []) (tk : L2N.Takes X W)
    (ht : eval (.Call (.Attribute o m apos) [] [] pos) X.env = (do
      let ov ← eval o X.env
      standAt apos.atName
      let (f, first) ← holding [ov] (getMethod ov m pl)
      callWith pos f first (backTo pos (starEach [] X.env)) (backToKw pos (keywordEach [] X.env))) := by rfl) : DE X W (.Call (.Attribute o m apos) [] [] pos) (dMeth C m dsp [] da dNil) :=
  de_pe (pe_methP0 he.pe c hm F hr hgd tk ht) fun σ H P ⟨ρ, S, F, Z, Q, E, R, V, q, kk, x⟩ => ⟨ρ, S, F, Z, _, E, R, V, q, fun v H1 ⟨d, S1, F1, A1, i1, io, q1⟩ => by
    obtain ⟨a, dx, fs, rfl, e1, e2⟩ := isObj_at A1.rel io i1
    exact ⟨a, dx, fs, rfl, e1, e2, [d], S1, F1, Z, Q, E, A1.rel, .cons i1 .nil, q1, fun v H' h => kk v H' (lftE_tr A1 h), fun cls d H' h => x cls d H' (lftX_tr A1 h)⟩, x⟩
end
end DL

set_option maxRecDepth 100000
set_option maxHeartbeats 2000000
/-! DK14: key in d as a test; a dict of the store, frozen behind a statement. -/
namespace DL
open PySem PySem.Spec L2
section
variable {X : Cx} {W : WX} {o i : Expr} {td ty : DTE} {pos : Pos}
end
section
variable {X : Cx} {W : WX} {e : Expr} {te : DTE} {p pos : Pos}
end
theorem putD_new {κ : Type} [DecidableEq κ] {kds : List (κ × D)} {k : κ} {d : D} (h : k ∉ kds.map (·.1)) : putD kds k d = kds ++ [(k, d)] := by
  unfold putD
  rw [if_neg]
  intro hm
  obtain ⟨x, hx, e⟩ := List.any_eq_true.mp hm
  exact h (List.mem_map.mpr ⟨x, hx, of_decide_eq_true e⟩)
end DL

set_option maxRecDepth 100000
set_option maxHeartbeats 2000000
/-! DK15: raise X() of an own exception without an own __init__; an except suite that raises. -/
namespace DL
open PySem PySem.Spec PyProof.Rows L2
section
variable {X : Cx} {W : WX} {C : Addr} {x : Str} {p pos pos' : Pos} {bmB : List Value} {B newId initId : String}
/-- an own exception class without an own __init__, as the facts of a law tell it -/
structure EX0 (K : PySem.W.Frag) (mg : Str → Option Value) (x : Str) : Type where
  C : Addr
  at_ : mg x = some (.ref C)
  ex : PySem.W.excIn K C exBm "Exception.__new__" = true
  kp : PySem.W.keepIn K (.ref C) = true
  sub : PySem.W.subIn K (.ref C) (.type "BaseException") = some true
  ty : PySem.W.typeIn K (.ref C) = some (.type "type")
end
end DL

set_option maxRecDepth 100000
set_option maxHeartbeats 2000000
/-! DK16: a comprehension whose element raises (y = [..]). -/
namespace DL
open PySem PySem.Spec PyProof.Rows L2
section
variable {M : Model} {A : Around} {E : Value → Shared → Prop} {s s' : Shared} {Z : Obj → Prop} {base B : Heap} {env cenv : Env} {outer l : List Env} {L e : Addr} {m : Str → Option Value}
end
section
variable {X : Cx} {W : WX} {pins : List (Addr × Obj)} {σ : L2.St} {H : Hp} {s : Shared} {scope : Scope} {ce : Env} {fp : List Addr}
end
end DL
namespace DL
open PySem PySem.Spec PyProof.Rows L2
section
variable {X : Cx} {W : WX}
end
end DL

set_option maxRecDepth 100000
set_option maxHeartbeats 2000000
/-! DK17: y = [..] whose element raises; try with a clause that raises; defs whose exceptions may have a context. -/
namespace DL
open PySem PySem.Spec L2
/-! ### y = [..], the element may raise -/
section
variable {K : PySem.W.Frag} {W : WX} {ti : DTI} {g : Tgt} {tt : DTT} {te : DTE} {vs : List Nat}
end
section
variable {X : Cx} {W : WX} {elt tg iter : Expr} {ifs : List Expr} {scope : Scope} {own : List (Str × Nat)} {pos spos : Pos} {ti : DTI} {g : Tgt} {tt : DTT} {te : DTE}
end
/-! ### try: body except (A, B): a suite that may raise -/
section
variable {X : Cx} {x1 x2 : Str} {c1 c2 : Value} {body suite : List Stmt} {b₀ : Stmt} {np1 np2 tpos pos pos' : Pos} {kk : Nat} {tb : WX → TS} {ts : Addr → Value → Option Addr → TS} {Wout : WX}
end
section
variable {X : Cx} {W : WX}
end
/-! ### defs whose exceptions may have a context -/
structure FnW (P : Program) (w : World) (K : PySem.W.Frag) (mg : Str → Option Value) (base : Heap) (k : Nat) (f : Addr) (fd : FuncData) (ps : List Str) (sp : Sp) : Prop where
  len : ∀ vs H Q E, sp vs H Q E → vs.length = ps.length
  run : ∀ (A : Around) (outer : List Env) (s : Shared) (H : Hp) (args : Args) (us : List Value) (vs : List V) (Q : VK) (E : XK), Room k A → A.guards = some [] → Env0 P w K mg base A outer s H →
    BindsTo s fd args (ps.zip us) → Vals vs us → sp vs H Q E → codeAny (model P w) A (.call (.ref f) args) (CR (L2.CX P w) outer P w H s Q E) s
section
variable {P : Program} {w : World} {K : PySem.W.Frag} {mg : Str → Option Value} {base : Heap}
end
section
variable {X : Cx} {W : WX} {k : Nat} {f g C : Addr} {fd : FuncData} {ps : List Str} {dsp : DSp} {dvs : List V} {dds : List D} {ds : List Value} {x m : Str} {p pos apos : Pos} {e o fe : Expr} {es : List Expr} {kws : List Keyword} {ta tf : DTE} {t tkw : DTA}
end
end DL

set_option maxRecDepth 100000
set_option maxHeartbeats 2000000
/-! DK18: < of tuples of texts. -/
namespace DL
open PySem PySem.Spec L2
end DL

set_option maxRecDepth 100000
set_option maxHeartbeats 2000000
/-! DK19: int(text). -/
namespace DL
open PySem PySem.Spec L2
section
variable {X : Cx} {W : WX} {e : Expr} {te : DTE} {p pos : Pos}
end
end DL
namespace DL
open PySem PySem.Spec L2
end DL

set_option maxRecDepth 100000
set_option maxHeartbeats 2000000
/-! DK20: an __init__ with *args and one keyword-only parameter that has the empty tuple as default; the call of its class. -/
namespace DL
open PySem PySem.Spec L2
/-! ### calls with stars and keywords -/
/-! ### what such a call binds: self, two by name, the keyword-only one, the rest -/
inductive QB {α : Type} (dv : α) (kn pa pb : Str) : List Str → List α → List α → List α → List α → Prop
  | m0 (a b : α) (rest : List α) : QB dv kn pa pb [] (a :: b :: rest) [] [a, b, dv] rest
  | m1 (a b h : α) (rest : List α) : QB dv kn pa pb [kn] (a :: b :: rest) [h] [a, b, h] rest
  | m2 (a b h : α) : QB dv kn pa pb [kn, pb, pa] [] [h, b, a] [a, b, h] []
theorem QB.len {α : Type} {dv : α} {kn pa pb : Str} {ks : List Str} {xs zs ws rest : List α} (h : QB dv kn pa pb ks xs zs ws rest) : ws.length = 3 ∧ rest.length ≤ xs.length := by
  cases h <;> exact ⟨rfl, by simp only [List.length_cons, List.length_nil]; omega⟩
theorem isVs_nil {K : PySem.W.Frag} {F : Hp} {vs : List V} (h : IsVs K F [] vs) : vs = [] := by cases h; rfl
theorem QB.up {K : PySem.W.Frag} {F : Hp} {kn pa pb : Str} {ks : List Str} {E : Addr} (hE : SqT K F E []) {xs zs ws rest : List D} {vs us : List V} (h : QB (.ctp []) kn pa pb ks xs zs ws rest) (iv : IsVs K F xs vs) (iu : IsVs K F zs us) :
    ∃ w2 r2, QB (V.ref E) kn pa pb ks vs us w2 r2 ∧ IsVs K F ws w2 ∧ IsVs K F rest r2 := by
  cases h with
  | m0 =>
    cases isVs_nil iu
    match vs, iv with
    | _ :: _ :: _, .cons a (.cons b c) => exact ⟨_, _, .m0 _ _ _, .cons a (.cons b (.cons (.ctp hE .nil) .nil)), c⟩
  | m1 =>
    match vs, us, iv, iu with
    | _ :: _ :: _, [_], .cons a (.cons b c), .cons h .nil => exact ⟨_, _, .m1 _ _ _ _, .cons a (.cons b (.cons h .nil)), c⟩
  | m2 =>
    cases isVs_nil iv
    match us, iu with
    | [_, _, _], .cons h (.cons b (.cons a .nil)) => exact ⟨_, _, .m2 _ _ _, .cons a (.cons b (.cons h .nil)), .nil⟩
theorem QB.rel {kn pa pb : Str} {ks : List Str} {E : Addr} {vs us w2 r2 : List V} {xs zs : List Value} (h : QB (V.ref E) kn pa pb ks vs us w2 r2) (r : Vals vs xs) (rz : Vals us zs) :
    ∃ w3 r3, QB (Value.ref E) kn pa pb ks xs zs w3 r3 ∧ Vals w2 w3 ∧ Vals r2 r3 := by
  cases h with
  | m0 =>
    cases rz
    match xs, r with
    | _ :: _ :: _, .cons a (.cons b c) => exact ⟨_, _, .m0 _ _ _, .cons a (.cons b (.cons rfl .nil)), c⟩
  | m1 =>
    match xs, zs, r, rz with
    | _ :: _ :: _, [_], .cons a (.cons b c), .cons h .nil => exact ⟨_, _, .m1 _ _ _ _, .cons a (.cons b (.cons h .nil)), c⟩
  | m2 =>
    cases r
    match zs, rz with
    | [_, _, _], .cons h (.cons b (.cons a .nil)) => exact ⟨_, _, .m2 _ _ _, .cons a (.cons b (.cons h .nil)), .nil⟩
/-- the call binds us by name, the rest is a new tuple -/
def BStar (K : PySem.W.Frag) (fd : FuncData) (ps : List Str) (pv : Str) (args : Args) (us rest : List Value) : Prop :=
  ∀ (s : Shared), K.In s.heap → ∀ (M : Model) (A : Around) (Ex : Value → Shared → Prop) (Q : List (Str × Value) → Shared → Prop), wpAny M A (newTuple rest >>= fun t => pure (ps.zip us ++ [(pv, t)])) Q Ex s → wpAny M A (bindArgs fd args) Q Ex s
/-- .. by looking the default up first -/
def NsFirst {α : Type} (D : Addr) (kn : Str) (v : Value) (t r : Sem α) : Prop := ∃ (β γ : Type) (k1 : Option Value → Sem β) (k2 : β → Sem γ) (k3 : γ → Sem α) (a : β), t = ((nsGet D kn >>= k1) >>= k2) >>= k3 ∧ k1 (some v) = pure a ∧ (k2 a >>= k3) = r
theorem NsFirst.run {α : Type} {K : PySem.W.Frag} {D : Addr} {kn : Str} {v : Value} {t r : Sem α} (n : NsFirst D kn v t r) (hq : PySem.W.nsIn K D kn = some (some v)) {s : Shared} (X : K.In s.heap) {M : Model} {A : Around} {Ex : Value → Shared → Prop} {Q : α → Shared → Prop}
    (h : wpAny M A r Q Ex s) : wpAny M A t Q Ex s := by
  obtain ⟨β, γ, k1, k2, k3, a, e1, e2, e3⟩ := n
  rw [e1, bind_assoc, bind_assoc]
  refine wpAny_bind ((PySem.W.looks_nsIn X hq).here ?_)
  rw [e2]
  refine wpAny_bind (wpAny_pure ?_)
  rw [e3]
  exact h
/-- such a def, as it stands behind the top -/
structure FunQ (K : PySem.W.Frag) (x qual : Str) (st : Stmt) (kn : Str) (f : Addr) (fd : FuncData) (E : Addr) : Prop where
  ex : ∃ (oc : Value) (od : Option Addr) (D : Addr) (doc pm : Value) (an : Option Addr) (cdv ct : Value) (osl : Array (Option Value)),
    fd = PySem.W.fnOf x qual (defArgs st) (defBody st) (defScope st) .none (.ref D) doc pm an cdv ct ∧ K.lookup f = some ⟨oc, od, .func fd, osl⟩ ∧ PySem.W.codeIn K cdv qual = true ∧ PySem.W.nsIn K D kn = some (some (.ref E))
  kp : PySem.W.keepIn K (.ref f) = true
  em : ∀ F, SqT K F E []
abbrev BdQ (x qual : Str) (st : Stmt) (kn pa pb self pv : Str) : Prop := ∀ (D : Addr) (doc pm : Value) (an : Option Addr) (cdv ct a b c h r v : Value) (rs : List Value),
  (NsFirst D kn v (bindArgs (PySem.W.fnOf x qual (defArgs st) (defBody st) (defScope st) .none (.ref D) doc pm an cdv ct) ⟨[a, b, c], []⟩) (newTuple [] >>= fun t => pure ([self, pa, pb, kn].zip [a, b, c, v] ++ [(pv, t)]))) ∧
  (NsFirst D kn v (bindArgs (PySem.W.fnOf x qual (defArgs st) (defBody st) (defScope st) .none (.ref D) doc pm an cdv ct) ⟨a :: b :: c :: r :: rs, []⟩) (newTuple (r :: rs) >>= fun t => pure ([self, pa, pb, kn].zip [a, b, c, v] ++ [(pv, t)]))) ∧
  bindArgs (PySem.W.fnOf x qual (defArgs st) (defBody st) (defScope st) .none (.ref D) doc pm an cdv ct) ⟨[a, b, c], [(kn, h)]⟩ = (newTuple [] >>= fun t => pure ([self, pa, pb, kn].zip [a, b, c, h] ++ [(pv, t)])) ∧
  bindArgs (PySem.W.fnOf x qual (defArgs st) (defBody st) (defScope st) .none (.ref D) doc pm an cdv ct) ⟨a :: b :: c :: r :: rs, [(kn, h)]⟩ = (newTuple (r :: rs) >>= fun t => pure ([self, pa, pb, kn].zip [a, b, c, h] ++ [(pv, t)])) ∧
  bindArgs (PySem.W.fnOf x qual (defArgs st) (defBody st) (defScope st) .none (.ref D) doc pm an cdv ct) ⟨[a], [(kn, h), (pb, c), (pa, b)]⟩ = (newTuple [] >>= fun t => pure ([self, pa, pb, kn].zip [a, b, c, h] ++ [(pv, t)]))
theorem FunQ.binds {K : PySem.W.Frag} {x qual : Str} {st : Stmt} {kn pa pb self pv : Str} {f E : Addr} {fd : FuncData} (F : FunQ K x qual st kn f fd E) (b : BdQ x qual st kn pa pb self pv) {ks : List Str} {xs zs ws rest : List Value} (h : QB (Value.ref E) kn pa pb ks xs zs ws rest) (a : Value) :
    BStar K fd [self, pa, pb, kn] pv ⟨a :: xs, ks.zip zs⟩ (a :: ws) rest := by
  obtain ⟨oc, od, D, doc, pm, an, cdv, ct, osl, rfl, lk, hcd, hns⟩ := F.ex
  intro s X M A Ex Q q
  cases h with
  | m0 y z =>
    cases rest with
    | nil => exact (b D doc pm an cdv ct a y z z z (.ref E) []).1.run hns X q
    | cons r rs => exact (b D doc pm an cdv ct a y z z r (.ref E) rs).2.1.run hns X q
  | m1 y z g =>
    cases rest with
    | nil => exact (show wpAny M A (bindArgs _ ⟨[a, y, z], [(kn, g)]⟩) Q Ex s from by rw [(b D doc pm an cdv ct a y z g z z []).2.2.1]; exact q)
    | cons r rs => exact (show wpAny M A (bindArgs _ ⟨a :: y :: z :: r :: rs, [(kn, g)]⟩) Q Ex s from by rw [(b D doc pm an cdv ct a y z g r z rs).2.2.2.1]; exact q)
  | m2 y z g => exact (show wpAny M A (bindArgs _ ⟨[a], [(kn, g), (pb, z), (pa, y)]⟩) Q Ex s from by rw [(b D doc pm an cdv ct a y z g z z []).2.2.2.2]; exact q)
/-! ### THE RULE for such a def -/
def starN (n : Nat) (dsp : DSp) : DSp := fun ds S Q E => ∃ ws rest, ds = ws ++ rest ∧ ws.length = n ∧ rest.length ≤ sizeLine ∧ dsp (ws ++ [.tup rest]) S Q E
structure FnQ (P : Program) (w : World) (K : PySem.W.Frag) (mg : Str → Option Value) (base : Heap) (k : Nat) (f : Addr) (fd : FuncData) (ps : List Str) (pv : Str) (dsp : DSp) : Prop where
  run : ∀ (A : Around) (outer : List Env) (s : Shared) (H : Hp) (args : Args) (u1 u2 : List Value) (vs : List V) (Q : VK) (E : XK), Room k A → A.guards = some [] → Env0 P w K mg base A outer s H → BStar K fd ps pv args u1 u2 → u1.length = ps.length → Vals vs (u1 ++ u2) →
    spD K (starN ps.length dsp) vs H Q E → codeAny (model P w) A (.call (.ref f) args) (CR (L2N.CX P w) outer P w H s Q E) s
section
variable {P : Program} {w : World} {K : PySem.W.Frag} {mg : Str → Option Value} {base : Heap}
end
/-! ### the call of the class -/
section
variable {X : Cx} {W : WX} {k : Nat} {f C E0 : Addr} {fd : FuncData} {sp : Sp} {dsp : DSp} {x m qual kn pa pb self pv : Str} {st : Stmt} {p pos : Pos} {e : Expr} {es : List Expr} {kws : List Keyword} {ks : List Str} {da dk : DTA}
end
section
variable {X : Cx} {W : WX} {e : Expr} {es : List Expr} {te : DTE} {t : DTA} {p : Pos}
end
section
variable {ρ : Sl} {S : Store} {Q : DQ} {E : DX}
end
end DL

set_option maxRecDepth 100000
set_option maxHeartbeats 2000000
/-! DK21: tuples read weakly (ctp: any tuple, nothing known of its object); new tuples whose object is known (kup): displays, slices, the reverse, +; values of any kind; insert; min of three. -/
namespace DL
open PySem PySem.Spec L2
/-! ### the weak reading -/
mutual
def wk : D → D
  | .tup ds => .ctp (wks ds)
  | .kup ds => .ctp (wks ds)
  | .ctp ds => .ctp (wks ds)
  | .non => .non
  | .bl b => .bl b
  | .int i => .int i
  | .str x => .str x
  | .ty n => .ty n
  | .ref a => .ref a
  | .lst ds => .lst ds
  | .scr ds => .scr ds
  | .dK ks ds => .dK ks ds
  | .dT ks ds => .dT ks ds
  | .kdK ks ds => .kdK ks ds
  | .dX hf ks ds => .dX hf ks ds
  | .obj C ns ds => .obj C ns ds
  | .exc C ns ds => .exc C ns ds
def wks : List D → List D
  | [] => []
  | d :: ds => wk d :: wks ds
end
section
variable {K : PySem.W.Frag} {F : Hp}
mutual
theorem IsV.wk : ∀ (d : D) (v : V), IsV K F d v → IsV K F (DL.wk d) v
  | .tup ds, _, h => by
    cases h with
    | tup h1 h2 => unfold DL.wk; exact .ctp (SqT.of h1) (IsVs.wks ds _ h2)
  | .kup ds, _, h => by
    cases h with
    | kup h1 h0 h2 => unfold DL.wk; exact .ctp (.inl (.inr ⟨_, h1⟩)) (IsVs.wks ds _ h2)
  | .ctp ds, _, h => by
    cases h with
    | ctp h1 h2 => unfold DL.wk; exact .ctp h1 (IsVs.wks ds _ h2)
  | .non, _, h => by unfold DL.wk; exact h
  | .bl _, _, h => by unfold DL.wk; exact h
  | .int _, _, h => by unfold DL.wk; exact h
  | .str _, _, h => by unfold DL.wk; exact h
  | .ty _, _, h => by unfold DL.wk; exact h
  | .ref _, _, h => by unfold DL.wk; exact h
  | .lst _, _, h => by unfold DL.wk; exact h
  | .scr _, _, h => by unfold DL.wk; exact h
  | .dK _ _, _, h => by unfold DL.wk; exact h
  | .dT _ _, _, h => by unfold DL.wk; exact h
  | .kdK _ _, _, h => by unfold DL.wk; exact h
  | .dX _ _ _, _, h => by unfold DL.wk; exact h
  | .obj _ _ _, _, h => by unfold DL.wk; exact h
  | .exc _ _ _, _, h => by unfold DL.wk; exact h
theorem IsVs.wks : ∀ (ds : List D) (vs : List V), IsVs K F ds vs → IsVs K F (DL.wks ds) vs
  | [], _, h => by cases h; unfold DL.wks; exact .nil
  | d :: ds, _, h => by
    cases h with
    | cons h1 h2 => unfold DL.wks; exact .cons (IsV.wk d _ h1) (IsVs.wks ds _ h2)
end
theorem EnvR.wk {ρ : Sl} {σ : L2.St} (h : EnvR K F ρ σ) : EnvR K F (ρ.map (Option.map DL.wk)) σ := by
  refine ⟨by rw [List.length_map]; exact h.1, fun i d e => ?_⟩
  rw [List.getElem?_map] at e
  cases q : ρ[i]? with
  | none => rw [q] at e; cases e
  | some o =>
    rw [q] at e
    cases o with
    | none => cases e
    | some d0 =>
      cases e
      obtain ⟨v, e1, iv⟩ := h.2 i d0 q
      exact ⟨v, e1, IsV.wk d0 v iv⟩
end
section
variable {X : Cx} {W : WX} {e : Expr} {te : DTE} {st : List Stmt} {t : DTS}
end
/-! ### kinds -/
def tyK (S : Store) : D → Option String
  | .kup _ => some "tuple"
  | .ctp _ => some "tuple"
  | d => tyD S d
theorem tyK_D {S : Store} {d : D} {t : String} (e : tyD S d = some t) : tyK S d = some t := by
  cases d with
  | kup => cases e
  | ctp => cases e
  | _ => exact e
section
variable {K : PySem.W.Frag} {Z : Addr → Prop} {H F : Hp} {S : Store}
theorem tyX_sqt {a : Addr} {vs : List V} (h : SqT K H a vs) : TyX K H (.ref a) (.type "tuple") := by
  rcases h with (h | ⟨o, h⟩) | ⟨o, _, _, h, c, _⟩
  · exact .base (.tup h)
  · exact .fTuple h
  · exact .kTuple h c
theorem tyKx_of (R : Rel K Z H S F) {d : D} {v : V} {t : String} (iv : IsV K F d v) (e : tyK S d = some t) : ∃ tv, TyX K H v tv ∧ ∀ n ∈ tyIn, PySem.W.kitOne K tv (.type n) = some (isB t n) := by
  cases d with
  | kup =>
    cases e
    cases iv with
    | kup h1 h0 h2 => exact ⟨_, tyX_sqt (R.sqt (.inl (.inr ⟨_, h1⟩))), fun n hn => kit_ty (kit_is (by decide) hn)⟩
  | ctp =>
    cases e
    cases iv with
    | ctp h1 h2 => exact ⟨_, tyX_sqt (R.sqt h1), fun n hn => kit_ty (kit_is (by decide) hn)⟩
  | _ => exact tyK_of R iv (show tyD S _ = some t from e)
end
def rdIsiK : DRL := fun xs S Q => ∃ x n t, xs = [x, .ty n] ∧ tyK S x = some t ∧ n ∈ tyIn ∧ Q (.bl (isB t n)) S
theorem lift_isiK {K : PySem.W.Frag} : LiftL K (rIsi K) rdIsiK := by
  intro Z H S F x v Q P R iv ⟨x, n, t, hx, ht, hn, q⟩ k
  subst hx
  obtain ⟨u, w, rfl, i1, i2⟩ := isVs_two iv
  cases i2
  obtain ⟨tv, T, kt⟩ := tyKx_of R i1 ht
  exact ⟨_, _, _, _, _, rfl, .ty n, T, kt n hn, k _ _ ⟨_, S, F, .refl R, .bl _, q⟩⟩
theorem de_isiK {X : Cx} {W : WX} {e : Expr} {te : DTE} {x : Str} {n : String} {p p2 pos : Pos} (B : Bis X.mg) (hx : X.mg x = none) (hv : bootBuiltins x = some (.type n)) (he : DE X W e te) (hg : Gl X "isinstance" := by rfl) (hgx : Gl X x := by rfl) (hn : x ≠ "__name__" := by decide) (hd : (x == ("__debug__" : Str)) = false := by decide)
    (hs : starEach [e, .Name x p2] X.env = (false, eval e X.env) :: starEach [.Name x p2] X.env := by rfl) (hs2 : starEach [.Name x p2] X.env = (false, eval (.Name x p2) X.env) :: starEach [] X.env := by rfl) (hpl : (backTo pos (starEach [.Name x p2] X.env)).any (·.1) = false := by rfl) :
    DE X W (.Call (.Name "isinstance" p) [e, .Name x p2] [] pos) (dCB rdIsiK (dCons te (dCons (dC (.ty n)) dNil))) :=
  de_callB call_isi lift_isiK B.isi PyProof.Rows.boot_isinstance (da_cons he (da_cons (de_tyN hx hv hgx hn hd) da_nil hs2) hs) hg (by decide) (by decide) hs hpl
theorem s_isiK {x : D} {n t : String} {S : Store} {Q : DQ} (e : tyK S x = some t) (m : n ∈ tyIn) (h : Q (.bl (isB t n)) S) : rdIsiK [x, .ty n] S Q := ⟨x, n, t, rfl, e, m, h⟩
/-! ### tuples of any kind -/
def tupI : D → Option (List D)
  | .tup ds => some ds
  | .kup ds => some ds
  | .ctp ds => some ds
  | _ => none
section
variable {K : PySem.W.Frag} {Z : Addr → Prop} {H F : Hp} {S : Store}
theorem tup_sq (R : Rel K Z H S F) {d : D} {ds : List D} {v : V} (iv : IsV K F d v) (e : tupI d = some ds) : ∃ a vs, v = .ref a ∧ SqT K H a vs ∧ IsVs K F ds vs := by
  cases iv with
  | tup h1 h2 => cases e; exact ⟨_, _, rfl, R.sqt (SqT.of h1), h2⟩
  | kup h1 h0 h2 => cases e; exact ⟨_, _, rfl, R.sqt (.inl (.inr ⟨_, h1⟩)), h2⟩
  | ctp h1 h2 => cases e; exact ⟨_, _, rfl, R.sqt h1, h2⟩
  | _ => cases e
end
/-! ### new tuples whose object is known -/
section
variable {X : Cx} {W : WX} {es : List Expr} {e : Expr} {t : TA} {te : TE} {da : DTA} {td : DTE} {pos p1 p2 p3 : Pos} {k : Nat}
end
/-! t[lo:hi] of a known tuple: known -/
section
variable {X : Cx} {W : WX} {e : Expr} {te : DTE} {lo hi : Option Expr} {tl th : DTO} {pos p2 : Pos}
/-! ### list(x), x.insert(0, y), min of three -/
end
section
variable {X : Cx} {W : WX} {e o e1 e2 e3 : Expr} {te to t1 t2 t3 : DTE} {p pos apos cpos : Pos}
end
end DL

set_option maxRecDepth 100000
set_option maxHeartbeats 2000000
/-! DK22: sorted(set(x)) of pairs of a text and a tuple of texts. -/
namespace DL
open PySem PySem.Spec PySem.W PyProof.Rows L2
/-- a text and texts -/
abbrev Rule := Str × List Str
end DL
namespace DTS
open PySem PySem.Spec PyProof.Rows L2 DL
section
variable {P : Program} {w : World} {A : Around} {E : Value → Shared → Prop} {s : Shared}
/-- what such a key is -/
structure RAt (h : Heap) (r : Rule) (a : Addr) (b : Addr) (o o2 : Obj) (t : Tok) (vs : Array Value) (n n2 : Nat) (ts : List Value) : Prop where
  at1 : h.get? a = some o
  c1 : o.cls = .type "tuple"
  d1 : o.data = .seq vs n
  v1 : vs.toList = [.str r.1 t, .ref b]
  at2 : h.get? b = some o2
  c2 : o2.cls = .type "tuple"
  d2 : o2.data = .seq ts.toArray n2
  v2 : StrsAre ts r.2
end
section
variable {P : Program} {w : World} {A : Around} {E : Value → Shared → Prop} {s : Shared} {a : Addr}
set_option maxHeartbeats 4000000 in
end
end DTS
namespace DL
open PySem PySem.Spec L2 DTS
section
variable {K : PySem.W.Frag} {F : Hp}
end
section
variable {X : Cx} {W : WX} {e : Expr} {ta : TE} {te : DTE} {p p2 q pos : Pos}
end
end DL

set_option maxRecDepth 100000
set_option maxHeartbeats 2000000
/-! DK23: the record of an __init__ with *args and a keyword-only default; isinstance of a caught exception, several classes; own == against values of other kinds; the kind of a value against the empty tuple. -/
namespace DL
open PySem PySem.Spec L2
structure MFQ (K : PySem.W.Frag) (C : Addr) (m qual : Str) (st : Stmt) (kn : Str) : Type where
  f : Addr
  fd : FuncData
  E : Addr
  F : FunQ K m qual st kn f fd E
  at_ : Meth K C m f
def MFQ.of {K : PySem.W.Frag} {x qual kn : Str} {st : Stmt} {f C D E : Addr} {oc : Value} {od an de : Option Addr} {osl sle : Array (Option Value)} {doc pm cdv ct : Value} {ne : Nat} (a : PySem.W.findIn K (.ref C) x = some (some (.ref f))) (i : PySem.W.isFn K (.ref f) = true)
    (l : K.lookup f = some ⟨oc, od, .func (PySem.W.fnOf x qual (defArgs st) (defBody st) (defScope st) .none (.ref D) doc pm an cdv ct), osl⟩) (c : PySem.W.codeIn K cdv qual = true) (k : PySem.W.keepIn K (.ref f) = true)
    (h : PySem.W.nsIn K D kn = some (some (.ref E))) (lE : K.lookup E = some ⟨.type "tuple", de, .seq #[] ne, sle⟩) : MFQ K C x qual st kn :=
  ⟨f, _, E, ⟨⟨oc, od, D, doc, pm, an, cdv, ct, osl, rfl, l, c, h⟩, k, fun F => .inr ⟨_, #[], ne, lE, rfl, rfl, by rw [sizeLine_eq]; simp, .nil⟩⟩, ⟨a, i, k⟩⟩
/-! isinstance(e, (A, B, ..)) of a caught exception -/
section
variable {X : Cx} {a C : Addr} {Cs : List Addr} {oe : Obj} {cls : Value} {d : Option Addr} {pn : List (Addr × Obj)} {b : Bool}
end
/-! own == and != against a value of another kind: a tuple of any kind, an instance of another class -/
section
variable {X : Cx} {k : Nat} {C f : Addr} {fd : FuncData} {ps : List Str} {dsp : DSp}
end
end DL

set_option maxRecDepth 100000
set_option maxHeartbeats 2000000
/-! DK24: the tray of a law (a dict with the keys cells, mix, turn); steps for the texts DK20 .. DK23. -/
namespace DL
open PySem PySem.Spec L2
abbrev trayKs : List Key := [.inr "cells", .inr "mix", .inr "turn"]
section
variable {x y z d : D}
end
/-- the tray at a, its list at L: k draws may still come -/
structure Tray (S : Store) (a L : Addr) (k : Nat) : Prop where
  ex : ∃ (ns : List Int) (t d : Int), S a = some (.dK trayKs [.ref L, .int t, .int d]) ∧ S L = some (.lst (ns.map .int)) ∧ ns.length ≤ 63 ∧ 0 ≤ t ∧ t < 2147483648 ∧ 0 ≤ d ∧ d + k ≤ 2 ^ 40
  ne : L ≠ a
theorem Tray.mono {S : Store} {a L : Addr} {j k : Nat} (D : Tray S a L k) (h : j ≤ k) : Tray S a L j := by
  obtain ⟨⟨ns, t, d, h1, h2, h3, h4, h5, h6, h7⟩, n⟩ := D
  exact ⟨⟨ns, t, d, h1, h2, h3, h4, h5, h6, by omega⟩, n⟩
theorem Tray.put_off {S : Store} {a L b : Addr} {k : Nat} {m : M} (D : Tray S a L k) (h1 : b ≠ a) (h2 : b ≠ L) : Tray (put S b m) a L k := by
  obtain ⟨⟨ns, t, d, g1, g2, h⟩, n⟩ := D
  exact ⟨⟨ns, t, d, by rw [put_ne (Ne.symm h1)]; exact g1, by rw [put_ne (Ne.symm h2)]; exact g2, h⟩, n⟩
theorem Tray.a_some {S : Store} {a L : Addr} {k : Nat} (D : Tray S a L k) {b : Addr} (h : S b = none) : b ≠ a ∧ b ≠ L := by
  obtain ⟨⟨ns, t, d, g1, g2, _⟩, _⟩ := D
  exact ⟨fun e => (by rw [e, g1] at h; cases h), fun e => (by rw [e, g2] at h; cases h)⟩
theorem Tray.ext {S S' : Store} {a L : Addr} {k : Nat} (D : Tray S a L k) (h : Ext S S') : Tray S' a L k := by
  obtain ⟨⟨ns, t, d, h1, h2, h3⟩, n⟩ := D
  exact ⟨⟨ns, t, d, h _ _ h1, h _ _ h2, h3⟩, n⟩
/-! steps -/
section
variable {S : Store} {Q : DQ} {ds : List D}
end
end DL

set_option maxRecDepth 100000
set_option maxHeartbeats 2000000
/-! DK25: a.join of a tuple of any kind. -/
namespace DL
open PySem PySem.Spec L2
section
variable {X : Cx} {W : WX} {e o : Expr} {te to : DTE} {p pos apos : Pos}
end
/-! isinstance of an own class, the value perhaps a tuple of any kind -/
/-! the weak reading, told -/
end DL

set_option maxRecDepth 100000
set_option maxHeartbeats 2000000
/-! DK26: list(text); a reflected ==. -/
namespace DL
open PySem PySem.Spec L2
section
variable {X : Cx} {W : WX} {e : Expr} {te : DTE} {p pos : Pos}
end
end DL

set_option maxRecDepth 100000
set_option maxHeartbeats 2000000
/-! DK27: == of a value that is no tuple and a tuple; slices and + of tuples of any kind, the kind kept. -/
namespace DL
section
open PySem PySem.SeqAt
end
open PySem PySem.Spec L2
section
variable {X : Cx}
end
/-! slices and + of tuples of any kind, the kind kept -/
section
variable {K : PySem.W.Frag} {F : Hp}
end
section
variable {X : Cx} {W : WX} {e : Expr} {te : DTE} {lo hi : Option Expr} {tl th : DTO} {pos p2 : Pos}
end
end DL

set_option maxRecDepth 100000
set_option maxHeartbeats 2000000
/-! DK28: == of a tuple and an instance with an own == (the tuple declines, the instance is asked). -/
namespace DL
section
open PySem PySem.Spec PySem.SeqAt
end
open PySem PySem.Spec L2
section
variable {X : Cx} {k : Nat} {f C : Addr} {fd : FuncData} {ps : List Str}
end
end DL

set_option maxRecDepth 100000
set_option maxHeartbeats 2000000
/-! DK29: the drum of a law (a dict with the keys cells, mix, beats). -/
namespace DL
open PySem PySem.Spec L2
abbrev drumKs : List Key := [.inr "cells", .inr "mix", .inr "beats"]
section
variable {x y z d : D}
end
/-- the drum at a, its list at L: k draws may still come -/
structure Drum (S : Store) (a L : Addr) (k : Nat) : Prop where
  ex : ∃ (ns : List Int) (t d : Int), S a = some (.dK drumKs [.ref L, .int t, .int d]) ∧ S L = some (.lst (ns.map .int)) ∧ ns.length ≤ 63 ∧ 0 ≤ t ∧ t < 2147483648 ∧ 0 ≤ d ∧ d + k ≤ 2 ^ 40
  ne : L ≠ a
theorem Drum.mono {S : Store} {a L : Addr} {j k : Nat} (D : Drum S a L k) (h : j ≤ k) : Drum S a L j := by
  obtain ⟨⟨ns, t, d, h1, h2, h3, h4, h5, h6, h7⟩, n⟩ := D
  exact ⟨⟨ns, t, d, h1, h2, h3, h4, h5, h6, by omega⟩, n⟩
theorem Drum.put_off {S : Store} {a L b : Addr} {k : Nat} {m : M} (D : Drum S a L k) (h1 : b ≠ a) (h2 : b ≠ L) : Drum (put S b m) a L k := by
  obtain ⟨⟨ns, t, d, g1, g2, h⟩, n⟩ := D
  exact ⟨⟨ns, t, d, by rw [put_ne (Ne.symm h1)]; exact g1, by rw [put_ne (Ne.symm h2)]; exact g2, h⟩, n⟩
theorem Drum.a_some {S : Store} {a L : Addr} {k : Nat} (D : Drum S a L k) {b : Addr} (h : S b = none) : b ≠ a ∧ b ≠ L := by
  obtain ⟨⟨ns, t, d, g1, g2, _⟩, _⟩ := D
  exact ⟨fun e => (by rw [e, g1] at h; cases h), fun e => (by rw [e, g2] at h; cases h)⟩
theorem Drum.ext {S S' : Store} {a L : Addr} {k : Nat} (D : Drum S a L k) (h : Ext S S') : Drum S' a L k := by
  obtain ⟨⟨ns, t, d, h1, h2, h3⟩, n⟩ := D
  exact ⟨⟨ns, t, d, h _ _ h1, h _ _ h2, h3⟩, n⟩
end DL

set_option maxRecDepth 100000
set_option maxHeartbeats 2000000
/-! DK30: zip of two tuples: list(zip(s, t)), dict(zip(s, t)) with texts as keys. -/
namespace DLZ
open PySem
open PySem.Sem (wp)
section
variable {prog : Program} {w : World} {A : Around} {E : Value → Shared → Prop} {s : Shared}
end
end DLZ
namespace DL
open PySem PySem.Spec L2
section
variable {X : Cx} {e1 e2 : Expr} {t : TA} {p p2 q pos : Pos}
end
section
variable {X : Cx} {W : WX} {e1 e2 : Expr} {t : DTA} {p p2 q pos : Pos}
end
end DL

set_option maxRecDepth 100000
set_option maxHeartbeats 2000000
/-! DK31: for a, b in zip(tuple, tuple), of any kinds and lengths. -/
namespace DL
open PySem PySem.Spec PyProof.Rows L2
section
variable {X : Cx}
end
section
variable {X : Cx} {e1 e2 : Expr} {ta : TA} {p pos tpos : Pos} {elts : List Expr} {kk : Nat}
end

section
variable {X : Cx} {W : WX} {e1 e2 : Expr} {t : DTA} {p pos tpos : Pos} {elts : List Expr} {kk : Nat}
end
end DL

set_option maxRecDepth 100000
set_option maxHeartbeats 2000000
/-! DK32: key not in d; tuple * n from n = 1 on; dict(d). -/
namespace DL
section
open PySem PySem.Spec PySem.SeqAt L2
end
open PySem PySem.Spec L2
section
variable {X : Cx} {W : WX} {o i e : Expr} {td ty te : DTE} {p pos : Pos}
end
/-! tuple * n -/
section
variable {X : Cx}
end
/-! dict(d), a dict of the store -/
section
variable {X : Cx} {W : WX} {e : Expr} {te : DTE} {p pos : Pos}
end
end DL

set_option maxRecDepth 100000
set_option maxHeartbeats 2000000
/-! DK33: a def called by keywords alone. -/
namespace DL
open PySem PySem.Spec L2
section
variable {X : Cx} {W : WX} {k : Nat} {f : Addr} {fd : FuncData} {ps : List Str} {x : Str} {p pos : Pos}
end
end DL

set_option maxRecDepth 100000
set_option maxHeartbeats 2000000
/-! DK34: the sack of a law (a dict with the keys cells, sum, at). -/
namespace DL
open PySem PySem.Spec L2
abbrev sackKs : List Key := [.inr "cells", .inr "sum", .inr "at"]
section
variable {x y z d : D}
end
/-- the sack at a, its list at L: k draws may still come -/
structure Sack (S : Store) (a L : Addr) (k : Nat) : Prop where
  ex : ∃ (ns : List Int) (t d : Int), S a = some (.dK sackKs [.ref L, .int t, .int d]) ∧ S L = some (.lst (ns.map .int)) ∧ ns.length ≤ 63 ∧ 0 ≤ t ∧ t < 1099511627776 ∧ 0 ≤ d ∧ d + k ≤ 2 ^ 40
  ne : L ≠ a
theorem Sack.mono {S : Store} {a L : Addr} {j k : Nat} (D : Sack S a L k) (h : j ≤ k) : Sack S a L j := by
  obtain ⟨⟨ns, t, d, h1, h2, h3, h4, h5, h6, h7⟩, n⟩ := D
  exact ⟨⟨ns, t, d, h1, h2, h3, h4, h5, h6, by omega⟩, n⟩
theorem Sack.put_off {S : Store} {a L b : Addr} {k : Nat} {m : M} (D : Sack S a L k) (h1 : b ≠ a) (h2 : b ≠ L) : Sack (put S b m) a L k := by
  obtain ⟨⟨ns, t, d, g1, g2, h⟩, n⟩ := D
  exact ⟨⟨ns, t, d, by rw [put_ne (Ne.symm h1)]; exact g1, by rw [put_ne (Ne.symm h2)]; exact g2, h⟩, n⟩
theorem Sack.a_some {S : Store} {a L : Addr} {k : Nat} (D : Sack S a L k) {b : Addr} (h : S b = none) : b ≠ a ∧ b ≠ L := by
  obtain ⟨⟨ns, t, d, g1, g2, _⟩, _⟩ := D
  exact ⟨fun e => (by rw [e, g1] at h; cases h), fun e => (by rw [e, g2] at h; cases h)⟩
theorem Sack.ext {S S' : Store} {a L : Addr} {k : Nat} (D : Sack S a L k) (h : Ext S S') : Sack S' a L k := by
  obtain ⟨⟨ns, t, d, h1, h2, h3⟩, n⟩ := D
  exact ⟨⟨ns, t, d, h _ _ h1, h _ _ h2, h3⟩, n⟩
end DL

set_option maxRecDepth 100000
set_option maxHeartbeats 2000000
/-! DK35: sum(list of whole numbers); for i, x in enumerate(list). -/
namespace DL
open PySem PySem.Spec PyProof.Rows L2
section
variable {X : Cx} {W : WX} {e : Expr} {te : DTE} {p pos tpos : Pos} {elts : List Expr} {kk : Nat}
/-! enumerate(list) -/
end
end DL

set_option maxRecDepth 100000
set_option maxHeartbeats 2000000
/-! DK36: try: body except X: a suite that raises; cls(.., *y, k = v) in a classmethod, the __init__ with *args and a keyword-only default. -/
namespace DL
open PySem PySem.Spec PyProof.Rows L2
section
variable {X : Cx} {W : WX} {k : Nat} {f C E0 : Addr} {fd : FuncData} {sp : Sp} {dsp : DSp} {x m qual kn pa pb self pv : Str} {st : Stmt} {p pos : Pos} {e : Expr} {es : List Expr} {kws : List Keyword} {ks : List Str} {da dk : DTA}
end
section
variable {X : Cx} {W : WX}
end
end DL

/-! DK37: a def called without arguments. -/
namespace DL
open PySem PySem.Spec L2
end DL

set_option maxRecDepth 100000
set_option maxHeartbeats 2000000
/-! DK38: sorted(set(list of pairs of a text and a tuple of texts)). -/
namespace DL
open PySem PySem.Spec PySem.W PyProof.Rows L2 DLS DTS DL
section
variable {X : Cx} {W : WX} {e : Expr} {ta : TE} {te : DTE} {p p2 q pos : Pos}
end
end DL

set_option maxRecDepth 100000
/-! DK39: a op b op c as a value. -/
namespace DL
open PySem PySem.Spec L2
end DL

set_option maxRecDepth 100000
/-! DK40: text >= text. -/
namespace DL
open PySem PySem.Spec L2
end DL

set_option maxRecDepth 100000
/-! DK41: (text, texts) >= (text, texts). -/
namespace DL
open PySem PySem.Spec PySem.W L2
end DL

set_option maxRecDepth 100000
set_option maxHeartbeats 2000000
/-! DK42: try: .. except X as n: a calm suite, around weak calls; isinstance of what was caught, with fields or without. -/
namespace DL
open PySem PySem.Spec L2
section
variable {X : Cx} {W : WX}
end
section
variable {X : Cx} {a C C2 : Addr} {oe : Obj} {cls : Value} {d : Option Addr} {pn : List (Addr × Obj)} {b : Bool}
end
end DL

set_option maxRecDepth 100000
set_option maxHeartbeats 2000000
/-! DK43: the purse of a law (a dict with the keys cells, state, drawn). -/
namespace DL
open PySem PySem.Spec L2
abbrev purseKs : List Key := [.inr "cells", .inr "state", .inr "drawn"]
section
variable {x y z d : D}
end
/-- the purse at a, its list at L: k draws may still come -/
structure Purse (S : Store) (a L : Addr) (k : Nat) : Prop where
  ex : ∃ (ns : List Int) (t d : Int), S a = some (.dK purseKs [.ref L, .int t, .int d]) ∧ S L = some (.lst (ns.map .int)) ∧ ns.length ≤ 63 ∧ 0 ≤ t ∧ t < 1099511627776 ∧ 0 ≤ d ∧ d + k ≤ 2 ^ 40
  ne : L ≠ a
theorem Purse.mono {S : Store} {a L : Addr} {j k : Nat} (D : Purse S a L k) (h : j ≤ k) : Purse S a L j := by
  obtain ⟨⟨ns, t, d, h1, h2, h3, h4, h5, h6, h7⟩, n⟩ := D
  exact ⟨⟨ns, t, d, h1, h2, h3, h4, h5, h6, by omega⟩, n⟩
theorem Purse.put_off {S : Store} {a L b : Addr} {k : Nat} {m : M} (D : Purse S a L k) (h1 : b ≠ a) (h2 : b ≠ L) : Purse (put S b m) a L k := by
  obtain ⟨⟨ns, t, d, g1, g2, h⟩, n⟩ := D
  exact ⟨⟨ns, t, d, by rw [put_ne (Ne.symm h1)]; exact g1, by rw [put_ne (Ne.symm h2)]; exact g2, h⟩, n⟩
theorem Purse.a_some {S : Store} {a L : Addr} {k : Nat} (D : Purse S a L k) {b : Addr} (h : S b = none) : b ≠ a ∧ b ≠ L := by
  obtain ⟨⟨ns, t, d, g1, g2, _⟩, _⟩ := D
  exact ⟨fun e => (by rw [e, g1] at h; cases h), fun e => (by rw [e, g2] at h; cases h)⟩
theorem Purse.ext {S S' : Store} {a L : Addr} {k : Nat} (D : Purse S a L k) (h : Ext S S') : Purse S' a L k := by
  obtain ⟨⟨ns, t, d, h1, h2, h3⟩, n⟩ := D
  exact ⟨⟨ns, t, d, h _ _ h1, h _ _ h2, h3⟩, n⟩
end DL

set_option maxRecDepth 100000
set_option maxHeartbeats 2000000
/-! DK44: dict comprehensions, a dict of the store. -/
namespace DL
open PySem PySem.Spec L2
theorem PR.up {κ : Type} {K : PySem.W.Frag} {F F' : Hp} {ds : List (κ × D)} {vs : List (κ × V)} (h : PR K F ds vs) (s : Same F F') : PR K F' ds vs := by
  induction h with
  | nil => exact .nil
  | cons h1 _ ih => exact .cons (h1.up s) ih
section
variable {K : PySem.W.Frag} {W : WX} {ti : DTI} {g : Tgt} {tt : DTT} {tk tv : DTE} {vs : List Nat}
end
section
variable {X : Cx} {W : WX} {kx vx tg iter : Expr} {ifs : List Expr} {scope : Scope} {own : List (Str × Nat)} {pos : Pos} {ti : DTI} {g : Tgt} {tt : DTT} {tk tv : DTE}
end
end DL

set_option maxRecDepth 100000
set_option maxHeartbeats 2000000
/-! DK45: a, b, .. = a list; l.insert(i, x). -/
namespace DL
open PySem PySem.Spec L2
section
variable {X : Cx} {W : WX} {e : Expr} {te : DTE} {pos : Pos}
end
section
variable {X : Cx} {W : WX} {o e1 e2 : Expr} {to : DTE} {apos cpos : Pos}
end
end DL

set_option maxRecDepth 100000
set_option maxHeartbeats 2000000
/-! DK46: sorted(list of pairs of a text and a tuple of texts), read weakly. -/
namespace DL
open PySem PySem.Spec PySem.W L2
section
variable {X : Cx} {W : WX} {e : Expr} {te : DTE} {p pos : Pos}
end
end DL

set_option maxRecDepth 100000
set_option maxHeartbeats 2000000
/-! DK47: the hand of a law (a list: the numbers that are left, a number mixed from all, how many draws there were). -/
namespace DL
open PySem PySem.Spec L2
/-- the hand at a, its list at L: k draws may still come -/
structure Hand (S : Store) (a L : Addr) (k : Nat) : Prop where
  ex : ∃ (ns : List Int) (t d : Int), S a = some (.lst [.ref L, .int t, .int d]) ∧ S L = some (.lst (ns.map .int)) ∧ ns.length ≤ 63 ∧ 0 ≤ t ∧ t < 1099511627776 ∧ 0 ≤ d ∧ d + k ≤ 2 ^ 40
  ne : L ≠ a
theorem Hand.mono {S : Store} {a L : Addr} {j k : Nat} (D : Hand S a L k) (h : j ≤ k) : Hand S a L j := by
  obtain ⟨⟨ns, t, d, h1, h2, h3, h4, h5, h6, h7⟩, n⟩ := D
  exact ⟨⟨ns, t, d, h1, h2, h3, h4, h5, h6, by omega⟩, n⟩
theorem Hand.put_off {S : Store} {a L b : Addr} {k : Nat} {m : M} (D : Hand S a L k) (h1 : b ≠ a) (h2 : b ≠ L) : Hand (put S b m) a L k := by
  obtain ⟨⟨ns, t, d, g1, g2, h⟩, n⟩ := D
  exact ⟨⟨ns, t, d, by rw [put_ne (Ne.symm h1)]; exact g1, by rw [put_ne (Ne.symm h2)]; exact g2, h⟩, n⟩
theorem Hand.a_some {S : Store} {a L : Addr} {k : Nat} (D : Hand S a L k) {b : Addr} (h : S b = none) : b ≠ a ∧ b ≠ L := by
  obtain ⟨⟨ns, t, d, g1, g2, _⟩, _⟩ := D
  exact ⟨fun e => (by rw [e, g1] at h; cases h), fun e => (by rw [e, g2] at h; cases h)⟩
theorem Hand.ext {S S' : Store} {a L : Addr} {k : Nat} (D : Hand S a L k) (h : Ext S S') : Hand S' a L k := by
  obtain ⟨⟨ns, t, d, h1, h2, h3⟩, n⟩ := D
  exact ⟨⟨ns, t, d, h _ _ h1, h _ _ h2, h3⟩, n⟩
theorem Hand.del {S : Store} {a L p : Addr} {k : Nat} (D : Hand S a L k) (h1 : p ≠ a) (h2 : p ≠ L) : Hand (DL.del S p) a L k := by
  obtain ⟨⟨ns, t, d, g1, g2, g3⟩, nn⟩ := D
  exact ⟨⟨ns, t, d, by rw [DL.del_ne (Ne.symm h1)]; exact g1, by rw [DL.del_ne (Ne.symm h2)]; exact g2, g3⟩, nn⟩
section
variable {S : Store} {a : Addr} {x0 x1 x2 : D} {Q : DQ}
end
end DL

set_option maxRecDepth 100000
set_option maxHeartbeats 2000000
/-! DK48: while; == and != of dicts of the store whose values are data. -/
namespace DL
open PySem PySem.Spec PyProof.Rows L2
section
variable {X : Cx} {W : WX} {c : Expr} {body : List Stmt} {tc : DTT} {tb : DTS} {pos : Pos}
end
/-! dicts -/
end DL

set_option maxRecDepth 100000
set_option maxHeartbeats 4000000
/-! DK49: for i, x in enumerate(tuple). -/
namespace DL
section
open PySem
open Sem (wp)
open AutoSeq1 (wpAny_loadPart')
end
section
open PySem PySem.Spec PyProof.Rows L2
end
end DL

set_option maxRecDepth 100000
set_option maxHeartbeats 4000000
/-! DK50: dict(tuple of pairs), the tuple known to have no dict of its own. -/
namespace DL
section
open PySem PySem.Spec PyProof.Rows L2
section
variable {prog : Program} {w : World} {A : Around} {E : Value → Shared → Prop}
end
end
section
open PySem PySem.Spec PyProof.Rows L2
section
variable {X : Cx} {W : WX} {e : Expr} {te : DTE} {p pos : Pos}
end
end
end DL

set_option maxRecDepth 100000
set_option maxHeartbeats 2000000
/-! DK51: repr of what stands in the store; x in a list of the store. -/
namespace DL
open PySem PySem.Spec PyProof.Rows L2
/-! repr -/
section
variable {X : Cx} {W : WX} {e : Expr} {te : DTE} {p pos : Pos}
end
/-! x in a list of the store -/
end DL

set_option maxRecDepth 100000
set_option maxHeartbeats 2000000
/-! DNA: narrowing, in plain Lean: candidates by fields; a rule (rows, fields) removes what no possible row has; what is left at the end depends only on the set of the rules. -/
namespace DL.Nar
section
variable {α : Type} [DecidableEq α]
abbrev G (α : Type) := α → List α
abbrev Rl (α : Type) := List (List α) × List α
/-- every value of a row is a candidate at its place -/
def fitR (g : G α) (fs row : List α) : Bool := (fs.zip row).all fun p => decide (p.2 ∈ g p.1)
def poss (g : G α) (r : Rl α) : List (List α) := r.1.filter (fitR g r.2)
def hasAt (rows : List (List α)) (p : Nat) (v : α) : Bool := rows.any fun row => decide (row[p]? = some v)
/-- a value of a field stays -/
def keepV (rows : List (List α)) (fs : List α) (f v : α) : Bool := (List.range fs.length).all fun p => !decide (fs[p]? = some f) || hasAt rows p v
def step (g : G α) (r : Rl α) : G α := fun f => (g f).filter (keepV (poss g r) r.2 f)
def pass (rs : List (Rl α)) (g : G α) : G α := rs.foldl step g
def iter (rs : List (Rl α)) : Nat → G α → G α
  | 0, g => g
  | k + 1, g => pass rs (iter rs k g)
/-- what narrowing leaves -/
def IsLim (rs : List (Rl α)) (g h : G α) : Prop := (∃ k, h = iter rs k g) ∧ pass rs h = h
/-- fewer candidates -/
def Le (h g : G α) : Prop := ∀ f, (h f).Sublist (g f)
theorem Le.refl (g : G α) : Le g g := fun _ => List.Sublist.refl _
theorem Le.trans {a b c : G α} (h : Le a b) (k : Le b c) : Le a c := fun f => (h f).trans (k f)
theorem Le.antisymm {a b : G α} (h : Le a b) (k : Le b a) : a = b := funext fun f => (h f).eq_of_length (Nat.le_antisymm (h f).length_le (k f).length_le)
theorem filter_mono {β : Type} {p q : β → Bool} (h : ∀ x, p x = true → q x = true) : ∀ l : List β, (l.filter p).Sublist (l.filter q)
  | [] => by simp
  | x :: l => by
    by_cases hp : p x = true
    · rw [List.filter_cons_of_pos hp, List.filter_cons_of_pos (h x hp)]
      exact (filter_mono h l).cons_cons x
    · rw [List.filter_cons_of_neg hp]
      by_cases hq : q x = true
      · rw [List.filter_cons_of_pos hq]
        exact (filter_mono h l).cons x
      · rw [List.filter_cons_of_neg hq]
        exact filter_mono h l
theorem fit_mono {a b : G α} (h : Le a b) {fs row : List α} (e : fitR a fs row = true) : fitR b fs row = true := by
  unfold fitR at *
  rw [List.all_eq_true] at *
  exact fun p hp => decide_eq_true ((h p.1).subset (of_decide_eq_true (e p hp)))
theorem poss_mono {a b : G α} (h : Le a b) (r : Rl α) : (poss a r).Sublist (poss b r) := filter_mono (fun _ e => fit_mono h e) _
theorem has_mono {a b : List (List α)} (h : a.Sublist b) {p : Nat} {v : α} (e : hasAt a p v = true) : hasAt b p v = true := by
  unfold hasAt at *
  rw [List.any_eq_true] at *
  obtain ⟨x, hx, k⟩ := e
  exact ⟨x, h.subset hx, k⟩
theorem keep_mono {a b : List (List α)} (h : a.Sublist b) {fs : List α} {f v : α} (e : keepV a fs f v = true) : keepV b fs f v = true := by
  unfold keepV at *
  rw [List.all_eq_true] at *
  intro p hp
  have := e p hp
  rw [Bool.or_eq_true] at *
  exact this.imp_right (has_mono h)
theorem step_le (g : G α) (r : Rl α) : Le (step g r) g := fun _ => List.filter_sublist
theorem step_mono {a b : G α} (h : Le a b) (r : Rl α) : Le (step a r) (step b r) := fun f => (filter_mono (fun v e => keep_mono (poss_mono h r) e) _).trans ((h f).filter _)
theorem pass_le : ∀ (rs : List (Rl α)) (g : G α), Le (pass rs g) g
  | [], g => .refl g
  | r :: rs, g => (pass_le rs (step g r)).trans (step_le g r)
theorem pass_mono : ∀ (rs : List (Rl α)) {a b : G α}, Le a b → Le (pass rs a) (pass rs b)
  | [], _, _, h => h
  | r :: rs, _, _, h => pass_mono rs (step_mono h r)
theorem iter_le (rs : List (Rl α)) : ∀ (k : Nat) (g : G α), Le (iter rs k g) g
  | 0, g => .refl g
  | k + 1, g => (pass_le rs _).trans (iter_le rs k g)
theorem iter_mono (rs : List (Rl α)) : ∀ (k : Nat) {a b : G α}, Le a b → Le (iter rs k a) (iter rs k b)
  | 0, _, _, h => h
  | k + 1, _, _, h => pass_mono rs (iter_mono rs k h)
/-- what a pass leaves as it is, each of its rules leaves -/
theorem stable_steps : ∀ {rs : List (Rl α)} {g : G α}, pass rs g = g → ∀ r ∈ rs, step g r = g
  | [], _, _, _, h => absurd h List.not_mem_nil
  | r :: rs, g, e, x, hx => by
    have h1 : Le g (step g r) := fun f => by
      have := pass_le rs (step g r) f
      have e2 : pass rs (step g r) = g := e
      rwa [e2] at this
    have es : step g r = g := (step_le g r).antisymm h1
    rcases List.mem_cons.mp hx with rfl | hx
    · exact es
    · have e3 : pass rs g = g := by
        have : pass rs (step g r) = g := e
        rwa [es] at this
      exact stable_steps e3 x hx
theorem stable_pass : ∀ {rs : List (Rl α)} {g : G α}, (∀ r ∈ rs, step g r = g) → pass rs g = g
  | [], _, _ => rfl
  | r :: rs, g, h => by
    show pass rs (step g r) = g
    rw [h r List.mem_cons_self]
    exact stable_pass fun x hx => h x (List.mem_cons_of_mem _ hx)
theorem stable_iter {rs : List (Rl α)} {g : G α} (h : pass rs g = g) : ∀ k, iter rs k g = g
  | 0 => rfl
  | k + 1 => by
    show pass rs (iter rs k g) = g
    rw [stable_iter h k, h]
/-- the greatest candidates that all rules leave -/
theorem IsLim.greatest {rs : List (Rl α)} {g h a : G α} (L : IsLim rs g h) (l : Le a g) (s : ∀ r ∈ rs, step a r = a) : Le a h := by
  obtain ⟨⟨k, rfl⟩, _⟩ := L
  have := iter_mono rs k l
  rwa [stable_iter (stable_pass s) k] at this
theorem IsLim.le {rs : List (Rl α)} {g h : G α} (L : IsLim rs g h) : Le h g := by
  obtain ⟨⟨k, rfl⟩, _⟩ := L
  exact iter_le rs k g
theorem IsLim.eq {rs qs : List (Rl α)} {g a b : G α} (L : IsLim rs g a) (M : IsLim qs g b) (h : ∀ r, r ∈ rs ↔ r ∈ qs) : a = b :=
  (M.greatest L.le fun r hr => stable_steps L.2 r ((h r).mpr hr)).antisymm (L.greatest M.le fun r hr => stable_steps M.2 r ((h r).mp hr))
/-- more rules, or fewer candidates at first, leave no more -/
theorem IsLim.mono {rs qs : List (Rl α)} {g g' a b : G α} (L : IsLim rs g a) (M : IsLim qs g' b) (h : ∀ r ∈ qs, r ∈ rs) (l : Le g g') : Le a b :=
  M.greatest (L.le.trans l) fun r hr => stable_steps L.2 r (h r hr)
/-! fields that are in no rule -/
/-! how many candidates -/
/-! the way of place after place -/
/-! the value of the limit, for given texts -/
end
end DL.Nar

set_option maxRecDepth 100000
set_option maxHeartbeats 2000000
/-! DK52: dict comprehensions with keys that come again; loops over a mapped list, over enumerate; dicts of lists of texts, by fields. -/
namespace DL
open PySem PySem.Spec L2
section
variable {nx bk ct : Sl → Store → Prop} {rt : DQ} {ex : Sl → DX} {ρ : Sl} {S : Store} {g : Tgt} {tb : DTS}
end
/-! ### a dict of lists of texts, by fields -/
/-! pairs of texts -/
end DL

set_option maxRecDepth 100000
set_option maxHeartbeats 2000000
/-! DK53: defs of the text with one default, the empty tuple. -/
namespace DL
open PySem PySem.Spec PyProof.Rows L2
structure DFV (K : PySem.W.Frag) (mg : Str → Option Value) (x : Str) (st : Stmt) (ps : List Str) : Type where
  f : Addr
  fd : FuncData
  F : FunV K x x st f fd
  at_ : mg x = some (.ref f)
  bd : Binds K fd ps []
  d0 : ∃ E, Binds K fd ps [.ref E] ∧ StT K E
  dl : DefV K x x st fd
def DFV.of {K : PySem.W.Frag} {mg : Str → Option Value} {h : Heap} {x : Str} {st : Stmt} {ps : List Str} {f T E : Addr} {oc cl : Value} {od an dd : Option Addr} {osl sl sle : Array (Option Value)} {kV doc pm cdv ct : Value} {n ne : Nat} (X : K.In h) (G : h.Ns mainGlobals mg) (a : PySem.W.nsIn K mainGlobals x = some (some (.ref f)))
    (l : K.lookup f = some ⟨oc, od, .func (PySem.W.fnOf x x (defArgs st) (defBody st) (defScope st) (.ref T) kV doc pm an cdv ct), osl⟩) (c : PySem.W.codeIn K cdv x = true) (k : PySem.W.keepIn K (.ref f) = true) (lT : K.lookup T = some ⟨cl, dd, .seq #[.ref E] n, sl⟩)
    (lE : K.lookup E = some ⟨.type "tuple", none, .seq #[] ne, sle⟩) (b : BdOkV x x st ps) (b2 : BdOkW x x st ps) : DFV K mg x st ps :=
  ⟨f, _, ⟨⟨oc, od, .ref T, kV, doc, pm, an, cdv, ct, osl, rfl, l, c⟩, k⟩, PySem.W.mg_of X G a, fun s us X hl => by
    rw [List.append_nil] at hl ⊢
    obtain ⟨k, e1, e2⟩ := b T (.ref E) kV doc pm an cdv ct us hl
    refine BindsTo.of_looks fun M => ?_
    rw [e1]
    exact looks_items X lT rfl (.of_pure e2), ⟨E, fun s us X hl => by
    rw [List.length_append] at hl
    obtain ⟨k, e1, e2⟩ := b2 T (.ref E) kV doc pm an cdv ct us hl
    refine BindsTo.of_looks fun M => ?_
    rw [e1]
    exact looks_items X lT rfl (.of_pure e2), ⟨_, ne, lE, rfl, rfl, rfl⟩⟩, ⟨T, E, cl, dd, n, sl, kV, doc, pm, an, cdv, ct, rfl, lT⟩⟩
/-- the default of such a def -/
noncomputable abbrev DFV.E {K : PySem.W.Frag} {mg : Str → Option Value} {x : Str} {st : Stmt} {ps : List Str} (D : DFV K mg x st ps) : Addr := D.d0.choose
/-! min of two ints -/
section
variable {X : Cx} {W : WX} {e1 e2 : Expr} {p pos : Pos}
end
end DL

set_option maxRecDepth 100000
set_option maxHeartbeats 2000000
/-! DK54: what repr shows of a dict of lists of texts tells the lists, if the one is part of the other. -/
namespace DL
open PySem PySem.Spec PyProof.Rows L2
end DL

set_option maxRecDepth 100000
set_option maxHeartbeats 2000000
/-! DK55: locked dicts (kdK): a dict of the store that is locked for good; what is walked of it, what it holds. -/
namespace DL
open PySem PySem.Spec L2
section
variable {X : Cx} {W : WX} {e : Expr} {te : DTE} {pos : Pos}
theorem Rel.lock {K : PySem.W.Frag} {Z : Addr → Prop} {H F : Hp} {S : Store} {a : Addr} {ks : List Key} {ds : List D} (R : Rel K Z H S F) (h : S a = some (.dK ks ds)) :
    ∃ kvs, H a = some (.dK kvs) ∧ kvs.map (·.1) = ks ∧ IsVs K F ds (kvs.map (·.2)) ∧ ∀ od, Aft K Z H F (upd H a (.frz od (.dK kvs))) (del S a) (upd F a (.frz od (.dK kvs))) := by
  obtain ⟨za, o, h1, kvs, rfl, h2, h3⟩ := R.sto a _ h
  have fa : F a = none := by
    cases q : F a with
    | none => rfl
    | some u => have := (R.sub a u q).2.1; rw [h] at this; cases this
  refine ⟨kvs, h1, h2, h3, fun od => ?_⟩
  have sm : Same F (upd F a (.frz od (.dK kvs))) := fun b u e => by
    have hb : b ≠ a := fun q => by rw [q, fa] at e; cases e
    rw [upd_ne hb]; exact e
  have kp : Keep Z H (upd H a (.frz od (.dK kvs))) := fun b u z e => by
    have hb : b ≠ a := fun q => za (q ▸ z)
    rw [upd_ne hb]; exact e
  refine ⟨sm, ⟨fun b u e => ?_, fun b m e => ?_, fun b z => ?_, R.tab.move sm fun P ps e f z => ?_⟩, kp⟩
  · by_cases hb : b = a
    · subst hb
      rw [upd_same] at e
      cases e
      exact ⟨upd_same, del_same, za⟩
    · rw [upd_ne hb] at e
      rw [del_ne hb, upd_ne hb]
      exact R.sub b u e
  · by_cases hb : b = a
    · subst hb
      rw [del_same] at e
      cases e
    · rw [del_ne hb] at e
      obtain ⟨q1, u, q2, q3⟩ := R.sto b m e
      exact ⟨q1, u, by rw [upd_ne hb]; exact q2, q3.up sm⟩
  · obtain ⟨u, hu⟩ := R.hid b z
    exact ⟨u, kp b u z hu⟩
  · have hb : P ≠ a := fun q => by rw [q, h1] at e; cases e
    exact ⟨by rw [upd_ne hb]; exact e, by rw [upd_ne hb]; exact f, z⟩
theorem set_self {α : Type} {l : List α} {i : Nat} {v : α} (h : l[i]? = some v) : l.set i v = l := by
  refine List.ext_getElem? fun j => ?_
  by_cases hj : i = j
  · subst hj
    by_cases hl : i < l.length
    · rw [List.getElem?_set_self hl, h]
    · rw [List.getElem?_eq_none (by rw [List.length_set]; omega), List.getElem?_eq_none (by omega)]
  · rw [List.getElem?_set_ne hj]
/-! ### what is walked -/
theorem PR.get {κ : Type} {K : PySem.W.Frag} {F : Hp} {ds : List (κ × D)} {vs : List (κ × V)} (h : PR K F ds vs) : ∀ {i : Nat} {k : κ} {v : V}, vs[i]? = some (k, v) → ∃ d, ds[i]? = some (k, d) ∧ IsV K F d v := by
  induction h with
  | nil => intro i k v e; simp at e
  | cons h1 h2 ih =>
    intro i k v e
    cases i with
    | zero =>
      rw [List.getElem?_cons_zero] at e
      cases e
      exact ⟨_, rfl, h1⟩
    | succ i => exact ih (by simpa using e)
variable {tg : Expr} {apos cpos : Pos}
/-! ### what it holds -/
end
end DL

set_option maxRecDepth 100000
set_option maxHeartbeats 2000000
/-! DK56: all sets of rows, as a law makes them. -/
namespace DL
open PySem PySem.Spec PySem.W L2
/-- a set of rows; .. with its size -/
def encR (s : List (List Str)) : D := .tup (s.map encT)
end DL

set_option maxRecDepth 100000
set_option maxHeartbeats 2000000
/-! DK57: list(d.values()), of a dict whose keys are ints and texts, or tuples of them; a dict with tuple keys, of the store, that is not written any more. -/
namespace DL
open PySem PySem.Spec PyProof.Rows L2
/-- the values of a dict as it lies in the heap, walked by list(..) -/
theorem kdl_valuesRaw {prog : Program} {w : World} {d r : Addr} {es : Array DictEntry} {ep : Nat} :
    PySem.W.KdlSrc prog w "dict_values" r d es.size (fun i v => ∃ hi : i < es.size, v = es[i].val) (fun h => h.IsValuesView r d ∧ h.DictRaw d es ep) where
  type := fun _ hm => hm.1.typeIs
  there := fun _ hm => ⟨let ⟨_, ho, _⟩ := hm.1; Heap.lt_size ho, let ⟨_, ho, _⟩ := hm.2; Heap.lt_size ho⟩
  keep := fun _ _ hm hk => ⟨let ⟨o, ho, x⟩ := hm.1; ⟨o, hk r (.inl rfl) o ho, x⟩, hm.2.at fun o e => hk d (.inr rfl) o e⟩
  notList := by decide
  notTuple := by decide
  hint := fun _ _ _ _ hm hq => PySem.W.kdl_hint_values hm.1.typeIs hq
  iter := fun A s hh hm => by
    have hlt : d < s.heap.objs.size := let ⟨_, ho, _⟩ := hm.2; Heap.lt_size ho
    refine ⟨_, fun i h => h.IsValIter s.heap.objs.size d i es.size ep ∧ h.DictRaw d es ep, (fun _ _ hq => wpAny_pyIter_values_raw hm.1 hm.2 hq), ?_, ⟨_, Heap.get?_push_size _ rfl, rfl, rfl⟩, hm.2.at fun o e => Heap.get?_push_of_some _ e⟩
    exact {
      sub := fun b hb => by simp at hb; simp [hb]
      frame := fun _ _ _ st hk => ⟨st.1.at fun o e => hk _ (by simp) o e, st.2.at fun o e => hk d (by simp) o e⟩
      item := fun i s2 Q E hi st hQ => by
        refine wpAny_pyNext_values_item_raw st.1 st.2 hi fun h' hit' hs' => ?_
        exact hQ _ h' s2.toks ⟨hi, rfl⟩ ⟨hit', st.2.at fun o e => hs'.extBut d o (Nat.ne_of_lt hlt) e⟩ fun b o hb e => hs'.extBut b o (fun h => hb (by simp [h])) e
      done := fun s2 Q E st hQ => wpAny_pyNext_values_end_raw hh st.1 st.2 (Nat.le_refl _) fun h' he' => hQ h' s2.toks fun b o hb e => he' b o (fun h => hb (by simp [h])) e
      self := fun _ _ _ _ st hQ => wpAny_pyIter_valiter st.1 hQ }
theorem vals_ix : ∀ {vs : List V} {l : List Value}, l.length = vs.length → (∀ (j : Nat) (v : V) (x : Value), vs[j]? = some v → l[j]? = some x → RelV v x) → Vals vs l
  | [], [], _, _ => .nil
  | v :: vs, x :: l, h, f => .cons (f 0 v x rfl rfl) (vals_ix (by simpa using h) fun j a b ha hb => f (j + 1) a b (by simpa using ha) (by simpa using hb))
  | [], _ :: _, h, _ => by cases h
  | _ :: _, [], h, _ => by cases h
/-- what the values of a dict are -/
def DVals (H : Hp) (d : Addr) (vs : List V) : Prop := (∃ kvs, Rd H d (.dK kvs) ∧ vs = kvs.map (·.2)) ∨ (∃ kvs, Rd H d (.dT kvs) ∧ vs = kvs.map (·.2)) ∨ ∃ hf kvs xs, Rd H d (DictX hf d xs) ∧ KX H kvs xs ∧ vs = kvs.map (·.2)
theorem dvals_raw {X : Cx} {pins : List (Addr × Obj)} {σ : L2.St} {H : Hp} {s : Shared} {d : Addr} {vs : List V} (I : Inv X pins σ H s) (g : DVals H d vs) :
    vs.length ≤ sizeLine ∧ (d == sysModules) = false ∧ ∃ es ep, s.heap.DictRaw d es ep ∧ es.size = vs.length ∧ ∀ (i : Nat) (hi : i < es.size) (v : V), vs[i]? = some v → RelV v es[i].val := by
  rcases g with ⟨kvs, e, rfl⟩ | ⟨kvs, e, rfl⟩ | ⟨hf, kvs, xs, e, kx, rfl⟩
  · obtain ⟨z, hd, ws, rel, dd⟩ := dk_rd I.hok e
    obtain ⟨es, ep, hr, hs, hv⟩ := dd.raw
    have hl : kvs.length = ws.length := Paired.length rel
    refine ⟨by rw [List.length_map]; exact z, hd, es, ep, hr, by rw [List.length_map, hs, hl], fun i hi v hq => ?_⟩
    rw [List.getElem?_map] at hq
    obtain ⟨⟨k, v'⟩, h1, rfl⟩ := Option.map_eq_some_iff.mp hq
    obtain ⟨u, hu, ru⟩ := kv_get rel h1
    rw [(hv i hi k u hu).2]
    exact ru
  · obtain ⟨z, hd, xs, rel, dd⟩ := dt_rd I.hok e
    obtain ⟨es, ep, hr, hs, hv⟩ := dd.raw
    have hl : kvs.length = xs.length := Paired.length rel
    refine ⟨by rw [List.length_map]; exact z, hd, es, ep, hr, by rw [List.length_map, hs, hl], fun i hi v hq => ?_⟩
    rw [List.getElem?_map] at hq
    obtain ⟨⟨k, v'⟩, h1, rfl⟩ := Option.map_eq_some_iff.mp hq
    obtain ⟨y, hy, r⟩ := LiI.paired_get rel h1
    obtain ⟨y', hy', _, e2, _⟩ := hv i hi
    rw [hy] at hy'
    cases hy'
    rw [e2]
    exact r.2.2
  · obtain ⟨⟨o, es, ep, h1, h2, h3, h4, h5, h6, h7⟩, _, _⟩ := (show ObjOk X.prog X.w H s.heap d (DictX hf d xs) from e.ok I.hok)
    have hl : kvs.length = xs.length := Paired.length kx
    have hs : es.size = xs.length := by
      have := congrArg List.length h4
      rw [List.length_map, Array.length_toList] at this
      exact this
    refine ⟨by rw [List.length_map, hl]; exact h6, h7, es, ep, ⟨o, h1, h2, h3⟩, by rw [List.length_map, hs, hl], fun i hi v hq => ?_⟩
    rw [List.getElem?_map] at hq
    obtain ⟨⟨k, v'⟩, e1, rfl⟩ := Option.map_eq_some_iff.mp hq
    obtain ⟨y, hy, r⟩ := LiI.paired_get kx e1
    have : es.toList[i]? = (xs.map (fun x => (⟨hf x.1, .ref x.2.1, x.2.2⟩ : DictEntry)))[i]? := by rw [h4]
    rw [Array.getElem?_toList, List.getElem?_map, hy, Array.getElem?_eq_getElem hi] at this
    rw [Option.some.inj this]
    exact r.2.2
def tListVals (te : TE) : TE := fun σ H Q => te σ H fun x H1 => ∃ d vs, x = .ref d ∧ DVals H1 d vs ∧ ∀ p, H1 p = none → Q (.ref p) (upd H1 p (.lst vs))
section
variable {X : Cx} {W : WX} {e : Expr} {p apos cpos pos : Pos}
theorem pe_listVals {te : TE} (hc : X.calm = true) (he : PE X e te) (hg : Gl X "list") (hm : X.mg "list" = none) (hv : bootBuiltins "list" = some (.type "list")) (hbase : attributeBase e "values" X.env (eval e X.env) = eval e X.env := by rfl) (hline : (apos.endLine == cpos.line) = true := by rfl)
    (hs : starEach [.Call (.Attribute e "values" apos) [] [] cpos] X.env = (false, eval (.Call (.Attribute e "values" apos) [] [] cpos) X.env) :: starEach [] X.env := by rfl) :
    PE X (.Call (.Name "list" p) [.Call (.Attribute e "values" apos) [] [] cpos] [] pos) (tListVals te) := by
  refine ⟨fun pins s σ H Q I hq => ?_⟩
  refine wpAny_Call_Name_kw (ld_blt I hg hm hv ?_)
  refine PyProof.Rows.callWith_type1 ?_ hs rfl
  rw [hs]
  show wpAny _ _ (spliced ((false, eval (.Call (.Attribute e "values" apos) [] [] cpos) X.env) :: backTo pos (starEach [] X.env))) _ _ s
  refine Calls.spliced_cons ?_
  refine wpAny_Call_method (T := "dict") (id := "dict.values") hbase rfl hline F.plainAttrs_dict F.slot_dict_values F.type_dict_values (thn (he.run pins s σ H _ I hq) fun u s1 ⟨x, H1, I1, rx, d, vs, ex, hd, q⟩ => ?_)
  subst ex
  obtain rfl : u = Value.ref d := rx
  obtain ⟨hz, hs0, es, ep, hraw, hsz, hval⟩ := dvals_raw I1 hd
  have I2 : Inv X pins σ H1 { s1 with heap := s1.heap.push { cls := .type "dict_values", data := .fields #[.ref d] } } := I1.kept (t' := s1.toks) fun b ob q => Heap.get?_push_of_some _ q
  refine ⟨hraw.typeIs, fun b eb => ?_, ?_⟩
  · cases eb
    obtain ⟨o, ho, hx, _⟩ := hraw
    exact ⟨o, ho, hx.2.1⟩
  show wpAny _ _ (callWith cpos (.builtin "dict.values") [.ref d] [] []) _ X.xe s1
  refine method_meetsIn F.slot_dict_values F.entry_dict_values rfl (PySem.evalArgs_none ⟨rfl, hraw.typeIs, F.args_dict_values_1 _, _, meets_dict_values_raw d hs0, ⟨es, ep, hraw⟩, ?_⟩)
  refine Calls.spliced_nil ?_
  refine PySem.W.kdl_call (kdl_valuesRaw (es := es) (ep := ep) (d := d)) (I1.ok.hd hc) ⟨⟨_, Heap.get?_push_size _ rfl, rfl, rfl⟩, hraw.at fun o e => Heap.get?_push_of_some _ e⟩ (by rw [hsz]; exact hz) fun h' tk acc c hk hS hacc => ?_
  refine ⟨.ref _, _, I2.laid (t' := tk) hk (Nat.le_refl _) (show ObjOk _ _ _ _ _ (.lst vs) from ⟨hz, acc.toList, c, vals_ix ?_ fun j v x h1 h2 => ?_, ?_⟩), rfl, q _ (I2.hok.fresh (Nat.le_refl _))⟩
  · rw [Array.length_toList, hacc.1, hsz]
  · obtain ⟨hi, rfl⟩ := hacc.2 j x (by rw [← Array.getElem?_toList]; exact h2)
    exact hval j hi v h1
  · rw [Array.toArray_toList]
    exact hS
/-- the values of a dict -/
def dvD (S : Store) : D → Option (List D)
  | .dK ks ds => some ds
  | .dT ks ds => some ds
  | .kdK ks ds => some ds
  | .dX _ _ ds => some ds
  | .ref a => match S a with
    | some (.dK ks ds) => some ds
    | some (.dT ks ds) => some ds
    | some (.dX b _ _ ds) => if b = a then some ds else none
    | _ => none
  | _ => none
theorem dv_is {K : PySem.W.Frag} {Z : Addr → Prop} {H F : Hp} {S : Store} (R : Rel K Z H S F) {d : D} {v : V} {ds : List D} (iv : IsV K F d v) (e : dvD S d = some ds) : ∃ a vs, v = .ref a ∧ DVals H a vs ∧ IsVs K F ds vs := by
  cases iv with
  | dK h1 h2 h3 => cases e; exact ⟨_, _, rfl, .inl ⟨_, .inl (R.sub _ _ h1).1, rfl⟩, h3⟩
  | dT h1 h2 h3 => cases e; exact ⟨_, _, rfl, .inr (.inl ⟨_, .inl (R.sub _ _ h1).1, rfl⟩), h3⟩
  | dX h1 h0 h2 h3 => cases e; exact ⟨_, _, rfl, .inr (.inr ⟨_, _, _, .inr ⟨_, (R.sub _ _ h1).1⟩, h0.up fun b u e => (R.sub b u e).1, rfl⟩), h3⟩
  | kdK h1 h2 h3 => cases e; exact ⟨_, _, rfl, .inl ⟨_, .inr ⟨_, (R.sub _ _ h1).1⟩, rfl⟩, h3⟩
  | ref a =>
    unfold dvD at e
    dsimp only at e
    split at e
    · rename_i ks ds' hS
      cases e
      obtain ⟨_, o, ho, kvs, rfl, h2, h3⟩ := R.sto a _ hS
      exact ⟨a, _, rfl, .inl ⟨_, .inl ho, rfl⟩, h3⟩
    · rename_i ks ds' hS
      cases e
      obtain ⟨_, o, ho, kvs, rfl, h2, h3⟩ := R.sto a _ hS
      exact ⟨a, _, rfl, .inr (.inl ⟨_, .inl ho, rfl⟩), h3⟩
    · rename_i b hf ks ds' hS
      split at e
      · rename_i hb
        subst hb
        cases e
        obtain ⟨_, o, ho, xs, kvs, rfl, h0, h2, h3⟩ := R.sto _ _ hS
        exact ⟨_, _, rfl, .inr (.inr ⟨_, _, _, .inl ho, h0.up fun b u e => (R.sub b u e).1, rfl⟩), h3⟩
      · cases e
    · cases e
  | _ => cases e
/-- list(d.values()) -/
def dListVals (te : DTE) : DTE := fun ρ S Q E => te ρ S (fun d S1 => ∃ ds, dvD S1 d = some ds ∧ Q (.lst ds) S1) E
theorem s_listVals {te : DTE} {ρ : Sl} {S : Store} {Q : DQ} {E : DX} (h : te ρ S (fun d S1 => ∃ ds, dvD S1 d = some ds ∧ Q (.lst ds) S1) E) : dListVals te ρ S Q E := h
theorem de_listVals {te : DTE} (hc : X.calm = true) (B : Bis X.mg) (he : DE X W e te) (hg : Gl X "list" := by rfl) (hbase : attributeBase e "values" X.env (eval e X.env) = eval e X.env := by rfl) (hline : (apos.endLine == cpos.line) = true := by rfl)
    (hs : starEach [.Call (.Attribute e "values" apos) [] [] cpos] X.env = (false, eval (.Call (.Attribute e "values" apos) [] [] cpos) X.env) :: starEach [] X.env := by rfl) :
    DE X W (.Call (.Name "list" p) [.Call (.Attribute e "values" apos) [] [] cpos] [] pos) (dListVals te) :=
  de_pe (pe_listVals hc he.pe hg B.list PyProof.Rows.boot_list hbase hline hs) fun σ H P ⟨ρ, S, F, Z, Q, E, R, V, q, k, x⟩ => ⟨ρ, S, F, Z, _, E, R, V, q, fun v H1 ⟨d, S1, F1, A1, i1, ds, hd, q1⟩ => by
    obtain ⟨a, vs, rfl, g, iv⟩ := dv_is A1.rel i1 hd
    refine ⟨a, vs, rfl, g, fun p hp => ?_⟩
    obtain ⟨R2, s2, k2⟩ := A1.rel.laid (o := .lst vs) hp
    exact k _ _ ⟨_, S1, _, A1.trans ⟨s2, R2, k2⟩, .lst upd_same (iv.up s2), q1⟩, x⟩
end
end DL

set_option maxRecDepth 100000
set_option maxHeartbeats 2000000
/-! DK58: dict(a list of pairs), a dict of the store. -/
namespace DL
open PySem PySem.Spec L2
section
variable {X : Cx} {W : WX} {e : Expr} {te : DTE} {p pos : Pos}
end
end DL

set_option maxRecDepth 100000
set_option maxHeartbeats 2000000
/-! DK59: dicts whose keys are known tuples (dX): what they hold, written, locked, walked. -/
namespace DL
open PySem PySem.Spec PyProof.Rows L2
/-- the hash of a tuple of ints and texts, in this world -/
abbrev hfX (P : Program) (w : World) : List Key → Int := (tupleKind (mixKind P w)).hash
section
variable {P : Program} {w : World} {H F : Hp} {h : Heap} {a : Addr} {kvs : List (List Key × V)} {xs : List (List Key × Addr × Value)}
theorem key_r {ks : List Key} (ok : HOk P w H h) (e : Rd H a (.tup (ks.map kV))) : (tupleKind (mixKind P w)).is h ks a := by
  obtain ⟨_, its, r, o, h1, h2, n, h3⟩ := (show ObjOk P w H h a (.tup (ks.map kV)) from e.ok ok)
  exact ⟨o, its.toArray, n, h1, h2, h3, by simpa using items_are r⟩
theorem KX.val (r : KX F kvs xs) (k : List Key) : RelO (valV kvs k) ((atKey xs k).map (·.2)) := by
  unfold KX at r
  induction r with
  | nil => exact True.intro
  | @cons p q ps qs h t ih =>
    obtain ⟨h1, _, h2⟩ := h
    by_cases e : p.1 = k
    · have e' : q.1 = k := h1.symm.trans e
      have b : atKey (q :: qs) k = some q.2 := by simp [atKey, List.find?_cons, e']
      rw [valV_pos e, b]; exact h2
    · have e' : ¬ q.1 = k := fun z => e (h1.trans z)
      have b : atKey (q :: qs) k = atKey qs k := by simp [atKey, List.find?_cons, e']
      rw [valV_neg e, b]; exact ih
theorem KX.repl (r : KX F kvs xs) (k : List Key) {y : V} {u : Value} (ry : RelV y u) : KX F (kvs.map fun kv => if kv.1 = k then (kv.1, y) else kv) (xs.map (putAt k u)) := by
  unfold KX at r ⊢
  induction r with
  | nil => exact .nil
  | @cons p q ps qs h t ih =>
    rw [List.map_cons, List.map_cons]
    refine .cons ?_ ih
    obtain ⟨h1, h2, h3⟩ := h
    unfold putAt
    by_cases e : p.1 = k
    · rw [if_pos e, if_pos (h1.symm.trans e)]; exact ⟨h1, h2, ry⟩
    · rw [if_neg e, if_neg (fun z => e (h1.trans z))]; exact ⟨h1, h2, h3⟩
theorem KX.put (r : KX F kvs xs) (k : List Key) {b : Addr} {y : V} {u : Value} {o : Obj} (hb : F b = some (.frz o (.tup (k.map kV)))) (ho : o.dict = none) (ry : RelV y u) : KX F (putK kvs k y) (storedH xs k b u) := by
  have e : (kvs.any fun kv => decide (kv.1 = k)) = (atKey xs k).isSome := by
    rw [valV_any, (r.val k).isSome_eq, Option.isSome_map]
  unfold putK storedH
  rw [e]
  by_cases q : (atKey xs k).isSome = true
  · rw [if_pos q, if_pos q]; exact r.repl k ry
  · rw [if_neg q, if_neg q]; exact Paired.snoc r ⟨rfl, ⟨o, hb, ho⟩, ry⟩
theorem KX.get (r : KX F kvs xs) {i : Nat} {k : List Key} {v : V} (e : kvs[i]? = some (k, v)) : ∃ q u, xs[i]? = some (k, q, u) ∧ (∃ o, F q = some (.frz o (.tup (k.map kV))) ∧ o.dict = none) ∧ RelV v u := by
  obtain ⟨⟨k2, q, u⟩, hb, e1, e2, e3⟩ := L2.paired_get r e
  have e1 : k = k2 := e1
  subst e1
  exact ⟨q, u, hb, e2, e3⟩
theorem KX.mem (r : KX F kvs xs) : ∀ x ∈ xs, ∃ o, F x.2.1 = some (.frz o (.tup (x.1.map kV))) := by
  unfold KX at r
  induction r with
  | nil => intro x hx; exact nomatch hx
  | @cons p q ps qs hq t ih =>
    intro x hx
    rcases List.mem_cons.mp hx with e | hx
    · subst e
      obtain ⟨h1, ⟨o, h2, _⟩, _⟩ := hq
      exact ⟨o, by rw [← h1]; exact h2⟩
    · exact ih x hx
theorem dx_rd (ok : HOk P w H h) (e : Rd H a (DictX (hfX P w) a xs)) (k : KX H kvs xs) : xs.length ≤ sizeLine ∧ (a == sysModules) = false ∧ h.DictOfH (tupleKind (mixKind P w)) a xs := by
  obtain ⟨⟨o, es, ep, h1, h2, h3, h4, h5, h6, h7⟩, _, _⟩ := (show ObjOk P w H h a (DictX (hfX P w) a xs) from e.ok ok)
  refine ⟨h6, h7, o, es, ep, h1, h2, h3, h4, fun x hx => ?_, h5⟩
  obtain ⟨ox, hx2⟩ := k.mem x hx
  exact key_r ok (.inr ⟨ox, hx2⟩)
/-- such a dict as it lies in the heap -/
theorem dx_ok {h' : Heap} (hz : xs.length ≤ sizeLine) (hd : (a == sysModules) = false) (dd : h'.DictOfH (tupleKind (mixKind P w)) a xs) : ObjOk P w H h' a (DictX (hfX P w) a xs) := by
  obtain ⟨o, es, ep, h1, h2, h3, h4, _, h5⟩ := dd
  exact ⟨⟨o, es, ep, h1, h2, h3, h4, h5, hz, hd⟩, ⟨o, h1⟩, fun g1 g2 ⟨o, es, ep, h1, r⟩ k => ⟨o, es, ep, k o h1, r⟩⟩
end
/-- what such a dict holds at y -/
def XGet (hf : List Key → Int) (H : Hp) (a : Addr) (y : V) (r : Option V) : Prop := ∃ kvs xs k b, Rd H a (DictX hf a xs) ∧ KX H kvs xs ∧ y = .ref b ∧ Rd H b (.tup (k.map kV)) ∧ r = valV kvs k
section
variable {X : Cx} {pins : List (Addr × Obj)} {σ : L2.St} {H : Hp} {s : Shared} {a : Addr} {y v : V} {u r : Value} {o : Option V} {A : Around} {E : Value → Shared → Prop}
theorem dx_getItem {Q : Value → Shared → Prop} (hu : A.units + 1 < cLine) (I : Inv X pins σ H s) (g : XGet (hfX X.prog X.w) H a y (some v)) (ry : RelV y u) (h : ∀ w' s', Inv X pins σ H s' → RelV v w' → Q w' s') :
    wpAny (model X.prog X.w) A (getItem (.ref a) u) Q E s := by
  obtain ⟨kvs, xs, k, b, e, kx, ey, eb, l⟩ := g
  subst ey
  cases (show u = Value.ref b from ry)
  obtain ⟨z, hd, dd⟩ := dx_rd I.hok e kx
  obtain ⟨w', hw, rw'⟩ := RelO.some_of (v := v) (o := (atKey xs k).map (·.2)) (by rw [l]; exact kx.val k)
  obtain ⟨p, hp, hp2⟩ := Option.map_eq_some_iff.mp hw
  refine wpAny_getItem_heap (tupleKind_room_in1 hu) (key_r I.hok eb) dd hp ?_
  rw [hp2]
  exact h w' _ (I.tok _) rw'
/-- d[y] = v -/
theorem dx_setItem {Q : Unit → Shared → Prop} {kvs : List (List Key × V)} {xs : List (List Key × Addr × Value)} {k : List Key} {b : Addr} (hu : A.units + 1 < cLine) (I : Inv X pins σ H s) (e : H a = some (DictX (hfX X.prog X.w) a xs)) (kx : KX H kvs xs) (eb : Rd H b (.tup (k.map kV))) (l : kvs.length < sizeLine)
    (h : ∀ s', Inv X pins σ (upd H a (DictX (hfX X.prog X.w) a (storedH xs k b r))) s' → Q () s') : wpAny (model X.prog X.w) A (setItem (.ref a) (.ref b) r) Q E s := by
  obtain ⟨z, hd, dd⟩ := dx_rd I.hok (.inl e) kx
  have hl : (storedH xs k b r).length ≤ sizeLine := by
    have hx : kvs.length = xs.length := Paired.length kx
    unfold storedH
    split
    · rw [List.length_map]; exact z
    · rw [List.length_append, List.length_singleton]; omega
  refine wpAny_setItem_heap (hsz := z) (tupleKind_room_in1 hu) (key_r I.hok eb) dd fun h' dd' hs => h _ ?_
  have he : ∃ q, h'.get? a = some q := let ⟨q, _, _, hq, _⟩ := dd'; ⟨q, hq⟩
  exact d_write I (by rw [e]; exact True.intro) hs he (dx_ok hl hd dd')
end
/-! ### rules -/
def tXGet (hf : List Key → Int) (td ty : TE) : TE := fun σ H Q => td σ H fun x H1 => ty σ H1 fun y H2 => ∃ a v, x = .ref a ∧ XGet hf H2 a y (some v) ∧ Q v H2
def sXPut (hf : List Key → Int) (td ty tv : TE) : TS := fun D σ H => tv σ H fun v H1 => td σ H1 fun x H2 => ty σ H2 fun y H3 => ∃ a kvs xs k b, x = .ref a ∧ H3 a = some (DictX hf a xs) ∧ KX H3 kvs xs ∧ y = .ref b ∧ Rd H3 b (.tup (k.map kV)) ∧ kvs.length < sizeLine ∧
  ∀ u, RelV v u → D.nx σ (upd H3 a (DictX hf a (storedH xs k b u)))
def tDNewX (hf : List Key → Int) : TE := fun _ H Q => ∀ p, H p = none → Q (.ref p) (upd H p (DictX hf p []))
section
variable {X : Cx} {o i e value : Expr} {pos pos' tpos : Pos} {td ty tv : TE}
theorem pe_xget (hu : X.A.units + 1 < cLine) (ho : PE X o td) (hi : PE X i ty) (hs : NoSl i) : PE X (.Subscript o i pos) (tXGet (hfX X.prog X.w) td ty) := by
  refine ⟨fun pins s σ H Q I h => ?_⟩
  refine subD_of PySem.F.slot_dict_getitem.lookup hs (thn (ho.run pins s σ H _ I h) fun u s1 ⟨x, H1, I1, rx, q1⟩ => thn (hi.run pins s1 σ H1 _ I1 q1) fun iv s2 ⟨y, H2, I2, ry, a, v, ex, g, q2⟩ => ?_)
  subst ex
  obtain rfl : u = Value.ref a := rx
  refine ⟨?_, dx_getItem hu I2 g ry fun w' s3 I3 rw' => ⟨v, H2, I3, rw', q2⟩⟩
  obtain ⟨kvs, xs, k, b, e, kx, _, _, _⟩ := g
  exact (dx_rd I2.hok e kx).2.2.typeIs
theorem ps_xput (hu : X.A.units + 1 < cLine) (ho : PE X o td) (hi : PE X i ty) (hv : PE X value tv) (hs : swapsWith value (some (.Subscript o i pos')) pos.line X.env = pure false) :
    PS X (.Assign [.Subscript o i pos'] value pos) (sXPut (hfX X.prog X.w) td ty tv) := by
  refine ⟨fun pins s σ H D I h => ?_⟩
  refine wpAny_Assign_Subscript (thn (hv.run pins s σ H _ I h) fun r s1 ⟨v, H1, I1, rv, q1⟩ => thn (ho.run pins s1 σ H1 _ I1 q1) fun u s2 ⟨x, H2, I2, rx, q2⟩ => thn (hi.run pins s2 σ H2 _ I2 q2) fun iv s3 ⟨y, H3, I3, ry, a, kvs, xs, k, b, ex, e, kx, ey, eb, l, q3⟩ => ?_) hs
  subst ex ey
  obtain rfl : u = Value.ref a := rx
  obtain rfl : iv = Value.ref b := ry
  exact dx_setItem hu I3 e kx eb l fun s4 I4 => ⟨σ, _, I4, q3 r rv⟩
theorem pe_dnewX : PE X (.Dict [] [] pos) (tDNewX (hfX X.prog X.w)) := ⟨fun pins s σ H Q I h =>
  wpAny_Dict_empty ⟨.ref s.heap.objs.size, _, I.laid (a := s.heap.objs.size) (o := DictX (hfX X.prog X.w) s.heap.objs.size []) (t' := s.toks) (fun _ _ q => Heap.get?_push_of_some _ q) (Nat.le_refl _)
    (dx_ok (Nat.zero_le _) (beq_eq_false_iff_ne.mpr (Ne.symm (Nat.ne_of_lt I.big))) ⟨_, #[], 0, Heap.get?_push_size _ rfl, ⟨rfl, rfl, rfl⟩, rfl, rfl, fun x hx => (by cases hx), List.nodup_nil⟩), rfl, h _ (I.hok.fresh (Nat.le_refl _))⟩⟩
end
/-! ### over trees -/
/-- such a dict, locked or of the store -/
def DxD (S : Store) (hf : List Key → Int) (x : D) (ks : List (List Key)) (ds : List D) : Prop := x = .dX hf ks ds ∨ ∃ a, x = .ref a ∧ S a = some (.dX a hf ks ds)
theorem kx_sub {K : PySem.W.Frag} {Z : Addr → Prop} {H F : Hp} {S : Store} (R : Rel K Z H S F) {kvs : List (List Key × V)} {xs : List (List Key × Addr × Value)} (k : KX F kvs xs) : KX H kvs xs := k.up fun b u e => (R.sub b u e).1
theorem dx_is {K : PySem.W.Frag} {Z : Addr → Prop} {H F : Hp} {S : Store} (R : Rel K Z H S F) {hf : List Key → Int} {x : D} {v : V} {ks : List (List Key)} {ds : List D} (iv : IsV K F x v) (e : DxD S hf x ks ds) : ∃ a kvs xs, v = .ref a ∧ Rd H a (DictX hf a xs) ∧ KX F kvs xs ∧ PR K F (ks.zip ds) kvs := by
  rcases e with rfl | ⟨a, rfl, hS⟩
  · cases iv with
    | dX h1 h0 h2 h3 => exact ⟨_, _, _, rfl, .inr ⟨_, (R.sub _ _ h1).1⟩, h0, pr_of h2 h3⟩
  · cases iv
    obtain ⟨_, o, ho, xs, kvs, rfl, h0, h2, h3⟩ := R.sto a _ hS
    exact ⟨a, _, _, rfl, .inl ho, h0, pr_of h2 h3⟩
/-- a tuple of ints and texts -/
def tkD (y : D) (k : List Key) : Prop := y = .tup (k.map keyD) ∨ y = .kup (k.map keyD)
theorem tkd_is {K : PySem.W.Frag} {Z : Addr → Prop} {H F : Hp} {S : Store} (R : Rel K Z H S F) {y : D} {v : V} {k : List Key} (iv : IsV K F y v) (e : tkD y k) : ∃ b, v = .ref b ∧ Rd H b (.tup (k.map kV)) := by
  rcases e with rfl | rfl
  · cases iv with
    | tup h1 h2 => rw [keyDs_inv h2] at h1; exact ⟨_, rfl, .inl (R.sub _ _ h1).1⟩
  · cases iv with
    | kup h1 h0 h2 => rw [keyDs_inv h2] at h1; exact ⟨_, rfl, .inr ⟨_, (R.sub _ _ h1).1⟩⟩
def rdXG (hf : List Key → Int) : DR2 := fun x y S Q => ∃ ks ds k d, DxD S hf x ks ds ∧ tkD y k ∧ valD (ks.zip ds) k = some d ∧ Q d S
theorem s_xg {hf : List Key → Int} {S : Store} {Q : DQ} {x y : D} {ks : List (List Key)} {ds : List D} {k : List Key} {d : D} (e : DxD S hf x ks ds) (ey : tkD y k) (ev : valD (ks.zip ds) k = some d) (h : Q d S) : rdXG hf x y S Q := ⟨ks, ds, k, d, e, ey, ev, h⟩
/-- o[i] = value; the key is a known tuple -/
def dXPut (hf : List Key → Int) (td ty tv : DTE) : DTS := fun N ρ S => tv ρ S (fun d S1 => td ρ S1 (fun x S2 => ty ρ S2 (fun y S3 => ∃ a ks ds k, x = .ref a ∧ S3 a = some (.dX a hf ks ds) ∧ y = .kup (k.map keyD) ∧ ks.length < sizeLine ∧
  N.nx ρ (put S3 a (.dX a hf ((putD (ks.zip ds) k d).map (·.1)) ((putD (ks.zip ds) k d).map (·.2))))) (N.ex ρ)) (N.ex ρ)) (N.ex ρ)
def dNewMX (hf : List Key → Int) : DTE := fun _ S Q _ => ∀ a, S a = none → Q (.ref a) (put S a (.dX a hf [] []))
/-- the dict in slot i is locked -/
def dFrzX (i : Nat) (t : DTS) : DTS := fun N ρ S => ∃ a hf ks ds, ρ[i]? = some (some (.ref a)) ∧ S a = some (.dX a hf ks ds) ∧ t N (ρ.set i (some (.dX hf ks ds))) (del S a)
section
variable {X : Cx} {W : WX} {o i e value : Expr} {td ty tv te : DTE} {pos pos' : Pos}
theorem de_xg (hu : X.A.units + 1 < cLine) (ho : DE X W o td) (hi : DE X W i ty) (hs : NoSl i := by exact fun _ _ => rfl) : DE X W (.Subscript o i pos) (dOp (rdXG (hfX X.prog X.w)) td ty) :=
  de_pe (pe_xget hu ho.pe hi.pe hs) fun σ H P ⟨ρ, S, F, Z, Q, E, R, V, q, k, x⟩ =>
  ⟨ρ, S, F, Z, _, E, R, V, q, fun v H1 ⟨d, S1, F1, A1, i1, q1⟩ => ⟨ρ, S1, F1, Z, _, E, A1.rel, V.up A1.sm, q1, fun w H2 ⟨e, S2, F2, A2, i2, ks, ds, kk, r, hd, he, g, q2⟩ => by
    obtain ⟨a, kvs, xs, rfl, hR, kx, pr⟩ := dx_is A2.rel (i1.up A2.sm) hd
    obtain ⟨b, rfl, hb⟩ := tkd_is A2.rel i2 he
    rcases pr.val kk with ⟨z, _⟩ | ⟨d2, w2, z, hw, iv⟩
    · rw [z] at g; cases g
    · rw [z] at g
      cases g
      exact ⟨a, w2, rfl, ⟨kvs, xs, kk, b, hR, kx_sub A2.rel kx, rfl, hb, hw.symm⟩, k _ _ ⟨_, S2, F2, A1.trans A2, iv, q2⟩⟩, xe_tr x A1⟩, x⟩
theorem ds_xput (hu : X.A.units + 1 < cLine) (ho : DE X W o td) (hi : DE X W i ty) (hv : DE X W value tv) (hs : swapsWith value (some (.Subscript o i pos')) pos.line X.env = pure false := by rfl) :
    DS X W (.Assign [.Subscript o i pos'] value pos) (dXPut (hfX X.prog X.w) td ty tv) :=
  ds_ps (ps_xput hu ho.pe hi.pe hv.pe hs) fun N σ H ⟨ρ, S, F, Z, Q, R, V, q, l⟩ => by
    have x := l.xe V
    refine ⟨ρ, S, F, Z, _, _, R, V, q, fun v H1 ⟨d, S1, F1, A1, i1, q1⟩ => ⟨ρ, S1, F1, Z, _, _, A1.rel, V.up A1.sm, q1, fun w H2 ⟨xd, S2, F2, A2, i2, q2⟩ => ⟨ρ, S2, F2, Z, _, _, A2.rel, (V.up A1.sm).up A2.sm, q2, fun u H3 ⟨yd, S3, F3, A3, i3, a, ks, ds, kk, hx, hS, hy, z, q3⟩ => ?_, xe_tr x (A1.trans A2)⟩, xe_tr x A1⟩, x⟩
    subst hx hy
    cases i2
    have A := A1.trans (A2.trans A3)
    have iv := (i1.up A2.sm).up A3.sm
    have V3 := V.up A.sm
    obtain ⟨_, o, ho, xs, kvs, rfl, h0, h2, h3⟩ := A3.rel.sto a _ hS
    cases i3 with
    | @kup b ob vs _ g1 g0 g2 =>
      rw [keyDs_inv g2] at g1
      have p := (pr_of h2 h3).put kk iv
      refine ⟨a, kvs, xs, kk, b, rfl, ho, kx_sub A3.rel h0, rfl, .inr ⟨_, (A3.rel.sub _ _ g1).1⟩, by rw [← List.length_map (f := (·.1)) (as := kvs), h2]; exact z, fun u ru => ?_⟩
      obtain ⟨R4, k4⟩ := A3.rel.wrote (o := DictX (hfX X.prog X.w) a (storedH xs kk b u)) (m := .dX a (hfX X.prog X.w) ((putD (ks.zip ds) kk d).map (·.1)) ((putD (ks.zip ds) kk d).map (·.2))) hS ⟨_, _, rfl, h0.put kk g1 g0 ru, p.fst.symm, p.snd⟩
      exact l.nx _ _ ⟨ρ, _, F3, A.trans ⟨Same.refl _, R4, k4⟩, V3, q3⟩
theorem de_newMX : DE X W (.Dict [] [] pos) (dNewMX (hfX X.prog X.w)) := de_pe pe_dnewX fun σ H P ⟨ρ, S, F, Z, Q, E, R, V, q, k, x⟩ => fun p hp => by
  obtain ⟨R2, k2, hS⟩ := R.made (o := DictX (hfX X.prog X.w) p []) (m := .dX p (hfX X.prog X.w) [] []) hp ⟨[], [], rfl, .nil, rfl, .nil⟩
  exact k _ _ ⟨.ref p, _, F, ⟨Same.refl _, R2, k2⟩, .ref p, q p hS⟩
end
end DL

set_option maxRecDepth 100000
set_option maxHeartbeats 2000000
/-! DK60: dicts with known tuples as keys: locked; their keys walked. -/
namespace DL
open PySem PySem.Spec PyProof.Rows L2
theorem Rel.lockX {K : PySem.W.Frag} {Z : Addr → Prop} {H F : Hp} {S : Store} {a : Addr} {hf : List Key → Int} {ks : List (List Key)} {ds : List D} (R : Rel K Z H S F) (h : S a = some (.dX a hf ks ds)) :
    ∃ kvs xs, H a = some (DictX hf a xs) ∧ KX F kvs xs ∧ kvs.map (·.1) = ks ∧ IsVs K F ds (kvs.map (·.2)) ∧ ∀ od, Aft K Z H F (upd H a (.frz od (DictX hf a xs))) (del S a) (upd F a (.frz od (DictX hf a xs))) := by
  obtain ⟨za, o, h1, xs, kvs, rfl, h0, h2, h3⟩ := R.sto a _ h
  have fa : F a = none := by
    cases q : F a with
    | none => rfl
    | some u => have := (R.sub a u q).2.1; rw [h] at this; cases this
  refine ⟨kvs, xs, h1, h0, h2, h3, fun od => ?_⟩
  have sm : Same F (upd F a (.frz od (DictX hf a xs))) := fun b u e => by
    have hb : b ≠ a := fun q => by rw [q, fa] at e; cases e
    rw [upd_ne hb]; exact e
  have kp : Keep Z H (upd H a (.frz od (DictX hf a xs))) := fun b u z e => by
    have hb : b ≠ a := fun q => za (q ▸ z)
    rw [upd_ne hb]; exact e
  refine ⟨sm, ⟨fun b u e => ?_, fun b m e => ?_, fun b z => ?_, R.tab.move sm fun P ps e f z => ?_⟩, kp⟩
  · by_cases hb : b = a
    · subst hb
      rw [upd_same] at e
      cases e
      exact ⟨upd_same, del_same, za⟩
    · rw [upd_ne hb] at e
      rw [del_ne hb, upd_ne hb]
      exact R.sub b u e
  · by_cases hb : b = a
    · subst hb
      rw [del_same] at e
      cases e
    · rw [del_ne hb] at e
      obtain ⟨q1, u, q2, q3⟩ := R.sto b m e
      exact ⟨q1, u, by rw [upd_ne hb]; exact q2, q3.up sm⟩
  · obtain ⟨u, hu⟩ := R.hid b z
    exact ⟨u, kp b u z hu⟩
  · have hb : P ≠ a := fun q => by rw [q, h1] at e; cases e
    exact ⟨by rw [upd_ne hb]; exact e, by rw [upd_ne hb]; exact f, z⟩
section
variable {X : Cx} {W : WX}
theorem dss_frzX {st : List Stmt} {t : DTS} (i : Nat) (h : DSs X W st t) : DSs X W st (dFrzX i t) := by
  refine ⟨⟨fun pins s σ H N I hw => ?_⟩⟩
  obtain ⟨ρ, S, F, Z, Q, R, V, ⟨a, hf, ks, ds, e1, e2, q⟩, l⟩ := hw
  obtain ⟨v, hv, iv⟩ := V.2 i _ e1
  cases iv
  obtain ⟨kvs, xs, ho, h0, hk, ivs, hA⟩ := R.lockX e2
  obtain ⟨od, I1⟩ := I.lock ho trivial
  have A := hA od
  have V2 : EnvR X.K (upd F a (.frz od (DictX hf a xs))) (ρ.set i (some (.dX hf ks ds))) (σ.set i (some (L2.V.ref a))) := (V.up A.sm).set (.dX upd_same (h0.up A.sm) hk (ivs.up A.sm)) i
  rw [set_self hv] at V2
  exact h.pss.run pins s σ _ N I1 ⟨_, _, _, Z, Q, A.rel, V2, q, l.tr A⟩
theorem e_frzX {nx bk ct : Sl → Store → Prop} {rt : DQ} {ex : Sl → DX} {ρ : Sl} {S : Store} {t : DTS} {i : Nat} {a : Addr} {hf : List Key → Int} {ks : List (List Key)} {ds : List D} (e1 : ρ[i]? = some (some (.ref a))) (e2 : S a = some (.dX a hf ks ds)) (h : t ⟨nx, rt, bk, ct, ex⟩ (ρ.set i (some (.dX hf ks ds))) (del S a)) : dFrzX i t ⟨nx, rt, bk, ct, ex⟩ ρ S := ⟨a, hf, ks, ds, e1, e2, h⟩
end
/-! ### its keys, walked -/
theorem keyDs_is {K : PySem.W.Frag} {F : Hp} : ∀ k : List Key, IsVs K F (k.map keyD) (k.map kV)
  | [] => .nil
  | x :: r => .cons (keyD_is x) (keyDs_is r)
section
variable {X : Cx} {pins : List (Addr × Obj)} {σ : L2.St} {H : Hp} {s : Shared} {d : Addr} {o : Obj} {hf : List Key → Int} {xs : List (List Key × Addr × Value)}
theorem inv_frzX (I : Inv X pins σ H s) (h : H d = some (.frz o (DictX hf d xs))) :
    (d == sysModules) = false ∧ s.heap.get? d = some o ∧ o.ExactDict ∧ ∃ (es : Array DictEntry) (ep : Nat), o.data = .dict es ep ∧ es.size = xs.length ∧ ∀ (i : Nat) (x : List Key × Addr × Value), xs[i]? = some x → ∃ en : DictEntry, es[i]? = some en ∧ en.key = .ref x.2.1 := by
  obtain ⟨hd, ⟨o', es, ep, ho, hx, hdt, he, hn, hz, hs⟩, _, _⟩ := (show ObjOk X.prog X.w H s.heap d (.frz o (DictX hf d xs)) from I.hok d _ h)
  rw [hd] at ho
  cases ho
  refine ⟨hs, hd, hx, es, ep, hdt, ?_, fun i x e => ?_⟩
  · have := congrArg List.length he
    rw [List.length_map, Array.length_toList] at this
    exact this
  · have : es.toList[i]? = (xs.map (fun x => (⟨hf x.1, .ref x.2.1, x.2.2⟩ : DictEntry)))[i]? := by rw [he]
    rw [Array.getElem?_toList, List.getElem?_map, e] at this
    exact ⟨_, this, rfl⟩
end
/-- the keys of the locked dict at d -/
def Itkx (hf : List Key → Int) (d : Addr) (o : Obj) (xs : List (List Key × Addr × Value)) : It :=
  ⟨fun i H => H d = some (.frz o (DictX hf d xs)) ∧ i < xs.length, fun i H x H' => H' = H ∧ ∃ y, xs[i]? = some y ∧ x = .ref y.2.1, fun i H => H d = some (.frz o (DictX hf d xs)) ∧ xs.length ≤ i⟩
theorem turn_keysX {P : Program} {w : World} {K : PySem.W.Frag} {tg : Expr} {d : Addr} {o : Obj} {es : Array DictEntry} {ep : Nat} {hf : List Key → Int} {xs : List (List Key × Addr × Value)} (it : Addr) (hod : o.data = .dict es ep) : Turn P w K tg (Itkx hf d o xs) [it] it (fun i h => h.IsKeyIter it d i xs.length ep) where
  mem := by simp
  obj := fun i h st b hb => by
    have e : b = it := by simpa using hb
    subst e
    obtain ⟨oi, e, c, dd⟩ := st
    exact ⟨oi, e, fun v z => by rw [dd] at z; cases z⟩
  keep := fun i h h' st k => st.at fun oi e => k it (by simp) oi e
  item := by
    intro X hP hw hK hc i pins s σ H E I hf' st hg
    subst hP hw hK
    obtain ⟨hd, hi⟩ := hg
    obtain ⟨f0, f1, f2, f3, f4, f5⟩ := hf' it (by simp)
    obtain ⟨hs, hgd, hx, es', ep', hdt, hsz, ent⟩ := inv_frzX I hd
    obtain ⟨rfl, rfl⟩ := dict_ep hod hdt
    obtain ⟨y, hy⟩ : ∃ y, xs[i]? = some y := ⟨xs[i], List.getElem?_eq_getElem hi⟩
    obtain ⟨en, hen, hkey⟩ := ent i y hy
    refine next_key_item st hgd hdt hsz hen fun h' st' sb => ?_
    have I1 : Inv X pins σ H { s with heap := h' } := I.turned (t' := s.toks) (fun b ob hb e => (sb.2 b hb).trans e) f0 f1 f3 f4 f5
    obtain ⟨oi, e, c, dd⟩ := id st'
    exact ⟨en.key, rfl, go_of (s := { s with heap := h' }) e c dd (by decide) ⟨.ref y.2.1, H, I1, hkey, ⟨rfl, y, hy, rfl⟩, st', fun b hb => (hf' b hb).1⟩⟩
  done := by
    intro X hP hw hK hc i pins s σ H E I hf' st hg
    subst hP hw hK
    obtain ⟨hd, hi⟩ := hg
    obtain ⟨f0, f1, f2, f3, f4, f5⟩ := hf' it (by simp)
    obtain ⟨hs, hgd, hx, es', ep', hdt, hsz, ent⟩ := inv_frzX I hd
    obtain ⟨rfl, rfl⟩ := dict_ep hod hdt
    exact next_key_end (I.ok.hd hc) st hgd hdt hsz hi fun h' eb => ⟨rfl, I.turned (t' := s.toks) (fun b ob hb e => eb b ob hb e) f0 f1 f3 f4 f5⟩
  self := fun A i s Q E st h => by
    refine wpAny_pyIter_slot st.typeIs F.slot_dict_keyiterator_iter (wpAny_call_entry F.slot_dict_keyiterator_iter st.typeIs F.entry_dict_keyiterator_iter ?_ (F.args_dict_keyiterator_iter_1 _))
    show wpAny _ _ (ret (.ref it)) _ _ s
    exact wpAny_pure ⟨_, rfl, "dict_keyiterator", _, st.typeIs, F.slot_dict_keyiterator_next.lookup, h⟩
def iKeysX (td : TE) : TI := fun σ H R => td σ H fun x H1 => ∃ d o hf xs, x = .ref d ∧ H1 d = some (.frz o (DictX hf d xs)) ∧ R (Itkx hf d o xs) H1
section
variable {X : Cx} {W : WX} {tg e : Expr} {td : TE} {te : DTE}
theorem pi_keysX (he : PE X e td) : PI X tg e (iKeysX td) := by
  refine ⟨fun pins s σ H R I h => ?_⟩
  refine thn (he.run pins s σ H _ I h) fun u s1 ⟨x, H1, I1, rx, d, o, hf, xs, ex, hd, q⟩ => ?_
  subst ex
  obtain rfl : u = Value.ref d := rx
  obtain ⟨hs, hgd, hx, es, ep, hdt, hsz, ent⟩ := inv_frzX I1 hd
  refine iter_keys hs hgd hx hdt (pi_one (tk := s1.toks) I1 _ (turn_keysX _ hdt) ⟨_, Heap.get?_push_size _ rfl, rfl, ?_⟩ q)
  rw [hsz] <;> rfl
theorem itOk_xkeys {K : PySem.W.Frag} {F : Hp} {a : Addr} {o : Obj} {hf : List Key → Int} {kvs : List (List Key × V)} {xs : List (List Key × Addr × Value)} {ks : List (List Key)} (h1 : F a = some (.frz o (DictX hf a xs))) (h2 : KX F kvs xs) (h3 : kvs.map (·.1) = ks) : ItOk K (Itkx hf a o xs) (ks.map fun k => D.kup (k.map keyD)) F where
  go := fun H S F' Z s R i hi => ⟨(R.sub _ _ (s _ _ h1)).1, by
    have hl : kvs.length = xs.length := Paired.length h2
    rw [List.length_map, ← h3, List.length_map] at hi; omega⟩
  stop := fun H S F' Z s R => ⟨(R.sub _ _ (s _ _ h1)).1, by
    have hl : kvs.length = xs.length := Paired.length h2
    rw [List.length_map, ← h3, List.length_map]; omega⟩
  yld := fun H S F' Z s R i x H' hi hy => by
    obtain ⟨rfl, y, hv, rfl⟩ := hy
    have hl : kvs.length = xs.length := Paired.length h2
    have hx : i < xs.length := (List.getElem?_eq_some_iff.mp hv).1
    obtain ⟨⟨k, v⟩, hkv⟩ : ∃ p, kvs[i]? = some p := ⟨kvs[i]'(by omega), List.getElem?_eq_getElem (by omega)⟩
    obtain ⟨q, u, hq, ⟨oq, hF, hn⟩, _⟩ := h2.get hkv
    rw [hv] at hq
    cases hq
    refine ⟨F', .kup (k.map keyD), .refl R, ?_, ?_⟩
    · rw [List.getElem?_map, ← h3, List.getElem?_map, hkv]
      rfl
    · exact IsV.kup (s _ _ hF) hn (keyDs_is k)
def dItKeysX (te : DTE) : DTI := fun ρ S Q E => te ρ S (fun d S1 => ∃ hf ks ds, d = .dX hf ks ds ∧ Q (ks.map fun k => D.kup (k.map keyD)) S1) E
theorem s_itKeysX {ρ : Sl} {S : Store} {QI : List D → Store → Prop} {E : DX} (h : te ρ S (fun d S1 => ∃ hf ks ds, d = .dX hf ks ds ∧ QI (ks.map fun k => D.kup (k.map keyD)) S1) E) : dItKeysX te ρ S QI E := h
theorem di_keysX (he : DE X W e te) : DI X W tg e (dItKeysX te) := ⟨pi_imp (pi_keysX he.pe) fun σ H P ⟨ρ, S, F, Z, Q, E, R, V, q, k, x⟩ => ⟨ρ, S, F, Z, _, E, R, V, q, fun v H1 ⟨d, S1, F1, A1, i1, hf, ks, ds, hd, q1⟩ => by
  subst hd
  cases i1 with
  | dX h1 h0 h2 h3 => exact ⟨_, _, _, _, rfl, (A1.rel.sub _ _ h1).1, k _ _ _ S1 F1 A1 (itOk_xkeys h1 h0 h2) q1⟩, x⟩⟩
end
end DL

set_option maxRecDepth 100000
set_option maxHeartbeats 2000000
/-! zip of any number of tuples, at the library's level: its making, its turns, its end. -/
namespace DZN
open PySem
open PySem.Sem (wp)
/-- iterators at N, N + 1, .. over tuples that stand below N, each so far -/
structure Its (h : Heap) (N : Nat) (ls : List (Nat × Array Value)) (pos : Nat → Nat) : Prop where
  it : ∀ (j : Nat) (p : Nat × Array Value), ls[j]? = some p → h.IsTupleIter (N + j : Nat) p.1 (pos j)
  tp : ∀ (j : Nat) (p : Nat × Array Value), ls[j]? = some p → h.IsTuple p.1 p.2 ∧ p.1 < N
def refsN (N m : Nat) : Array Value := ((List.range m).map fun j => Value.ref (N + j : Nat)).toArray
/-- what is given out at turn k -/
def rowN (ls : List (Nat × Array Value)) (k : Nat) : List Value := ls.map fun p => p.2.getD k .none
theorem Its.at {h h' : Heap} {N : Nat} {ls : List (Nat × Array Value)} {pos : Nat → Nat} (x : Its h N ls pos) (k : ∀ c o, c < N + ls.length → h.get? c = some o → h'.get? c = some o) : Its h' N ls pos where
  it := fun j p e => (x.it j p e).at fun o q => k _ o (Nat.add_lt_add_left (List.getElem?_eq_some_iff.mp e).1 N) q
  tp := fun j p e => ⟨(x.tp j p e).1.at fun o q => k _ o (Nat.lt_of_lt_of_le (x.tp j p e).2 (Nat.le_add_right _ _)) q, (x.tp j p e).2⟩
/-- the zip object -/
abbrev ZN (h : Heap) (z TI TO : Nat) (f0 : Value) (f : Bool) : Prop := h.get? z = some { cls := .type "zip", dict := none, data := .fields #[f0, .bool f, .bool false, .ref TI, .ref TO], slots := #[] }
/-- its tuple may be written again -/
def FreeT (h : Heap) (f0 : Value) : Prop := f0 = .none ∨ ∃ T : Addr, f0 = rawInt T ∧ h.get? T = none
section
variable {prog : Program} {w : World} {A : Around} {E : Value → Shared → Prop} {s : Shared}
theorem kdx_dead {a : Addr} {Q : Option Obj → Shared → Prop} (ho : s.heap.get? a = none) (h : Q none s) : wpAny (model prog w) A (loadIfAlive a) Q E s := by
  have h' : Q (s.heap.get? a) s := by rw [ho]; exact h
  exact fun _ _ _ => h'
theorem own_free {z TI TO : Nat} {f0 : Value} {f : Bool} {Q : Bool → Shared → Prop} (hz : ZN s.heap z TI TO f0 f) (hf : FreeT s.heap f0) (h : Q true s) : wpAny (model prog w) A (Builtin.SmallTypes.ownedTupleIsFree (.ref z)) Q E s := by
  unfold Builtin.SmallTypes.ownedTupleIsFree
  rcases hf with rfl | ⟨T, rfl, hT⟩
  · exact wpAny_bind (wpAny_field hz rfl (x := .none) rfl (wpAny_pure h))
  · refine wpAny_bind (wpAny_field hz rfl (x := rawInt T) rfl ?_)
    show wpAny _ _ (loadIfAlive ((T : Int).toNat) >>= _) _ _ _
    rw [Int.toNat_natCast]
    refine wpAny_bind (kdx_dead hT ?_)
    simp only [Option.isNone_none, if_true]
    exact wpAny_pure h
end
section
variable {prog : Program} {w : World} {A : Around} {E : Value → Shared → Prop} {s : Shared} {N k : Nat} {ls : List (Nat × Array Value)}
theorem zipN_held {T : Addr} {f : Bool} {oT : Obj} {Q : Value → Shared → Prop} (m1 : ls ≠ []) (lz : ls.length ≤ 1000) (hz : PySem.IsZipHeld s.heap (N + ls.length + 2 : Nat) (N + ls.length : Nat) (N + ls.length + 1 : Nat) T f) (hT : s.heap.get? T = some oT)
    (hTI : s.heap.get? (N + ls.length : Nat) = some { cls := .type "tuple", data := .seq (refsN N ls.length) }) (st : Its s.heap N ls fun _ => k) (hk : ∀ p ∈ ls, k < p.2.size)
    (hQ : ∀ h', PySem.IsZipHeld h' (N + ls.length + 2 : Nat) (N + ls.length : Nat) (N + ls.length + 1 : Nat) T true → Its h' N ls (fun _ => k + 1) → h'.get? s.heap.objs.size = some { cls := .type "tuple", data := .seq (rowN ls k).toArray } → h'.objs.size = s.heap.objs.size + 1 →
      (∀ c o, c ≠ N + ls.length + 2 → ¬ (N ≤ c ∧ c < N + ls.length) → s.heap.get? c = some o → h'.get? c = some o) → Q (.ref s.heap.objs.size) { s with heap := h' }) :
    wpAny (model prog w) A (Builtin.«zip.__next__» ⟨[.ref (N + ls.length + 2 : Nat)], []⟩) (fun fin s' => ∃ v, fin = .done (.ret v) ∧ Q v s') E s := by
  have ne : (refsN N ls.length).isEmpty = false := by
    unfold refsN
    cases ls with
    | nil => exact absurd rfl m1
    | cons p r => simp [List.range_succ]
  show wpAny _ _ (field (.ref (N + ls.length + 2 : Nat)) 2 >>= _) _ _ _
  refine wpAny_bind (wpAny_field hz rfl (x := .bool false) rfl ?_)
  show wpAny _ _ (field (.ref (N + ls.length + 2 : Nat)) 3 >>= _) _ _ _
  refine wpAny_bind (wpAny_field hz rfl (x := .ref (N + ls.length : Nat)) rfl (wpAny_bind (wpAny_seqItems hTI rfl ?_)))
  simp only [ne, Bool.false_eq_true, if_false]
  refine wpAny_bind (wpAny_tupleHeld_zip hz hT fun g1 z1 b1 => ?_)
  simp only [Bool.false_eq_true, if_false]
  rw [← Array.forIn_toList]
  have eb : ∀ {b : Addr} {h h' : Heap}, Heap.SameBut b h h' → ∀ (c : Nat) o, c ≠ b → h.get? c = some o → h'.get? c = some o := fun sb c o hc e => (sb.2 c hc).trans e
  refine wpAny_bind (wpAny_forIn_list _ (fun rest b s' => ∃ (i : Nat) (g : Heap), rest = ((List.range ls.length).map fun j => Value.ref (N + j : Nat)).drop i ∧ i ≤ ls.length ∧ b = (none, (rowN (ls.take i) k).toArray) ∧ s' = { s with heap := g } ∧ Its g N ls (fun j => if j < i then k + 1 else k) ∧ g.objs.size = s.heap.objs.size ∧
    PySem.IsZipHeld g (N + ls.length + 2 : Nat) (N + ls.length : Nat) (N + ls.length + 1 : Nat) T true ∧ ∀ c o, c ≠ N + ls.length + 2 → ¬ (N ≤ c ∧ c < N + ls.length) → s.heap.get? c = some o → g.get? c = some o) _ ?_ ?_ _ _ ?_)
  · rintro x rest b s' ⟨i, g, hr, hi, rfl, rfl, it, sz, hz', kp⟩
    have lt : i < ls.length := by
      have := congrArg List.length hr
      rw [List.length_drop, List.length_map, List.length_range, List.length_cons] at this
      omega
    obtain ⟨p, hp⟩ : ∃ p, ls[i]? = some p := ⟨ls[i], List.getElem?_eq_getElem lt⟩
    rw [List.drop_eq_getElem_cons (by rw [List.length_map, List.length_range]; exact lt)] at hr
    injection hr with hx hrest
    rw [List.getElem_map, List.getElem_range] at hx
    subst hx
    have i1 := it.it i p hp
    rw [if_neg (Nat.lt_irrefl i)] at i1
    obtain ⟨t1, t2⟩ := it.tp i p hp
    have hks := hk p (List.mem_of_getElem? hp)
    refine wpAny_bind (wpAny_holding ?_)
    show wpAny _ _ (Builtin.SmallTypes.nextOf (.ref (N + i : Nat)) >>= _) _ _ _
    refine wpAny_bind (RZ.nextOf_tuple_item i1 t1 (Array.getElem?_eq_getElem hks) fun h' a1 a2 => wpAny_pure (wpAny_pure ?_))
    refine ⟨i + 1, h', hrest, lt, ?_, rfl, ⟨fun j q e => ?_, fun j q e => ?_⟩, a2.1.trans sz, eb a2 _ _ (by omega) hz', fun c o c1 c2 e => eb a2 c o (fun z => c2 (by omega)) (kp c o c1 c2 e)⟩
    · rw [List.take_succ, hp]
      unfold rowN
      rw [List.map_append, ← List.toList_toArray (as := List.map _ (List.take i ls))]
      simp [Array.getD, hks]
    · by_cases hj : j = i
      · subst hj
        rw [hp] at e
        cases e
        rw [if_pos (Nat.lt_succ_self j)]
        exact a1
      · have := it.it j q e
        rw [show (if j < i + 1 then k + 1 else k) = if j < i then k + 1 else k from by
          by_cases h1 : j < i
          · rw [if_pos h1, if_pos (by omega)]
          · rw [if_neg h1, if_neg (by omega)]]
        exact this.at fun o q => eb a2 _ o (by omega) q
    · obtain ⟨u1, u2⟩ := it.tp j q e
      exact ⟨u1.at fun o z => eb a2 _ o (by omega) z, u2⟩
  · rintro b s' ⟨i, g, hr, hi, rfl, rfl, it, sz, hz', kp⟩
    have hi : i = ls.length := by
      have := congrArg List.length hr
      rw [List.length_drop, List.length_map, List.length_range, List.length_nil] at this
      omega
    subst hi
    rw [List.take_length]
    show wpAny _ _ (newTuple (rowN ls k) >>= _) _ _ _
    refine wpAny_bind (wpAny_newTuple ?_ ?_)
    · refine wpAny_pure ⟨_, rfl, ?_⟩
      show Q (.ref g.objs.size) _
      have up : ∀ (c : Nat) o, g.get? c = some o → (g.push { cls := .type "tuple", data := .seq (rowN ls k).toArray }).get? c = some o := fun c o e => Heap.get?_push_of_some _ e
      have T4 : (g.push { cls := .type "tuple", data := .seq (rowN ls k).toArray }).get? g.objs.size = some { cls := .type "tuple", data := .seq (rowN ls k).toArray } := Heap.get?_push_size _ rfl
      have sz4 : (g.push { cls := .type "tuple", data := .seq (rowN ls k).toArray }).objs.size = g.objs.size + 1 := Heap.size_push ..
      rw [sz] at T4 sz4 ⊢
      refine hQ _ (up _ _ hz') (Its.at ⟨fun j p e => ?_, it.tp⟩ fun c o _ e => up c o e) T4 sz4 fun c o c1 c2 e => up c o (kp c o c1 c2 e)
      have := it.it j p e
      rw [if_pos (List.getElem?_eq_some_iff.mp e).1] at this
      exact this
    · unfold rowN
      rw [List.length_map, sizeLine_eq]
      omega
  · refine ⟨0, g1, by simp [refsN], Nat.zero_le _, rfl, rfl, ?_, b1.1, z1, fun c o c1 c2 e => eb b1 c o c1 e⟩
    exact Its.at ⟨fun j p e => st.it j p e, st.tp⟩ fun c o c1 e => eb b1 c o (by omega) e
theorem zipN_new {Q : Value → Shared → Prop} {vs0 : Array Value} {f0 : Value} {f : Bool} (m1 : ls ≠ []) (lz : ls.length ≤ 1000) (hz : ZN s.heap (N + ls.length + 2) (N + ls.length) (N + ls.length + 1) f0 f) (fr : FreeT s.heap f0)
    (hTI : s.heap.get? (N + ls.length : Nat) = some { cls := .type "tuple", data := .seq (refsN N ls.length) }) (hTO : s.heap.get? (N + ls.length + 1 : Nat) = some { cls := .type "tuple", data := .seq vs0 }) (hv0 : vs0.size = ls.length) (st : Its s.heap N ls fun _ => k) (hk : ∀ p ∈ ls, k < p.2.size)
    (hQ : ∀ h', PySem.IsZipHeld h' (N + ls.length + 2 : Nat) (N + ls.length : Nat) (N + ls.length + 1 : Nat) s.heap.objs.size false → Its h' N ls (fun _ => k + 1) → (∃ vs : Array Value, h'.get? (N + ls.length + 1 : Nat) = some { cls := .type "tuple", data := .seq vs } ∧ vs.size = ls.length) → h'.get? s.heap.objs.size = some { cls := .type "tuple", data := .seq (rowN ls k).toArray } → h'.objs.size = s.heap.objs.size + 1 →
      (∀ c o, c ≠ N + ls.length + 2 → c ≠ N + ls.length + 1 → ¬ (N ≤ c ∧ c < N + ls.length) → s.heap.get? c = some o → h'.get? c = some o) → Q (.ref s.heap.objs.size) { s with heap := h' }) :
    wpAny (model prog w) A (Builtin.«zip.__next__» ⟨[.ref (N + ls.length + 2 : Nat)], []⟩) (fun fin s' => ∃ v, fin = .done (.ret v) ∧ Q v s') E s := by
  have ne : (refsN N ls.length).isEmpty = false := by
    unfold refsN
    cases ls with
    | nil => exact absurd rfl m1
    | cons p r => simp [List.range_succ]
  have eb : ∀ {b : Addr} {h h' : Heap}, Heap.SameBut b h h' → ∀ (c : Nat) o, c ≠ b → h.get? c = some o → h'.get? c = some o := fun sb c o hc e => (sb.2 c hc).trans e
  show wpAny _ _ (field (.ref (N + ls.length + 2 : Nat)) 2 >>= _) _ _ _
  refine wpAny_bind (wpAny_field hz rfl (x := .bool false) rfl ?_)
  show wpAny _ _ (field (.ref (N + ls.length + 2 : Nat)) 3 >>= _) _ _ _
  refine wpAny_bind (wpAny_field hz rfl (x := .ref (N + ls.length : Nat)) rfl (wpAny_bind (wpAny_seqItems hTI rfl ?_)))
  simp only [ne, Bool.false_eq_true, if_false]
  show wpAny _ _ (Builtin.SmallTypes.ownedTupleIsFree (.ref (N + ls.length + 2 : Nat)) >>= _) _ _ _
  refine wpAny_bind (own_free hz fr ?_)
  simp only [if_true]
  refine wpAny_bind (wpAny_rule (wpAny_bind (wpAny_field hz rfl (x := .ref (N + ls.length + 1 : Nat)) rfl (wpAny_bind (wpAny_setField_rec hz (by simp) fun g1 z1 b1 => ?_)))))
  have z1 : ZN g1 (N + ls.length + 2) (N + ls.length) (N + ls.length + 1) .ellipsis f := z1
  refine wpAny_bind (wpAny_forIn_list _ (fun rest b s' => ∃ (i : Nat) (g : Heap) (vs : Array Value), rest = (refsN N ls.length).toList.zipIdx.drop i ∧ i ≤ ls.length ∧ b = (none, ()) ∧ s' = { s with heap := g } ∧ Its g N ls (fun j => if j < i then k + 1 else k) ∧ g.objs.size = s.heap.objs.size ∧
    ZN g (N + ls.length + 2) (N + ls.length) (N + ls.length + 1) .ellipsis f ∧ g.get? (N + ls.length + 1 : Nat) = some { cls := .type "tuple", data := .seq vs } ∧ vs.size = ls.length ∧ (∀ j < i, vs[j]? = (rowN ls k)[j]?) ∧ ∀ c o, c ≠ N + ls.length + 2 → c ≠ N + ls.length + 1 → ¬ (N ≤ c ∧ c < N + ls.length) → s.heap.get? c = some o → g.get? c = some o) _ ?_ ?_ _ _ ?_)
  · rintro x rest b s' ⟨i, g, vs, hr, hi, rfl, rfl, it, sz, hz', hT', hv, hrow, kp⟩
    have lt : i < ls.length := by
      have := congrArg List.length hr
      rw [List.length_drop, List.length_zipIdx, List.length_cons] at this
      simp [refsN] at this
      omega
    obtain ⟨p, hp⟩ : ∃ p, ls[i]? = some p := ⟨ls[i], List.getElem?_eq_getElem lt⟩
    have hxi : x = (Value.ref (N + i : Nat), i) := by
      have := congrArg (·[0]?) hr
      simp [refsN, lt] at this
      exact this
    subst hxi
    have hrest : rest = (refsN N ls.length).toList.zipIdx.drop (i + 1) := by
      have := congrArg List.tail hr
      rw [List.tail_cons, List.tail_drop] at this
      exact this
    have i1 := it.it i p hp
    rw [if_neg (Nat.lt_irrefl i)] at i1
    obtain ⟨t1, t2⟩ := it.tp i p hp
    have hks := hk p (List.mem_of_getElem? hp)
    refine wpAny_bind (wpAny_onRaise ?_)
    show wpAny _ _ (Builtin.SmallTypes.nextOf (.ref (N + i : Nat)) >>= _) _ _ _
    refine wpAny_bind (RZ.nextOf_tuple_item i1 t1 (Array.getElem?_eq_getElem hks) fun h' a1 a2 => wpAny_pure ?_)
    have hT2 := eb a2 _ _ (by omega) hT'
    refine wpAny_bind (wpAny_seqItems hT2 rfl (wpAny_bind (wpAny_updateSeq hT2 rfl ?_ (by rw [hv, sizeLine_eq]; omega) (by rw [Array.size_setIfInBounds, hv, sizeLine_eq]; omega))))
    have b3 := Heap.SameBut.update h' (N + ls.length + 1 : Nat) (Obj.mapSeq fun x => x.setIfInBounds i (p.2[k]))
    have hT3 : (h'.update (N + ls.length + 1 : Nat) (Obj.mapSeq fun x => x.setIfInBounds i (p.2[k]))).get? (N + ls.length + 1 : Nat) = some { cls := .type "tuple", data := .seq (vs.setIfInBounds i p.2[k]) } := by
      rw [Heap.get?_update_self _ hT2 rfl]
      simp [Obj.mapSeq]
    generalize h'.update (N + ls.length + 1 : Nat) (Obj.mapSeq fun x => x.setIfInBounds i (p.2[k])) = h3 at b3 hT3 ⊢
    refine wpAny_bind (wpAny_letGo (wpAny_pure ?_))
    refine ⟨i + 1, h3, _, hrest, lt, rfl, rfl, ⟨fun j q e => ?_, fun j q e => ?_⟩, (b3.1.trans a2.1).trans sz, eb b3 _ _ (by omega) (eb a2 _ _ (by omega) hz'), hT3, by rw [Array.size_setIfInBounds]; exact hv, fun j hj => ?_, fun c o c1 c2 c3 e => eb b3 c o c2 (eb a2 c o (fun z => c3 (by omega)) (kp c o c1 c2 c3 e))⟩
    · have hj2 := (List.getElem?_eq_some_iff.mp e).1
      by_cases hj : j = i
      · subst hj
        rw [hp] at e
        cases e
        rw [if_pos (Nat.lt_succ_self j)]
        exact a1.at fun o z => eb b3 _ o (by omega) z
      · have := it.it j q e
        rw [show (if j < i + 1 then k + 1 else k) = if j < i then k + 1 else k from by
          by_cases h1 : j < i
          · rw [if_pos h1, if_pos (by omega)]
          · rw [if_neg h1, if_neg (by omega)]]
        exact this.at fun o q => eb b3 _ o (by omega) (eb a2 _ o (by omega) q)
    · obtain ⟨u1, u2⟩ := it.tp j q e
      exact ⟨u1.at fun o z => eb b3 _ o (by omega) (eb a2 _ o (by omega) z), u2⟩
    · by_cases h1 : j = i
      · subst h1
        rw [Array.getElem?_setIfInBounds_self_of_lt (by omega)]
        unfold rowN
        rw [List.getElem?_map, hp]
        simp [Array.getD, hks]
      · rw [Array.getElem?_setIfInBounds_ne (Ne.symm h1)]
        exact hrow j (by omega)
  · rintro b s' ⟨i, g, vs, hr, hi, rfl, rfl, it, sz, hz', hT', hv, hrow, kp⟩
    have hi : i = ls.length := by
      have := congrArg List.length hr
      rw [List.length_drop, List.length_zipIdx, List.length_nil] at this
      simp [refsN] at this
      omega
    subst hi
    have hvs : vs.toList = rowN ls k := by
      refine List.ext_getElem? fun j => ?_
      by_cases hj : j < ls.length
      · rw [Array.getElem?_toList]
        exact hrow j hj
      · rw [List.getElem?_eq_none (by rw [Array.length_toList]; omega), List.getElem?_eq_none (by unfold rowN; rw [List.length_map]; omega)]
    refine wpAny_bind (wpAny_seqItems hT' rfl ?_)
    show wpAny _ _ (newTuple vs.toList >>= _) _ _ _
    rw [hvs]
    refine wpAny_bind (wpAny_newTuple ?_ (by unfold rowN; rw [List.length_map, sizeLine_eq]; omega))
    show wpAny _ _ (Builtin.SmallTypes.ownedTupleHandOut (.ref (N + ls.length + 2 : Nat)) (.ref g.objs.size) >>= _) _ _ _
    unfold Builtin.SmallTypes.ownedTupleHandOut
    have zlt : (N + ls.length + 2 : Nat) < g.objs.size := Heap.lt_size hz'
    have up5 : ∀ (c : Nat) o, g.get? c = some o → (g.push { cls := .type "tuple", data := .seq (rowN ls k).toArray }).get? c = some o := fun c o e => Heap.get?_push_of_some _ e
    refine wpAny_bind (wpAny_bind (wpAny_setField_rec (up5 _ _ hz') (by simp) fun g7 z7 b7 => ?_))
    have z7 : ZN g7 (N + ls.length + 2) (N + ls.length) (N + ls.length + 1) (rawInt g.objs.size) f := z7
    refine wpAny_setField_rec z7 (by simp) fun g8 z8 b8 => ?_
    have z8 : ZN g8 (N + ls.length + 2) (N + ls.length) (N + ls.length + 1) (rawInt g.objs.size) false := z8
    have up : ∀ (c : Nat) o, c ≠ N + ls.length + 2 → g.get? c = some o → g8.get? c = some o := fun c o hc e => eb b8 _ _ hc (eb b7 _ _ hc (up5 c o e))
    have T8 : g8.get? g.objs.size = some { cls := .type "tuple", data := .seq (rowN ls k).toArray } := eb b8 _ _ (Nat.ne_of_gt zlt) (eb b7 _ _ (Nat.ne_of_gt zlt) (Heap.get?_push_size _ rfl))
    have sz8 : g8.objs.size = g.objs.size + 1 := by rw [b8.1, b7.1, Heap.size_push]
    rw [sz] at z8 T8 sz8
    refine wpAny_pure ⟨_, rfl, ?_⟩
    show Q (.ref g.objs.size) _
    rw [sz]
    refine hQ g8 z8 (Its.at ⟨fun j p e => ?_, it.tp⟩ fun c o c1 e => up c o (by omega) e) ⟨vs, up _ _ (by omega) hT', hv⟩ T8 sz8 fun c o c1 c2 c3 e => up c o c1 (kp c o c1 c2 c3 e)
    have := it.it j p e
    rw [if_pos (List.getElem?_eq_some_iff.mp e).1] at this
    exact this
  · refine ⟨0, g1, vs0, by simp, Nat.zero_le _, rfl, rfl, ?_, b1.1, z1, eb b1 _ _ (by omega) hTO, hv0, fun j hj => absurd hj (Nat.not_lt_zero _), fun c o c1 c2 c3 e => eb b1 c o c1 e⟩
    exact Its.at ⟨fun j p e => st.it j p e, st.tp⟩ fun c o c1 e => eb b1 c o (by omega) e
/-- the first tuple has come to its end -/
theorem zipN_stop_new {Q : PySem.Fin → Shared → Prop} {p : Nat × Array Value} {f0 : Value} {f : Bool} (hh : A.handled = none) (hp : ls[0]? = some p) (hz : ZN s.heap (N + ls.length + 2) (N + ls.length) (N + ls.length + 1) f0 f) (fr : FreeT s.heap f0)
    (hTI : s.heap.get? (N + ls.length : Nat) = some { cls := .type "tuple", data := .seq (refsN N ls.length) }) (st : Its s.heap N ls fun _ => k) (hk : p.2[k]? = none)
    (hE : ∀ h' e, (∀ c o, c ≠ N + ls.length + 2 → ¬ (N ≤ c ∧ c < N + ls.length) → s.heap.get? c = some o → h'.get? c = some o) → (∃ o, h'.get? e = some o ∧ o.cls = .type "StopIteration") → E (.ref e) { s with heap := h' }) :
    wpAny (model prog w) A (Builtin.«zip.__next__» ⟨[.ref (N + ls.length + 2 : Nat)], []⟩) Q E s := by
  have lt : 0 < ls.length := (List.getElem?_eq_some_iff.mp hp).1
  have ne : (refsN N ls.length).isEmpty = false := by
    unfold refsN
    cases ls with
    | nil => cases hp
    | cons p r => simp [List.range_succ]
  have eb : ∀ {b : Addr} {h h' : Heap}, Heap.SameBut b h h' → ∀ (c : Nat) o, c ≠ b → h.get? c = some o → h'.get? c = some o := fun sb c o hc e => (sb.2 c hc).trans e
  have hl : ∃ rest, (refsN N ls.length).toList.zipIdx = (Value.ref (N + 0 : Nat), 0) :: rest := by
    refine ⟨(refsN N ls.length).toList.zipIdx.tail, ?_⟩
    obtain ⟨m, hm⟩ : ∃ m, ls.length = m + 1 := ⟨ls.length - 1, by omega⟩
    rw [hm]
    simp [refsN, List.range_succ_eq_map]
  obtain ⟨rest, hl⟩ := hl
  show wpAny _ _ (field (.ref (N + ls.length + 2 : Nat)) 2 >>= _) _ _ _
  refine wpAny_bind (wpAny_field hz rfl (x := .bool false) rfl ?_)
  show wpAny _ _ (field (.ref (N + ls.length + 2 : Nat)) 3 >>= _) _ _ _
  refine wpAny_bind (wpAny_field hz rfl (x := .ref (N + ls.length : Nat)) rfl (wpAny_bind (wpAny_seqItems hTI rfl ?_)))
  simp only [ne, Bool.false_eq_true, if_false]
  show wpAny _ _ (Builtin.SmallTypes.ownedTupleIsFree (.ref (N + ls.length + 2 : Nat)) >>= _) _ _ _
  refine wpAny_bind (own_free hz fr ?_)
  simp only [if_true]
  refine wpAny_bind (wpAny_rule (wpAny_bind (wpAny_field hz rfl (x := .ref (N + ls.length + 1 : Nat)) rfl (wpAny_bind (wpAny_setField_rec hz (by simp) fun g1 z1 b1 => ?_)))))
  have z1 : ZN g1 (N + ls.length + 2) (N + ls.length) (N + ls.length + 1) .ellipsis f := z1
  rw [hl, List.forIn_cons]
  refine wpAny_bind (wpAny_bind (wpAny_bind (wpAny_onRaise ?_)))
  show wpAny _ _ (Builtin.SmallTypes.nextOf (.ref (N + 0 : Nat)) >>= _) _ _ _
  have i1 := (st.it 0 p hp).at fun o q => eb b1 _ o (by omega) q
  have t1 := (st.tp 0 p hp).1.at fun o q => eb b1 _ o (by have := (st.tp 0 p hp).2; omega) q
  refine wpAny_bind (RZ.nextOf_tuple_end hh i1 t1 hk fun g2 e b2 ⟨oe, he, hc⟩ => ?_)
  have z2 : ZN g2 (N + ls.length + 2) (N + ls.length) (N + ls.length + 1) .ellipsis f := b2 (N + ls.length + 2 : Nat) _ (show (N + ls.length + 2 : Nat) ≠ N + 0 by omega) z1
  have ne : e ≠ (N + ls.length + 2 : Nat) := fun q => by subst q; rw [z2] at he; cases he; simp at hc
  exact wpAny_setField_rec z2 (by simp) fun g3 _ b3 => hE g3 e (fun c o c1 c3 q => eb b3 _ _ c1 (b2 c o (show (c : Nat) ≠ N + 0 from fun z => c3 (by omega)) (eb b1 _ _ c1 q))) ⟨oe, eb b3 _ _ ne he, hc⟩
theorem zipN_stop_held {T : Addr} {f : Bool} {oT : Obj} {Q : PySem.Fin → Shared → Prop} {p : Nat × Array Value} (hh : A.handled = none) (hp : ls[0]? = some p) (hz : PySem.IsZipHeld s.heap (N + ls.length + 2 : Nat) (N + ls.length : Nat) (N + ls.length + 1 : Nat) T f) (hT : s.heap.get? T = some oT)
    (hTI : s.heap.get? (N + ls.length : Nat) = some { cls := .type "tuple", data := .seq (refsN N ls.length) }) (st : Its s.heap N ls fun _ => k) (hk : p.2[k]? = none)
    (hE : ∀ h' e, (∀ c o, c ≠ N + ls.length + 2 → ¬ (N ≤ c ∧ c < N + ls.length) → s.heap.get? c = some o → h'.get? c = some o) → (∃ o, h'.get? e = some o ∧ o.cls = .type "StopIteration") → E (.ref e) { s with heap := h' }) :
    wpAny (model prog w) A (Builtin.«zip.__next__» ⟨[.ref (N + ls.length + 2 : Nat)], []⟩) Q E s := by
  have lt : 0 < ls.length := (List.getElem?_eq_some_iff.mp hp).1
  have ne : (refsN N ls.length).isEmpty = false := by
    unfold refsN
    cases ls with
    | nil => cases hp
    | cons p r => simp [List.range_succ]
  have eb : ∀ {b : Addr} {h h' : Heap}, Heap.SameBut b h h' → ∀ (c : Nat) o, c ≠ b → h.get? c = some o → h'.get? c = some o := fun sb c o hc e => (sb.2 c hc).trans e
  have hl : ∃ rest, (refsN N ls.length).toList = Value.ref (N + 0 : Nat) :: rest := by
    refine ⟨(refsN N ls.length).toList.tail, ?_⟩
    obtain ⟨m, hm⟩ : ∃ m, ls.length = m + 1 := ⟨ls.length - 1, by omega⟩
    rw [hm]
    simp [refsN, List.range_succ_eq_map]
  obtain ⟨rest, hl⟩ := hl
  show wpAny _ _ (field (.ref (N + ls.length + 2 : Nat)) 2 >>= _) _ _ _
  refine wpAny_bind (wpAny_field hz rfl (x := .bool false) rfl ?_)
  show wpAny _ _ (field (.ref (N + ls.length + 2 : Nat)) 3 >>= _) _ _ _
  refine wpAny_bind (wpAny_field hz rfl (x := .ref (N + ls.length : Nat)) rfl (wpAny_bind (wpAny_seqItems hTI rfl ?_)))
  simp only [ne, Bool.false_eq_true, if_false]
  refine wpAny_bind (wpAny_tupleHeld_zip hz hT fun g1 z1 b1 => ?_)
  simp only [Bool.false_eq_true, if_false]
  rw [← Array.forIn_toList, hl, List.forIn_cons]
  refine wpAny_bind (wpAny_bind (wpAny_bind (wpAny_holding ?_)))
  show wpAny _ _ (Builtin.SmallTypes.nextOf (.ref (N + 0 : Nat)) >>= _) _ _ _
  have i1 := (st.it 0 p hp).at fun o q => eb b1 _ o (by omega) q
  have t1 := (st.tp 0 p hp).1.at fun o q => eb b1 _ o (by have := (st.tp 0 p hp).2; omega) q
  refine wpAny_bind (RZ.nextOf_tuple_end (s := { s with heap := g1 }) hh i1 t1 hk fun g2 e b2 he => ?_)
  exact hE g2 e (fun c o c1 c3 q => b2 c o (show (c : Nat) ≠ N + 0 from fun z => c3 (by omega)) (eb b1 _ _ c1 q)) he
/-- the zip object and what belongs to it, after k turns -/
structure ZipN (h : Heap) (N : Nat) (ls : List (Nat × Array Value)) (k : Nat) : Prop where
  z : ∃ f0 f, ZN h (N + ls.length + 2) (N + ls.length) (N + ls.length + 1) f0 f ∧ (f0 = .none ∨ ∃ T : Addr, f0 = rawInt T)
  ti : h.get? (N + ls.length : Nat) = some { cls := .type "tuple", data := .seq (refsN N ls.length) }
  to : ∃ vs : Array Value, h.get? (N + ls.length + 1 : Nat) = some { cls := .type "tuple", data := .seq vs } ∧ vs.size = ls.length
  it : Its h N ls fun _ => k
theorem zipN_next {Q : Option Value → Shared → Prop} (m1 : ls ≠ []) (lz : ls.length ≤ 1000) (st : ZipN s.heap N ls k) (hk : ∀ p ∈ ls, k < p.2.size)
    (hQ : ∀ h', ZipN h' N ls (k + 1) → h'.get? s.heap.objs.size = some { cls := .type "tuple", data := .seq (rowN ls k).toArray } → h'.objs.size = s.heap.objs.size + 1 →
      (∀ c o, ¬ (N ≤ c ∧ c ≤ N + ls.length + 2) → s.heap.get? c = some o → h'.get? c = some o) → Q (some (.ref s.heap.objs.size)) { s with heap := h' }) :
    wpAny (model prog w) A (pyNext (.ref (N + ls.length + 2 : Nat))) Q E s := by
  obtain ⟨⟨f0, f, hz, hf⟩, hTI, ⟨vs, hTO, hv⟩, it⟩ := st
  have hTy : s.TypeIs (.ref (N + ls.length + 2 : Nat)) "zip" := ⟨_, hz, rfl⟩
  have go : ∀ E' : Value → Shared → Prop, wpAny (model prog w) A.in1 (Builtin.«zip.__next__» ⟨[.ref (N + ls.length + 2 : Nat)], []⟩) (fun fin s' => ∃ v, fin = .done (.ret v) ∧ Q (some v) s') E' s := fun E' => by
    by_cases fr : FreeT s.heap f0
    · exact zipN_new m1 lz hz fr hTI hTO hv it hk fun h' a1 a2 a6 a3 a4 a5 => hQ h' ⟨⟨_, _, a1, .inr ⟨_, rfl⟩⟩, a5 _ _ (by omega) (by omega) (by omega) hTI, a6, a2⟩ a3 a4 fun c o c1 e => a5 c o (by omega) (by omega) (by omega) e
    · obtain ⟨T, rfl⟩ : ∃ T : Addr, f0 = rawInt T := by
        rcases hf with rfl | h
        · exact absurd (.inl rfl) fr
        · exact h
      obtain ⟨oT, hT⟩ : ∃ oT, s.heap.get? T = some oT := by
        cases q : s.heap.get? T with
        | none => exact absurd (.inr ⟨T, rfl, q⟩) fr
        | some o => exact ⟨o, rfl⟩
      exact zipN_held m1 lz hz hT hTI it hk fun h' a1 a2 a3 a4 a5 => hQ h' ⟨⟨_, _, a1, .inr ⟨_, rfl⟩⟩, a5 _ _ (by omega) (by omega) hTI, ⟨_, a5 _ _ (by omega) (by omega) hTO, hv⟩, a2⟩ a3 a4 fun c o c1 e => a5 c o (by omega) (by omega) e
  unfold pyNext
  exact wpAny_bind (wpAny_attempt (wpAny_callSpecial?_slot (name := Str.ofString "__next__") hTy F.slot_zip_next
    (wpAny_call_entry F.slot_zip_next hTy F.entry_zip_next (wpAny_mono (go _) (fun fin s' ⟨v, e, q⟩ => ⟨v, e, wpAny_pure q⟩) fun _ _ e => e) (F.args_zip_next_1 _))))
theorem zipN_done {Q : Option Value → Shared → Prop} {p : Nat × Array Value} (hh : A.handled = none) (hp : ls[0]? = some p) (st : ZipN s.heap N ls k) (hk : p.2[k]? = none)
    (hQ : ∀ h', (∀ c o, ¬ (N ≤ c ∧ c ≤ N + ls.length + 2) → s.heap.get? c = some o → h'.get? c = some o) → Q none { s with heap := h' }) : wpAny (model prog w) A (pyNext (.ref (N + ls.length + 2 : Nat))) Q E s := by
  obtain ⟨⟨f0, f, hz, hf⟩, hTI, _, it⟩ := st
  have hTy : s.TypeIs (.ref (N + ls.length + 2 : Nat)) "zip" := ⟨_, hz, rfl⟩
  have stop : ∀ h' e, (∀ c o, c ≠ N + ls.length + 2 → ¬ (N ≤ c ∧ c < N + ls.length) → s.heap.get? c = some o → h'.get? c = some o) → (∃ o, h'.get? e = some o ∧ o.cls = .type "StopIteration") →
      wpAny (model prog w) A (do if (← isInstance (.ref e) (.type "StopIteration")) then pure none else throw (.ref e)) Q E { s with heap := h' } := fun h' e kp ⟨o, ho, hc⟩ =>
    wpAny_bind (wpAny_isInstance (T := "StopIteration") (b := true) ⟨o, ho, hc⟩ isSubtype_stop (wpAny_pure (hQ h' fun c o c1 e => kp c o (by omega) (by omega) e)))
  unfold pyNext
  by_cases fr : FreeT s.heap f0
  · exact wpAny_bind (wpAny_attempt (wpAny_callSpecial?_slot (name := Str.ofString "__next__") hTy F.slot_zip_next
      (wpAny_call_entry F.slot_zip_next hTy F.entry_zip_next (zipN_stop_new (A := A.in1) hh hp hz fr hTI it hk fun h' e kp he => stop h' e kp he) (F.args_zip_next_1 _))))
  · obtain ⟨T, rfl⟩ : ∃ T : Addr, f0 = rawInt T := by
      rcases hf with rfl | h
      · exact absurd (.inl rfl) fr
      · exact h
    obtain ⟨oT, hT⟩ : ∃ oT, s.heap.get? T = some oT := by
      cases q : s.heap.get? T with
      | none => exact absurd (.inr ⟨T, rfl, q⟩) fr
      | some o => exact ⟨o, rfl⟩
    exact wpAny_bind (wpAny_attempt (wpAny_callSpecial?_slot (name := Str.ofString "__next__") hTy F.slot_zip_next
      (wpAny_call_entry F.slot_zip_next hTy F.entry_zip_next (zipN_stop_held (A := A.in1) hh hp hz hT hTI it hk fun h' e kp he => stop h' e kp he) (F.args_zip_next_1 _))))
theorem zipN_self {Q : Value → Shared → Prop} (st : ZipN s.heap N ls k) (h : Q (.ref (N + ls.length + 2 : Nat)) s) : wpAny (model prog w) A (pyIter (.ref (N + ls.length + 2 : Nat))) Q E s := by
  obtain ⟨⟨f0, f, hz, hf⟩, _, _, _⟩ := st
  have hT : s.TypeIs (.ref (N + ls.length + 2 : Nat)) "zip" := ⟨_, hz, rfl⟩
  refine wpAny_pyIter_slot hT F.slot_zip_iter (wpAny_call_entry F.slot_zip_iter hT F.entry_zip_iter ?_ (F.args_zip_iter_1 _))
  show wpAny _ _ (ret (.ref (N + ls.length + 2 : Nat))) _ _ s
  exact wpAny_pure ⟨_, rfl, "zip", _, hT, F.slot_zip_next.lookup, h⟩
theorem ZipN.at {h h' : Heap} (st : ZipN h N ls k) (kp : ∀ (c : Nat) o, c ≤ N + ls.length + 2 → h.get? c = some o → h'.get? c = some o) : ZipN h' N ls k := by
  obtain ⟨⟨f0, f, hz, hf⟩, hTI, ⟨vs, hTO, hv⟩, it⟩ := st
  exact ⟨⟨f0, f, kp _ _ (by omega) hz, hf⟩, kp _ _ (by omega) hTI, ⟨vs, kp _ _ (by omega) hTO, hv⟩, it.at fun c o c1 e => kp c o (by omega) e⟩
end
/-! ### zip(*rows) is made -/
abbrev zT4 (h : Heap) (o1 o2 o3 o4 : Obj) : Heap := ((((h.push o1).push o2).push o3).push o4).push { cls := .type "tuple", data := .seq #[.ref h.objs.size, .ref (h.push o1).objs.size, .ref ((h.push o1).push o2).objs.size, .ref (((h.push o1).push o2).push o3).objs.size] }
abbrev zO4 (h : Heap) (o1 o2 o3 o4 : Obj) : Heap := (zT4 h o1 o2 o3 o4).push { cls := .type "tuple", data := .seq #[.none, .none, .none, .none] }
abbrev zZ4 (h : Heap) (o1 o2 o3 o4 : Obj) : Heap := (zO4 h o1 o2 o3 o4).push { cls := .type "zip", data := .fields #[.none, .bool false, .bool false, .ref ((((h.push o1).push o2).push o3).push o4).objs.size, .ref (zT4 h o1 o2 o3 o4).objs.size] }
theorem typeCall_zip_4 (a b c d : Value) : checkTypeCall "zip" ⟨[a, b, c, d], []⟩ = pure () := by kernel_rfl
theorem newCall_zip_4 (a b c d : Value) : checkBuiltinCall "zip.__new__" ⟨[.type "zip", a, b, c, d], []⟩ = pure () := by kernel_rfl
theorem args_object_init_5 (obj a b c d : Value) : argsOk "object.__init__" ⟨[obj, a, b, c, d], []⟩ := by unfold argsOk; kernel_rfl
theorem meets_zip_newB4 {v1 v2 v3 v4 : Value} {o1 o2 o3 o4 : Obj} {H1 H2 H3 H4 : Heap → Prop} (B1 : Begins v1 o1 H1) (B2 : Begins v2 o2 H2) (B3 : Begins v3 o3 H3) (B4 : Begins v4 o4 H4) :
    Meets (Builtin.«zip.__new__» ⟨[.type "zip", v1, v2, v3, v4], []⟩) (fun _ R s => (H1 s.heap ∧ H2 s.heap ∧ H3 s.heap ∧ H4 s.heap) ∧
      R (.ok (.ret (.ref (zO4 s.heap o1 o2 o3 o4).objs.size))) { s with heap := zZ4 s.heap o1 o2 o3 o4 }) :=
  .of_wp fun prog w A R s h => by
    obtain ⟨hp, g, d, tk, os⟩ := s; obtain ⟨⟨h1, h2, h3, h4⟩, h⟩ := h
    have hsub := sub_zip
    have q1 : ∀ {A' : Around} {E : Value → Shared → Prop} {Q : Value → Shared → Prop}, Q (.ref hp.objs.size) ⟨(hp.push o1), g, d, tk, os⟩ → wpAny (model prog w) A' (pyIter v1) Q E ⟨hp, g, d, tk, os⟩ :=
      fun q => B1.iter prog w _ _ ⟨hp, g, d, tk, os⟩ _ (B1.keeps _ _ h1 fun b o' e => e) q
    have q2 : ∀ {A' : Around} {E : Value → Shared → Prop} {Q : Value → Shared → Prop}, Q (.ref (hp.push o1).objs.size) ⟨((hp.push o1).push o2), g, d, tk, os⟩ → wpAny (model prog w) A' (pyIter v2) Q E ⟨(hp.push o1), g, d, tk, os⟩ :=
      fun q => B2.iter prog w _ _ ⟨(hp.push o1), g, d, tk, os⟩ _ (B2.keeps _ _ h2 fun b o' e => (Heap.get?_push_of_some _ e)) q
    have q3 : ∀ {A' : Around} {E : Value → Shared → Prop} {Q : Value → Shared → Prop}, Q (.ref ((hp.push o1).push o2).objs.size) ⟨(((hp.push o1).push o2).push o3), g, d, tk, os⟩ → wpAny (model prog w) A' (pyIter v3) Q E ⟨((hp.push o1).push o2), g, d, tk, os⟩ :=
      fun q => B3.iter prog w _ _ ⟨((hp.push o1).push o2), g, d, tk, os⟩ _ (B3.keeps _ _ h3 fun b o' e => (Heap.get?_push_of_some _ (Heap.get?_push_of_some _ e))) q
    have q4 : ∀ {A' : Around} {E : Value → Shared → Prop} {Q : Value → Shared → Prop}, Q (.ref (((hp.push o1).push o2).push o3).objs.size) ⟨((((hp.push o1).push o2).push o3).push o4), g, d, tk, os⟩ → wpAny (model prog w) A' (pyIter v4) Q E ⟨(((hp.push o1).push o2).push o3), g, d, tk, os⟩ :=
      fun q => B4.iter prog w _ _ ⟨(((hp.push o1).push o2).push o3), g, d, tk, os⟩ _ (B4.keeps _ _ h4 fun b o' e => (Heap.get?_push_of_some _ (Heap.get?_push_of_some _ (Heap.get?_push_of_some _ e)))) q
    wp_walk using q1, q2, q3, q4
    exact ⟨_, rfl, h⟩
section
variable {prog : Program} {w : World} {A : Around} {E : Value → Shared → Prop} {s : Shared} {ls : List (Nat × Array Value)}
theorem call_zipN {Q : Value → Shared → Prop} (hl : ls.length = 3 ∨ ls.length = 4) (ht : ∀ p ∈ ls, s.heap.IsTuple p.1 p.2)
    (h : ∀ h', ZipN h' s.heap.objs.size ls 0 → h'.objs.size = s.heap.objs.size + ls.length + 3 → (∀ (c : Nat) o, s.heap.get? c = some o → h'.get? c = some o) → Q (.ref (s.heap.objs.size + ls.length + 2 : Nat)) { s with heap := h' }) :
    wpAny (model prog w) A (call (.type "zip") (ls.map fun p => Value.ref p.1)) Q E s := by
  have lt : ∀ p ∈ ls, p.1 < s.heap.objs.size := fun p hp => by
    obtain ⟨o, ho, _⟩ := ht p hp
    exact Heap.lt_size ho
  rcases hl with hl | hl
  · match ls, hl with
    | [p, q, r], _ =>
      have hp := ht p (by simp)
      have hq := ht q (by simp)
      have hr := ht r (by simp)
      refine zip_begins3 (begins_tuple p.1 p.2) (begins_tuple q.1 q.2) (begins_tuple r.1 r.2) hp hq hr fun h' gZ gT gO g1 g2 g3 zZ kp => ?_
      refine h h' ⟨⟨_, _, gZ, .inl rfl⟩, gT, ⟨_, gO, rfl⟩, ⟨fun j x e => ?_, fun j x e => ?_⟩⟩ zZ kp
      · match j, e with
        | 0, e => cases e; exact ⟨_, g1, rfl, rfl⟩
        | 1, e => cases e; exact ⟨_, g2, rfl, rfl⟩
        | 2, e => cases e; exact ⟨_, g3, rfl, rfl⟩
      · have hm := List.mem_of_getElem? e
        exact ⟨(ht x hm).at fun o z => kp _ o z, lt x hm⟩
  · match ls, hl with
    | [p, q, r, t], _ =>
      have hp := ht p (by simp)
      have hq := ht q (by simp)
      have hr := ht r (by simp)
      have hs := ht t (by simp)
      refine callType_new F.called_zip (by decide) (typeCall_zip_4 _ _ _ _) (newCall_zip_4 _ _ _ _) (fun obj => args_object_init_5 obj _ _ _ _) F.entry_zip_new
        (meets_zip_newB4 (begins_tuple p.1 p.2) (begins_tuple q.1 q.2) (begins_tuple r.1 r.2) (begins_tuple t.1 t.2)) ⟨⟨hp, hq, hr, hs⟩, ?_⟩
      generalize ho1 : ({ cls := .type "tuple_iterator", data := .fields #[.ref p.1, .int 0 0] } : Obj) = o1
      generalize ho2 : ({ cls := .type "tuple_iterator", data := .fields #[.ref q.1, .int 0 0] } : Obj) = o2
      generalize ho3 : ({ cls := .type "tuple_iterator", data := .fields #[.ref r.1, .int 0 0] } : Obj) = o3
      generalize ho4 : ({ cls := .type "tuple_iterator", data := .fields #[.ref t.1, .int 0 0] } : Obj) = o4
      have f1 : o1.isFreed = false := by rw [← ho1]; rfl
      have f2 : o2.isFreed = false := by rw [← ho2]; rfl
      have f3 : o3.isFreed = false := by rw [← ho3]; rfl
      have f4 : o4.isFreed = false := by rw [← ho4]; rfl
      have z1 : (s.heap.push o1).objs.size = s.heap.objs.size + 1 := by rw [Heap.size_push]
      have z2 : ((s.heap.push o1).push o2).objs.size = s.heap.objs.size + 2 := by rw [Heap.size_push, z1]
      have z3 : (((s.heap.push o1).push o2).push o3).objs.size = s.heap.objs.size + 3 := by rw [Heap.size_push, z2]
      have z4 : ((((s.heap.push o1).push o2).push o3).push o4).objs.size = s.heap.objs.size + 4 := by rw [Heap.size_push, z3]
      have zT : (zT4 s.heap o1 o2 o3 o4).objs.size = s.heap.objs.size + 5 := by rw [Heap.size_push, z4]
      have zO : (zO4 s.heap o1 o2 o3 o4).objs.size = s.heap.objs.size + 6 := by rw [Heap.size_push, zT]
      have zZ : (zZ4 s.heap o1 o2 o3 o4).objs.size = s.heap.objs.size + 7 := by rw [Heap.size_push, zO]
      have gZ : (zZ4 s.heap o1 o2 o3 o4).get? (zO4 s.heap o1 o2 o3 o4).objs.size = some { cls := .type "zip", data := .fields #[.none, .bool false, .bool false, .ref ((((s.heap.push o1).push o2).push o3).push o4).objs.size, .ref (zT4 s.heap o1 o2 o3 o4).objs.size] } := Heap.get?_push_size _ rfl
      have gO : (zZ4 s.heap o1 o2 o3 o4).get? (zT4 s.heap o1 o2 o3 o4).objs.size = some { cls := .type "tuple", data := .seq #[.none, .none, .none, .none] } := Heap.get?_push_of_some _ (Heap.get?_push_size _ rfl)
      have gT : (zZ4 s.heap o1 o2 o3 o4).get? ((((s.heap.push o1).push o2).push o3).push o4).objs.size = some { cls := .type "tuple", data := .seq #[.ref s.heap.objs.size, .ref (s.heap.push o1).objs.size, .ref ((s.heap.push o1).push o2).objs.size, .ref (((s.heap.push o1).push o2).push o3).objs.size] } := Heap.get?_push_of_some _ (Heap.get?_push_of_some _ (Heap.get?_push_size _ rfl))
      have up4 : ∀ (c : Nat) o, ((((s.heap.push o1).push o2).push o3).push o4).get? c = some o → (zZ4 s.heap o1 o2 o3 o4).get? c = some o := fun c o e => Heap.get?_push_of_some _ (Heap.get?_push_of_some _ (Heap.get?_push_of_some _ e))
      have g1 : (zZ4 s.heap o1 o2 o3 o4).get? s.heap.objs.size = some o1 := up4 _ _ (Heap.get?_push_of_some _ (Heap.get?_push_of_some _ (Heap.get?_push_of_some _ (Heap.get?_push_size _ f1))))
      have g2 : (zZ4 s.heap o1 o2 o3 o4).get? (s.heap.push o1).objs.size = some o2 := up4 _ _ (Heap.get?_push_of_some _ (Heap.get?_push_of_some _ (Heap.get?_push_size _ f2)))
      have g3 : (zZ4 s.heap o1 o2 o3 o4).get? ((s.heap.push o1).push o2).objs.size = some o3 := up4 _ _ (Heap.get?_push_of_some _ (Heap.get?_push_size _ f3))
      have g4 : (zZ4 s.heap o1 o2 o3 o4).get? (((s.heap.push o1).push o2).push o3).objs.size = some o4 := up4 _ _ (Heap.get?_push_size _ f4)
      have kp : ∀ (c : Nat) o, s.heap.get? c = some o → (zZ4 s.heap o1 o2 o3 o4).get? c = some o := fun c o e => up4 c o (Heap.get?_push_of_some _ (Heap.get?_push_of_some _ (Heap.get?_push_of_some _ (Heap.get?_push_of_some _ e))))
      rw [zO, zT, z4] at gZ
      rw [zT] at gO
      rw [z4, z3, z2, z1] at gT
      rw [z1] at g2
      rw [z2] at g3
      rw [z3] at g4
      show _ ∧ _
      rw [zO]
      refine ⟨⟨_, gZ, rfl⟩, h _ ⟨⟨_, _, gZ, .inl rfl⟩, gT, ⟨_, gO, rfl⟩, ⟨fun j x e => ?_, fun j x e => ?_⟩⟩ zZ kp⟩
      · match j, e with
        | 0, e => cases e; exact ⟨o1, g1, by rw [← ho1], by rw [← ho1]; rfl⟩
        | 1, e => cases e; exact ⟨o2, g2, by rw [← ho2], by rw [← ho2]; rfl⟩
        | 2, e => cases e; exact ⟨o3, g3, by rw [← ho3], by rw [← ho3]; rfl⟩
        | 3, e => cases e; exact ⟨o4, g4, by rw [← ho4], by rw [← ho4]; rfl⟩
      · have hm := List.mem_of_getElem? e
        exact ⟨(ht x hm).at fun o z => kp _ o z, lt x hm⟩
end
end DZN

set_option maxRecDepth 100000
set_option maxHeartbeats 2000000
/-! DK61: for x in zip(*rows), rows a tuple of three or four tuples of one length. -/
namespace DL
open PySem PySem.Spec PyProof.Rows L2 DZN
section
variable {M : Model} {A : Around} {E : Value → Shared → Prop} {s : Shared} {env : Env}
theorem callWith_typeS {pos : Pos} {T : String} {first : List Value} {args : List (Bool × Sem Value)} {Q : Value → Shared → Prop} (hst : args.any (·.1) = true)
    (h : wpAny M A (evalArgs (.type T) true args []) (fun a s₁ => wpAny M A (call (.type T) (first ++ a.pos) a.kw) Q E s₁) E s) : wpAny M A (callWith pos (.type T) first args []) Q E s := by
  unfold callWith
  refine wpAny_bind (wpAny_holding (wpAny_mono h (fun a s₁ h₁ => wpAny_bind (wpAny_standAt ?_)) fun _ _ x => x))
  simp only [hst, Bool.true_or]
  refine wpAny_bind (wpAny_pure ?_)
  exact wpAny_bind (wpAny_mono (wpAny_operating h₁) (fun r s₂ hr => wpAny_bind (wpAny_holding (wpAny_point (wpAny_pure hr)))) fun _ _ x => x)
/-- zip(*e) -/
theorem callWith_typeS1 {pos p : Pos} {T : String} {e : Expr} {Q : Value → Shared → Prop} (h : wpAny M A (eval e env) (fun v s₁ => PySem.W.StarOf M A E v (fun vs s₂ => wpAny M A (call (.type T) vs) Q E s₂) s₁) E s)
    (he : starEach [.Starred e p] env = [(true, eval e env)] := by rfl) : wpAny M A (callWith pos (.type T) [] (backTo pos (starEach [.Starred e p] env)) []) Q E s := by
  rw [he]
  exact callWith_typeS rfl (PySem.W.ks_lone h)
end
/-- the zip object by the places of its tuples alone -/
structure ZA (h : Heap) (N : Nat) (as : List Nat) (k : Nat) : Prop where
  z : ∃ f0 f, ZN h (N + as.length + 2) (N + as.length) (N + as.length + 1) f0 f ∧ (f0 = .none ∨ ∃ T : Addr, f0 = rawInt T)
  ti : h.get? (N + as.length : Nat) = some { cls := .type "tuple", data := .seq (refsN N as.length) }
  to : ∃ vs : Array Value, h.get? (N + as.length + 1 : Nat) = some { cls := .type "tuple", data := .seq vs } ∧ vs.size = as.length
  it : ∀ (j a : Nat), as[j]? = some a → h.IsTupleIter (N + j : Nat) a k
  lt : ∀ a ∈ as, a < N
theorem ZA.of {h : Heap} {N k : Nat} {ls : List (Nat × Array Value)} (x : ZipN h N ls k) : ZA h N (ls.map (·.1)) k := by
  have hl : (ls.map (·.1)).length = ls.length := List.length_map ..
  refine ⟨by rw [hl]; exact x.z, by rw [hl]; exact x.ti, by rw [hl]; exact x.to, fun j a e => ?_, fun a ha => ?_⟩
  · rw [List.getElem?_map] at e
    obtain ⟨p, hp, rfl⟩ := Option.map_eq_some_iff.mp e
    exact x.it.it j p hp
  · obtain ⟨p, hp, rfl⟩ := List.mem_map.mp ha
    obtain ⟨j, hj⟩ := List.mem_iff_getElem?.mp hp
    exact (x.it.tp j p hj).2
theorem ZA.zip {h : Heap} {N k : Nat} {ls : List (Nat × Array Value)} (x : ZA h N (ls.map (·.1)) k) (t : ∀ p ∈ ls, h.IsTuple p.1 p.2) : ZipN h N ls k := by
  have hl : (ls.map (·.1)).length = ls.length := List.length_map ..
  obtain ⟨z, ti, to, it, lt⟩ := x
  rw [hl] at z ti to
  exact ⟨z, ti, to, ⟨fun j p e => it j p.1 (by rw [List.getElem?_map, e]; rfl), fun j p e => ⟨t p (List.mem_of_getElem? e), lt p.1 (List.mem_map_of_mem (List.mem_of_getElem? e))⟩⟩⟩
/-- tuples, each with what it holds -/
def Itz (K : PySem.W.Frag) (rows : List (Nat × List V)) (n : Nat) : It :=
  ⟨fun i H => (∀ r ∈ rows, SqT K H r.1 r.2) ∧ i < n, fun i H v H' => ∃ T, v = .ref T ∧ H T = none ∧ H' = upd H T (.tup (rows.map fun r => r.2.getD i .non)), fun i H => (∀ r ∈ rows, SqT K H r.1 r.2) ∧ n ≤ i⟩
theorem rows_ls {X : Cx} {pins : List (Addr × Obj)} {σ : L2.St} {H : Hp} {s : Shared} (I : Inv X pins σ H s) : ∀ {rows : List (Nat × List V)}, (∀ r ∈ rows, SqT X.K H r.1 r.2) →
    ∃ ls : List (Nat × Array Value), ls.map (·.1) = rows.map (·.1) ∧ (∀ p ∈ ls, s.heap.IsTuple p.1 p.2) ∧ Paired (fun (r : Nat × List V) (p : Nat × Array Value) => Vals r.2 p.2.toList) rows ls
  | [], _ => ⟨[], rfl, fun p hp => (by cases hp), .nil⟩
  | r :: rows, h => by
    obtain ⟨ls, h1, h2, h3⟩ := rows_ls I (rows := rows) fun x hx => h x (List.mem_cons_of_mem _ hx)
    obtain ⟨its, rv, ht, _⟩ := I.tuple (h r List.mem_cons_self)
    refine ⟨(r.1, its.toArray) :: ls, by rw [List.map_cons, List.map_cons, h1], fun p hp => ?_, .cons (by simpa using rv) h3⟩
    rcases List.mem_cons.mp hp with rfl | hp
    · exact ht
    · exact h2 p hp
theorem row_vals {n i : Nat} (hi : i < n) : ∀ {rows : List (Nat × List V)} {ls : List (Nat × Array Value)}, Paired (fun (r : Nat × List V) (p : Nat × Array Value) => Vals r.2 p.2.toList) rows ls → (∀ r ∈ rows, r.2.length = n) →
    Vals (rows.map fun r => r.2.getD i .non) (rowN ls i) ∧ ∀ p ∈ ls, p.2.size = n
  | [], [], .nil, _ => ⟨.nil, fun p hp => (by cases hp)⟩
  | r :: rows, p :: ls, .cons h t, hl => by
    obtain ⟨a, b⟩ := row_vals hi t fun x hx => hl x (List.mem_cons_of_mem _ hx)
    have hr := hl r List.mem_cons_self
    have hs : p.2.size = n := by rw [← hr, h.length, Array.length_toList]
    refine ⟨?_, fun q hq => ?_⟩
    · unfold rowN
      rw [List.map_cons, List.map_cons]
      refine .cons ?_ a
      have e1 : r.2[i]? = some (r.2.getD i .non) := by rw [List.getD_eq_getElem?_getD, List.getElem?_eq_getElem (by omega)]; rfl
      obtain ⟨u, hu, ru⟩ := h.get e1
      rw [Array.getElem?_toList, Array.getElem?_eq_getElem (by omega)] at hu
      cases hu
      rw [show p.2.getD i .none = p.2[i] from by simp [Array.getD, show i < p.2.size by omega]]
      exact ru
    · rcases List.mem_cons.mp hq with rfl | hq
      · exact hs
      · exact b q hq
def fpN (N m : Nat) : List Addr := ((List.range (m + 3)).map (fun (j : Nat) => (N + j : Nat)) : List Nat)
theorem mem_fpN {N m b : Nat} : b ∈ fpN N m ↔ N ≤ b ∧ b ≤ N + m + 2 := by
  unfold fpN
  rw [List.mem_map]
  constructor
  · rintro ⟨j, hj, rfl⟩
    have := List.mem_range.mp hj
    omega
  · rintro ⟨h1, h2⟩
    exact ⟨b - N, List.mem_range.mpr (by omega), by omega⟩
theorem turn_zipN {P : Program} {w : World} {K : PySem.W.Frag} {x : Str} {xp : Pos} {N n : Nat} {rows : List (Nat × List V)} (hm : 1 ≤ rows.length) (hz : rows.length ≤ 1000) (hn : ∀ r ∈ rows, r.2.length = n) :
    Turn P w K (.Name x xp) (Itz K rows n) (fpN N rows.length) (N + rows.length + 2 : Nat) (fun i h => ZA h N (rows.map (·.1)) i) where
  mem := mem_fpN.mpr ⟨by omega, by omega⟩
  obj := fun i h st b hb => by
    obtain ⟨j, hj, rfl⟩ : ∃ j : Nat, j < rows.length + 3 ∧ (N + j : Nat) = b := by
      obtain ⟨j, hj, e⟩ := List.mem_map.mp hb
      exact ⟨j, List.mem_range.mp hj, e⟩
    obtain ⟨⟨f0, f, z, _⟩, ti, ⟨vs, to, _⟩, it, lt⟩ := st
    rw [List.length_map] at z ti to
    by_cases e1 : j = rows.length + 2
    · rw [e1]; exact ⟨_, z, fun v q => nomatch q⟩
    by_cases e2 : j = rows.length + 1
    · rw [e2]; exact ⟨_, to, fun v q => nomatch q⟩
    by_cases e3 : j = rows.length
    · rw [e3]; exact ⟨_, ti, fun v q => nomatch q⟩
    have hj2 : j < rows.length := by omega
    obtain ⟨o, ho, hc, hd⟩ := it j (rows[j]).1 (by rw [List.getElem?_map, List.getElem?_eq_getElem hj2]; rfl)
    exact ⟨o, ho, fun v q => by rw [hd] at q; cases q⟩
  keep := fun i h h' st k => by
    obtain ⟨⟨f0, f, z, hf⟩, ti, ⟨vs, to, hv⟩, it, lt⟩ := st
    have hl : (rows.map (·.1)).length = rows.length := List.length_map ..
    rw [hl] at z ti to hv
    have kk : ∀ (b : Nat), N ≤ b ∧ b ≤ N + rows.length + 2 → ∀ o, h.get? b = some o → h'.get? b = some o := fun b hb => k b (mem_fpN.mpr hb)
    refine ⟨⟨f0, f, by rw [hl]; exact kk _ (by omega) _ z, hf⟩, by rw [hl]; exact kk _ (by omega) _ ti, ⟨vs, by rw [hl]; exact kk _ (by omega) _ to, by rw [hl]; exact hv⟩, fun j a e => ?_, lt⟩
    have hj := (List.getElem?_eq_some_iff.mp e).1
    rw [hl] at hj
    exact (it j a e).at fun o q => kk _ (by omega) o q
  item := by
    intro X hP hw hK hc i pins s σ H E I hf st hg
    subst hP hw hK
    obtain ⟨hs, hi⟩ := hg
    obtain ⟨ls, l1, l2, l3⟩ := rows_ls I hs
    obtain ⟨rv, hsz⟩ := row_vals hi l3 hn
    have hl : ls.length = rows.length := by have := congrArg List.length l1; rwa [List.length_map, List.length_map] at this
    rw [← l1] at st
    have zp := st.zip l2
    rw [show (N + rows.length + 2 : Nat) = N + ls.length + 2 by omega]
    refine zipN_next (fun e => by rw [e] at hl; simp at hl; omega) (by omega) zp (fun p hp => by rw [hsz p hp]; exact hi) fun h' a1 a2 a3 a4 => ?_
    have hnT : H s.heap.objs.size = none := I.hok.fresh (Nat.le_refl _)
    have I1 : Inv X pins σ (upd H s.heap.objs.size (.tup (rows.map fun r => r.2.getD i .non))) { s with heap := h' } :=
      I.turnedNew (t' := s.toks) (ch := fpN N rows.length) (fun b o hb e => a4 b o (fun q => hb (mem_fpN.mpr ⟨q.1, by omega⟩)) e) hf (Nat.le_refl _)
        (show ObjOk _ _ _ _ _ (.tup _) from ⟨by rw [List.length_map, sizeLine_eq]; omega, rowN ls i, rv, ⟨_, a2, rfl, _, rfl⟩⟩)
    refine ⟨_, rfl, ?_⟩
    show wpAny _ _ (pure ()) _ _ _
    refine wpAny_pure ⟨.ref s.heap.objs.size, _, I1, rfl, ⟨_, rfl, hnT, rfl⟩, by rw [← l1]; exact ZA.of a1, fun b hb => ?_⟩
    have hlt : b < s.heap.objs.size := by
      obtain ⟨h1, h2⟩ := mem_fpN.mp hb
      obtain ⟨⟨f0, f, z, _⟩, _⟩ := zp
      have := Heap.lt_size z
      show @LT.lt Nat _ b s.heap.objs.size
      have e : (N + ls.length + 2 : Nat) < s.heap.objs.size := this
      omega
    rw [upd_ne (Nat.ne_of_lt hlt)]
    exact (hf b hb).1
  done := by
    intro X hP hw hK hc i pins s σ H E I hf st hg
    subst hP hw hK
    obtain ⟨hs, hi⟩ := hg
    obtain ⟨ls, l1, l2, l3⟩ := rows_ls I hs
    have hl : ls.length = rows.length := by have := congrArg List.length l1; rwa [List.length_map, List.length_map] at this
    rw [← l1] at st
    have zp := st.zip l2
    rw [show (N + rows.length + 2 : Nat) = N + ls.length + 2 by omega]
    cases l3 with
    | nil => simp at hm
    | @cons r p rows ls h t =>
      have hr := hn r List.mem_cons_self
      refine zipN_done (p := p) (I.ok.hd hc) rfl zp (Array.getElem?_eq_none (by rw [← Array.length_toList, ← h.length, hr]; exact hi)) fun h' kp => ⟨rfl, ?_⟩
      exact I.turnedL (t' := s.toks) (ch := fpN N (rows.length + 1)) (fun b o hb e => kp b o (fun q => hb (mem_fpN.mpr ⟨q.1, by rw [List.length_cons] at hl q; simp at hl; omega⟩)) e) hf
  self := fun A i s Q E st h => by
    obtain ⟨⟨f0, f, z, _⟩, _⟩ := st
    rw [List.length_map] at z
    have hT : s.TypeIs (.ref (N + rows.length + 2 : Nat)) "zip" := ⟨_, z, rfl⟩
    refine wpAny_pyIter_slot hT F.slot_zip_iter (wpAny_call_entry F.slot_zip_iter hT F.entry_zip_iter ?_ (F.args_zip_iter_1 _))
    show wpAny _ _ (ret (.ref (N + rows.length + 2 : Nat))) _ _ s
    exact wpAny_pure ⟨_, rfl, "zip", _, hT, F.slot_zip_next.lookup, h⟩
/-! ### the walk -/
def iZipStar (K : PySem.W.Frag) (td : TE) : TI := fun σ H R => td σ H fun v H1 => ∃ (T : Addr) (rows : List (Nat × List V)) (n : Nat), v = .ref T ∧ SqT K H1 T (rows.map fun r => V.ref r.1) ∧ (∀ r ∈ rows, SqT K H1 r.1 r.2 ∧ r.2.length = n) ∧ (rows.length = 3 ∨ rows.length = 4) ∧ R (Itz K rows n) H1
theorem refs_us : ∀ {rows : List (Nat × List V)} {us : List Value}, Vals (rows.map fun r => V.ref r.1) us → us = rows.map fun r => Value.ref r.1
  | [], _, .nil => rfl
  | r :: rows, _, .cons h t => by
    rw [refs_us t, show _ = Value.ref r.1 from h]
    rfl
section
variable {X : Cx} {W : WX} {e : Expr} {td : TE} {te : DTE} {x : Str} {xp p2 p3 q : Pos}
theorem pi_zipStar (hmz : X.mg "zip" = none) (he : PE X e td) (hgz : Gl X "zip" := by rfl) (hs : starEach [.Starred e p3] X.env = [(true, eval e X.env)] := by rfl) : PI X (.Name x xp) (.Call (.Name "zip" p2) [.Starred e p3] [] q) (iZipStar X.K td) := by
  refine ⟨fun pins s σ H R I h => ?_⟩
  refine PyProof.Rows.Call_ (ld_blt I hgz hmz PyProof.Rows.boot_zip (callWith_typeS1 (thn (he.run pins s σ H _ I h) fun v s1 ⟨y, H1, I1, ry, T, rows, n, ey, hT, hr, hl, q1⟩ => ?_) hs))
  subst ey
  obtain rfl : v = Value.ref T := ry
  refine StX.star_any I1 (.inl hT) fun us s2 I2 rv => ?_
  obtain ⟨ls, l1, l2, l3⟩ := rows_ls I2 (fun r hr' => (hr r hr').1)
  have ll : ls.length = rows.length := by have := congrArg List.length l1; rwa [List.length_map, List.length_map] at this
  have hus : us = ls.map fun p => Value.ref p.1 := by
    rw [refs_us rv, show (rows.map fun r => Value.ref r.1) = (rows.map (·.1)).map Value.ref from by rw [List.map_map]; rfl, ← l1, List.map_map]
    rfl
  rw [hus]
  refine call_zipN (by rw [ll]; exact hl) l2 fun h' a1 a2 a3 => ?_
  refine zipN_self (s := { s2 with heap := h' }) a1 ?_
  have a0 := ZA.of a1
  rw [l1] at a0
  refine ⟨_, fpN s2.heap.objs.size rows.length, fun i h => ZA h s2.heap.objs.size (rows.map (·.1)) i, Itz X.K rows n, H1, by rw [ll], I2.kept (t' := s2.toks) a3, turn_zipN (by omega) (by omega) (fun r hr' => (hr r hr').2), a0, fun b hb => ?_, q1⟩
  have h1 := (mem_fpN.mp hb).1
  exact I2.fpOk h1 (I2.hok.fresh h1)
/-- rows of trees -/
def dItZipStar (te : DTE) : DTI := fun ρ S Q E => te ρ S (fun d S1 => ∃ (xs : List D) (rs : List (List D)) (n : Nat), tupI d = some xs ∧ xs.map tupI = rs.map some ∧ (rs.length = 3 ∨ rs.length = 4) ∧ (∀ r ∈ rs, r.length = n) ∧ Q ((List.range n).map fun i => D.tup (rs.map fun r => r.getD i .non)) S1) E
theorem s_itZipStar {ρ : Sl} {S : Store} {QI : List D → Store → Prop} {E : DX} (h : te ρ S (fun d S1 => ∃ (xs : List D) (rs : List (List D)) (n : Nat), tupI d = some xs ∧ xs.map tupI = rs.map some ∧ (rs.length = 3 ∨ rs.length = 4) ∧ (∀ r ∈ rs, r.length = n) ∧ QI ((List.range n).map fun i => D.tup (rs.map fun r => r.getD i .non)) S1) E) : dItZipStar te ρ S QI E := h
theorem tupI_inv {K : PySem.W.Frag} {F : Hp} {d : D} {v : V} {ds : List D} (iv : IsV K F d v) (e : tupI d = some ds) : ∃ a vs, v = .ref a ∧ SqT K F a vs ∧ IsVs K F ds vs := by
  cases iv with
  | tup h1 h2 => cases e; exact ⟨_, _, rfl, SqT.of h1, h2⟩
  | kup h1 h0 h2 => cases e; exact ⟨_, _, rfl, .inl (.inr ⟨_, h1⟩), h2⟩
  | ctp h1 h2 => cases e; exact ⟨_, _, rfl, h1, h2⟩
  | _ => cases e
theorem rows_inv {K : PySem.W.Frag} {F : Hp} : ∀ {xs : List D} {rs : List (List D)} {vs : List V}, IsVs K F xs vs → xs.map tupI = rs.map some → ∃ rows : List (Nat × List V), vs = rows.map (fun r => V.ref r.1) ∧ Paired (fun (d : List D) (r : Nat × List V) => SqT K F r.1 r.2 ∧ IsVs K F d r.2) rs rows
  | [], [], _, .nil, _ => ⟨[], rfl, .nil⟩
  | [], _ :: _, _, _, e => by cases e
  | _ :: _, [], _, _, e => by cases e
  | x :: xs, r :: rs, _, .cons h t, e => by
    rw [List.map_cons, List.map_cons] at e
    injection e with e1 e2
    obtain ⟨a, ws, rfl, h1, h2⟩ := tupI_inv h e1
    obtain ⟨rows, rfl, p⟩ := rows_inv t e2
    exact ⟨(a, ws) :: rows, rfl, .cons ⟨h1, h2⟩ p⟩
theorem rows_get {K : PySem.W.Frag} {F : Hp} {n i : Nat} (hi : i < n) : ∀ {rs : List (List D)} {rows : List (Nat × List V)}, Paired (fun (d : List D) (r : Nat × List V) => SqT K F r.1 r.2 ∧ IsVs K F d r.2) rs rows → (∀ r ∈ rs, r.length = n) → IsVs K F (rs.map fun r => r.getD i .non) (rows.map fun r => r.2.getD i .non)
  | [], [], .nil, _ => .nil
  | r :: rs, w :: rows, .cons h t, hl => by
    have hr := hl r List.mem_cons_self
    rw [List.map_cons, List.map_cons]
    refine .cons ?_ (rows_get hi t fun x hx => hl x (List.mem_cons_of_mem _ hx))
    have e1 : r[i]? = some (r.getD i .non) := by rw [List.getD_eq_getElem?_getD, List.getElem?_eq_getElem (by omega)]; rfl
    obtain ⟨v, hv, iv⟩ := h.2.get e1
    rw [List.getD_eq_getElem?_getD, List.getD_eq_getElem?_getD] at *
    rw [hv]
    exact iv
theorem rows_all {K : PySem.W.Frag} {F : Hp} {n : Nat} : ∀ {rs : List (List D)} {rows : List (Nat × List V)}, Paired (fun (d : List D) (r : Nat × List V) => SqT K F r.1 r.2 ∧ IsVs K F d r.2) rs rows → (∀ r ∈ rs, r.length = n) → ∀ r ∈ rows, SqT K F r.1 r.2 ∧ r.2.length = n
  | [], [], .nil, _, r, hr => by cases hr
  | d :: rs, w :: rows, .cons h t, hl, r, hr => by
    rcases List.mem_cons.mp hr with rfl | hr
    · exact ⟨h.1, by rw [← h.2.length]; exact hl d List.mem_cons_self⟩
    · exact rows_all t (fun x hx => hl x (List.mem_cons_of_mem _ hx)) r hr
theorem itOk_zipN {K : PySem.W.Frag} {F : Hp} {n : Nat} {rs : List (List D)} {rows : List (Nat × List V)} (hp : Paired (fun (d : List D) (r : Nat × List V) => SqT K F r.1 r.2 ∧ IsVs K F d r.2) rs rows) (hl : ∀ r ∈ rs, r.length = n) :
    ItOk K (Itz K rows n) ((List.range n).map fun i => D.tup (rs.map fun r => r.getD i .non)) F where
  go := fun H S F' Z s R i hi => ⟨fun r hr => R.sqt (Same.sqt s (rows_all hp hl r hr).1), by rw [List.length_map, List.length_range] at hi; exact hi⟩
  stop := fun H S F' Z s R => ⟨fun r hr => R.sqt (Same.sqt s (rows_all hp hl r hr).1), by rw [List.length_map, List.length_range]; exact Nat.le_refl _⟩
  yld := fun H S F' Z s R i x H' hi hy => by
    rw [List.length_map, List.length_range] at hi
    obtain ⟨T, rfl, hT, rfl⟩ := hy
    obtain ⟨R2, s2, k2⟩ := R.laid (o := .tup (rows.map fun r => r.2.getD i .non)) hT
    exact ⟨_, .tup (rs.map fun r => r.getD i .non), ⟨s2, R2, k2⟩, by rw [List.getElem?_map, List.getElem?_range hi]; rfl, .tup upd_same (((rows_get hi hp hl).up s).up s2)⟩
theorem di_zipStar (hmz : X.mg "zip" = none) (he : DE X W e te) (hgz : Gl X "zip" := by rfl) (hs : starEach [.Starred e p3] X.env = [(true, eval e X.env)] := by rfl) : DI X W (.Name x xp) (.Call (.Name "zip" p2) [.Starred e p3] [] q) (dItZipStar te) :=
  ⟨pi_imp (pi_zipStar hmz he.pe hgz hs) fun σ H P ⟨ρ, S, F, Z, Q, E, R, V, q, k, x⟩ => ⟨ρ, S, F, Z, _, E, R, V, q, fun v H1 ⟨d, S1, F1, A1, i1, xs, rs, n, hd, hr, hl, hn, q1⟩ => by
    obtain ⟨T, vs, rfl, h1, h2⟩ := tupI_inv i1 hd
    obtain ⟨rows, rfl, hp⟩ := rows_inv h2 hr
    have ll : rows.length = rs.length := (Paired.length hp).symm
    refine ⟨T, rows, n, rfl, A1.rel.sqt h1, fun r hr => ⟨A1.rel.sqt (rows_all hp hn r hr).1, (rows_all hp hn r hr).2⟩, by rw [ll]; exact hl, k _ _ _ S1 F1 A1 (itOk_zipN hp hn) q1⟩, x⟩⟩
end
end DL

set_option maxRecDepth 100000
set_option maxHeartbeats 2000000
/-! DK62: dict(zip(list of known tuples, tuple)), a locked dict; list(d.values()) of such a dict. -/
namespace DL
open PySem PySem.Spec PyProof.Rows L2
theorem KX.merge {F : Hp} {kvs : List (List Key × V)} {ps : List (List Key × Addr × Value)} (h : KX F kvs ps) : ∀ {acc : List (List Key × V)} {xs : List (List Key × Addr × Value)}, KX F acc xs → KX F (mergeT acc kvs) (storedAllH xs ps) := by
  unfold KX at h
  induction h with
  | nil => intro acc xs r; exact r
  | @cons p q ps qs h1 _ ih =>
    intro acc xs r
    obtain ⟨e, ⟨o, hF, hn⟩, rv⟩ := h1
    have := r.put p.1 (b := q.2.1) (u := q.2.2) hF hn rv
    rw [e] at this
    refine ih ?_
    show KX F (putK acc p.1 p.2) (storedH xs q.1 q.2.1 q.2.2)
    rw [e]
    exact this
/-- known tuples, without a dict of their own -/
def Knw2 (H : Hp) (b : Addr) (k : List Key) : Prop := ∃ o, H b = some (.frz o (.tup (k.map kV))) ∧ o.dict = none
def KnwRefs2 (H : Hp) (xs : List V) (ks : List (List Key)) : Prop := Paired (fun x k => ∃ b, x = V.ref b ∧ Knw2 H b k) xs ks
theorem knw2_zip {H : Hp} {xs : List V} {ks : List (List Key)} (h : KnwRefs2 H xs ks) : ∀ {ys : List V} {its its2 : List Value}, Vals xs its → Vals ys its2 → xs.length = ys.length → ∃ ps : List (List Key × Addr × Value), (∀ F : Hp, KnwRefs2 F xs ks → KX F (ks.zip ys) ps) ∧ ps.length = xs.length ∧
    ∀ (j : Nat) (key v : Value), its[j]? = some key → its2[j]? = some v → ∃ k b, ps[j]? = some (k, b, v) ∧ key = .ref b := by
  unfold KnwRefs2 at h
  induction h with
  | nil =>
    intro ys its its2 r1 r2 hl
    cases r1
    exact ⟨[], fun _ _ => .nil, rfl, fun j key v e _ => by simp at e⟩
  | @cons x k xs ks hk t ih =>
    intro ys its its2 r1 r2 hl
    obtain ⟨b, rfl, hb⟩ := hk
    cases r1 with
    | cons q1 t1 =>
      cases q1
      cases ys with
      | nil => cases hl
      | cons y ys =>
        cases r2 with
        | @cons _ w _ ws q2 t2 =>
          obtain ⟨ps, a1, a2, a3⟩ := ih t1 t2 (Nat.succ.inj hl)
          refine ⟨(k, b, w) :: ps, fun F hF => ?_, by rw [List.length_cons, List.length_cons, a2], fun j key v g1 g2 => ?_⟩
          rotate_left
          · cases j with
            | zero =>
              cases g1
              cases g2
              exact ⟨k, b, rfl, rfl⟩
            | succ j => exact a3 j key v (by simpa using g1) (by simpa using g2)
          · cases hF with
            | cons hk2 t2 =>
              obtain ⟨b2, e2, hb2⟩ := hk2
              cases e2
              exact .cons ⟨rfl, hb2, q2⟩ (a1 F t2)
section
variable {X : Cx} {e1 e2 : Expr} {t : TA} {p p2 q pos : Pos}
def tDictZipX (K : PySem.W.Frag) (hf : List Key → Int) (t : TA) : TE := fun σ H Q => t σ H fun vs H1 => ∃ a b xs ys ks, Zs K H1 vs a b xs ys ∧ KnwRefs2 H1 xs ks ∧ ∀ p o es, H1 p = none → (∀ F : Hp, KnwRefs2 F xs ks → KX F (mergeT [] (ks.zip ys)) es) → Q (.ref p) (upd H1 p (.frz o (DictX hf p es)))
theorem pe_dictZipX (hc : X.calm = true) (hu : X.A.units + 64 < cLine) (hm : X.mg "dict" = none) (hmz : X.mg "zip" = none) (ha : PA X [e1, e2] t) (hg : Gl X "dict" := by rfl) (hgz : Gl X "zip" := by rfl) (hs : starEach [e1, e2] X.env = (false, eval e1 X.env) :: starEach [e2] X.env := by rfl) (hpl : (backTo q (starEach [e2] X.env)).any (·.1) = false := by rfl)
    (hs2 : starEach [.Call (.Name "zip" p2) [e1, e2] [] q] X.env = (false, eval (.Call (.Name "zip" p2) [e1, e2] [] q) X.env) :: starEach [] X.env := by rfl) : PE X (.Call (.Name "dict" p) [.Call (.Name "zip" p2) [e1, e2] [] q] [] pos) (tDictZipX X.K (hfX X.prog X.w) t) := by
  refine ⟨fun pins s σ H Q I h => ?_⟩
  refine PyProof.Rows.Call_ (ld_blt I hg hm PyProof.Rows.boot_dict ?_)
  refine PyProof.Rows.callWith_type1 (PyProof.Rows.args_cons ?_ hs2) hs2 rfl
  refine PyProof.Rows.Call_ (ld_blt I hgz hmz PyProof.Rows.boot_zip (PyProof.Rows.callWith_type1 (thn (ha.run q pins s σ H _ I h) fun us s1 ⟨vs, H1, I1, r1, a, b, xs, ys, ks, hz, kr, q1⟩ => ?_) hs hpl))
  refine run_zip I1 r1 hz fun h' its its2 n hn rv rv2 sz st st1 st2 la lb szh kp => PyProof.Rows.args_nil ?_
  have ex : its.toArray.size = xs.length := by rw [List.size_toArray, rv.length]
  have ey : its2.toArray.size = xs.length := by rw [List.size_toArray, ← rv2.length, hz.2.2.2]
  obtain ⟨ps, kxA, len, at_⟩ := knw2_zip kr rv rv2 hz.2.2.2
  have kx := kxA _ kr
  have I2 : Inv X pins σ H1 { (⟨s1.heap, s1.gens, s1.drawn, s1.toks, s1.os⟩ : Shared) with heap := h' } := I1.kept (t' := s1.toks) kp
  have low : ∀ {c : Addr}, n ≤ c → H1 c = none := fun h => I1.hok.fresh (by rw [← hn]; exact h)
  have P := DLZ.zip_pairs (prog := X.prog) (w := X.w) (DLZ.apart la lb) (.list n a its.toArray) (.tuple (n + 1) b its2.toArray) xs.length (Nat.le_of_eq ex.symm) (Nat.le_of_eq ey.symm) (.inl (Array.getElem?_eq_none (Nat.le_of_eq ex)))
  have hw : ∀ b ∈ [n + 4, n + 3, n, n + 1], H1 b = none := fun c hm => by
    simp only [List.mem_cons, List.not_mem_nil, or_false] at hm
    rcases hm with rfl | rfl | rfl | rfl
    · exact low (Nat.le_add_right _ _)
    · exact low (Nat.le_add_right _ _)
    · exact low (Nat.le_refl _)
    · exact low (Nat.le_add_right _ _)
  refine call_dict_pairsH (s := { (⟨s1.heap, s1.gens, s1.drawn, s1.toks, s1.os⟩ : Shared) with heap := h' }) (knd := tupleKind (mixKind X.prog X.w)) P (I2.ok.hd hc) (by show X.A.units + 2 < cLine; omega) ⟨st, st1, st2⟩ ⟨len, fun i key v e => ?_⟩ (fun g kp2 x hx => ?_) sz fun g tk dd kg => ?_
  · have e : its.toArray[i]? = some key ∧ its2.toArray[i]? = some v := e
    exact at_ i key v (by simpa using e.1) (by simpa using e.2)
  · obtain ⟨o0, hb⟩ := kx.mem x hx
    obtain ⟨_, _, its3, r, o, h1, h2, m, h3⟩ := I2.hok _ _ hb
    refine ⟨o, its3.toArray, m, kp2 _ _ (Nat.ne_of_lt (Heap.lt_size h1)) (fun hm => ?_) h1, h2, h3, by simpa using items_are r⟩
    rw [hw _ hm] at hb
    cases hb
  · have lt5 : ∀ {c : Addr} {o : Obj}, s1.heap.get? c = some o → c ∉ [n + 4, n + 3, n, n + 1] := fun e hm => by
      have z : _ < s1.heap.objs.size := Heap.lt_size e
      rw [← hn] at z
      simp only [List.mem_cons, List.not_mem_nil, or_false] at hm
      rcases hm with rfl | rfl | rfl | rfl
      · exact absurd z (Nat.not_lt_of_le (Nat.le_add_right _ _))
      · exact absurd z (Nat.not_lt_of_le (Nat.le_add_right _ _))
      · exact absurd z (Nat.lt_irrefl _)
      · exact absurd z (Nat.not_lt_of_le (Nat.le_add_right _ _))
    have keep : ∀ c o, s1.heap.get? c = some o → g.get? c = some o := fun c o e => kg c o (lt5 e) (kp c o e)
    have nw : s1.heap.objs.size ≤ h'.objs.size := by rw [szh, hn]; exact Nat.le_add_right _ _
    have n0 : H1 h'.objs.size = none := I1.hok.fresh nw
    have hmS : (h'.objs.size == sysModules) = false := beq_eq_false_iff_ne.mpr (Nat.ne_of_gt I2.big)
    have kx2 : KX H1 (mergeT [] (ks.zip ys)) (storedAllH [] ps) := kx.merge .nil
    have hlen : (storedAllH [] ps).length ≤ sizeLine := by
      rw [← Paired.length kx2]
      refine Nat.le_trans (length_mergeT _ []) ?_
      rw [List.length_nil, Nat.zero_add, Paired.length kx, len]
      exact sz
    obtain ⟨o, es, ep, d1, d2, d3, d4, d5, d6⟩ := dd
    have new : ObjOk X.prog X.w (upd H1 h'.objs.size (.frz o (DictX (hfX X.prog X.w) h'.objs.size (storedAllH [] ps)))) g h'.objs.size (.frz o (DictX (hfX X.prog X.w) h'.objs.size (storedAllH [] ps))) :=
      ⟨d1, dx_ok hlen hmS ⟨o, es, ep, d1, d2, d3, d4, d5, d6⟩⟩
    exact ⟨.ref h'.objs.size, _, I1.laid (t' := tk) keep nw new, rfl, q1 _ _ _ n0 fun F hF => (kxA F hF).merge .nil⟩
end
section
variable {X : Cx} {W : WX} {e1 e2 : Expr} {t : DTA} {p p2 q pos : Pos}
def dDictZipX (hf : List Key → Int) (t : DTA) : DTE := fun ρ S Q E => t ρ S (fun ds S1 => ∃ (ls : List (List Str)) (ys : List D), ds = [.lst (ls.map encK), .tup ys] ∧ ls.length = ys.length ∧ Q (.dX hf ((mergeDT [] ((ls.map keyT).zip ys)).map (·.1)) ((mergeDT [] ((ls.map keyT).zip ys)).map (·.2))) S1) E
theorem s_dictZipX {hf : List Key → Int} {t : DTA} {ρ : Sl} {S : Store} {Q : DQ} {E : DX} (h : t ρ S (fun ds S1 => ∃ (ls : List (List Str)) (ys : List D), ds = [.lst (ls.map encK), .tup ys] ∧ ls.length = ys.length ∧ Q (.dX hf ((mergeDT [] ((ls.map keyT).zip ys)).map (·.1)) ((mergeDT [] ((ls.map keyT).zip ys)).map (·.2))) S1) E) : dDictZipX hf t ρ S Q E := h
theorem knw2_of {K : PySem.W.Frag} {F H : Hp} (sub : ∀ b u, F b = some u → H b = some u) : ∀ {ls : List (List Str)} {vs : List V}, IsVs K F (ls.map encK) vs → KnwRefs2 H vs (ls.map keyT)
  | [], _, h => by cases h; exact .nil
  | l :: ls, _, h => by
    cases h with
    | cons h1 h2 =>
      cases h1 with
      | kup g1 g0 g2 =>
        rw [isVs_strs_inv g2] at g1
        refine .cons ⟨_, rfl, _, (sub _ _ g1).trans (by unfold keyT; rw [List.map_map]; rfl), g0⟩ (knw2_of sub h2)
theorem de_dictZipX (hc : X.calm = true) (hu : X.A.units + 64 < cLine) (hm : X.mg "dict" = none) (hmz : X.mg "zip" = none) (ha : DA X W [e1, e2] t) (hg : Gl X "dict" := by rfl) (hgz : Gl X "zip" := by rfl) (hs : starEach [e1, e2] X.env = (false, eval e1 X.env) :: starEach [e2] X.env := by rfl) (hpl : (backTo q (starEach [e2] X.env)).any (·.1) = false := by rfl)
    (hs2 : starEach [.Call (.Name "zip" p2) [e1, e2] [] q] X.env = (false, eval (.Call (.Name "zip" p2) [e1, e2] [] q) X.env) :: starEach [] X.env := by rfl) : DE X W (.Call (.Name "dict" p) [.Call (.Name "zip" p2) [e1, e2] [] q] [] pos) (dDictZipX (hfX X.prog X.w) t) :=
  de_pe (pe_dictZipX hc hu hm hmz ha.pa hg hgz hs hpl hs2) fun σ H P ⟨ρ, S, F, Z, Q, E, R, V, q, k, x⟩ => ⟨ρ, S, F, Z, _, E, R, V, q, fun vs H1 ⟨ds, S1, F1, A1, i1, ls, ys, hd, hn, q1⟩ => by
    subst hd
    obtain ⟨v, w, rfl, j1, j2⟩ := isVs_two i1
    obtain ⟨b, us, rfl, g1, g2⟩ := tup_inv j2
    cases j1 with
    | lst h1 h2 =>
      refine ⟨_, b, _, us, _, ⟨rfl, SqL.of (A1.rel.sub _ _ h1).1, SqT.of (A1.rel.sub _ _ g1).1, ?_⟩, knw2_of (fun b u z => (A1.rel.sub b u z).1) h2, fun p o es hp hkx => ?_⟩
      · rw [← h2.length, ← g2.length, List.length_map]
        exact hn
      · have kF := hkx F1 (knw2_of (fun b u z => z) h2)
        obtain ⟨R2, s2, k2⟩ := A1.rel.laid (o := .frz o (DictX (hfX X.prog X.w) p es)) hp
        have pm := (pr_zip (ks := ls.map keyT) g2).mergeT .nil
        exact k _ _ ⟨_, S1, _, A1.trans ⟨s2, R2, k2⟩, .dX upd_same (kF.up s2) pm.fst.symm (pm.snd.up s2), q1⟩, x⟩
end
end DL

set_option maxRecDepth 100000
set_option maxHeartbeats 2000000
/-! DK63: steps for dicts with known tuples as keys. -/
namespace DL
open PySem PySem.Spec L2
section
variable {nx bk ct : Sl → Store → Prop} {rt : DQ} {ex : Sl → DX} {ρ : Sl} {S : Store} {Q : DQ} {E : DX} {hf : List Key → Int} {td ty tv : DTE}
theorem e_xp (h : tv ρ S (fun d S1 => td ρ S1 (fun x S2 => ty ρ S2 (fun y S3 => ∃ a ks ds k, x = .ref a ∧ S3 a = some (.dX a hf ks ds) ∧ y = .kup (k.map keyD) ∧ ks.length < sizeLine ∧
  nx ρ (put S3 a (.dX a hf ((putD (ks.zip ds) k d).map (·.1)) ((putD (ks.zip ds) k d).map (·.2))))) (ex ρ)) (ex ρ)) (ex ρ)) : dXPut hf td ty tv ⟨nx, rt, bk, ct, ex⟩ ρ S := h
theorem s_newMX (h : ∀ a, S a = none → Q (.ref a) (put S a (.dX a hf [] []))) : dNewMX hf ρ S Q E := h
/-- a new key -/
theorem s_xpN {a : Addr} {ls : List (List Str)} {vs : List D} {k : List Str} {d : D} {N : Store → Prop} (hS : S a = some (.dX a hf (ls.map keyT) vs)) (hl : ls.length = vs.length) (hn : k ∉ ls) (z : ls.length < sizeLine) (h : N (put S a (.dX a hf ((ls ++ [k]).map keyT) (vs ++ [d])))) :
    ∃ a' ks ds k', D.ref a = .ref a' ∧ S a' = some (.dX a' hf ks ds) ∧ D.kup (k.map .str) = .kup (k'.map keyD) ∧ ks.length < sizeLine ∧ N (put S a' (.dX a' hf ((putD (ks.zip ds) k' d).map (·.1)) ((putD (ks.zip ds) k' d).map (·.2)))) := by
  have hl2 : (ls.map keyT).length = vs.length := by rw [List.length_map]; exact hl
  refine ⟨a, ls.map keyT, vs, keyT k, rfl, hS, by unfold keyT; rw [List.map_map]; rfl, by rw [List.length_map]; exact z, ?_⟩
  have hnew : keyT k ∉ ((ls.map keyT).zip vs).map (·.1) := by
    rw [zip_fst hl2]
    intro h
    obtain ⟨x, hx, e⟩ := List.mem_map.mp h
    exact hn (keyT_inj e ▸ hx)
  rw [putD_new hnew, List.map_append, List.map_append, zip_fst hl2, zip_snd hl2]
  rw [List.map_append] at h
  exact h
/-- what is looked up, by a tuple of texts -/
theorem s_xgT {β : Type} (f : β → D) {ls : List (List Str)} {vs : List β} {z : List Str} {v : β} {x y : D} (hx : DxD S hf x (ls.map keyT) (vs.map f)) (hy : y = .tup (z.map .str) ∨ y = .kup (z.map .str)) (e : lookS ls vs z = some v) (h : Q (f v) S) : rdXG hf x y S Q := by
  refine s_xg (k := keyT z) hx ?_ ?_ h
  · rcases hy with rfl | rfl
    · exact .inl (by unfold keyT; rw [List.map_map]; rfl)
    · exact .inr (by unfold keyT; rw [List.map_map]; rfl)
  · rw [look_tab, e]
    rfl
end
end DL

set_option maxRecDepth 100000
set_option maxHeartbeats 2000000
/-! DK64: min, max of a tuple of texts; list.remove of a text; text * n; a tuple of any kind read as a list. -/
namespace DL
open PySem PySem.Spec L2
theorem ltS_tr {x y z : Str} (h : ltS x y = true) (g : ltS y z = true) : ltS x z = true := by
  unfold ltS at *
  exact decide_eq_true (Std.lt_trans (of_decide_eq_true h) (of_decide_eq_true g))
theorem best_spec {bt : Nat → Nat → Bool} (ir : ∀ i, bt i i = false) (tr : ∀ i j k, bt i j = true → bt j k = true → bt i k = true) : ∀ k, argBest bt k ≤ k ∧ ∀ j, j ≤ k → bt j (argBest bt k) = false
  | 0 => ⟨Nat.le_refl _, fun j hj => by cases Nat.le_zero.mp hj; exact ir _⟩
  | k + 1 => by
    obtain ⟨h1, h2⟩ := best_spec ir tr k
    have e : argBest bt (k + 1) = if bt (k + 1) (argBest bt k) = true then k + 1 else argBest bt k := rfl
    rw [e]
    by_cases hb : bt (k + 1) (argBest bt k) = true
    · rw [if_pos hb]
      refine ⟨Nat.le_refl _, fun j hj => ?_⟩
      rcases Nat.lt_or_eq_of_le hj with hj | rfl
      · cases hc : bt j (k + 1) with
        | false => rfl
        | true =>
          have := tr _ _ _ hc hb
          rw [h2 j (by omega)] at this
          cases this
      · exact ir _
    · rw [if_neg hb]
      refine ⟨by omega, fun j hj => ?_⟩
      rcases Nat.lt_or_eq_of_le hj with hj | rfl
      · exact h2 j (by omega)
      · simpa using hb
def rBestS (K : PySem.W.Frag) (g : Str → Str → Bool) : List V → Hp → VK → Prop := fun vs H Q => ∃ (a : Addr) (ns : List Str), vs = [.ref a] ∧ SqT K H a (ns.map V.str) ∧ ns ≠ [] ∧ ∀ m, m ∈ ns → (∀ y ∈ ns, g y m = false) → Q (.str m) H
theorem vals_strI {ns : List Str} {its : List Value} (r : Vals (ns.map V.str) its) : ∀ (i : Nat) (v : Value), its.toArray[i]? = some v → ∃ t, v = .str (ns.getD i "") t := by
  induction ns generalizing its with
  | nil => cases r; intro i v h; simp at h
  | cons n ns ih =>
    cases r with
    | cons h1 h2 =>
      obtain ⟨t, rfl⟩ := h1
      intro i v h
      cases i with
      | zero => simp at h; exact ⟨t, by rw [← h]; rfl⟩
      | succ i => exact ih h2 i v (by simpa using h)
section
variable {X : Cx} {W : WX}
theorem cmp_ltS {P : Program} {w : World} {A : Around} {its : Array Value} {f : Nat → Str} (r : ∀ (i : Nat) (v : Value), its[i]? = some v → ∃ t, v = .str (f i) t) : CmpOf P w A .Lt (fun i v => its[i]? = some v) fun i j => ltS (f i) (f j) := by
  intro i j vi vj s Q E hi hj h
  obtain ⟨t, rfl⟩ := r i vi hi
  obtain ⟨u, rfl⟩ := r j vj hj
  exact richCompare_gives (typeIs_str s _ t) (typeIs_str s _ u) F.slot_str_lt F.entry_str_lt (F.args_str_lt_2 _ _) (gives_str_lt _ _ t u) (fun x => nomatch x) h rfl
theorem cmp_gtS {P : Program} {w : World} {A : Around} {its : Array Value} {f : Nat → Str} (r : ∀ (i : Nat) (v : Value), its[i]? = some v → ∃ t, v = .str (f i) t) : CmpOf P w A .Gt (fun i v => its[i]? = some v) fun i j => ltS (f j) (f i) := by
  intro i j vi vj s Q E hi hj h
  obtain ⟨t, rfl⟩ := r i vi hi
  obtain ⟨u, rfl⟩ := r j vj hj
  exact richCompare_gives (typeIs_str s _ t) (typeIs_str s _ u) F.slot_str_gt F.entry_str_gt (F.args_str_gt_2 _ _) (gives_str_gt _ _ t u) (fun x => nomatch x) h rfl
theorem cr_minS (hc : X.calm = true) : CallR X (.builtin "min") (rBestS X.K ltS) := by
  intro pins s σ H xs us Q I r ⟨a, ns, ex, hT, ne, q⟩
  subst ex
  rw [Vals.ref1 r]
  obtain ⟨its, rv, it, hz⟩ := I.tuple hT
  have hl : its.length = ns.length := by rw [← rv.length, List.length_map]
  have ll : 0 < ns.length := List.length_pos_iff.mpr ne
  have lt : a < s.heap.objs.size := by obtain ⟨o, h, _⟩ := it; exact Heap.lt_size h
  have rs := vals_strI rv
  refine call_min_walk (wpAny_pyIter_tuple it ?_)
  refine ⟨_, _, _, _, _, _, _, rfl, Walks.tuple (prog := X.prog) (w := X.w) (A := X.A.in1) (show X.A.in1.handled = none from I.ok.hd hc) s.heap.objs.size a (Nat.ne_of_lt lt) its.toArray, ⟨⟨_, Heap.get?_push_size _ rfl, rfl, rfl⟩, ?_⟩, ?_, by rw [List.size_toArray, hl]; exact ll, cmp_ltS rs, fun v h' tk hv kp => ?_⟩
  · obtain ⟨o, h, h2⟩ := it
    exact ⟨o, Heap.get?_push_of_some _ h, h2⟩
  · intro b hb
    simp only [List.mem_cons, List.not_mem_nil, or_false] at hb
    show b < (s.heap.push _).objs.size
    rw [PyProof.Rows.size_push']
    rcases hb with rfl | rfl
    · exact Nat.lt_succ_self _
    · exact Nat.lt_succ_of_lt lt
  obtain ⟨b1, b2⟩ := best_spec (bt := fun i j => ltS (ns.getD i "") (ns.getD j "")) (fun i => ltS_irrefl _) (fun i j k h g => ltS_tr h g) (its.toArray.size - 1)
  obtain ⟨t, rfl⟩ := rs _ _ hv
  rw [List.size_toArray, hl] at b1 b2
  have e : its.toArray.size = ns.length := by rw [List.size_toArray, hl]
  rw [e]
  refine ⟨.str _, H, I.kept (t' := tk) (fun b u hb => kp b u ?_ (Heap.get?_push_of_some _ hb)), ⟨t, rfl⟩, q _ ?_ fun y hy => ?_⟩
  · simp only [List.mem_singleton]
    exact Nat.ne_of_lt (Heap.lt_size hb)
  · rw [List.getD_eq_getElem?_getD, List.getElem?_eq_getElem (by omega)]
    exact List.getElem_mem _
  · obtain ⟨j, hj, rfl⟩ := List.getElem_of_mem hy
    have := b2 j (by omega)
    rw [List.getD_eq_getElem?_getD (i := j), List.getElem?_eq_getElem hj] at this
    exact this
theorem cr_maxS (hc : X.calm = true) : CallR X (.builtin "max") (rBestS X.K fun y m => ltS m y) := by
  intro pins s σ H xs us Q I r ⟨a, ns, ex, hT, ne, q⟩
  subst ex
  rw [Vals.ref1 r]
  obtain ⟨its, rv, it, hz⟩ := I.tuple hT
  have hl : its.length = ns.length := by rw [← rv.length, List.length_map]
  have ll : 0 < ns.length := List.length_pos_iff.mpr ne
  have lt : a < s.heap.objs.size := by obtain ⟨o, h, _⟩ := it; exact Heap.lt_size h
  have rs := vals_strI rv
  refine call_max_walk (wpAny_pyIter_tuple it ?_)
  refine ⟨_, _, _, _, _, _, _, rfl, Walks.tuple (prog := X.prog) (w := X.w) (A := X.A.in1) (show X.A.in1.handled = none from I.ok.hd hc) s.heap.objs.size a (Nat.ne_of_lt lt) its.toArray, ⟨⟨_, Heap.get?_push_size _ rfl, rfl, rfl⟩, ?_⟩, ?_, by rw [List.size_toArray, hl]; exact ll, cmp_gtS rs, fun v h' tk hv kp => ?_⟩
  · obtain ⟨o, h, h2⟩ := it
    exact ⟨o, Heap.get?_push_of_some _ h, h2⟩
  · intro b hb
    simp only [List.mem_cons, List.not_mem_nil, or_false] at hb
    show b < (s.heap.push _).objs.size
    rw [PyProof.Rows.size_push']
    rcases hb with rfl | rfl
    · exact Nat.lt_succ_self _
    · exact Nat.lt_succ_of_lt lt
  obtain ⟨b1, b2⟩ := best_spec (bt := fun i j => ltS (ns.getD j "") (ns.getD i "")) (fun i => ltS_irrefl _) (fun i j k h g => ltS_tr g h) (its.toArray.size - 1)
  obtain ⟨t, rfl⟩ := rs _ _ hv
  rw [List.size_toArray, hl] at b1 b2
  have e : its.toArray.size = ns.length := by rw [List.size_toArray, hl]
  rw [e]
  refine ⟨.str _, H, I.kept (t' := tk) (fun b u hb => kp b u ?_ (Heap.get?_push_of_some _ hb)), ⟨t, rfl⟩, q _ ?_ fun y hy => ?_⟩
  · simp only [List.mem_singleton]
    exact Nat.ne_of_lt (Heap.lt_size hb)
  · rw [List.getD_eq_getElem?_getD, List.getElem?_eq_getElem (by omega)]
    exact List.getElem_mem _
  · obtain ⟨j, hj, rfl⟩ := List.getElem_of_mem hy
    have := b2 j (by omega)
    rw [List.getD_eq_getElem?_getD (i := j), List.getElem?_eq_getElem hj] at this
    exact this
theorem map_erase {α β : Type} (f : α → β) : ∀ (l : List α) (j : Nat), (l.eraseIdx j).map f = (l.map f).eraseIdx j
  | [], _ => rfl
  | _ :: _, 0 => rfl
  | x :: l, j + 1 => congrArg (f x :: ·) (map_erase f l j)
theorem vals_erase : ∀ {xs : List V} {us : List Value}, Vals xs us → ∀ j, Vals (xs.eraseIdx j) (us.eraseIdx j)
  | _, _, .nil, _ => .nil
  | _, _, .cons _ t, 0 => t
  | _, _, .cons h t, j + 1 => .cons h (vals_erase t j)
/-- list.remove of a text -/
def rRemS : V → List V → Hp → VK → Prop := fun x xs H Q => ∃ (l : Addr) (ns : List Str) (k : Str), x = .ref l ∧ xs = [.str k] ∧ H l = some (.lst (ns.map V.str)) ∧ k ∈ ns ∧ Q .non (upd H l (.lst ((ns.erase k).map V.str)))
theorem erase_at {ns : List Str} {k : Str} : k ∈ ns → ∃ j, ∃ (h : j < ns.length), ns[j] = k ∧ (∀ m (hm : m < ns.length), m < j → ns[m] ≠ k) ∧ ns.erase k = ns.eraseIdx j := by
  induction ns with
  | nil => intro h; cases h
  | cons n ns ih =>
    intro h
    by_cases e : n = k
    · subst e
      exact ⟨0, by simp, rfl, fun m _ hm => absurd hm (Nat.not_lt_zero _), by simp⟩
    · obtain ⟨j, hj, h1, h2, h3⟩ := ih (by rcases List.mem_cons.mp h with h | h; exact absurd h.symm e; exact h)
      refine ⟨j + 1, by simp; omega, by simpa using h1, fun m hm hl => ?_, ?_⟩
      · cases m with
        | zero => simpa using e
        | succ m => simpa using h2 m (by simpa using hm) (by omega)
      · rw [List.erase_cons_tail (by simpa using e), h3]; rfl
theorem mt_removeS : MtR X "list.remove" rRemS := by
  intro pins s σ H x xs v us Q I rx rv ⟨l, ns, k, ex, exs, hl, hk, q⟩
  subst ex exs
  cases rx
  cases rv with
  | cons r1 r2 =>
  cases r2
  obtain ⟨t, rfl⟩ := r1
  obtain ⟨hz, its, n, r, o⟩ := I.hok _ _ hl
  obtain ⟨j, hj, h1, h2, h3⟩ := erase_at hk
  have rs := vals_strI r
  have hlen : its.length = ns.length := by rw [← r.length, List.length_map]
  have val : ∀ (m : Nat) (hm : m < its.toArray.size), ∃ u, its.toArray[m] = .str (ns.getD m "") u := fun m hm => rs m _ (Array.getElem?_eq_getElem hm)
  let e : Value → Bool := fun y => match y with | .str z _ => z == k | _ => false
  refine call_meets F.slot_list_remove ⟨_, o, rfl⟩ F.entry_list_remove (F.args_list_remove_2 _ _) (MeetsSeq.list_remove l its.toArray n (.str k t) e (fun y hy => ?_) j (by rw [List.size_toArray]; omega) ?_ (fun m hm hlt => ?_) (by rw [List.size_toArray, hlen]; rw [List.length_map] at hz; exact hz)) ⟨o, ?_⟩
  · obtain ⟨m, hm, rfl⟩ := Array.getElem_of_mem hy
    obtain ⟨u, hu⟩ := val m hm
    rw [hu]
    exact PyProof.Rows.eqGives_str _ _ _ _
  · obtain ⟨u, hu⟩ := val j (by rw [List.size_toArray]; omega)
    rw [hu]
    show (ns.getD j "" == k) = true
    rw [List.getD_eq_getElem?_getD, List.getElem?_eq_getElem hj]
    simpa using h1
  · obtain ⟨u, hu⟩ := val m hm
    rw [hu]
    have hm2 : m < ns.length := by rw [List.size_toArray, hlen] at hm; exact hm
    show (ns.getD m "" == k) = false
    rw [List.getD_eq_getElem?_getD, List.getElem?_eq_getElem hm2]
    simpa using h2 m hm2 hlt
  · have hu := Heap.get?_update_self (Obj.mapSeq fun xs => xs.eraseIdxIfInBounds j) o rfl
    refine ⟨.non, _, I.write (e := l) (t' := s.toks) (by rw [hl]; exact True.intro) (.inl rfl) (fun b u hb hg => (Heap.get?_update_other _ _ (Ne.symm hb)).trans hg) ⟨_, hu⟩ ?_, rfl, q⟩
    have rv : Vals ((ns.erase k).map V.str) (its.eraseIdx j) := by
      rw [h3, map_erase]
      exact vals_erase r j
    obtain ⟨c, hc⟩ : ∃ c, Obj.mapSeq (fun xs => xs.eraseIdxIfInBounds j) { cls := .type "list", data := .seq its.toArray n } = { cls := .type "list", data := .seq (its.eraseIdx j).toArray c } :=
      ⟨_, by simp only [Obj.mapSeq, Array.eraseIdxIfInBounds, List.size_toArray, hj, hlen, dif_pos, List.eraseIdx_toArray]; rfl⟩
    refine ⟨?_, its.eraseIdx j, c, rv, hu.trans (congrArg some hc)⟩
    rw [List.length_map] at hz ⊢
    exact Nat.le_trans (List.length_erase_le) hz
/-! text * n -/
theorem foldl_size (a : Array Nat) : ∀ (n : Nat) (acc : Array Nat), ((List.replicate n a).foldl (fun x1 x2 => x1 ++ x2) acc).size = acc.size + n * a.size
  | 0, acc => by simp
  | n + 1, acc => by
    rw [List.replicate_succ, List.foldl_cons, foldl_size a n, Array.size_append, Nat.succ_mul]
    omega
def repS (z : Str) (n : Int) : Str := { cps := List.foldl (fun x1 x2 => x1 ++ x2) #[] (List.replicate n.toNat z.cps) }
def rMulZ : R2 := fun x y H Q => ∃ (z : Str) (k : Int), x = .str z ∧ y = .int k ∧ 2 ≤ k ∧ k ≤ 1000 ∧ 1 ≤ z.length ∧ z.length ≤ 1000 ∧ Q (.str (repS z k)) H
theorem int_rmul_str (k : Int) (tk : Tok) (x : Str) (t : Tok) : Meets (Builtin.«int.__rmul__» ⟨[.int k tk, .str x t], []⟩) (fun _ R s => R (.ok (.ret Value.notImplemented)) s) :=
  .of_wp fun prog w A R s h => by
    wp_walk
    exact ⟨_, rfl, h⟩
theorem op_mulZ : OpR X (binaryOp .Mult) rMulZ := by
  intro pins s σ H x y v u Q I rx ry ⟨z, k, ex, ey, k2, k1, z1, z2, q⟩
  subst ex ey
  obtain ⟨t, rfl⟩ := rx
  obtain ⟨tk, rfl⟩ := ry
  have hn : ¬ k < 1 := by omega
  have hb : (k == 1 || z.length == 0) = false := by
    have a : (k == 1) = false := by simp; omega
    have b : (z.length == 0) = false := by simp; omega
    rw [a, b]; rfl
  refine PySem.wpAny_binaryOp_repeat (T := "str") (U := "int") (by decide) (fun s' => typeIs_str s' z t) (fun s' => typeIs_int s' k tk) noFill_str_mul F.fills_int_mul F.slot_int_rmul repeat_str F.slot_int_index.lookup
    (call_meets F.slot_int_rmul (typeIs_int s k tk) F.entry_int_rmul (F.args_int_rmul_2 _ _) (int_rmul_str k tk z t) ⟨rfl, ?_⟩)
  refine call_gives F.slot_str_mul (typeIs_str s z t) F.entry_str_mul (F.args_str_mul_2 _ _) (gives_str_mul z k t tk ?_ (fun _ _ => ?_) fun _ _ => ?_) ?_
  · simp; omega
  · have : (1000 : Int) ≤ (2 ^ 63 - 1) / k := Int.le_ediv_of_mul_le (by omega) (by have : 1000 * k ≤ 1000 * 1000 := Int.mul_le_mul_of_nonneg_left k1 (by decide); omega)
    omega
  · show decide (_ > sizeLine) = false
    have : z.length * k.toNat ≤ 1000 * 1000 := Nat.mul_le_mul z2 (by omega)
    simp only [decide_eq_false_iff_not, sizeLine_eq]
    omega
  · rw [if_neg hn, if_neg (by rw [hb]; simp)]
    refine ⟨?_, ?_⟩
    · show (List.foldl (fun (x1 x2 : Array Nat) => x1 ++ x2) #[] (List.replicate k.toNat z.cps)).size ≤ sizeLine
      rw [foldl_size]
      have : k.toNat * z.cps.size ≤ 1000 * 1000 := Nat.mul_le_mul (by omega) z2
      simp only [sizeLine_eq, List.size_toArray, List.length_nil]
      omega
    · exact ⟨.str _, H, I.tok _, ⟨_, rfl⟩, q⟩
end
theorem foldl_all {p : Nat → Bool} : ∀ (l : List (Array Nat)) (acc : Array Nat), acc.all p = true → (∀ a ∈ l, a.all p = true) → (l.foldl (fun x1 x2 => x1 ++ x2) acc).all p = true
  | [], _, h, _ => h
  | a :: l, acc, h, g => foldl_all l (acc ++ a) (by rw [Array.all_append, h, g a List.mem_cons_self]; rfl) fun x hx => g x (List.mem_cons_of_mem _ hx)
theorem repS_ok {z : Str} {n : Int} (h : PyData.strOk z = true) : PyData.strOk (repS z n) = true ∧ (repS z n).length = n.toNat * z.length := by
  refine ⟨?_, ?_⟩
  · unfold PyData.strOk at *
    exact foldl_all _ _ (by simp) fun a ha => by rw [List.eq_of_mem_replicate ha]; exact h
  · show (List.foldl (fun (x1 x2 : Array Nat) => x1 ++ x2) #[] (List.replicate n.toNat z.cps)).size = _
    rw [foldl_size]
    show 0 + n.toNat * z.cps.size = _
    rw [Nat.zero_add]
    rfl
def rdMulZ : DR2 := fun x y S Q => ∃ (z : Str) (k : Int), x = .str z ∧ y = .int k ∧ 2 ≤ k ∧ k ≤ 1000 ∧ 1 ≤ z.length ∧ z.length ≤ 1000 ∧ Q (.str (repS z k)) S
theorem lift_mulZ {K : PySem.W.Frag} : Lift2 K rMulZ rdMulZ := by
  intro Z H S F x y v u Q P R ix iy ⟨z, k, ex, ey, h1, h2, h3, h4, q⟩ kk
  subst ex ey
  cases ix
  cases iy
  exact ⟨z, k, rfl, rfl, h1, h2, h3, h4, kk _ _ ⟨.str _, S, F, .refl R, .str _, q⟩⟩
theorem s_mulZ {z : Str} {k : Int} {S : Store} {Q : DQ} (h1 : 2 ≤ k) (h2 : k ≤ 1000) (h3 : 1 ≤ z.length) (h4 : z.length ≤ 1000) (q : Q (.str (repS z k)) S) : rdMulZ (.str z) (.int k) S Q := ⟨z, k, rfl, rfl, h1, h2, h3, h4, q⟩
/-! min, max of a tuple of texts -/
def rdBestS (g : Str → Str → Bool) : DRL := fun xs S Q => ∃ d ns, xs = [d] ∧ tupI d = some (ns.map .str) ∧ ns ≠ [] ∧ ∀ m, m ∈ ns → (∀ y ∈ ns, g y m = false) → Q (.str m) S
theorem lift_bestS {K : PySem.W.Frag} {g : Str → Str → Bool} : LiftL K (rBestS K g) (rdBestS g) := by
  intro Z H S F xs v Q P R iv ⟨d, ns, ex, e, ne, q⟩ k
  subst ex
  obtain ⟨v, rfl, iw⟩ := isVs_one iv
  obtain ⟨a, vs, rfl, sq, is⟩ := tup_sq R iw e
  rw [isVs_strs_inv is] at sq
  exact ⟨a, ns, rfl, sq, ne, fun m hm hle => k _ _ ⟨.str m, S, F, .refl R, .str m, q m hm hle⟩⟩
theorem s_bestS {g : Str → Str → Bool} {d : D} {ns : List Str} {S : Store} {Q : DQ} (e : tupI d = some (ns.map .str)) (ne : ns ≠ []) (h : ∀ m, m ∈ ns → (∀ y ∈ ns, g y m = false) → Q (.str m) S) : rdBestS g [d] S Q := ⟨d, ns, rfl, e, ne, h⟩
section
variable {X : Cx} {W : WX} {e o : Expr} {te to : DTE} {p pos apos cpos : Pos}
theorem de_minS (hc : X.calm = true) (hm : X.mg "min" = none) (he : DE X W e te) (hg : Gl X "min" := by rfl) (hs : starEach [e] X.env = (false, eval e X.env) :: starEach [] X.env := by rfl) (hpl : (backTo pos (starEach [] X.env)).any (·.1) = false := by rfl) :
    DE X W (.Call (.Name "min" p) [e] [] pos) (dCB (rdBestS ltS) (dCons te dNil)) :=
  de_callB (cr_minS hc) lift_bestS hm (by first | exact PyProof.Rows.boot_min | decide +kernel | kernel_rfl) (da_cons he da_nil hs) hg (by decide) (by decide) hs hpl
theorem de_maxS (hc : X.calm = true) (hm : X.mg "max" = none) (he : DE X W e te) (hg : Gl X "max" := by rfl) (hs : starEach [e] X.env = (false, eval e X.env) :: starEach [] X.env := by rfl) (hpl : (backTo pos (starEach [] X.env)).any (·.1) = false := by rfl) :
    DE X W (.Call (.Name "max" p) [e] [] pos) (dCB (rdBestS fun y m => ltS m y) (dCons te dNil)) :=
  de_callB (cr_maxS hc) lift_bestS hm (by first | exact PyProof.Rows.boot_max | decide +kernel | kernel_rfl) (da_cons he da_nil hs) hg (by decide) (by decide) hs hpl
/-! list.remove -/
def rdRemS : DRA := fun a ds xs S Q => ∃ (ns : List Str) (k : Str), ds = ns.map .str ∧ xs = [.str k] ∧ k ∈ ns ∧ Q .non (put S a (.lst ((ns.erase k).map .str)))
theorem lift_remS {K : PySem.W.Frag} : LiftA K rRemS rdRemS := by
  intro Z H S F a ds xs vs Q P R hs iv ⟨ns, k, ed, ex, hk, q⟩ kk
  subst ed ex
  obtain ⟨v, rfl, iw⟩ := isVs_one iv
  cases iw
  obtain ⟨_, o, ho, us, e, h2⟩ := R.sto a _ hs
  subst e
  rw [isVs_strs_inv h2] at ho
  obtain ⟨R2, k2⟩ := R.wrote (o := .lst ((ns.erase k).map V.str)) (m := .lst ((ns.erase k).map .str)) hs ⟨_, rfl, isVs_strs _⟩
  exact ⟨a, ns, k, rfl, rfl, ho, hk, kk _ _ ⟨.non, _, F, ⟨Same.refl _, R2, k2⟩, .non, q⟩⟩
theorem s_remS {a : Addr} {ns : List Str} {k : Str} {S : Store} {Q : DQ} (hk : k ∈ ns) (q : Q .non (put S a (.lst ((ns.erase k).map .str)))) : rdRemS a (ns.map .str) [.str k] S Q := ⟨ns, k, rfl, rfl, hk, q⟩
theorem de_removeS (ho : DE X W o to) (ha : DE X W e te) (hbase : attributeBase o "remove" X.env (eval o X.env) = eval o X.env := by rfl)
    (hfew : ((backTo cpos (starEach [e] X.env)).all (fun x => !x.1) && (backToKw cpos (keywordEach [] X.env)).all (fun x => x.1.isSome)
      && decide ([e].length + ([] : List Keyword).length + (if ([] : List Keyword).isEmpty then 0 else 1) < 30)) = true := by rfl)
    (hline : (apos.endLine == cpos.line) = true := by rfl) (hs : starEach [e] X.env = (false, eval e X.env) :: starEach [] X.env := by rfl) (hplain : (backTo cpos (starEach [] X.env)).any (·.1) = false := by rfl) :
    DE X W (.Call (.Attribute o "remove" apos) [e] [] cpos) (dMt rdRemS to (dCons te dNil)) := de_mt lift_remS F.slot_list_remove F.type_list_remove mt_removeS ho (da_cons ha da_nil hs) hbase hfew hline hs hplain
end
/-- o[i], the program and the world by name (in a comprehension) -/
theorem de_xgP {X : Cx} {W : WX} {o i : Expr} {td ty : DTE} {pos : Pos} {P : Program} {w : World} (h1 : X.prog = P) (h2 : X.w = w) (hu : X.A.units + 1 < cLine) (ho : DE X W o td) (hi : DE X W i ty) (hs : NoSl i := by exact fun _ _ => rfl) : DE X W (.Subscript o i pos) (dOp (rdXG (hfX P w)) td ty) := by
  subst h1 h2
  exact de_xg hu ho hi hs
end DL

set_option maxRecDepth 100000
set_option maxHeartbeats 2000000
/-! DK65: list(a tuple of any kind) as a list of the store; steps for DK64. -/
namespace DL
open PySem PySem.Spec L2
def rdListKM : DRL := fun xs S Q => ∃ d ds, xs = [d] ∧ tupI d = some ds ∧ ∀ a, S a = none → Q (.ref a) (put S a (.lst ds))
theorem lift_listKM {K : PySem.W.Frag} : LiftL K (rListOf K) rdListKM := by
  intro Z H S F x v Q P R iv ⟨d, ds, hx, hd, q⟩ k
  subst hx
  obtain ⟨v, rfl, iw⟩ := isVs_one iv
  obtain ⟨a, vs, rfl, sq, is⟩ := tup_sq R iw hd
  refine ⟨a, vs, rfl, .inr sq, fun l hl => ?_⟩
  obtain ⟨R2, k2, hS⟩ := R.made (o := .lst vs) (m := .lst ds) hl ⟨_, rfl, is⟩
  exact k _ _ ⟨.ref l, _, F, ⟨Same.refl _, R2, k2⟩, .ref l, q l hS⟩
section
variable {X : Cx} {W : WX} {e : Expr} {te : DTE} {p pos : Pos}
theorem de_listKM (B : Bis X.mg) (he : DE X W e te) (hg : Gl X "list" := by rfl) (hs : starEach [e] X.env = (false, eval e X.env) :: starEach [] X.env := by rfl) (hpl : (backTo pos (starEach [] X.env)).any (·.1) = false := by rfl) :
    DE X W (.Call (.Name "list" p) [e] [] pos) (dCB rdListKM (dCons te dNil)) :=
  de_callTy call_list_of lift_listKM B.list PyProof.Rows.boot_list (da_cons he da_nil hs) hg (by decide) (by decide) hs hpl
end
theorem s_listKM {d : D} {ds : List D} {S : Store} {Q : DQ} (e : tupI d = some ds) (h : ∀ a, S a = none → Q (.ref a) (put S a (.lst ds))) : rdListKM [d] S Q := ⟨d, ds, rfl, e, h⟩
end DL

set_option maxRecDepth 100000
set_option maxHeartbeats 4000000
local macro_rules | `(tactic| walk_at "st") => `(tactic| (repeat (first
    | with_reducible refine DL.s_var rfl ?_
    | with_reducible refine DL.s_cons ?_
    | with_reducible refine DL.s_nil ?_
    | with_reducible refine DL.s_c ?_
    | with_reducible refine DL.s_op ?_
    | with_reducible refine DL.e_seq ?_
    | with_reducible refine DL.s_cb ?_
    | with_reducible refine DL.s_size (by rw [PySem.sizeLine_eq]; simp only [List.length_append, List.length_map, List.length_cons, List.length_nil]; omega) ?_
    | with_reducible refine DL.s_bl ?_
    | with_reducible refine DL.s_test ?_
    | with_reducible refine DL.s_bindN ?_
    | with_reducible refine DL.e_ret ?_
    | with_reducible refine DL.s_call ?_
    | with_reducible refine DL.s_fld ?_
    | with_reducible refine DL.e_asg ?_
    | with_reducible refine DL.s_lc ?_
    | with_reducible refine DL.s_tup ?_
    | with_reducible refine DL.e_next ?_
    | with_reducible refine DL.e_ifs ?_
    | with_reducible refine DL.s_itL ?_
    | with_reducible refine DL.s_itLl ?_
    | with_reducible refine DL.e_for ?_
    | with_reducible refine DL.s_not ?_
    | with_reducible refine DL.e_raise ?_
    | with_reducible refine DL.e_fldPut ?_
    | with_reducible refine DL.s_addI ?_
    | with_reducible refine DL.s_mt ?_
    | with_reducible refine DL.s_itT ?_
    | with_reducible refine DL.s_iteT ?_
    | with_reducible refine DL.s_mod (by first | assumption | omega) ?_
    | with_reducible refine DL.s_mulR (by first | decide | omega) ?_
    | with_reducible refine DL.e_drop ?_
    | with_reducible refine DL.s_or ?_
    | with_reducible refine DL.s_int1 ?_
    | with_reducible refine DL.s_itTt ?_
    | with_reducible refine DL.s_lst ?_
    | with_reducible refine DL.s_lstM ?_
    | with_reducible refine DL.s_int ?_
    | with_reducible refine DL.s_it1 ?_
    | with_reducible refine DL.s_mtA (by assumption) ?_
    | with_reducible refine DL.s_itTK ?_
    | with_reducible refine DL.s_andV ?_
    | with_reducible refine DL.s_ix2 (by assumption) ?_
    | with_reducible refine DL.s_joinA ?_
    | with_reducible refine DL.s_someL (by assumption) ?_
    | with_reducible refine DL.e_dp ?_
    | with_reducible refine DL.s_ei ?_
    | with_reducible refine DL.s_sl ?_
    | with_reducible refine DL.s_noPart ?_
    | with_reducible refine DL.s_part ?_
    | with_reducible refine DL.s_div (by first | assumption | omega) ?_
    | with_reducible refine DL.s_addT (by rw [PySem.sizeLine_eq]; simp only [List.length_append, List.length_map, List.length_cons, List.length_nil]; omega) ?_
    | with_reducible refine DL.s_itTKk ?_
    | with_reducible refine DL.s_ix0 (by assumption) ?_
    | with_reducible refine DL.e_par ?_
    | with_reducible refine DL.e_forCons ?_
    | with_reducible refine DL.s_two ?_
    | with_reducible refine DL.s_and ?_
    | with_reducible refine DL.s_if ?_
    | with_reducible refine DL.s_slL1 ?_
    | with_reducible refine DL.s_slL ?_
    | with_reducible refine DL.s_iteF ?_
    | with_reducible refine DL.s_mulL (by omega) ?_
    | with_reducible refine DL.s_yes ?_
    | with_reducible refine DL.s_itTKc ?_
    | with_reducible refine DL.s_tidx ?_
    | with_reducible refine DL.s_lenSc ?_
    | with_reducible refine DL.s_sprd ?_
    | with_reducible refine DL.s_itZT ?_
    | with_reducible refine DL.s_ix1 (by assumption) ?_
    | with_reducible refine DL.e_lset ?_
    | with_reducible refine DL.e_brk ?_
    | with_reducible refine DL.s_notV ?_
    | with_reducible refine DL.s_chain ?_
    | with_reducible refine DL.s_slC ?_
    | with_reducible refine DL.s_revM ?_
    | with_reducible refine DL.s_pow (by decide) ?_
    | with_reducible refine DL.s_nilC (DL.nilR (by assumption)) ?_
    | with_reducible refine DL.s_addL (by rw [PySem.sizeLine_eq]; simp only [List.length_append, List.length_map, List.length_cons, List.length_nil]; omega) ?_
    | with_reducible refine DL.s_lc2 ?_
    | with_reducible refine DL.s_itTKt ?_
    | with_reducible refine DL.s_lenSet ?_
    | with_reducible refine DL.s_splitM ?_
    | with_reducible refine DL.s_meth ?_
    | with_reducible refine DL.s_sortSetT ?_
    | with_reducible refine DL.s_sortSc ?_
    | with_reducible refine DL.s_sortLam ?_
    | with_reducible refine DL.s_subO ?_
    | with_reducible refine DL.e_par3 ?_
    | with_reducible refine DL.s_three ?_
    | with_reducible refine DL.s_splitL ?_
    | with_reducible refine DL.s_makeQ ?_
    | with_reducible refine DL.s_sortSetR ?_
    | with_reducible refine DL.s_joinC ?_
    | with_reducible refine DL.s_put2 (by assumption) ?_
    | with_reducible refine DL.s_itEnT ?_
    | with_reducible refine DL.e_forNil ?_
    | with_reducible refine DL.e_try ?_
    | with_reducible refine DL.e_aft ?_
    | with_reducible refine DL.e_aft0 ?_
    | with_reducible refine DL.s_un ?_
    | with_reducible refine DL.s_orV ?_
    | with_reducible refine DL.s_slT0 ?_
    | with_reducible refine DL.s_slT ?_
    | with_reducible refine DL.s_rev ?_
    | with_reducible refine DL.s_disp ?_
    | with_reducible refine DL.s_pairs0 ?_
    | with_reducible refine DL.s_pairs1 ?_
    | with_reducible refine DL.s_newK ?_
    | with_reducible refine DL.s_sortLen ?_
    | with_reducible refine DL.s_dg (DL.dget_draws (by assumption)) ?_
    | with_reducible refine DL.s_dg (DL.dget_items (by assumption)) ?_
    | with_reducible refine DL.s_dg (DL.dget_total (by assumption)) ?_
    | with_reducible refine DL.s_some (DL.dput_draws (by assumption)) ?_
    | with_reducible refine DL.s_lcCons ?_
    | with_reducible refine DL.s_lcNil ?_
    | with_reducible refine DL.s_forMC ?_
    | with_reducible refine DL.s_forMN ?_
    | with_reducible refine DL.s_lcMC ?_
    | with_reducible refine DL.s_lcMN ?_
    | with_reducible refine DL.s_dictZip ?_
    | with_reducible refine DL.s_make ?_
    | with_reducible refine DL.s_xf ?_
    | with_reducible refine DL.s_aftNx ?_
    | with_reducible refine DL.s_aftRt ?_
    | with_reducible refine DL.s_aftNx0 ?_
    | with_reducible refine DL.s_listZip ?_
    | with_reducible refine DL.s_tcnt ?_
    | with_reducible refine DL.s_itZ ?_
    | with_reducible refine DL.s_join ?_
    | with_reducible refine DL.s_dzo ?_
    | with_reducible refine DL.s_makeK ?_
    | with_reducible refine DL.s_neg ?_
    | with_reducible refine DL.e_sortSet ?_
    | with_reducible refine DL.s_dg (DLM.dget_draws (by assumption)) ?_
    | with_reducible refine DL.s_dg (DLM.dget_cells (by assumption)) ?_
    | with_reducible refine DL.s_dg (DLM.dget_mixed (by assumption)) ?_
    | with_reducible refine DL.s_some (DLM.dput_draws (by assumption)) ?_
    | with_reducible refine DL.s_binO ?_
    | with_reducible refine DL.s_unO ?_
    | with_reducible refine DL.s_slS ?_
    | with_reducible refine DL.s_strI (by first | decide | omega) ?_
    | with_reducible refine DL.s_isN ?_
    | with_reducible refine DL.s_isiC (by decide) ?_
    | with_reducible refine DL.s_eqT ?_
    | with_reducible refine DL.s_sortTT ?_
    | with_reducible refine DL.s_ltS ?_
    | with_reducible refine DL.s_it2 ?_
    | with_reducible refine DL.s_isBo ?_
    | with_reducible refine DL.e_star ?_
    | with_reducible refine DL.e_tryN ?_
    | with_reducible refine DL.e_raise0 ?_
    | with_reducible refine DL.e_try2 ?_
    | with_reducible refine DL.e_try1 ?_
    | with_reducible refine DL.e_setLcX ?_
    | with_reducible refine DL.s_listItems ?_
    | with_reducible refine DL.s_listVals ?_
    | with_reducible refine DL.s_dictZipX ?_
    | with_reducible refine DL.s_itKeysX ?_
    | with_reducible refine DL.s_itZipStar ?_
    | with_reducible refine DL.s_itValsL ?_
    | with_reducible refine DL.s_itItemsL ?_
    | with_reducible refine DL.s_kd ?_
    | with_reducible refine DL.s_wIn ?_
    | with_reducible refine DL.s_dg (DL.tget_turn (by assumption)) ?_
    | with_reducible refine DL.s_dg (DL.tget_cells (by assumption)) ?_
    | with_reducible refine DL.s_dg (DL.tget_mix (by assumption)) ?_
    | with_reducible refine DL.s_some (DL.tput_turn (by assumption)) ?_
    | with_reducible refine DL.s_some (DL.tput_mix (by assumption)) ?_
    | with_reducible refine DL.s_dg (DL.uget_beats (by assumption)) ?_
    | with_reducible refine DL.s_dg (DL.uget_cells (by assumption)) ?_
    | with_reducible refine DL.s_dg (DL.uget_mix (by assumption)) ?_
    | with_reducible refine DL.s_some (DL.uput_beats (by assumption)) ?_
    | with_reducible refine DL.s_some (DL.uput_mix (by assumption)) ?_
    | with_reducible refine DL.s_wk ?_
    | with_reducible refine DL.s_tupK ?_
    | with_reducible refine DL.s_revK ?_
    | with_reducible refine DL.s_slK ?_
    | with_reducible refine DL.s_slKk ?_
    | with_reducible refine DL.s_nilKk ?_
    | with_reducible refine DL.s_nilKc ?_
    | with_reducible refine DL.s_nilKt ?_
    | with_reducible refine DL.s_sortSetRL ?_
    | with_reducible refine DL.s_slI ?_
    | with_reducible refine DL.s_listZipT ?_
    | with_reducible refine DL.s_dictZipS ?_
    | with_reducible refine DL.s_itEn ?_
    | with_reducible refine DL.s_defK ?_
    | with_reducible refine DL.s_dg (DL.vget_at (by assumption)) ?_
    | with_reducible refine DL.s_dg (DL.vget_cells (by assumption)) ?_
    | with_reducible refine DL.s_dg (DL.vget_sum (by assumption)) ?_
    | with_reducible refine DL.s_some (DL.vput_at (by assumption)) ?_
    | with_reducible refine DL.s_some (DL.vput_sum (by assumption)) ?_
    | with_reducible refine DL.s_dg (DL.wget_drawn (by assumption)) ?_
    | with_reducible refine DL.s_dg (DL.wget_cells (by assumption)) ?_
    | with_reducible refine DL.s_dg (DL.wget_state (by assumption)) ?_
    | with_reducible refine DL.s_some (DL.wput_drawn (by assumption)) ?_
    | with_reducible refine DL.s_some (DL.wput_state (by assumption)) ?_
    | with_reducible refine DL.e_xp ?_
    | ((with_reducible refine DL.g_var ?_); refine DL.s_var rfl ?_)
    | ((with_reducible refine DL.g_nil ?_); refine DL.s_nilC rfl ?_)
    | ((with_reducible refine DL.g_rd1 ?_); refine DL.s_rd1 rfl ?_)
    | ((with_reducible refine DL.g_ite ?_); first | refine DL.s_iteT1 rfl ?_ | refine DL.s_iteF1 rfl ?_)
    | ((with_reducible refine DL.g_bind ?_); refine DL.s_bindT rfl ?_)
    | ((with_reducible refine DL.s_lcId ?_); first | refine DL.s_lcCons ?_ | refine DL.s_lcNil ?_)
    | ((with_reducible refine DL.s_forId ?_); first | refine DL.s_forCons ?_ | refine DL.s_forNil ?_))))
local macro_rules | `(tactic| walk_at "sj") => `(tactic| (repeat (first
    | with_reducible refine DL.s_var rfl ?_
    | with_reducible refine DL.s_cons ?_
    | with_reducible refine DL.s_nil ?_
    | with_reducible refine DL.s_c ?_
    | with_reducible refine DL.s_op ?_
    | with_reducible refine DL.e_seq ?_
    | with_reducible refine DL.s_cb ?_
    | with_reducible refine DL.s_size (by rw [PySem.sizeLine_eq]; simp only [List.length_append, List.length_map, List.length_cons, List.length_nil]; omega) ?_
    | with_reducible refine DL.s_bl ?_
    | with_reducible refine DL.s_test ?_
    | with_reducible refine DL.s_bindN ?_
    | with_reducible refine DL.e_ret ?_
    | with_reducible refine DL.s_call ?_
    | with_reducible refine DL.s_fld ?_
    | with_reducible refine DL.e_asg ?_
    | with_reducible refine DL.s_lc ?_
    | with_reducible refine DL.s_tup ?_
    | with_reducible refine DL.e_next ?_
    | with_reducible refine DL.s_itL ?_
    | with_reducible refine DL.s_itLl ?_
    | with_reducible refine DL.e_for ?_
    | with_reducible refine DL.s_not ?_
    | with_reducible refine DL.e_raise ?_
    | with_reducible refine DL.e_fldPut ?_
    | with_reducible refine DL.s_addI ?_
    | with_reducible refine DL.s_mt ?_
    | with_reducible refine DL.s_itT ?_
    | with_reducible refine DL.s_iteT ?_
    | with_reducible refine DL.s_mod (by first | assumption | omega) ?_
    | with_reducible refine DL.s_mulR (by first | decide | omega) ?_
    | with_reducible refine DL.e_drop ?_
    | with_reducible refine DL.s_or ?_
    | with_reducible refine DL.s_int1 ?_
    | with_reducible refine DL.s_itTt ?_
    | with_reducible refine DL.s_lst ?_
    | with_reducible refine DL.s_lstM ?_
    | with_reducible refine DL.s_int ?_
    | with_reducible refine DL.s_it1 ?_
    | with_reducible refine DL.s_mtA (by assumption) ?_
    | with_reducible refine DL.s_itTK ?_
    | with_reducible refine DL.s_andV ?_
    | with_reducible refine DL.s_ix2 (by assumption) ?_
    | with_reducible refine DL.s_joinA ?_
    | with_reducible refine DL.s_someL (by assumption) ?_
    | with_reducible refine DL.e_dp ?_
    | with_reducible refine DL.s_ei ?_
    | with_reducible refine DL.s_sl ?_
    | with_reducible refine DL.s_noPart ?_
    | with_reducible refine DL.s_part ?_
    | with_reducible refine DL.s_div (by first | assumption | omega) ?_
    | with_reducible refine DL.s_addT (by rw [PySem.sizeLine_eq]; simp only [List.length_append, List.length_map, List.length_cons, List.length_nil]; omega) ?_
    | with_reducible refine DL.s_itTKk ?_
    | with_reducible refine DL.s_ix0 (by assumption) ?_
    | with_reducible refine DL.e_par ?_
    | with_reducible refine DL.e_forCons ?_
    | with_reducible refine DL.s_two ?_
    | with_reducible refine DL.s_and ?_
    | with_reducible refine DL.s_if ?_
    | with_reducible refine DL.s_slL1 ?_
    | with_reducible refine DL.s_slL ?_
    | with_reducible refine DL.s_iteF ?_
    | with_reducible refine DL.s_mulL (by omega) ?_
    | with_reducible refine DL.s_yes ?_
    | with_reducible refine DL.s_itTKc ?_
    | with_reducible refine DL.s_tidx ?_
    | with_reducible refine DL.s_lenSc ?_
    | with_reducible refine DL.s_sprd ?_
    | with_reducible refine DL.s_itZT ?_
    | with_reducible refine DL.s_ix1 (by assumption) ?_
    | with_reducible refine DL.e_lset ?_
    | with_reducible refine DL.e_brk ?_
    | with_reducible refine DL.s_notV ?_
    | with_reducible refine DL.s_chain ?_
    | with_reducible refine DL.s_slC ?_
    | with_reducible refine DL.s_revM ?_
    | with_reducible refine DL.s_pow (by decide) ?_
    | with_reducible refine DL.s_nilC (DL.nilR (by assumption)) ?_
    | with_reducible refine DL.s_addL (by rw [PySem.sizeLine_eq]; simp only [List.length_append, List.length_map, List.length_cons, List.length_nil]; omega) ?_
    | with_reducible refine DL.s_lc2 ?_
    | with_reducible refine DL.s_itTKt ?_
    | with_reducible refine DL.s_lenSet ?_
    | with_reducible refine DL.s_splitM ?_
    | with_reducible refine DL.s_meth ?_
    | with_reducible refine DL.s_sortSetT ?_
    | with_reducible refine DL.s_sortSc ?_
    | with_reducible refine DL.s_sortLam ?_
    | with_reducible refine DL.s_subO ?_
    | with_reducible refine DL.e_par3 ?_
    | with_reducible refine DL.s_three ?_
    | with_reducible refine DL.s_splitL ?_
    | with_reducible refine DL.s_makeQ ?_
    | with_reducible refine DL.s_sortSetR ?_
    | with_reducible refine DL.s_joinC ?_
    | with_reducible refine DL.s_put2 (by assumption) ?_
    | with_reducible refine DL.s_itEnT ?_
    | with_reducible refine DL.e_forNil ?_
    | with_reducible refine DL.e_try ?_
    | with_reducible refine DL.e_aft ?_
    | with_reducible refine DL.e_aft0 ?_
    | with_reducible refine DL.s_un ?_
    | with_reducible refine DL.s_orV ?_
    | with_reducible refine DL.s_slT0 ?_
    | with_reducible refine DL.s_slT ?_
    | with_reducible refine DL.s_rev ?_
    | with_reducible refine DL.s_disp ?_
    | with_reducible refine DL.s_pairs0 ?_
    | with_reducible refine DL.s_pairs1 ?_
    | with_reducible refine DL.s_newK ?_
    | with_reducible refine DL.s_sortLen ?_
    | with_reducible refine DL.s_dg (DL.dget_draws (by assumption)) ?_
    | with_reducible refine DL.s_dg (DL.dget_items (by assumption)) ?_
    | with_reducible refine DL.s_dg (DL.dget_total (by assumption)) ?_
    | with_reducible refine DL.s_some (DL.dput_draws (by assumption)) ?_
    | with_reducible refine DL.s_lcCons ?_
    | with_reducible refine DL.s_lcNil ?_
    | with_reducible refine DL.s_forMC ?_
    | with_reducible refine DL.s_forMN ?_
    | with_reducible refine DL.s_lcMC ?_
    | with_reducible refine DL.s_lcMN ?_
    | with_reducible refine DL.s_dictZip ?_
    | with_reducible refine DL.s_make ?_
    | with_reducible refine DL.s_xf ?_
    | with_reducible refine DL.s_aftNx ?_
    | with_reducible refine DL.s_aftRt ?_
    | with_reducible refine DL.s_aftNx0 ?_
    | with_reducible refine DL.s_listZip ?_
    | with_reducible refine DL.s_tcnt ?_
    | with_reducible refine DL.s_itZ ?_
    | with_reducible refine DL.s_join ?_
    | with_reducible refine DL.s_dzo ?_
    | with_reducible refine DL.s_makeK ?_
    | with_reducible refine DL.s_neg ?_
    | with_reducible refine DL.e_sortSet ?_
    | with_reducible refine DL.s_dg (DLM.dget_draws (by assumption)) ?_
    | with_reducible refine DL.s_dg (DLM.dget_cells (by assumption)) ?_
    | with_reducible refine DL.s_dg (DLM.dget_mixed (by assumption)) ?_
    | with_reducible refine DL.s_some (DLM.dput_draws (by assumption)) ?_
    | with_reducible refine DL.s_binO ?_
    | with_reducible refine DL.s_unO ?_
    | with_reducible refine DL.s_slS ?_
    | with_reducible refine DL.s_strI (by first | decide | omega) ?_
    | with_reducible refine DL.s_isN ?_
    | with_reducible refine DL.s_isiC (by decide) ?_
    | with_reducible refine DL.s_eqT ?_
    | with_reducible refine DL.s_sortTT ?_
    | with_reducible refine DL.s_ltS ?_
    | with_reducible refine DL.s_it2 ?_
    | with_reducible refine DL.s_isBo ?_
    | with_reducible refine DL.e_star ?_
    | with_reducible refine DL.e_tryN ?_
    | with_reducible refine DL.e_raise0 ?_
    | with_reducible refine DL.e_try2 ?_
    | with_reducible refine DL.e_try1 ?_
    | with_reducible refine DL.e_setLcX ?_
    | with_reducible refine DL.s_listItems ?_
    | with_reducible refine DL.s_listVals ?_
    | with_reducible refine DL.s_dictZipX ?_
    | with_reducible refine DL.s_itKeysX ?_
    | with_reducible refine DL.s_itZipStar ?_
    | with_reducible refine DL.s_itValsL ?_
    | with_reducible refine DL.s_itItemsL ?_
    | with_reducible refine DL.s_kd ?_
    | with_reducible refine DL.s_wIn ?_
    | with_reducible refine DL.s_dg (DL.tget_turn (by assumption)) ?_
    | with_reducible refine DL.s_dg (DL.tget_cells (by assumption)) ?_
    | with_reducible refine DL.s_dg (DL.tget_mix (by assumption)) ?_
    | with_reducible refine DL.s_some (DL.tput_turn (by assumption)) ?_
    | with_reducible refine DL.s_some (DL.tput_mix (by assumption)) ?_
    | with_reducible refine DL.s_dg (DL.uget_beats (by assumption)) ?_
    | with_reducible refine DL.s_dg (DL.uget_cells (by assumption)) ?_
    | with_reducible refine DL.s_dg (DL.uget_mix (by assumption)) ?_
    | with_reducible refine DL.s_some (DL.uput_beats (by assumption)) ?_
    | with_reducible refine DL.s_some (DL.uput_mix (by assumption)) ?_
    | with_reducible refine DL.s_wk ?_
    | with_reducible refine DL.s_tupK ?_
    | with_reducible refine DL.s_revK ?_
    | with_reducible refine DL.s_slK ?_
    | with_reducible refine DL.s_slKk ?_
    | with_reducible refine DL.s_nilKk ?_
    | with_reducible refine DL.s_nilKc ?_
    | with_reducible refine DL.s_nilKt ?_
    | with_reducible refine DL.s_sortSetRL ?_
    | with_reducible refine DL.s_slI ?_
    | with_reducible refine DL.s_listZipT ?_
    | with_reducible refine DL.s_dictZipS ?_
    | with_reducible refine DL.s_itEn ?_
    | with_reducible refine DL.s_defK ?_
    | with_reducible refine DL.s_dg (DL.vget_at (by assumption)) ?_
    | with_reducible refine DL.s_dg (DL.vget_cells (by assumption)) ?_
    | with_reducible refine DL.s_dg (DL.vget_sum (by assumption)) ?_
    | with_reducible refine DL.s_some (DL.vput_at (by assumption)) ?_
    | with_reducible refine DL.s_some (DL.vput_sum (by assumption)) ?_
    | with_reducible refine DL.s_dg (DL.wget_drawn (by assumption)) ?_
    | with_reducible refine DL.s_dg (DL.wget_cells (by assumption)) ?_
    | with_reducible refine DL.s_dg (DL.wget_state (by assumption)) ?_
    | with_reducible refine DL.s_some (DL.wput_drawn (by assumption)) ?_
    | with_reducible refine DL.s_some (DL.wput_state (by assumption)) ?_
    | with_reducible refine DL.e_xp ?_
    | ((with_reducible refine DL.g_var ?_); refine DL.s_var rfl ?_)
    | ((with_reducible refine DL.g_nil ?_); refine DL.s_nilC rfl ?_)
    | ((with_reducible refine DL.g_rd1 ?_); refine DL.s_rd1 rfl ?_)
    | ((with_reducible refine DL.g_ite ?_); first | refine DL.s_iteT1 rfl ?_ | refine DL.s_iteF1 rfl ?_)
    | ((with_reducible refine DL.g_bind ?_); refine DL.s_bindT rfl ?_)
    | ((with_reducible refine DL.s_lcId ?_); first | refine DL.s_lcCons ?_ | refine DL.s_lcNil ?_)
    | ((with_reducible refine DL.s_forId ?_); first | refine DL.s_forCons ?_ | refine DL.s_forNil ?_))))
local macro_rules | `(tactic| walk_at "sf") => `(tactic| (repeat (first
    | with_reducible refine DL.s_var rfl ?_
    | with_reducible refine DL.s_cons ?_
    | with_reducible refine DL.s_nil ?_
    | with_reducible refine DL.s_c ?_
    | with_reducible refine DL.s_op ?_
    | with_reducible refine DL.e_seq ?_
    | with_reducible refine DL.s_cb ?_
    | with_reducible refine DL.s_size (by rw [PySem.sizeLine_eq]; simp only [List.length_append, List.length_map, List.length_cons, List.length_nil]; omega) ?_
    | with_reducible refine DL.s_bl ?_
    | with_reducible refine DL.s_test ?_
    | with_reducible refine DL.s_bindN ?_
    | with_reducible refine DL.e_ret ?_
    | with_reducible refine DL.s_call ?_
    | with_reducible refine DL.s_fld ?_
    | with_reducible refine DL.e_asg ?_
    | with_reducible refine DL.s_lc ?_
    | with_reducible refine DL.s_tup ?_
    | with_reducible refine DL.e_next ?_
    | with_reducible refine DL.s_itL ?_
    | with_reducible refine DL.s_itLl ?_
    | with_reducible refine DL.e_for ?_
    | with_reducible refine DL.s_not ?_
    | with_reducible refine DL.e_raise ?_
    | with_reducible refine DL.e_fldPut ?_
    | with_reducible refine DL.s_addI ?_
    | with_reducible refine DL.s_mt ?_
    | with_reducible refine DL.s_itT ?_
    | with_reducible refine DL.s_iteT ?_
    | with_reducible refine DL.s_mod (by first | assumption | omega) ?_
    | with_reducible refine DL.s_mulR (by first | decide | omega) ?_
    | with_reducible refine DL.e_drop ?_
    | with_reducible refine DL.s_or ?_
    | with_reducible refine DL.s_int1 ?_
    | with_reducible refine DL.s_itTt ?_
    | with_reducible refine DL.s_lst ?_
    | with_reducible refine DL.s_lstM ?_
    | with_reducible refine DL.s_int ?_
    | with_reducible refine DL.s_it1 ?_
    | with_reducible refine DL.s_mtA (by assumption) ?_
    | with_reducible refine DL.s_itTK ?_
    | with_reducible refine DL.s_andV ?_
    | with_reducible refine DL.s_ix2 (by assumption) ?_
    | with_reducible refine DL.s_joinA ?_
    | with_reducible refine DL.s_someL (by assumption) ?_
    | with_reducible refine DL.e_dp ?_
    | with_reducible refine DL.s_ei ?_
    | with_reducible refine DL.s_sl ?_
    | with_reducible refine DL.s_noPart ?_
    | with_reducible refine DL.s_part ?_
    | with_reducible refine DL.s_div (by first | assumption | omega) ?_
    | with_reducible refine DL.s_addT (by rw [PySem.sizeLine_eq]; simp only [List.length_append, List.length_map, List.length_cons, List.length_nil]; omega) ?_
    | with_reducible refine DL.s_itTKk ?_
    | with_reducible refine DL.s_ix0 (by assumption) ?_
    | with_reducible refine DL.e_par ?_
    | with_reducible refine DL.s_two ?_
    | with_reducible refine DL.s_and ?_
    | with_reducible refine DL.s_if ?_
    | with_reducible refine DL.s_slL1 ?_
    | with_reducible refine DL.s_slL ?_
    | with_reducible refine DL.s_iteF ?_
    | with_reducible refine DL.s_mulL (by omega) ?_
    | with_reducible refine DL.s_yes ?_
    | with_reducible refine DL.s_itTKc ?_
    | with_reducible refine DL.s_tidx ?_
    | with_reducible refine DL.s_lenSc ?_
    | with_reducible refine DL.s_sprd ?_
    | with_reducible refine DL.s_itZT ?_
    | with_reducible refine DL.s_ix1 (by assumption) ?_
    | with_reducible refine DL.e_lset ?_
    | with_reducible refine DL.e_brk ?_
    | with_reducible refine DL.s_notV ?_
    | with_reducible refine DL.s_chain ?_
    | with_reducible refine DL.s_slC ?_
    | with_reducible refine DL.s_revM ?_
    | with_reducible refine DL.s_pow (by decide) ?_
    | with_reducible refine DL.s_nilC (DL.nilR (by assumption)) ?_
    | with_reducible refine DL.s_addL (by rw [PySem.sizeLine_eq]; simp only [List.length_append, List.length_map, List.length_cons, List.length_nil]; omega) ?_
    | with_reducible refine DL.s_lc2 ?_
    | with_reducible refine DL.s_itTKt ?_
    | with_reducible refine DL.s_lenSet ?_
    | with_reducible refine DL.s_splitM ?_
    | with_reducible refine DL.s_meth ?_
    | with_reducible refine DL.s_sortSetT ?_
    | with_reducible refine DL.s_sortSc ?_
    | with_reducible refine DL.s_sortLam ?_
    | with_reducible refine DL.s_subO ?_
    | with_reducible refine DL.e_par3 ?_
    | with_reducible refine DL.s_three ?_
    | with_reducible refine DL.s_splitL ?_
    | with_reducible refine DL.s_makeQ ?_
    | with_reducible refine DL.s_sortSetR ?_
    | with_reducible refine DL.s_joinC ?_
    | with_reducible refine DL.s_put2 (by assumption) ?_
    | with_reducible refine DL.s_itEnT ?_
    | with_reducible refine DL.e_try ?_
    | with_reducible refine DL.e_aft ?_
    | with_reducible refine DL.e_aft0 ?_
    | with_reducible refine DL.s_un ?_
    | with_reducible refine DL.s_orV ?_
    | with_reducible refine DL.s_slT0 ?_
    | with_reducible refine DL.s_slT ?_
    | with_reducible refine DL.s_rev ?_
    | with_reducible refine DL.s_disp ?_
    | with_reducible refine DL.s_pairs0 ?_
    | with_reducible refine DL.s_pairs1 ?_
    | with_reducible refine DL.s_newK ?_
    | with_reducible refine DL.s_sortLen ?_
    | with_reducible refine DL.s_dg (DL.dget_draws (by assumption)) ?_
    | with_reducible refine DL.s_dg (DL.dget_items (by assumption)) ?_
    | with_reducible refine DL.s_dg (DL.dget_total (by assumption)) ?_
    | with_reducible refine DL.s_some (DL.dput_draws (by assumption)) ?_
    | with_reducible refine DL.s_lcCons ?_
    | with_reducible refine DL.s_lcNil ?_
    | with_reducible refine DL.s_lcMC ?_
    | with_reducible refine DL.s_lcMN ?_
    | with_reducible refine DL.s_dictZip ?_
    | with_reducible refine DL.s_make ?_
    | with_reducible refine DL.s_xf ?_
    | with_reducible refine DL.s_aftNx ?_
    | with_reducible refine DL.s_aftRt ?_
    | with_reducible refine DL.s_aftNx0 ?_
    | with_reducible refine DL.s_listZip ?_
    | with_reducible refine DL.s_tcnt ?_
    | with_reducible refine DL.s_itZ ?_
    | with_reducible refine DL.s_join ?_
    | with_reducible refine DL.s_dzo ?_
    | with_reducible refine DL.s_makeK ?_
    | with_reducible refine DL.s_neg ?_
    | with_reducible refine DL.e_sortSet ?_
    | with_reducible refine DL.s_dg (DLM.dget_draws (by assumption)) ?_
    | with_reducible refine DL.s_dg (DLM.dget_cells (by assumption)) ?_
    | with_reducible refine DL.s_dg (DLM.dget_mixed (by assumption)) ?_
    | with_reducible refine DL.s_some (DLM.dput_draws (by assumption)) ?_
    | with_reducible refine DL.s_binO ?_
    | with_reducible refine DL.s_unO ?_
    | with_reducible refine DL.s_slS ?_
    | with_reducible refine DL.s_strI (by first | decide | omega) ?_
    | with_reducible refine DL.s_isN ?_
    | with_reducible refine DL.s_isiC (by decide) ?_
    | with_reducible refine DL.s_eqT ?_
    | with_reducible refine DL.s_sortTT ?_
    | with_reducible refine DL.s_ltS ?_
    | with_reducible refine DL.s_it2 ?_
    | with_reducible refine DL.s_isBo ?_
    | with_reducible refine DL.e_star ?_
    | with_reducible refine DL.e_tryN ?_
    | with_reducible refine DL.e_raise0 ?_
    | with_reducible refine DL.e_try2 ?_
    | with_reducible refine DL.e_try1 ?_
    | with_reducible refine DL.e_setLcX ?_
    | with_reducible refine DL.s_listItems ?_
    | with_reducible refine DL.s_listVals ?_
    | with_reducible refine DL.s_dictZipX ?_
    | with_reducible refine DL.s_itKeysX ?_
    | with_reducible refine DL.s_itZipStar ?_
    | with_reducible refine DL.s_itValsL ?_
    | with_reducible refine DL.s_itItemsL ?_
    | with_reducible refine DL.s_kd ?_
    | with_reducible refine DL.s_wIn ?_
    | with_reducible refine DL.s_dg (DL.tget_turn (by assumption)) ?_
    | with_reducible refine DL.s_dg (DL.tget_cells (by assumption)) ?_
    | with_reducible refine DL.s_dg (DL.tget_mix (by assumption)) ?_
    | with_reducible refine DL.s_some (DL.tput_turn (by assumption)) ?_
    | with_reducible refine DL.s_some (DL.tput_mix (by assumption)) ?_
    | with_reducible refine DL.s_dg (DL.uget_beats (by assumption)) ?_
    | with_reducible refine DL.s_dg (DL.uget_cells (by assumption)) ?_
    | with_reducible refine DL.s_dg (DL.uget_mix (by assumption)) ?_
    | with_reducible refine DL.s_some (DL.uput_beats (by assumption)) ?_
    | with_reducible refine DL.s_some (DL.uput_mix (by assumption)) ?_
    | with_reducible refine DL.s_wk ?_
    | with_reducible refine DL.s_tupK ?_
    | with_reducible refine DL.s_revK ?_
    | with_reducible refine DL.s_slK ?_
    | with_reducible refine DL.s_slKk ?_
    | with_reducible refine DL.s_nilKk ?_
    | with_reducible refine DL.s_nilKc ?_
    | with_reducible refine DL.s_nilKt ?_
    | with_reducible refine DL.s_sortSetRL ?_
    | with_reducible refine DL.s_slI ?_
    | with_reducible refine DL.s_listZipT ?_
    | with_reducible refine DL.s_dictZipS ?_
    | with_reducible refine DL.s_itEn ?_
    | with_reducible refine DL.s_defK ?_
    | with_reducible refine DL.s_dg (DL.vget_at (by assumption)) ?_
    | with_reducible refine DL.s_dg (DL.vget_cells (by assumption)) ?_
    | with_reducible refine DL.s_dg (DL.vget_sum (by assumption)) ?_
    | with_reducible refine DL.s_some (DL.vput_at (by assumption)) ?_
    | with_reducible refine DL.s_some (DL.vput_sum (by assumption)) ?_
    | with_reducible refine DL.s_dg (DL.wget_drawn (by assumption)) ?_
    | with_reducible refine DL.s_dg (DL.wget_cells (by assumption)) ?_
    | with_reducible refine DL.s_dg (DL.wget_state (by assumption)) ?_
    | with_reducible refine DL.s_some (DL.wput_drawn (by assumption)) ?_
    | with_reducible refine DL.s_some (DL.wput_state (by assumption)) ?_
    | with_reducible refine DL.e_xp ?_
    | ((with_reducible refine DL.g_var ?_); refine DL.s_var rfl ?_)
    | ((with_reducible refine DL.g_nil ?_); refine DL.s_nilC rfl ?_)
    | ((with_reducible refine DL.g_rd1 ?_); refine DL.s_rd1 rfl ?_)
    | ((with_reducible refine DL.g_ite ?_); first | refine DL.s_iteT1 rfl ?_ | refine DL.s_iteF1 rfl ?_)
    | ((with_reducible refine DL.s_lcId ?_); first | refine DL.s_lcCons ?_ | refine DL.s_lcNil ?_))))
local macro_rules | `(tactic| walk_at "se") => `(tactic| (repeat (first
    | with_reducible refine DL.s_var rfl ?_
    | with_reducible refine DL.s_cons ?_
    | with_reducible refine DL.s_nil ?_
    | with_reducible refine DL.s_c ?_
    | with_reducible refine DL.s_op ?_
    | with_reducible refine DL.e_seq ?_
    | with_reducible refine DL.s_cb ?_
    | with_reducible refine DL.s_size (by rw [PySem.sizeLine_eq]; simp only [List.length_append, List.length_map, List.length_cons, List.length_nil]; omega) ?_
    | with_reducible refine DL.s_bl ?_
    | with_reducible refine DL.s_test ?_
    | with_reducible refine DL.s_bindN ?_
    | with_reducible refine DL.e_ret ?_
    | with_reducible refine DL.s_call ?_
    | with_reducible refine DL.s_fld ?_
    | with_reducible refine DL.e_asg ?_
    | with_reducible refine DL.s_lc ?_
    | with_reducible refine DL.s_tup ?_
    | with_reducible refine DL.e_next ?_
    | with_reducible refine DL.e_ifs ?_
    | with_reducible refine DL.s_itL ?_
    | with_reducible refine DL.s_itLl ?_
    | with_reducible refine DL.e_for ?_
    | with_reducible refine DL.s_not ?_
    | with_reducible refine DL.e_raise ?_
    | with_reducible refine DL.e_fldPut ?_
    | with_reducible refine DL.s_addI ?_
    | with_reducible refine DL.s_mt ?_
    | with_reducible refine DL.s_itT ?_
    | with_reducible refine DL.s_iteT ?_
    | with_reducible refine DL.s_mod (by first | assumption | omega) ?_
    | with_reducible refine DL.s_mulR (by first | decide | omega) ?_
    | with_reducible refine DL.e_drop ?_
    | with_reducible refine DL.s_or ?_
    | with_reducible refine DL.s_int1 ?_
    | with_reducible refine DL.s_itTt ?_
    | with_reducible refine DL.s_lst ?_
    | with_reducible refine DL.s_lstM ?_
    | with_reducible refine DL.s_int ?_
    | with_reducible refine DL.s_it1 ?_
    | with_reducible refine DL.s_mtA (by assumption) ?_
    | with_reducible refine DL.s_itTK ?_
    | with_reducible refine DL.s_andV ?_
    | with_reducible refine DL.s_ix2 (by assumption) ?_
    | with_reducible refine DL.s_joinA ?_
    | with_reducible refine DL.s_someL (by assumption) ?_
    | with_reducible refine DL.e_dp ?_
    | with_reducible refine DL.s_ei ?_
    | with_reducible refine DL.s_sl ?_
    | with_reducible refine DL.s_noPart ?_
    | with_reducible refine DL.s_part ?_
    | with_reducible refine DL.s_div (by first | assumption | omega) ?_
    | with_reducible refine DL.s_addT (by rw [PySem.sizeLine_eq]; simp only [List.length_append, List.length_map, List.length_cons, List.length_nil]; omega) ?_
    | with_reducible refine DL.s_itTKk ?_
    | with_reducible refine DL.s_ix0 (by assumption) ?_
    | with_reducible refine DL.e_par ?_
    | with_reducible refine DL.e_forCons ?_
    | with_reducible refine DL.s_two ?_
    | with_reducible refine DL.s_and ?_
    | with_reducible refine DL.s_slL1 ?_
    | with_reducible refine DL.s_slL ?_
    | with_reducible refine DL.s_iteF ?_
    | with_reducible refine DL.s_mulL (by omega) ?_
    | with_reducible refine DL.s_yes ?_
    | with_reducible refine DL.s_itTKc ?_
    | with_reducible refine DL.s_tidx ?_
    | with_reducible refine DL.s_lenSc ?_
    | with_reducible refine DL.s_sprd ?_
    | with_reducible refine DL.s_itZT ?_
    | with_reducible refine DL.s_ix1 (by assumption) ?_
    | with_reducible refine DL.e_lset ?_
    | with_reducible refine DL.e_brk ?_
    | with_reducible refine DL.s_notV ?_
    | with_reducible refine DL.s_chain ?_
    | with_reducible refine DL.s_slC ?_
    | with_reducible refine DL.s_revM ?_
    | with_reducible refine DL.s_pow (by decide) ?_
    | with_reducible refine DL.s_nilC (DL.nilR (by assumption)) ?_
    | with_reducible refine DL.s_addL (by rw [PySem.sizeLine_eq]; simp only [List.length_append, List.length_map, List.length_cons, List.length_nil]; omega) ?_
    | with_reducible refine DL.s_lc2 ?_
    | with_reducible refine DL.s_itTKt ?_
    | with_reducible refine DL.s_lenSet ?_
    | with_reducible refine DL.s_splitM ?_
    | with_reducible refine DL.s_meth ?_
    | with_reducible refine DL.s_sortSetT ?_
    | with_reducible refine DL.s_sortSc ?_
    | with_reducible refine DL.s_sortLam ?_
    | with_reducible refine DL.s_subO ?_
    | with_reducible refine DL.e_par3 ?_
    | with_reducible refine DL.s_three ?_
    | with_reducible refine DL.s_splitL ?_
    | with_reducible refine DL.s_makeQ ?_
    | with_reducible refine DL.s_sortSetR ?_
    | with_reducible refine DL.s_joinC ?_
    | with_reducible refine DL.s_put2 (by assumption) ?_
    | with_reducible refine DL.s_itEnT ?_
    | with_reducible refine DL.e_forNil ?_
    | with_reducible refine DL.e_try ?_
    | with_reducible refine DL.e_aft ?_
    | with_reducible refine DL.e_aft0 ?_
    | with_reducible refine DL.s_un ?_
    | with_reducible refine DL.s_orV ?_
    | with_reducible refine DL.s_slT0 ?_
    | with_reducible refine DL.s_slT ?_
    | with_reducible refine DL.s_rev ?_
    | with_reducible refine DL.s_disp ?_
    | with_reducible refine DL.s_pairs0 ?_
    | with_reducible refine DL.s_pairs1 ?_
    | with_reducible refine DL.s_newK ?_
    | with_reducible refine DL.s_sortLen ?_
    | with_reducible refine DL.s_dg (DL.dget_draws (by assumption)) ?_
    | with_reducible refine DL.s_dg (DL.dget_items (by assumption)) ?_
    | with_reducible refine DL.s_dg (DL.dget_total (by assumption)) ?_
    | with_reducible refine DL.s_some (DL.dput_draws (by assumption)) ?_
    | with_reducible refine DL.s_lcCons ?_
    | with_reducible refine DL.s_lcNil ?_
    | with_reducible refine DL.s_forMC ?_
    | with_reducible refine DL.s_forMN ?_
    | with_reducible refine DL.s_lcMC ?_
    | with_reducible refine DL.s_lcMN ?_
    | with_reducible refine DL.s_dictZip ?_
    | with_reducible refine DL.s_make ?_
    | with_reducible refine DL.s_xf ?_
    | with_reducible refine DL.s_aftNx ?_
    | with_reducible refine DL.s_aftRt ?_
    | with_reducible refine DL.s_aftNx0 ?_
    | with_reducible refine DL.s_listZip ?_
    | with_reducible refine DL.s_tcnt ?_
    | with_reducible refine DL.s_itZ ?_
    | with_reducible refine DL.s_join ?_
    | with_reducible refine DL.s_dzo ?_
    | with_reducible refine DL.s_makeK ?_
    | with_reducible refine DL.s_neg ?_
    | with_reducible refine DL.e_sortSet ?_
    | with_reducible refine DL.s_dg (DLM.dget_draws (by assumption)) ?_
    | with_reducible refine DL.s_dg (DLM.dget_cells (by assumption)) ?_
    | with_reducible refine DL.s_dg (DLM.dget_mixed (by assumption)) ?_
    | with_reducible refine DL.s_some (DLM.dput_draws (by assumption)) ?_
    | with_reducible refine DL.s_binO ?_
    | with_reducible refine DL.s_unO ?_
    | with_reducible refine DL.s_slS ?_
    | with_reducible refine DL.s_strI (by first | decide | omega) ?_
    | with_reducible refine DL.s_isN ?_
    | with_reducible refine DL.s_isiC (by decide) ?_
    | with_reducible refine DL.s_eqT ?_
    | with_reducible refine DL.s_sortTT ?_
    | with_reducible refine DL.s_ltS ?_
    | with_reducible refine DL.s_it2 ?_
    | with_reducible refine DL.s_isBo ?_
    | with_reducible refine DL.e_star ?_
    | with_reducible refine DL.e_tryN ?_
    | with_reducible refine DL.e_raise0 ?_
    | with_reducible refine DL.e_try2 ?_
    | with_reducible refine DL.e_try1 ?_
    | with_reducible refine DL.e_setLcX ?_
    | with_reducible refine DL.s_listItems ?_
    | with_reducible refine DL.s_listVals ?_
    | with_reducible refine DL.s_dictZipX ?_
    | with_reducible refine DL.s_itKeysX ?_
    | with_reducible refine DL.s_itZipStar ?_
    | with_reducible refine DL.s_itValsL ?_
    | with_reducible refine DL.s_itItemsL ?_
    | with_reducible refine DL.s_kd ?_
    | with_reducible refine DL.s_wIn ?_
    | with_reducible refine DL.s_dg (DL.tget_turn (by assumption)) ?_
    | with_reducible refine DL.s_dg (DL.tget_cells (by assumption)) ?_
    | with_reducible refine DL.s_dg (DL.tget_mix (by assumption)) ?_
    | with_reducible refine DL.s_some (DL.tput_turn (by assumption)) ?_
    | with_reducible refine DL.s_some (DL.tput_mix (by assumption)) ?_
    | with_reducible refine DL.s_dg (DL.uget_beats (by assumption)) ?_
    | with_reducible refine DL.s_dg (DL.uget_cells (by assumption)) ?_
    | with_reducible refine DL.s_dg (DL.uget_mix (by assumption)) ?_
    | with_reducible refine DL.s_some (DL.uput_beats (by assumption)) ?_
    | with_reducible refine DL.s_some (DL.uput_mix (by assumption)) ?_
    | with_reducible refine DL.s_wk ?_
    | with_reducible refine DL.s_tupK ?_
    | with_reducible refine DL.s_revK ?_
    | with_reducible refine DL.s_slK ?_
    | with_reducible refine DL.s_slKk ?_
    | with_reducible refine DL.s_nilKk ?_
    | with_reducible refine DL.s_nilKc ?_
    | with_reducible refine DL.s_nilKt ?_
    | with_reducible refine DL.s_sortSetRL ?_
    | with_reducible refine DL.s_slI ?_
    | with_reducible refine DL.s_listZipT ?_
    | with_reducible refine DL.s_dictZipS ?_
    | with_reducible refine DL.s_itEn ?_
    | with_reducible refine DL.s_defK ?_
    | with_reducible refine DL.s_dg (DL.vget_at (by assumption)) ?_
    | with_reducible refine DL.s_dg (DL.vget_cells (by assumption)) ?_
    | with_reducible refine DL.s_dg (DL.vget_sum (by assumption)) ?_
    | with_reducible refine DL.s_some (DL.vput_at (by assumption)) ?_
    | with_reducible refine DL.s_some (DL.vput_sum (by assumption)) ?_
    | with_reducible refine DL.s_dg (DL.wget_drawn (by assumption)) ?_
    | with_reducible refine DL.s_dg (DL.wget_cells (by assumption)) ?_
    | with_reducible refine DL.s_dg (DL.wget_state (by assumption)) ?_
    | with_reducible refine DL.s_some (DL.wput_drawn (by assumption)) ?_
    | with_reducible refine DL.s_some (DL.wput_state (by assumption)) ?_
    | with_reducible refine DL.e_xp ?_
    | ((with_reducible refine DL.g_var ?_); refine DL.s_var rfl ?_)
    | ((with_reducible refine DL.g_nil ?_); refine DL.s_nilC rfl ?_)
    | ((with_reducible refine DL.g_rd1 ?_); refine DL.s_rd1 rfl ?_)
    | ((with_reducible refine DL.g_ite ?_); first | refine DL.s_iteT1 rfl ?_ | refine DL.s_iteF1 rfl ?_)
    | ((with_reducible refine DL.g_bind ?_); refine DL.s_bindT rfl ?_)
    | ((with_reducible refine DL.s_lcId ?_); first | refine DL.s_lcCons ?_ | refine DL.s_lcNil ?_)
    | ((with_reducible refine DL.s_forId ?_); first | refine DL.s_forCons ?_ | refine DL.s_forNil ?_))))
namespace K30
open PySem PySem.Spec L2 DL
def top (i : Nat) : Stmt := PySem.Challenge.pw_clashnumber_k30_votes_called.main.body.getD i (.Pass ⟨0, 0, 0, 0⟩)
def inC (s : Stmt) (i : Nat) : Stmt := match s with
  | .ClassDef _ _ _ b _ _ _ _ _ _ _ => b.getD i (.Pass ⟨0, 0, 0, 0⟩)
  | _ => s
abbrev sIsInteger : Stmt := top 8
abbrev sIsName : Stmt := top 9
abbrev sIsDomain : Stmt := top 10
abbrev sAllRows : Stmt := top 11
abbrev sIsRow : Stmt := top 12
abbrev sNearValue : Stmt := top 15
abbrev sLDeck : Stmt := top 18
abbrev sLDraw : Stmt := top 19
abbrev sLPick : Stmt := top 20
abbrev sLNames : Stmt := top 21
abbrev sLPoints : Stmt := top 22
abbrev sLDrawn : Stmt := top 23
abbrev sLMiddle : Stmt := top 24
abbrev sLCalled : Stmt := top 25
abbrev sLDueCall : Stmt := top 26
abbrev sLOddCall : Stmt := top 27
abbrev sLVoted : Stmt := top 28
abbrev sLRowsRight : Stmt := top 29
abbrev sLaw : Stmt := top 30
abbrev sVote_init : Stmt := inC (top 16) 0
abbrev sVote_eq : Stmt := inC (top 16) 1
abbrev sVote_call : Stmt := inC (top 16) 2
abbrev sVote_rows_voted : Stmt := inC (top 16) 3
abbrev sVote_middle : Stmt := inC (top 16) 7
@[elab_as_elim] theorem us1 {p : List Value → Prop} (us : List Value) (hl : us.length = 1) (h : ∀ a, p [a]) : p us := match us, hl with | [a], _ => h a
@[elab_as_elim] theorem us2 {p : List Value → Prop} (us : List Value) (hl : us.length = 2) (h : ∀ a b, p [a, b]) : p us := match us, hl with | [a, b], _ => h a b
@[elab_as_elim] theorem us3 {p : List Value → Prop} (us : List Value) (hl : us.length = 3) (h : ∀ a b c, p [a, b, c]) : p us := match us, hl with | [a, b, c], _ => h a b c
@[elab_as_elim] theorem us4 {p : List Value → Prop} (us : List Value) (hl : us.length = 4) (h : ∀ a b c d, p [a, b, c, d]) : p us := match us, hl with | [a, b, c, d], _ => h a b c d
@[elab_as_elim] theorem us5 {p : List Value → Prop} (us : List Value) (hl : us.length = 5) (h : ∀ a b c d e, p [a, b, c, d, e]) : p us := match us, hl with | [a, b, c, d, e], _ => h a b c d e
@[elab_as_elim] theorem star1 {p : List Value → List Value → Prop} (us rest : List Value) (hu : us.length = 1) (hr : rest.length ≤ 5) (h0 : ∀ x, p [x] []) (h1 : ∀ x a, p [x] [a]) (h2 : ∀ x a b, p [x] [a, b]) (h3 : ∀ x a b c, p [x] [a, b, c]) (h4 : ∀ x a b c d, p [x] [a, b, c, d]) (h5 : ∀ x a b c d e, p [x] [a, b, c, d, e]) : p us rest :=
  us1 us hu fun x => by
    rcases rest with _ | ⟨a, _ | ⟨b, _ | ⟨c, _ | ⟨d, _ | ⟨e, _ | ⟨f, r⟩⟩⟩⟩⟩⟩
    · exact h0 x
    · exact h1 x a
    · exact h2 x a b
    · exact h3 x a b c
    · exact h4 x a b c d
    · exact h5 x a b c d e
    · simp only [List.length_cons] at hr; omega
set_option genInjectivity false in
set_option genSizeOf false in
structure Facts (P : Program) (K : PySem.W.Frag) (mg : Str → Option Value) : Type where
  bis : Bis mg
  no_any : mg "any" = none
  no_min : mg "min" = none
  no_max : mg "max" = none
  g_LETTERS : ∃ t, mg "LETTERS" = some (.str "abcdefghijklmnopqrstuvwxyz" t)
  g_LONGEST_NAME : ∃ t, mg "LONGEST_NAME" = some (.int 8 t)
  g_MOST_VALUES : ∃ t, mg "MOST_VALUES" = some (.int 3 t)
  n_ClashnumberError : EX0 K mg "ClashnumberError"
  NoVote : EF P K mg "NoVote" "word"
  Vote : CF K mg "Vote"
  Vote_init : MF K Vote.C "__init__" "Vote.__init__" sVote_init ["self", "domain", "count", "results"]
  Vote_eq : MF K Vote.C "__eq__" "Vote.__eq__" sVote_eq ["self", "other"]
  Vote_call : MF K Vote.C "__call__" "Vote.__call__" sVote_call ["self", "some"]
  Vote_rows_voted : MFS K Vote.C "rows_voted" "Vote.rows_voted" sVote_rows_voted
  Vote_middle : CMF K Vote.C "middle" "Vote.middle" sVote_middle ["cls", "domain"]
  Vote_mk : Mk K Vote.C Vote_init.f
  Vote_callO : StX.CallO K Vote.C Vote_call.f
  Vote_own : OwnEq K Vote.C Vote_eq.f
  Vote_ty : ClsTy K Vote.C
  Vote_ov : ClsV K Vote.C
  Vote_ns : NoSub K Vote.C
  Vote_kt : NoKit K Vote.C
  Vote_no_domain : NoAttr K Vote.C "domain"
  Vote_no_count : NoAttr K Vote.C "count"
  Vote_no_results : NoAttr K Vote.C "results"
  Vote_no_by_values : NoAttr K Vote.C "by_values"
  is_integer : DF K mg "is_integer" sIsInteger ["thing"]
  is_name : DF K mg "is_name" sIsName ["thing"]
  is_domain : DF K mg "is_domain" sIsDomain ["thing"]
  all_rows : DF K mg "all_rows" sAllRows ["domain", "width"]
  is_row : DF K mg "is_row" sIsRow ["domain", "width", "thing"]
  near_value : DF K mg "near_value" sNearValue ["some"]
  _law_deck : DF K mg "_law_deck" sLDeck ["_law_script"]
  _law_draw : DF K mg "_law_draw" sLDraw ["_law_deck_here", "_law_many"]
  _law_pick : DF K mg "_law_pick" sLPick ["_law_deck_here", "_law_options"]
  _law_names : DF K mg "_law_names" sLNames ["_law_deck_here", "_law_many"]
  _law_points : DF K mg "_law_points" sLPoints ["_law_base", "_law_count"]
  _law_drawn : DF K mg "_law_drawn" sLDrawn ["_law_deck_here", "_law_base", "_law_count"]
  _law_middle : DF K mg "_law_middle" sLMiddle ["_law_base"]
  _law_called : DF K mg "_law_called" sLCalled ["_law_vote", "_law_group"]
  _law_due_call : DF K mg "_law_due_call" sLDueCall ["_law_base", "_law_count", "_law_table", "_law_group"]
  _law_odd_call : DF K mg "_law_odd_call" sLOddCall ["_law_deck_here", "_law_base", "_law_count"]
  _law_voted : DF K mg "_law_voted" sLVoted ["_law_vote", "_law_rows"]
  _law_rows_right : DF K mg "_law_rows_right" sLRowsRight ["_law_deck_here", "_law_base", "_law_count", "_law_table", "_law_vote"]
  law : DF K mg "law" sLaw ["_law_script"]
def facts_mk {P : Program} {K : PySem.W.Frag} {h : Heap} {mg : Str → Option Value} {t_LETTERS : Tok}
    {t_LONGEST_NAME : Tok}
    {t_MOST_VALUES : Tok}
    {e2C : Addr}
    {e3C : Addr}
    {e3nm e3q : Str}
    {e3N e3fI e3cda e3cc : Addr}
    {e3bs e3bm e3sub : List Value}
    {e3sn : List Str}
    {e3ab : Bool}
    {e3col : Option Bool}
    {e3dd e3od e3an e3cld e3ccd : Option Addr}
    {e3m0 e3m1 e3m2 e3m3 e3m5 : Option Value}
    {e3oc e3kV e3dc e3pm e3ct e3cl e3ccl : Value}
    {e3sl e3csl e3ccs : Array (Option Value)}
    {e3vs : Array Value}
    {e3file : Str}
    {e3tf : Tok}
    {c16C : Addr}
    {c16mc : Value}
    {c16m0f : Addr}
    {c16m0oc c16m0kV c16m0dc c16m0pm c16m0cd c16m0ct : Value}
    {c16m0od c16m0an : Option Addr}
    {c16m0sl : Array (Option Value)}
    {c16m1f : Addr}
    {c16m1oc c16m1kV c16m1dc c16m1pm c16m1cd c16m1ct : Value}
    {c16m1od c16m1an : Option Addr}
    {c16m1sl : Array (Option Value)}
    {c16m2f : Addr}
    {c16m2oc c16m2kV c16m2dc c16m2pm c16m2cd c16m2ct : Value}
    {c16m2od c16m2an : Option Addr}
    {c16m2sl : Array (Option Value)}
    {c16m3f : Addr}
    {c16m3oc c16m3kV c16m3dc c16m3pm c16m3cd c16m3ct : Value}
    {c16m3od c16m3an : Option Addr}
    {c16m3sl : Array (Option Value)}
    {c16m7p : Addr}
    {c16m7rest : List Value}
    {c16m7f : Addr}
    {c16m7oc c16m7kV c16m7dc c16m7pm c16m7cd c16m7ct : Value}
    {c16m7od c16m7an : Option Addr}
    {c16m7sl : Array (Option Value)}
    {d8f : Addr}
    {d8oc d8kV d8dc d8pm d8cd d8ct : Value}
    {d8od d8an : Option Addr}
    {d8sl : Array (Option Value)}
    {d9f : Addr}
    {d9oc d9kV d9dc d9pm d9cd d9ct : Value}
    {d9od d9an : Option Addr}
    {d9sl : Array (Option Value)}
    {d10f : Addr}
    {d10oc d10kV d10dc d10pm d10cd d10ct : Value}
    {d10od d10an : Option Addr}
    {d10sl : Array (Option Value)}
    {d11f : Addr}
    {d11oc d11kV d11dc d11pm d11cd d11ct : Value}
    {d11od d11an : Option Addr}
    {d11sl : Array (Option Value)}
    {d12f : Addr}
    {d12oc d12kV d12dc d12pm d12cd d12ct : Value}
    {d12od d12an : Option Addr}
    {d12sl : Array (Option Value)}
    {d15f : Addr}
    {d15oc d15kV d15dc d15pm d15cd d15ct : Value}
    {d15od d15an : Option Addr}
    {d15sl : Array (Option Value)}
    {d18f : Addr}
    {d18oc d18kV d18dc d18pm d18cd d18ct : Value}
    {d18od d18an : Option Addr}
    {d18sl : Array (Option Value)}
    {d19f : Addr}
    {d19oc d19kV d19dc d19pm d19cd d19ct : Value}
    {d19od d19an : Option Addr}
    {d19sl : Array (Option Value)}
    {d20f : Addr}
    {d20oc d20kV d20dc d20pm d20cd d20ct : Value}
    {d20od d20an : Option Addr}
    {d20sl : Array (Option Value)}
    {d21f : Addr}
    {d21oc d21kV d21dc d21pm d21cd d21ct : Value}
    {d21od d21an : Option Addr}
    {d21sl : Array (Option Value)}
    {d22f : Addr}
    {d22oc d22kV d22dc d22pm d22cd d22ct : Value}
    {d22od d22an : Option Addr}
    {d22sl : Array (Option Value)}
    {d23f : Addr}
    {d23oc d23kV d23dc d23pm d23cd d23ct : Value}
    {d23od d23an : Option Addr}
    {d23sl : Array (Option Value)}
    {d24f : Addr}
    {d24oc d24kV d24dc d24pm d24cd d24ct : Value}
    {d24od d24an : Option Addr}
    {d24sl : Array (Option Value)}
    {d25f : Addr}
    {d25oc d25kV d25dc d25pm d25cd d25ct : Value}
    {d25od d25an : Option Addr}
    {d25sl : Array (Option Value)}
    {d26f : Addr}
    {d26oc d26kV d26dc d26pm d26cd d26ct : Value}
    {d26od d26an : Option Addr}
    {d26sl : Array (Option Value)}
    {d27f : Addr}
    {d27oc d27kV d27dc d27pm d27cd d27ct : Value}
    {d27od d27an : Option Addr}
    {d27sl : Array (Option Value)}
    {d28f : Addr}
    {d28oc d28kV d28dc d28pm d28cd d28ct : Value}
    {d28od d28an : Option Addr}
    {d28sl : Array (Option Value)}
    {d29f : Addr}
    {d29oc d29kV d29dc d29pm d29cd d29ct : Value}
    {d29od d29an : Option Addr}
    {d29sl : Array (Option Value)}
    {d30f : Addr}
    {d30oc d30kV d30dc d30pm d30cd d30ct : Value}
    {d30od d30an : Option Addr}
    {d30sl : Array (Option Value)}
    (X : K.In h) (G : h.Ns mainGlobals mg)
    (z1 : PySem.W.nsIn K mainGlobals "len" = some none)
    (z2 : PySem.W.nsIn K mainGlobals "isinstance" = some none)
    (z3 : PySem.W.nsIn K mainGlobals "all" = some none)
    (z4 : PySem.W.nsIn K mainGlobals "tuple" = some none)
    (z5 : PySem.W.nsIn K mainGlobals "list" = some none)
    (z6 : PySem.W.nsIn K mainGlobals "dict" = some none)
    (z7 : PySem.W.nsIn K mainGlobals "set" = some none)
    (z8 : PySem.W.nsIn K mainGlobals "sorted" = some none)
    (z9 : PySem.W.nsIn K mainGlobals "int" = some none)
    (z10 : PySem.W.nsIn K mainGlobals "str" = some none)
    (z11 : PySem.W.nsIn K mainGlobals "bool" = some none)
    (z12 : PySem.W.nsIn K mainGlobals "repr" = some none)
    (z13 : PySem.W.nsIn K mainGlobals "range" = some none)
    (z14 : PySem.W.nsIn K mainGlobals "zip" = some none)
    (z15 : PySem.W.nsIn K mainGlobals "super" = some none)
    (z16 : PySem.W.nsIn K mainGlobals "any" = some none)
    (z17 : PySem.W.nsIn K mainGlobals "min" = some none)
    (z18 : PySem.W.nsIn K mainGlobals "max" = some none)
    (z19 : PySem.W.nsIn K mainGlobals "LETTERS" = some (some (.str "abcdefghijklmnopqrstuvwxyz" t_LETTERS)))
    (z20 : PySem.W.nsIn K mainGlobals "LONGEST_NAME" = some (some (.int 8 t_LONGEST_NAME)))
    (z21 : PySem.W.nsIn K mainGlobals "MOST_VALUES" = some (some (.int 3 t_MOST_VALUES)))
    (z22 : PySem.W.nsIn K mainGlobals "ClashnumberError" = some (some (.ref e2C)))
    (z23 : PySem.W.excIn K e2C exBm "Exception.__new__" = true)
    (z24 : PySem.W.keepIn K (.ref e2C) = true)
    (z25 : PySem.W.subIn K (.ref e2C) (.type "BaseException") = some true)
    (z26 : PySem.W.typeIn K (.ref e2C) = some (.type "type"))
    (z27 : PySem.W.nsIn K mainGlobals "NoVote" = some (some (.ref e3C)))
    (z28 : PySem.W.findIn K (.ref e3C) "__init__" = some (some (.ref e3fI)))
    (z29 : K.lookup e3C = some (excClassObj e3nm e3q e3C e3N e3bs e3bm true e3sn e3sub e3ab e3col e3dd e3m0 e3m1 e3m2 e3m3 e3m5 "Exception.__new__"))
    (z30 : PySem.W.excTail exBm e3bm = true)
    (z31 : PySem.W.findIn K (.ref e3C) "__setattr__" = some (some (.builtin "object.__setattr__")))
    (z32 : PySem.W.subIn K (.ref e3C) (.type "BaseException") = some true)
    (z33 : PySem.W.subIn K (.ref e3C) (.type "Exception") = some true)
    (z34 : PySem.W.typeIn K (.ref e3C) = some (.type "type"))
    (z35 : PySem.W.keepIn K (.ref e3C) = true)
    (z36 : PySem.W.typeIn K (.ref e3fI) = some (.type "function"))
    (z37 : PySem.W.findIn K (.ref e3C) "word" = some none)
    (z38 : K.lookup e3fI = some ⟨e3oc, e3od, .func (PySem.W.ksFn "__init__" "NoVote.__init__" (xiArgs "word" ⟨9, 17, 9, 21⟩ ⟨9, 23, 9, 27⟩) (xiBody "word" "the values are no vote" ⟨10, 8, 10, 13⟩ ⟨10, 8, 10, 15⟩ ⟨10, 8, 10, 24⟩ ⟨10, 25, 10, 49⟩ ⟨10, 8, 10, 50⟩ ⟨10, 8, 10, 50⟩ ⟨11, 8, 11, 12⟩ ⟨11, 8, 11, 17⟩ ⟨11, 20, 11, 24⟩ ⟨11, 8, 11, 24⟩) (xiScope "word") .none e3kV e3dc e3pm e3an (.ref e3cda) e3ct e3cc), e3sl⟩)
    (z39 : PySem.W.codeIn K (.ref e3cda) "NoVote.__init__" = true)
    (z40 : K.lookup e3cc = some ⟨e3cl, e3cld, .cell (some (.ref e3C)), e3csl⟩)
    (z41 : K.lookup e3cda = some ⟨e3ccl, e3ccd, .fields e3vs, e3ccs⟩)
    (z42 : e3vs[2]? = some (.str e3file e3tf))
    (z43 : ((P.main.file : Str) == e3file) = true)
    (z44 : PySem.W.ks_superIn K e3C e3C "__init__" = some (some (.builtin "Exception.__init__")))
    (z45 : PySem.W.nsIn K cStatics "thirdparty.any" = some none)
    (z46 : (P.main.scope.names.lookup ("super" : Str)).isSome = false)
    (z47 : PySem.W.findIn K (.ref e3C) "__getattribute__" = some (some (.builtin "BaseException.__getattribute__")))
    (z48 : PySem.W.findIn K (.ref e3C) "__getattr__" = some none)
    (z49 : PySem.W.hasDictIn K e3C = true)
    (z50 : PySem.W.isClsIn K e3C = true)
    (z51 : PySem.W.subIn K (.ref e3C) (.ref e3C) = some true)
    (z52 : PySem.W.nsIn K mainGlobals "Vote" = some (some (.ref c16C)))
    (z53 : PySem.W.keepIn K (.ref c16C) = true)
    (z54 : PySem.W.plainGet K c16C Str.empty = true)
    (z55 : PySem.W.hasDictIn K c16C = true)
    (z56 : PySem.W.plainOver K c16C = true)
    (z57 : PySem.W.findIn K (.ref c16C) "__setattr__" = some (some (.builtin "object.__setattr__")))
    (z58 : PySem.W.findIn K (.ref c16C) "__init__" = some (some (.ref c16m0f)))
    (z59 : PySem.W.isFn K (.ref c16m0f) = true)
    (z60 : K.lookup c16m0f = some ⟨c16m0oc, c16m0od, .func (PySem.W.fnOf "__init__" "Vote.__init__" (defArgs sVote_init) (defBody sVote_init) (defScope sVote_init) .none c16m0kV c16m0dc c16m0pm c16m0an c16m0cd c16m0ct), c16m0sl⟩)
    (z61 : PySem.W.codeIn K c16m0cd "Vote.__init__" = true)
    (z62 : PySem.W.keepIn K (.ref c16m0f) = true)
    (z63 : PySem.W.findIn K (.ref c16C) "__eq__" = some (some (.ref c16m1f)))
    (z64 : PySem.W.isFn K (.ref c16m1f) = true)
    (z65 : K.lookup c16m1f = some ⟨c16m1oc, c16m1od, .func (PySem.W.fnOf "__eq__" "Vote.__eq__" (defArgs sVote_eq) (defBody sVote_eq) (defScope sVote_eq) .none c16m1kV c16m1dc c16m1pm c16m1an c16m1cd c16m1ct), c16m1sl⟩)
    (z66 : PySem.W.codeIn K c16m1cd "Vote.__eq__" = true)
    (z67 : PySem.W.keepIn K (.ref c16m1f) = true)
    (z68 : PySem.W.findIn K (.ref c16C) "__call__" = some (some (.ref c16m2f)))
    (z69 : PySem.W.isFn K (.ref c16m2f) = true)
    (z70 : K.lookup c16m2f = some ⟨c16m2oc, c16m2od, .func (PySem.W.fnOf "__call__" "Vote.__call__" (defArgs sVote_call) (defBody sVote_call) (defScope sVote_call) .none c16m2kV c16m2dc c16m2pm c16m2an c16m2cd c16m2ct), c16m2sl⟩)
    (z71 : PySem.W.codeIn K c16m2cd "Vote.__call__" = true)
    (z72 : PySem.W.keepIn K (.ref c16m2f) = true)
    (z73 : PySem.W.findIn K (.ref c16C) "rows_voted" = some (some (.ref c16m3f)))
    (z74 : PySem.W.isFn K (.ref c16m3f) = true)
    (z75 : K.lookup c16m3f = some ⟨c16m3oc, c16m3od, .func (PySem.W.fnOf "rows_voted" "Vote.rows_voted" (defArgs sVote_rows_voted) (defBody sVote_rows_voted) (defScope sVote_rows_voted) .none c16m3kV c16m3dc c16m3pm c16m3an c16m3cd c16m3ct), c16m3sl⟩)
    (z76 : PySem.W.codeIn K c16m3cd "Vote.rows_voted" = true)
    (z77 : PySem.W.keepIn K (.ref c16m3f) = true)
    (z78 : PySem.W.typeIn K (.ref c16C) = some c16mc)
    (z79 : PySem.W.readsIn K c16C c16mc = true)
    (z80 : PySem.W.specialIn K (.ref c16C) "__getattribute__" = some (some (.builtin "type.__getattribute__")))
    (z81 : PySem.W.findCls K (.ref c16C) c16mc "middle" = some (.get (.builtin "classmethod.__get__") (.ref c16m7p) .none (.ref c16C)))
    (z82 : PySem.W.recIn K c16m7p "classmethod" = some (.ref c16m7f :: c16m7rest))
    (z83 : PySem.W.fnIn K c16m7f = true)
    (z84 : K.lookup c16m7f = some ⟨c16m7oc, c16m7od, .func (PySem.W.fnOf "middle" "Vote.middle" (defArgs sVote_middle) (defBody sVote_middle) (defScope sVote_middle) .none c16m7kV c16m7dc c16m7pm c16m7an c16m7cd c16m7ct), c16m7sl⟩)
    (z85 : PySem.W.codeIn K c16m7cd "Vote.middle" = true)
    (z86 : PySem.W.keepIn K (.ref c16m7f) = true)
    (z87 : PySem.W.mroIn K c16C (.type "object") = some true)
    (z88 : PySem.W.makesIn K c16C = true)
    (z89 : PySem.W.fnIn K c16m2f = true)
    (z90 : PySem.W.findIn K (.ref c16C) "__ne__" = some (some (.builtin "object.__ne__")))
    (z91 : PySem.W.findIn K (.ref c16C) "__class__" = some (some (.builtin "object.__class__")))
    (z92 : PySem.W.specialIn K (.builtin "object.__class__") "__get__" = some (some (.builtin "getset_descriptor.__get__")))
    (z93 : PySem.W.takesIn K (.builtin "object.__class__") = some true)
    (z94 : ((["bool", "int", "str", "tuple", "list", "dict"] : List String).all fun n => decide (PySem.W.kitOne K (.ref c16C) (.type n) = some false)) = true)
    (z95 : NoSub K c16C)
    (z96 : NoKit K c16C)
    (z97 : PySem.W.findIn K (.ref c16C) "domain" = some none)
    (z98 : PySem.W.findIn K (.ref c16C) "count" = some none)
    (z99 : PySem.W.findIn K (.ref c16C) "results" = some none)
    (z100 : PySem.W.findIn K (.ref c16C) "by_values" = some none)
    (z101 : PySem.W.nsIn K mainGlobals "is_integer" = some (some (.ref d8f)))
    (z102 : K.lookup d8f = some ⟨d8oc, d8od, .func (PySem.W.fnOf "is_integer" "is_integer" (defArgs sIsInteger) (defBody sIsInteger) (defScope sIsInteger) .none d8kV d8dc d8pm d8an d8cd d8ct), d8sl⟩)
    (z103 : PySem.W.codeIn K d8cd "is_integer" = true)
    (z104 : PySem.W.keepIn K (.ref d8f) = true)
    (z105 : PySem.W.nsIn K mainGlobals "is_name" = some (some (.ref d9f)))
    (z106 : K.lookup d9f = some ⟨d9oc, d9od, .func (PySem.W.fnOf "is_name" "is_name" (defArgs sIsName) (defBody sIsName) (defScope sIsName) .none d9kV d9dc d9pm d9an d9cd d9ct), d9sl⟩)
    (z107 : PySem.W.codeIn K d9cd "is_name" = true)
    (z108 : PySem.W.keepIn K (.ref d9f) = true)
    (z109 : PySem.W.nsIn K mainGlobals "is_domain" = some (some (.ref d10f)))
    (z110 : K.lookup d10f = some ⟨d10oc, d10od, .func (PySem.W.fnOf "is_domain" "is_domain" (defArgs sIsDomain) (defBody sIsDomain) (defScope sIsDomain) .none d10kV d10dc d10pm d10an d10cd d10ct), d10sl⟩)
    (z111 : PySem.W.codeIn K d10cd "is_domain" = true)
    (z112 : PySem.W.keepIn K (.ref d10f) = true)
    (z113 : PySem.W.nsIn K mainGlobals "all_rows" = some (some (.ref d11f)))
    (z114 : K.lookup d11f = some ⟨d11oc, d11od, .func (PySem.W.fnOf "all_rows" "all_rows" (defArgs sAllRows) (defBody sAllRows) (defScope sAllRows) .none d11kV d11dc d11pm d11an d11cd d11ct), d11sl⟩)
    (z115 : PySem.W.codeIn K d11cd "all_rows" = true)
    (z116 : PySem.W.keepIn K (.ref d11f) = true)
    (z117 : PySem.W.nsIn K mainGlobals "is_row" = some (some (.ref d12f)))
    (z118 : K.lookup d12f = some ⟨d12oc, d12od, .func (PySem.W.fnOf "is_row" "is_row" (defArgs sIsRow) (defBody sIsRow) (defScope sIsRow) .none d12kV d12dc d12pm d12an d12cd d12ct), d12sl⟩)
    (z119 : PySem.W.codeIn K d12cd "is_row" = true)
    (z120 : PySem.W.keepIn K (.ref d12f) = true)
    (z121 : PySem.W.nsIn K mainGlobals "near_value" = some (some (.ref d15f)))
    (z122 : K.lookup d15f = some ⟨d15oc, d15od, .func (PySem.W.fnOf "near_value" "near_value" (defArgs sNearValue) (defBody sNearValue) (defScope sNearValue) .none d15kV d15dc d15pm d15an d15cd d15ct), d15sl⟩)
    (z123 : PySem.W.codeIn K d15cd "near_value" = true)
    (z124 : PySem.W.keepIn K (.ref d15f) = true)
    (z125 : PySem.W.nsIn K mainGlobals "_law_deck" = some (some (.ref d18f)))
    (z126 : K.lookup d18f = some ⟨d18oc, d18od, .func (PySem.W.fnOf "_law_deck" "_law_deck" (defArgs sLDeck) (defBody sLDeck) (defScope sLDeck) .none d18kV d18dc d18pm d18an d18cd d18ct), d18sl⟩)
    (z127 : PySem.W.codeIn K d18cd "_law_deck" = true)
    (z128 : PySem.W.keepIn K (.ref d18f) = true)
    (z129 : PySem.W.nsIn K mainGlobals "_law_draw" = some (some (.ref d19f)))
    (z130 : K.lookup d19f = some ⟨d19oc, d19od, .func (PySem.W.fnOf "_law_draw" "_law_draw" (defArgs sLDraw) (defBody sLDraw) (defScope sLDraw) .none d19kV d19dc d19pm d19an d19cd d19ct), d19sl⟩)
    (z131 : PySem.W.codeIn K d19cd "_law_draw" = true)
    (z132 : PySem.W.keepIn K (.ref d19f) = true)
    (z133 : PySem.W.nsIn K mainGlobals "_law_pick" = some (some (.ref d20f)))
    (z134 : K.lookup d20f = some ⟨d20oc, d20od, .func (PySem.W.fnOf "_law_pick" "_law_pick" (defArgs sLPick) (defBody sLPick) (defScope sLPick) .none d20kV d20dc d20pm d20an d20cd d20ct), d20sl⟩)
    (z135 : PySem.W.codeIn K d20cd "_law_pick" = true)
    (z136 : PySem.W.keepIn K (.ref d20f) = true)
    (z137 : PySem.W.nsIn K mainGlobals "_law_names" = some (some (.ref d21f)))
    (z138 : K.lookup d21f = some ⟨d21oc, d21od, .func (PySem.W.fnOf "_law_names" "_law_names" (defArgs sLNames) (defBody sLNames) (defScope sLNames) .none d21kV d21dc d21pm d21an d21cd d21ct), d21sl⟩)
    (z139 : PySem.W.codeIn K d21cd "_law_names" = true)
    (z140 : PySem.W.keepIn K (.ref d21f) = true)
    (z141 : PySem.W.nsIn K mainGlobals "_law_points" = some (some (.ref d22f)))
    (z142 : K.lookup d22f = some ⟨d22oc, d22od, .func (PySem.W.fnOf "_law_points" "_law_points" (defArgs sLPoints) (defBody sLPoints) (defScope sLPoints) .none d22kV d22dc d22pm d22an d22cd d22ct), d22sl⟩)
    (z143 : PySem.W.codeIn K d22cd "_law_points" = true)
    (z144 : PySem.W.keepIn K (.ref d22f) = true)
    (z145 : PySem.W.nsIn K mainGlobals "_law_drawn" = some (some (.ref d23f)))
    (z146 : K.lookup d23f = some ⟨d23oc, d23od, .func (PySem.W.fnOf "_law_drawn" "_law_drawn" (defArgs sLDrawn) (defBody sLDrawn) (defScope sLDrawn) .none d23kV d23dc d23pm d23an d23cd d23ct), d23sl⟩)
    (z147 : PySem.W.codeIn K d23cd "_law_drawn" = true)
    (z148 : PySem.W.keepIn K (.ref d23f) = true)
    (z149 : PySem.W.nsIn K mainGlobals "_law_middle" = some (some (.ref d24f)))
    (z150 : K.lookup d24f = some ⟨d24oc, d24od, .func (PySem.W.fnOf "_law_middle" "_law_middle" (defArgs sLMiddle) (defBody sLMiddle) (defScope sLMiddle) .none d24kV d24dc d24pm d24an d24cd d24ct), d24sl⟩)
    (z151 : PySem.W.codeIn K d24cd "_law_middle" = true)
    (z152 : PySem.W.keepIn K (.ref d24f) = true)
    (z153 : PySem.W.nsIn K mainGlobals "_law_called" = some (some (.ref d25f)))
    (z154 : K.lookup d25f = some ⟨d25oc, d25od, .func (PySem.W.fnOf "_law_called" "_law_called" (defArgs sLCalled) (defBody sLCalled) (defScope sLCalled) .none d25kV d25dc d25pm d25an d25cd d25ct), d25sl⟩)
    (z155 : PySem.W.codeIn K d25cd "_law_called" = true)
    (z156 : PySem.W.keepIn K (.ref d25f) = true)
    (z157 : PySem.W.nsIn K mainGlobals "_law_due_call" = some (some (.ref d26f)))
    (z158 : K.lookup d26f = some ⟨d26oc, d26od, .func (PySem.W.fnOf "_law_due_call" "_law_due_call" (defArgs sLDueCall) (defBody sLDueCall) (defScope sLDueCall) .none d26kV d26dc d26pm d26an d26cd d26ct), d26sl⟩)
    (z159 : PySem.W.codeIn K d26cd "_law_due_call" = true)
    (z160 : PySem.W.keepIn K (.ref d26f) = true)
    (z161 : PySem.W.nsIn K mainGlobals "_law_odd_call" = some (some (.ref d27f)))
    (z162 : K.lookup d27f = some ⟨d27oc, d27od, .func (PySem.W.fnOf "_law_odd_call" "_law_odd_call" (defArgs sLOddCall) (defBody sLOddCall) (defScope sLOddCall) .none d27kV d27dc d27pm d27an d27cd d27ct), d27sl⟩)
    (z163 : PySem.W.codeIn K d27cd "_law_odd_call" = true)
    (z164 : PySem.W.keepIn K (.ref d27f) = true)
    (z165 : PySem.W.nsIn K mainGlobals "_law_voted" = some (some (.ref d28f)))
    (z166 : K.lookup d28f = some ⟨d28oc, d28od, .func (PySem.W.fnOf "_law_voted" "_law_voted" (defArgs sLVoted) (defBody sLVoted) (defScope sLVoted) .none d28kV d28dc d28pm d28an d28cd d28ct), d28sl⟩)
    (z167 : PySem.W.codeIn K d28cd "_law_voted" = true)
    (z168 : PySem.W.keepIn K (.ref d28f) = true)
    (z169 : PySem.W.nsIn K mainGlobals "_law_rows_right" = some (some (.ref d29f)))
    (z170 : K.lookup d29f = some ⟨d29oc, d29od, .func (PySem.W.fnOf "_law_rows_right" "_law_rows_right" (defArgs sLRowsRight) (defBody sLRowsRight) (defScope sLRowsRight) .none d29kV d29dc d29pm d29an d29cd d29ct), d29sl⟩)
    (z171 : PySem.W.codeIn K d29cd "_law_rows_right" = true)
    (z172 : PySem.W.keepIn K (.ref d29f) = true)
    (z173 : PySem.W.nsIn K mainGlobals "law" = some (some (.ref d30f)))
    (z174 : K.lookup d30f = some ⟨d30oc, d30od, .func (PySem.W.fnOf "law" "law" (defArgs sLaw) (defBody sLaw) (defScope sLaw) .none d30kV d30dc d30pm d30an d30cd d30ct), d30sl⟩)
    (z175 : PySem.W.codeIn K d30cd "law" = true)
    (z176 : PySem.W.keepIn K (.ref d30f) = true) : Facts P K mg where
  bis := Bis.of X G z1 z2 z3 z4 z5 z6 z7 z8 z9 z10 z11 z12 z13 z14 z15
  no_any := PySem.W.mg_none_of X G z16
  no_min := PySem.W.mg_none_of X G z17
  no_max := PySem.W.mg_none_of X G z18
  g_LETTERS := ⟨_, PySem.W.mg_of X G z19⟩
  g_LONGEST_NAME := ⟨_, PySem.W.mg_of X G z20⟩
  g_MOST_VALUES := ⟨_, PySem.W.mg_of X G z21⟩
  n_ClashnumberError := ⟨_, PySem.W.mg_of X G z22, z23, z24, z25, z26⟩
  NoVote := { C := e3C, fI := e3fI, at_ := PySem.W.mg_of X G z27, xi := { cls := ⟨_, _, _, _, _, _, _, _, _, _, _, _, _, _, _, z29, z30⟩, sa := z31, exC := z32, exE := z33, tyC := z34, kC := z35, init := z28, tI := z36, no := z37, fn := ⟨_, _, _, _, _, _, _, _, _, _, _, _, _, _, _, _, _, _, _, _, _, _, _, _, _, z38, z39, fun _ _ => rfl, fun _ => ⟨_, rfl⟩, ⟨_, _, _, z40⟩, ⟨_, _, _, _, _, _, z41, z42, z43⟩⟩, up := z44, opq := z45, wdl := by decide +kernel, slf := by decide +kernel, sup := by decide +kernel, cll := by decide +kernel, dbg := by decide +kernel, wds := by decide +kernel, top := z46 }, xf := ⟨z47, z48, z32, z49⟩, no := z37, me := exm_selfK z32 z50 z34 z51 }
  Vote := ⟨c16C, PySem.W.mg_of X G z52, z53, ⟨z54, z55, z56, z57⟩⟩
  Vote_init := MF.of z58 z59 z60 z61 z62 (fun _ _ _ _ _ _ us hl => us4 us hl fun a b c d => rfl)
  Vote_eq := MF.of z63 z64 z65 z66 z67 (fun _ _ _ _ _ _ us hl => us2 us hl fun a b => rfl)
  Vote_call := MF.of z68 z69 z70 z71 z72 (fun _ _ _ _ _ _ us hl => us2 us hl fun a b => rfl)
  Vote_rows_voted := MFS.of z73 z74 z75 z76 z77
  Vote_middle := ⟨c16mc, c16m7p, ⟨z79, z80⟩, _, _, fun_mk z84 z85 z86, ⟨z81, ⟨_, z82⟩, z83⟩, (fun_mk z84 z85 z86).binds (fun _ _ _ _ _ _ us hl => us2 us hl fun a b => rfl)⟩
  Vote_mk := ⟨z88, z58, z59, z53⟩
  Vote_callO := ⟨z68, z69, z89⟩
  Vote_own := ⟨z63, z64, z90, z87⟩
  Vote_ty := ⟨⟨z54, z55, z56, z57⟩, z91, z92, z93, z87⟩
  Vote_ov := ⟨⟨⟨z54, z55, z56, z57⟩, z91, z92, z93, z87⟩, z94⟩
  Vote_ns := z95
  Vote_kt := z96
  Vote_no_domain := z97
  Vote_no_count := z98
  Vote_no_results := z99
  Vote_no_by_values := z100
  is_integer := DF.of X G z101 z102 z103 z104 (fun _ _ _ _ _ _ us hl => us1 us hl fun a => rfl)
  is_name := DF.of X G z105 z106 z107 z108 (fun _ _ _ _ _ _ us hl => us1 us hl fun a => rfl)
  is_domain := DF.of X G z109 z110 z111 z112 (fun _ _ _ _ _ _ us hl => us1 us hl fun a => rfl)
  all_rows := DF.of X G z113 z114 z115 z116 (fun _ _ _ _ _ _ us hl => us2 us hl fun a b => rfl)
  is_row := DF.of X G z117 z118 z119 z120 (fun _ _ _ _ _ _ us hl => us3 us hl fun a b c => rfl)
  near_value := DF.of X G z121 z122 z123 z124 (fun _ _ _ _ _ _ us hl => us1 us hl fun a => rfl)
  _law_deck := DF.of X G z125 z126 z127 z128 (fun _ _ _ _ _ _ us hl => us1 us hl fun a => rfl)
  _law_draw := DF.of X G z129 z130 z131 z132 (fun _ _ _ _ _ _ us hl => us2 us hl fun a b => rfl)
  _law_pick := DF.of X G z133 z134 z135 z136 (fun _ _ _ _ _ _ us hl => us2 us hl fun a b => rfl)
  _law_names := DF.of X G z137 z138 z139 z140 (fun _ _ _ _ _ _ us hl => us2 us hl fun a b => rfl)
  _law_points := DF.of X G z141 z142 z143 z144 (fun _ _ _ _ _ _ us hl => us2 us hl fun a b => rfl)
  _law_drawn := DF.of X G z145 z146 z147 z148 (fun _ _ _ _ _ _ us hl => us3 us hl fun a b c => rfl)
  _law_middle := DF.of X G z149 z150 z151 z152 (fun _ _ _ _ _ _ us hl => us1 us hl fun a => rfl)
  _law_called := DF.of X G z153 z154 z155 z156 (fun _ _ _ _ _ _ us hl => us2 us hl fun a b => rfl)
  _law_due_call := DF.of X G z157 z158 z159 z160 (fun _ _ _ _ _ _ us hl => us4 us hl fun a b c d => rfl)
  _law_odd_call := DF.of X G z161 z162 z163 z164 (fun _ _ _ _ _ _ us hl => us3 us hl fun a b c => rfl)
  _law_voted := DF.of X G z165 z166 z167 z168 (fun _ _ _ _ _ _ us hl => us2 us hl fun a b => rfl)
  _law_rows_right := DF.of X G z169 z170 z171 z172 (fun _ _ _ _ _ _ us hl => us5 us hl fun a b c d e => rfl)
  law := DF.of X G z173 z174 z175 z176 (fun _ _ _ _ _ _ us hl => us1 us hl fun a => rfl)
section
variable {P : Program} {w : World} {K : PySem.W.Frag} {mg : Str → Option Value} {base : Heap}
abbrev letters : Str := "abcdefghijklmnopqrstuvwxyz"
structure Txt (K : PySem.W.Frag) (mg : Str → Option Value) : Prop where
  bis : Bis mg
  letters : ∃ t, mg "LETTERS" = some (.str letters t)
  longest : ∃ t, mg "LONGEST_NAME" = some (.int 8 t)
  most : ∃ t, mg "MOST_VALUES" = some (.int 3 t)
/-- a name: a text of 1 to 8 letters -/
def isNameS (z : Str) : Bool := decide (1 ≤ z.length) && decide (z.length ≤ 8) && z.cps.toList.all fun c => decide (c ∈ letters.cps.toList)
def isNameD : D → Bool
  | .str z => isNameS z
  | _ => false
theorem scIsName : FnScope ["thing", "letter"] ["thing"] (defScope sIsName) := ⟨rfl, rfl, rfl, by decide +kernel, rfl, by decide +kernel, by decide +kernel⟩
def dspIsName : DSp := fun ds S Q _ => ∃ d t, ds = [d] ∧ tyD S d = some t ∧ (∀ z, d = .str z → z.length ≤ sizeLine) ∧ Q (.bl (isNameD d)) S
theorem ok_isName {f : Addr} {fd : FuncData} (F : Fun K "is_name" "is_name" sIsName f fd) (T : Txt K mg) : FnD P w K mg base 1 f fd ["thing"] dspIsName := by
  obtain ⟨tl, hl⟩ := T.letters
  obtain ⟨tn, hn⟩ := T.longest
  refine fn_ofE (k := 0) F scIsName (fun ds S Q E ⟨d, t, e, _⟩ => by subst e; rfl) fun cdv A outer s H E hr hgd tk hp => ?_
  refine ⟨_, dss_cons (ds_if (DW.dt (dw_or (dt_not (dt_val (de_isi T.bis T.bis.str PyProof.Rows.boot_str (dv 0)))) (dw_or1 (dt_not (dt_chain op_le op_le (lift_cmpI _) (lift_cmpI _) de_int (de_len T.bis (dv 0)) (de_globI hn)))))) (dss_one (ds_ret de_bl)) dss_nil)
      (dss_one (ds_ret (de_all rfl T.bis (de_lc (own := [("letter", 1)]) rfl scIsName.nd (di_str (dv 0)) (⟨rfl, by decide +kernel, by decide +kernel, by decide +kernel, by decide +kernel⟩ : BlkOk ["thing", "letter"] (defScope sIsName) _ [("letter", 1)]) (fun s H C cl fp => dg_name 1 scIsName.nd) (fun s H C cl fp => dts_nil)
        (fun s H C cl fp => de_cmp op_in_sign lift_inS (dv 1) (de_globS hl) rfl))))), ?_⟩
  intro ds S Q E' ⟨d, t, e, ht, hz, q⟩
  subst e
  refine ⟨d, rfl, t, ht, (by decide), ?_⟩
  obtain ⟨e1, _⟩ := ty_is ht
  rw [e1]
  refine ⟨_, rfl, iteB (fun hb => iteT ?_) fun hb => ?_⟩
  · have e2 : isNameD d = false := by
      cases d with
      | str z => cases hb
      | _ => rfl
    rw [e2] at q
    exact q
  · obtain ⟨z, rfl⟩ := isStr_of (d := d) (by simpa using hb)
    have hz := hz z rfl
    refine ⟨_, rfl, z.length, if_pos hz, 1, z.length, rfl, rfl, _, rfl, iteB (fun h1 => ⟨_, _, rfl, rfl, _, rfl, iteB (fun h2 => ?_) fun h2 => ?_⟩) fun h1 => ⟨_, rfl, iteT ?_⟩⟩
    · have e2 : isNameS z = false := by
        unfold isNameS
        have h3 : ¬ z.length ≤ 8 := by
          have h4 : decide ((z.length : Int) ≤ 8) = false := by simpa using h2
          have h5 := of_decide_eq_false h4
          omega
        simp [h3]
      have q' : Q (.bl (isNameS z)) S := q
      rw [e2] at q'
      exact q'
    · refine ⟨_, rfl, z, rfl, (by unfold signs; rw [List.length_map, Array.length_toList]; exact hz), lcgo_map (fun c : Nat => D.str ⟨#[c]⟩) (fun c => D.bl (decide (c ∈ letters.cps.toList))) _ [] (fun c _ => ⟨_, rfl, fun R r => ⟨_, rfl, c, letters, rfl, rfl, r⟩⟩) ?_⟩
      refine ⟨z.cps.toList.map fun c => decide (c ∈ letters.cps.toList), by rw [List.nil_append, List.map_map]; rfl, ?_⟩
      have e2 : isNameS z = (z.cps.toList.map fun c => decide (c ∈ letters.cps.toList)).all id := by
        unfold isNameS
        have h3 : 1 ≤ z.length := by
          have h4 := of_decide_eq_true h1
          omega
        have h4 : z.length ≤ 8 := by
          have h5 : decide ((z.length : Int) ≤ 8) = true := by simpa using h2
          have h6 := of_decide_eq_true h5
          omega
        simp [h3, h4, List.all_map]
      have q' : Q (.bl (isNameS z)) S := q
      rw [e2] at q'
      exact q'
    · have e2 : isNameS z = false := by
        unfold isNameS
        have h3 : ¬ 1 ≤ z.length := by
          have h4 := of_decide_eq_false h1
          omega
        simp [h3]
      have q' : Q (.bl (isNameS z)) S := q
      rw [e2] at q'
      exact q'
/-- a domain: one to three names, ascending, each once -/
def strsOf : List D → Option (List Str)
  | [] => some []
  | .str z :: r => (strsOf r).map (z :: ·)
  | _ :: _ => none
def isDomD : D → Bool
  | .tup ds => decide (1 ≤ ds.length) && decide (ds.length ≤ 3) && ds.all isNameD && (match strsOf ds with
    | some ss => decide (ss = DLS.uniqS ss)
    | none => false)
  | _ => false
/-- data whose texts can be measured -/
def OkI (S : Store) (d : D) : Prop := (∃ t, tyD S d = some t) ∧ ∀ z, d = .str z → z.length ≤ sizeLine
def dspIsDomain : DSp := fun ds S Q _ => ∃ d, ds = [d] ∧ OkI S d ∧ (∀ es, d = .tup es → ∀ e ∈ es, OkI S e) ∧ Q (.bl (isDomD d)) S
theorem strsOf_map : ∀ ss : List Str, strsOf (ss.map .str) = some ss
  | [] => rfl
  | x :: ss => by
    show (strsOf (ss.map .str)).map (x :: ·) = _
    rw [strsOf_map ss]
    rfl
theorem names_of : ∀ {es : List D}, es.all isNameD = true → ∃ ss : List Str, es = ss.map .str ∧ ∀ z ∈ ss, isNameS z = true
  | [], _ => ⟨[], rfl, fun z hz => by cases hz⟩
  | e :: es, h => by
    rw [List.all_cons, Bool.and_eq_true] at h
    obtain ⟨ss, h1, h2⟩ := names_of h.2
    cases e with
    | str z => exact ⟨z :: ss, by rw [h1]; rfl, fun y hy => by
        rcases List.mem_cons.mp hy with e | hy
        · rw [e]; exact h.1
        · exact h2 y hy⟩
    | _ => cases h.1
theorem letters_ok : (letters.cps.toList.all fun c => decide (c < 0x110000)) = true := by decide +kernel
theorem name_ok {z : Str} (h : isNameS z = true) : PyData.strOk z = true ∧ z.length ≤ 8 := by
  unfold isNameS at h
  rw [Bool.and_eq_true, Bool.and_eq_true] at h
  refine ⟨?_, of_decide_eq_true h.1.2⟩
  unfold PyData.strOk
  rw [Array.all_eq_true_iff_forall_mem]
  intro c hc
  have h1 := List.all_eq_true.mp h.2 c (by simpa using hc)
  exact List.all_eq_true.mp letters_ok c (of_decide_eq_true h1)
theorem scIsDomain : FnScope ["thing", "value"] ["thing"] (defScope sIsDomain) := ⟨rfl, rfl, rfl, by decide +kernel, rfl, by decide +kernel, by decide +kernel⟩
theorem ok_isDomain {f fN : Addr} {fd fdN : FuncData} (F : Fun K "is_domain" "is_domain" sIsDomain f fd) (T : Txt K mg) (N : DefD P w K mg base 1 "is_name" ["thing"] dspIsName fN fdN) : FnD P w K mg base 2 f fd ["thing"] dspIsDomain := by
  obtain ⟨tn, hn⟩ := T.most
  refine fn_ofE (k := 1) F scIsDomain (fun ds S Q E ⟨d, e, _⟩ => by subst e; rfl) fun cdv A outer s H E hr hgd tk hp => ?_
  refine ⟨_, dss_cons (ds_if (DW.dt (dw_or (dt_not (dt_val (de_isi T.bis T.bis.tuple PyProof.Rows.boot_tuple (dv 0)))) (dw_or1 (dt_not (dt_chain op_le op_le (lift_cmpI _) (lift_cmpI _) de_int (de_len T.bis (dv 0)) (de_globI hn)))))) (dss_one (ds_ret de_bl)) dss_nil)
      (dss_one (ds_ret (de_and (de_all rfl T.bis (de_lc (own := [("value", 1)]) rfl scIsDomain.nd (di_tup (dv 0)) (⟨rfl, by decide +kernel, by decide +kernel, by decide +kernel, by decide +kernel⟩ : BlkOk ["thing", "value"] (defScope sIsDomain) _ [("value", 1)]) (fun s H C cl fp => dg_name 1 scIsDomain.nd) (fun s H C cl fp => dts_nil)
        (fun s H C cl fp => de_def N hr hgd takes_n0 (da_cons (dv 1) da_nil))))
        (de_one (de_cmp (op_eqD hr.units) lift_eq (dv 0) (de_tuple T.bis (de_sortSet rfl T.bis.sorted T.bis.set (dv 0))) rfl))))), ?_⟩
  intro ds S Q E' ⟨d, e, ok, oks, q⟩
  subst e
  obtain ⟨t, ht⟩ := ok.1
  refine ⟨d, rfl, t, ht, (by decide), ?_⟩
  obtain ⟨_, e1, _⟩ := ty_is ht
  rw [e1]
  refine ⟨_, rfl, iteB (fun hb => iteT ?_) fun hb => ?_⟩
  · have e2 : isDomD d = false := by
      cases d with
      | tup z => cases hb
      | _ => rfl
    rw [e2] at q
    exact q
  · obtain ⟨es, rfl⟩ := isTup_of (d := d) (by simpa using hb)
    have oks := oks es rfl
    refine ⟨_, rfl, es.length, rfl, 1, es.length, rfl, rfl, _, rfl, iteB (fun h1 => ⟨_, _, rfl, rfl, _, rfl, iteB (fun h2 => ?_) fun h2 => ?_⟩) fun h1 => ⟨_, rfl, iteT ?_⟩⟩
    · have e2 : isDomD (.tup es) = false := by
        have h3 : ¬ es.length ≤ 3 := by
          have h4 : decide ((es.length : Int) ≤ 3) = false := by simpa using h2
          have h5 := of_decide_eq_false h4
          omega
        simp [isDomD, h3]
      rw [e2] at q
      exact q
    · have l1 : 1 ≤ es.length := by
        have h4 := of_decide_eq_true h1
        omega
      have l3 : es.length ≤ 3 := by
        have h5 : decide ((es.length : Int) ≤ 3) = true := by simpa using h2
        have h6 := of_decide_eq_true h5
        omega
      refine ⟨_, rfl, es, rfl, (by rw [sizeLine_eq]; omega), lcgo_pure (fun e => .bl (isNameD e)) es [] (fun e he => ?_) ?_⟩
      · obtain ⟨⟨t, ht⟩, hz⟩ := oks e he
        exact ⟨_, rfl, fun R r => ⟨_, rfl, e, t, rfl, ht, hz, r⟩⟩
      · refine ⟨es.map isNameD, by rw [List.nil_append, List.map_map]; rfl, _, rfl, ?_⟩
        have ea : (es.map isNameD).all id = es.all isNameD := by rw [List.all_map]; rfl
        rw [ea]
        refine iteB (fun ha => ?_) fun ha => ?_
        · obtain ⟨ss, rfl, nm⟩ := names_of ha
          rw [List.length_map] at l1 l3
          have so := shaped_strs (a := ss) fun z hz => (name_ok (nm z hz)).1
          have su := shaped_strs (a := DLS.uniqS ss) fun z hz => (name_ok (nm z (DLS.uniqS_mem.mp hz))).1
          refine ⟨_, rfl, _, rfl, ss, rfl, by omega, _, rfl, _, _, toPy_strs _, toPy_strs _, so.1, su.1, ?_⟩
          have e2 : isDomD (.tup (ss.map .str)) = PyData.eqv (.tuple (ss.map .str)) (.tuple ((DLS.uniqS ss).map .str)) := by
            rw [eqv_tstrs]
            simp [isDomD, l1, l3, ha, strsOf_map]
          rw [e2] at q
          exact q
        · have e2 : isDomD (.tup es) = false := by simp [isDomD, ha]
          rw [e2] at q
          exact q
    · have e2 : isDomD (.tup es) = false := by
        have h3 : ¬ 1 ≤ es.length := by
          have h4 := of_decide_eq_false h1
          omega
        simp [isDomD, h3]
      rw [e2] at q
      exact q
/-- a row: so many values of the domain -/
def inDom (dom : List Str) : D → Bool
  | .str z => decide (z ∈ dom)
  | _ => false
def isRowD (dom : List Str) (n : Int) : D → Bool
  | .tup es => decide ((es.length : Int) = n) && es.all (inDom dom)
  | _ => false
def dspIsRow : DSp := fun ds S Q _ => ∃ dom n d, ds = [.tup (dom.map .str), .int n, d] ∧ OkI S d ∧ (∀ es, d = .tup es → es.length ≤ sizeLine ∧ ∀ e ∈ es, OkI S e) ∧ Q (.bl (isRowD dom n d)) S
theorem scIsRow : FnScope ["domain", "width", "thing", "value"] ["domain", "width", "thing"] (defScope sIsRow) := ⟨rfl, rfl, rfl, by decide +kernel, rfl, by decide +kernel, by decide +kernel⟩
theorem ok_isRow {f : Addr} {fd : FuncData} (F : Fun K "is_row" "is_row" sIsRow f fd) (T : Txt K mg) : FnD P w K mg base 1 f fd ["domain", "width", "thing"] dspIsRow := by
  refine fn_ofE (k := 0) F scIsRow (fun ds S Q E ⟨dom, n, d, e, _⟩ => by subst e; rfl) fun cdv A outer s H E hr hgd tk hp => ?_
  refine ⟨_, dss_cons (ds_if (DW.dt (dw_or (dt_not (dt_val (de_isi T.bis T.bis.tuple PyProof.Rows.boot_tuple (dv 2)))) (dw_or1 (dt_cmp (op_neD hr.units) lift_ne (de_len T.bis (dv 2)) (dv 1) rfl)))) (dss_one (ds_ret de_bl)) dss_nil)
      (dss_one (ds_ret (de_all rfl T.bis (de_lc (own := [("value", 3)]) rfl scIsRow.nd (di_tup (dv 2)) (⟨rfl, by decide +kernel, by decide +kernel, by decide +kernel, by decide +kernel⟩ : BlkOk ["domain", "width", "thing", "value"] (defScope sIsRow) _ [("value", 3)]) (fun s H C cl fp => dg_name 3 scIsRow.nd) (fun s H C cl fp => dts_nil)
        (fun s H C cl fp => de_and (de_isi T.bis T.bis.str PyProof.Rows.boot_str (dv 3)) (de_one (de_cmp op_in_seq (lift_in false) (dv 3) (dv 0) rfl))))))), ?_⟩
  intro ds S Q E' ⟨dom, n, d, e, ok, oks, q⟩
  subst e
  obtain ⟨t, ht⟩ := ok.1
  refine ⟨d, rfl, t, ht, (by decide), ?_⟩
  obtain ⟨_, e1, _⟩ := ty_is ht
  rw [e1]
  refine ⟨_, rfl, iteB (fun hb => iteT ?_) fun hb => ?_⟩
  · have e2 : isRowD dom n d = false := by
      cases d with
      | tup z => cases hb
      | _ => rfl
    rw [e2] at q
    exact q
  · obtain ⟨es, rfl⟩ := isTup_of (d := d) (by simpa using hb)
    obtain ⟨hz, oks⟩ := oks es rfl
    refine ⟨_, rfl, es.length, rfl, _, rfl, rdEq_int ⟨_, rfl, iteB (fun h1 => ?_) fun h1 => ?_⟩⟩
    · have e2 : isRowD dom n (.tup es) = false := by
        have h3 : ¬ (es.length : Int) = n := by simpa using h1
        simp [isRowD, h3]
      rw [e2] at q
      exact q
    · have h3 : (es.length : Int) = n := by simpa using h1
      refine ⟨_, rfl, es, rfl, hz, lcgo_pure (fun e => .bl (inDom dom e)) es [] (fun e he => ?_) ?_⟩
      · obtain ⟨⟨t, ht⟩, _⟩ := oks e he
        refine ⟨_, rfl, fun R r => ⟨e, rfl, t, ht, (by decide), _, rfl, ?_⟩⟩
        obtain ⟨e3, _⟩ := ty_is ht
        rw [e3]
        refine iteB (fun h => ?_) fun h => ?_
        · obtain ⟨z, rfl⟩ := isStr_of h
          exact ⟨_, rfl, _, rfl, rdIn_strs (.inl rfl) r⟩
        · have e4 : inDom dom e = false := by
            cases e with
            | str z => cases h
            | _ => rfl
          rw [e4] at r
          exact r
      · refine ⟨es.map (inDom dom), by rw [List.nil_append, List.map_map]; rfl, ?_⟩
        have e2 : isRowD dom n (.tup es) = (es.map (inDom dom)).all id := by
          rw [List.all_map]
          simp [isRowD, h3]
        rw [e2] at q
        exact q

theorem Facts.txt (T : Facts P K mg) : Txt K mg := ⟨T.bis, T.g_LETTERS, T.g_LONGEST_NAME, T.g_MOST_VALUES⟩
theorem ok_is_name (T : Facts P K mg) : FnD P w K mg base 1 T.is_name.f T.is_name.fd ["thing"] dspIsName := ok_isName T.is_name.F T.txt
theorem dd_is_name (T : Facts P K mg) : DefD P w K mg base 1 "is_name" ["thing"] dspIsName T.is_name.f T.is_name.fd := .of T.is_name (ok_is_name T)
theorem ok_is_domain (T : Facts P K mg) : FnD P w K mg base 2 T.is_domain.f T.is_domain.fd ["thing"] dspIsDomain := ok_isDomain T.is_domain.F T.txt (dd_is_name T)
theorem dd_is_domain (T : Facts P K mg) : DefD P w K mg base 2 "is_domain" ["thing"] dspIsDomain T.is_domain.f T.is_domain.fd := .of T.is_domain (ok_is_domain T)
theorem ok_is_row (T : Facts P K mg) : FnD P w K mg base 1 T.is_row.f T.is_row.fd ["domain", "width", "thing"] dspIsRow := ok_isRow T.is_row.F T.txt
theorem dd_is_row (T : Facts P K mg) : DefD P w K mg base 1 "is_row" ["domain", "width", "thing"] dspIsRow T.is_row.f T.is_row.fd := .of T.is_row (ok_is_row T)


end
end K30

set_option maxRecDepth 100000
set_option maxHeartbeats 4000000
namespace K30
open PySem PySem.Spec L2 DL
section
variable {P : Program} {w : World} {K : PySem.W.Frag} {mg : Str → Option Value} {base : Heap}
theorem sc__law_draw : FnScope ["_law_deck_here", "_law_many", "_law_turn", "_law_item", "_law_mixed"] ["_law_deck_here", "_law_many"] (defScope sLDraw) := ⟨rfl, rfl, rfl, by decide +kernel, rfl, by decide +kernel, by decide +kernel⟩
theorem ok__law_draw (T : Facts P K mg) : FnD P w K mg base 1 T._law_draw.f T._law_draw.fd ["_law_deck_here", "_law_many"] dspDraw := by
  refine fn_ofE (k := 0) T._law_draw.F sc__law_draw (fun ds S Q E ⟨a, L, k, m, e, _⟩ => by subst e; rfl) fun cdv A outer s H E hr hgd tk hp => ?_
  refine ⟨_, (dss_cons (ds_dp (units1 hr) (dv 0) de_str (de_op or_add lift_add (de_dg (units1 hr) (dv 0) de_str) de_int))
      (dss_cons (ds_par (i := 2) (j := 3) rfl sc__law_draw.nd (da_cons (de_dg (units1 hr) (dv 0) de_str) (da_cons (de_dg (units1 hr) (dv 0) de_str) da_nil)) (by rfl))
      (dss_cons (ds_if (dt_cmp (op_neNil hr.units0) lift_nil (de_dg (units1 hr) (dv 0) de_str) (de_lst da_nil) rfl) (dss_cons (ds_set (i := 3) sc__law_draw.nd (de_pop (de_dg (units1 hr) (dv 0) de_str)))
      (dss_cons (ds_if (dt_cmp op_ge (lift_cmpI _) (dv 3) (de_op op_pow (lift_intC _ _) de_int de_int) rfl) (dss_cons (ds_expr (de_append (de_dg (units1 hr) (dv 0) de_str) (de_op op_fdiv (lift_intC _ _) (dv 3) (dv 1))))
      (dss_one (ds_ret (de_op op_mod (lift_intC _ _) (de_int1 T.bis (dv 3)) (dv 1))))) dss_nil)
      (dss_one (ds_set (i := 3) sc__law_draw.nd (de_op or_add lift_add (dv 3) (de_dg (units1 hr) (dv 0) de_str)))))) dss_nil)
      (dss_cons (ds_set (i := 4) sc__law_draw.nd (de_op op_mod (lift_intC _ _) (de_op op_mul (lift_intC _ _) (de_int1 T.bis (de_op or_add lift_add (de_op or_add lift_add (de_op op_mod (lift_intC _ _) (de_int1 T.bis (dv 3)) de_int) (de_op op_mul (lift_intC _ _) (de_op op_mul (lift_intC _ _) de_int (dv 2)) (dv 2))) de_int)) de_int) de_int))
      (dss_cons (ds_set (i := 4) sc__law_draw.nd (de_op op_mod (lift_intC _ _) (de_int1 T.bis (de_op or_add lift_add (de_op or_add lift_add (de_op op_mul (lift_intC _ _) (dv 4) (dv 4)) (de_op op_mul (lift_intC _ _) de_int (dv 2))) de_int)) de_int))
      (dss_one (ds_ret (de_op op_mod (lift_intC _ _) (de_op op_fdiv (lift_intC _ _) (de_op op_mod (lift_intC _ _) (de_int1 T.bis (de_op op_mul (lift_intC _ _) (dv 4) de_int)) de_int) de_int) (dv 1))))))))), ?_⟩
  intro ds S Q E' ⟨a, L, k, m, e, D, m0, m1, q⟩
  subst e
  obtain ⟨⟨ns, t, d, ha, hL, hn, t0, t1, d0, d1⟩, ne⟩ := D
  have ha1 : put S a (.dK deckKs [.ref L, .int t, .int (d + 1)]) a = some (.dK deckKs [.ref L, .int t, .int (d + 1)]) := put_same
  have hL1 : put S a (.dK deckKs [.ref L, .int t, .int (d + 1)]) L = some (.lst (ns.map .int)) := (put_ne ne).trans hL
  clear tk hp hgd hr
  walk_at "st"
  refine iteB (fun h => ?_) fun h => ?_
  · have hne : ns ≠ [] := by
      intro e
      subst e
      cases h
    obtain ⟨z, hz, hd⟩ := ints_last (n := 0) hne
    walk_at "st"
    refine s_pop hz ?_
    rw [hd]
    have ha2 : put (put S a (.dK deckKs [.ref L, .int t, .int (d + 1)])) L (.lst (ns.dropLast.map .int)) a = some (.dK deckKs [.ref L, .int t, .int (d + 1)]) := (put_ne (Ne.symm ne)).trans ha1
    have hL2 : put (put S a (.dK deckKs [.ref L, .int t, .int (d + 1)])) L (.lst (ns.dropLast.map .int)) L = some (.lst (ns.dropLast.map .int)) := put_same
    have ln : ns.dropLast.length ≤ 62 := by rw [List.length_dropLast]; omega
    walk_at "st"
    refine iteB (fun h => ?_) fun h => ?_
    · walk_at "st"
      refine s_append (by rw [sizeLine_eq, List.length_map]; omega) ?_
      walk_at "st"
      refine q _ _ (emod_in m0).1 (emod_in m0).2 ⟨⟨ns.dropLast ++ [z / m], t, d + 1, ?_, ?_, ?_, t0, t1, by omega, by omega⟩, ne⟩ ?_
      · rw [put_ne (Ne.symm ne)]
        exact ha2
      · rw [List.map_append]
        exact put_same
      · rw [List.length_append]
        show ns.dropLast.length + 1 ≤ 63
        omega
      · exact fun b h1 h2 => by rw [put_ne h2, put_ne h2, put_ne h1]
    · walk_at "st"
      exact q _ _ (emod_in m0).1 (emod_in m0).2 ⟨⟨ns.dropLast, t, d + 1, ha2, hL2, by omega, t0, t1, by omega, by omega⟩, ne⟩ fun b h1 h2 => by rw [put_ne h2, put_ne h1]
  · walk_at "st"
    exact q _ _ (emod_in m0).1 (emod_in m0).2 ⟨⟨ns, t, d + 1, ha1, hL1, by omega, t0, t1, by omega, by omega⟩, ne⟩ fun b h1 h2 => by rw [put_ne h1]
theorem dd__law_draw (T : Facts P K mg) : DefD P w K mg base 1 "_law_draw" ["_law_deck_here", "_law_many"] dspDraw T._law_draw.f T._law_draw.fd := .of T._law_draw (ok__law_draw T)
theorem sc__law_pick : FnScope ["_law_deck_here", "_law_options"] ["_law_deck_here", "_law_options"] (defScope sLPick) := ⟨rfl, rfl, rfl, by decide +kernel, rfl, by decide +kernel, by decide +kernel⟩
theorem ok__law_pick (T : Facts P K mg) : FnD P w K mg base 2 T._law_pick.f T._law_pick.fd ["_law_deck_here", "_law_options"] dspPick := by
  refine fn_ofE (k := 1) T._law_pick.F sc__law_pick (fun ds S Q E ⟨a, L, k, x, es, e, _⟩ => by subst e; rfl) fun cdv A outer s H E hr hgd tk hp => ?_
  refine ⟨_, (dss_one (ds_ret (de_ix (dv 1) (de_def (dd__law_draw T) (hr.mono (by decide)) hgd tk (da_cons (dv 0) (da_cons (de_len T.bis (dv 1)) da_nil)))))), ?_⟩
  intro ds S Q E' ⟨a, L, k, x, es, e, hx, D, l0, l1, q⟩
  subst e
  clear tk hp hgd hr
  rcases hx with rfl | rfl
  · walk_at "st"
    refine ⟨a, L, k, es.length, rfl, D, by omega, by omega, fun i S' i0 i1 D' off => ?_⟩
    obtain ⟨e, he, hm⟩ := atI_in (l := es) i0 i1
    exact s_ixT he (q e S' hm D' off)
  · walk_at "st"
    refine ⟨a, L, k, es.length, rfl, D, by omega, by omega, fun i S' i0 i1 D' off => ?_⟩
    obtain ⟨e, he, hm⟩ := atI_in (l := es) i0 i1
    exact s_ixL he (q e S' hm D' off)
theorem dd__law_pick (T : Facts P K mg) : DefD P w K mg base 2 "_law_pick" ["_law_deck_here", "_law_options"] dspPick T._law_pick.f T._law_pick.fd := .of T._law_pick (ok__law_pick T)
theorem sc__law_deck : FnScope ["_law_script", "_law_items", "_law_total", "_law_item"] ["_law_script"] (defScope sLDeck) := ⟨rfl, rfl, rfl, by decide +kernel, rfl, by decide +kernel, by decide +kernel⟩
theorem ok__law_deck (T : Facts P K mg) : FnD P w K mg base 1 T._law_deck.f T._law_deck.fd ["_law_script"] dspDeck := by
  refine fn_ofE (k := 0) T._law_deck.F sc__law_deck (fun ds S Q E ⟨ns, e, _⟩ => by subst e; rfl) fun cdv A outer s H E hr hgd tk hp => ?_
  refine ⟨_, (dss_cons (ds_par (i := 1) (j := 2) rfl sc__law_deck.nd (da_cons (de_list T.bis (de_slice (dv 0) do_none (do_some de_int))) (da_cons de_int da_nil)) (by rfl))
      (dss_cons (ds_for rfl (di_list (dv 1)) (dg_name 3 sc__law_deck.nd) (dss_one (ds_set (i := 2) sc__law_deck.nd (de_op op_mod (lift_intC _ _) (de_int1 T.bis (de_op or_add lift_add (de_op or_add lift_add (de_op op_mul (lift_intC _ _) (dv 2) de_int) (de_op op_mod (lift_intC _ _) (de_int1 T.bis (dv 3)) de_int)) de_int)) de_int))) hp)
      (dss_one (ds_ret (de_dispM (dps_cons de_str (de_revM (dv 1)) (dps_cons de_str (dv 2) (dps_cons de_str de_int dps_nil)))))))), ?_⟩
  intro ds S Q E' ⟨ns, e, hn, em, q⟩
  subst e
  clear tk hp hgd hr
  walk_at "st"
  refine for_inv (fun items ρ S' => S' = S ∧ ∃ (ms : List Int) (t : Int) (v : Option D), items = ms.map .int ∧ ρ = [some (.scr (ns.map .int)), some (.lst (cutD (ns.map .int) none (some 63))), some (.int t), v] ∧ 0 ≤ t ∧ t < 2147483648) ?_ ?_ _ _ _ ⟨rfl, cutD ns none (some 63), _, none, ?_, rfl, by decide, by decide⟩
  · rintro ρ S' ⟨rfl, ms, t, v, _, rfl, t0, t1⟩
    walk_at "st"
    refine ⟨_, rfl, fun L hL => ?_⟩
    walk_at "st"
    refine ⟨[((Sum.inr "items" : Key), .ref L), (Sum.inr "total", .int t), (Sum.inr "draws", .int 0)], rfl, Nat.le_of_ble_eq_true rfl, ?_⟩
    rw [DL.deck_merge]
    refine fun a ha => q a L _ ⟨⟨(cutD ns none (some 63)).reverse, t, 0, put_same, ?_, ?_, t0, t1, by decide, by decide⟩, ?_⟩ fun b h1 h2 => by rw [put_ne h1, put_ne h2]
    · have ne : L ≠ a := fun e => by
        rw [e, put_same] at ha
        cases ha
      rw [put_ne ne, put_same]
      unfold cutD
      simp
    · unfold cutD
      simp
      omega
    · intro e
      rw [e, put_same] at ha
      cases ha
  · rintro d r ih ρ S' ⟨rfl, ms, t, v, e, rfl, t0, t1⟩
    cases ms with
    | nil => cases e
    | cons m ms =>
      cases e
      walk_at "st"
      refine ih _ _ ⟨rfl, ms, _, _, rfl, rfl, ?_, ?_⟩
      all_goals omega
  · unfold cutD
    simp
theorem dd__law_deck (T : Facts P K mg) : DefD P w K mg base 1 "_law_deck" ["_law_script"] dspDeck T._law_deck.f T._law_deck.fd := .of T._law_deck (ok__law_deck T)


end
end K30

set_option maxRecDepth 100000
set_option maxHeartbeats 4000000
namespace K30
open PySem PySem.Spec L2 DL
section
variable {P : Program} {w : World} {K : PySem.W.Frag} {mg : Str → Option Value} {base : Heap}
/-- so many names, ascending, each once -/
def dspNames : DSp := fun ds S Q _ => ∃ a L k m, ds = [.ref a, .int m] ∧ Deck S a L (k + 3) ∧ 1 ≤ m ∧ m ≤ 3 ∧ ∀ (dom : List Str) S', (dom.length : Int) = m → (∀ z ∈ dom, isNameS z = true) → dom.Pairwise (fun a b => DLS.leS a b = true) → dom.Nodup → Deck S' a L k → Q (.tup (dom.map .str)) S'
abbrev lawPool : List Str := ["a", "ab", "abc", "b", "maybe", "no", "none", "vote", "yes", "z", "zzzzzzzz"]
theorem pool_nodup : lawPool.Nodup := by decide +kernel
theorem pool_names : ∀ z ∈ lawPool, isNameS z = true := by decide +kernel
theorem sc__law_names : FnScope ["_law_deck_here", "_law_many", "_law_pool", "_law_k"] ["_law_deck_here", "_law_many"] (defScope sLNames) := ⟨rfl, rfl, rfl, by decide +kernel, rfl, by decide +kernel, by decide +kernel⟩
theorem ok__law_names (T : Facts P K mg) : FnD P w K mg base 2 T._law_names.f T._law_names.fd ["_law_deck_here", "_law_many"] dspNames := by
  refine fn_ofE (k := 1) T._law_names.F sc__law_names (fun ds S Q E ⟨a, L, k, m, e, _⟩ => by subst e; rfl) fun cdv A outer s H E hr hgd tk hp => ?_
  refine ⟨_, (dss_cons (ds_set (i := 2) sc__law_names.nd (de_lstM (da_cons de_str (da_cons de_str (da_cons de_str (da_cons de_str (da_cons de_str (da_cons de_str (da_cons de_str (da_cons de_str (da_cons de_str (da_cons de_str (da_cons de_str da_nil)))))))))))))
      (dss_one (ds_ret (de_tuple T.bis (de_sortS T.bis (de_lc (own := [("_law_k", 3)]) rfl sc__law_names.nd (di_range1 T.bis.range (da_cons (dv 1) da_nil)) (⟨rfl, by decide +kernel, by decide +kernel, by decide +kernel, by decide +kernel⟩ : BlkOk ["_law_deck_here", "_law_many", "_law_pool", "_law_k"] (defScope sLNames) _ [("_law_k", 3)]) (fun s H C cl fp => (dg_name 3 sc__law_names.nd)) (fun s H C cl fp => dts_nil)
        (fun s H C cl fp => (de_popAt (dv 2) (de_def (dd__law_draw T) (hr.mono (by decide)) hgd takes_n0 (da_cons (dv 0) (da_cons (de_len T.bis (dv 2)) da_nil))))))))))), ?_⟩
  intro ds S Q E' ⟨a, L, k, m, e, D, m0, m1, q⟩
  subst e
  clear tk hp hgd hr
  walk_at "st"
  intro p hp
  obtain ⟨pa, pL⟩ := D.a_some hp
  walk_at "st"
  refine s_it1i (by omega) (by omega) ?_
  refine ⟨by rw [sizeLine_eq]; unfold dItR; rw [List.length_map, List.length_range]; omega, ?_⟩
  refine lc_inv (fun items acc S' => ∃ ps got : List Str, acc = got.map .str ∧ S' p = some (.lst (ps.map .str)) ∧ Deck S' a L (k + items.length) ∧ (got ++ ps).Perm lawPool ∧ ((items.length + got.length : Nat) : Int) = m) ?_ ?_ _ _ _ ⟨lawPool, [], rfl, put_same, ?_, List.Perm.refl _, ?_⟩
  · rintro acc S' ⟨ps, got, rfl, hS, D', pm, hl⟩
    have nd : (got ++ ps).Nodup := pm.nodup_iff.mpr pool_nodup
    have hm : ∀ z ∈ got, isNameS z = true := fun z hz => pool_names z (pm.mem_iff.mp (List.mem_append_left _ hz))
    walk_at "st"
    refine ⟨got, rfl, by simp at hl; omega, ?_⟩
    walk_at "st"
    refine q (DLS.sortS got) S' ?_ (fun z hz => hm z ((DLS.sortS_perm got).mem_iff.mp hz)) (DLS.sortS_pw got) ((DLS.sortS_perm got).nodup_iff.mpr (List.nodup_append.mp nd).1) (D'.mono (by simp))
    rw [(DLS.sortS_perm got).length_eq]
    simpa using hl
  · rintro d r ih acc S' ⟨ps, got, rfl, hS, D', pm, hl⟩
    have le := pm.length_eq
    rw [List.length_append] at le
    have l0 : lawPool.length = 11 := rfl
    rw [List.length_cons] at hl
    have lp : 0 < ps.length := by omega
    walk_at "st"
    refine s_rd1 (lenR hS) ?_
    walk_at "st"
    rw [List.length_map]
    refine ⟨a, L, k + r.length, ps.length, rfl, D'.mono (by rw [List.length_cons]; omega), by omega, by omega, fun i S2 i0 i1 D2 off => ?_⟩
    have hS2 : S2 p = some (.lst (ps.map .str)) := (off p pa pL).trans hS
    walk_at "st"
    refine s_popAt i0 (by rw [List.length_map]; exact i1) (by rw [List.length_map]; omega) fun d hd => ?_
    have hil : i.toNat < ps.length := by omega
    rw [List.getElem?_map, List.getElem?_eq_getElem hil] at hd
    cases hd
    refine ih _ _ ⟨ps.eraseIdx i.toNat, got ++ [ps[i.toNat]], ?_, ?_, D2.put_off pa pL, ?_, ?_⟩
    · rw [List.map_append]; rfl
    · rw [put_same, erase_map]
    · refine List.Perm.trans ?_ pm
      rw [List.append_assoc]
      exact List.Perm.append_left got (erase_perm ps i.toNat hil)
    · rw [List.length_append, List.length_singleton]
      omega
  · refine Deck.put_off ?_ pa pL
    refine D.mono ?_
    unfold dItR
    rw [List.length_map, List.length_range]
    omega
  · unfold dItR
    rw [List.length_map, List.length_range]
    simp
    omega
theorem dd__law_names (T : Facts P K mg) : DefD P w K mg base 2 "_law_names" ["_law_deck_here", "_law_many"] dspNames T._law_names.f T._law_names.fd := .of T._law_names (ok__law_names T)


end
end K30

set_option maxRecDepth 100000
set_option maxHeartbeats 4000000
namespace K30
open PySem PySem.Spec L2 DL
section
variable {P : Program} {w : World} {K : PySem.W.Frag} {mg : Str → Option Value} {base : Heap}
def isIntV : D → Bool
  | .int _ => true
  | _ => false
theorem isIntV_eq (d : D) : isIntV d = (isIntD d && !isBlD d) := by cases d <;> rfl
def dspIsInt : DSp := fun ds S Q _ => ∃ d t, ds = [d] ∧ tyD S d = some t ∧ Q (.bl (isIntV d)) S
theorem sc_is_integer : FnScope ["thing"] ["thing"] (defScope sIsInteger) := ⟨rfl, rfl, rfl, by decide +kernel, rfl, by decide +kernel, by decide +kernel⟩
theorem ok_is_integer (T : Facts P K mg) : FnD P w K mg base 1 T.is_integer.f T.is_integer.fd ["thing"] dspIsInt := by
  refine fn_ofE (k := 0) T.is_integer.F sc_is_integer (fun ds S Q E ⟨d, t, e, _⟩ => by subst e; rfl) fun cdv A outer s H E hr hgd tk hp => ?_
  refine ⟨_, (dss_one (ds_ret (de_and (de_isi T.bis T.bis.int PyProof.Rows.boot_int (dv 0)) (de_one (de_not (de_isi T.bis T.bis.bool (show PySem.bootBuiltins "bool" = some (.type "bool") from by decide +kernel) (dv 0))))))), ?_⟩
  intro ds S Q E' ⟨d, t, e, ht, q⟩
  subst e
  clear tk hp hgd hr
  rw [isIntV_eq, ← (ty_is ht).2.2.1, ← (ty_is ht).2.2.2] at q
  walk_at "st"
  refine s_isi ht (by decide) ?_
  walk_at "st"
  refine iteB (fun h => ?_) fun h => ?_
  · rw [h, Bool.true_and] at q
    walk_at "st"
    refine s_isi ht (by decide) ?_
    walk_at "st"
    exact q
  · rw [h, Bool.false_and] at q
    exact q
theorem dd_is_integer (T : Facts P K mg) : DefD P w K mg base 1 "is_integer" ["thing"] dspIsInt T.is_integer.f T.is_integer.fd := .of T.is_integer (ok_is_integer T)

/-- a row as data: known if it was made by + of two that are not empty -/
def encR (l : List Str) : D := if l.length < 2 then .tup (l.map .str) else .kup (l.map .str)
theorem addK_enc {r : List Str} {v : Str} {S : Store} {Q : DQ} (hl : r.length + 1 ≤ sizeLine) (q : Q (encR (r ++ [v])) S) : rdAddK (encR r) (.tup [.str v]) S Q := by
  match r, hl, q with
  | [], _, q => exact ⟨by rw [sizeLine_eq]; exact Nat.le_of_ble_eq_true rfl, fun _ => q, fun h => absurd rfl h, fun h => absurd rfl h⟩
  | [x], _, q => exact ⟨by rw [sizeLine_eq]; exact Nat.le_of_ble_eq_true rfl, fun h => (by cases h), fun _ h => (by cases h), fun _ _ => q⟩
  | x :: y :: r, hl, q =>
    have e1 : encR (x :: y :: r) = .kup ((x :: y :: r).map .str) := if_neg (by simp)
    have e2 : encR (x :: y :: r ++ [v]) = .kup ((x :: y :: r).map .str ++ [.str v]) := (if_neg (by simp)).trans (by rw [List.map_append]; rfl)
    rw [e1]
    rw [e2] at q
    exact ⟨by rw [List.length_map]; exact hl, fun h => (by cases h), fun h => (by cases h), q⟩
theorem rowsS_step (dom : List Str) (j : Nat) : ((rowsS dom j).flatMap fun r => dom.map fun v => encR (r ++ [v])) = (rowsS dom (j + 1)).map encR := by
  show _ = ((rowsS dom j).flatMap fun r => dom.map fun v => r ++ [v]).map encR
  rw [List.map_flatMap]
  refine congrArg (fun f => (rowsS dom j).flatMap f) (funext fun r => ?_)
  rw [List.map_map]
  rfl
def dspAllRows : DSp := fun ds S Q _ => ∃ (dom : List Str) (n : Nat), ds = [.tup (dom.map .str), .int n] ∧ dom.length ≤ 3 ∧ n ≤ 4 ∧ Q (.lst ((rowsS dom n).map encR)) S
theorem sc_all_rows : FnScope ["domain", "width", "found", "place", "row", "value"] ["domain", "width"] (defScope sAllRows) := ⟨rfl, rfl, rfl, by decide +kernel, rfl, by decide +kernel, by decide +kernel⟩
theorem ok_all_rows (T : Facts P K mg) : FnD P w K mg base 1 T.all_rows.f T.all_rows.fd ["domain", "width"] dspAllRows := by
  refine fn_ofE (k := 0) T.all_rows.F sc_all_rows (fun ds S Q E ⟨dom, n, e, _⟩ => by subst e; rfl) fun cdv A outer s H E hr hgd tk hp => ?_
  refine ⟨_, (dss_cons (ds_set (i := 2) sc_all_rows.nd (de_lst (da_cons (de_tup da_nil) da_nil)))
      (dss_cons (ds_for rfl (di_range1 T.bis.range (da_cons (dv 1) da_nil)) (dg_name 3 sc_all_rows.nd) (dss_one (ds_setLc2 (own := [("row", 4), ("value", 5)]) (i := 2) rfl sc_all_rows.nd (sw_true rfl rfl rfl (by decide +kernel)) (di_list (dv 2)) (⟨rfl, by decide +kernel, by decide +kernel, by decide +kernel, by decide +kernel⟩ : BlkOk ["domain", "width", "found", "place", "row", "value"] (defScope sAllRows) _ [("row", 4), ("value", 5)]) (fun s H C cl fp => (dg_name 4 sc_all_rows.nd)) (fun s H C cl fp => dts_nil) (fun s H C cl fp => (di_tup (dv 0))) (fun s H C cl fp => (dg_name 5 sc_all_rows.nd)) (fun s H C cl fp => dts_nil)
        (fun s H C cl fp => (de_op op_catK lift_addK (dv 4) (de_tup (da_cons (dv 5) da_nil)))))) hp)
      (dss_one (ds_ret (dv 2))))), ?_⟩
  intro ds S Q E' ⟨dom, n, e, hd, hn, q⟩
  subst e
  clear tk hp hgd hr
  walk_at "st"
  refine s_it1i (by omega) (by omega) ?_
  refine for_inv (fun items ρ S' => S' = S ∧ ∃ (j : Nat) (v3 v4 v5 : Option D), j + items.length = n ∧ ρ = [some (.tup (dom.map .str)), some (.int n), some (.lst ((rowsS dom j).map encR)), v3, v4, v5]) ?_ ?_ _ _ _ ⟨rfl, 0, none, none, none, ?_, rfl⟩
  · rintro ρ S' ⟨rfl, j, v3, v4, v5, hj, rfl⟩
    have e : j = n := by simpa using hj
    subst e
    walk_at "st"
    exact q
  · rintro d r ih ρ S' ⟨rfl, j, v3, v4, v5, hj, rfl⟩
    rw [List.length_cons] at hj
    have hs := rowsS_small hd (n := j + 1) (by omega)
    walk_at "st"
    have he := rowsS_step dom j
    have rl : ∀ r ∈ rowsS dom j, r.length ≤ 4 := fun r hr => by
      rw [(rowsS_each hr).1]
      omega
    refine lc2_map encR (fun r => dom.map fun v => encR (r ++ [v])) (rowsS dom j) [] ?_ (fun r hr => ⟨_, rfl, fun acc' R hl q => ?_⟩) ?_
    · rw [he, List.length_map, List.length_nil, sizeLine_eq]
      omega
    · rw [List.length_map] at hl
      have hr4 := rl r hr
      walk_at "st"
      refine ⟨by rw [List.length_map]; exact hl, ?_⟩
      refine lcgo_map D.str (fun v => encR (r ++ [v])) dom acc' (fun v hv => ⟨_, rfl, fun R2 r2 => ?_⟩) q
      walk_at "st"
      exact addK_enc (by rw [sizeLine_eq]; omega) r2
    · rw [he, List.nil_append]
      walk_at "st"
      exact ih _ _ ⟨rfl, j + 1, _, _, _, by omega, rfl⟩
  · unfold dItR
    rw [List.length_map, List.length_range]
    omega
theorem dd_all_rows (T : Facts P K mg) : DefD P w K mg base 1 "all_rows" ["domain", "width"] dspAllRows T.all_rows.f T.all_rows.fd := .of T.all_rows (ok_all_rows T)

/-- what all of a row but one are -/
def nearS (l : List Str) : Option Str := (l.take 2).find? fun x => decide (l.length - 1 ≤ l.count x)
def nearD (l : List Str) : D := match nearS l with
  | some x => .str x
  | none => .non
theorem encR_k {l : List Str} (h : 2 ≤ l.length) : encR l = .kup (l.map .str) := if_neg (by omega)
def dspNear : DSp := fun ds S Q _ => ∃ l : List Str, ds = [encR l] ∧ (l.length = 3 ∨ l.length = 4) ∧ Q (nearD l) S
theorem sc_near_value : FnScope ["some", "item"] ["some"] (defScope sNearValue) := ⟨rfl, rfl, rfl, by decide +kernel, rfl, by decide +kernel, by decide +kernel⟩
theorem ok_near_value (T : Facts P K mg) : FnD P w K mg base 1 T.near_value.f T.near_value.fd ["some"] dspNear := by
  refine fn_ofE (k := 0) T.near_value.F sc_near_value (fun ds S Q E ⟨l, e, _⟩ => by subst e; rfl) fun cdv A outer s H E hr hgd tk hp => ?_
  refine ⟨_, (dss_cons (ds_for rfl (di_tup (de_slice (dv 0) do_none (do_some de_int))) (dg_name 1 sc_near_value.nd) (dss_one (ds_if (dt_cmp op_ge (lift_cmpI _) (de_tcount (dv 0) (dv 1)) (de_op op_sub (lift_int _) (de_len T.bis (dv 0)) de_int) rfl) (dss_one (ds_ret (dv 1))) dss_nil)) hp)
      (dss_one (ds_ret de_non))), ?_⟩
  intro ds S Q E' ⟨l, e, hl, q⟩
  subst e
  rw [encR_k (by omega)]
  clear tk hp hgd hr
  match l, hl, q with
  | a :: b :: c :: r, hl, q =>
    walk_at "st"
    have ec : cutD (List.map D.str (a :: b :: c :: r)) none (some 2) = [.str a, .str b] := cut_take (List.map D.str (a :: b :: c :: r)) 2
    show cutD _ _ _ ≠ _ ∧ _
    rw [ec]
    refine ⟨fun e => (by simp at e), ?_⟩
    have hn : ∀ x : Str, (decide (((List.map D.str (a :: b :: c :: r)).length : Int) - 1 ≤ ((a :: b :: c :: r).count x : Nat))) = decide ((a :: b :: c :: r).length - 1 ≤ (a :: b :: c :: r).count x) := fun x => by
      rw [List.length_map]
      refine decide_eq_decide.mpr ?_
      omega
    walk_at "st"
    refine ⟨a :: b :: c :: r, rfl, ?_⟩
    walk_at "st"
    refine ⟨a, rfl, ?_⟩
    walk_at "st"
    refine iteB (fun h => ?_) fun h => ?_
    · have h2 := (hn a).symm.trans h
      have e : nearD (a :: b :: c :: r) = .str a := by
        unfold nearD nearS
        rw [show (a :: b :: c :: r).take 2 = [a, b] from rfl]
        simp only [List.find?, h2]
      rw [e] at q
      walk_at "st"
      exact q
    · have h2 := (hn a).symm.trans h
      walk_at "st"
      refine ⟨a :: b :: c :: r, rfl, ?_⟩
      walk_at "st"
      refine ⟨b, rfl, ?_⟩
      walk_at "st"
      refine iteB (fun g => ?_) fun g => ?_
      · have g2 := (hn b).symm.trans g
        have e : nearD (a :: b :: c :: r) = .str b := by
          unfold nearD nearS
          rw [show (a :: b :: c :: r).take 2 = [a, b] from rfl]
          simp only [List.find?, h2, g2]
        rw [e] at q
        walk_at "st"
        exact q
      · have g2 := (hn b).symm.trans g
        have e : nearD (a :: b :: c :: r) = .non := by
          unfold nearD nearS
          rw [show (a :: b :: c :: r).take 2 = [a, b] from rfl]
          simp only [List.find?, h2, g2]
        rw [e] at q
        walk_at "st"
        exact q
  | [], hl, q => simp at hl
  | [a], hl, q => simp at hl
  | [a, b], hl, q => simp at hl
theorem dd_near_value (T : Facts P K mg) : DefD P w K mg base 1 "near_value" ["some"] dspNear T.near_value.f T.near_value.fd := .of T.near_value (ok_near_value T)


end
end K30

set_option maxRecDepth 100000
set_option maxHeartbeats 4000000
namespace K30
open PySem PySem.Spec L2 DL
section
variable {P : Program} {w : World} {K : PySem.W.Frag} {mg : Str → Option Value} {base : Heap}
theorem all_names {dom : List Str} (h : ∀ z ∈ dom, isNameS z = true) : (dom.map D.str).all isNameD = true := by
  rw [List.all_map, List.all_eq_true]
  exact fun z hz => h z hz
theorem dom_ok {dom : List Str} (h : Dom3 dom) (nm : ∀ z ∈ dom, isNameS z = true) : isDomD (.tup (dom.map .str)) = true := by
  obtain ⟨pw, nd, l1, l3⟩ := dom3_pw h
  have u : dom = DLS.uniqS dom := (DLS.uniqS_self pw nd fun k => Iff.rfl).symm
  simp only [isDomD, List.length_map, l1, l3, decide_true, all_names nm, strsOf_map, ← u]
  rfl
theorem row_ok {dom row : List Str} (h : ∀ r ∈ row, r ∈ dom) : isRowD dom row.length (.tup (row.map .str)) = true := by
  show (decide (((row.map D.str).length : Int) = row.length) && (row.map D.str).all (inDom dom)) = true
  rw [List.length_map, List.all_map, decide_eq_true rfl, Bool.true_and, List.all_eq_true]
  exact fun z hz => decide_eq_true (h z hz)
theorem nm_len {z : Str} (h : isNameS z = true) : z.length ≤ sizeLine := by
  have := (name_ok h).2
  rw [sizeLine_eq]
  omega
theorem okI_str {S : Store} {z : Str} (h : z.length ≤ sizeLine) : OkI S (.str z) := ⟨⟨_, rfl⟩, fun y e => by cases e; exact h⟩
theorem okI_tup {S : Store} {ds : List D} : OkI S (.tup ds) := ⟨⟨_, rfl⟩, fun y e => by cases e⟩
/-- the texts of a tuple -/
def strsL : List D → List Str
  | [] => []
  | .str z :: r => z :: strsL r
  | _ :: r => strsL r
theorem strsL_dom {dom : List Str} : ∀ {es : List D}, es.all (inDom dom) = true → es = (strsL es).map .str ∧ ∀ z ∈ strsL es, z ∈ dom
  | [], _ => ⟨rfl, fun z hz => by cases hz⟩
  | e :: es, h => by
    rw [List.all_cons, Bool.and_eq_true] at h
    obtain ⟨h1, h2⟩ := strsL_dom h.2
    cases e with
    | str z =>
      refine ⟨by show _ :: es = _ :: (strsL es).map .str; rw [← h1], fun y hy => ?_⟩
      rcases List.mem_cons.mp hy with e | hy
      · rw [e]; exact of_decide_eq_true h.1
      · exact h2 y hy
    | _ => exact absurd h.1 Bool.false_ne_true
theorem strsL_map : ∀ l : List Str, strsL (l.map .str) = l
  | [] => rfl
  | x :: l => by
    show x :: strsL (l.map .str) = _
    rw [strsL_map l]
def rowOf : D → List Str
  | .tup es => strsL es
  | _ => []
theorem domD_of {d : D} (h : isDomD d = true) : ∃ dom : List Str, d = .tup (dom.map .str) ∧ Dom3 dom ∧ ∀ z ∈ dom, isNameS z = true := by
  cases d with
  | tup es =>
    have h : (decide (1 ≤ es.length) && decide (es.length ≤ 3) && es.all isNameD && (match strsOf es with
      | some ss => decide (ss = DLS.uniqS ss)
      | none => false)) = true := h
    simp only [Bool.and_eq_true] at h
    obtain ⟨⟨⟨l1, l3⟩, nm⟩, u⟩ := h
    obtain ⟨dom, rfl, hn⟩ := names_of nm
    rw [strsOf_map] at u
    have u := of_decide_eq_true u
    have l1 := of_decide_eq_true l1
    have l3 := of_decide_eq_true l3
    rw [List.length_map] at l1 l3
    refine ⟨dom, rfl, dom3_of l1 l3 ?_ ?_, hn⟩
    · rw [u]
      exact DLS.sortS_pw _
    · rw [u]
      exact DLS.uniqS_nodup _
  | _ => cases h
/-- values of any kind -/
structure AnyD (d : D) : Prop where
  ok : ∀ S, OkI S d
  els : ∀ es, d = .tup es → es.length ≤ sizeLine ∧ ∀ e ∈ es, ∀ S, OkI S e
theorem strOk_app {x y : Str} (h : PyData.strOk x = true) (g : PyData.strOk y = true) : PyData.strOk (x ++ y) = true := by
  unfold PyData.strOk at *
  show (x.cps ++ y.cps).all _ = true
  rw [Array.all_append, h, g]
  rfl
theorem head_at : ∀ {dom : List Str}, 1 ≤ dom.length → ∃ b0, b0 ∈ dom ∧ L2.atI (dom.map D.str) 0 = some (.str b0)
  | b :: r, _ => ⟨b, List.mem_cons_self, L2.atI_nat (j := 0) rfl⟩
  | [], h => absurd h (by simp)
/-- a value that is handed to a choice, and shown -/
structure AnyR (d : D) : Prop where
  any : AnyD d
  rep : RepW 1000000 10 d
def okB : D → Bool
  | .str z => decide (z.length ≤ 1000)
  | .ref _ => false
  | .ty _ => false
  | .obj _ _ _ => false
  | .exc _ _ _ => false
  | .ctp _ => false
  | .kup _ => false
  | .scr _ => false
  | .dT _ _ => false
  | .kdK _ _ => false
  | .dX _ _ _ => false
  | _ => true
theorem okI_b {d : D} (h : okB d = true) : ∀ S, OkI S d := fun S => by
  cases d with
  | str z => exact okI_str (by have := of_decide_eq_true h; rw [sizeLine_eq]; omega)
  | ref _ => cases h
  | ty _ => cases h
  | obj _ _ _ => cases h
  | exc _ _ _ => cases h
  | ctp _ => cases h
  | kup _ => cases h
  | scr _ => cases h
  | dT _ _ => cases h
  | kdK _ _ => cases h
  | dX _ _ _ => cases h
  | _ => exact ⟨⟨_, rfl⟩, fun z e => by cases e⟩
def anyB : D → Bool
  | .tup es => decide (es.length ≤ 1000) && es.all okB
  | d => okB d
theorem anyD_b {d : D} (h : anyB d = true) : AnyD d := by
  cases d with
  | tup es =>
    have h' : (decide (es.length ≤ 1000) && es.all okB) = true := h
    simp only [Bool.and_eq_true, decide_eq_true_eq, List.all_eq_true] at h'
    exact ⟨fun S => okI_tup, fun fs e => by cases e; exact ⟨by rw [sizeLine_eq]; omega, fun x hx => okI_b (h'.2 x hx)⟩⟩
  | _ => exact ⟨okI_b h, fun es e => by cases e⟩
theorem anyR_b {d : D} (h : (anyB d && repB 1000000 10 d) = true) : AnyR d := by
  rw [Bool.and_eq_true] at h
  exact ⟨anyD_b h.1, repW_of h.2⟩
theorem anyR_s {z : Str} (h : PyData.strOk z = true) (l : z.length ≤ 1000) : AnyR (.str z) :=
  ⟨anyD_b (decide_eq_true l), ((repL_str h).repW).mono (by omega) (by omega)⟩
theorem anyR_t {es : List D} (hl : es.length ≤ 150) (h : ∀ e ∈ es, ∀ S, OkI S e) (r : ∀ e ∈ es, RepW 5000 5 e) : AnyR (.tup es) := by
  have z : es.length * 5002 ≤ 150 * 5002 := Nat.mul_le_mul_right _ hl
  exact ⟨⟨fun S => okI_tup, fun fs e => by cases e; exact ⟨by rw [sizeLine_eq]; omega, h⟩⟩, (repW_tup r).mono (by omega) (by omega)⟩
theorem anyR_l {es : List D} (hl : es.length ≤ 150) (r : ∀ e ∈ es, RepW 5000 5 e) : AnyR (.lst es) := by
  have z : es.length * 5002 ≤ 150 * 5002 := Nat.mul_le_mul_right _ hl
  exact ⟨⟨fun S => ⟨⟨_, rfl⟩, fun z e => by cases e⟩, fun fs e => by cases e⟩, (repW_lst r).mono (by omega) (by omega)⟩
theorem strs_W {gs : List Str} (h : ∀ z ∈ gs, PyData.strOk z = true ∧ z.length ≤ 100) : ∀ e ∈ gs.map D.str, RepW 5000 5 e := fun e he => by
  obtain ⟨z, hz, rfl⟩ := List.mem_map.mp he
  exact ((repL_str (h z hz).1).repW).mono (by have := (h z hz).2; omega) (by omega)
theorem strs_O {gs : List Str} (h : ∀ z ∈ gs, PyData.strOk z = true ∧ z.length ≤ 100) : ∀ e ∈ gs.map D.str, ∀ S, OkI S e := fun e he S => by
  obtain ⟨z, hz, rfl⟩ := List.mem_map.mp he
  exact okI_str (by rw [sizeLine_eq]; have := (h z hz).2; omega)
theorem anyR_names {gs : List Str} (hl : gs.length ≤ 400) (h : ∀ z ∈ gs, PyData.strOk z = true ∧ z.length ≤ 100) : AnyR (.tup (gs.map .str)) := by
  have z : gs.length * 1004 ≤ 400 * 1004 := Nat.mul_le_mul_right _ hl
  refine ⟨⟨fun S => okI_tup, fun fs e => by cases e; exact ⟨by rw [sizeLine_eq, List.length_map]; omega, strs_O h⟩⟩, (repW_tup (n := 1002) (m := 0) fun e he => ?_).mono (by rw [List.length_map]; omega) (by omega)⟩
  obtain ⟨z, hz, rfl⟩ := List.mem_map.mp he
  exact ((repL_str (h z hz).1).repW).mono (by have := (h z hz).2; omega) (by omega)
/-- an item of what is handed over -/
structure EltR (e : D) : Prop where
  ok : ∀ S, OkI S e
  rep : RepW 5000 5 e
theorem eltR_b {e : D} (h : (okB e && repB 5000 5 e) = true) : EltR e := by
  rw [Bool.and_eq_true] at h
  exact ⟨okI_b h.1, repW_of h.2⟩
theorem eltR_s {z : Str} (h : PyData.strOk z = true) (l : z.length ≤ 100) : EltR (.str z) := ⟨okI_b (decide_eq_true (by omega)), ((repL_str h).repW).mono (by omega) (by omega)⟩
theorem eltR_ss {gs : List Str} (h : ∀ z ∈ gs, PyData.strOk z = true ∧ z.length ≤ 100) : ∀ e ∈ gs.map D.str, EltR e := fun e he => by
  obtain ⟨z, hz, rfl⟩ := List.mem_map.mp he
  exact eltR_s (h z hz).1 (h z hz).2
theorem eltR_tup {gs : List Str} (hl : gs.length ≤ 3) (h : ∀ z ∈ gs, PyData.strOk z = true ∧ z.length ≤ 100) : EltR (.tup (gs.map .str)) := by
  have z : gs.length * 1004 ≤ 3 * 1004 := Nat.mul_le_mul_right _ hl
  exact ⟨fun S => okI_tup, (repW_tup (n := 1002) (m := 0) (ds := gs.map .str) fun e he => by
    obtain ⟨z, hz, rfl⟩ := List.mem_map.mp he
    exact ((repL_str (h z hz).1).repW).mono (by have := (h z hz).2; omega) (by omega)).mono (by rw [List.length_map]; omega) (by omega)⟩
theorem eltR_lst {gs : List Str} (hl : gs.length ≤ 3) (h : ∀ z ∈ gs, PyData.strOk z = true ∧ z.length ≤ 100) : EltR (.lst (gs.map .str)) := by
  have z : gs.length * 1004 ≤ 3 * 1004 := Nat.mul_le_mul_right _ hl
  exact ⟨fun S => ⟨⟨_, rfl⟩, fun z e => by cases e⟩, (repW_lst (n := 1002) (m := 0) (ds := gs.map .str) fun e he => by
    obtain ⟨z, hz, rfl⟩ := List.mem_map.mp he
    exact ((repL_str (h z hz).1).repW).mono (by have := (h z hz).2; omega) (by omega)).mono (by rw [List.length_map]; omega) (by omega)⟩
theorem anyR_e {es : List D} (hl : es.length ≤ 150) (h : ∀ e ∈ es, EltR e) : AnyR (.tup es) := anyR_t hl (fun e he => (h e he).ok) fun e he => (h e he).rep
theorem join_ok0 : ∀ {ys : List Str}, (∀ z ∈ ys, PyData.strOk z = true ∧ z.length ≤ 8) → PyData.strOk (Str.join ⟨#[]⟩ ys) = true ∧ (Str.join ⟨#[]⟩ ys).length ≤ 8 * ys.length
  | [], _ => ⟨by decide +kernel, by decide +kernel⟩
  | z :: ys, h => by
    have e : Str.join ⟨#[]⟩ (z :: ys) = z ++ Str.join ⟨#[]⟩ ys := by
      cases ys with
      | nil =>
        show z = z ++ (⟨#[]⟩ : Str)
        exact DLS.str_ext (by show z.cps.toList = (z.cps ++ #[]).toList; simp)
      | cons y r =>
        show (z ++ (⟨#[]⟩ : Str)) ++ Str.join ⟨#[]⟩ (y :: r) = _
        have : z ++ (⟨#[]⟩ : Str) = z := DLS.str_ext (by show (z.cps ++ #[]).toList = z.cps.toList; simp)
        rw [this]
    obtain ⟨a, b⟩ := join_ok0 (ys := ys) fun x hx => h x (List.mem_cons_of_mem _ hx)
    obtain ⟨c, d⟩ := h z List.mem_cons_self
    rw [e]
    exact ⟨strOk_app c a, by rw [strLen_append, List.length_cons]; omega⟩
theorem join_ok {ys : List Str} (h : ∀ z ∈ ys, PyData.strOk z = true ∧ z.length ≤ 8) : PyData.strOk (Txt.join (Str.ofString "") ys) = true ∧ (Txt.join (Str.ofString "") ys).length ≤ 8 * ys.length := by
  have e : Txt.join (Str.ofString "") ys = Str.join ⟨#[]⟩ ys := eq_of_beq (PyProof.Rows.join_closes (by decide +kernel))
  rw [e]
  exact join_ok0 h
theorem sum_len : ∀ {ys : List Str}, (∀ z ∈ ys, z.length ≤ 8) → (ys.map (·.length)).sum ≤ 8 * ys.length
  | [], _ => Nat.le_refl _
  | z :: ys, h => by
    have a := sum_len (ys := ys) fun x hx => h x (List.mem_cons_of_mem _ hx)
    have b := h z List.mem_cons_self
    rw [List.map_cons, List.sum_cons, List.length_cons]
    omega
theorem anyD_ss {gs : List Str} (hl : gs.length ≤ 100) (h : ∀ z ∈ gs, isNameS z = true) : AnyD (.tup (gs.map .str)) :=
  ⟨fun S => okI_tup, fun es e => by cases e; exact ⟨by rw [List.length_map, sizeLine_eq]; omega, strs_O fun z hz => ⟨(name_ok (h z hz)).1, by have := (name_ok (h z hz)).2; omega⟩⟩⟩
theorem rowOf_tup (gs : List Str) : rowOf (.tup (gs.map .str)) = gs := strsL_map gs
end
end K30

set_option maxRecDepth 100000
set_option maxHeartbeats 4000000
namespace K30
open PySem PySem.Spec L2 DL
section
variable {P : Program} {w : World} {K : PySem.W.Frag} {mg : Str → Option Value} {base : Heap}
abbrev voteNs : List Str := ["domain", "count", "results", "by_values"]
abbrev voteDs (dom : List Str) (n : Nat) (row : List Str) (x : D) : List D := [.tup (dom.map .str), .int n, .tup (row.map .str), x]
def voteD (C : Addr) (dom : List Str) (n : Nat) (row : List Str) (x : D) : D := .obj C voteNs (voteDs dom n row x)
/-- what all but one say, it says -/
def nearB (dom : List Str) (n : Nat) (row : List Str) : Bool := ((rowsS dom n).zip row).all fun p => decide (nearS p.1 = none) || decide (nearS p.1 = some p.2)
structure VoteOk (dom : List Str) (n : Nat) (row : List Str) : Prop where
  d3 : Dom3 dom
  nm : ∀ z ∈ dom, isNameS z = true
  cn : n = 3 ∨ n = 4
  len : row.length = (rowsS dom n).length
  mem : ∀ r ∈ row, r ∈ dom
  near : nearB dom n row = true
theorem VoteOk.len81 {dom row : List Str} {n : Nat} (ok : VoteOk dom n row) : row.length ≤ 81 := by
  rw [ok.len]
  exact rowsS_small (dom3_pw ok.d3).2.2.2 (by rcases ok.cn with h | h <;> omega)
theorem VoteOk.nr {dom row : List Str} {n : Nat} (ok : VoteOk dom n row) : ∀ z ∈ row, isNameS z = true := fun z hz => ok.nm z (ok.mem z hz)
def cntD : D → Bool
  | .int n => decide (n = 3) || decide (n = 4)
  | _ => false
def cntOf : D → Nat
  | .int n => n.toNat
  | _ => 0
/-- what is wrong with the values of a vote -/
def vDueS (d c r : D) : Str :=
  if isDomD d = true then
    if cntD c = true then
      if isRowD (rowOf d) ((rowsS (rowOf d) (cntOf c)).length : Int) r = true then
        if nearB (rowOf d) (cntOf c) (rowOf r) = true then "" else "odd"
      else "results"
    else "count"
  else "domain"
theorem vput1 (x : D) : putFD "domain" x (([] : List Str).zip []) = [(("domain" : Str), x)] := rfl
theorem vput2 (x y : D) : putFD "count" y ((["domain"] : List Str).zip [x]) = [(("domain" : Str), x), (("count" : Str), y)] := by with_unfolding_all rfl
theorem vput3 (x y z : D) : putFD "results" z ((["domain", "count"] : List Str).zip [x, y]) = [(("domain" : Str), x), (("count" : Str), y), (("results" : Str), z)] := by with_unfolding_all rfl
theorem vput4 (x y z u : D) : putFD "by_values" u ((["domain", "count", "results"] : List Str).zip [x, y, z]) = [(("domain" : Str), x), (("count" : Str), y), (("results" : Str), z), (("by_values" : Str), u)] := by with_unfolding_all rfl
theorem rowsS_nd {dom : List Str} (pw : dom.Pairwise (fun a b => DLS.leS a b = true)) (nd : dom.Nodup) (n : Nat) : (rowsS dom n).Nodup := (rowsS_asc pw nd n).nodup
theorem mergeX {hf : List Key → Int} {ls : List (List Str)} {vs : List D} (h : ls.Nodup) (hl : ls.length = vs.length) : D.dX hf ((mergeDT [] ((ls.map keyT).zip vs)).map (·.1)) ((mergeDT [] ((ls.map keyT).zip vs)).map (·.2)) = .dX hf (ls.map keyT) vs := by
  have hl2 : (ls.map keyT).length = vs.length := by rw [List.length_map]; exact hl
  rw [mergeDT_nodup _ [] (by rw [List.nil_append, zip_fst hl2]; exact keyT_nodup h), List.nil_append, zip_fst hl2, zip_snd hl2]
/-- what a vote looks up -/
def votesX (hf : List Key → Int) (dom : List Str) (n : Nat) (row : List Str) : D := .dX hf ((rowsS dom n).map keyT) (row.map .str)
def dspVInit (hf : List Key → Int) (C CE : Addr) : DSp := fun ds S Q E => ∃ (a : Addr) (d c r : D), ds = [.ref a, d, c, r] ∧ S a = some (.ins C [] []) ∧ AnyD d ∧ AnyD c ∧ AnyD r ∧
  (vDueS d c r = "" → ∀ (dom : List Str) (n : Nat) (row : List Str), VoteOk dom n row → d = .tup (dom.map .str) → c = .int n → r = .tup (row.map .str) → ∀ S', S' a = some (.ins C voteNs (voteDs dom n row (votesX hf dom n row))) → (∀ b, b ≠ a → S' b = S b) → Q .non S') ∧
  (vDueS d c r ≠ "" → E CE ["word"] [.str (vDueS d c r)] S)
theorem sc_Vote_init : FnScope ["self", "domain", "count", "results", "points", "some", "value"] ["self", "domain", "count", "results"] (defScope sVote_init) := ⟨rfl, rfl, rfl, by decide +kernel, rfl, by decide +kernel, by decide +kernel⟩
theorem ok_Vote_init (T : Facts P K mg) {aC : Addr} (hC : CTup K mg "COUNTS" aC [3, 4]) : FnD P w K mg base 3 T.Vote_init.f T.Vote_init.fd ["self", "domain", "count", "results"] (dspVInit (hfX P w) T.Vote.C T.NoVote.C) := by
  refine fn_ofE (k := 2) T.Vote_init.F sc_Vote_init (fun ds S Q E ⟨a, d, c, r, e, _⟩ => by subst e; rfl) fun cdv A outer s H E hr hgd tk hp => ?_
  refine ⟨_, (dss_cons (ds_if (dt_not (dt_val (de_def (dd_is_domain T) (hr.mono (by decide)) hgd tk (da_cons (dv 1) da_nil)))) (dss_one (ds_raise T.NoVote.xi T.bis.super (hr.mono (by decide)) rfl tk T.NoVote.at_ de_str)) dss_nil)
      (dss_cons (ds_if (DW.dt (dw_or (dt_not (dt_val (de_def (dd_is_integer T) (hr.mono (by decide)) hgd tk (da_cons (dv 2) da_nil)))) (dw_or1 (dt_cmp op_notIn_seq (lift_inC true) (dv 2) (de_glob (v := .ref _) hC.at_ rfl (fun _ => .ref _)) rfl)))) (dss_one (ds_raise T.NoVote.xi T.bis.super (hr.mono (by decide)) rfl tk T.NoVote.at_ de_str)) dss_nil)
      (dss_cons (ds_set (i := 4) sc_Vote_init.nd (de_def (dd_all_rows T) (hr.mono (by decide)) hgd tk (da_cons (dv 1) (da_cons (dv 2) da_nil))))
      (dss_cons (ds_if (dt_not (dt_val (de_def (dd_is_row T) (hr.mono (by decide)) hgd tk (da_cons (dv 1) (da_cons (de_len T.bis (dv 4)) (da_cons (dv 3) da_nil)))))) (dss_one (ds_raise T.NoVote.xi T.bis.super (hr.mono (by decide)) rfl tk T.NoVote.at_ de_str)) dss_nil)
      (dss_cons (ds_if (dt_not (dt_val (de_all rfl T.bis (de_lc (own := [("some", 5), ("value", 6)]) rfl sc_Vote_init.nd (di_zip T.bis.zip (da_cons (dv 4) (da_cons (dv 3) da_nil))) (⟨rfl, by decide +kernel, by decide +kernel, by decide +kernel, by decide +kernel⟩ : BlkOk ["self", "domain", "count", "results", "points", "some", "value"] (defScope sVote_init) _ [("some", 5), ("value", 6)]) (fun s H C cl fp => (dg_tup rfl (gn_cons 5 sc_Vote_init.nd (gn_cons 6 sc_Vote_init.nd gn_nil)))) (fun s H C cl fp => dts_nil)
        (fun s H C cl fp => (de_cmp op_in_seq (lift_in false) (de_def (dd_near_value T) (hr.mono (by decide)) hgd takes_n0 (da_cons (dv 5) da_nil)) (de_tup (da_cons de_non (da_cons (dv 6) da_nil))) rfl)))))) (dss_one (ds_raise T.NoVote.xi T.bis.super (hr.mono (by decide)) rfl tk T.NoVote.at_ de_str)) dss_nil)
      (dss_cons (ds_fld T.Vote.cl T.Vote_no_domain (dv 0) (dv 1))
      (dss_cons (ds_fld T.Vote.cl T.Vote_no_count (dv 0) (dv 2))
      (dss_cons (ds_fld T.Vote.cl T.Vote_no_results (dv 0) (dv 3))
      (dss_one (ds_fld T.Vote.cl T.Vote_no_by_values (dv 0) (de_dictZipX rfl hr.units T.bis.dict T.bis.zip (da_cons (dv 4) (da_cons (dv 3) da_nil))))))))))))), ?_⟩
  intro ds S Q E' ⟨a, d, c, r, e, ha, od, oc, or, q, qx⟩
  subst e
  clear tk hp hgd hr
  walk_at "st"
  refine ⟨_, rfl, od.ok S, fun es e z hz => (od.els es e).2 z hz S, ?_⟩
  walk_at "st"
  refine iteB (fun h => ?_) fun h => ?_
  · have h : isDomD d = false := by simpa using h
    have e : vDueS d c r = "domain" := by unfold vDueS; rw [h]; rfl
    rw [e] at qx
    walk_at "st"
    exact qx (by decide)
  have h : isDomD d = true := by simpa using h
  obtain ⟨dom, rfl, d3, nm⟩ := domD_of h
  have rd : rowOf (.tup (dom.map .str)) = dom := strsL_map dom
  obtain ⟨pw, nd, l1, l3⟩ := dom3_pw d3
  have nz : ∀ z ∈ dom, z.length ≤ sizeLine := fun z hz => nm_len (nm z hz)
  obtain ⟨⟨tc, htc⟩, _⟩ := oc.ok S
  have noc : cntD c = false → vDueS (.tup (dom.map .str)) c r = "count" := fun e => by unfold vDueS; rw [if_pos h, e]; rfl
  walk_at "st"
  refine ⟨c, tc, rfl, htc, ?_⟩
  walk_at "st"
  refine iteB (fun hi => ?_) fun hi => ?_
  · have e := noc (by cases c <;> first | rfl | cases hi)
    rw [e] at qx
    walk_at "st"
    exact qx (by decide)
  match c, oc, q, qx, noc, hi with
  | .int i, oc, q, qx, noc, hi =>
  walk_at "st"
  refine ⟨i, aC, [3, 4], rfl, rfl, hC.sq, ?_⟩
  walk_at "st"
  refine iteB (fun hc => ?_) fun hc => ?_
  · have e := noc (by
      have hc : (!decide (i ∈ [(3 : Int), 4])) = true := hc
      simp at hc
      show (decide (i = 3) || decide (i = 4)) = false
      simp [hc])
    rw [e] at qx
    walk_at "st"
    exact qx (by decide)
  have hc : i = 3 ∨ i = 4 := by
    have hc : (!decide (i ∈ [(3 : Int), 4])) = false := hc
    have hc : ¬ i = 3 → i = 4 := by simpa using hc
    omega
  have hn : ∃ n : Nat, i = (n : Int) ∧ (n = 3 ∨ n = 4) := ⟨i.toNat, by omega, by omega⟩
  obtain ⟨n, rfl, hn⟩ := hn
  have cd : cntD (.int (n : Int)) = true := by
    show (decide ((n : Int) = 3) || decide ((n : Int) = 4)) = true
    rcases hn with e | e <;> subst e <;> rfl
  have co : cntOf (.int (n : Int)) = n := Int.toNat_natCast n
  clear noc
  have pl := rowsS_small l3 (n := n) (by omega)
  walk_at "st"
  refine ⟨dom, n, rfl, l3, by omega, ?_⟩
  walk_at "st"
  refine ⟨dom, _, r, rfl, or.ok S, fun es e => ⟨(or.els es e).1, fun z hz => (or.els es e).2 z hz S⟩, ?_⟩
  rw [List.length_map]
  walk_at "st"
  refine iteB (fun g => ?_) fun g => ?_
  · have g : isRowD dom ((rowsS dom n).length : Int) r = false := by simpa using g
    have e : vDueS (.tup (dom.map .str)) (.int n) r = "results" := by unfold vDueS; rw [rd, co, if_pos h, if_pos cd, g]; rfl
    rw [e] at qx
    walk_at "st"
    exact qx (by decide)
  have g : isRowD dom ((rowsS dom n).length : Int) r = true := by simpa using g
  match r, g, or, q, qx with
  | .tup es, g, or, q, qx =>
    have g : (decide ((es.length : Int) = ((rowsS dom n).length : Int)) && es.all (inDom dom)) = true := g
    rw [Bool.and_eq_true] at g
    obtain ⟨es_, hm⟩ := strsL_dom g.2
    generalize hrow : strsL es = row at es_ hm
    subst es_
    have rr : rowOf (.tup (row.map .str)) = row := strsL_map row
    have hlen : row.length = (rowsS dom n).length := by
      have := of_decide_eq_true g.1
      rw [List.length_map] at this
      omega
    have gg : isRowD dom ((rowsS dom n).length : Int) (.tup (row.map .str)) = true := by show (decide _ && _) = true; rw [Bool.and_eq_true]; exact g
    walk_at "st"
    refine ⟨_, _, rfl, by rw [List.length_map, List.length_map]; exact hlen.symm, ?_⟩
    have hz : (List.map (fun p => D.tup [p.fst, p.snd]) ((List.map encR (rowsS dom n)).zip (List.map D.str row))) = ((rowsS dom n).zip row).map fun p => D.tup [encR p.1, .str p.2] := by
      rw [List.zip_map, List.map_map]
      rfl
    rw [hz]
    refine ⟨by rw [List.length_map, List.length_zip, sizeLine_eq]; omega, ?_⟩
    refine lcgo_map (fun p : List Str × Str => D.tup [encR p.1, .str p.2]) (fun p => .bl (decide (nearS p.1 = none) || decide (nearS p.1 = some p.2))) ((rowsS dom n).zip row) [] (fun p hp => ⟨_, rfl, fun R r => ?_⟩) ?_
    · walk_at "st"
      refine ⟨p.1, rfl, by rw [(rowsS_each (List.of_mem_zip hp).1).1]; exact hn, ?_⟩
      walk_at "st"
      have e : nearD p.1 = (match nearS p.1 with | some x => .str x | none => .non) := rfl
      cases hns : nearS p.1 with
      | none =>
        rw [hns] at e r
        rw [e]
        exact ⟨_, .inl rfl, rfl, rfl, r⟩
      | some x =>
        rw [hns] at e r
        rw [e]
        refine ⟨[.non, .str p.2], .inl rfl, rfl, rfl, ?_⟩
        have h : ([D.non, .str p.2].any fun z => eqF z (.str x)) = (decide (some x = none) || decide (some x = some p.2)) := by
          show (false || ((p.2 == x) || false)) = _
          by_cases hx : x = p.2
          · subst hx; simp
          · simp [hx, Ne.symm hx]
        show R (.bl ([D.non, .str p.2].any fun z => eqF z (.str x))) S
        rw [h]
        exact r
    walk_at "st"
    refine ⟨((rowsS dom n).zip row).map fun p => decide (nearS p.1 = none) || decide (nearS p.1 = some p.2), by rw [List.nil_append, List.map_map]; rfl, ?_⟩
    have ha1 : (((rowsS dom n).zip row).map fun p => decide (nearS p.1 = none) || decide (nearS p.1 = some p.2)).all id = nearB dom n row := by
      rw [List.all_map]
      rfl
    rw [ha1]
    walk_at "st"
    refine iteB (fun k => ?_) fun k => ?_
    · have k : nearB dom n row = false := by simpa using k
      have e : vDueS (.tup (dom.map .str)) (.int n) (.tup (row.map .str)) = "odd" := by
        unfold vDueS
        rw [rd, rr, co, if_pos h, if_pos cd, if_pos gg, k]
        rfl
      rw [e] at qx
      walk_at "st"
      exact qx (by decide)
    have k : nearB dom n row = true := by simpa using k
    have e : vDueS (.tup (dom.map .str)) (.int n) (.tup (row.map .str)) = "" := by
      unfold vDueS
      rw [rd, rr, co, if_pos h, if_pos cd, if_pos gg, if_pos k]
    have q := q e dom n row ⟨d3, nm, hn, hlen, hm, k⟩ rfl rfl rfl
    clear qx
    walk_at "st"
    refine s_fldPutA ha (by decide) (congrArg (List.map (·.1)) (vput1 _)) (congrArg (List.map (·.2)) (vput1 _)) ?_
    walk_at "st"
    refine s_fldPutA put_same (Nat.le_of_ble_eq_true rfl) (congrArg (List.map (·.1)) (vput2 _ _)) (congrArg (List.map (·.2)) (vput2 _ _)) ?_
    walk_at "st"
    refine s_fldPutA put_same (Nat.le_of_ble_eq_true rfl) (congrArg (List.map (·.1)) (vput3 _ _ _)) (congrArg (List.map (·.2)) (vput3 _ _ _)) ?_
    walk_at "st"
    have hk : (rowsS dom n).map encR = (rowsS dom n).map encK := List.map_congr_left fun l hl => encR_k (by rw [(rowsS_each hl).1]; omega)
    rw [hk]
    refine ⟨rowsS dom n, _, rfl, by rw [List.length_map]; exact hlen.symm, ?_⟩
    rw [mergeX (rowsS_nd pw nd n) (by rw [List.length_map, hlen])]
    walk_at "st"
    refine s_fldPutA put_same (Nat.le_of_ble_eq_true rfl) (congrArg (List.map (·.1)) (vput4 _ _ _ _)) (congrArg (List.map (·.2)) (vput4 _ _ _ _)) ?_
    exact q _ put_same fun b hb => by rw [put_ne hb, put_ne hb, put_ne hb, put_ne hb]
  | .non, g, _, _, _ => cases g
  | .bl _, g, _, _, _ => cases g
  | .int _, g, _, _, _ => cases g
  | .str _, g, _, _, _ => cases g
  | .ty _, g, _, _, _ => cases g
  | .ref _, g, _, _, _ => cases g
  | .kup _, g, _, _, _ => cases g
  | .lst _, g, _, _, _ => cases g
  | .scr _, g, _, _, _ => cases g
  | .dK _ _, g, _, _, _ => cases g
  | .dT _ _, g, _, _, _ => cases g
  | .kdK _ _, g, _, _, _ => cases g
  | .obj _ _ _, g, _, _, _ => cases g
  | .exc _ _ _, g, _, _, _ => cases g
  | .ctp _, g, _, _, _ => cases g


end
end K30

set_option maxRecDepth 100000
set_option maxHeartbeats 4000000
namespace K30
open PySem PySem.Spec L2 DL
section
variable {P : Program} {w : World} {K : PySem.W.Frag} {mg : Str → Option Value} {base : Heap}
theorem vfl {C : Addr} {S : Store} {dom row : List Str} {n : Nat} {x : D} : objD C S (voteD C dom n row x) = some (voteNs.zip (voteDs dom n row x)) := by
  show (if C = C then _ else _) = _
  rw [if_pos rfl]
theorem vlk_dom {x y z u : D} : (voteNs.zip [x, y, z, u]).lookup ("domain" : Str) = some x := by with_unfolding_all rfl
theorem vlk_cnt {x y z u : D} : (voteNs.zip [x, y, z, u]).lookup ("count" : Str) = some y := by with_unfolding_all rfl
theorem vlk_res {x y z u : D} : (voteNs.zip [x, y, z, u]).lookup ("results" : Str) = some z := by with_unfolding_all rfl
theorem vlk_by {x y z u : D} : (voteNs.zip [x, y, z, u]).lookup ("by_values" : Str) = some u := by with_unfolding_all rfl
theorem kit_self {K : PySem.W.Frag} {C : Addr} : PySem.W.kitOne K (.ref C) (.ref C) = some true := by
  unfold PySem.W.kitOne
  rw [if_pos (by simp)]
def sameB (dom : List Str) (n : Nat) (row dom2 : List Str) (n2 : Nat) (row2 : List Str) : Bool := decide (dom = dom2) && (decide (n = n2) && decide (row = row2))
def dspVEq (K : PySem.W.Frag) (C : Addr) : DSp := fun ds S Q _ => ∃ dom n row x o, ds = [voteD C dom n row x, o] ∧ VoteOk dom n row ∧ ((∃ dom2 n2 row2 x2, o = voteD C dom2 n2 row2 x2 ∧ VoteOk dom2 n2 row2 ∧ Q (.bl (sameB dom n row dom2 n2 row2)) S) ∨ ∃ t, tyO K S o t ∧ PySem.W.kitOne K t (.ref C) = some false ∧ Q (.bl false) S)
theorem sc_Vote_eq : FnScope ["self", "other"] ["self", "other"] (defScope sVote_eq) := ⟨rfl, rfl, rfl, by decide +kernel, rfl, by decide +kernel, by decide +kernel⟩
theorem ok_Vote_eq (T : Facts P K mg) : FnD P w K mg base 1 T.Vote_eq.f T.Vote_eq.fd ["self", "other"] (dspVEq K T.Vote.C) := by
  refine fn_ofE (k := 0) T.Vote_eq.F sc_Vote_eq (fun ds S Q E ⟨dom, n, row, x, o, e, _⟩ => by subst e; rfl) fun cdv A outer s H E hr hgd tk hp => ?_
  refine ⟨_, (dss_cons (ds_if (dt_not (dt_val (de_isiO T.bis T.Vote.at_ (dv 1)))) (dss_one (ds_ret de_bl)) dss_nil)
      (dss_one (ds_ret (de_and (de_cmp (op_eqD hr.units) lift_eq (de_fld T.Vote.cl T.Vote_no_domain (dv 0)) (de_fld T.Vote.cl T.Vote_no_domain (dv 1)) rfl) (de_and (de_cmp (op_eqD hr.units) lift_eq (de_fld T.Vote.cl T.Vote_no_count (dv 0)) (de_fld T.Vote.cl T.Vote_no_count (dv 1)) rfl) (de_one (de_cmp (op_eqD hr.units) lift_eq (de_fld T.Vote.cl T.Vote_no_results (dv 0)) (de_fld T.Vote.cl T.Vote_no_results (dv 1)) rfl))))))), ?_⟩
  intro ds S Q E' ⟨dom, n, row, x, o, e, ok, q⟩
  subst e
  clear tk hp hgd hr
  walk_at "st"
  rcases q with ⟨dom2, n2, row2, x2, rfl, ok2, q⟩ | ⟨t, ht, hk, q⟩
  · have n1 : ∀ z ∈ dom, PyData.strOk z = true := fun z hz => (name_ok (ok.nm z hz)).1
    have m1 : ∀ z ∈ dom2, PyData.strOk z = true := fun z hz => (name_ok (ok2.nm z hz)).1
    have r1 : ∀ z ∈ row, PyData.strOk z = true := fun z hz => n1 z (ok.mem z hz)
    have r2 : ∀ z ∈ row2, PyData.strOk z = true := fun z hz => m1 z (ok2.mem z hz)
    refine ⟨_, _, .ref T.Vote.C, true, rfl, .inl ⟨T.Vote.C, T.Vote_ty, by rw [vfl]; rfl, rfl⟩, kit_self, ?_⟩
    walk_at "st"
    refine s_fldP vfl vlk_dom ?_
    walk_at "st"
    refine s_fldP vfl vlk_dom ?_
    refine s_eqTS n1 m1 ?_
    unfold sameB at q
    walk_at "st"
    refine iteB (fun h => ?_) fun h => ?_
    · have h : decide (dom = dom2) = true := h
      rw [h, Bool.true_and] at q
      walk_at "st"
      refine s_fldP vfl vlk_cnt ?_
      walk_at "st"
      refine s_fldP vfl vlk_cnt ?_
      refine rdEq_int ?_
      have en : decide ((n : Int) = (n2 : Int)) = decide (n = n2) := decide_eq_decide.mpr (by omega)
      rw [← en] at q
      walk_at "st"
      refine iteB (fun g => ?_) fun g => ?_
      · have g : decide ((n : Int) = (n2 : Int)) = true := g
        rw [g, Bool.true_and] at q
        walk_at "st"
        refine s_fldP vfl vlk_res ?_
        walk_at "st"
        refine s_fldP vfl vlk_res ?_
        refine s_eqTS r1 r2 ?_
        exact q
      · have g : decide ((n : Int) = (n2 : Int)) = false := g
        rw [g, Bool.false_and] at q
        exact q
    · have h : decide (dom = dom2) = false := h
      rw [h, Bool.false_and] at q
      exact q
  · refine ⟨o, _, t, false, rfl, ht, hk, ?_⟩
    walk_at "st"
    exact q
theorem VoteOk.anyD {dom row : List Str} {n : Nat} (ok : VoteOk dom n row) : AnyD (.tup (dom.map .str)) := anyD_ss (by have := (dom3_pw ok.d3).2.2.2; omega) ok.nm
theorem VoteOk.anyR {dom row : List Str} {n : Nat} (ok : VoteOk dom n row) : AnyD (.tup (row.map .str)) := anyD_ss (by have := ok.len81; omega) ok.nr
theorem anyD_int (i : Int) : AnyD (.int i) := anyD_b rfl
theorem vdue_ok {dom row : List Str} {n : Nat} (ok : VoteOk dom n row) : vDueS (.tup (dom.map .str)) (.int n) (.tup (row.map .str)) = "" := by
  unfold vDueS
  have e := row_ok (dom := dom) ok.mem
  have c : cntD (.int n) = true := by
    show (decide ((n : Int) = 3) || decide ((n : Int) = 4)) = true
    rcases ok.cn with h | h <;> subst h <;> rfl
  rw [ok.len] at e
  rw [dom_ok ok.d3 ok.nm, if_pos rfl, if_pos c, rowOf_tup, rowOf_tup, show cntOf (.int (n : Int)) = n from Int.toNat_natCast n, e, if_pos rfl, if_pos ok.near]
theorem mk_vote {hf : List Key → Int} {C CE : Addr} {S : Store} {R : Addr → DQ} {E : DX} {dom row : List Str} {n : Nat} (ok : VoteOk dom n row) (q : ∀ (a : Addr) (S2 : Store), S2 a = some (.ins C voteNs (voteDs dom n row (votesX hf dom n row))) → DL.del S2 a = S → R a .non S2) : ∀ a, S a = none → dspVInit hf C CE (.ref a :: ([.tup (dom.map .str), .int n, .tup (row.map .str)] ++ [])) (put S a (.ins C [] [])) (R a) E := by
  intro a ha
  refine ⟨a, _, _, _, rfl, put_same, ok.anyD, anyD_int _, ok.anyR, fun h0 dom' n' row' ok' e1 e2 e3 S' h1 h2 => ?_, fun hne => absurd (vdue_ok ok) hne⟩
  have i1 : dom' = dom := by have := congrArg rowOf e1; rw [rowOf_tup, rowOf_tup] at this; exact this.symm
  have i2 : n' = n := by injection e2 with e2; omega
  have i3 : row' = row := by have := congrArg rowOf e3; rw [rowOf_tup, rowOf_tup] at this; exact this.symm
  subst i1 i2 i3
  exact q a S' h1 (del_back ha fun b hb => (h2 b hb).trans (put_ne hb))
theorem own_vcmp {K : PySem.W.Frag} {C : Addr} {neg : Bool} {S : Store} {Q : DQ} {dom row dom2 row2 : List Str} {n n2 : Nat} {x x2 : D} (ok : VoteOk dom n row) (ok2 : VoteOk dom2 n2 row2) (h : Q (.bl (if neg then !sameB dom n row dom2 n2 row2 else sameB dom n row dom2 n2 row2)) S) :
    rdOwn C (dspVEq K C) neg (voteD C dom n row x) (.obj C voteNs (voteDs dom2 n2 row2 x2)) S Q :=
  ⟨by rw [vfl]; rfl, by rw [show D.obj C voteNs (voteDs dom2 n2 row2 x2) = voteD C dom2 n2 row2 x2 from rfl, vfl]; rfl, dom, n, row, x, _, rfl, ok, .inl ⟨dom2, n2, row2, x2, rfl, ok2, ⟨_, rfl, h⟩⟩⟩


end
end K30

set_option maxRecDepth 100000
set_option maxHeartbeats 4000000
namespace K30
open PySem PySem.Spec L2 DL
section
variable {P : Program} {w : World} {K : PySem.W.Frag} {mg : Str → Option Value} {base : Heap}
theorem tyK_tup {S : Store} {d : D} {t : String} (h : tyK S d = some t) : isB t "tuple" = (tupI d).isSome := by
  cases d with
  | kup ds => cases h; rfl
  | ctp ds => cases h; rfl
  | _ =>
    simp only [tyK] at h
    exact ((ty_is h).2.1).trans rfl
/-- a row, of any kind of tuple -/
def isRowI (dom : List Str) (n : Int) (d : D) : Bool := match tupI d with
  | some es => decide ((es.length : Int) = n) && es.all (inDom dom)
  | none => false
/-- a value that is handed to a vote -/
structure Grp (g : D) : Prop where
  ty : ∀ S, ∃ t, tyK S g = some t
  tup : ∀ es, tupI g = some es → (g = .tup es ∨ g = .kup es) ∧ es.length ≤ 100 ∧ ∀ e ∈ es, ∀ S, OkI S e
def dspIsRowI : DSp := fun ds S Q _ => ∃ dom n d, ds = [.tup (dom.map .str), .int n, d] ∧ Grp d ∧ Q (.bl (isRowI dom n d)) S
theorem ok_isRowI {f : Addr} {fd : FuncData} (F : Fun K "is_row" "is_row" sIsRow f fd) (T : Txt K mg) : FnD P w K mg base 1 f fd ["domain", "width", "thing"] dspIsRowI := by
  refine fn_ofE (k := 0) F scIsRow (fun ds S Q E ⟨dom, n, d, e, _⟩ => by subst e; rfl) fun cdv A outer s H E hr hgd tk hp => ?_
  refine ⟨_, dss_cons (ds_if (DW.dt (dw_or (dt_not (dt_val (de_isiK T.bis T.bis.tuple PyProof.Rows.boot_tuple (dv 2)))) (dw_or1 (dt_cmp (op_neD hr.units) lift_ne (de_len T.bis (dv 2)) (dv 1) rfl)))) (dss_one (ds_ret de_bl)) dss_nil)
      (dss_one (ds_ret (de_all rfl T.bis (de_lc (own := [("value", 3)]) rfl scIsRow.nd (di_tupK (dv 2)) (⟨rfl, by decide +kernel, by decide +kernel, by decide +kernel, by decide +kernel⟩ : BlkOk ["domain", "width", "thing", "value"] (defScope sIsRow) _ [("value", 3)]) (fun s H C cl fp => dg_name 3 scIsRow.nd) (fun s H C cl fp => dts_nil)
        (fun s H C cl fp => de_and (de_isi T.bis T.bis.str PyProof.Rows.boot_str (dv 3)) (de_one (de_cmp op_in_seq (lift_in false) (dv 3) (dv 0) rfl))))))), ?_⟩
  intro ds S Q E' ⟨dom, n, d, e, ok, q⟩
  subst e
  obtain ⟨t, ht⟩ := ok.ty S
  refine ⟨d, rfl, d, "tuple", t, rfl, ht, (by decide), ?_⟩
  rw [tyK_tup ht]
  refine ⟨_, rfl, iteB (fun hb => iteT ?_) fun hb => ?_⟩
  · have e2 : isRowI dom n d = false := by
      unfold isRowI
      cases h : tupI d with
      | none => rfl
      | some es => rw [h] at hb; cases hb
    rw [e2] at q
    exact q
  · cases h : tupI d with
    | none => rw [h] at hb; cases hb
    | some es =>
    obtain ⟨hd, hz, oks⟩ := ok.tup es h
    have hl : lenD S d = some es.length := by rcases hd with rfl | rfl <;> rfl
    have e0 : isRowI dom n d = (decide ((es.length : Int) = n) && es.all (inDom dom)) := by unfold isRowI; rw [h]
    refine ⟨d, rfl, es.length, hl, _, rfl, rdEq_int ⟨_, rfl, iteB (fun h1 => ?_) fun h1 => ?_⟩⟩
    · have h3 : ¬ (es.length : Int) = n := by simpa using h1
      have e2 : isRowI dom n d = false := by simp [e0, h3]
      rw [e2] at q
      exact q
    · have h3 : (es.length : Int) = n := by simpa using h1
      refine ⟨d, rfl, es, hd.imp_right .inl, by rw [sizeLine_eq]; omega, lcgo_pure (fun e => .bl (inDom dom e)) es [] (fun e he => ?_) ?_⟩
      · obtain ⟨⟨t, ht⟩, _⟩ := oks e he S
        refine ⟨_, rfl, fun R r => ⟨e, rfl, t, ht, (by decide), _, rfl, ?_⟩⟩
        obtain ⟨e3, _⟩ := ty_is ht
        rw [e3]
        refine iteB (fun h => ?_) fun h => ?_
        · obtain ⟨z, rfl⟩ := isStr_of h
          exact ⟨_, rfl, _, rfl, rdIn_strs (.inl rfl) r⟩
        · have e4 : inDom dom e = false := by
            cases e with
            | str z => cases h
            | _ => rfl
          rw [e4] at r
          exact r
      · refine ⟨es.map (inDom dom), by rw [List.nil_append, List.map_map]; rfl, ?_⟩
        have e2 : isRowI dom n d = (es.map (inDom dom)).all id := by
          rw [List.all_map, e0, decide_eq_true h3, Bool.true_and]
          rfl
        rw [e2] at q
        exact q
theorem ok_is_rowI (T : Facts P K mg) : FnD P w K mg base 1 T.is_row.f T.is_row.fd ["domain", "width", "thing"] dspIsRowI := ok_isRowI T.is_row.F T.txt
theorem dd_is_rowI (T : Facts P K mg) : DefD P w K mg base 1 "is_row" ["domain", "width", "thing"] dspIsRowI T.is_row.f T.is_row.fd := .of T.is_row (ok_is_rowI T)

end
end K30

set_option maxRecDepth 100000
set_option maxHeartbeats 4000000
namespace K30
open PySem PySem.Spec L2 DL
section
variable {P : Program} {w : World} {K : PySem.W.Frag} {mg : Str → Option Value} {base : Heap}
theorem vgot {dom row : List Str} {n : Nat} (ok : VoteOk dom n row) {z : List Str} (h1 : z.length = n) (h2 : ∀ x ∈ z, x ∈ dom) : ∃ v, lookS (rowsS dom n) row z = some v ∧ v ∈ row := look_some (rowsS_mem.mpr ⟨h1, h2⟩) ok.len.symm
/-- what a vote tells of a value: the word that is due, or its vote -/
def callV (dom : List Str) (n : Nat) (row : List Str) (g : D) : Str × Bool := match tupI g with
  | some es => if es.length = n then if es.all (inDom dom) = true then ((lookS (rowsS dom n) row (strsL es)).getD "", true) else (("domain" : Str), false) else (("count" : Str), false)
  | none => (("count" : Str), false)
theorem callV_no {dom row : List Str} {n : Nat} {g : D} (h : tupI g = none) : callV dom n row g = (("count" : Str), false) := by unfold callV; rw [h]
theorem callV_len {dom row : List Str} {n : Nat} {g : D} {es : List D} (h : tupI g = some es) (hl : ¬ es.length = n) : callV dom n row g = (("count" : Str), false) := by unfold callV; rw [h]; exact if_neg hl
theorem callV_dom {dom row : List Str} {n : Nat} {g : D} {es : List D} (h : tupI g = some es) (hl : es.length = n) (hd : es.all (inDom dom) = false) : callV dom n row g = (("domain" : Str), false) := by
  unfold callV; rw [h]
  show (if es.length = n then _ else _) = _
  rw [if_pos hl, if_neg (by rw [hd]; simp)]
theorem callV_yes {dom row : List Str} {n : Nat} {g : D} {es : List D} (ok : VoteOk dom n row) (h : tupI g = some es) (hl : es.length = n) (hd : es.all (inDom dom) = true) : ∃ v, callV dom n row g = (v, true) ∧ v ∈ row ∧ lookS (rowsS dom n) row (strsL es) = some v ∧ es = (strsL es).map .str := by
  obtain ⟨e, hm⟩ := strsL_dom hd
  obtain ⟨v, hv, hr⟩ := vgot ok (z := strsL es) (by have := congrArg List.length e; rw [List.length_map] at this; omega) hm
  refine ⟨v, ?_, hr, hv, e⟩
  unfold callV; rw [h]
  show (if es.length = n then _ else _) = _
  rw [if_pos hl, if_pos hd, hv]
  rfl
def dspVCall (hf : List Key → Int) (C CE : Addr) : DSp := fun ds S Q E => ∃ dom n row g, ds = [voteD C dom n row (votesX hf dom n row), g] ∧ VoteOk dom n row ∧ Grp g ∧ (∀ v, callV dom n row g = (v, true) → v ∈ row → Q (.str v) S) ∧ (∀ v, callV dom n row g = (v, false) → E CE ["word"] [.str v] S)
theorem sc_Vote_call : FnScope ["self", "some"] ["self", "some"] (defScope sVote_call) := ⟨rfl, rfl, rfl, by decide +kernel, rfl, by decide +kernel, by decide +kernel⟩
theorem ok_Vote_call (T : Facts P K mg) : FnD P w K mg base 2 T.Vote_call.f T.Vote_call.fd ["self", "some"] (dspVCall (hfX P w) T.Vote.C T.NoVote.C) := by
  refine fn_ofE (k := 1) T.Vote_call.F sc_Vote_call (fun ds S Q E ⟨dom, n, row, g, e, _⟩ => by subst e; rfl) fun cdv A outer s H E hr hgd tk hp => ?_
  refine ⟨_, (dss_cons (ds_if (DW.dt (dw_or (dt_not (dt_val (de_isiK T.bis T.bis.tuple PyProof.Rows.boot_tuple (dv 1)))) (dw_or1 (dt_cmp (op_neD hr.units) lift_ne (de_len T.bis (dv 1)) (de_fld T.Vote.cl T.Vote_no_count (dv 0)) rfl)))) (dss_one (ds_raise T.NoVote.xi T.bis.super (hr.mono (by decide)) rfl tk T.NoVote.at_ de_str)) dss_nil)
      (dss_cons (ds_if (dt_not (dt_val (de_def (dd_is_rowI T) (hr.mono (by decide)) hgd tk (da_cons (de_fld T.Vote.cl T.Vote_no_domain (dv 0)) (da_cons (de_fld T.Vote.cl T.Vote_no_count (dv 0)) (da_cons (dv 1) da_nil)))))) (dss_one (ds_raise T.NoVote.xi T.bis.super (hr.mono (by decide)) rfl tk T.NoVote.at_ de_str)) dss_nil)
      (dss_one (ds_ret (de_xgP (P := P) (w := w) rfl rfl (units1 hr) (de_fld T.Vote.cl T.Vote_no_by_values (dv 0)) (dv 1)))))), ?_⟩
  intro ds S Q E' ⟨dom, n, row, g, e, ok, gk, q, qx⟩
  subst e
  clear tk hp hgd hr
  obtain ⟨t, ht⟩ := gk.ty S
  walk_at "st"
  refine s_isiK ht (by decide) ?_
  rw [tyK_tup ht]
  walk_at "st"
  refine iteB (fun h => ?_) fun h => ?_
  · walk_at "st"
    exact qx _ (callV_no (by simpa using h))
  obtain ⟨es, he⟩ := Option.isSome_iff_exists.mp (show (tupI g).isSome = true by simpa using h)
  obtain ⟨hk, el, eo⟩ := gk.tup es he
  have hl : lenD S g = some es.length := by rcases hk with rfl | rfl <;> rfl
  walk_at "st"
  refine s_rd1 hl ?_
  walk_at "st"
  refine s_fldP vfl vlk_cnt ?_
  refine rdEq_int ?_
  walk_at "st"
  refine iteB (fun h2 => ?_) fun h2 => ?_
  · walk_at "st"
    exact qx _ (callV_len he (by simp at h2; omega))
  have h2 : es.length = n := by simp at h2; omega
  walk_at "st"
  refine s_fldP vfl vlk_dom ?_
  walk_at "st"
  refine s_fldP vfl vlk_cnt ?_
  walk_at "st"
  refine ⟨dom, _, g, rfl, gk, ?_⟩
  have er : isRowI dom (n : Int) g = es.all (inDom dom) := by
    unfold isRowI
    rw [he]
    show (decide ((es.length : Int) = n) && es.all (inDom dom)) = _
    rw [h2, decide_eq_true rfl, Bool.true_and]
  rw [er]
  walk_at "st"
  refine iteB (fun h3 => ?_) fun h3 => ?_
  · walk_at "st"
    exact qx _ (callV_dom he h2 (by simpa using h3))
  have h3 : es.all (inDom dom) = true := by simpa using h3
  obtain ⟨v, hv, hr, hlk, hes⟩ := callV_yes ok he h2 h3
  have q2 := q v hv hr
  clear q qx
  walk_at "st"
  refine s_fldP vfl vlk_by ?_
  walk_at "st"
  refine s_xgT (f := D.str) (.inl rfl) ?_ hlk ?_
  · rw [← hes]; exact hk
  walk_at "st"
  exact q2

end
end K30

set_option maxRecDepth 100000
set_option maxHeartbeats 4000000
namespace K30
open PySem PySem.Spec L2 DL
section
variable {P : Program} {w : World} {K : PySem.W.Frag} {mg : Str → Option Value} {base : Heap}
/-- the values of some rows at a place -/
def colAt (rows : List (List Str)) (i : Nat) : List Str := rows.map fun r => r.getD i Str.empty
/-- the vote of a tuple -/
def voteOf (dom : List Str) (n : Nat) (row : List Str) (z : List Str) : Str := (lookS (rowsS dom n) row z).getD Str.empty
/-- the votes place by place -/
def votedS (dom : List Str) (n : Nat) (row : List Str) (m : Nat) (rows : List (List Str)) : List Str := (List.range m).map fun i => voteOf dom n row (colAt rows i)
structure RowsV (dom : List Str) (m : Nat) (rows : List (List Str)) : Prop where
  len : ∀ r ∈ rows, r.length = m
  mem : ∀ r ∈ rows, ∀ z ∈ r, z ∈ dom
  few : m ≤ 100
theorem RowsV.col {dom : List Str} {m : Nat} {rows : List (List Str)} (v : RowsV dom m rows) {i : Nat} (hi : i < m) : ∀ z ∈ colAt rows i, z ∈ dom := fun z hz => by
  obtain ⟨r, hr, rfl⟩ := List.mem_map.mp hz
  have hl : i < r.length := by rw [v.len r hr]; exact hi
  rw [List.getD_eq_getElem?_getD, List.getElem?_eq_getElem hl]
  exact v.mem r hr _ (List.getElem_mem hl)
theorem RowsV.voted {dom row : List Str} {n m : Nat} {rows : List (List Str)} (ok : VoteOk dom n row) (v : RowsV dom m rows) (hn : rows.length = n) {i : Nat} (hi : i < m) : lookS (rowsS dom n) row (colAt rows i) = some (voteOf dom n row (colAt rows i)) ∧ voteOf dom n row (colAt rows i) ∈ row := by
  obtain ⟨x, hx, hm⟩ := vgot ok (z := colAt rows i) (by unfold colAt; rw [List.length_map]; exact hn) (v.col hi)
  unfold voteOf
  rw [hx]
  exact ⟨rfl, hm⟩
theorem votedS_mem {dom row : List Str} {n m : Nat} {rows : List (List Str)} (ok : VoteOk dom n row) (v : RowsV dom m rows) (hn : rows.length = n) : ∀ z ∈ votedS dom n row m rows, z ∈ dom := fun z hz => by
  obtain ⟨i, hi, rfl⟩ := List.mem_map.mp hz
  exact ok.mem _ (v.voted ok hn (List.mem_range.mp hi)).2
def dspVRows0 (hf : List Key → Int) (C CE : Addr) : DSp := fun ds S Q E => ∃ dom n row m rows, ds = [voteD C dom n row (votesX hf dom n row), .tup (rows.map encT)] ∧ VoteOk dom n row ∧ RowsV dom m rows ∧ rows.length ≤ 5 ∧
  (rows.length = n → Q (.tup ((votedS dom n row m rows).map .str)) S) ∧ (rows.length ≠ n → E CE ["word"] [.str "count"] S)
abbrev dspVRows (hf : List Key → Int) (C CE : Addr) : DSp := starD 1 (dspVRows0 hf C CE)
theorem sc_Vote_rows_voted : FnScope ["self", "rows", "some"] ["self", "rows"] (defScope sVote_rows_voted) := ⟨rfl, rfl, rfl, by decide +kernel, rfl, by decide +kernel, by decide +kernel⟩
theorem ok_Vote_rows_voted (T : Facts P K mg) : FnP P w K mg base 2 T.Vote_rows_voted.f (spD K (dspVRows (hfX P w) T.Vote.C T.NoVote.C)) := by
  refine fn_starE (k := 1) (ps := ["self"]) (pv := "rows") T.Vote_rows_voted.F sc_Vote_rows_voted (fun dV _ _ _ _ _ _ us rest e hu hr => ?_) T.Vote_rows_voted.df fun cdv A outer s H E hr hgd tk hp => ?_
  · subst e
    exact star1 us rest hu hr (fun _ => rfl) (fun _ _ => rfl) (fun _ _ _ => rfl) (fun _ _ _ _ => rfl) (fun _ _ _ _ _ => rfl) (fun _ _ _ _ _ _ => rfl)
  refine ⟨_, (dss_cons (ds_if (dt_cmp (op_neD hr.units) lift_ne (de_len T.bis (dv 1)) (de_fld T.Vote.cl T.Vote_no_count (dv 0)) rfl) (dss_one (ds_raise T.NoVote.xi T.bis.super (hr.mono (by decide)) rfl tk T.NoVote.at_ de_str)) dss_nil)
      (dss_one (ds_ret (de_tuple T.bis (de_lc (own := [("some", 2)]) rfl sc_Vote_rows_voted.nd (di_zipStar T.bis.zip (dv 1)) (⟨rfl, by decide +kernel, by decide +kernel, by decide +kernel, by decide +kernel⟩ : BlkOk ["self", "rows", "some"] (defScope sVote_rows_voted) _ [("some", 2)]) (fun s H C cl fp => (dg_name 2 sc_Vote_rows_voted.nd)) (fun s H C cl fp => dts_nil)
        (fun s H C cl fp => (de_xgP (P := P) (w := w) rfl rfl (units1 hr) (de_fld T.Vote.cl T.Vote_no_by_values (dv 0)) (dv 2)))))))), ?_⟩
  intro ds S Q E' ⟨dom, n, row, m, rows, e, ok, v, l5, q, qx⟩
  subst e
  clear tk hp hgd hr
  walk_at "st"
  rw [List.length_map]
  refine s_fldP vfl vlk_cnt ?_
  refine rdEq_int ?_
  walk_at "st"
  refine iteB (fun h => ?_) fun h => ?_
  · walk_at "st"
    exact qx (by simp at h; omega)
  have hn : rows.length = n := by simp at h; omega
  have q := q hn
  clear qx
  walk_at "st"
  refine ⟨_, rows.map fun r => r.map D.str, m, rfl, by rw [List.map_map, List.map_map]; rfl, by rw [List.length_map, hn]; exact ok.cn, fun r hr => ?_, ?_⟩
  · obtain ⟨r0, h0, rfl⟩ := List.mem_map.mp hr
    rw [List.length_map]
    exact v.len r0 h0
  have hcol : ∀ i, i < m → D.tup ((rows.map fun r => r.map D.str).map fun r => r.getD i .non) = .tup ((colAt rows i).map .str) := fun i hi => by
    refine congrArg D.tup ?_
    unfold colAt
    rw [List.map_map, List.map_map]
    refine List.map_congr_left fun r hr => ?_
    have hl : i < r.length := by rw [v.len r hr]; exact hi
    show (r.map D.str).getD i .non = D.str (r.getD i Str.empty)
    rw [List.getD_eq_getElem?_getD, List.getD_eq_getElem?_getD, List.getElem?_map, List.getElem?_eq_getElem hl]
    rfl
  refine ⟨by rw [List.length_map, List.length_range, sizeLine_eq]; have := v.few; omega, ?_⟩
  refine lcgo_map (fun i : Nat => D.tup ((rows.map fun r => r.map D.str).map fun r => r.getD i .non)) (fun i => D.str (voteOf dom n row (colAt rows i))) (List.range m) [] ?_ ?_
  · intro i hi
    refine ⟨_, rfl, fun R r => ?_⟩
    have hi := List.mem_range.mp hi
    rw [hcol i hi]
    walk_at "st"
    refine s_fldP vfl vlk_by ?_
    walk_at "st"
    refine s_xgT (f := D.str) (.inl rfl) (.inl rfl) (v.voted ok hn hi).1 ?_
    exact r
  · rw [List.nil_append]
    have e : (List.range m).map (fun i => D.str (voteOf dom n row (colAt rows i))) = (votedS dom n row m rows).map .str := by unfold votedS; rw [List.map_map]; rfl
    rw [e]
    walk_at "st"
    exact q

end
end K30

set_option maxRecDepth 100000
set_option maxHeartbeats 4000000
namespace K30
open PySem PySem.Spec L2 DL
section
variable {P : Program} {w : World} {K : PySem.W.Frag} {mg : Str → Option Value} {base : Heap}
/-- the middle one of three -/
def midS (l : List Str) : Str := (DLS.sortS l).getD 1 Str.empty
def midRow (dom : List Str) : List Str := (rowsS dom 3).map midS
theorem mid_three {l : List Str} (h : l.length = 3) : ∃ a b c, DLS.sortS l = [a, b, c] ∧ midS l = b := by
  have e := (DLS.sortS_perm l).length_eq
  rw [h] at e
  unfold midS
  match DLS.sortS l, e with
  | [a, b, c], _ => exact ⟨a, b, c, rfl, rfl⟩
theorem mid_mem {l : List Str} (h : l.length = 3) : midS l ∈ l := by
  obtain ⟨a, b, c, e, hm⟩ := mid_three h
  rw [hm]
  exact (DLS.sortS_perm l).mem_iff.mp (by rw [e]; simp)
theorem leS_anti {x y : Str} (h : DLS.leS x y = true) (g : DLS.leS y x = true) : x = y := by
  refine Classical.byContradiction fun ne => ?_
  have h1 := ltS_of h ne
  have h2 := ltS_of g (Ne.symm ne)
  rw [ltS_asymm h1] at h2
  cases h2
theorem mid_near {l : List Str} (h : l.length = 3) {x : Str} (hx : nearS l = some x) : midS l = x := by
  obtain ⟨a, b, c, e, hm⟩ := mid_three h
  rw [hm]
  have hc : l.length - 1 ≤ l.count x := by
    unfold nearS at hx
    exact of_decide_eq_true (show decide (l.length - 1 ≤ l.count x) = true from List.find?_some (p := fun x => decide (l.length - 1 ≤ l.count x)) hx)
  rw [h, ← (DLS.sortS_perm l).count_eq x, e] at hc
  have pw := DLS.sortS_pw l
  rw [e] at pw
  simp only [List.pairwise_cons, List.mem_cons, List.not_mem_nil, or_false, forall_eq_or_imp, forall_eq] at pw
  obtain ⟨⟨h1, h2⟩, h3, _⟩ := pw
  by_cases hb : b = x
  · exact hb
  · by_cases ha : a = x
    · by_cases hc2 : c = x
      · subst ha hc2
        exact leS_anti h3 h1
      · simp [List.count_cons, hb, hc2, ha] at hc
    · simp [List.count_cons, hb, ha] at hc
      split at hc <;> omega
theorem zip_own {α β : Type} (f : α → β) : ∀ l : List α, l.zip (l.map f) = l.map fun x => (x, f x)
  | [] => rfl
  | x :: l => congrArg ((x, f x) :: ·) (zip_own f l)
theorem mid_ok {dom : List Str} (d3 : Dom3 dom) (nm : ∀ z ∈ dom, isNameS z = true) : VoteOk dom 3 (midRow dom) := by
  refine ⟨d3, nm, .inl rfl, by unfold midRow; rw [List.length_map], fun r hr => ?_, ?_⟩
  · obtain ⟨g, hg, rfl⟩ := List.mem_map.mp hr
    obtain ⟨e1, e2⟩ := rowsS_each hg
    exact e2 _ (mid_mem e1)
  · unfold nearB midRow
    rw [List.all_eq_true]
    rw [zip_own, List.forall_mem_map]
    intro g hg
    have hl := (rowsS_each hg).1
    show (decide (nearS g = none) || decide (nearS g = some (midS g))) = true
    cases e : nearS g with
    | none => rfl
    | some x => rw [mid_near hl e]; simp
def dspMiddle (hf : List Key → Int) (C : Addr) : DSp := fun ds S Q _ => ∃ dom : List Str, ds = [.ref C, .tup (dom.map .str)] ∧ Dom3 dom ∧ (∀ z ∈ dom, isNameS z = true) ∧ Q (voteD C dom 3 (midRow dom) (votesX hf dom 3 (midRow dom))) S
theorem sc_Vote_middle : FnScope ["cls", "domain", "some"] ["cls", "domain"] (defScope sVote_middle) := ⟨rfl, rfl, rfl, by decide +kernel, rfl, by decide +kernel, by decide +kernel⟩
theorem ok_Vote_middle (T : Facts P K mg) {aC : Addr} (hC : CTup K mg "COUNTS" aC [3, 4]) : FnD P w K mg base 5 T.Vote_middle.f T.Vote_middle.fd ["cls", "domain"] (dspMiddle (hfX P w) T.Vote.C) := by
  refine fn_ofE (k := 4) T.Vote_middle.F sc_Vote_middle (fun ds S Q E ⟨dom, e, _⟩ => by subst e; rfl) fun cdv A outer s H E hr hgd tk hp => ?_
  refine ⟨_, (dss_one (ds_ret (de_makeL T.Vote_ov T.Vote_mk (ok_Vote_init (P := P) (w := w) T hC) (hr.mono (by decide)) hgd (pv 0) T.Vote_init.bd .nil (fun _ => .nil) tk (da_cons (dv 1) (da_cons de_int (da_cons (de_tuple T.bis (de_lc (own := [("some", 2)]) rfl sc_Vote_middle.nd (di_list (de_def (dd_all_rows T) (hr.mono (by decide)) hgd tk (da_cons (dv 1) (da_cons de_int da_nil)))) (⟨rfl, by decide +kernel, by decide +kernel, by decide +kernel, by decide +kernel⟩ : BlkOk ["cls", "domain", "some"] (defScope sVote_middle) _ [("some", 2)]) (fun s H C cl fp => (dg_name 2 sc_Vote_middle.nd)) (fun s H C cl fp => dts_nil)
        (fun s H C cl fp => (de_ix (de_sortT T.bis (dv 2)) de_int)))) da_nil)))))), ?_⟩
  intro ds S Q E' ⟨dom, e, hd, nm, q⟩
  subst e
  clear tk hp hgd hr
  obtain ⟨pw, nd, l1, l3⟩ := dom3_pw hd
  have pl := rowsS_small l3 (n := 3) (by omega)
  walk_at "st"
  refine ⟨rfl, ?_⟩
  walk_at "st"
  refine ⟨dom, 3, rfl, l3, by omega, ?_⟩
  walk_at "st"
  refine lcgo_map encR (fun g => .str (midS g)) (rowsS dom 3) [] (fun g hg => ⟨_, rfl, fun R r => ?_⟩) ?_
  · have hl := (rowsS_each hg).1
    rw [encR_k (by omega)]
    walk_at "st"
    refine ⟨g, rfl, by omega, ?_⟩
    walk_at "st"
    obtain ⟨a, b, c, e, hm⟩ := mid_three hl
    rw [hm] at r
    rw [e]
    exact s_ixT (k := 1) (L2.atI_nat (j := 1) rfl) r
  walk_at "st"
  have er : (rowsS dom 3).map (fun g => D.str (midS g)) = (midRow dom).map D.str := by unfold midRow; rw [List.map_map]; rfl
  rw [List.nil_append, er]
  walk_at "st"
  refine mk_vote (mid_ok hd nm) fun a S2 h1 h2 => ⟨rfl, _, _, h1, ?_⟩
  rw [h2]
  exact q
theorem kb_Vote_call (T : Facts P K mg) : KBinds K T.Vote_call.fd ["self", "some"] ["some"] (kwU 1 1) (kwV 1 1) :=
  kw_binds T.Vote_call.F (by decide) fun _ _ _ _ _ _ us ws hu hw => match us, ws, hu, hw with | [_], [_], _, _ => rfl
theorem kb_Vote_middle (T : Facts P K mg) : KBinds K T.Vote_middle.fd ["cls", "domain"] ["domain"] (kwU 1 1) (kwV 1 1) :=
  kw_binds T.Vote_middle.F (by decide) fun _ _ _ _ _ _ us ws hu hw => match us, ws, hu, hw with | [_], [_], _, _ => rfl

end
end K30

set_option maxRecDepth 100000
set_option maxHeartbeats 4000000
namespace K30
open PySem PySem.Spec L2 DL
section
variable {P : Program} {w : World} {K : PySem.W.Frag} {mg : Str → Option Value} {base : Heap}
theorem sc__law_points : FnScope ["_law_base", "_law_count", "_law_found", "_law_k", "_law_longer", "_law_group", "_law_value"] ["_law_base", "_law_count"] (defScope sLPoints) := ⟨rfl, rfl, rfl, by decide +kernel, rfl, by decide +kernel, by decide +kernel⟩
theorem ok__law_points (T : Facts P K mg) : FnD P w K mg base 1 T._law_points.f T._law_points.fd ["_law_base", "_law_count"] dspAllRows := by
  refine fn_ofE (k := 0) T._law_points.F sc__law_points (fun ds S Q E ⟨dom, n, e, _⟩ => by subst e; rfl) fun cdv A outer s H E hr hgd tk hp => ?_
  refine ⟨_, (dss_cons (ds_set (i := 2) sc__law_points.nd (de_lst (da_cons (de_tup da_nil) da_nil)))
      (dss_cons (ds_for rfl (di_range1 T.bis.range (da_cons (dv 1) da_nil)) (dg_name 3 sc__law_points.nd) (dss_cons (ds_set (i := 4) sc__law_points.nd (de_lst da_nil))
      (dss_cons (ds_for rfl (di_list (dv 2)) (dg_name 5 sc__law_points.nd) (dss_one (ds_set (i := 4) sc__law_points.nd (de_op or_add lift_add (dv 4) (de_lc (own := [("_law_value", 6)]) rfl sc__law_points.nd (di_tup (dv 0)) (⟨rfl, by decide +kernel, by decide +kernel, by decide +kernel, by decide +kernel⟩ : BlkOk ["_law_base", "_law_count", "_law_found", "_law_k", "_law_longer", "_law_group", "_law_value"] (defScope sLPoints) _ [("_law_value", 6)]) (fun s H C cl fp => (dg_name 6 sc__law_points.nd)) (fun s H C cl fp => dts_nil)
        (fun s H C cl fp => (de_op op_catK lift_addK (dv 5) (de_tup (da_cons (dv 6) da_nil)))))))) hp)
      (dss_one (ds_set (i := 2) sc__law_points.nd (dv 4))))) hp)
      (dss_one (ds_ret (dv 2))))), ?_⟩
  intro ds S Q E' ⟨dom, n, e, hd, hn, q⟩
  subst e
  clear tk hp hgd hr
  walk_at "st"
  refine s_it1i (by omega) (by omega) ?_
  refine for_inv (fun items ρ S' => S' = S ∧ ∃ (j : Nat) (v3 v4 v5 v6 : Option D), j + items.length = n ∧ ρ = [some (.tup (dom.map .str)), some (.int n), some (.lst ((rowsS dom j).map encR)), v3, v4, v5, v6]) ?_ ?_ _ _ _ ⟨rfl, 0, none, none, none, none, ?_, rfl⟩
  · rintro ρ S' ⟨rfl, j, v3, v4, v5, v6, hj, rfl⟩
    have e : j = n := by simpa using hj
    subst e
    walk_at "st"
    exact q
  · rintro d r ih ρ S' ⟨rfl, j, v3, v4, v5, v6, hj, rfl⟩
    rw [List.length_cons] at hj
    have hs := rowsS_small hd (n := j + 1) (by omega)
    walk_at "st"
    have he := rowsS_step dom j
    have rl : ∀ r ∈ rowsS dom j, r.length ≤ 4 := fun r hr => by
      rw [(rowsS_each hr).1]
      omega
    refine for_inv (fun items ρ S2 => S2 = S' ∧ ∃ (done rest : List (List Str)) (v5 v6 : Option D), done ++ rest = rowsS dom j ∧ items = rest.map encR ∧ ρ = [some (.tup (dom.map .str)), some (.int n), some (.lst ((rowsS dom j).map encR)), some d, some (.lst (done.flatMap fun r => dom.map fun v => encR (r ++ [v]))), v5, v6]) ?_ ?_ _ _ _ ⟨rfl, [], rowsS dom j, v5, v6, rfl, rfl, rfl⟩
    · rintro ρ S2 ⟨rfl, done, rest, v5, v6, hd2, hi, rfl⟩
      have hr : rest = [] := by simpa using hi.symm
      subst hr
      rw [List.append_nil] at hd2
      rw [hd2, he]
      walk_at "st"
      exact ih _ _ ⟨rfl, j + 1, _, _, _, _, by omega, rfl⟩
    · rintro x r2 ih2 ρ S2 ⟨rfl, done, rest, v5, v6, hd2, hi, rfl⟩
      match rest, hi with
      | y :: rest, hi =>
        cases hi
        have y4 := rl y (by rw [← hd2]; simp)
        have hsz : ((done ++ [y]).flatMap fun r => dom.map fun v => encR (r ++ [v])).length ≤ 81 := by
          have e2 : ((rowsS dom j).flatMap fun r => dom.map fun v => encR (r ++ [v])).length = (rowsS dom (j + 1)).length := by rw [he, List.length_map]
          have e3 : ((rowsS dom j).flatMap fun r => dom.map fun v => encR (r ++ [v])) = ((done ++ [y]).flatMap fun r => dom.map fun v => encR (r ++ [v])) ++ (rest.flatMap fun r => dom.map fun v => encR (r ++ [v])) := by
            rw [← hd2, ← List.flatMap_append, List.append_assoc]
            rfl
          rw [e3, List.length_append] at e2
          omega
        rw [List.flatMap_append, List.length_append, List.flatMap_cons, List.flatMap_nil, List.append_nil, List.length_map] at hsz
        walk_at "st"
        refine lcgo_map D.str (fun v => encR (y ++ [v])) dom [] (fun v hv => ⟨_, rfl, fun R2 q2 => ?_⟩) ?_
        · walk_at "st"
          exact addK_enc (by rw [sizeLine_eq]; omega) q2
        refine s_addL (by rw [sizeLine_eq, List.nil_append, List.length_map]; omega) ?_
        walk_at "st"
        refine ih2 _ _ ⟨rfl, done ++ [y], rest, some (encR y), v6, by rw [List.append_assoc]; exact hd2, rfl, ?_⟩
        rw [List.flatMap_append, List.flatMap_cons, List.flatMap_nil, List.append_nil]
        rfl
  · unfold dItR
    rw [List.length_map, List.length_range]
    omega
theorem dd__law_points (T : Facts P K mg) : DefD P w K mg base 1 "_law_points" ["_law_base", "_law_count"] dspAllRows T._law_points.f T._law_points.fd := .of T._law_points (ok__law_points T)


end
end K30

set_option maxRecDepth 100000
set_option maxHeartbeats 4000000
namespace K30
open PySem PySem.Spec L2 DL
section
variable {P : Program} {w : World} {K : PySem.W.Frag} {mg : Str → Option Value} {base : Heap}
def nearL (l : List Str) : List Str := match nearS l with
  | some x => [x]
  | none => []
theorem near_two {l : List Str} (h : l.length = 3 ∨ l.length = 4) {x y : Str} (hx : l.length - 1 ≤ l.count x) (hy : l.length - 1 ≤ l.count y) : x = y := by
  refine Classical.byContradiction fun ne => ?_
  have h2 : l.count x + l.count y ≤ l.length := by
    clear hx hy h
    induction l with
    | nil => simp
    | cons z l ih =>
      by_cases e1 : z = x
      · have e2 : z ≠ y := fun e => ne (e1.symm.trans e)
        rw [e1, List.count_cons_self, List.count_cons_of_ne (by rw [← e1]; exact e2), List.length_cons]
        omega
      · by_cases e2 : z = y
        · rw [List.count_cons_of_ne e1, e2, List.count_cons_self, List.length_cons]
          omega
        · rw [List.count_cons_of_ne e1, List.count_cons_of_ne e2, List.length_cons]
          omega
  omega
theorem near_first {l : List Str} (h : l.length = 3 ∨ l.length = 4) {x : Str} (hx : l.length - 1 ≤ l.count x) : nearS l = some x := by
  have in2 : x ∈ l.take 2 := by
    match l, h, hx with
    | a :: b :: r, h, hx =>
      refine Classical.byContradiction fun nm => ?_
      have na : a ≠ x := fun e => nm (by rw [e]; simp)
      have nb : b ≠ x := fun e => nm (by rw [e]; simp)
      rw [List.count_cons_of_ne na, List.count_cons_of_ne nb] at hx
      have := List.count_le_length (a := x) (l := r)
      simp only [List.length_cons] at hx h
      omega
    | [], h, _ => simp at h
    | [a], h, _ => simp at h
  unfold nearS
  cases e : (l.take 2).find? fun x => decide (l.length - 1 ≤ l.count x) with
  | none => exact absurd (List.find?_eq_none.mp e x in2) (by simpa using hx)
  | some y =>
    have hy := of_decide_eq_true (show decide (l.length - 1 ≤ l.count y) = true from List.find?_some (p := fun x => decide (l.length - 1 ≤ l.count x)) e)
    rw [near_two h hx hy]
theorem near_dom {dom g : List Str} (h : g.length = 3 ∨ g.length = 4) (nd : dom.Nodup) (hm : ∀ x ∈ g, x ∈ dom) : dom.filter (fun x => decide (g.length - 1 ≤ g.count x)) = nearL g := by
  unfold nearL
  cases e : nearS g with
  | none =>
    exact List.filter_eq_nil_iff.mpr fun x _ hx => by
      have := near_first h (of_decide_eq_true hx)
      rw [e] at this
      cases this
  | some x =>
    have hx : g.length - 1 ≤ g.count x := by
      unfold nearS at e
      exact of_decide_eq_true (show decide (g.length - 1 ≤ g.count x) = true from List.find?_some (p := fun x => decide (g.length - 1 ≤ g.count x)) e)
    have ml : x ∈ g := List.count_pos_iff.mp (by omega)
    have mf : x ∈ dom.filter fun x => decide (g.length - 1 ≤ g.count x) := List.mem_filter.mpr ⟨hm x ml, decide_eq_true hx⟩
    have nf : (dom.filter fun x => decide (g.length - 1 ≤ g.count x)).Nodup := nd.filter _
    have af : ∀ y ∈ dom.filter fun x => decide (g.length - 1 ≤ g.count x), y = x := fun y hy => near_two h (of_decide_eq_true (List.mem_filter.mp hy).2) hx
    show _ = [x]
    match dom.filter fun x => decide (g.length - 1 ≤ g.count x), mf, nf, af with
    | [y], mf, _, _ => rw [List.mem_singleton.mp mf]
    | y :: z :: r, _, nf, af =>
      have e1 := af y List.mem_cons_self
      have e2 := af z (List.mem_cons_of_mem _ List.mem_cons_self)
      rw [e1, e2] at nf
      exact absurd List.mem_cons_self (List.nodup_cons.mp nf).1
/-- what a vote may be at some rows -/
def nearV (g : List Str) (v : Str) : Prop := nearS g = none ∨ nearS g = some v
theorem near_of {dom row : List Str} {n : Nat} (h : ∀ p ∈ (rowsS dom n).zip row, nearV p.1 p.2) : nearB dom n row = true := by
  unfold nearB
  rw [List.all_eq_true]
  intro p hp
  rcases h p hp with h | h
  · rw [h]; rfl
  · rw [h]; simp
def dspDrawn (hf : List Key → Int) : DSp := fun ds S Q _ => ∃ (a L : Addr) (k : Nat) (dom : List Str) (n : Nat), ds = [.ref a, .tup (dom.map .str), .int n] ∧ Deck S a L (k + 100) ∧ Dom3 dom ∧ (∀ z ∈ dom, isNameS z = true) ∧ (n = 3 ∨ n = 4) ∧
  ∀ (row : List Str) (p : Addr) S', VoteOk dom n row → S' p = some (.dX p hf ((rowsS dom n).map keyT) (row.map .str)) → p ≠ a → p ≠ L → Deck S' a L k → Q (.ref p) S'
theorem sc__law_drawn : FnScope ["_law_deck_here", "_law_base", "_law_count", "_law_found", "_law_group", "_law_near", "_law_value"] ["_law_deck_here", "_law_base", "_law_count"] (defScope sLDrawn) := ⟨rfl, rfl, rfl, by decide +kernel, rfl, by decide +kernel, by decide +kernel⟩
theorem ok__law_drawn (T : Facts P K mg) : FnD P w K mg base 4 T._law_drawn.f T._law_drawn.fd ["_law_deck_here", "_law_base", "_law_count"] (dspDrawn (hfX P w)) := by
  refine fn_ofE (k := 3) T._law_drawn.F sc__law_drawn (fun ds S Q E ⟨a, L, k, dom, n, e, _⟩ => by subst e; rfl) fun cdv A outer s H E hr hgd tk hp => ?_
  refine ⟨_, (dss_cons (ds_set (i := 3) sc__law_drawn.nd de_newMX)
      (dss_cons (ds_for rfl (di_list (de_def (dd__law_points T) (hr.mono (by decide)) hgd tk (da_cons (dv 1) (da_cons (dv 2) da_nil)))) (dg_name 4 sc__law_drawn.nd) (dss_cons (ds_setLc (own := [("_law_value", 6)]) (i := 5) rfl sc__law_drawn.nd (sw_true rfl rfl rfl (by decide +kernel)) (di_tup (dv 1)) (⟨rfl, by decide +kernel, by decide +kernel, by decide +kernel, by decide +kernel⟩ : BlkOk ["_law_deck_here", "_law_base", "_law_count", "_law_found", "_law_group", "_law_near", "_law_value"] (defScope sLDrawn) _ [("_law_value", 6)]) (fun s H C cl fp => (dg_name 6 sc__law_drawn.nd)) (fun s H C cl fp => (dts_one (dt_cmp op_ge (lift_cmpI _) (de_tcount (dv 4) (dv 6)) (de_op op_sub (lift_int _) (dv 2) de_int) rfl)))
        (fun s H C cl fp => (dv 6)))
      (dss_one (ds_xput (units1 hr) (dv 3) (dv 4) (de_ifExp (dt_cmp (op_neNil hr.units0) lift_nil (dv 5) (de_lst da_nil) rfl) (de_ix (dv 5) de_int) (de_def (dd__law_pick T) (hr.mono (by decide)) hgd tk (da_cons (dv 0) (da_cons (dv 1) da_nil))))))) hp)
      (dss_one (ds_ret (dv 3))))), ?_⟩
  intro ds S Q E' ⟨a, L, k, dom, n, e, dr, hd, nm, hn, q⟩
  subst e
  clear tk hp hgd hr
  obtain ⟨pw, nd, l1, l3⟩ := dom3_pw hd
  have pl := rowsS_small l3 (n := n) (by omega)
  walk_at "st"
  refine s_newMX fun p hp => ?_
  obtain ⟨pa, pL⟩ := dr.a_some hp
  walk_at "st"
  refine ⟨dom, n, rfl, l3, by omega, ?_⟩
  walk_at "st"
  refine e_forK (fun items ρ S' => ∃ (done rest : List (List Str)) (got : List Str) (v4 v5 v6 : Option D), items = rest.map encR ∧ done ++ rest = rowsS dom n ∧ ρ = [some (.ref a), some (.tup (dom.map .str)), some (.int n), some (.ref p), v4, v5, v6] ∧ Deck S' a L (k + 5 + rest.length) ∧
    S' p = some (.dX p (hfX P w) (done.map keyT) (got.map .str)) ∧ got.length = done.length ∧ (∀ r ∈ got, r ∈ dom) ∧ ∀ x ∈ done.zip got, nearV x.1 x.2) ?_ ?_ _ _ _ ⟨[], rowsS dom n, [], _, _, _, rfl, rfl, rfl, (dr.put_off pa pL).mono (by omega), put_same, rfl, fun r hr => absurd hr List.not_mem_nil, fun x hx => absurd hx List.not_mem_nil⟩
  · rintro ρ S' ⟨done, rest, got, v4, v5, v6, hi, hd2, rfl, d', hp', hl, hg, hv⟩
    have hr : rest = [] := by simpa using hi.symm
    subst hr
    rw [List.append_nil] at hd2
    subst hd2
    walk_at "st"
    exact q got p _ ⟨hd, nm, hn, hl, hg, near_of hv⟩ hp' pa pL (d'.mono (by omega))
  · rintro J d r hJ ρ S' ⟨done, rest, got, v4, v5, v6, hi, hd2, rfl, d', hp', hl, hg, hv⟩
    match rest, hi with
    | g :: rest, hi =>
    rw [List.map_cons] at hi
    cases hi
    rw [List.length_cons] at d'
    have hgm : g ∈ rowsS dom n := by rw [← hd2]; simp
    obtain ⟨gl, gm⟩ := rowsS_each hgm
    have gl34 : g.length = 3 ∨ g.length = 4 := by omega
    rw [encR_k (by omega)]
    have hnd : g ∉ done := by
      have := rowsS_nd pw nd n
      rw [← hd2] at this
      exact fun hh => (List.nodup_append.mp this).2.2 g hh g List.mem_cons_self rfl
    have ldone : done.length ≤ 81 := by
      have := congrArg List.length hd2
      rw [List.length_append] at this
      omega
    have nxt : ∀ (v : Str) (S2 : Store) (v5 v6 : Option D), nearV g v → v ∈ dom → S2 p = some (.dX p (hfX P w) ((done ++ [g]).map keyT) ((got ++ [v]).map .str)) → Deck S2 a L (k + 5 + rest.length) → J [some (.ref a), some (.tup (dom.map .str)), some (.int n), some (.ref p), some (.kup (g.map .str)), v5, v6] S2 := fun v S2 v5 v6 h1 h2 h3 h4 => by
      refine hJ _ _ ⟨done ++ [g], rest, got ++ [v], _, _, _, rfl, by rw [List.append_assoc]; exact hd2, rfl, h4, h3, by rw [List.length_append, List.length_append, hl]; rfl, fun r hr => ?_, fun x hx => ?_⟩
      · rcases List.mem_append.mp hr with hr | hr
        · exact hg r hr
        · rw [List.mem_singleton.mp hr]; exact h2
      · rw [List.zip_append hl.symm] at hx
        rcases List.mem_append.mp hx with hx | hx
        · exact hv x hx
        · rw [List.mem_singleton.mp hx]; exact h1
    walk_at "st"
    refine lc_fm D.str D.str (fun x => decide (g.length - 1 ≤ g.count x)) dom [] (fun x hx => ⟨_, rfl, fun QT r => ?_, fun R r => ?_⟩) ?_
    · walk_at "st"
      refine ⟨g, rfl, ?_⟩
      walk_at "st"
      refine ⟨x, rfl, ?_⟩
      walk_at "st"
      have e : decide (((n : Int)) - 1 ≤ ((g.count x : Nat) : Int)) = decide (g.length - 1 ≤ g.count x) := decide_eq_decide.mpr (by omega)
      rw [e]
      exact r
    · walk_at "st"
      exact r
    rw [List.nil_append, near_dom gl34 nd gm]
    walk_at "sj"
    unfold nearL
    cases e : nearS g with
    | none =>
      walk_at "st"
      refine ⟨a, L, k + 5 + rest.length, _, dom.map .str, rfl, .inl rfl, d'.mono (by omega), by rw [List.length_map]; omega, by rw [List.length_map]; omega, fun e2 S2 he d2 off2 => ?_⟩
      obtain ⟨v, hvd, rfl⟩ := List.mem_map.mp he
      walk_at "st"
      refine s_xpN ((off2 p pa pL).trans hp') (by rw [List.length_map]; exact hl.symm) hnd (by rw [sizeLine_eq]; omega) ?_
      exact nxt v _ _ _ (.inl e) hvd (by rw [put_same, List.map_append (f := D.str)]; rfl) (d2.put_off pa pL)
    | some x =>
      walk_at "st"
      refine s_ixL (ds := [D.str x]) (k := 0) (L2.atI_nat (j := 0) rfl) ?_
      walk_at "st"
      refine s_xpN hp' (by rw [List.length_map]; exact hl.symm) hnd (by rw [sizeLine_eq]; omega) ?_
      have hxg : x ∈ g := by
        refine List.count_pos_iff.mp ?_
        unfold nearS at e
        have := of_decide_eq_true (show decide (g.length - 1 ≤ g.count x) = true from List.find?_some (p := fun x => decide (g.length - 1 ≤ g.count x)) e)
        omega
      exact nxt x _ _ _ (.inr e) (gm x hxg) (by rw [put_same, List.map_append (f := D.str)]; rfl) ((d'.put_off pa pL).mono (by omega))
theorem dd__law_drawn (T : Facts P K mg) : DefD P w K mg base 4 "_law_drawn" ["_law_deck_here", "_law_base", "_law_count"] (dspDrawn (hfX P w)) T._law_drawn.f T._law_drawn.fd := .of T._law_drawn (ok__law_drawn T)

end
end K30

set_option maxRecDepth 100000
set_option maxHeartbeats 4000000
namespace K30
open PySem PySem.Spec L2 DL
section
variable {P : Program} {w : World} {K : PySem.W.Frag} {mg : Str → Option Value} {base : Heap}
theorem mid_rest {g : List Str} (h : g.length = 3) {m M : Str} (hm : m ∈ g) (h1 : ∀ y ∈ g, ltS y m = false) (hM : M ∈ g) (h2 : ∀ y ∈ g, ltS M y = false) : M ∈ g.erase m ∧ (g.erase m).erase M = [midS g] := by
  obtain ⟨a, b, c, e, hmid⟩ := mid_three h
  have pm := DLS.sortS_perm g
  have pw := DLS.sortS_pw g
  rw [e] at pm pw
  simp only [List.pairwise_cons, List.mem_cons, List.not_mem_nil, or_false, forall_eq_or_imp, forall_eq] at pw
  obtain ⟨⟨ab, ac⟩, bc, _⟩ := pw
  have ma : m = a := by
    have ha : DLS.leS m a = true := by rw [leS_lt, h1 a (pm.mem_iff.mp (by simp))]; rfl
    have hin : m ∈ [a, b, c] := pm.mem_iff.mpr hm
    simp only [List.mem_cons, List.not_mem_nil, or_false] at hin
    rcases hin with rfl | rfl | rfl
    · rfl
    · exact leS_anti ha ab
    · exact leS_anti ha ac
  have mc : M = c := by
    have hc : DLS.leS c M = true := by rw [leS_lt, h2 c (pm.mem_iff.mp (by simp))]; rfl
    have hin : M ∈ [a, b, c] := pm.mem_iff.mpr hM
    simp only [List.mem_cons, List.not_mem_nil, or_false] at hin
    rcases hin with rfl | rfl | rfl
    · exact leS_anti ac hc
    · exact leS_anti bc hc
    · rfl
  subst ma mc
  have p1 : [b, M].Perm (g.erase m) := by
    have := pm.erase m
    rwa [List.erase_cons_head] at this
  refine ⟨p1.mem_iff.mp (by simp), ?_⟩
  have p2 : [b].Perm ((g.erase m).erase M) := by
    have := p1.erase M
    by_cases hb : b = M
    · subst hb
      rwa [List.erase_cons_head] at this
    · rwa [List.erase_cons_tail (by simpa using hb), List.erase_cons_head] at this
  rw [hmid]
  exact p2.singleton_eq.symm
def dspMid (hf : List Key → Int) : DSp := fun ds S Q _ => ∃ dom : List Str, ds = [.tup (dom.map .str)] ∧ Dom3 dom ∧ (∀ z ∈ dom, isNameS z = true) ∧
  ∀ (p : Addr) S', S p = none → Ext S S' → S' p = some (.dX p hf ((rowsS dom 3).map keyT) ((midRow dom).map .str)) → Q (.ref p) S'
theorem sc__law_middle : FnScope ["_law_base", "_law_found", "_law_group", "_law_least", "_law_greatest", "_law_rest"] ["_law_base"] (defScope sLMiddle) := ⟨rfl, rfl, rfl, by decide +kernel, rfl, by decide +kernel, by decide +kernel⟩
theorem ok__law_middle (T : Facts P K mg) : FnD P w K mg base 4 T._law_middle.f T._law_middle.fd ["_law_base"] (dspMid (hfX P w)) := by
  refine fn_ofE (k := 3) T._law_middle.F sc__law_middle (fun ds S Q E ⟨dom, e, _⟩ => by subst e; rfl) fun cdv A outer s H E hr hgd tk hp => ?_
  refine ⟨_, (dss_cons (ds_set (i := 1) sc__law_middle.nd de_newMX)
      (dss_cons (ds_for rfl (di_list (de_def (dd__law_points T) (hr.mono (by decide)) hgd tk (da_cons (dv 0) (da_cons de_int da_nil)))) (dg_name 2 sc__law_middle.nd) (dss_cons (ds_par (i := 3) (j := 4) rfl sc__law_middle.nd (da_cons (de_minS rfl T.no_min (dv 2)) (da_cons (de_maxS rfl T.no_max (dv 2)) da_nil)) (by rfl))
      (dss_cons (ds_set (i := 5) sc__law_middle.nd (de_listKM T.bis (dv 2)))
      (dss_cons (ds_expr (de_removeS (dv 5) (dv 3)))
      (dss_cons (ds_expr (de_removeS (dv 5) (dv 4)))
      (dss_one (ds_xput (units1 hr) (dv 1) (dv 2) (de_ix (dv 5) de_int))))))) hp)
      (dss_one (ds_ret (dv 1))))), ?_⟩
  intro ds S Q E' ⟨dom, e, hd, nm, q⟩
  subst e
  clear tk hp hgd hr
  obtain ⟨pw, nd, l1, l3⟩ := dom3_pw hd
  have pl := rowsS_small l3 (n := 3) (by omega)
  walk_at "st"
  refine s_newMX fun p hp => ?_
  walk_at "st"
  refine ⟨dom, 3, rfl, l3, by omega, ?_⟩
  walk_at "st"
  refine e_forK (fun items ρ S' => ∃ (done rest : List (List Str)) (v2 v3 v4 v5 : Option D), items = rest.map encR ∧ done ++ rest = rowsS dom 3 ∧ ρ = [some (.tup (dom.map .str)), some (.ref p), v2, v3, v4, v5] ∧
    S' p = some (.dX p (hfX P w) (done.map keyT) ((done.map midS).map .str)) ∧ Ext S S') ?_ ?_ _ _ _ ⟨[], rowsS dom 3, _, _, _, _, rfl, rfl, rfl, put_same, Ext.new hp⟩
  · rintro ρ S' ⟨done, rest, v2, v3, v4, v5, hi, hd2, rfl, hp', ex⟩
    have hr : rest = [] := by simpa using hi.symm
    subst hr
    rw [List.append_nil] at hd2
    subst hd2
    walk_at "st"
    exact q p _ hp ex hp'
  · rintro J d r hJ ρ S' ⟨done, rest, v2, v3, v4, v5, hi, hd2, rfl, hp', ex⟩
    match rest, hi with
    | g :: rest, hi =>
    rw [List.map_cons] at hi
    cases hi
    have hgm : g ∈ rowsS dom 3 := by rw [← hd2]; simp
    obtain ⟨gl, gm⟩ := rowsS_each hgm
    rw [encR_k (by omega)]
    have gne : g ≠ [] := fun e => by rw [e] at gl; cases gl
    have hnd : g ∉ done := by
      have := rowsS_nd pw nd 3
      rw [← hd2] at this
      exact fun hh => (List.nodup_append.mp this).2.2 g hh g List.mem_cons_self rfl
    have ldone : done.length ≤ 81 := by
      have := congrArg List.length hd2
      rw [List.length_append] at this
      omega
    walk_at "st"
    refine s_bestS (ns := g) rfl gne fun m hm h1 => ?_
    walk_at "st"
    refine s_bestS (ns := g) rfl gne fun M hM h2 => ?_
    obtain ⟨hMe, hrest⟩ := mid_rest gl hm h1 hM h2
    walk_at "st"
    refine s_listKM (ds := g.map .str) rfl fun p2 hp2 => ?_
    have n2 : p ≠ p2 := fun e => by rw [e, hp2] at hp'; cases hp'
    walk_at "st"
    refine s_mtA put_same ?_
    walk_at "st"
    refine s_someL put_same ?_
    refine s_remS hm ?_
    walk_at "st"
    refine s_mtA put_same ?_
    walk_at "st"
    refine s_someL put_same ?_
    refine s_remS hMe ?_
    rw [hrest]
    walk_at "st"
    refine s_ixR (ds := [D.str (midS g)]) (k := 0) put_same (L2.atI_nat (j := 0) rfl) ?_
    walk_at "st"
    refine s_xpN (by rw [put_ne n2, put_ne n2, put_ne n2]; exact hp') (by rw [List.length_map, List.length_map]) hnd (by rw [sizeLine_eq]; omega) ?_
    refine hJ _ _ ⟨done ++ [g], rest, _, _, _, _, rfl, by rw [List.append_assoc]; exact hd2, rfl, by rw [put_same, List.map_append (f := midS), List.map_append (f := D.str)]; rfl, fun b mm hb => ?_⟩
    have b1 : b ≠ p := fun e => by rw [e, hp] at hb; cases hb
    have b2 : b ≠ p2 := fun e => by have := ex b mm hb; rw [e, hp2] at this; cases this
    rw [put_ne b1, put_ne b2, put_ne b2, put_ne b2]
    exact ex b mm hb
theorem dd__law_middle (T : Facts P K mg) : DefD P w K mg base 4 "_law_middle" ["_law_base"] (dspMid (hfX P w)) T._law_middle.f T._law_middle.fd := .of T._law_middle (ok__law_middle T)

end
end K30

set_option maxRecDepth 100000
set_option maxHeartbeats 4000000
namespace K30
open PySem PySem.Spec L2 DL
section
variable {P : Program} {w : World} {K : PySem.W.Frag} {mg : Str → Option Value} {base : Heap}
/-- what the law tells of a call -/
def toldV (p : Str × Bool) : D := .tup [.str (if p.2 = true then "told" else "no vote"), .str p.1]
def dspCalled (hf : List Key → Int) (C : Addr) : DSp := fun ds S Q _ => ∃ dom n row g, ds = [voteD C dom n row (votesX hf dom n row), g] ∧ VoteOk dom n row ∧ Grp g ∧ ∀ S', Ext S S' → Q (toldV (callV dom n row g)) S'
theorem sc__law_called : FnScope ["_law_vote", "_law_group", "_law_told", "e"] ["_law_vote", "_law_group"] (defScope sLCalled) := ⟨rfl, rfl, rfl, by decide +kernel, rfl, by decide +kernel, by decide +kernel⟩
theorem ok__law_called (T : Facts P K mg) : FnD P w K mg base 3 T._law_called.f T._law_called.fd ["_law_vote", "_law_group"] (dspCalled (hfX P w) T.Vote.C) := by
  obtain ⟨CE, hCE⟩ := T.n_ClashnumberError
  refine fn_ofE (k := 2) T._law_called.F sc__law_called (fun ds S Q E ⟨dom, n, row, g, e, _⟩ => by subst e; rfl) fun cdv A outer s H E hr hgd tk hp => ?_
  refine ⟨_, (dss_cons (ds_set (i := 2) sc__law_called.nd (de_tup (da_cons de_str da_nil)))
      (dss_cons (ds_try rfl rfl tk (fun W' pn xe tk' hp' => (dss_one (ds_set (i := 2) sc__law_called.nd (de_tup (da_cons de_str (da_cons (de_callO (dv 0) T.Vote_callO (ok_Vote_call (P := P) (w := w) T) (hr.mono (by decide)) hgd T.Vote_call.bd .nil (fun _ => .nil) tk' (da_cons (dv 1) da_nil)) da_nil)))))) (dcs_named (i := 3) sc__law_called.nd ⟨rfl, by decide, .inl T.NoVote.at_⟩ (fun a oe cls d pn hz hf => (dss_one (ds_set (i := 2) sc__law_called.nd (de_tup (da_cons de_str (da_cons (de_xf T.NoVote.xf T.NoVote.no hz hf (dv 3)) da_nil)))))) (dcs_anon ⟨rfl, by decide, .inl hCE⟩ (fun a oe cls d pn hz hf => (dss_one (ds_set (i := 2) sc__law_called.nd (de_tup (da_cons de_str da_nil))))) dcs_nil)))
      (dss_one (ds_ret (dv 2))))), ?_⟩
  intro ds S Q E' ⟨dom, n, row, g, e, ok, gk, q⟩
  subst e
  clear tk hp hgd hr
  walk_at "st"
  refine ⟨by rw [vfl]; rfl, ?_⟩
  walk_at "st"
  refine ⟨by rw [vfl]; rfl, dom, n, row, g, rfl, ok, gk, fun v hv hr => ?_, fun v hn => ?_⟩
  · rw [hv] at q
    walk_at "st"
    exact q S Ext.refl
  · rw [hn] at q
    refine ⟨true, T.NoVote.me, fun _ a ha => ⟨fun h => (by cases h), fun dd hdd ne => ?_⟩, fun h => (by cases h)⟩
    walk_at "st"
    refine ⟨rfl, rfl, dd, _, _, .str v, rfl, put_same, by with_unfolding_all rfl, ?_⟩
    walk_at "st"
    exact q _ (Ext.new hdd)
theorem dd__law_called (T : Facts P K mg) : DefD P w K mg base 3 "_law_called" ["_law_vote", "_law_group"] (dspCalled (hfX P w) T.Vote.C) T._law_called.f T._law_called.fd := .of T._law_called (ok__law_called T)
def dspDue (hf : List Key → Int) : DSp := fun ds S Q _ => ∃ dom n row g, ds = [.tup (dom.map .str), .int n, votesX hf dom n row, g] ∧ VoteOk dom n row ∧ Grp g ∧ Q (toldV (callV dom n row g)) S
theorem sc__law_due_call : FnScope ["_law_base", "_law_count", "_law_table", "_law_group", "_law_item"] ["_law_base", "_law_count", "_law_table", "_law_group"] (defScope sLDueCall) := ⟨rfl, rfl, rfl, by decide +kernel, rfl, by decide +kernel, by decide +kernel⟩
theorem ok__law_due_call (T : Facts P K mg) : FnD P w K mg base 1 T._law_due_call.f T._law_due_call.fd ["_law_base", "_law_count", "_law_table", "_law_group"] (dspDue (hfX P w)) := by
  refine fn_ofE (k := 0) T._law_due_call.F sc__law_due_call (fun ds S Q E ⟨dom, n, row, g, e, _⟩ => by subst e; rfl) fun cdv A outer s H E hr hgd tk hp => ?_
  refine ⟨_, (dss_cons (ds_if (DW.dt (dw_or (dt_not (dt_val (de_isiK T.bis T.bis.tuple PyProof.Rows.boot_tuple (dv 3)))) (dw_or1 (dt_cmp (op_neD hr.units) lift_ne (de_len T.bis (dv 3)) (dv 1) rfl)))) (dss_one (ds_ret (de_tup (da_cons de_str (da_cons de_str da_nil))))) dss_nil)
      (dss_cons (ds_if (dt_cmp (op_neNil hr.units0) lift_nil (de_lc (own := [("_law_item", 4)]) rfl sc__law_due_call.nd (di_tupK (dv 3)) (⟨rfl, by decide +kernel, by decide +kernel, by decide +kernel, by decide +kernel⟩ : BlkOk ["_law_base", "_law_count", "_law_table", "_law_group", "_law_item"] (defScope sLDueCall) _ [("_law_item", 4)]) (fun s H C cl fp => (dg_name 4 sc__law_due_call.nd)) (fun s H C cl fp => (dts_one (DW.dt (dw_or (dt_not (dt_val (de_isiK T.bis T.bis.str PyProof.Rows.boot_str (dv 4)))) (dw_or1 (dt_cmp op_notIn_seq (lift_in true) (dv 4) (dv 0) rfl))))))
        (fun s H C cl fp => (dv 4))) (de_lst da_nil) rfl) (dss_one (ds_ret (de_tup (da_cons de_str (da_cons de_str da_nil))))) dss_nil)
      (dss_one (ds_ret (de_tup (da_cons de_str (da_cons (de_xgP (P := P) (w := w) rfl rfl (units1 hr) (dv 2) (dv 3)) da_nil))))))), ?_⟩
  intro ds S Q E' ⟨dom, n, row, g, e, ok, gk, q⟩
  subst e
  clear tk hp hgd hr
  obtain ⟨t, ht⟩ := gk.ty S
  walk_at "st"
  refine s_isiK ht (by decide) ?_
  rw [tyK_tup ht]
  walk_at "st"
  refine iteB (fun h => ?_) fun h => ?_
  · rw [callV_no (by simpa using h)] at q
    walk_at "st"
    exact q
  obtain ⟨es, he⟩ := Option.isSome_iff_exists.mp (show (tupI g).isSome = true by simpa using h)
  obtain ⟨hk, el, eo⟩ := gk.tup es he
  have hl : lenD S g = some es.length := by rcases hk with rfl | rfl <;> rfl
  walk_at "st"
  refine s_rd1 hl ?_
  walk_at "st"
  refine rdEq_int ?_
  walk_at "st"
  refine iteB (fun h2 => ?_) fun h2 => ?_
  · rw [callV_len he (by simp at h2; omega)] at q
    walk_at "st"
    exact q
  have h2 : es.length = n := by simp at h2; omega
  walk_at "st"
  refine ⟨es, hk.imp_right .inl, by rw [sizeLine_eq]; omega, ?_⟩
  refine lc_filter (fun e => !inDom dom e) es [] (fun e he => ⟨_, rfl, fun QT y n => ?_, fun R r => s_var rfl r⟩) ?_
  · obtain ⟨te, hte⟩ := (eo e he S).1
    obtain ⟨e2, _⟩ := ty_is hte
    walk_at "st"
    refine s_isiK (tyK_D hte) (by decide) ?_
    rw [e2]
    walk_at "st"
    refine iteB (fun h => ?_) fun h => ?_
    · refine y ?_
      cases e <;> first | rfl | cases h
    · obtain ⟨z, rfl⟩ := isStr_of (d := e) (by simpa using h)
      walk_at "st"
      refine rdIn_strs (.inl rfl) ?_
      walk_at "st"
      show QT (!decide (z ∈ dom)) S
      by_cases hz : z ∈ dom
      · rw [decide_eq_true hz]
        exact n (by show (!decide (z ∈ dom)) = false; rw [decide_eq_true hz]; rfl)
      · rw [decide_eq_false hz]
        exact y (by show (!decide (z ∈ dom)) = true; rw [decide_eq_false hz]; rfl)
  · walk_at "st"
    refine iteB (fun h => ?_) fun h => ?_
    · rw [callV_dom he h2 ?_] at q
      · walk_at "st"
        exact q
      · cases e : es.all (inDom dom) with
        | false => rfl
        | true =>
          have h : ([] ++ es.filter fun e => !inDom dom e).isEmpty = false := by simpa using h
          rw [List.nil_append, List.isEmpty_eq_false_iff] at h
          obtain ⟨x, hx⟩ := List.exists_mem_of_ne_nil _ h
          rw [List.mem_filter] at hx
          have := List.all_eq_true.mp e x hx.1
          rw [this] at hx
          cases hx.2
    · have ha : es.all (inDom dom) = true := by
        have h : ([] ++ es.filter fun e => !inDom dom e).isEmpty = true := by simpa using h
        rw [List.nil_append, List.isEmpty_iff] at h
        rw [List.all_eq_true]
        intro x hx
        cases e : inDom dom x with
        | true => rfl
        | false => exact absurd (show x ∈ es.filter fun e => !inDom dom e from List.mem_filter.mpr ⟨hx, by rw [e]; rfl⟩) (by rw [h]; simp)
      obtain ⟨v, hv, hr, hlk, hes⟩ := callV_yes ok he h2 ha
      rw [hv] at q
      walk_at "st"
      refine s_xgT (f := D.str) (.inl rfl) ?_ hlk ?_
      · rw [← hes]; exact hk
      walk_at "st"
      exact q
theorem dd__law_due_call (T : Facts P K mg) : DefD P w K mg base 1 "_law_due_call" ["_law_base", "_law_count", "_law_table", "_law_group"] (dspDue (hfX P w)) T._law_due_call.f T._law_due_call.fd := .of T._law_due_call (ok__law_due_call T)

end
end K30

set_option maxRecDepth 100000
set_option maxHeartbeats 4000000
namespace K30
open PySem PySem.Spec L2 DL
section
variable {P : Program} {w : World} {K : PySem.W.Frag} {mg : Str → Option Value} {base : Heap}
/-- a value that a vote is called with, and that is shown -/
structure GrpR (g : D) : Prop where
  grp : Grp g
  rep : RepW 1000000 10 g
theorem grpR_o {g : D} (h : AnyR g) (n : tupI g = none) : GrpR g := ⟨⟨fun S => let ⟨⟨t, ht⟩, _⟩ := h.any.ok S; ⟨t, tyK_D ht⟩, fun es e => by rw [n] at e; cases e⟩, h.rep⟩
theorem grpR_t {es : List D} (hl : es.length ≤ 20) (h : ∀ e ∈ es, EltR e) : GrpR (.tup es) := ⟨⟨fun S => ⟨_, rfl⟩, fun fs e => by cases e; exact ⟨.inl rfl, by omega, fun e he => (h e he).ok⟩⟩, (anyR_e (by omega) h).rep⟩
theorem grp_k (g : List Str) (hl : g.length ≤ 4) (nm : ∀ z ∈ g, z.length ≤ 8) : Grp (.kup (g.map .str)) := ⟨fun S => ⟨_, rfl⟩, fun fs e => by
  cases e
  refine ⟨.inr rfl, by rw [List.length_map]; omega, fun e he S => ?_⟩
  obtain ⟨z, hz, rfl⟩ := List.mem_map.mp he
  exact okI_str (by have := nm z hz; rw [sizeLine_eq]; omega)⟩
theorem name_pos {z : Str} (h : isNameS z = true) : 1 ≤ z.length := by
  unfold isNameS at h
  rw [Bool.and_eq_true, Bool.and_eq_true] at h
  exact of_decide_eq_true h.1.1
def dspOdd : DSp := fun ds S Q _ => ∃ (a L : Addr) (k : Nat) (dom : List Str) (n : Nat), ds = [.ref a, .tup (dom.map .str), .int n] ∧ Deck S a L (k + 10) ∧ Dom3 dom ∧ (∀ z ∈ dom, isNameS z = true) ∧ (n = 3 ∨ n = 4) ∧ ∀ g S', GrpR g → Deck S' a L k → Q g S'
theorem sc__law_odd_call : FnScope ["_law_deck_here", "_law_base", "_law_count", "_law_group", "_law_k", "_law_way", "_law_at", "_law_odd", "_law_menu"] ["_law_deck_here", "_law_base", "_law_count"] (defScope sLOddCall) := ⟨rfl, rfl, rfl, by decide +kernel, rfl, by decide +kernel, by decide +kernel⟩
theorem ok__law_odd_call (T : Facts P K mg) : FnD P w K mg base 3 T._law_odd_call.f T._law_odd_call.fd ["_law_deck_here", "_law_base", "_law_count"] dspOdd := by
  refine fn_ofE (k := 2) T._law_odd_call.F sc__law_odd_call (fun ds S Q E ⟨a, L, k, dom, n, e, _⟩ => by subst e; rfl) fun cdv A outer s H E hr hgd tk hp => ?_
  refine ⟨_, (dss_cons (ds_set (i := 3) sc__law_odd_call.nd (de_tuple T.bis (de_lc (own := [("_law_k", 4)]) rfl sc__law_odd_call.nd (di_range1 T.bis.range (da_cons (dv 2) da_nil)) (⟨rfl, by decide +kernel, by decide +kernel, by decide +kernel, by decide +kernel⟩ : BlkOk ["_law_deck_here", "_law_base", "_law_count", "_law_group", "_law_k", "_law_way", "_law_at", "_law_odd", "_law_menu"] (defScope sLOddCall) _ [("_law_k", 4)]) (fun s H C cl fp => (dg_name 4 sc__law_odd_call.nd)) (fun s H C cl fp => dts_nil)
        (fun s H C cl fp => (de_def (dd__law_pick T) (hr.mono (by decide)) hgd takes_n0 (da_cons (dv 0) (da_cons (dv 1) da_nil)))))))
      (dss_cons (ds_par (i := 5) (j := 6) rfl sc__law_odd_call.nd (da_cons (de_def (dd__law_draw T) (hr.mono (by decide)) hgd tk (da_cons (dv 0) (da_cons de_int da_nil))) (da_cons (de_def (dd__law_draw T) (hr.mono (by decide)) hgd tk (da_cons (dv 0) (da_cons (dv 2) da_nil))) da_nil)) (by rfl))
      (dss_cons (ds_if (dt_cmp op_lt (lift_cmpI _) (dv 5) de_int rfl) (dss_cons (ds_set (i := 7) sc__law_odd_call.nd (de_lst (da_cons de_non (da_cons de_int (da_cons de_int (da_cons de_bl (da_cons de_str (da_cons de_str (da_cons de_str (da_cons (de_list T.bis (dv 1)) (da_cons de_newK (da_cons (dv 1) (da_cons (de_tup (da_cons (de_ix (dv 1) de_int) da_nil)) (da_cons (de_op or_add lift_add (de_ix (dv 1) de_int) de_str) (da_cons (de_op op_pow (lift_intC _ _) de_int de_int) da_nil)))))))))))))))
      (dss_one (ds_ret (de_op or_add lift_add (de_op or_add lift_add (de_slice (dv 3) do_none (do_some (dv 6))) (de_tup (da_cons (de_def (dd__law_pick T) (hr.mono (by decide)) hgd tk (da_cons (dv 0) (da_cons (dv 7) da_nil))) da_nil))) (de_slice (dv 3) (do_some (de_op or_add lift_add (dv 6) de_int)) do_none))))) dss_nil)
      (dss_cons (ds_set (i := 8) sc__law_odd_call.nd (de_lst (da_cons (de_op or_add lift_add (de_slice (dv 3) do_none (do_some (dv 6))) (de_slice (dv 3) (do_some (de_op or_add lift_add (dv 6) de_int)) do_none)) (da_cons (de_op or_add lift_add (dv 3) (de_slice (dv 3) do_none (do_some de_int))) (da_cons (de_tup da_nil) (da_cons (de_slice (dv 3) do_none (do_some de_int)) (da_cons (de_list T.bis (dv 3)) (da_cons de_non (da_cons (dv 2) (da_cons de_newK da_nil))))))))))
      (dss_cons (ds_set (i := 8) sc__law_odd_call.nd (de_op or_add lift_add (dv 8) (de_lst (da_cons (de_op op_mulZ lift_mulZ (de_ix (dv 1) de_int) (dv 2)) (da_cons (de_op or_add lift_add (de_slice (dv 3) do_none (do_some de_int)) (de_tup (da_cons de_str (da_cons de_str (da_cons de_non da_nil))))) (da_cons (de_tup (da_cons (dv 3) da_nil)) (da_cons (de_op op_repT lift_repT (de_tup (da_cons de_non da_nil)) (dv 2)) (da_cons de_bl da_nil))))))))
      (dss_one (ds_ret (de_def (dd__law_pick T) (hr.mono (by decide)) hgd tk (da_cons (dv 0) (da_cons (de_op or_add lift_add (dv 8) (de_lst (da_cons (de_op op_repT lift_repT (de_tup (da_cons de_str da_nil)) (de_op or_add lift_add (dv 2) de_int)) (da_cons (de_join de_str (dv 3)) (da_cons (dv 3) da_nil))))) da_nil)))))))))), ?_⟩
  intro ds S Q E' ⟨a, L, k, dom, n, e, dr, hd, nm, hn, q⟩
  subst e
  clear tk hp hgd hr
  obtain ⟨pw, nd, l1, l3⟩ := dom3_pw hd
  obtain ⟨b0, hb0, hix⟩ := head_at l1
  have nl : ∀ z ∈ dom, PyData.strOk z = true ∧ z.length ≤ 100 := fun z hz => ⟨(name_ok (nm z hz)).1, by have := (name_ok (nm z hz)).2; omega⟩
  have b0l := (name_ok (nm b0 hb0)).2
  walk_at "sf"
  refine ⟨(n : Int), rfl, by omega, by omega, ?_⟩
  refine s_size (by unfold dItR; rw [List.length_map, List.length_range, sizeLine_eq]; omega) ?_
  refine e_lcR (n := n) (fun i acc S' => ∃ zs : List Str, acc = zs.map .str ∧ zs.length = i ∧ (∀ z ∈ zs, z ∈ dom) ∧ Deck S' a L (k + 6 + (n - i))) ?_ ?_ ⟨[], rfl, rfl, fun z hz => absurd hz List.not_mem_nil, dr.mono (by omega)⟩
  rotate_left
  · rintro J2 i hi ih2 acc S4 ⟨zs, rfl, h1, h2, D4⟩
    walk_at "sf"
    refine ⟨a, L, k + 6 + (n - (i + 1)), _, dom.map .str, rfl, .inl rfl, D4.mono (by omega), by rw [List.length_map]; omega, by rw [List.length_map]; omega, fun e2 S2 he d2 off2 => ?_⟩
    obtain ⟨v, hvd, rfl⟩ := List.mem_map.mp he
    refine ih2 _ _ ⟨zs ++ [v], by rw [List.map_append]; rfl, by rw [List.length_append, h1]; rfl, fun z hz => ?_, d2⟩
    rcases List.mem_append.mp hz with hz | hz
    · exact h2 z hz
    · rw [List.mem_singleton.mp hz]; exact hvd
  rintro acc S4 ⟨zs, rfl, hl, hm, D4⟩
  have zl : ∀ z ∈ zs, PyData.strOk z = true ∧ z.length ≤ 100 := fun z hz => nl z (hm z hz)
  walk_at "sf"
  refine ⟨a, L, k + 5, 8, rfl, D4.mono (by omega), by decide, by decide, fun way S1 w0 w1 D1 off1 => ?_⟩
  walk_at "sf"
  refine ⟨a, L, k + 4, (n : Int), rfl, D1, by omega, by omega, fun i S2 i0 i1 D2 off2 => ?_⟩
  walk_at "st"
  have c1 : (cutD zs none (some i)).length ≤ zs.length := cut_len ..
  have c2 : (cutD zs (some (i + 1)) none).length ≤ zs.length := cut_len ..
  have c5 : (cutD zs none (some 1)).length ≤ zs.length := cut_len ..
  have c6 : (cutD zs none (some 2)).length ≤ zs.length := cut_len ..
  refine iteB (fun h => ?_) fun h => ?_
  · walk_at "st"
    refine s_ixT hix ?_
    walk_at "st"
    refine s_ixT hix ?_
    walk_at "st"
    refine s_addS (by rw [sizeLine_eq]; have : (Str.ofString "x").length = 1 := rfl; omega) ?_
    walk_at "st"
    refine ⟨a, L, k + 3, _, _, rfl, .inr rfl, D2, by simp, by simp, fun e S3 he D3 off3 => ?_⟩
    walk_at "st"
    refine s_addT (by rw [sizeLine_eq, cut_map, List.length_map]; simp only [List.length_cons, List.length_nil]; omega) ?_
    walk_at "st"
    refine s_addT (by rw [sizeLine_eq, cut_map, cut_map, List.length_append, List.length_map, List.length_map]; simp only [List.length_cons, List.length_nil]; omega) ?_
    refine q _ S3 (grpR_t ?_ fun x hx => ?_) (D3.mono (by omega))
    · rw [cut_map, cut_map, List.length_append, List.length_append, List.length_map, List.length_map]; simp only [List.length_cons, List.length_nil]; omega
    · rw [cut_map, cut_map] at hx
      rcases List.mem_append.mp hx with hx | hx
      · rcases List.mem_append.mp hx with hx | hx
        · exact eltR_ss (fun z hz => zl z (cut_mem hz)) x hx
        · rw [List.mem_singleton.mp hx]
          simp only [List.mem_cons, List.not_mem_nil, or_false] at he
          rcases he with rfl | rfl | rfl | rfl | rfl | rfl | rfl | rfl | rfl | rfl | rfl | rfl | rfl
          · exact eltR_b (by decide +kernel)
          · exact eltR_b (by decide +kernel)
          · exact eltR_b (by decide +kernel)
          · exact eltR_b (by decide +kernel)
          · exact eltR_b (by decide +kernel)
          · exact eltR_b (by decide +kernel)
          · exact eltR_b (by decide +kernel)
          · exact eltR_lst l3 nl
          · exact eltR_b (by decide +kernel)
          · exact eltR_tup l3 nl
          · exact eltR_tup (gs := [b0]) (by simp) fun z hz => by rw [List.mem_singleton.mp hz]; exact nl b0 hb0
          · exact eltR_s (strOk_app (nl b0 hb0).1 (by decide +kernel)) (by rw [strLen_append]; have : (Str.ofString "x").length = 1 := rfl; omega)
          · exact eltR_b (by decide +kernel)
      · exact eltR_ss (fun z hz => zl z (cut_mem hz)) x hx
  · have ml : ∀ (lo hi : Option Int), (cutD (zs.map D.str) lo hi).length = (cutD zs lo hi).length := fun lo hi => by rw [cut_map, List.length_map]
    walk_at "st"
    refine s_addT (by rw [sizeLine_eq, ml, ml]; omega) ?_
    walk_at "st"
    refine s_addT (by rw [sizeLine_eq, ml, List.length_map]; omega) ?_
    walk_at "st"
    refine s_ixT hix ?_
    walk_at "st"
    refine s_mulZ (by omega) (by omega) (name_pos (nm b0 hb0)) (by omega) ?_
    walk_at "st"
    refine s_addT (by rw [sizeLine_eq, ml]; simp only [List.length_cons, List.length_nil]; omega) ?_
    walk_at "st"
    refine s_repT ⟨by omega, by omega⟩ (by simp) (by simp) ?_
    walk_at "st"
    refine s_repT ⟨by omega, by omega⟩ (by simp) (by simp) ?_
    walk_at "st"
    refine ⟨_, rfl, ?_⟩
    walk_at "st"
    refine ⟨zs, .inl rfl, ?_, ?_⟩
    · have a := sum_len (ys := zs) fun z hz => (name_ok (nm z (hm z hz))).2
      have b : (Str.ofString "").length = 0 := rfl
      rw [b]
      omega
    walk_at "st"
    refine ⟨a, L, k + 3, _, _, rfl, .inr rfl, D2, by simp, by simp, fun e S3 he D3 off3 => q e S3 ?_ (D3.mono (by omega))⟩
    simp only [List.mem_append, List.mem_cons, List.not_mem_nil, or_false] at he
    have jo := join_ok (ys := zs) fun z hz => name_ok (nm z (hm z hz))
    have rp := repS_ok (n := (n : Int)) (nl b0 hb0).1
    have zg : ∀ gs : List Str, gs.length ≤ 20 → (∀ z ∈ gs, z ∈ zs) → GrpR (.tup (gs.map .str)) := fun gs h1 h2 => grpR_t (by rw [List.length_map]; exact h1) (eltR_ss fun z hz => zl z (h2 z hz))
    rcases he with ((rfl | rfl | rfl | rfl | rfl | rfl | rfl | rfl) | rfl | rfl | rfl | rfl | rfl) | rfl | rfl | rfl
    · rw [cut_map, cut_map, ← List.map_append]
      exact zg _ (by rw [List.length_append]; omega) fun z hz => (List.mem_append.mp hz).elim cut_mem cut_mem
    · rw [cut_map, ← List.map_append]
      exact zg _ (by rw [List.length_append]; omega) fun z hz => (List.mem_append.mp hz).elim id cut_mem
    · exact grpR_t (by simp) fun e he => absurd he List.not_mem_nil
    · rw [cut_map]
      exact zg _ (by omega) fun z hz => cut_mem hz
    · exact grpR_o (anyR_l (by rw [List.length_map]; omega) (strs_W zl)) rfl
    · exact grpR_o (anyR_b (by decide +kernel)) rfl
    · rcases hn with rfl | rfl
      · exact grpR_o (anyR_b (by decide +kernel)) rfl
      · exact grpR_o (anyR_b (by decide +kernel)) rfl
    · exact grpR_o (anyR_b (by decide +kernel)) rfl
    · exact grpR_o (anyR_s rp.1 (by rw [rp.2]; rcases hn with rfl | rfl <;> (simp only [Int.toNat_natCast]; omega))) rfl
    · rw [cut_map]
      refine grpR_t (by rw [List.length_append, List.length_map]; simp only [List.length_cons, List.length_nil]; omega) fun x hx => ?_
      rcases List.mem_append.mp hx with hx | hx
      · exact eltR_ss (fun z hz => zl z (cut_mem hz)) x hx
      · simp only [List.mem_cons, List.not_mem_nil, or_false] at hx
        rcases hx with rfl | rfl | rfl <;> exact eltR_b (by decide +kernel)
    · refine grpR_t (by simp) fun x hx => ?_
      rw [List.mem_singleton.mp hx]
      have z : zs.length * 104 ≤ 4 * 104 := Nat.mul_le_mul_right _ (by omega)
      exact ⟨fun S => okI_tup, (repW_tup (n := 102) (m := 0) fun e he => by
        obtain ⟨z, hz, rfl⟩ := List.mem_map.mp he
        exact ((repL_str (zl z hz).1).repW).mono (by have := (name_ok (nm z (hm z hz))).2; omega) (by omega)).mono (by rw [List.length_map]; omega) (by omega)⟩
    · refine grpR_t ?_ fun x hx => ?_
      · rw [rep_len]
        rcases hn with rfl | rfl <;> decide
      · rw [List.mem_singleton.mp (rep_mem hx)]
        exact eltR_b (by decide +kernel)
    · exact grpR_o (anyR_b (by decide +kernel)) rfl
    · refine grpR_t ?_ fun x hx => ?_
      · rw [rep_len]
        rcases hn with rfl | rfl <;> decide
      · rw [List.mem_singleton.mp (rep_mem hx)]
        exact eltR_b (by decide +kernel)
    · exact grpR_o (anyR_s jo.1 (by have := jo.2; omega)) rfl
    · exact zg _ (by omega) fun z hz => hz
theorem dd__law_odd_call (T : Facts P K mg) : DefD P w K mg base 3 "_law_odd_call" ["_law_deck_here", "_law_base", "_law_count"] dspOdd T._law_odd_call.f T._law_odd_call.fd := .of T._law_odd_call (ok__law_odd_call T)

end
end K30

set_option maxRecDepth 100000
set_option maxHeartbeats 4000000
namespace K30
open PySem PySem.Spec L2 DL
section
variable {P : Program} {w : World} {K : PySem.W.Frag} {mg : Str → Option Value} {base : Heap}
/-- what the law tells of votes on rows -/
def toldR (dom : List Str) (n : Nat) (row : List Str) (m : Nat) (rows : List (List Str)) : D := if rows.length = n then .tup [.str "told", .tup ((votedS dom n row m rows).map .str)] else .tup [.str "no vote", .str "count"]
def dspVoted (hf : List Key → Int) (C : Addr) : DSp := fun ds S Q _ => ∃ dom n row m rows, ds = [voteD C dom n row (votesX hf dom n row), .lst (rows.map encT)] ∧ VoteOk dom n row ∧ RowsV dom m rows ∧ rows.length ≤ 5 ∧ ∀ S', Ext S S' → Q (toldR dom n row m rows) S'
theorem sc__law_voted : FnScope ["_law_vote", "_law_rows", "_law_told", "e"] ["_law_vote", "_law_rows"] (defScope sLVoted) := ⟨rfl, rfl, rfl, by decide +kernel, rfl, by decide +kernel, by decide +kernel⟩
theorem ok__law_voted (T : Facts P K mg) : FnD P w K mg base 3 T._law_voted.f T._law_voted.fd ["_law_vote", "_law_rows"] (dspVoted (hfX P w) T.Vote.C) := by
  obtain ⟨CE, hCE⟩ := T.n_ClashnumberError
  refine fn_ofE (k := 2) T._law_voted.F sc__law_voted (fun ds S Q E ⟨dom, n, row, m, rows, e, _⟩ => by subst e; rfl) fun cdv A outer s H E hr hgd tk hp => ?_
  refine ⟨_, (dss_cons (ds_set (i := 2) sc__law_voted.nd (de_tup (da_cons de_str da_nil)))
      (dss_cons (ds_try rfl rfl tk (fun W' pn xe tk' hp' => (dss_one (ds_if (dt_cmp (op_eqD hr.units) lift_eq (de_len T.bis (dv 1)) de_int rfl) (dss_one (ds_set (i := 2) sc__law_voted.nd (de_tup (da_cons de_str (da_cons (de_methP (dv 0) T.Vote.cl T.Vote_rows_voted.at_ (ok_Vote_rows_voted (P := P) (w := w) T) (hr.mono (by decide)) hgd tk' (da_cons (de_ix (dv 1) de_int) (da_cons (de_ix (dv 1) de_int) (da_cons (de_ix (dv 1) de_int) da_nil)))) da_nil))))) (dss_one (ds_if (dt_cmp (op_eqD hr.units) lift_eq (de_len T.bis (dv 1)) de_int rfl) (dss_one (ds_set (i := 2) sc__law_voted.nd (de_tup (da_cons de_str (da_cons (de_methP (dv 0) T.Vote.cl T.Vote_rows_voted.at_ (ok_Vote_rows_voted (P := P) (w := w) T) (hr.mono (by decide)) hgd tk' (da_cons (de_ix (dv 1) de_int) (da_cons (de_ix (dv 1) de_int) (da_cons (de_ix (dv 1) de_int) (da_cons (de_ix (dv 1) de_int) da_nil))))) da_nil))))) (dss_one (ds_if (dt_cmp (op_eqD hr.units) lift_eq (de_len T.bis (dv 1)) de_int rfl) (dss_one (ds_set (i := 2) sc__law_voted.nd (de_tup (da_cons de_str (da_cons (de_methP (dv 0) T.Vote.cl T.Vote_rows_voted.at_ (ok_Vote_rows_voted (P := P) (w := w) T) (hr.mono (by decide)) hgd tk' (da_cons (de_ix (dv 1) de_int) (da_cons (de_ix (dv 1) de_int) (da_cons (de_ix (dv 1) de_int) (da_cons (de_ix (dv 1) de_int) (da_cons (de_ix (dv 1) de_int) da_nil)))))) da_nil))))) (dss_one (ds_if (dt_cmp (op_eqD hr.units) lift_eq (de_len T.bis (dv 1)) de_int rfl) (dss_one (ds_set (i := 2) sc__law_voted.nd (de_tup (da_cons de_str (da_cons (de_methP (dv 0) T.Vote.cl T.Vote_rows_voted.at_ (ok_Vote_rows_voted (P := P) (w := w) T) (hr.mono (by decide)) hgd tk' (da_cons (de_ix (dv 1) de_int) (da_cons (de_ix (dv 1) de_int) da_nil))) da_nil))))) (dss_one (ds_set (i := 2) sc__law_voted.nd (de_tup (da_cons de_str (da_cons (de_ifExp (dt_cmp (op_eqD hr.units) lift_eq (de_len T.bis (dv 1)) de_int rfl) (de_methP (dv 0) T.Vote.cl T.Vote_rows_voted.at_ (ok_Vote_rows_voted (P := P) (w := w) T) (hr.mono (by decide)) hgd tk' (da_cons (de_ix (dv 1) de_int) da_nil)) (de_methP0 (dv 0) T.Vote.cl T.Vote_rows_voted.at_ (ok_Vote_rows_voted (P := P) (w := w) T) (hr.mono (by decide)) hgd tk')) da_nil)))))))))))))) (dcs_named (i := 3) sc__law_voted.nd ⟨rfl, by decide, .inl T.NoVote.at_⟩ (fun a oe cls d pn hz hf => (dss_one (ds_set (i := 2) sc__law_voted.nd (de_tup (da_cons de_str (da_cons (de_xf T.NoVote.xf T.NoVote.no hz hf (dv 3)) da_nil)))))) (dcs_anon ⟨rfl, by decide, .inl hCE⟩ (fun a oe cls d pn hz hf => (dss_one (ds_set (i := 2) sc__law_voted.nd (de_tup (da_cons de_str da_nil))))) dcs_nil)))
      (dss_one (ds_ret (dv 2))))), ?_⟩
  intro ds S Q E' ⟨dom, n, row, m, rows, e, ok, v, l5, q⟩
  subst e
  clear tk hp hgd hr
  match rows, l5, v, q with
  | [], l5, v, q =>
    walk_at "st"
    refine rdEq_int ?_
    walk_at "st"
    refine rdEq_int ?_
    walk_at "st"
    refine rdEq_int ?_
    walk_at "st"
    refine rdEq_int ?_
    walk_at "st"
    refine rdEq_int ?_
    walk_at "st"
    refine s_isObjO (by decide) ?_
    walk_at "st"
    refine ⟨[_], [], rfl, rfl, by simp, dom, n, row, m, [], rfl, ok, v, l5, fun h => ?_, fun h => ?_⟩
    · rw [show toldR dom n row m [] = _ from if_pos h] at q
      walk_at "st"
      exact q S Ext.refl
    · rw [show toldR dom n row m [] = _ from if_neg h] at q
      refine ⟨true, T.NoVote.me, fun _ a ha => ⟨fun h => (by cases h), fun dd hdd ne => ?_⟩, fun h => (by cases h)⟩
      walk_at "st"
      refine ⟨rfl, rfl, dd, _, _, .str "count", rfl, put_same, by with_unfolding_all rfl, ?_⟩
      walk_at "st"
      exact q _ (Ext.new hdd)
  | [r0], l5, v, q =>
    walk_at "st"
    refine rdEq_int ?_
    walk_at "st"
    refine rdEq_int ?_
    walk_at "st"
    refine rdEq_int ?_
    walk_at "st"
    refine rdEq_int ?_
    walk_at "st"
    refine rdEq_int ?_
    walk_at "st"
    refine s_isObjO (by decide) ?_
    walk_at "st"
    refine s_ixL (L2.atI_nat (j := 0) rfl) ?_
    walk_at "st"
    refine ⟨[_], [_], rfl, rfl, by simp, dom, n, row, m, [r0], rfl, ok, v, l5, fun h => ?_, fun h => ?_⟩
    · rw [show toldR dom n row m [r0] = _ from if_pos h] at q
      walk_at "st"
      exact q S Ext.refl
    · rw [show toldR dom n row m [r0] = _ from if_neg h] at q
      refine ⟨true, T.NoVote.me, fun _ a ha => ⟨fun h => (by cases h), fun dd hdd ne => ?_⟩, fun h => (by cases h)⟩
      walk_at "st"
      refine ⟨rfl, rfl, dd, _, _, .str "count", rfl, put_same, by with_unfolding_all rfl, ?_⟩
      walk_at "st"
      exact q _ (Ext.new hdd)
  | [r0, r1], l5, v, q =>
    walk_at "st"
    refine rdEq_int ?_
    walk_at "st"
    refine rdEq_int ?_
    walk_at "st"
    refine rdEq_int ?_
    walk_at "st"
    refine rdEq_int ?_
    walk_at "st"
    refine s_isObjO (by decide) ?_
    walk_at "st"
    refine s_ixL (L2.atI_nat (j := 0) rfl) ?_
    walk_at "st"
    refine s_ixL (L2.atI_nat (j := 1) rfl) ?_
    walk_at "st"
    refine ⟨[_], [_, _], rfl, rfl, by simp, dom, n, row, m, [r0, r1], rfl, ok, v, l5, fun h => ?_, fun h => ?_⟩
    · rw [show toldR dom n row m [r0, r1] = _ from if_pos h] at q
      walk_at "st"
      exact q S Ext.refl
    · rw [show toldR dom n row m [r0, r1] = _ from if_neg h] at q
      refine ⟨true, T.NoVote.me, fun _ a ha => ⟨fun h => (by cases h), fun dd hdd ne => ?_⟩, fun h => (by cases h)⟩
      walk_at "st"
      refine ⟨rfl, rfl, dd, _, _, .str "count", rfl, put_same, by with_unfolding_all rfl, ?_⟩
      walk_at "st"
      exact q _ (Ext.new hdd)
  | [r0, r1, r2], l5, v, q =>
    walk_at "st"
    refine rdEq_int ?_
    walk_at "st"
    refine s_isObjO (by decide) ?_
    walk_at "st"
    refine s_ixL (L2.atI_nat (j := 0) rfl) ?_
    walk_at "st"
    refine s_ixL (L2.atI_nat (j := 1) rfl) ?_
    walk_at "st"
    refine s_ixL (L2.atI_nat (j := 2) rfl) ?_
    walk_at "st"
    refine ⟨[_], [_, _, _], rfl, rfl, by simp, dom, n, row, m, [r0, r1, r2], rfl, ok, v, l5, fun h => ?_, fun h => ?_⟩
    · rw [show toldR dom n row m [r0, r1, r2] = _ from if_pos h] at q
      walk_at "st"
      exact q S Ext.refl
    · rw [show toldR dom n row m [r0, r1, r2] = _ from if_neg h] at q
      refine ⟨true, T.NoVote.me, fun _ a ha => ⟨fun h => (by cases h), fun dd hdd ne => ?_⟩, fun h => (by cases h)⟩
      walk_at "st"
      refine ⟨rfl, rfl, dd, _, _, .str "count", rfl, put_same, by with_unfolding_all rfl, ?_⟩
      walk_at "st"
      exact q _ (Ext.new hdd)
  | [r0, r1, r2, r3], l5, v, q =>
    walk_at "st"
    refine rdEq_int ?_
    walk_at "st"
    refine rdEq_int ?_
    walk_at "st"
    refine s_isObjO (by decide) ?_
    walk_at "st"
    refine s_ixL (L2.atI_nat (j := 0) rfl) ?_
    walk_at "st"
    refine s_ixL (L2.atI_nat (j := 1) rfl) ?_
    walk_at "st"
    refine s_ixL (L2.atI_nat (j := 2) rfl) ?_
    walk_at "st"
    refine s_ixL (L2.atI_nat (j := 3) rfl) ?_
    walk_at "st"
    refine ⟨[_], [_, _, _, _], rfl, rfl, by simp, dom, n, row, m, [r0, r1, r2, r3], rfl, ok, v, l5, fun h => ?_, fun h => ?_⟩
    · rw [show toldR dom n row m [r0, r1, r2, r3] = _ from if_pos h] at q
      walk_at "st"
      exact q S Ext.refl
    · rw [show toldR dom n row m [r0, r1, r2, r3] = _ from if_neg h] at q
      refine ⟨true, T.NoVote.me, fun _ a ha => ⟨fun h => (by cases h), fun dd hdd ne => ?_⟩, fun h => (by cases h)⟩
      walk_at "st"
      refine ⟨rfl, rfl, dd, _, _, .str "count", rfl, put_same, by with_unfolding_all rfl, ?_⟩
      walk_at "st"
      exact q _ (Ext.new hdd)
  | [r0, r1, r2, r3, r4], l5, v, q =>
    walk_at "st"
    refine rdEq_int ?_
    walk_at "st"
    refine rdEq_int ?_
    walk_at "st"
    refine rdEq_int ?_
    walk_at "st"
    refine s_isObjO (by decide) ?_
    walk_at "st"
    refine s_ixL (L2.atI_nat (j := 0) rfl) ?_
    walk_at "st"
    refine s_ixL (L2.atI_nat (j := 1) rfl) ?_
    walk_at "st"
    refine s_ixL (L2.atI_nat (j := 2) rfl) ?_
    walk_at "st"
    refine s_ixL (L2.atI_nat (j := 3) rfl) ?_
    walk_at "st"
    refine s_ixL (L2.atI_nat (j := 4) rfl) ?_
    walk_at "st"
    refine ⟨[_], [_, _, _, _, _], rfl, rfl, by simp, dom, n, row, m, [r0, r1, r2, r3, r4], rfl, ok, v, l5, fun h => ?_, fun h => ?_⟩
    · rw [show toldR dom n row m [r0, r1, r2, r3, r4] = _ from if_pos h] at q
      walk_at "st"
      exact q S Ext.refl
    · rw [show toldR dom n row m [r0, r1, r2, r3, r4] = _ from if_neg h] at q
      refine ⟨true, T.NoVote.me, fun _ a ha => ⟨fun h => (by cases h), fun dd hdd ne => ?_⟩, fun h => (by cases h)⟩
      walk_at "st"
      refine ⟨rfl, rfl, dd, _, _, .str "count", rfl, put_same, by with_unfolding_all rfl, ?_⟩
      walk_at "st"
      exact q _ (Ext.new hdd)
theorem dd__law_voted (T : Facts P K mg) : DefD P w K mg base 3 "_law_voted" ["_law_vote", "_law_rows"] (dspVoted (hfX P w) T.Vote.C) T._law_voted.f T._law_voted.fd := .of T._law_voted (ok__law_voted T)

end
end K30

set_option maxRecDepth 100000
set_option maxHeartbeats 4000000
namespace K30
open PySem PySem.Spec L2 DL
section
variable {P : Program} {w : World} {K : PySem.W.Frag} {mg : Str → Option Value} {base : Heap}
theorem atI_row {r : List Str} {i : Nat} (h : i < r.length) : L2.atI (r.map D.str) (i : Int) = some (.str (r.getD i Str.empty)) := by
  refine L2.atI_nat ?_
  rw [List.getElem?_map, List.getElem?_eq_getElem h, List.getD_eq_getElem?_getD, List.getElem?_eq_getElem h]
  rfl
theorem repW_names {gs : List Str} (l : gs.length ≤ 100) (h : ∀ z ∈ gs, PyData.strOk z = true ∧ z.length ≤ 100) : RepW 110000 1 (.tup (gs.map .str)) := by
  have z : gs.length * 1004 ≤ 100 * 1004 := Nat.mul_le_mul_right _ l
  exact (repW_tup (n := 1002) (m := 0) (ds := gs.map .str) fun e he => by
    obtain ⟨z, hz, rfl⟩ := List.mem_map.mp he
    exact ((repL_str (h z hz).1).repW).mono (by have := (h z hz).2; omega) (by omega)).mono (by rw [List.length_map]; omega) (by omega)
theorem repW_two {x y : D} (hx : RepW 120000 5 x) (hy : RepW 120000 5 y) : RepW 300000 6 (.tup [x, y]) := (repW_tup (n := 120000) (m := 5) fun e he => by
  simp only [List.mem_cons, List.not_mem_nil, or_false] at he
  rcases he with rfl | rfl
  · exact hx
  · exact hy).mono (by simp) (by omega)
theorem repW_s {z : Str} (h : PyData.strOk z = true) (l : z.length ≤ 100) : RepW 120000 5 (.str z) := ((repL_str h).repW).mono (by omega) (by omega)
theorem toldR_rep {dom row : List Str} {n m : Nat} {rows : List (List Str)} (ok : VoteOk dom n row) (v : RowsV dom m rows) : RepW 300000 6 (toldR dom n row m rows) := by
  unfold toldR
  by_cases h : rows.length = n
  · rw [if_pos h]
    refine repW_two (repW_s (by decide +kernel) (by decide +kernel)) ((repW_names ?_ fun z hz => ?_).mono (by omega) (by omega))
    · unfold votedS
      rw [List.length_map, List.length_range]
      exact v.few
    · have := name_ok (ok.nm z (votedS_mem ok v h z hz))
      exact ⟨this.1, by omega⟩
  · rw [if_neg h]
    exact repW_two (repW_s (by decide +kernel) (by decide +kernel)) (repW_s (by decide +kernel) (by decide +kernel))
theorem told2_rep {x : D} (h : RepW 300000 6 x) : RepW 16000000 60 (.lst [x, x]) := (repW_lst (n := 300000) (m := 6) fun e he => by
  simp only [List.mem_cons, List.not_mem_nil, or_false, or_self] at he
  rw [he]
  exact h).mono (by simp only [List.length_cons, List.length_nil]; omega) (by omega)
theorem rows_rep {dom : List Str} {m : Nat} {rows : List (List Str)} (nm : ∀ z ∈ dom, isNameS z = true) (v : RowsV dom m rows) (l : rows.length ≤ 5) : RepW 16000000 60 (.lst (rows.map encT)) := by
  refine (repW_lst (n := 110000) (m := 1) fun e he => ?_).mono (Nat.le_trans (Nat.add_le_add_right (Nat.mul_le_mul_right _ (show (rows.map encT).length ≤ 5 by rw [List.length_map]; exact l)) 3) (by decide)) (by omega)
  obtain ⟨r, hr, rfl⟩ := List.mem_map.mp he
  exact repW_names (by rw [v.len r hr]; exact v.few) fun z hz => by
    have := name_ok (nm z (v.mem r hr z hz))
    exact ⟨this.1, by omega⟩
theorem eqs_same {S : Store} {Q : DQ} {z : Str} (q : Q (.bl true) S) : rdStrE false (.str z) (.str z) S Q := by
  show Q (.bl (if false = true then !decide (z = z) else decide (z = z))) S
  rw [decide_eq_true rfl]
  exact q
theorem nes_same {S : Store} {Q : DQ} {z : Str} (q : Q (.bl false) S) : rdStrE true (.str z) (.str z) S Q := by
  show Q (.bl (if true = true then !decide (z = z) else decide (z = z))) S
  rw [decide_eq_true rfl]
  exact q
def dspRowsR (hf : List Key → Int) (C : Addr) : DSp := fun ds S Q _ => ∃ (a L : Addr) (k : Nat) (dom : List Str) (n : Nat) (row : List Str), ds = [.ref a, .tup (dom.map .str), .int n, votesX hf dom n row, voteD C dom n row (votesX hf dom n row)] ∧ Deck S a L (k + 200) ∧ VoteOk dom n row ∧ ∀ S', Deck S' a L k → Q (.bl true) S'
theorem sc__law_rows_right : FnScope ["_law_deck_here", "_law_base", "_law_count", "_law_table", "_law_vote", "_law_long", "_law_many", "_law_rows", "_law_place", "_law_k", "_law_due", "_law_row", "_law_kept", "_law_told"] ["_law_deck_here", "_law_base", "_law_count", "_law_table", "_law_vote"] (defScope sLRowsRight) := ⟨rfl, rfl, rfl, by decide +kernel, rfl, by decide +kernel, by decide +kernel⟩
theorem ok__law_rows_right (T : Facts P K mg) : FnD P w K mg base 4 T._law_rows_right.f T._law_rows_right.fd ["_law_deck_here", "_law_base", "_law_count", "_law_table", "_law_vote"] (dspRowsR (hfX P w) T.Vote.C) := by
  refine fn_ofE (k := 3) T._law_rows_right.F sc__law_rows_right (fun ds S Q E ⟨a, L, k, dom, n, row, e, _⟩ => by subst e; rfl) fun cdv A outer s H E hr hgd tk hp => ?_
  refine ⟨_, (dss_cons (ds_set (i := 5) sc__law_rows_right.nd (de_def (dd__law_pick T) (hr.mono (by decide)) hgd tk (da_cons (dv 0) (da_cons (de_lst (da_cons de_int (da_cons de_int (da_cons de_int (da_cons de_int (da_cons de_int (da_cons de_int (da_cons de_int (da_cons de_int da_nil))))))))) da_nil))))
      (dss_cons (ds_set (i := 6) sc__law_rows_right.nd (de_def (dd__law_pick T) (hr.mono (by decide)) hgd tk (da_cons (dv 0) (da_cons (de_lst (da_cons (dv 2) (da_cons (dv 2) (da_cons (dv 2) (da_cons (de_op op_sub (lift_int _) de_int (dv 2)) (da_cons de_int (da_cons de_int (da_cons de_int (da_cons de_int da_nil))))))))) da_nil))))
      (dss_cons (ds_set (i := 7) sc__law_rows_right.nd (de_lc (own := [("_law_k", 9)]) rfl sc__law_rows_right.nd (di_range1 T.bis.range (da_cons (dv 6) da_nil)) (⟨rfl, by decide +kernel, by decide +kernel, by decide +kernel, by decide +kernel⟩ : BlkOk ["_law_deck_here", "_law_base", "_law_count", "_law_table", "_law_vote", "_law_long", "_law_many", "_law_rows", "_law_place", "_law_k", "_law_due", "_law_row", "_law_kept", "_law_told"] (defScope sLRowsRight) _ [("_law_k", 9)]) (fun s H C cl fp => (dg_name 9 sc__law_rows_right.nd)) (fun s H C cl fp => dts_nil)
        (fun s H C cl fp => (de_tuple T.bis (de_lc (own := [("_law_place", 8)]) rfl sc__law_rows_right.nd (di_range1 T.bis.range (da_cons (dv 5) da_nil)) (⟨rfl, by first | decide +kernel | exact of_decide_eq_true (by kernel_rfl) | exact of_decide_eq_true rfl, by decide +kernel, by first | decide +kernel | exact of_decide_eq_true (by kernel_rfl) | exact of_decide_eq_true rfl, by first | decide +kernel | exact of_decide_eq_true (by kernel_rfl) | exact of_decide_eq_true rfl⟩ : BlkOk ["_law_deck_here", "_law_base", "_law_count", "_law_table", "_law_vote", "_law_long", "_law_many", "_law_rows", "_law_place", "_law_k", "_law_due", "_law_row", "_law_kept", "_law_told"] _ _ [("_law_place", 8)]) (fun s H C cl fp => (dg_name 8 sc__law_rows_right.nd)) (fun s H C cl fp => dts_nil)
        (fun s H C cl fp => (de_def (dd__law_pick T) (hr.mono (by decide)) hgd takes_n0 (da_cons (dv 0) (da_cons (dv 1) da_nil)))))))))
      (dss_cons (ds_if (DW.dt (dw_and (dt_cmp op_gt (lift_cmpI _) (dv 6) de_int rfl) (dw_and1 (dt_cmp (op_eqD hr.units) lift_eq (de_def (dd__law_draw T) (hr.mono (by decide)) hgd tk (da_cons (dv 0) (da_cons de_int da_nil))) de_int rfl)))) (dss_one (ds_set (i := 7) sc__law_rows_right.nd (de_op or_add lift_add (de_op or_add lift_add (de_slice (dv 7) do_none (do_some de_int)) (de_lst (da_cons (de_ix (dv 7) de_int) da_nil))) (de_slice (dv 7) (do_some de_int) do_none)))) dss_nil)
      (dss_cons (ds_set (i := 10) sc__law_rows_right.nd (de_tup (da_cons de_str (da_cons de_str da_nil))))
      (dss_cons (ds_if (dt_cmp (op_eqD hr.units) lift_eq (dv 6) (dv 2) rfl) (dss_one (ds_set (i := 10) sc__law_rows_right.nd (de_tup (da_cons de_str (da_cons (de_tuple T.bis (de_lc (own := [("_law_place", 8)]) rfl sc__law_rows_right.nd (di_range1 T.bis.range (da_cons (dv 5) da_nil)) (⟨rfl, by decide +kernel, by decide +kernel, by decide +kernel, by decide +kernel⟩ : BlkOk ["_law_deck_here", "_law_base", "_law_count", "_law_table", "_law_vote", "_law_long", "_law_many", "_law_rows", "_law_place", "_law_k", "_law_due", "_law_row", "_law_kept", "_law_told"] (defScope sLRowsRight) _ [("_law_place", 8)]) (fun s H C cl fp => (dg_name 8 sc__law_rows_right.nd)) (fun s H C cl fp => dts_nil)
        (fun s H C cl fp => (de_xgP (P := P) (w := w) rfl rfl (units1 hr) (dv 3) (de_tuple T.bis (de_lc (own := [("_law_row", 11)]) rfl sc__law_rows_right.nd (di_list (dv 7)) (⟨rfl, by first | decide +kernel | exact of_decide_eq_true (by kernel_rfl) | exact of_decide_eq_true rfl, by decide +kernel, by first | decide +kernel | exact of_decide_eq_true (by kernel_rfl) | exact of_decide_eq_true rfl, by first | decide +kernel | exact of_decide_eq_true (by kernel_rfl) | exact of_decide_eq_true rfl⟩ : BlkOk ["_law_deck_here", "_law_base", "_law_count", "_law_table", "_law_vote", "_law_long", "_law_many", "_law_rows", "_law_place", "_law_k", "_law_due", "_law_row", "_law_kept", "_law_told"] _ _ [("_law_row", 11)]) (fun s H C cl fp => (dg_name 11 sc__law_rows_right.nd)) (fun s H C cl fp => dts_nil)
        (fun s H C cl fp => (de_ix (dv 11) (dv 8))))))))) da_nil))))) dss_nil)
      (dss_cons (ds_set (i := 12) sc__law_rows_right.nd (de_reprV T.bis hgd hr.units (dv 7)))
      (dss_cons (ds_set (i := 13) sc__law_rows_right.nd (de_lst (da_cons (de_def (dd__law_voted (P := P) (w := w) T) (hr.mono (by decide)) hgd tk (da_cons (dv 4) (da_cons (dv 7) da_nil))) (da_cons (de_def (dd__law_voted (P := P) (w := w) T) (hr.mono (by decide)) hgd tk (da_cons (dv 4) (da_cons (dv 7) da_nil))) da_nil))))
      (dss_one (ds_ret (de_and (de_cmp op_eq lift_eqSt (de_reprV T.bis hgd hr.units (dv 13)) (de_reprV T.bis hgd hr.units (de_lst (da_cons (dv 10) (da_cons (dv 10) da_nil)))) rfl) (de_one (de_cmp op_eq lift_eqSt (de_reprV T.bis hgd hr.units (dv 7)) (dv 12) rfl))))))))))))), ?_⟩
  intro ds S Q E' ⟨a, L, k, dom, n, row, e, dr, ok, q⟩
  subst e
  clear tk hp hgd hr
  obtain ⟨pw, nd, l1, l3⟩ := dom3_pw ok.d3
  have hn := ok.cn
  walk_at "sf"
  refine ⟨a, L, k + 199, _, _, rfl, .inr rfl, dr, by simp, by simp, fun e S1 he D1 off1 => ?_⟩
  obtain ⟨m, rfl, hm⟩ : ∃ m : Nat, e = .int m ∧ m ≤ 30 := by
    simp only [List.mem_cons, List.not_mem_nil, or_false] at he
    rcases he with rfl | rfl | rfl | rfl | rfl | rfl | rfl | rfl
    · exact ⟨0, rfl, by omega⟩
    · exact ⟨1, rfl, by omega⟩
    · exact ⟨2, rfl, by omega⟩
    · exact ⟨3, rfl, by omega⟩
    · exact ⟨5, rfl, by omega⟩
    · exact ⟨8, rfl, by omega⟩
    · exact ⟨16, rfl, by omega⟩
    · exact ⟨30, rfl, by omega⟩
  clear he
  walk_at "sf"
  refine ⟨a, L, k + 198, _, _, rfl, .inr rfl, D1, by simp, by simp, fun e S2 he D2 off2 => ?_⟩
  obtain ⟨j, rfl, hj⟩ : ∃ j : Nat, e = .int j ∧ j ≤ 5 := by
    simp only [List.mem_cons, List.not_mem_nil, or_false] at he
    rcases he with rfl | rfl | rfl | rfl | rfl | rfl | rfl | rfl
    · exact ⟨n, rfl, by omega⟩
    · exact ⟨n, rfl, by omega⟩
    · exact ⟨n, rfl, by omega⟩
    · exact ⟨7 - n, congrArg D.int (by omega), by omega⟩
    · exact ⟨0, rfl, by omega⟩
    · exact ⟨1, rfl, by omega⟩
    · exact ⟨2, rfl, by omega⟩
    · exact ⟨5, rfl, by omega⟩
  clear he
  walk_at "sf"
  refine ⟨(j : Int), rfl, by omega, by omega, ?_⟩
  refine s_size (by unfold dItR; rw [List.length_map, List.length_range, sizeLine_eq]; omega) ?_
  refine e_lcR (n := j) (fun i acc S' => ∃ rows : List (List Str), acc = rows.map encT ∧ rows.length = i ∧ RowsV dom m rows ∧ Deck S' a L (k + 10 + 31 * (j - i))) ?_ ?_ ⟨[], rfl, rfl, ⟨fun r hr => absurd hr List.not_mem_nil, fun r hr => absurd hr List.not_mem_nil, by omega⟩, D2.mono (by omega)⟩
  rotate_left
  · rintro J i hi ih acc S3 ⟨rows, rfl, h1, h2, D3⟩
    walk_at "sf"
    refine ⟨(m : Int), rfl, by omega, by omega, ?_⟩
    refine s_size (by unfold dItR; rw [List.length_map, List.length_range, sizeLine_eq]; omega) ?_
    refine e_lcR (n := m) (fun i2 acc S' => ∃ zs : List Str, acc = zs.map .str ∧ zs.length = i2 ∧ (∀ z ∈ zs, z ∈ dom) ∧ Deck S' a L (k + 10 + 31 * (j - (i + 1)) + (m - i2))) ?_ ?_ ⟨[], rfl, rfl, fun z hz => absurd hz List.not_mem_nil, D3.mono (by omega)⟩
    rotate_left
    · rintro J2 i2 hi2 ih2 acc S4 ⟨zs, rfl, h3, h4, D4⟩
      walk_at "sf"
      refine ⟨a, L, k + 10 + 31 * (j - (i + 1)) + (m - (i2 + 1)), _, dom.map .str, rfl, .inl rfl, D4.mono (by omega), by rw [List.length_map]; omega, by rw [List.length_map]; omega, fun e2 S5 he d2 off2 => ?_⟩
      obtain ⟨v, hvd, rfl⟩ := List.mem_map.mp he
      refine ih2 _ _ ⟨zs ++ [v], by rw [List.map_append]; rfl, by rw [List.length_append, h3]; rfl, fun z hz => ?_, d2⟩
      rcases List.mem_append.mp hz with hz | hz
      · exact h4 z hz
      · rw [List.mem_singleton.mp hz]; exact hvd
    rintro acc S4 ⟨zs, rfl, h3, h4, D4⟩
    walk_at "sf"
    refine ih _ _ ⟨rows ++ [zs], by rw [List.map_append]; rfl, by rw [List.length_append, h1]; rfl, ⟨fun r hr => ?_, fun r hr => ?_, by omega⟩, D4.mono (by omega)⟩
    · rcases List.mem_append.mp hr with hr | hr
      · exact h2.len r hr
      · rw [List.mem_singleton.mp hr]; exact h3
    · rcases List.mem_append.mp hr with hr | hr
      · exact h2.mem r hr
      · rw [List.mem_singleton.mp hr]; exact h4
  rintro acc S3 ⟨rows, rfl, hl, v, D3⟩
  walk_at "sj"
  refine e_ifK (fun ρ' S' => ∃ rows2 : List (List Str), rows2.length = j ∧ RowsV dom m rows2 ∧ Deck S' a L k ∧ ρ' = [some (.ref a), some (.tup (dom.map .str)), some (.int n), some (votesX (hfX P w) dom n row), some (voteD T.Vote.C dom n row (votesX (hfX P w) dom n row)), some (.int (m : Nat)), some (.int (j : Nat)), some (.lst (rows2.map encT)), none, none, none, none, none, none]) ?_ fun J hJ => ?_
  rotate_left
  · walk_at "st"
    refine iteB (fun h => ?_) fun h => ?_
    · walk_at "st"
      refine ⟨a, L, k + 9, 3, rfl, D3.mono (by omega), by decide, by decide, fun i S4 i0 i1 D4 off4 => ?_⟩
      walk_at "st"
      refine rdEq_int ?_
      walk_at "st"
      refine iteB (fun h2 => ?_) fun h2 => ?_
      · have j2 : 2 ≤ j := by have := of_decide_eq_true h; omega
        obtain ⟨r0, rs, hrs⟩ : ∃ r0 rs, rows = r0 :: rs := by
          cases rows with
          | nil => simp at hl; omega
          | cons r0 rs => exact ⟨r0, rs, rfl⟩
        have hr0 : r0 ∈ rows := by rw [hrs]; exact List.mem_cons_self
        walk_at "st"
        refine s_ixL (k := 0) (d := encT r0) (by rw [hrs]; exact L2.atI_nat (j := 0) rfl) ?_
        walk_at "st"
        have e1 : cutD (rows.map encT) none (some 1) = (rows.take 1).map encT := by rw [cut_map]; exact congrArg _ (cut_take rows 1)
        have e2 : cutD (rows.map encT) (some 2) none = (rows.drop 2).map encT := by rw [cut_map]; exact congrArg _ (cut_drop rows 2)
        rw [e1]
        refine s_addL (by rw [sizeLine_eq, List.length_map, List.length_take]; simp only [List.length_cons, List.length_nil]; omega) ?_
        walk_at "st"
        rw [e2]
        refine s_addL (by rw [sizeLine_eq, List.length_append, List.length_map, List.length_take, List.length_map, List.length_drop]; simp only [List.length_cons, List.length_nil]; omega) ?_
        walk_at "st"
        refine hJ _ _ ⟨rows.take 1 ++ [r0] ++ rows.drop 2, ?_, ⟨fun r hr => v.len r ?_, fun r hr => v.mem r ?_, v.few⟩, D4.mono (by omega), by rw [List.map_append, List.map_append]; rfl⟩
        · rw [List.length_append, List.length_append, List.length_take, List.length_drop]
          simp only [List.length_cons, List.length_nil]
          omega
        all_goals
          rcases List.mem_append.mp hr with hr | hr
          · rcases List.mem_append.mp hr with hr | hr
            · exact List.mem_of_mem_take hr
            · rw [List.mem_singleton.mp hr]; exact hr0
          · exact List.mem_of_mem_drop hr
      · walk_at "st"
        exact hJ _ _ ⟨rows, hl, v, D4.mono (by omega), rfl⟩
    · walk_at "st"
      exact hJ _ _ ⟨rows, hl, v, D3.mono (by omega), rfl⟩
  rintro ρ' S4 ⟨rows2, hl2, v2, D4, rfl⟩
  walk_at "sj"
  refine e_ifK (fun ρ' S' => S' = S4 ∧ ρ' = [some (.ref a), some (.tup (dom.map .str)), some (.int n), some (votesX (hfX P w) dom n row), some (voteD T.Vote.C dom n row (votesX (hfX P w) dom n row)), some (.int (m : Nat)), some (.int (j : Nat)), some (.lst (rows2.map encT)), none, none, some (toldR dom n row m rows2), none, none, none]) ?_ fun J hJ => ?_
  rotate_left
  · walk_at "st"
    refine rdEq_int ?_
    walk_at "st"
    refine iteB (fun h => ?_) fun h => ?_
    · have hjn : rows2.length = n := by have := of_decide_eq_true h; omega
      walk_at "st"
      refine s_it1i (by omega) (by omega) ?_
      refine s_size (by unfold dItR; rw [List.length_map, List.length_range, sizeLine_eq]; omega) ?_
      refine e_lcR (n := m) (fun i acc S' => acc = (List.range i).map (fun i => D.str (voteOf dom n row (colAt rows2 i))) ∧ S' = S4) ?_ ?_ ⟨rfl, rfl⟩
      rotate_left
      · rintro J2 i hi ih acc S5 ⟨rfl, rfl⟩
        walk_at "st"
        refine lcgo_map encT (fun r => D.str (r.getD i Str.empty)) rows2 [] (fun r hr => ⟨_, rfl, fun R rr => ?_⟩) ?_
        · walk_at "st"
          exact s_ixT (atI_row (by rw [v2.len r hr]; exact hi)) rr
        rw [List.nil_append, show (rows2.map fun r => D.str (r.getD i Str.empty)) = (colAt rows2 i).map .str from by unfold colAt; rw [List.map_map]; rfl]
        walk_at "st"
        refine s_xgT (f := D.str) (.inl rfl) (.inl rfl) (v2.voted ok hjn hi).1 ?_
        exact ih _ _ ⟨by rw [List.range_succ, List.map_append]; rfl, rfl⟩
      rintro acc S5 ⟨rfl, rfl⟩
      walk_at "st"
      refine hJ _ _ ⟨rfl, ?_⟩
      rw [show toldR dom n row m rows2 = _ from if_pos hjn]
      unfold votedS
      rw [List.map_map]
      rfl
    · have hjn : ¬ rows2.length = n := by have := of_decide_eq_false h; omega
      walk_at "st"
      refine hJ _ _ ⟨rfl, ?_⟩
      rw [show toldR dom n row m rows2 = _ from if_neg hjn]
      rfl
  rintro ρ' S5 ⟨rfl, rfl⟩
  have lr : rows2.length ≤ 5 := by omega
  walk_at "st"
  refine s_reprV (rows_rep ok.nm v2 lr) ?_
  walk_at "st"
  refine ⟨dom, n, row, m, rows2, rfl, ok, v2, lr, fun S6 e6 => ?_⟩
  walk_at "st"
  refine ⟨dom, n, row, m, rows2, rfl, ok, v2, lr, fun S7 e7 => ?_⟩
  walk_at "st"
  refine s_reprV (told2_rep (toldR_rep ok v2)) ?_
  walk_at "st"
  refine s_reprV (told2_rep (toldR_rep ok v2)) ?_
  refine eqs_same ?_
  walk_at "st"
  refine s_reprV (rows_rep ok.nm v2 lr) ?_
  walk_at "st"
  refine eqs_same ?_
  walk_at "st"
  exact q _ ((D4.ext e6).ext e7)
theorem dd__law_rows_right (T : Facts P K mg) : DefD P w K mg base 4 "_law_rows_right" ["_law_deck_here", "_law_base", "_law_count", "_law_table", "_law_vote"] (dspRowsR (hfX P w) T.Vote.C) T._law_rows_right.f T._law_rows_right.fd := .of T._law_rows_right (ok__law_rows_right T)

end
end K30

set_option maxRecDepth 100000
set_option maxHeartbeats 4000000
namespace K30
open PySem PySem.Spec L2 DL
section
variable {P : Program} {w : World} {K : PySem.W.Frag} {mg : Str → Option Value} {base : Heap}
theorem toldV_rep {dom row : List Str} {n : Nat} {g : D} (ok : VoteOk dom n row) : RepW 300000 6 (toldV (callV dom n row g)) := by
  unfold toldV
  refine repW_two ?_ ?_
  · split
    · exact repW_s (by decide +kernel) (by decide +kernel)
    · exact repW_s (by decide +kernel) (by decide +kernel)
  · have nr : ∀ z ∈ row, PyData.strOk z = true ∧ z.length ≤ 100 := fun z hz => by
      have := name_ok (ok.nr z hz)
      exact ⟨this.1, by omega⟩
    cases h : tupI g with
    | none => rw [callV_no h]; exact repW_s (by decide +kernel) (by decide +kernel)
    | some es =>
      by_cases hl : es.length = n
      · cases hd : es.all (inDom dom) with
        | false => rw [callV_dom h hl hd]; exact repW_s (by decide +kernel) (by decide +kernel)
        | true =>
          obtain ⟨v, hv, hr, _, _⟩ := callV_yes ok h hl hd
          rw [hv]
          exact repW_s (nr v hr).1 (nr v hr).2
      · rw [callV_len h hl]; exact repW_s (by decide +kernel) (by decide +kernel)
theorem told1_rep {x : D} (h : RepW 300000 6 x) : RepW 16000000 60 x := h.mono (by decide) (by decide)
/-- a row of the table: what the vote tells of it -/
theorem call_row {dom row : List Str} {n : Nat} (ok : VoteOk dom n row) {g : List Str} (hg : g ∈ rowsS dom n) : ∃ v, v ∈ row ∧ lookS (rowsS dom n) row g = some v ∧ callV dom n row (.kup (g.map .str)) = (v, true) := by
  obtain ⟨h1, h2⟩ := rowsS_each hg
  have ha : (g.map D.str).all (inDom dom) = true := by
    rw [List.all_map, List.all_eq_true]
    exact fun z hz => decide_eq_true (h2 z hz)
  obtain ⟨v, hv, hr, hlk, _⟩ := callV_yes ok (g := .kup (g.map .str)) rfl (by rw [List.length_map]; exact h1) ha
  rw [strsL_map] at hlk
  exact ⟨v, hr, hlk, hv⟩
theorem row_grp {dom : List Str} {n : Nat} (nm : ∀ z ∈ dom, isNameS z = true) (hn : n = 3 ∨ n = 4) {g : List Str} (hg : g ∈ rowsS dom n) : Grp (.kup (g.map .str)) := by
  obtain ⟨h1, h2⟩ := rowsS_each hg
  exact grp_k g (by omega) fun z hz => (name_ok (nm z (h2 z hz))).2
theorem res_rep {dom row : List Str} {n : Nat} (ok : VoteOk dom n row) : RepW 16000000 60 (.tup [.tup (dom.map .str), .int (n : Nat), .tup (row.map .str)]) := by
  obtain ⟨pw, nd, l1, l3⟩ := dom3_pw ok.d3
  have l81 := ok.len81
  have nr : ∀ z ∈ row, PyData.strOk z = true ∧ z.length ≤ 100 := fun z hz => by
    have := name_ok (ok.nr z hz)
    exact ⟨this.1, by omega⟩
  have nd : ∀ z ∈ dom, PyData.strOk z = true ∧ z.length ≤ 100 := fun z hz => by
    have := name_ok (ok.nm z hz)
    exact ⟨this.1, by omega⟩
  refine (repW_tup (n := 120000) (m := 5) fun e he => ?_).mono (by simp only [List.length_cons, List.length_nil]; omega) (by omega)
  simp only [List.mem_cons, List.not_mem_nil, or_false] at he
  rcases he with rfl | rfl | rfl
  · exact (repW_names (by omega) nd).mono (by omega) (by omega)
  · rcases ok.cn with rfl | rfl
    · exact repW_of (by decide +kernel)
    · exact repW_of (by decide +kernel)
  · exact (repW_names (by omega) nr).mono (by omega) (by omega)
theorem pick4 {i : Int} (h0 : 0 ≤ i) (h1 : i < 4) : ∃ m : Int, L2.atI [D.int 3, D.int 2, D.int 3, D.int 1] i = some (.int m) ∧ 1 ≤ m ∧ m ≤ 3 := by
  have h : i = 0 ∨ i = 1 ∨ i = 2 ∨ i = 3 := by omega
  rcases h with rfl | rfl | rfl | rfl
  · exact ⟨3, rfl, by decide, by decide⟩
  · exact ⟨2, rfl, by decide, by decide⟩
  · exact ⟨3, rfl, by decide, by decide⟩
  · exact ⟨1, rfl, by decide, by decide⟩
theorem deck_del {S : Store} {a L b : Addr} {k : Nat} (D : Deck S a L k) (h1 : b ≠ a) (h2 : b ≠ L) : Deck (DL.del S b) a L k := by
  obtain ⟨⟨ns, t, d, g1, g2, h⟩, n⟩ := D
  exact ⟨⟨ns, t, d, by rw [DL.del_ne (Ne.symm h1)]; exact g1, by rw [DL.del_ne (Ne.symm h2)]; exact g2, h⟩, n⟩
theorem sc_law : FnScope ["_law_script", "_law_deck_here", "_law_turn", "_law_base", "_law_count", "_law_table", "_law_vote", "_law_group", "_law_again", "_law_kept", "_law_due", "_law_told", "_law_middle_here"] ["_law_script"] (defScope sLaw) := ⟨rfl, rfl, rfl, by decide +kernel, rfl, by decide +kernel, by decide +kernel⟩
theorem ok_law (T : Facts P K mg) {aC : Addr} (hC : CTup K mg "COUNTS" aC [3, 4]) : FnD P w K mg base 6 T.law.f T.law.fd ["_law_script"] dspLaw := by
  refine fn_ofE (k := 5) T.law.F sc_law (fun ds S Q E ⟨ns, e, _⟩ => by subst e; rfl) fun cdv A outer s H E hr hgd tk hp => ?_
  refine ⟨_, (dss_cons (ds_set (i := 1) sc_law.nd (de_def (dd__law_deck T) (hr.mono (by decide)) hgd tk (da_cons (dv 0) da_nil)))
      (dss_cons (ds_for rfl (di_range1 T.bis.range (da_cons de_int da_nil)) (dg_name 2 sc_law.nd) (dss_cons (ds_par (i := 3) (j := 4) rfl sc_law.nd (da_cons (de_def (dd__law_names T) (hr.mono (by decide)) hgd tk (da_cons (dv 1) (da_cons (de_ix (de_lst (da_cons de_int (da_cons de_int (da_cons de_int (da_cons de_int da_nil))))) (de_def (dd__law_draw T) (hr.mono (by decide)) hgd tk (da_cons (dv 1) (da_cons de_int da_nil)))) da_nil))) (da_cons (de_op or_add lift_add de_int (de_def (dd__law_draw T) (hr.mono (by decide)) hgd tk (da_cons (dv 1) (da_cons de_int da_nil)))) da_nil)) (by rfl))
      (dss_cons (ds_set (i := 5) sc_law.nd (de_def (dd__law_drawn (P := P) (w := w) T) (hr.mono (by decide)) hgd tk (da_cons (dv 1) (da_cons (dv 3) (da_cons (dv 4) da_nil)))))
      (dss_frzX 5 (dss_cons (ds_set (i := 6) sc_law.nd (de_make T.Vote_ov T.Vote_mk (ok_Vote_init (P := P) (w := w) T hC) (hr.mono (by decide)) hgd T.Vote.at_ T.Vote_init.bd .nil (fun _ => .nil) tk (da_cons (dv 3) (da_cons (dv 4) (da_cons (de_tuple T.bis (de_listVals rfl T.bis (dv 5))) da_nil)))))
      (dss_cons (ds_if (dt_cmp (op_neNil hr.units0) lift_nil (de_lc (own := [("_law_group", 7)]) rfl sc_law.nd (di_keysX (dv 5)) (⟨rfl, by decide +kernel, by decide +kernel, by decide +kernel, by decide +kernel⟩ : BlkOk ["_law_script", "_law_deck_here", "_law_turn", "_law_base", "_law_count", "_law_table", "_law_vote", "_law_group", "_law_again", "_law_kept", "_law_due", "_law_told", "_law_middle_here"] (defScope sLaw) _ [("_law_group", 7)]) (fun s H C cl fp => (dg_name 7 sc_law.nd)) (fun s H C cl fp => (dts_one (dt_cmp op_ne lift_neS (de_reprV T.bis hgd hr.units (de_def (dd__law_called (P := P) (w := w) T) (hr.mono (by decide)) hgd takes_n0 (da_cons (dv 6) (da_cons (dv 7) da_nil)))) (de_reprV T.bis hgd hr.units (de_tup (da_cons de_str (da_cons (de_xgP (P := P) (w := w) rfl rfl (units1 hr) (dv 5) (dv 7)) da_nil)))) rfl)))
        (fun s H C cl fp => (dv 7))) (de_lst da_nil) rfl) (dss_one (ds_ret de_bl)) dss_nil)
      (dss_cons (ds_for rfl (di_range1 T.bis.range (da_cons de_int da_nil)) (dg_name 8 sc_law.nd) (dss_cons (ds_set (i := 7) sc_law.nd (de_def (dd__law_odd_call T) (hr.mono (by decide)) hgd tk (da_cons (dv 1) (da_cons (dv 3) (da_cons (dv 4) da_nil)))))
      (dss_cons (ds_asg (de_tup (da_cons (de_reprV T.bis hgd hr.units (dv 7)) (da_cons (de_def (dd__law_due_call (P := P) (w := w) T) (hr.mono (by decide)) hgd tk (da_cons (dv 3) (da_cons (dv 4) (da_cons (dv 5) (da_cons (dv 7) da_nil))))) da_nil))) (dg_tup rfl (gn_cons 9 sc_law.nd (gn_cons 10 sc_law.nd gn_nil))))
      (dss_cons (ds_set (i := 11) sc_law.nd (de_lst (da_cons (de_def (dd__law_called (P := P) (w := w) T) (hr.mono (by decide)) hgd tk (da_cons (dv 6) (da_cons (dv 7) da_nil))) (da_cons (de_def (dd__law_called (P := P) (w := w) T) (hr.mono (by decide)) hgd tk (da_cons (dv 6) (da_cons (dv 7) da_nil))) da_nil))))
      (dss_cons (ds_if (DW.dt (dw_or (dt_cmp op_ne lift_neS (de_reprV T.bis hgd hr.units (dv 11)) (de_reprV T.bis hgd hr.units (de_lst (da_cons (dv 10) (da_cons (dv 10) da_nil)))) rfl) (dw_or1 (dt_cmp op_ne lift_neS (de_reprV T.bis hgd hr.units (dv 7)) (dv 9) rfl)))) (dss_one (ds_ret de_bl)) dss_nil)
      (dss_one (ds_if (dt_not (dt_val (de_def (dd__law_rows_right (P := P) (w := w) T) (hr.mono (by decide)) hgd tk (da_cons (dv 1) (da_cons (dv 3) (da_cons (dv 4) (da_cons (dv 5) (da_cons (dv 6) da_nil)))))))) (dss_one (ds_ret de_bl)) dss_nil)))))) hp)
      (dss_cons (ds_asg (de_tup (da_cons (de_cmeth (de_glob (v := .ref _) T.Vote.at_ rfl (fun _ => .ref _)) T.Vote_middle.rd T.Vote_middle.cm (ok_Vote_middle (P := P) (w := w) T hC) (hr.mono (by decide)) hgd T.Vote_middle.bd tk (da_cons (dv 3) da_nil)) (da_cons (de_def (dd__law_middle (P := P) (w := w) T) (hr.mono (by decide)) hgd tk (da_cons (dv 3) da_nil)) da_nil))) (dg_tup rfl (gn_cons 12 sc_law.nd (gn_cons 10 sc_law.nd gn_nil))))
      (dss_frzX 10 (dss_cons (ds_if (dt_cmp op_ne lift_neS (de_reprV T.bis hgd hr.units (de_tup (da_cons (de_fld T.Vote.cl T.Vote_no_domain (dv 12)) (da_cons (de_fld T.Vote.cl T.Vote_no_count (dv 12)) (da_cons (de_fld T.Vote.cl T.Vote_no_results (dv 12)) da_nil))))) (de_reprV T.bis hgd hr.units (de_tup (da_cons (dv 3) (da_cons de_int (da_cons (de_tuple T.bis (de_listVals rfl T.bis (dv 10))) da_nil))))) rfl) (dss_one (ds_ret de_bl)) dss_nil)
      (dss_cons (ds_if (DW.dt (dw_or (dt_cmp (op_neNil hr.units0) lift_nil (de_lc (own := [("_law_group", 7)]) rfl sc_law.nd (di_keysX (dv 10)) (⟨rfl, by decide +kernel, by decide +kernel, by decide +kernel, by decide +kernel⟩ : BlkOk ["_law_script", "_law_deck_here", "_law_turn", "_law_base", "_law_count", "_law_table", "_law_vote", "_law_group", "_law_again", "_law_kept", "_law_due", "_law_told", "_law_middle_here"] (defScope sLaw) _ [("_law_group", 7)]) (fun s H C cl fp => (dg_name 7 sc_law.nd)) (fun s H C cl fp => (dts_one (dt_cmp op_ne lift_neS (de_callO (dv 12) T.Vote_callO (ok_Vote_call (P := P) (w := w) T) (hr.mono (by decide)) hgd T.Vote_call.bd .nil (fun _ => .nil) takes_n0 (da_cons (dv 7) da_nil)) (de_xgP (P := P) (w := w) rfl rfl (units1 hr) (dv 10) (dv 7)) rfl)))
        (fun s H C cl fp => (dv 7))) (de_lst da_nil) rfl) (dw_or1 (dt_cmp (or_neOwn T.Vote_own (ok_Vote_eq T) (room_in1 (hr.mono (by decide))) (units1 hr) hgd T.Vote_eq.bd) lift_own (dv 12) (de_cmethK (gD := kwD 1 1) (de_glob (v := .ref _) T.Vote.at_ rfl (fun _ => .ref _)) T.Vote_middle.rd T.Vote_middle.cm (ok_Vote_middle (P := P) (w := w) T hC) (hr.mono (by decide)) hgd (kb_Vote_middle T) kwD_ok tk (dk_cons (dv 3) dk_nil)) rfl)))) (dss_one (ds_ret de_bl)) dss_nil)
      (dss_one (ds_if (dt_cmp (op_neNil hr.units0) lift_nil (de_lc (own := [("_law_group", 7)]) rfl sc_law.nd (di_keysX (dv 5)) (⟨rfl, by decide +kernel, by decide +kernel, by decide +kernel, by decide +kernel⟩ : BlkOk ["_law_script", "_law_deck_here", "_law_turn", "_law_base", "_law_count", "_law_table", "_law_vote", "_law_group", "_law_again", "_law_kept", "_law_due", "_law_told", "_law_middle_here"] (defScope sLaw) _ [("_law_group", 7)]) (fun s H C cl fp => (dg_name 7 sc_law.nd)) (fun s H C cl fp => (dts_one (dt_cmp op_ne lift_neS (de_callOK (gD := kwD 1 1) (dv 6) T.Vote_callO (ok_Vote_call (P := P) (w := w) T) (hr.mono (by decide)) hgd (kb_Vote_call T) kwD_ok takes_n0 (dk_cons (dv 7) dk_nil)) (de_xgP (P := P) (w := w) rfl rfl (units1 hr) (dv 5) (dv 7)) rfl)))
        (fun s H C cl fp => (dv 7))) (de_lst da_nil) rfl) (dss_one (ds_ret de_bl)) dss_nil)))))))))))) hp)
      (dss_one (ds_ret de_bl)))), ?_⟩
  intro ds S Q E' ⟨ns, e, lz, _, em, q⟩
  subst e
  clear tk hp hgd hr
  walk_at "sf"
  refine ⟨ns, rfl, lz, em, fun a0 L S1 D1 _ => ?_⟩
  walk_at "sf"
  refine s_it1i (by omega) (by omega) ?_
  refine e_forR (n := 4) (fun j ρ S' => ∃ (v2 v3 v4 v5 v6 v7 v8 v9 v10 v11 v12 : Option D), ρ = [some (.scr (ns.map .int)), some (.ref a0), v2, v3, v4, v5, v6, v7, v8, v9, v10, v11, v12] ∧ Deck S' a0 L (4000 * (4 - j))) ?_ ?_ ⟨_, _, _, _, _, _, _, _, _, _, _, rfl, D1.mono (by omega)⟩
  · rintro ρ S' ⟨v2, v3, v4, v5, v6, v7, v8, v9, v10, v11, v12, rfl, D'⟩
    walk_at "st"
    exact q _
  · rintro J j hj ih ρ S' ⟨v2, v3, v4, v5, v6, v7, v8, v9, v10, v11, v12, rfl, D'⟩
    replace D' := D'.mono (j := 4000 * (4 - (j + 1)) + 4000) (by omega)
    generalize 4000 * (4 - (j + 1)) = k at ih D'
    walk_at "sf"
    refine ⟨a0, L, k + 3999, 4, rfl, D', by decide, by decide, fun i S2 i0 i1 D2 off2 => ?_⟩
    walk_at "sf"
    obtain ⟨m, hm, m0, m1⟩ := pick4 i0 i1
    refine s_ixL hm ?_
    walk_at "sf"
    refine ⟨a0, L, k + 3990, m, rfl, D2.mono (by omega), m0, m1, fun dom S3 dl nm pw nd D3 => ?_⟩
    have d3 : Dom3 dom := dom3_of (by omega) (by omega) pw nd
    have l3 : dom.length ≤ 3 := by omega
    walk_at "sf"
    refine ⟨a0, L, k + 3989, 2, rfl, D3.mono (by omega), by decide, by decide, fun i2 S4 j0 j1 D4 off4 => ?_⟩
    obtain ⟨n, en, hn⟩ : ∃ n : Nat, (3 : Int) + i2 = n ∧ (n = 3 ∨ n = 4) := ⟨(3 + i2).toNat, by omega, by omega⟩
    have pl := rowsS_small l3 (n := n) (by omega)
    walk_at "sf"
    rw [en]
    refine ⟨a0, L, k + 3800, dom, n, rfl, D4.mono (by omega), d3, nm, hn, fun row p S5 ok hp pa pL D5 => ?_⟩
    walk_at "sf"
    refine e_frzX rfl hp ?_
    have D5 : Deck (DL.del S5 p) a0 L (k + 3800) := deck_del D5 pa pL
    generalize DL.del S5 p = S6 at D5
    walk_at "sf"
    refine ⟨_, rfl, ?_⟩
    walk_at "sf"
    refine mk_vote ok fun av S7 h1 h2 => ⟨rfl, _, _, h1, ?_⟩
    rw [h2]
    have hkeys : ∀ n, ((rowsS dom n).map keyT).map (fun k => D.kup (k.map keyD)) = (rowsS dom n).map encK := fun n => by
      rw [List.map_map]
      refine List.map_congr_left fun g _ => ?_
      show D.kup ((keyT g).map keyD) = _
      unfold keyT
      rw [List.map_map]
      rfl
    walk_at "st"
    refine ⟨_, _, _, rfl, ?_⟩
    rw [hkeys]
    refine ⟨by rw [List.length_map, sizeLine_eq]; omega, ?_⟩
    refine e_lcK (fun items acc S' => acc = [] ∧ ∃ rest : List (List Str), items = rest.map encK ∧ (∀ g ∈ rest, g ∈ rowsS dom n) ∧ Deck S' a0 L (k + 3700)) ?_ ?_ _ _ _ ⟨rfl, rowsS dom n, rfl, fun g hg => hg, D5.mono (by omega)⟩
    rotate_left
    · rintro J2 d r ih2 acc S8 ⟨rfl, rest, hi, hr, D8⟩
      match rest, hi with
      | g :: rest, hi =>
      rw [List.map_cons] at hi
      cases hi
      have hg := hr g List.mem_cons_self
      obtain ⟨v, hv, hlk, hcv⟩ := call_row ok hg
      refine ⟨_, rfl, ?_⟩
      walk_at "st"
      refine ⟨dom, n, row, _, rfl, ok, row_grp nm hn hg, fun S9 e9 => ?_⟩
      walk_at "st"
      refine s_reprV (told1_rep (toldV_rep ok)) ?_
      walk_at "st"
      refine s_xgT (f := D.str) (.inl rfl) (.inr rfl) hlk ?_
      walk_at "st"
      have et : toldV (callV dom n row (encK g)) = .tup [.str "told", .str v] := by unfold toldV; rw [show callV dom n row (encK g) = (v, true) from hcv]; rfl
      rw [et]
      refine s_reprV (by rw [← et]; exact told1_rep (toldV_rep ok)) ?_
      refine nes_same ?_
      walk_at "st"
      exact ih2 _ _ ⟨rfl, rest, rfl, fun g2 h2 => hr g2 (List.mem_cons_of_mem _ h2), D8.ext e9⟩
    rintro acc S8 ⟨rfl, rest, hi, hr, D8⟩
    walk_at "st"
    refine s_it1i (by omega) (by omega) ?_
    refine e_forR (n := 8) (fun j2 ρ S' => ∃ (v7 v8 v9 v10 v11 : Option D), ρ = [some (.scr (ns.map .int)), some (.ref a0), some (.int (j : Nat)), some (.tup (dom.map .str)), some (.int n), some (votesX (hfX P w) dom n row), some (voteD T.Vote.C dom n row (votesX (hfX P w) dom n row)), v7, v8, v9, v10, v11, v12] ∧ Deck S' a0 L (k + 300 * (8 - j2))) ?_ ?_ ⟨_, _, _, _, _, rfl, D8.mono (by omega)⟩
    rotate_left
    · rintro J3 j2 hj2 ih3 ρ S9 ⟨v7, v8, v9, v10, v11, rfl, D9⟩
      replace D9 := D9.mono (j := k + 300 * (8 - (j2 + 1)) + 300) (by omega)
      generalize k + 300 * (8 - (j2 + 1)) = k2 at ih3 D9
      walk_at "st"
      refine ⟨a0, L, k2 + 250, dom, n, rfl, D9.mono (by omega), d3, nm, hn, fun g S10 gr D10 => ?_⟩
      walk_at "st"
      have rg : RepW 16000000 60 g := gr.rep.mono (by decide) (by decide)
      refine s_reprV rg ?_
      walk_at "st"
      refine ⟨dom, n, row, g, rfl, ok, gr.grp, ?_⟩
      walk_at "st"
      refine ⟨dom, n, row, g, rfl, ok, gr.grp, fun S11 e11 => ?_⟩
      walk_at "st"
      refine ⟨dom, n, row, g, rfl, ok, gr.grp, fun S12 e12 => ?_⟩
      walk_at "st"
      refine s_reprV (told2_rep (toldV_rep ok)) ?_
      walk_at "st"
      refine s_reprV (told2_rep (toldV_rep ok)) ?_
      refine nes_same ?_
      walk_at "st"
      refine s_reprV rg ?_
      walk_at "st"
      refine nes_same ?_
      walk_at "st"
      refine ⟨a0, L, k2, dom, n, row, rfl, ((D10.ext e11).ext e12).mono (by omega), ok, fun S13 D13 => ?_⟩
      walk_at "st"
      exact ih3 _ _ ⟨_, _, _, _, _, rfl, D13⟩
    rintro ρ S9 ⟨v7, v8, v9, v10, v11, rfl, D9⟩
    walk_at "st"
    have okm := mid_ok d3 nm
    have pl3 := rowsS_small l3 (n := 3) (by omega)
    refine ⟨rfl, ?_⟩
    walk_at "st"
    refine ⟨dom, rfl, d3, nm, ?_⟩
    walk_at "st"
    refine ⟨dom, rfl, d3, nm, fun p2 S10 hp2 e10 hS10 => ?_⟩
    obtain ⟨pa2, pL2⟩ := D9.a_some hp2
    walk_at "st"
    refine e_frzX rfl hS10 ?_
    have D10 : Deck (DL.del S10 p2) a0 L k := deck_del ((D9.ext e10).mono (by omega)) pa2 pL2
    generalize DL.del S10 p2 = S11 at D10
    walk_at "st"
    refine s_fldP vfl vlk_dom ?_
    walk_at "st"
    refine s_fldP vfl vlk_cnt ?_
    walk_at "st"
    refine s_fldP vfl vlk_res ?_
    walk_at "st"
    refine s_reprV (res_rep okm) ?_
    walk_at "st"
    refine ⟨_, rfl, ?_⟩
    walk_at "st"
    refine s_reprV (res_rep okm) ?_
    refine nes_same ?_
    walk_at "st"
    refine ⟨_, _, _, rfl, ?_⟩
    rw [hkeys]
    refine ⟨by rw [List.length_map, sizeLine_eq]; omega, ?_⟩
    refine e_lcK (fun items acc S' => acc = [] ∧ S' = S11 ∧ ∃ rest : List (List Str), items = rest.map encK ∧ ∀ g ∈ rest, g ∈ rowsS dom 3) ?_ ?_ _ _ _ ⟨rfl, rfl, rowsS dom 3, rfl, fun g hg => hg⟩
    rotate_left
    · rintro J2 d r ih2 acc S8 ⟨rfl, rfl, rest, hi, hr⟩
      match rest, hi with
      | g :: rest, hi =>
      rw [List.map_cons] at hi
      cases hi
      have hg := hr g List.mem_cons_self
      obtain ⟨v, hv, hlk, hcv⟩ := call_row okm hg
      refine ⟨_, rfl, ?_⟩
      walk_at "st"
      refine ⟨by rw [vfl]; rfl, ?_⟩
      walk_at "st"
      refine ⟨by rw [vfl]; rfl, dom, 3, (midRow dom), _, rfl, okm, row_grp nm (.inl rfl) hg, fun x hx hxr => ?_, fun x hx => ?_⟩
      rotate_left
      · rw [show callV dom 3 (midRow dom) (encK g) = (v, true) from hcv] at hx
        cases hx
      rw [show callV dom 3 (midRow dom) (encK g) = (v, true) from hcv] at hx
      cases hx
      walk_at "st"
      refine s_xgT (f := D.str) (.inl rfl) (.inr rfl) hlk ?_
      refine nes_same ?_
      walk_at "st"
      exact ih2 _ _ ⟨rfl, rfl, rest, rfl, fun g2 h2 => hr g2 (List.mem_cons_of_mem _ h2)⟩
    rintro acc S8 ⟨rfl, rfl, rest, hi, hr⟩
    walk_at "st"
    refine ⟨rfl, ?_⟩
    walk_at "st"
    refine ⟨dom, rfl, d3, nm, ?_⟩
    refine own_vcmp okm okm ?_
    have hs : sameB dom 3 (midRow dom) dom 3 (midRow dom) = true := by unfold sameB; simp
    rw [hs]
    walk_at "st"
    refine ⟨_, _, _, rfl, ?_⟩
    rw [hkeys]
    refine ⟨by rw [List.length_map, sizeLine_eq]; omega, ?_⟩
    refine e_lcK (fun items acc S' => acc = [] ∧ S' = S8 ∧ ∃ rest : List (List Str), items = rest.map encK ∧ ∀ g ∈ rest, g ∈ rowsS dom n) ?_ ?_ _ _ _ ⟨rfl, rfl, rowsS dom n, rfl, fun g hg => hg⟩
    rotate_left
    · rintro J2 d r ih2 acc S8 ⟨rfl, rfl, rest, hi, hr⟩
      match rest, hi with
      | g :: rest, hi =>
      rw [List.map_cons] at hi
      cases hi
      have hg := hr g List.mem_cons_self
      obtain ⟨v, hv, hlk, hcv⟩ := call_row ok hg
      refine ⟨_, rfl, ?_⟩
      walk_at "st"
      refine ⟨by rw [vfl]; rfl, ?_⟩
      walk_at "st"
      refine ⟨by rw [vfl]; rfl, dom, n, row, _, rfl, ok, row_grp nm hn hg, fun x hx hxr => ?_, fun x hx => ?_⟩
      rotate_left
      · rw [show callV dom n row (encK g) = (v, true) from hcv] at hx
        cases hx
      rw [show callV dom n row (encK g) = (v, true) from hcv] at hx
      cases hx
      walk_at "st"
      refine s_xgT (f := D.str) (.inl rfl) (.inr rfl) hlk ?_
      refine nes_same ?_
      walk_at "st"
      exact ih2 _ _ ⟨rfl, rfl, rest, rfl, fun g2 h2 => hr g2 (List.mem_cons_of_mem _ h2)⟩
    rintro acc S8 ⟨rfl, rfl, rest, hi, hr⟩
    walk_at "st"
    exact ih _ _ ⟨_, _, _, _, _, _, _, _, _, _, _, rfl, D10⟩

end
end K30

set_option maxRecDepth 100000
namespace K30
open PySem PySem.Spec L2 DL
theorem ctup_of {K : PySem.W.Frag} {mg : Str → Option Value} {n : Str} {a : Addr} {i j : Int} {t1 t2 : Tok} {dd : Option Addr} {n2 : Nat} {sl : Array (Option Value)} (h1 : mg n = some (.ref a)) (h2 : K.lookup a = some ⟨.type "tuple", dd, .seq #[.int i t1, .int j t2] n2, sl⟩) : CTup K mg n a [i, j] :=
  ⟨h1, fun H => .inr ⟨_, #[.int i t1, .int j t2], n2, h2, rfl, rfl, by rw [sizeLine_eq]; simp, .cons ⟨t1, rfl⟩ (.cons ⟨t2, rfl⟩ .nil)⟩⟩
def top_level : Nat := 6
theorem fin {P : Program} {w : World} {K : PySem.W.Frag} {mg : Str → Option Value} {fa : Addr} {aC : Addr} {t1 t2 : Tok} {dd : Option Addr} {n2 : Nat} {sl : Array (Option Value)} (hmg : mg "law" = some (.ref fa)) (T : Facts P K mg) (h1 : mg "COUNTS" = some (.ref aC)) (h2 : K.lookup aC = some ⟨.type "tuple", dd, .seq #[.int 3 t1, .int 4 t2] n2, sl⟩) :
    ∃ fd : FuncData, (∀ (s : Shared) (u : Value), BindsTo s fd ⟨[u], []⟩ [("_law_script", u)]) ∧ ∀ base : Heap, K.In base → base.Ns mainGlobals mg → (∀ p ∈ ([] : List (Addr × Addr)), LamX.TabB base mg p.1 p.2) → FnD P w K mg base top_level fa fd ["_law_script"] dspLaw := by
  have e := T.law.at_.symm.trans hmg
  have e : T.law.f = fa := by injection e with e; injection e
  subst e
  exact ⟨T.law.fd, fun s u => T.law.bu s [u] rfl, fun base _ _ tb => ok_law T (ctup_of h1 h2)⟩
end K30
open PySem PySem.W PyProof.Rows in
set_option maxRecDepth 100000 in
set_option maxHeartbeats 0 in
theorem PySem.Challenge.cw_clashnumber_k30_votes_called_holds : PySem.Challenge.rw_clashnumber_k30_votes_called.Holds := by
  w_on; o_law; k_head; (case hw => w_witness2)
  k_fill
  refine DL.walk_ofD (l := PySem.Challenge.rw_clashnumber_k30_votes_called) (k := K30.top_level) (x := "_law_script") [] rfl rfl ⟨rfl, by decide, by decide⟩ (fun w h Y => PySem.W.kIn_of Y) ?T ?O ?L ?F
  case T => exact fun w h Y p hp => absurd hp List.not_mem_nil
  case O => intro w; first | rfl | decide +kernel | kernel_rfl | k_is
  case L => intro w; first | rfl | decide +kernel | kernel_rfl | k_is
  case F =>
    intro w mg fa h KX G hmg
    refine' K30.fin (P := PySem.Challenge.pw_clashnumber_k30_votes_called) hmg (K30.facts_mk KX G ?z1 ?z2 ?z3 ?z4 ?z5 ?z6 ?z7 ?z8 ?z9 ?z10 ?z11 ?z12 ?z13 ?z14 ?z15 ?z16 ?z17 ?z18 ?z19 ?z20 ?z21 ?z22 ?z23 ?z24 ?z25 ?z26 ?z27 ?z28 ?z29 ?z30 ?z31 ?z32 ?z33 ?z34 ?z35 ?z36 ?z37 ?z38 ?z39 ?z40 ?z41 ?z42 ?z43 ?z44 ?z45 ?z46 ?z47 ?z48 ?z49 ?z50 ?z51 ?z52 ?z53 ?z54 ?z55 ?z56 ?z57 ?z58 ?z59 ?z60 ?z61 ?z62 ?z63 ?z64 ?z65 ?z66 ?z67 ?z68 ?z69 ?z70 ?z71 ?z72 ?z73 ?z74 ?z75 ?z76 ?z77 ?z78 ?z79 ?z80 ?z81 ?z82 ?z83 ?z84 ?z85 ?z86 ?z87 ?z88 ?z89 ?z90 ?z91 ?z92 ?z93 ?z94 ?z95 ?z96 ?z97 ?z98 ?z99 ?z100 ?z101 ?z102 ?z103 ?z104 ?z105 ?z106 ?z107 ?z108 ?z109 ?z110 ?z111 ?z112 ?z113 ?z114 ?z115 ?z116 ?z117 ?z118 ?z119 ?z120 ?z121 ?z122 ?z123 ?z124 ?z125 ?z126 ?z127 ?z128 ?z129 ?z130 ?z131 ?z132 ?z133 ?z134 ?z135 ?z136 ?z137 ?z138 ?z139 ?z140 ?z141 ?z142 ?z143 ?z144 ?z145 ?z146 ?z147 ?z148 ?z149 ?z150 ?z151 ?z152 ?z153 ?z154 ?z155 ?z156 ?z157 ?z158 ?z159 ?z160 ?z161 ?z162 ?z163 ?z164 ?z165 ?z166 ?z167 ?z168 ?z169 ?z170 ?z171 ?z172 ?z173 ?z174 ?z175 ?z176) (PySem.W.mg_of KX G ?y1) ?y2
    (case z1 => k_is)
    (case z2 => k_is)
    (case z3 => k_is)
    (case z4 => k_is)
    (case z5 => k_is)
    (case z6 => k_is)
    (case z7 => k_is)
    (case z8 => k_is)
    (case z9 => k_is)
    (case z10 => k_is)
    (case z11 => k_is)
    (case z12 => k_is)
    (case z13 => k_is)
    (case z14 => k_is)
    (case z15 => k_is)
    (case z16 => k_is)
    (case z17 => k_is)
    (case z18 => k_is)
    (case z19 => k_is)
    (case z20 => k_is)
    (case z21 => k_is)
    (case z22 => k_is)
    (case z23 => first | k_is | rfl | (with_unfolding_all rfl) | decide +kernel | kernel_rfl)
    (case z24 => k_is)
    (case z25 => first | k_is | rfl | (with_unfolding_all rfl) | decide +kernel | kernel_rfl)
    (case z26 => first | k_is | rfl | (with_unfolding_all rfl) | decide +kernel | kernel_rfl)
    (case z27 => k_is)
    (case z28 => k_is)
    (case z29 => k_is)
    (case z30 => first | rfl | decide +kernel | kernel_rfl)
    (case z31 => k_is)
    (case z32 => k_is)
    (case z33 => k_is)
    (case z34 => k_is)
    (case z35 => k_is)
    (case z36 => k_is)
    (case z37 => k_is)
    (case z38 => k_is)
    (case z39 => k_is)
    (case z40 => k_is)
    (case z41 => k_is)
    (case z42 => first | rfl | exact Eq.refl _)
    (case z43 => first | rfl | decide +kernel)
    (case z44 => ks_is)
    (case z45 => k_is)
    (case z46 => first | rfl | decide +kernel)
    (case z47 => k_is)
    (case z48 => k_is)
    (case z49 => k_is)
    (case z50 => k_is)
    (case z51 => first | k_is | rfl)
    (case z52 => k_is)
    (case z53 => k_is)
    (case z54 => k_is)
    (case z55 => k_is)
    (case z56 => k_is)
    (case z57 => k_is)
    (case z58 => k_is)
    (case z59 => k_is)
    (case z60 => k_is)
    (case z61 => k_is)
    (case z62 => k_is)
    (case z63 => k_is)
    (case z64 => k_is)
    (case z65 => k_is)
    (case z66 => k_is)
    (case z67 => k_is)
    (case z68 => k_is)
    (case z69 => k_is)
    (case z70 => k_is)
    (case z71 => k_is)
    (case z72 => k_is)
    (case z73 => k_is)
    (case z74 => k_is)
    (case z75 => k_is)
    (case z76 => k_is)
    (case z77 => k_is)
    (case z78 => k_is)
    (case z79 => k_is)
    (case z80 => k_is)
    (case z81 => k_is)
    (case z82 => k_is)
    (case z83 => k_is)
    (case z84 => k_is)
    (case z85 => k_is)
    (case z86 => k_is)
    (case z87 => k_is)
    (case z88 => k_is)
    (case z89 => k_is)
    (case z90 => k_is)
    (case z91 => k_is)
    (case z92 => k_is)
    (case z93 => k_is)
    (case z94 => first | k_is | rfl | decide +kernel | kernel_rfl)
    (case z95 => first | rfl | decide +kernel | kernel_rfl | k_is)
    (case z96 => first | rfl | decide +kernel | kernel_rfl | k_is)
    (case z97 => k_is)
    (case z98 => k_is)
    (case z99 => k_is)
    (case z100 => k_is)
    (case z101 => k_is)
    (case z102 => k_is)
    (case z103 => k_is)
    (case z104 => k_is)
    (case z105 => k_is)
    (case z106 => k_is)
    (case z107 => k_is)
    (case z108 => k_is)
    (case z109 => k_is)
    (case z110 => k_is)
    (case z111 => k_is)
    (case z112 => k_is)
    (case z113 => k_is)
    (case z114 => k_is)
    (case z115 => k_is)
    (case z116 => k_is)
    (case z117 => k_is)
    (case z118 => k_is)
    (case z119 => k_is)
    (case z120 => k_is)
    (case z121 => k_is)
    (case z122 => k_is)
    (case z123 => k_is)
    (case z124 => k_is)
    (case z125 => k_is)
    (case z126 => k_is)
    (case z127 => k_is)
    (case z128 => k_is)
    (case z129 => k_is)
    (case z130 => k_is)
    (case z131 => k_is)
    (case z132 => k_is)
    (case z133 => k_is)
    (case z134 => k_is)
    (case z135 => k_is)
    (case z136 => k_is)
    (case z137 => k_is)
    (case z138 => k_is)
    (case z139 => k_is)
    (case z140 => k_is)
    (case z141 => k_is)
    (case z142 => k_is)
    (case z143 => k_is)
    (case z144 => k_is)
    (case z145 => k_is)
    (case z146 => k_is)
    (case z147 => k_is)
    (case z148 => k_is)
    (case z149 => k_is)
    (case z150 => k_is)
    (case z151 => k_is)
    (case z152 => k_is)
    (case z153 => k_is)
    (case z154 => k_is)
    (case z155 => k_is)
    (case z156 => k_is)
    (case z157 => k_is)
    (case z158 => k_is)
    (case z159 => k_is)
    (case z160 => k_is)
    (case z161 => k_is)
    (case z162 => k_is)
    (case z163 => k_is)
    (case z164 => k_is)
    (case z165 => k_is)
    (case z166 => k_is)
    (case z167 => k_is)
    (case z168 => k_is)
    (case z169 => k_is)
    (case z170 => k_is)
    (case z171 => k_is)
    (case z172 => k_is)
    (case z173 => k_is)
    (case z174 => k_is)
    (case z175 => k_is)
    (case z176 => k_is)
    (case y1 => first | k_is | rfl | (with_unfolding_all rfl) | decide +kernel | kernel_rfl)
    (case y2 => first | k_is | rfl | (with_unfolding_all rfl) | decide +kernel | kernel_rfl)
